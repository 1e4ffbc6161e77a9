import PyProof.Rows.All
import Wide.All
import OpenK.AllK
import Wide.FinOn
import PySem.Challenge.RW_ov0074_01
open PySem PySem.W PyProof.Rows PySem.Spec PySem.Calls
set_option Elab.async false
set_option maxRecDepth 100000
set_option rowWalk.seconds 0
set_option maxHeartbeats 8000000
namespace Mine
example : True := by (w_top off; exact True.intro)
theorem hd (H : ∀ {p q : Program} {loose : List Str} {Xt : Shared → Bool} {α : Type} {Yf : Shared → α} {Ya : World → α} {N : Nat} {g0 : Bool}, LeftO p q loose Xt Yf Ya N g0) (W : ∀ P : Prop, P) : PySem.Challenge.rw_ov0074_01.row.Holds := by
  w_on
  refine And.right (a := LeftO _ _ _ _ _ _ _ _ ∧ _ ∧ _) ⟨⟨?hl, ?hw, ?hc⟩, by k_head⟩
  case hl => exact H
  all_goals exact W _

example : True := by (w_top off; exact True.intro)
theorem fin_done {tb : String → Option Builtin} {p : Program} {w : World} {n₀ : Nat} {ann : Option Value} {s : Shared} {c : Code} {pos q : Pos} :
    topRun tb p w n₀ ann 2 s ⟨doneF .next, c, pos, [topFrame q]⟩ = some s := by
  obtain ⟨h, g, d, k, os⟩ := s
  rfl
theorem run_tree {p : Program} {w : World} {s₀ : Shared} {m₀ N n0 n1 n2 : Nat} {ann : Option Value} {b : List Stmt} {env : Env} {cE : Code} {p0 p1 q : Pos} {sa : Shared} {st : SharedT} {β : Type} {F : Shared → β} {good : β}
    (pre : topGo treeTable p w m₀ ann n0 s₀ (topStub p) = some (sa, ⟨denote treeTable (.body b env), cE, p0, [topFrame q]⟩))
    (block : segRun treeTable p w m₀ ann 1 n1 sa (blockOf b env cE p0 [topFrame q]) = some (.next, st.abs, cE, p1))
    (pieces : ∃ r, segRunT treeTable p w m₀ ann 1 n2 st (piecesOf b env cE p1 [topFrame q]) = some r ∧ r.1 = .next ∧ r.2.2.1 = cE ∧ F r.2.1.abs = good)
    (hN : n0 + (n1 + (n2 + 2)) ≤ N) : ∃ s₁, topRun treeTable p w m₀ ann N s₀ (topStub p) = some s₁ ∧ F s₁ = good := by
  obtain ⟨⟨f, s', c, pos⟩, e, e1, e2, e3⟩ := pieces
  dsimp only at e1 e2 e3
  subst e1 e2
  refine ⟨s'.abs, ?_, e3⟩
  have r1 := segRun_of e
  have r2 := piece_app (rest := []) (q := q) r1 (piece_nil (N := 2) fin_done)
  rw [List.append_nil] at r2
  have r3 := go_top pre (piece_block block r2)
  have r4 := topRun_mono (N - (n0 + (n1 + (n2 + 2)))) _ _ _ _ r3
  rw [show n0 + (n1 + (n2 + 2)) + (N - (n0 + (n1 + (n2 + 2)))) = N by omega] at r4
  exact r4
theorem left_of {p q : Program} {loose : List Str} {Xt : Shared → Bool} {α : Type} {Yf : Shared → α} {Ya : World → α} {N : Nat} {g0 : Bool} {H₀ : Params → Heap} {gs₀ : Array GenState} {d₀ : Drawn} {k₀ m₀ : Nat} {ann : Option Value}
    (open_ : ∀ w : World, (fencedOpening treeTable p w N).map (fun s => (s.heap, s.gens, s.drawn, s.toks)) = some (H₀ w.params, gs₀, d₀, k₀))
    (size : ∀ w : World, ((H₀ w.params).isNs mainGlobals && gs₀.size == 0, (H₀ w.params).objs.size, (H₀ w.params).nsMap mainGlobals (Str.ofString "__annotations__")) = (true, m₀, ann))
    (run : ∀ (w : World) (os : OsState), ∃ s₁, topRun treeTable p w m₀ ann N ⟨H₀ w.params, gs₀, d₀, k₀, os⟩ (topStub p) = some s₁ ∧
      ((staticsOk (importedModules p.main.body) (H₀ w.params) s₁.heap && namesBound p s₁.heap && gensDone s₁ && laidKept (H₀ w.params) s₁.heap),
        openSeen q loose (importedModules p.main.body) Xt g0 s₁, Yf s₁) = (true, openGood q loose, Ya w)) : LeftO p q loose Xt Yf Ya N g0 := fun w => by
  obtain ⟨⟨h, gs, d, k, os⟩, e, e'⟩ := Option.map_eq_some_iff.mp (open_ w)
  obtain ⟨rfl, rfl, rfl, rfl⟩ : h = H₀ w.params ∧ gs = gs₀ ∧ d = d₀ ∧ k = k₀ := by simpa using e'
  obtain ⟨z1, z2, z3⟩ : _ ∧ _ ∧ _ := by simpa only [Prod.mk.injEq] using size w
  obtain ⟨s₁, r, l⟩ := run w os
  obtain ⟨l1, l2, l3⟩ : _ ∧ _ ∧ _ := by simpa only [Prod.mk.injEq] using l
  have t : topFrom treeTable p w N ⟨H₀ w.params, gs, d, k, os⟩ = some s₁ := by
    unfold topFrom
    dsimp only
    rw [z1]
    dsimp only
    rw [z2, z3, r]
    dsimp only [Option.bind]
    rw [l1]
  show (openEnds treeTable p w N).map _ = _
  unfold openEnds
  rw [e]
  dsimp only [Option.bind]
  rw [t, Option.map_some, l2, l3]

example : True := by (w_top off; exact True.intro)
abbrev pP : Program := PySem.Challenge.pw_ov0074_01
abbrev env0 : Env := { scope := pP.main.scope, locals := mainNs, globals := mainNs, cells := [], code := Value.ref 13, frame := some 14 }
abbrev q0 : Pos := { line := 0, col := 0, endLine := 0, endCol := 0 }
abbrev cE0 : Code := .body (behindTheImports pP) env0
noncomputable def s00 (w : World) (os : OsState) : Shared := { heap := boot_heap w.params, gens := #[], drawn := boot_drawn, toks := boot_toks, os := os }
noncomputable def Sa (w : World) (os : OsState) : Shared := match topGo treeTable pP w 11 (some (Value.ref 6)) 12 (s00 w os) (topStub pP) with
  | some (s, _) => s
  | none => s00 w os
theorem pre0 (w : World) (os : OsState) : topGo treeTable pP w 11 (some (Value.ref 6)) 12 (s00 w os) (topStub pP) = some (Sa w os, ⟨denote treeTable cE0, cE0, q0, [topFrame q0]⟩) := by
  kernel_rfl
noncomputable def gO (w : World) (os : OsState) (i : Nat) : Obj := ((Sa w os).heap.objs.toList[i]?).getD default
def tr (f : Nat → Obj) : BT :=
  .node (f 0) (.node (f 1) (.node (f 3) (.node (f 7) .nil .nil) (.node (f 11) .nil .nil)) (.node (f 5) (.node (f 9) .nil .nil) (.node (f 13) .nil .nil)))
    (.node (f 2) (.node (f 4) (.node (f 8) .nil .nil) (.node (f 12) .nil .nil)) (.node (f 6) (.node (f 10) .nil .nil) (.node (f 14) .nil .nil)))
noncomputable def St (w : World) (os : OsState) : SharedT := { tree := tr (gO w os), n := 15, life := {}, gens := #[], drawn := {}, toks := 187, os := os }
theorem block0 (w : World) (os : OsState) : segRun treeTable pP w 11 (some (Value.ref 6)) 1 1 (Sa w os) (blockOf (behindTheImports pP) env0 cE0 q0 [topFrame q0]) = some (.next, (St w os).abs, cE0, q0) := by
  kernel_rfl
theorem open0 (w : World) : (fencedOpening treeTable pP w 5372).map (fun s => (s.heap, s.gens, s.drawn, s.toks)) = some (boot_heap w.params, #[], boot_drawn, boot_toks) :=
  boot_open (p := pP) (N := 5372) (by kernel_rfl) (by kernel_rfl) (fun _ => by kernel_rfl) w
theorem size0 (w : World) : ((boot_heap w.params).isNs mainGlobals && (#[] : Array GenState).size == 0, (boot_heap w.params).objs.size, (boot_heap w.params).nsMap mainGlobals (Str.ofString "__annotations__")) = (true, 11, some (Value.ref 6)) := by
  kernel_rfl

noncomputable def adr : List Addr := (Mine.hd.heap_1 { strHash := fun _ => 0, shareClass := fun _ => 0, mergeTok := fun t => t, idOf := fun _ => 0, idOfShared := fun _ _ => 0, followText := fun _ => false, idOfImm := fun _ => 0 }).map (·.1)
theorem adr_is (P : Params) : adr = (Mine.hd.heap_1 P).map (·.1) := by kernel_rfl
noncomputable abbrev hk : Hook := kHook Mine.hd.heap_1 adr adr_is
abbrev loose0 : List Str := [Str.ofString "number_text"]
noncomputable abbrev xt0 : Shared → Bool := fun s => xlAt Mine.hd.view_1 [] s && recOk (RowW.records PySem.Challenge.rw_ov0074_01.row.toRowW) s
theorem ran {R A B C : Type} {o : Option R} {f : R → A} {g : R → B} {a : A} {b : B} (h1 : o.map f = some a) (h2 : o.map g = some b) : ∃ r, o = some r ∧ f r = a ∧ g r = b := by
  obtain ⟨r, e, e1⟩ := Option.map_eq_some_iff.mp h1
  rw [e] at h2
  exact ⟨r, e, e1, Option.some.inj h2⟩
theorem look1 (w : World) (os : OsState) : (Fast.tw10110043849684766642 Fast.tw14364793385576792824 pP w 11 (some (Value.ref 6)) 1 3000 (St w os) (piecesOf (behindTheImports pP) env0 cE0 q0 [topFrame q0])).map (fun r => (r.1, r.2.2.1, staticsOk (importedModules pP.main.body) (boot_heap w.params) r.2.1.abs.heap && namesBound pP r.2.1.abs.heap && gensDone r.2.1.abs && laidKept (boot_heap w.params) r.2.1.abs.heap, Hook.obs hk r.2.1.abs)) = some (.next, cE0, true, Hook.val hk w) := by
  kernel_rfl
theorem look2 (w : World) (os : OsState) : (Fast.tw10110043849684766642 Fast.tw14364793385576792824 pP w 11 (some (Value.ref 6)) 1 3000 (St w os) (piecesOf (behindTheImports pP) env0 cE0 q0 [topFrame q0])).map (fun r => (r.1, r.2.2.1, (openSeen Mine.hd.view_1 loose0 (importedModules pP.main.body) xt0 true r.2.1.abs).1, (openSeen Mine.hd.view_1 loose0 (importedModules pP.main.body) xt0 true r.2.1.abs).2.1)) = some (.next, cE0, (openGood Mine.hd.view_1 loose0).1, (openGood Mine.hd.view_1 loose0).2.1) := by
  kernel_rfl
theorem look3 (w : World) (os : OsState) : (Fast.tw10110043849684766642 Fast.tw14364793385576792824 pP w 11 (some (Value.ref 6)) 1 3000 (St w os) (piecesOf (behindTheImports pP) env0 cE0 q0 [topFrame q0])).map (fun r => (r.1, r.2.2.1, (openSeen Mine.hd.view_1 loose0 (importedModules pP.main.body) xt0 true r.2.1.abs).2.2)) = some (.next, cE0, (openGood Mine.hd.view_1 loose0).2.2) := by
  kernel_rfl
theorem looked (w : World) (os : OsState) : ∃ r, segRunT treeTable pP w 11 (some (Value.ref 6)) 1 3000 (St w os) (piecesOf (behindTheImports pP) env0 cE0 q0 [topFrame q0]) = some r ∧ r.1 = .next ∧ r.2.2.1 = cE0 ∧
    ((staticsOk (importedModules pP.main.body) (boot_heap w.params) r.2.1.abs.heap && namesBound pP r.2.1.abs.heap && gensDone r.2.1.abs && laidKept (boot_heap w.params) r.2.1.abs.heap),
        openSeen Mine.hd.view_1 loose0 (importedModules pP.main.body) xt0 true r.2.1.abs, Hook.obs hk r.2.1.abs) = (true, openGood Mine.hd.view_1 loose0, Hook.val hk w) := by
  rw [Fast.te10110043849684766642, Fast.te14364793385576792824]
  obtain ⟨r, e, e1⟩ := Option.map_eq_some_iff.mp (look1 w os)
  have h2 := look2 w os
  have h3 := look3 w os
  rw [e] at h2 h3
  have h2 := Option.some.inj h2
  have h3 := Option.some.inj h3
  have a1 := congrArg Prod.fst e1
  have a2 := congrArg (fun x => x.2.1) e1
  have a3 := congrArg (fun x => x.2.2.1) e1
  have a4 := congrArg (fun x => x.2.2.2) e1
  have b1 := congrArg (fun x => x.2.2.1) h2
  have b2 := congrArg (fun x => x.2.2.2) h2
  have c1 := congrArg (fun x => x.2.2) h3
  exact ⟨r, e, a1, a2, Prod.ext a3 (Prod.ext (Prod.ext b1 (Prod.ext b2 c1)) a4)⟩
theorem left : LeftO pP Mine.hd.view_1 loose0 xt0 (Hook.obs hk) (Hook.val hk) 5372 :=
  left_of open0 size0 fun w os => by
    obtain ⟨r, e, a1, a2, a3⟩ := looked w os
    exact run_tree (pre0 w os) (block0 w os) ⟨r, e, a1, a2, a3⟩ (by decide)

example : True := by (w_top off; exact True.intro)
theorem f_said : PySem.Challenge.rw_ov0074_01.wellSaid = true := by kernel_rfl
theorem f_ok : (chainsOk Mine.hd.view_1 && opensWell PySem.Challenge.rw_ov0074_01.row.prog && (frees PySem.Challenge.rw_ov0074_01.row.toRowW && PySem.Challenge.rw_ov0074_01.row.within.isEmpty)) = true := by decide +kernel
theorem f_bare : PySem.Challenge.rw_ov0074_01.row.prog.bare := ⟨rfl, rfl, rfl, rfl, rfl, by decide +kernel⟩
theorem f_wit : PySem.Challenge.rw_ov0074_01.row.toRowW.promised := by w_witness2

example : True := by (w_top off; exact True.intro)
abbrev Led := List (Addr × Obj)
abbrev tupO (vs : List Value) (c : Nat) : Obj := { cls := .type "tuple", data := .seq vs.toArray c }

/-- what a call of the def at f hands back, from any caller's frame: a plain value, the ledger as it was -/
def SpecV (w : World) (mean : ExcName → Option Value) (mg mb : Str → Option Value) (f : Addr) (dpn unn : Nat) (vs : List Value) (Pre : Led → Prop) (Post : Value → Prop) : Prop :=
  ∀ (dp un : Nat) (gd : Option (List Code)) (cn : Str) (cs : Scope) (a : Addr) (ccd : Value) (cl : List (Str × Addr)) (outer : List Env) (A₀ : Around) (base h₀ : Heap) (L : Addr) (m : Str → Option Value) (news : Led) (s : Shared)
    (Q E : Value → Shared → Prop),
    Below A₀ base outer h₀ → Fr h₀ L s.heap m → (Mine.hd.heap_1 w.params).In h₀ → News h₀ L s.heap news →
    Top Mine.hd.view_1 (looseW Mine.hd.view_1 [Str.ofString "number_text"]) mean mg mb h₀ → cs.kind = .function → Pre news → dp + dpn < recursionLimit → un + unn < cLine →
    (∀ r h' tk', Fr h₀ L h' m → News h₀ L h' news → Post r → Q r { s with heap := h', toks := tk' }) →
    wpAny (model PySem.Challenge.rw_ov0074_01.row.prog w) (ktrTop dp un gd cn cs L a ccd cl outer) (call (.ref f) vs) Q E s

/-- the same, with objects made: the ledger grows -/
def SpecO (w : World) (mean : ExcName → Option Value) (mg mb : Str → Option Value) (f : Addr) (dpn unn : Nat) (vs : List Value) (Pre : Led → Prop) (Post : Value → Led → Led → Prop) : Prop :=
  ∀ (dp un : Nat) (gd : Option (List Code)) (cn : Str) (cs : Scope) (a : Addr) (ccd : Value) (cl : List (Str × Addr)) (outer : List Env) (A₀ : Around) (base h₀ : Heap) (L : Addr) (m : Str → Option Value) (news : Led) (s : Shared)
    (Q E : Value → Shared → Prop),
    Below A₀ base outer h₀ → Fr h₀ L s.heap m → (Mine.hd.heap_1 w.params).In h₀ → News h₀ L s.heap news →
    Top Mine.hd.view_1 (looseW Mine.hd.view_1 [Str.ofString "number_text"]) mean mg mb h₀ → cs.kind = .function → Pre news → dp + dpn < recursionLimit → un + unn < cLine →
    (∀ r nw h' tk', Fr h₀ L h' m → News h₀ L h' nw → Post r news nw → Q r { s with heap := h', toks := tk' }) →
    wpAny (model PySem.Challenge.rw_ov0074_01.row.prog w) (ktrTop dp un gd cn cs L a ccd cl outer) (call (.ref f) vs) Q E s

theorem useV {w mean mg mb f dpn unn vs Pre Post} (C : SpecV w mean mg mb f dpn unn vs Pre Post)
    {dp un : Nat} {gd : Option (List Code)} {cn : Str} {cs : Scope} {a : Addr} {ccd : Value} {cl : List (Str × Addr)} {outer : List Env} {A₀ : Around} {base h₀ : Heap} {L : Addr} {m : Str → Option Value} {news : Led} {s : Shared}
    {Q E : Value → Shared → Prop} (B : Below A₀ base outer h₀) (F : Fr h₀ L s.heap m) (X : (Mine.hd.heap_1 w.params).In h₀) (N : News h₀ L s.heap news)
    (T : Top Mine.hd.view_1 (looseW Mine.hd.view_1 [Str.ofString "number_text"]) mean mg mb h₀) (hk : cs.kind = .function) (hp : Pre news) (hd : dp + dpn < recursionLimit) (hu : un + unn < cLine)
    (ret : ∀ r h' tk', Fr h₀ L h' m → News h₀ L h' news → Post r → Q r { s with heap := h', toks := tk' }) :
    wpAny (model PySem.Challenge.rw_ov0074_01.row.prog w) (ktrTop dp un gd cn cs L a ccd cl outer) (call (.ref f) vs) Q E s :=
  C dp un gd cn cs a ccd cl outer A₀ base h₀ L m news s Q E B F X N T hk hp hd hu ret

theorem useO {w mean mg mb f dpn unn vs Pre Post} (C : SpecO w mean mg mb f dpn unn vs Pre Post)
    {dp un : Nat} {gd : Option (List Code)} {cn : Str} {cs : Scope} {a : Addr} {ccd : Value} {cl : List (Str × Addr)} {outer : List Env} {A₀ : Around} {base h₀ : Heap} {L : Addr} {m : Str → Option Value} {news : Led} {s : Shared}
    {Q E : Value → Shared → Prop} (B : Below A₀ base outer h₀) (F : Fr h₀ L s.heap m) (X : (Mine.hd.heap_1 w.params).In h₀) (N : News h₀ L s.heap news)
    (T : Top Mine.hd.view_1 (looseW Mine.hd.view_1 [Str.ofString "number_text"]) mean mg mb h₀) (hk : cs.kind = .function) (hp : Pre news) (hd : dp + dpn < recursionLimit) (hu : un + unn < cLine)
    (ret : ∀ r nw h' tk', Fr h₀ L h' m → News h₀ L h' nw → Post r news nw → Q r { s with heap := h', toks := tk' }) :
    wpAny (model PySem.Challenge.rw_ov0074_01.row.prog w) (ktrTop dp un gd cn cs L a ccd cl outer) (call (.ref f) vs) Q E s :=
  C dp un gd cn cs a ccd cl outer A₀ base h₀ L m news s Q E B F X N T hk hp hd hu ret
theorem room0 {x a b l : Nat} (h : x + a < l) (e : b ≤ a) : x + b < l := Nat.lt_of_le_of_lt (Nat.add_le_add_left e x) h
theorem room1 {x k a b l : Nat} (h : x + a < l) (e : k + b ≤ a) : x + k + b < l := Nat.add_assoc x k b ▸ room0 h e
theorem room2 {x k j a b l : Nat} (h : x + a < l) (e : k + (j + b) ≤ a) : x + k + j + b < l := Nat.add_assoc (x + k) j b ▸ room1 h e
theorem room3 {x k j i a b l : Nat} (h : x + a < l) (e : k + (j + (i + b)) ≤ a) : x + k + j + i + b < l := Nat.add_assoc (x + k + j) i b ▸ room2 h e
theorem roomS {x a l : Nat} (h : x + a < l) : x < l := room0 (b := 0) h (Nat.zero_le a)
theorem abs_A {M : Model} {α : Type} {A : Around} {T : Sem α} {Q : α → Shared → Prop} {E : Value → Shared → Prop} {s : Shared} (h : let A' := A; wpAny M A' T Q E s) : wpAny M A T Q E s := h
theorem gen_s {P : Model} {α : Type} {A : Around} {T : Sem α} {Q : α → Shared → Prop} {E : Value → Shared → Prop} {h : Heap} {g d k o} (H : ∀ k', wpAny P A T Q E ⟨h, g, d, k', o⟩) : wpAny P A T Q E ⟨h, g, d, k, o⟩ := H k
local macro_rules | `(tactic| walk_at "MY room") => `(tactic| first | exact room0 (by assumption) (Nat.le_of_ble_eq_true rfl) | exact room1 (by assumption) (Nat.le_of_ble_eq_true rfl) | exact room2 (by assumption) (Nat.le_of_ble_eq_true rfl) | exact room3 (by assumption) (Nat.le_of_ble_eq_true rfl) | exact roomS (by assumption))
local macro_rules | `(tactic| ktr_room) => `(tactic| walk_at "MY room")
local macro_rules | `(tactic| ktr_units) => `(tactic| walk_at "MY room")
example : True := by (w_top off; exact True.intro)

theorem from_int_spec (w mean mg mb) (i : Int) (t : Tok) : SpecO w mean mg mb 101 20 160 [.int i t] (fun _ => True)
    (fun r news nw => ∃ D t1 t2 c, (∀ p ∈ news, p.1 < D) ∧ r = .ref D ∧ nw = (D, tupO [.int i t1, .int 1 t2] c) :: news) := by
  unfold SpecO
  k_fill
  intro dp un gd cn cs a ccd cl outer A₀ base h₀ L m news s Q E B F X N T hk hpre hd hu hret
  refine wpAny_call ?_
  k_dflt cell_enter
  refine abs_A ?_
  intro A9a
  repeat' (first | (k_unfold; (try dsimp only)) | (k_end; wrow_close) | (with_reducible ((with_reducible show wpAny _ _ (PySem.binaryOp PySem.Operator.FloorDiv (PySem.Value.int _ _) (PySem.Value.int _ _)) _ _ _); ((with_reducible refine floordiv_int ?kbe ?_ (Or.inl (PyProof.noPylong_small ?kbp))); (case kbe => omega); (case kbp => omega)))) | ((with_reducible show wpAny _ _ (PySem.eval (PySem.Expr.Call (PySem.Expr.Name _ _) _ _) _) _ _ _); (refine Call_ ?_)) | ((with_reducible show wpAny _ _ (PySem.execs (List.cons _ _) _) _ _ _); walk1; (try (refine gen_s ?_; intro tkG; (try dsimp only); (try k_fold)))) | (walk1; (try dsimp only)) | (dsimp only; walk1) | (leave1; (try dsimp only)) | fail "no step")
  all_goals exact hret _ _ _ _ (by k_asm) (by k_asm) ⟨_, _, _, _, by assumption, rfl, rfl⟩

theorem is_na_spec (w mean mg mb) (x : Addr) (n d : Int) (t1 t2 : Tok) (c : Nat) (hd : 0 < d) : SpecV w mean mg mb 108 20 160 [.ref x] (fun news => (x, tupO [.int n t1, .int d t2] c) ∈ news)
    (fun r => r = .bool false) := by
  unfold SpecV
  k_fill
  intro dp un gd cn cs a ccd cl outer A₀ base h₀ L m news s Q E B F X N T hk hpre hd hu hret
  refine wpAny_call ?_
  k_dflt cell_enter
  refine abs_A ?_
  intro A9a
  repeat' (first | (k_unfold; (try dsimp only)) | (k_end; wrow_close) | (with_reducible ((with_reducible show wpAny _ _ (PySem.binaryOp PySem.Operator.FloorDiv (PySem.Value.int _ _) (PySem.Value.int _ _)) _ _ _); ((with_reducible refine floordiv_int ?kbe ?_ (Or.inl (PyProof.noPylong_small ?kbp))); (case kbe => omega); (case kbp => omega)))) | ((with_reducible show wpAny _ _ (PySem.eval (PySem.Expr.Call (PySem.Expr.Name _ _) _ _) _) _ _ _); (refine Call_ ?_)) | ((with_reducible show wpAny _ _ (PySem.execs (List.cons _ _) _) _ _ _); walk1; (try (refine gen_s ?_; intro tkG; (try dsimp only); (try k_fold)))) | (walk1; (try dsimp only)) | (dsimp only; walk1) | (leave1; (try dsimp only)) | fail "no step")
  · exact hret _ _ _ (by k_asm) (by k_asm) (by rw [beq_eq_false_iff_ne.mpr (by omega)])
  · exact hret _ _ _ (by k_asm) (by k_asm) (by rw [beq_eq_false_iff_ne.mpr (by assumption)])

theorem is_na_none (w mean mg mb) : SpecV w mean mg mb 108 20 160 [.none] (fun news => True)
    (fun r => r = .bool true) := by
  unfold SpecV
  k_fill
  intro dp un gd cn cs a ccd cl outer A₀ base h₀ L m news s Q E B F X N T hk hpre hd hu hret
  refine wpAny_call ?_
  k_dflt cell_enter
  refine abs_A ?_
  intro A9a
  repeat' (first | (k_unfold; (try dsimp only)) | (k_end; wrow_close) | (with_reducible ((with_reducible show wpAny _ _ (PySem.binaryOp PySem.Operator.FloorDiv (PySem.Value.int _ _) (PySem.Value.int _ _)) _ _ _); ((with_reducible refine floordiv_int ?kbe ?_ (Or.inl (PyProof.noPylong_small ?kbp))); (case kbe => omega); (case kbp => omega)))) | ((with_reducible show wpAny _ _ (PySem.eval (PySem.Expr.Call (PySem.Expr.Name _ _) _ _) _) _ _ _); (refine Call_ ?_)) | ((with_reducible show wpAny _ _ (PySem.execs (List.cons _ _) _) _ _ _); walk1; (try (refine gen_s ?_; intro tkG; (try dsimp only); (try k_fold)))) | (walk1; (try dsimp only)) | (dsimp only; walk1) | (leave1; (try dsimp only)) | fail "no step")
  all_goals exact hret _ _ _ (by k_asm) (by k_asm) rfl

theorem is_finite_spec (w mean mg mb) (x : Addr) (n d : Int) (t1 t2 : Tok) (c : Nat) (hd : 0 < d) : SpecV w mean mg mb 115 20 160 [.ref x] (fun news => (x, tupO [.int n t1, .int d t2] c) ∈ news)
    (fun r => r = .bool true) := by
  unfold SpecV
  k_fill
  intro dp un gd cn cs a ccd cl outer A₀ base h₀ L m news s Q E B F X N T hk hpre hd hu hret
  refine wpAny_call ?_
  k_dflt cell_enter
  refine abs_A ?_
  intro A9a
  repeat' (first | (k_unfold; (try dsimp only)) | (k_end; wrow_close) | (with_reducible ((with_reducible show wpAny _ _ (PySem.binaryOp PySem.Operator.FloorDiv (PySem.Value.int _ _) (PySem.Value.int _ _)) _ _ _); ((with_reducible refine floordiv_int ?kbe ?_ (Or.inl (PyProof.noPylong_small ?kbp))); (case kbe => omega); (case kbp => omega)))) | ((with_reducible show wpAny _ _ (PySem.eval (PySem.Expr.Call (PySem.Expr.Name _ _) _ _) _) _ _ _); (refine Call_ ?_)) | ((with_reducible show wpAny _ _ (PySem.execs (List.cons _ _) _) _ _ _); walk1; (try (refine gen_s ?_; intro tkG; (try dsimp only); (try k_fold)))) | (walk1; (try dsimp only)) | (dsimp only; walk1) | (leave1; (try dsimp only)) | fail "no step")

  all_goals exact hret _ _ _ (by k_asm) (by k_asm) (by rw [decide_eq_true (by omega)])

theorem neg_spec (w mean mg mb) (x : Addr) (n d : Int) (t1 t2 : Tok) (c : Nat) : SpecO w mean mg mb 122 20 160 [.ref x] (fun news => (x, tupO [.int n t1, .int d t2] c) ∈ news)
    (fun r news nw => ∃ D t1 t2 c, (∀ p ∈ news, p.1 < D) ∧ r = .ref D ∧ nw = (D, tupO [.int (-n) t1, .int d t2] c) :: news) := by
  unfold SpecO
  k_fill
  intro dp un gd cn cs a ccd cl outer A₀ base h₀ L m news s Q E B F X N T hk hpre hd hu hret
  refine wpAny_call ?_
  k_dflt cell_enter
  refine abs_A ?_
  intro A9a
  repeat' (first | (k_unfold; (try dsimp only)) | (k_end; wrow_close) | (with_reducible ((with_reducible show wpAny _ _ (PySem.binaryOp PySem.Operator.FloorDiv (PySem.Value.int _ _) (PySem.Value.int _ _)) _ _ _); ((with_reducible refine floordiv_int ?kbe ?_ (Or.inl (PyProof.noPylong_small ?kbp))); (case kbe => omega); (case kbp => omega)))) | ((with_reducible show wpAny _ _ (PySem.eval (PySem.Expr.Call (PySem.Expr.Name _ _) _ _) _) _ _ _); (refine Call_ ?_)) | ((with_reducible show wpAny _ _ (PySem.execs (List.cons _ _) _) _ _ _); walk1; (try (refine gen_s ?_; intro tkG; (try dsimp only); (try k_fold)))) | (walk1; (try dsimp only)) | (dsimp only; walk1) | (leave1; (try dsimp only)) | fail "no step")

  all_goals exact hret _ _ _ _ (by k_asm) (by k_asm) ⟨_, _, _, _, by assumption, rfl, by rw [Int.zero_sub]⟩


theorem to_whole_spec (w mean mg mb) (x : Addr) (n : Int) (t1 t2 : Tok) (c : Nat) : SpecV w mean mg mb 129 21 180 [.ref x] (fun news => (x, tupO [.int n t1, .int 1 t2] c) ∈ news)
    (fun r => ∃ t, r = .int n t) := by
  unfold SpecV
  k_fill
  intro dp un gd cn cs a ccd cl outer A₀ base h₀ L m news s Q E B F X N T hk hpre hd hu hret
  refine wpAny_call ?_
  k_dflt cell_enter
  refine abs_A ?_
  intro A9a
  repeat' (first | (k_unfold; (try dsimp only)) | (k_end; wrow_close) | ((with_reducible show wpAny _ _ (PySem.call (Value.ref _) _) _ _ _); first | (with_reducible ((with_reducible show wpAny _ _ (PySem.call (Value.ref 115) _) _ _ _); k_dflt (refine' useV (is_finite_spec _ _ _ _ _ _ _ _ _ _ ?kq) ?k1 ?k2 ?k3 ?k4 ?k5 ?kK ?kp ?kd ?ku ?_; (case k1 => k_asm); (case k2 => k_asm); (case k3 => k_asm); (case k4 => k_asm); (case k5 => k_asm); (case kK => first | exact rfl | assumption); (case kp => assumption); (case kd => ktr_room); (case ku => ktr_units); (case kq => omega); intro r9z h9z tk9z F9z N9z hr9z; subst hr9z; (try dsimp only); (try k_sweep))))) | (with_reducible ((with_reducible show wpAny _ _ (PySem.binaryOp PySem.Operator.FloorDiv (PySem.Value.int _ _) (PySem.Value.int _ _)) _ _ _); ((with_reducible refine floordiv_int ?kbe ?_ (Or.inl (PyProof.noPylong_small ?kbp))); (case kbe => omega); (case kbp => omega)))) | ((with_reducible show wpAny _ _ (PySem.eval (PySem.Expr.Call (PySem.Expr.Name _ _) _ _) _) _ _ _); (refine Call_ ?_)) | ((with_reducible show wpAny _ _ (PySem.execs (List.cons _ _) _) _ _ _); walk1; (try (refine gen_s ?_; intro tkG; (try dsimp only); (try k_fold)))) | (walk1; (try dsimp only)) | (dsimp only; walk1) | (leave1; (try dsimp only)) | fail "no step")
  all_goals exact hret _ _ _ (by k_asm) (by k_asm) (ktn_int (by rw [Int.fdiv_one]; split <;> omega))

theorem nearest_whole_spec (w mean mg mb) (n q d : Int) (t1 t2 : Tok) (hn : n = q * d) (hd1 : 0 < d) (hd2 : d ≤ 1000) (hq : n.natAbs < 10 ^ 30) : SpecV w mean mg mb 136 20 160 [.int n t1, .int d t2] (fun _ => True)
    (fun r => ∃ t, r = .int q t) := by
  have hf : n.fdiv d = q := by rw [hn]; exact Int.mul_fdiv_cancel q (by omega)
  have hf2 : n.fdiv d * d = n := by rw [hf]; exact hn.symm
  unfold SpecV
  k_fill
  intro dp un gd cn cs a ccd cl outer A₀ base h₀ L m news s Q E B F X N T hk hpre hd hu hret
  refine wpAny_call ?_
  k_dflt cell_enter
  refine abs_A ?_
  intro A9a
  repeat' (first | (k_unfold; (try dsimp only)) | (k_end; wrow_close) | ((with_reducible show wpAny _ _ (PySem.call (Value.ref _) _) _ _ _); first | (with_reducible ((with_reducible show wpAny _ _ (PySem.call (Value.ref 115) _) _ _ _); k_dflt (refine' useV (is_finite_spec _ _ _ _ _ _ _ _ _ _ ?kq) ?k1 ?k2 ?k3 ?k4 ?k5 ?kK ?kp ?kd ?ku ?_; (case k1 => k_asm); (case k2 => k_asm); (case k3 => k_asm); (case k4 => k_asm); (case k5 => k_asm); (case kK => first | exact rfl | assumption); (case kp => assumption); (case kd => ktr_room); (case ku => ktr_units); (case kq => omega); intro r9z h9z tk9z F9z N9z hr9z; subst hr9z; (try dsimp only); (try k_sweep))))) | (with_reducible ((with_reducible show wpAny _ _ (PySem.binaryOp PySem.Operator.FloorDiv (PySem.Value.int _ _) (PySem.Value.int _ _)) _ _ _); ((with_reducible refine floordiv_int ?kbe ?_ (Or.inl (PyProof.noPylong_small ?kbp))); (case kbe => omega); (case kbp => omega)))) | ((with_reducible show wpAny _ _ (PySem.eval (PySem.Expr.Call (PySem.Expr.Name _ _) _ _) _) _ _ _); (refine Call_ ?_)) | ((with_reducible show wpAny _ _ (PySem.execs (List.cons _ _) _) _ _ _); walk1; (try (refine gen_s ?_; intro tkG; (try dsimp only); (try k_fold)))) | (walk1; (try dsimp only)) | (dsimp only; walk1) | (leave1; (try dsimp only)) | fail "no step")
  all_goals first
    | (exfalso; omega)
    | exact hret _ _ _ (by k_asm) (by k_asm) (ktn_int hf)


example : True := by (w_top off; exact True.intro)
theorem gcd_emod' (a b : Int) (ha : 0 ≤ a) (hb : 0 ≤ b) : Int.gcd b (a % b) = Int.gcd a b := by
  obtain ⟨x, rfl⟩ := Int.eq_ofNat_of_zero_le ha
  obtain ⟨y, rfl⟩ := Int.eq_ofNat_of_zero_le hb
  show Nat.gcd y (x % y) = Nat.gcd x y
  rw [Nat.gcd_comm x y, Nat.gcd_rec y x, Nat.gcd_comm]
theorem keys_nil {P : Str × Value → Prop} : ∀ p ∈ ([] : List (Str × Value)), P p := fun _ h => nomatch h
theorem sub_tail {α : Type} {q : α} {l : List α} : ∀ p ∈ l, p ∈ q :: l := fun _ hp => List.mem_cons_of_mem _ hp
theorem sub_refl {α : Type} {l : List α} : ∀ p ∈ l, p ∈ l := fun _ hp => hp
theorem gcd_spec (w mean mg mb) (a₀ b₀ : Int) (t1 t2 : Tok) (ha : 0 ≤ a₀) (hb : 0 ≤ b₀) (hb2 : b₀ < 10 ^ 8) : SpecV w mean mg mb 87 20 160 [.int a₀ t1, .int b₀ t2] (fun _ => True)
    (fun r => ∃ t, r = .int (Int.gcd a₀ b₀) t) := by
  unfold SpecV
  k_fill
  intro dp un gd cn cs a ccd cl outer A₀ base h₀ L m news s Q E B F X N T hk hpre hd hu hret
  refine wpAny_call ?_
  k_dflt cell_enter
  refine abs_A ?_
  intro A9a
  repeat' ((fail_if_success (with_reducible show wpAny _ _ (PySem.exec (PySem.Stmt.While _ _ _ _) _) _ _ _)); (fail_if_success (with_reducible show wpAny _ _ (PySem.exec (PySem.Stmt.For _ _ _ _ _) _) _ _ _)); (fail_if_success (with_reducible show wpAny _ _ (PySem.eval (PySem.Expr.ListComp _ _ _ _) _) _ _ _)); (fail_if_success (with_reducible show KswEnd _ _ _ _ _ _ _ _ _ _ _ _)); (fail_if_success (with_reducible show UnrEnd _ _ _ _ _ _ _)); first | (k_unfold; (try dsimp only)) | (k_end; wrow_close) | ((with_reducible show wpAny _ _ (PySem.call (Value.ref _) _) _ _ _); first | (with_reducible ((with_reducible show wpAny _ _ (PySem.call (Value.ref 115) _) _ _ _); k_dflt (refine' useV (is_finite_spec _ _ _ _ _ _ _ _ _ _ ?kq) ?k1 ?k2 ?k3 ?k4 ?k5 ?kK ?kp ?kd ?ku ?_; (case k1 => k_asm); (case k2 => k_asm); (case k3 => k_asm); (case k4 => k_asm); (case k5 => k_asm); (case kK => first | exact rfl | assumption); (case kp => assumption); (case kd => ktr_room); (case ku => ktr_units); (case kq => omega); intro r9z h9z tk9z F9z N9z hr9z; subst hr9z; (try dsimp only); (try k_sweep))))) | (with_reducible ((with_reducible show wpAny _ _ (PySem.binaryOp PySem.Operator.FloorDiv (PySem.Value.int _ _) (PySem.Value.int _ _)) _ _ _); ((with_reducible refine floordiv_int ?kbe ?_ (Or.inl (PyProof.noPylong_small ?kbp))); (case kbe => omega); (case kbp => omega)))) | ((with_reducible show wpAny _ _ (PySem.eval (PySem.Expr.Call (PySem.Expr.Name _ _) _ _) _) _ _ _); (refine Call_ ?_)) | ((with_reducible show wpAny _ _ (PySem.execs (List.cons _ _) _) _ _ _); walk1; (try (refine gen_s ?_; intro tkG; (try dsimp only); (try k_fold)))) | (walk1; (try dsimp only)) | (dsimp only; walk1) | (leave1; (try dsimp only)) | fail "no step")
  refine ksw_while (fun _ => news) (fun c : Int × Int × Tok × Tok => [(Str.ofString "a", .int c.1 c.2.2.1), (Str.ofString "b", .int c.2.1 c.2.2.2)]) (fun _ => True) [Str.ofString "a", Str.ofString "b"] (fun c => 0 ≤ c.1 ∧ 0 ≤ c.2.1 ∧ c.2.1 < 10 ^ 8 ∧ Int.gcd c.1 c.2.1 = Int.gcd a₀ b₀) (fun c => c.2.1.toNat) (a₀, b₀, t1, t2) (by k_asm) (by k_asm) trivial ?kH ⟨ha, hb, hb2, rfl⟩ ?_
  case kH => exact List.forall_mem_cons.mpr ⟨rfl, List.forall_mem_cons.mpr ⟨rfl, keys_nil⟩⟩
  rintro ⟨a, b, t3, t4⟩ u h tk - ⟨h1, h2, h3, h4⟩ F N
  dsimp only at h1 h2 h3 h4
  dsimp only [kstB] at F
  repeat' ((fail_if_success (with_reducible show wpAny _ _ (PySem.exec (PySem.Stmt.While _ _ _ _) _) _ _ _)); (fail_if_success (with_reducible show wpAny _ _ (PySem.exec (PySem.Stmt.For _ _ _ _ _) _) _ _ _)); (fail_if_success (with_reducible show wpAny _ _ (PySem.eval (PySem.Expr.ListComp _ _ _ _) _) _ _ _)); (fail_if_success (with_reducible show KswEnd _ _ _ _ _ _ _ _ _ _ _ _)); (fail_if_success (with_reducible show UnrEnd _ _ _ _ _ _ _)); first | (k_unfold; (try dsimp only)) | (k_end; wrow_close) | ((with_reducible show wpAny _ _ (PySem.call (Value.ref _) _) _ _ _); first | (with_reducible ((with_reducible show wpAny _ _ (PySem.call (Value.ref 115) _) _ _ _); k_dflt (refine' useV (is_finite_spec _ _ _ _ _ _ _ _ _ _ ?kq) ?k1 ?k2 ?k3 ?k4 ?k5 ?kK ?kp ?kd ?ku ?_; (case k1 => k_asm); (case k2 => k_asm); (case k3 => k_asm); (case k4 => k_asm); (case k5 => k_asm); (case kK => first | exact rfl | assumption); (case kp => assumption); (case kd => ktr_room); (case ku => ktr_units); (case kq => omega); intro r9z h9z tk9z F9z N9z hr9z; subst hr9z; (try dsimp only); (try k_sweep))))) | (with_reducible ((with_reducible show wpAny _ _ (PySem.binaryOp PySem.Operator.FloorDiv (PySem.Value.int _ _) (PySem.Value.int _ _)) _ _ _); ((with_reducible refine floordiv_int ?kbe ?_ (Or.inl (PyProof.noPylong_small ?kbp))); (case kbe => omega); (case kbp => omega)))) | ((with_reducible show wpAny _ _ (PySem.eval (PySem.Expr.Call (PySem.Expr.Name _ _) _ _) _) _ _ _); (refine Call_ ?_)) | ((with_reducible show wpAny _ _ (PySem.execs (List.cons _ _) _) _ _ _); walk1; (try (refine gen_s ?_; intro tkG; (try dsimp only); (try k_fold)))) | (walk1; (try dsimp only)) | (dsimp only; walk1) | (leave1; (try dsimp only)) | fail "no step")
  · have e : a.fmod b = a % b := Int.fmod_eq_emod_of_nonneg a h2
    have e2 := Int.emod_nonneg a (b := b) (by omega)
    have e3 := Int.emod_lt_of_pos a (b := b) (by omega)
    rename News _ _ _ (_ :: news) => NN
    exact ksw_end (b, a.fmod b, _, _) (by k_asm) NN sub_tail trivial (List.forall_mem_cons.mpr ⟨rfl, List.forall_mem_cons.mpr ⟨rfl, keys_nil⟩⟩) (by ksw_same)
      ⟨h2, by rw [e]; exact e2, by show a.fmod b < _; omega, by show Int.gcd b (a.fmod b) = _; rw [e, ← h4]; exact gcd_emod' a b h1 h2⟩ (by dsimp only; omega)
  · have e : b = 0 := by omega
    subst e
    exact hret _ _ _ (by k_asm) (by k_asm) (ktn_int (by rw [← h4, Int.gcd_zero_right]; omega))

theorem gcd_scaled (n d n' d' g : Int) (hg : 0 < g) (hn : n = n' * g) (hd : d = d' * g) (hc : Int.gcd n' d' = 1) : ((Int.gcd (if n < 0 then -n else n) d : Nat) : Int) = g := by
  have h1 : Int.gcd (if n < 0 then -n else n) d = Int.gcd n d := by
    split
    · exact Int.neg_gcd
    · rfl
  rw [h1, hn, hd, Int.gcd_mul_right, hc]
  omega

theorem endT2 {D : Addr} {x y x' y' : Int} {t1 t2 : Tok} {c : Nat} {news : Led} (hl : ∀ p ∈ news, p.1 < D) (e1 : x = x') (e2 : y = y') :
    ∃ (D' : Addr) (t1' t2' : Tok) (c' : Nat), (∀ p ∈ news, p.1 < D') ∧ Value.ref D = .ref D' ∧ ((D, ({ cls := .type "tuple", data := .seq #[.int x t1, .int y t2] c } : Obj)) :: news) = (D', tupO [.int x' t1', .int y' t2'] c') :: news := by
  subst e1; subst e2; exact ⟨_, _, _, _, hl, rfl, rfl⟩
theorem make_spec (w mean mg mb) (n d n' d' g : Int) (t1 t2 : Tok) (hg : 0 < g) (hn : n = n' * g) (hd : d = d' * g) (hc : Int.gcd n' d' = 1) (hd0 : 0 < d) (hd1 : d < 10 ^ 8) : SpecO w mean mg mb 94 21 180 [.int n t1, .int d t2] (fun _ => True)
    (fun r news nw => ∃ D t1 t2 c, (∀ p ∈ news, p.1 < D) ∧ r = .ref D ∧ nw = (D, tupO [.int n' t1, .int d' t2] c) :: news) := by
  have hgc := gcd_scaled n d n' d' g hg hn hd hc
  have hgd : g ≤ d := by
    rw [hd] at hd0 ⊢
    have : 0 < d' := by
      rcases Int.lt_or_le 0 d' with h | h
      · exact h
      · have := Int.mul_nonpos_of_nonpos_of_nonneg h (Int.le_of_lt hg)
        omega
    have := Int.mul_le_mul_of_nonneg_right (show 1 ≤ d' by omega) (Int.le_of_lt hg)
    omega
  have hf1 : n.fdiv g = n' := by rw [hn]; exact Int.mul_fdiv_cancel n' (by omega)
  have hf2 : d.fdiv g = d' := by rw [hd]; exact Int.mul_fdiv_cancel d' (by omega)
  unfold SpecO
  k_fill
  intro dp un gd cn cs a ccd cl outer A₀ base h₀ L m news s Q E B F X N T hk hpre hd hu hret
  refine wpAny_call ?_
  k_dflt cell_enter
  refine abs_A ?_
  intro A9a
  repeat' ((fail_if_success (with_reducible show wpAny _ _ (PySem.exec (PySem.Stmt.While _ _ _ _) _) _ _ _)); (fail_if_success (with_reducible show wpAny _ _ (PySem.exec (PySem.Stmt.For _ _ _ _ _) _) _ _ _)); (fail_if_success (with_reducible show wpAny _ _ (PySem.eval (PySem.Expr.ListComp _ _ _ _) _) _ _ _)); (fail_if_success (with_reducible show KswEnd _ _ _ _ _ _ _ _ _ _ _ _)); (fail_if_success (with_reducible show UnrEnd _ _ _ _ _ _ _)); first | (k_unfold; (try dsimp only)) | (k_end; wrow_close) | ((with_reducible show wpAny _ _ (PySem.call (Value.ref _) _) _ _ _); first | (with_reducible ((with_reducible show wpAny _ _ (PySem.call (Value.ref 87) _) _ _ _); k_dflt (refine' useV (gcd_spec _ _ _ _ _ _ _ _ ?kq1 ?kq2 ?kq3) ?k1 ?k2 ?k3 ?k4 ?k5 ?kK ?kp ?kd ?ku ?_; (case k1 => k_asm); (case k2 => k_asm); (case k3 => k_asm); (case k4 => k_asm); (case k5 => k_asm); (case kK => first | exact rfl | assumption); (case kp => trivial); (case kd => ktr_room); (case ku => ktr_units); (case kq1 => (split <;> omega)); (case kq2 => omega); (case kq3 => omega); intro r9z h9z tk9z F9z N9z hr9z; obtain ⟨t9z, hr9z⟩ := hr9z; subst hr9z; (try dsimp only); (try k_sweep))))) | (with_reducible ((with_reducible show wpAny _ _ (PySem.binaryOp PySem.Operator.FloorDiv (PySem.Value.int _ _) (PySem.Value.int _ _)) _ _ _); ((with_reducible refine floordiv_int ?kbe ?_ (Or.inl (PyProof.noPylong_small ?kbp))); (case kbe => omega); (case kbp => omega)))) | ((with_reducible show wpAny _ _ (PySem.eval (PySem.Expr.Call (PySem.Expr.Name _ _) _ _) _) _ _ _); (refine Call_ ?_)) | ((with_reducible show wpAny _ _ (PySem.execs (List.cons _ _) _) _ _ _); walk1; (try (refine gen_s ?_; intro tkG; (try dsimp only); (try k_fold)))) | (walk1; (try dsimp only)) | (dsimp only; walk1) | (leave1; (try dsimp only)) | fail "no step")
  · exfalso; omega
  · exact hret _ _ _ _ (by k_asm) (by k_asm) (endT2 (by assumption) (by rw [hgc]; exact hf1) (by rw [hgc]; exact hf2))

example : True := by (w_top off; exact True.intro)
/-- the row of small numbers, drawn from the script -/
def RowOk (ns : List Int) : Prop := (∀ n ∈ ns, 0 ≤ n ∧ n < 127) ∧ ns.length ≤ 70
abbrev setRow (row : Addr) (o : Obj) (news : Led) : Led := news.map fun p => if p.1 = row then (row, o) else p
theorem ne_nil_int {prog : Program} {w : World} {A : Around} {E : Value → Shared → Prop} {s : Shared} {h₀ : Heap} {L l b : Addr} {news : Led} {vs : List Value} {ns : List Int} {c c' : Nat} {Q : Value → Shared → Prop} (N : News h₀ L s.heap news)
    (hl : (l, listOf vs.toArray c) ∈ news) (hi : IntsAre vs ns) (hm : (b, listOf #[] c') ∈ news) (hu : A.units + 64 < cLine) (h0 : vs = [] → Q (.bool false) s) (h1 : ∀ v r n q, vs = v :: r → ns = n :: q → Q (.bool true) s) : wpAny (model prog w) A (compareOp .NotEq (.ref l) (.ref b)) Q E s := by
  refine ne_intsK (a := l) (b := b) (vs := vs) (us := []) (ns := ns) (ms := []) ⟨_, N.get hl, rfl, c, rfl⟩ hi ⟨_, N.get hm, rfl, c', rfl⟩ .nil hu ?_
  cases hi with
  | nil => exact h0 rfl
  | cons k t r => exact h1 _ _ _ _ rfl rfl
theorem list_pop0 {prog : Program} {w : World} {A : Around} {E : Value → Shared → Prop} {s : Shared} {h₀ : Heap} {L D : Addr} {m : Str → Option Value} {news : Led} {v : Value} {vs : List Value} {c : Nat} {u : Tok} {Q : Value → Shared → Prop} (F : Fr h₀ L s.heap m) (N : News h₀ L s.heap news)
    (hm : (D, listOf (v :: vs).toArray c) ∈ news) (hz : vs.length ≤ 100) (h : ∀ h', Fr h₀ L h' m → News h₀ L h' (setRow D (listOf vs.toArray (c + 1)) news) → Q v { s with heap := h' }) : wpAny (model prog w) A (call (.builtin "list.pop") [.ref D, .int 0 u]) Q E s := by
  have z := N _ hm
  refine call_meets PySem.F.slot_list_pop ⟨_, z.1, rfl⟩ PySem.F.entry_list_pop (PySem.F.args_list_pop_2 _ _) (PySem.MeetsSeq.list_pop_at D _ c 0 u 0 v rfl ?_ rfl ?_) ⟨z.1, ?_⟩
  · simp [seqIndex?]
  · rw [List.size_toArray, List.length_cons, sizeLine_eq]; omega
  · have hs := Heap.SameBut.update (h := s.heap) (a := D) (Obj.mapSeq fun items : Array Value => items.eraseIdxIfInBounds 0)
    refine h _ (F.change hs z.2.1 z.2.2) (N.replace hs ?_)
    have q := PySem.IsL.update z.1 (fun items : Array Value => items.eraseIdxIfInBounds 0)
    have e : (v :: vs).toArray.eraseIdxIfInBounds 0 = vs.toArray := kl_erase [] vs v
    rw [e, if_neg (by simp)] at q
    exact q
theorem setRow_same {h₀ h : Heap} {L row : Addr} {o : Obj} {news : Led} (N : News h₀ L h news) (hm : (row, o) ∈ news) : News h₀ L h (setRow row o news) := by
  intro q hq
  obtain ⟨p, hp, rfl⟩ := List.mem_map.mp hq
  by_cases e : p.1 = row
  · simp only [e, if_true]; exact N _ hm
  · simp only [e, if_false]; exact N p hp
theorem mem_setRow {row : Addr} {o o' : Obj} {news : Led} (hm : (row, o) ∈ news) : (row, o') ∈ setRow row o' news := List.mem_map.mpr ⟨_, hm, by simp⟩
theorem RowOk.tail {n : Int} {ns : List Int} (h : RowOk (n :: ns)) : RowOk ns := ⟨fun k hk => h.1 k (.tail _ hk), by have := h.2; rw [List.length_cons] at this; omega⟩
theorem truthy_b {prog : Program} {w : World} {A : Around} {E : Value → Shared → Prop} {s : Shared} {Q : Bool → Shared → Prop} {b : Bool} (h : Q b s) : wpAny (model prog w) A (truthy (.bool b)) Q E s := wpAny_pure h
theorem law_part_spec (w mean mg mb) (row : Addr) (ns : List Int) (vs : List Value) (c : Nat) (m : Int) (t : Tok) (hi : IntsAre vs ns) (hr : RowOk ns) (hm0 : 0 < m) (hm1 : m ≤ 1000) : SpecO w mean mg mb 461 20 200 [.ref row, .int m t] (fun news => (row, listOf vs.toArray c) ∈ news)
    (fun r news nw => ∃ k t vs' ns' c', r = .int k t ∧ 0 ≤ k ∧ k < m ∧ IntsAre vs' ns' ∧ RowOk ns' ∧ nw = setRow row (listOf vs'.toArray c') news) := by
  unfold SpecO
  k_fill
  intro dp un gd cn cs a ccd cl outer A₀ base h₀ L m news s Q E B F X N T hk hpre hd hu hret
  refine wpAny_call ?_
  k_dflt cell_enter
  refine abs_A ?_
  intro A9a
  repeat' ((fail_if_success (with_reducible show wpAny _ _ (PySem.exec (PySem.Stmt.While _ _ _ _) _) _ _ _)); (fail_if_success (with_reducible show wpAny _ _ (PySem.exec (PySem.Stmt.For _ _ _ _ _) _) _ _ _)); (fail_if_success (with_reducible show wpAny _ _ (PySem.exec (PySem.Stmt.Assign _ (PySem.Expr.ListComp _ _ _ _) _) _) _ _ _)); (fail_if_success (with_reducible show wpAny _ _ (PySem.eval (PySem.Expr.ListComp _ _ _ _) _) _ _ _)); (fail_if_success (with_reducible show LCg.CompSrc _ _ _ _ _ _ _ _ _ _ _ _ _ _)); (fail_if_success (with_reducible show LCt.CompSrcT _ _ _ _ _ _ _ _ _ _ _ _ _ _ _)); (fail_if_success (with_reducible show LCg.CompEnd _ _ _ _ _ _ _ _ _ _ _ _ _ _)); (fail_if_success (with_reducible show KswEnd _ _ _ _ _ _ _ _ _ _ _ _)); (fail_if_success (with_reducible show UnrEnd _ _ _ _ _ _ _)); first | (k_unfold; (try dsimp only)) | (k_end; wrow_close) | (with_reducible ((with_reducible show wpAny _ _ (PySem.call (PySem.Value.builtin "list.pop") _) _ _ _); (k_dflt (refine' list_pop0 (by k_asm) (by k_asm) (by repeat' first | assumption | (refine List.mem_cons_of_mem _ ?_)) ?z ?_; (case z => omega); intro h9y F9y N9y)))) | (with_reducible ((with_reducible show wpAny _ _ (getMethod (Value.ref _) (PySem.Str.ofString "pop") _) _ _ _); k_dflt (refine' kl_method ?N ?m PySem.F.slot_list_pop PySem.F.type_list_pop ?_; (case N => k_asm); (case m => repeat' first | assumption | (refine List.mem_cons_of_mem _ ?_))))) | ((with_reducible show wpAny _ _ (PySem.execs (List.cons _ _) _) _ _ _); walk1; (try (refine gen_s ?_; intro tkG; (try dsimp only); (try k_fold)))) | (walk1; (try dsimp only)) | (dsimp only; walk1) | (leave1; (try dsimp only)) | fail "no step")
  refine ne_nil_int (by k_asm) (.tail _ hpre) hi (.head _) (by ktr_units) ?_ ?_
  · rintro rfl
    repeat' ((fail_if_success (with_reducible show wpAny _ _ (PySem.exec (PySem.Stmt.While _ _ _ _) _) _ _ _)); (fail_if_success (with_reducible show wpAny _ _ (PySem.exec (PySem.Stmt.For _ _ _ _ _) _) _ _ _)); (fail_if_success (with_reducible show wpAny _ _ (PySem.exec (PySem.Stmt.Assign _ (PySem.Expr.ListComp _ _ _ _) _) _) _ _ _)); (fail_if_success (with_reducible show wpAny _ _ (PySem.eval (PySem.Expr.ListComp _ _ _ _) _) _ _ _)); (fail_if_success (with_reducible show LCg.CompSrc _ _ _ _ _ _ _ _ _ _ _ _ _ _)); (fail_if_success (with_reducible show LCt.CompSrcT _ _ _ _ _ _ _ _ _ _ _ _ _ _ _)); (fail_if_success (with_reducible show LCg.CompEnd _ _ _ _ _ _ _ _ _ _ _ _ _ _)); (fail_if_success (with_reducible show KswEnd _ _ _ _ _ _ _ _ _ _ _ _)); (fail_if_success (with_reducible show UnrEnd _ _ _ _ _ _ _)); first | (k_unfold; (try dsimp only)) | (k_end; wrow_close) | (with_reducible ((with_reducible show wpAny _ _ (PySem.call (PySem.Value.builtin "list.pop") _) _ _ _); (k_dflt (refine' list_pop0 (by k_asm) (by k_asm) (by repeat' first | assumption | (refine List.mem_cons_of_mem _ ?_)) ?z ?_; (case z => omega); intro h9y F9y N9y)))) | (with_reducible ((with_reducible show wpAny _ _ (getMethod (Value.ref _) (PySem.Str.ofString "pop") _) _ _ _); k_dflt (refine' kl_method ?N ?m PySem.F.slot_list_pop PySem.F.type_list_pop ?_; (case N => k_asm); (case m => repeat' first | assumption | (refine List.mem_cons_of_mem _ ?_))))) | ((with_reducible show wpAny _ _ (PySem.execs (List.cons _ _) _) _ _ _); walk1; (try (refine gen_s ?_; intro tkG; (try dsimp only); (try k_fold)))) | (walk1; (try dsimp only)) | (dsimp only; walk1) | (leave1; (try dsimp only)) | fail "no step")
    exact hret _ _ _ _ (by k_asm) (setRow_same (cb_drop (by k_asm) sub_tail) hpre) ⟨_, _, _, _, _, rfl, Int.le_refl 0, hm0, hi, hr, rfl⟩
  · rintro v r n q rfl rfl
    have hq := hr.2
    have hn := hr.1 n (.head _)
    cases hi with
    | cons n t3 hi' =>
    have hl := hi'.length
    rw [List.length_cons] at hq
    repeat' ((fail_if_success (with_reducible show wpAny _ _ (PySem.exec (PySem.Stmt.While _ _ _ _) _) _ _ _)); (fail_if_success (with_reducible show wpAny _ _ (PySem.exec (PySem.Stmt.For _ _ _ _ _) _) _ _ _)); (fail_if_success (with_reducible show wpAny _ _ (PySem.exec (PySem.Stmt.Assign _ (PySem.Expr.ListComp _ _ _ _) _) _) _ _ _)); (fail_if_success (with_reducible show wpAny _ _ (PySem.eval (PySem.Expr.ListComp _ _ _ _) _) _ _ _)); (fail_if_success (with_reducible show LCg.CompSrc _ _ _ _ _ _ _ _ _ _ _ _ _ _)); (fail_if_success (with_reducible show LCt.CompSrcT _ _ _ _ _ _ _ _ _ _ _ _ _ _ _)); (fail_if_success (with_reducible show LCg.CompEnd _ _ _ _ _ _ _ _ _ _ _ _ _ _)); (fail_if_success (with_reducible show KswEnd _ _ _ _ _ _ _ _ _ _ _ _)); (fail_if_success (with_reducible show UnrEnd _ _ _ _ _ _ _)); first | (k_unfold; (try dsimp only)) | (k_end; wrow_close) | (with_reducible ((with_reducible show wpAny _ _ (PySem.call (PySem.Value.builtin "list.pop") _) _ _ _); (k_dflt (refine' list_pop0 (by k_asm) (by k_asm) (by repeat' first | assumption | (refine List.mem_cons_of_mem _ ?_)) ?z ?_; (case z => omega); intro h9y F9y N9y)))) | (with_reducible ((with_reducible show wpAny _ _ (getMethod (Value.ref _) (PySem.Str.ofString "pop") _) _ _ _); k_dflt (refine' kl_method ?N ?m PySem.F.slot_list_pop PySem.F.type_list_pop ?_; (case N => k_asm); (case m => repeat' first | assumption | (refine List.mem_cons_of_mem _ ?_))))) | ((with_reducible show wpAny _ _ (PySem.execs (List.cons _ _) _) _ _ _); walk1; (try (refine gen_s ?_; intro tkG; (try dsimp only); (try k_fold)))) | (walk1; (try dsimp only)) | (dsimp only; walk1) | (leave1; (try dsimp only)) | fail "no step")
    exact hret _ _ _ _ (by k_asm) (cb_drop (by k_asm) fun p hp => .tail _ hp) ⟨_, _, _, _, _, rfl, Int.fmod_nonneg_of_pos _ hm0, Int.fmod_lt_of_pos _ hm0, hi', hr.tail, rfl⟩
/-- the ledger bears such a row -/
def RowIn (row : Addr) (news : Led) : Prop := ∃ vs ns c, (row, listOf vs.toArray c) ∈ news ∧ IntsAre vs ns ∧ RowOk ns
/-- the ledger has changed at the row alone, and may have grown -/
def RowStep (row : Addr) (news nw : Led) : Prop := (∀ p ∈ news, p.1 ≠ row → p ∈ nw) ∧ RowIn row nw
theorem RowIn.mono {row : Addr} {news nw : Led} (h : RowIn row news) (hs : ∀ p ∈ news, p ∈ nw) : RowIn row nw := by
  obtain ⟨vs, ns, c, h1, h2, h3⟩ := h
  exact ⟨vs, ns, c, hs _ h1, h2, h3⟩
theorem RowStep.refl {row : Addr} {news : Led} (h : RowIn row news) : RowStep row news news := ⟨fun _ hp _ => hp, h⟩
theorem RowStep.trans {row : Addr} {a b c : Led} (h : RowStep row a b) (h' : RowStep row b c) : RowStep row a c := ⟨fun p hp hn => h'.1 p (h.1 p hp hn) hn, h'.2⟩
theorem RowStep.cons {row : Addr} {a b : Led} {p : Addr × Obj} (h : RowStep row a b) : RowStep row a (p :: b) := ⟨fun q hq hn => .tail _ (h.1 q hq hn), h.2.mono fun _ hp => .tail _ hp⟩
theorem law_part (w mean mg mb) (row : Addr) (m : Int) (t : Tok) (hm0 : 0 < m) (hm1 : m ≤ 1000) : SpecO w mean mg mb 461 20 200 [.ref row, .int m t] (fun news => RowIn row news)
    (fun r news nw => ∃ k t, r = .int k t ∧ 0 ≤ k ∧ k < m ∧ RowStep row news nw) := by
  intro dp un gd cn cs a ccd cl outer A₀ base h₀ L mm news s Q E B F X N T hk ⟨vs, ns, c, hm, hi, hr⟩ hd hu hret
  refine law_part_spec w mean mg mb row ns vs c m t hi hr hm0 hm1 dp un gd cn cs a ccd cl outer A₀ base h₀ L mm news s Q E B F X N T hk hm hd hu fun r nw h' tk' F' N' ⟨k, t, vs', ns', c', h1, h2, h3, h4, h5, h6⟩ => ?_
  refine hret r nw h' tk' F' N' ⟨k, t, h1, h2, h3, fun p hp hn => ?_, vs', ns', c', ?_, h4, h5⟩
  · rw [h6]
    exact List.mem_map.mpr ⟨p, hp, by rw [if_neg hn]⟩
  · rw [h6]; exact mem_setRow hm

example : True := by (w_top off; exact True.intro)
open PySem.MeetsSeq PySem.MeetsSeq2 in
theorem wpAny_forIn_rg {M : Model} {A : Around} {E : Value → Shared → Prop} {s : Shared} {β : Type} {a n : Nat} (f : Nat → β → Sem (ForInStep β)) (I : Nat → β → Shared → Prop) (Q : β → Shared → Prop)
    (turn : ∀ i b s, a ≤ i → i < n → I i b s → wpAny M A (f i b) (fun r s' => match r with | .yield b' => I (i + 1) b' s' | .done b' => Q b' s') E s)
    (fin : ∀ b s, I n b s → Q b s) (b : β) (ha : a ≤ n) (h : I a b s) : wpAny M A (forIn [a:n] b f) Q E s := by
  rw [Std.Legacy.Range.forIn_eq_forIn_range']
  have hsz : ([a:n] : Std.Legacy.Range).size = n - a := by simp [Std.Legacy.Range.size]
  show wpAny M A (forIn (List.range' a ([a:n] : Std.Legacy.Range).size 1) b f) Q E s
  rw [hsz]
  refine wpAny_forIn_list f (fun l b st => ∃ i, a ≤ i ∧ i ≤ n ∧ l = List.range' i (n - i) 1 ∧ I i b st) Q ?_ ?_ _ b ⟨a, Nat.le_refl _, ha, rfl, h⟩
  · rintro x rest b st ⟨i, hai, hin, hl, hI⟩
    have hlt : i < n := by
      rcases Nat.lt_or_ge i n with h' | h'
      · exact h'
      · rw [show n - i = 0 by omega] at hl; simp at hl
    obtain ⟨k, hk⟩ : ∃ k, n - i = k + 1 := ⟨n - i - 1, by omega⟩
    rw [hk, List.range'_succ] at hl
    obtain ⟨rfl, rfl⟩ := List.cons.inj hl
    refine wpAny_mono (turn x b st hai hlt hI) (fun r st' h' => ?_) fun _ _ e => e
    cases r with
    | done c' => exact h'
    | yield c' => exact ⟨x + 1, by omega, by omega, by congr 1; omega, h'⟩
  · rintro c st ⟨i, hai, hib, hl, hI⟩
    have : i = n := by
      rcases Nat.lt_or_ge i n with h' | h'
      · obtain ⟨k, hk⟩ : ∃ k, n - i = k + 1 := ⟨n - i - 1, by omega⟩
        rw [hk, List.range'_succ] at hl; simp at hl
      · omega
    subst this; exact fin _ _ hI
open PySem.MeetsSeq PySem.MeetsSeq2 PySem.AutoSeq1 in
theorem tuple_indexM (l : Addr) (items : Array Value) (n : Nat) (x : Value) (e : Value → Bool) (he : ∀ y, y ∈ items → EqGives y x (e y)) (j : Nat) (hj : j < items.size) (hit : e items[j] = true) (hno : ∀ m (hm : m < items.size), m < j → e items[m] = false) :
    Meets (Builtin.«tuple.index» ⟨[.ref l, x], []⟩)
      (fun _ R s => s.heap.get? l = some { cls := .type "tuple", dict := none, data := .seq items n, slots := #[] } ∧ R (.ok (.ret (.int j s.toks))) { s with toks := s.toks + 1 }) :=
  .of_wp fun prog w A R s h => by
    obtain ⟨hp, g, d, tk, os⟩ := s; obtain ⟨hl, h⟩ := h
    wp_walk using wpAny_loadPart' hl, wpAny_forIn_rg _ (fun i b s' => b.1 = none ∧ s' = ⟨hp, g, d, tk, os⟩ ∧ i ≤ j) _
    case turn =>
      rintro i b s' - hlt ⟨hb, rfl, hij⟩
      have hlt' : i < items.size := by omega
      rw [Array.getElem?_eq_getElem hlt']
      refine wpAny_bind (he _ (Array.getElem_mem hlt') prog w _ _ _ _ ?_)
      rcases Nat.lt_or_ge i j with q | q
      · rw [hno i hlt' q]
        wp_walk
        exact ⟨rfl, rfl, q⟩
      · obtain rfl : i = j := Nat.le_antisymm hij q
        rw [hit]
        wp_walk
        exact ⟨_, rfl, h⟩
    case fin =>
      rintro ⟨b1, b2⟩ s' ⟨hb, rfl, hij⟩
      omega
    case h =>
      exact ⟨rfl, rfl, Nat.zero_le _⟩
    case ha => exact Nat.zero_le _

example : True := by (w_top off; exact True.intro)
theorem isStr_at {k : Str} : ∀ {vs : List Value} {ys : List Str}, StrsAre vs ys → ∀ (i : Nat) (h : i < vs.length), isStrOf k vs[i] = (ys.getD i Str.empty == k)
  | _, _, .nil, _, h => absurd h (Nat.not_lt_zero _)
  | _, _, .cons _ _ _, 0, _ => rfl
  | _, _, .cons _ _ r, i + 1, h => isStr_at r i (Nat.lt_of_succ_lt_succ h)
section
variable {prog : Program} {w : World} {A : Around} {E : Value → Shared → Prop} {s : Shared} {h₀ : Heap} {L D : Addr} {news : Led} {vs : List Value} {ys : List Str} {n j : Nat} {k : Str} {t : Tok}
theorem tup_method {name : Str} {id : String} {pl : Sem Bool} {Q : Value × List Value → Shared → Prop} (N : News h₀ L s.heap news) (hm : (D, tupO vs n) ∈ news) (slot : Slot "tuple" name id) (hty : typeOf (.builtin id) = pure (.type "method_descriptor"))
    (h : Q (.builtin id, [.ref D]) s) : wpAny (model prog w) A (getMethod (.ref D) name pl) Q E s :=
  getMethod_builtin ⟨_, (N _ hm).1, rfl⟩ PySem.F.plainAttrs_tuple slot hty (fun a e => by cases e; exact ⟨_, (N _ hm).1, rfl⟩) h
theorem tup_index {Q : Value → Shared → Prop} (N : News h₀ L s.heap news) (hm : (D, tupO vs n) ∈ news) (hs : StrsAre vs ys) (hj : j < ys.length) (he : ys.getD j Str.empty = k) (hno : ∀ i, i < j → ys.getD i Str.empty ≠ k)
    (h : ∀ t k, Q (.int j t) { s with toks := k }) : wpAny (model prog w) A (call (.builtin "tuple.index") [.ref D, .str k t]) Q E s := by
  have hl : vs.length = ys.length := hs.length
  refine call_meets PySem.F.slot_tuple_index ⟨_, (N _ hm).1, rfl⟩ PySem.F.entry_tuple_index (PySem.F.args_tuple_index_2 _ _)
    (tuple_indexM D vs.toArray n (.str k t) (isStrOf k) (fun y hy => eq_isStrOf k t hs y (by simpa using hy)) j (by simpa [hl] using hj) ?_ ?_) ⟨(N _ hm).1, h _ _⟩
  · have := isStr_at (k := k) hs j (by omega)
    rw [he] at this
    simpa using this
  · intro m hm' hlt
    have := isStr_at (k := k) hs m (by simpa using hm')
    rw [beq_eq_false_iff_ne.mpr (hno m hlt)] at this
    simpa using this
theorem lst_index {Q : Value → Shared → Prop} (N : News h₀ L s.heap news) (hm : (D, listOf vs.toArray n) ∈ news) (hs : StrsAre vs ys) (hj : j < ys.length) (he : ys.getD j Str.empty = k) (hno : ∀ i, i < j → ys.getD i Str.empty ≠ k) (hz : ys.length ≤ 100)
    (h : ∀ t k, Q (.int j t) { s with toks := k }) : wpAny (model prog w) A (call (.builtin "list.index") [.ref D, .str k t]) Q E s := by
  have hl : vs.length = ys.length := hs.length
  refine call_meets PySem.F.slot_list_index ⟨_, (N _ hm).1, rfl⟩ PySem.F.entry_list_index (PySem.F.args_list_index_2 _ _)
    (MeetsSeq.list_index D vs.toArray n (.str k t) (isStrOf k) (fun y hy => eq_isStrOf k t hs y (by simpa using hy)) j (by simpa [hl] using hj) (by omega) ?_ ?_) ⟨(N _ hm).1, h _ _⟩
  · have := isStr_at (k := k) hs j (by omega)
    rw [he] at this
    simpa using this
  · intro m hm' hlt
    have := isStr_at (k := k) hs m (by simpa using hm')
    rw [beq_eq_false_iff_ne.mpr (hno m hlt)] at this
    simpa using this
end
def rkL : List Str := [Str.ofString "NULL", Str.ofString "logical", Str.ofString "integer", Str.ofString "double", Str.ofString "character", Str.ofString "list", Str.ofString "expression"]
/-- the name of a rank -/
def rn (i : Nat) : Str := rkL.getD i Str.empty
theorem rn_inj : ∀ i, i < 7 → ∀ j, j < 7 → rn i = rn j → i = j := by decide +kernel
theorem rn_any : ∀ i, i < 7 → rkL.any (· == rn i) = true := by decide +kernel
theorem rn_ne {i j : Nat} (hi : i < 7) (hj : j < 7) (h : i ≠ j) : rn i ≠ rn j := fun e => h (rn_inj i hi j hj e)
section
variable {prog : Program} {w : World} {A : Around} {E : Value → Shared → Prop} {s : Shared} {h₀ : Heap} {L D : Addr} {news : Led} {vs : List Value} {n i : Nat} {t : Tok}
theorem rk_in {Q : Value → Shared → Prop} (N : News h₀ L s.heap news) (hm : (D, tupO vs n) ∈ news) (hs : StrsAre vs rkL) (hi : i < 7) (h : Q (.bool true) s) : wpAny (model prog w) A (compareOp .In (.str (rn i) t) (.ref D)) Q E s :=
  in_tuple_strs (items := vs.toArray) ⟨_, (N _ hm).1, rfl, _, rfl⟩ hs (by rw [rn_any i hi]; exact h)
theorem rk_index {Q : Value → Shared → Prop} (N : News h₀ L s.heap news) (hm : (D, tupO vs n) ∈ news) (hs : StrsAre vs rkL) (hi : i < 7) (h : ∀ t k, Q (.int i t) { s with toks := k }) : wpAny (model prog w) A (call (.builtin "tuple.index") [.ref D, .str (rn i) t]) Q E s :=
  tup_index N hm hs hi rfl (fun j hj => rn_ne (by omega) hi (by omega)) h
theorem rk_indexL {Q : Value → Shared → Prop} (N : News h₀ L s.heap news) (hm : (D, listOf vs.toArray n) ∈ news) (hs : StrsAre vs rkL) (hi : i < 7) (h : ∀ t k, Q (.int i t) { s with toks := k }) : wpAny (model prog w) A (call (.builtin "list.index") [.ref D, .str (rn i) t]) Q E s :=
  lst_index N hm hs hi rfl (fun j hj => rn_ne (by omega) hi (by omega)) (by decide) h
theorem rk_item {Q : Value → Shared → Prop} {value slice : PySem.Expr} {k : Int} {u : Tok} (N : News h₀ L s.heap news) (hm : (D, tupO vs n) ∈ news) (hs : StrsAre vs rkL) (h0 : 0 ≤ k) (h1 : k < 7) (h : ∀ t, Q (.str (rn k.toNat) t) s)
    (hs2 : subscripted slice false (.ref D) (.int k u) = operate [.ref D, .int k u] (getItem (.ref D) (.int k u)) := by with_unfolding_all rfl) : wpAny (model prog w) A (subscriptTail value slice (.ref D) (.int k u)) Q E s :=
  KTb.item_tup (vs := vs) ⟨_, (N _ hm).1, rfl, _, rfl⟩ hs h0 h1 (by omega) (fun t _ => h t) hs2
theorem rk_itemL {Q : Value → Shared → Prop} {value slice : PySem.Expr} {k : Int} {u : Tok} (N : News h₀ L s.heap news) (hm : (D, listOf vs.toArray n) ∈ news) (hs : StrsAre vs rkL) (h0 : 0 ≤ k) (h1 : k < 7) (h : ∀ t, Q (.str (rn k.toNat) t) s)
    (hs2 : subscripted slice false (.ref D) (.int k u) = operate [.ref D, .int k u] (getItem (.ref D) (.int k u)) := by with_unfolding_all rfl) : wpAny (model prog w) A (subscriptTail value slice (.ref D) (.int k u)) Q E s :=
  KTb.item_list (vs := vs) ⟨_, (N _ hm).1, rfl, _, rfl⟩ hs h0 h1 (by omega) (fun t _ => h t) hs2
end
theorem rkAre {t0 t1 t2 t3 t4 t5 t6 : Tok} : StrsAre [.str (Str.ofString "NULL") t0, .str (Str.ofString "logical") t1, .str (Str.ofString "integer") t2, .str (Str.ofString "double") t3, .str (Str.ofString "character") t4, .str (Str.ofString "list") t5, .str (Str.ofString "expression") t6] rkL :=
  .cons _ _ (.cons _ _ (.cons _ _ (.cons _ _ (.cons _ _ (.cons _ _ (.cons _ _ .nil))))))
theorem kind_order (w mean mg mb) (i : Nat) (hi : i < 7) (t : Tok) : SpecV w mean mg mb 332 20 160 [.str (rn i) t] (fun _ => True) (fun r => ∃ t, r = .int i t) := by
  unfold SpecV
  k_fill
  intro dp un gd cn cs a ccd cl outer A₀ base h₀ L m news s Q E B F X N T hk hpre hd hu hret
  refine wpAny_call ?_
  k_dflt cell_enter
  refine abs_A ?_
  intro A9a
  repeat' ((fail_if_success (with_reducible show wpAny _ _ (PySem.exec (PySem.Stmt.While _ _ _ _) _) _ _ _)); (fail_if_success (with_reducible show wpAny _ _ (PySem.exec (PySem.Stmt.For _ _ _ _ _) _) _ _ _)); (fail_if_success (with_reducible show wpAny _ _ (PySem.exec (PySem.Stmt.Assign _ (PySem.Expr.ListComp _ _ _ _) _) _) _ _ _)); (fail_if_success (with_reducible show wpAny _ _ (PySem.eval (PySem.Expr.ListComp _ _ _ _) _) _ _ _)); (fail_if_success (with_reducible show LCg.CompSrc _ _ _ _ _ _ _ _ _ _ _ _ _ _)); (fail_if_success (with_reducible show LCt.CompSrcT _ _ _ _ _ _ _ _ _ _ _ _ _ _ _)); (fail_if_success (with_reducible show LCg.CompEnd _ _ _ _ _ _ _ _ _ _ _ _ _ _)); (fail_if_success (with_reducible show KswEnd _ _ _ _ _ _ _ _ _ _ _ _)); (fail_if_success (with_reducible show UnrEnd _ _ _ _ _ _ _)); first | (k_unfold; (try dsimp only)) | (k_end; wrow_close) | (with_reducible ((with_reducible show wpAny _ _ (compareOp _ (Value.str (rn _) _) _) _ _ _); k_dflt (refine' rk_in ?N ?m rkAre ?i ?_; (case N => k_asm); (case m => k_mem); (case i => first | assumption | omega)))) | (with_reducible ((with_reducible show wpAny _ _ (PySem.call (PySem.Value.builtin "tuple.index") _) _ _ _); (k_dflt (refine' rk_index ?N ?m rkAre ?i ?_; (case N => k_asm); (case m => k_mem); (case i => first | assumption | omega)); intro t9z k9z))) | (with_reducible ((with_reducible show wpAny _ _ (getMethod (Value.ref _) (PySem.Str.ofString "index") _) _ _ _); k_dflt (refine' tup_method ?N ?m PySem.F.slot_tuple_index PySem.F.type_tuple_index ?_; (case N => k_asm); (case m => k_mem)))) | walk1 | (dsimp only; walk1) | (leave1; (try dsimp only)) | fail "no step")
  exact hret _ _ _ (by k_asm) (cb_drop (by k_asm) fun p hp => .tail _ hp) ⟨_, rfl⟩

example : True := by (w_top off; exact True.intro)

theorem exponent_spec (w mean mg mb) (x : Addr) (n d : Int) (t1 t2 : Tok) (c : Nat) (hd0 : 0 < d) (hn : d ≤ n.natAbs) (hb : n.natAbs < 10 ^ 8) : SpecV w mean mg mb 143 20 160 [.ref x] (fun news => (x, tupO [.int n t1, .int d t2] c) ∈ news)
    (fun r => ∃ (e : Nat) (t : Tok), r = .int e t ∧ d * 10 ^ e ≤ n.natAbs ∧ (n.natAbs : Int) < d * 10 ^ (e + 1)) := by
  unfold SpecV
  k_fill
  intro dp un gd cn cs a ccd cl outer A₀ base h₀ L m news s Q E B F X N T hk hpre hd hu hret
  refine wpAny_call ?_
  k_dflt cell_enter
  refine abs_A ?_
  intro A9a
  repeat' ((fail_if_success (with_reducible show wpAny _ _ (PySem.exec (PySem.Stmt.While _ _ _ _) _) _ _ _)); (fail_if_success (with_reducible show wpAny _ _ (PySem.exec (PySem.Stmt.For _ _ _ _ _) _) _ _ _)); (fail_if_success (with_reducible show wpAny _ _ (PySem.eval (PySem.Expr.ListComp _ _ _ _) _) _ _ _)); (fail_if_success (with_reducible show KswEnd _ _ _ _ _ _ _ _ _ _ _ _)); (fail_if_success (with_reducible show UnrEnd _ _ _ _ _ _ _)); first | (k_unfold; (try dsimp only)) | (k_end; wrow_close) | ((with_reducible show wpAny _ _ (PySem.eval (PySem.Expr.Call (PySem.Expr.Name _ _) _ _) _) _ _ _); (refine Call_ ?_)) | ((with_reducible show wpAny _ _ (PySem.execs (List.cons _ _) _) _ _ _); walk1; (try (refine gen_s ?_; intro tkG; (try dsimp only); (try k_fold)))) | (walk1; (try dsimp only)) | (dsimp only; walk1) | (leave1; (try dsimp only)) | fail "no step")
  have hab : (if n < 0 then -n else n) = (n.natAbs : Int) := by split <;> omega
  refine' ksw_while (fun _ => news) (fun c : Nat × Int × Tok × Tok => [(Str.ofString "d", .int c.2.1 c.2.2.1), (Str.ofString "e", .int c.1 c.2.2.2)]) (fun _ => True) [Str.ofString "d", Str.ofString "e"] (fun c => c.2.1 = d * 10 ^ c.1 ∧ 0 < c.2.1 ∧ c.2.1 ≤ n.natAbs) (fun c => n.natAbs - c.2.1.toNat) (0, d, _, _) (by k_asm) (by k_asm) trivial ?kH ?kP ?_
  case kP => exact ⟨by simp, hd0, hn⟩
  case kH => (refine' List.forall_mem_cons.mpr ⟨?_, List.forall_mem_cons.mpr ⟨?_, keys_nil⟩⟩ <;> with_unfolding_all exact rfl)
  rintro ⟨e, dd, t3, t4⟩ u h tk - ⟨h1, h2, h3⟩ F N
  dsimp only at h1 h2 h3
  dsimp only [kstB] at F
  repeat' ((fail_if_success (with_reducible show wpAny _ _ (PySem.exec (PySem.Stmt.While _ _ _ _) _) _ _ _)); (fail_if_success (with_reducible show wpAny _ _ (PySem.exec (PySem.Stmt.For _ _ _ _ _) _) _ _ _)); (fail_if_success (with_reducible show wpAny _ _ (PySem.eval (PySem.Expr.ListComp _ _ _ _) _) _ _ _)); (fail_if_success (with_reducible show KswEnd _ _ _ _ _ _ _ _ _ _ _ _)); (fail_if_success (with_reducible show UnrEnd _ _ _ _ _ _ _)); first | (k_unfold; (try dsimp only)) | (k_end; wrow_close) | ((with_reducible show wpAny _ _ (PySem.eval (PySem.Expr.Call (PySem.Expr.Name _ _) _ _) _) _ _ _); (refine Call_ ?_)) | ((with_reducible show wpAny _ _ (PySem.execs (List.cons _ _) _) _ _ _); walk1; (try (refine gen_s ?_; intro tkG; (try dsimp only); (try k_fold)))) | (walk1; (try dsimp only)) | (dsimp only; walk1) | (leave1; (try dsimp only)) | fail "no step")
  · rw [hab] at *
    refine' ksw_end (e + 1, dd * 10, _, _) (by k_asm) (by k_asm) sub_refl trivial ?hk1 (by ksw_same) ⟨?h5, ?h6, ?h7⟩ ?h8
    case hk1 => (refine' List.forall_mem_cons.mpr ⟨?_, List.forall_mem_cons.mpr ⟨?_, keys_nil⟩⟩ <;> with_unfolding_all exact rfl)
    case h5 => show dd * 10 = d * 10 ^ (e + 1); rw [h1, Int.pow_succ, Int.mul_assoc]
    all_goals (dsimp only; omega)
  · refine' ksw_while (fun _ => news) (fun _ : Unit => []) (fun _ => True) [] (fun _ => True) (fun _ => 0) () (by k_asm) (by k_asm) trivial keys_nil trivial ?_
    rintro ⟨⟩ u2 h5 tk5 - - F5 N5
    dsimp only [kstB] at F5
    repeat' ((fail_if_success (with_reducible show wpAny _ _ (PySem.exec (PySem.Stmt.While _ _ _ _) _) _ _ _)); (fail_if_success (with_reducible show wpAny _ _ (PySem.exec (PySem.Stmt.For _ _ _ _ _) _) _ _ _)); (fail_if_success (with_reducible show wpAny _ _ (PySem.eval (PySem.Expr.ListComp _ _ _ _) _) _ _ _)); (fail_if_success (with_reducible show KswEnd _ _ _ _ _ _ _ _ _ _ _ _)); (fail_if_success (with_reducible show UnrEnd _ _ _ _ _ _ _)); first | (k_unfold; (try dsimp only)) | (k_end; wrow_close) | ((with_reducible show wpAny _ _ (PySem.eval (PySem.Expr.Call (PySem.Expr.Name _ _) _ _) _) _ _ _); (refine Call_ ?_)) | ((with_reducible show wpAny _ _ (PySem.execs (List.cons _ _) _) _ _ _); walk1; (try (refine gen_s ?_; intro tkG; (try dsimp only); (try k_fold)))) | (walk1; (try dsimp only)) | (dsimp only; walk1) | (leave1; (try dsimp only)) | fail "no step")
    refine hret _ _ _ (by k_asm) (by k_asm) ⟨e, _, rfl, by rw [← h1]; exact h3, ?_⟩
    rw [Int.pow_succ, ← Int.mul_assoc, ← h1]; omega

example : True := by (w_top off; exact True.intro)
theorem abs_natAbs {prog : Program} {w : World} {A : Around} {E : Value → Shared → Prop} {s : Shared} {a : Int} {t : Tok} {Q : Value → Shared → Prop} (h : ∀ u tk, Q (.int (a.natAbs : Int) u) { s with toks := tk }) :
    wpAny (model prog w) A (call (.builtin "abs") [.int a t]) Q E s :=
  call_abs_int fun u tk => by
    have e : (if a < 0 then -a else a) = (a.natAbs : Int) := by split <;> omega
    rw [e]; exact h u tk

theorem scaled_spec (w mean mg mb) (x : Addr) (n d q : Int) (e : Nat) (t1 t2 t3 t4 : Tok) (c : Nat) (hd0 : 0 < d) (hd1 : d ≤ 1000) (hn : n.natAbs < 10 ^ 8) (he : e ≤ 10)
    (hq : (n.natAbs : Int) * 10 ^ (14 - e) = q * d) : SpecV w mean mg mb 164 21 180 [.ref x, .int e t3, .int 15 t4] (fun news => (x, tupO [.int n t1, .int d t2] c) ∈ news)
    (fun r => ∃ t, r = .int q t) := by
  have hq' : (n.natAbs : Int) * 10 ^ (15 - 1 - (e : Int)).toNat = q * d := by
    rw [show (15 - 1 - (e : Int)).toNat = 14 - e by omega]; exact hq
  have hb : ((n.natAbs : Int) * 10 ^ (15 - 1 - (e : Int)).toNat).natAbs < 10 ^ 30 := by
    rw [Int.natAbs_mul, Int.natAbs_natCast, Int.natAbs_pow]
    have h1 : (10 : Int).natAbs ^ (15 - 1 - (e : Int)).toNat ≤ 10 ^ 14 := Nat.pow_le_pow_right (by decide) (by omega)
    calc n.natAbs * (10 : Int).natAbs ^ (15 - 1 - (e : Int)).toNat ≤ 10 ^ 8 * 10 ^ 14 := Nat.mul_le_mul (by omega) h1
      _ < 10 ^ 30 := by decide
  unfold SpecV
  k_fill
  intro dp un gd cn cs a ccd cl outer A₀ base h₀ L m news s Q E B F X N T hk hpre hd hu hret
  refine wpAny_call ?_
  k_dflt cell_enter
  refine abs_A ?_
  intro A9a
  repeat' ((fail_if_success (with_reducible show wpAny _ _ (PySem.exec (PySem.Stmt.While _ _ _ _) _) _ _ _)); (fail_if_success (with_reducible show wpAny _ _ (PySem.exec (PySem.Stmt.For _ _ _ _ _) _) _ _ _)); (fail_if_success (with_reducible show wpAny _ _ (PySem.eval (PySem.Expr.ListComp _ _ _ _) _) _ _ _)); (fail_if_success (with_reducible show KswEnd _ _ _ _ _ _ _ _ _ _ _ _)); (fail_if_success (with_reducible show UnrEnd _ _ _ _ _ _ _)); first | (k_unfold; (try dsimp only)) | (k_end; wrow_close) | ((with_reducible show wpAny _ _ (PySem.call (Value.ref _) _) _ _ _); first | (with_reducible ((with_reducible show wpAny _ _ (PySem.call (Value.ref 136) _) _ _ _); k_dflt (refine' useV (nearest_whole_spec _ _ _ _ _ _ _ _ _ ?kq1 ?kq2 ?kq3 ?kq4) ?k1 ?k2 ?k3 ?k4 ?k5 ?kK ?kp ?kd ?ku ?_; (case k1 => k_asm); (case k2 => k_asm); (case k3 => k_asm); (case k4 => k_asm); (case k5 => k_asm); (case kK => first | exact rfl | assumption); (case kp => trivial); (case kd => ktr_room); (case ku => ktr_units); (case kq1 => assumption); (case kq2 => omega); (case kq3 => omega); (case kq4 => assumption); intro r9z h9z tk9z F9z N9z hr9z; obtain ⟨t9z, hr9z⟩ := hr9z; subst hr9z; (try dsimp only); (try k_sweep))))) | ((with_reducible show wpAny _ _ (PySem.eval (PySem.Expr.Call (PySem.Expr.Name _ _) _ _) _) _ _ _); (refine Call_ ?_)) | (with_reducible ((with_reducible show wpAny _ _ (PySem.call (PySem.Value.builtin "abs") _) _ _ _); (refine abs_natAbs ?_; intro u9z k9z))) | walk1 | (dsimp only; walk1) | (leave1; (try dsimp only)) | fail "no step")
  exact hret _ _ _ (by k_asm) (by k_asm) ⟨_, rfl⟩

example : True := by (w_top off; exact True.intro)
open PyProof in
abbrev sO (l : List Nat) : Str := ⟨l.toArray⟩
/-- the signs of a number's decimal digits -/
def ds (m : Nat) : List Nat := (Nat.toDigits 10 m).map Char.toNat
theorem str_ds (m : Nat) : Str.ofString (toString (m : Int)) = sO (ds m) := text_ofNat m
theorem digitCode : ∀ d : Nat, d < 10 → (Nat.digitChar d).toNat = 48 + d := by decide
theorem ds_small {m : Nat} (h : m < 10) : ds m = [48 + m] := by
  unfold ds
  rw [Nat.toDigits_of_lt_base h]
  simp [digitCode m h]
theorem ds_step {m d : Nat} (hm : 0 < m) (h : d < 10) : ds (10 * m + d) = ds m ++ [48 + d] := by
  unfold ds
  rw [← Nat.toDigits_append_toDigits (by decide) hm h, Nat.toDigits_of_lt_base h, List.map_append]
  simp [digitCode d h]
theorem ds_all (m : Nat) : ∀ c ∈ ds m, 48 ≤ c ∧ c ≤ 57 := by
  induction m using Nat.strongRecOn with
  | _ m ih =>
    intro c hc
    by_cases h : m < 10
    · rw [ds_small h] at hc
      simp at hc; omega
    · have e : m = 10 * (m / 10) + m % 10 := by omega
      rw [e, ds_step (by omega) (Nat.mod_lt _ (by decide))] at hc
      rcases List.mem_append.mp hc with q | q
      · exact ih (m / 10) (by omega) c q
      · simp at q; omega
theorem ds_len {m : Nat} : ∀ {k : Nat}, 10 ^ k ≤ m → m < 10 ^ (k + 1) → (ds m).length = k + 1 := by
  intro k
  induction k generalizing m with
  | zero => intro _ h; rw [ds_small (by simpa using h)]; rfl
  | succ k ih =>
    intro h1 h2
    have e : m = 10 * (m / 10) + m % 10 := by omega
    have h3 : 10 ^ k ≤ m / 10 := by rw [Nat.le_div_iff_mul_le (by decide)]; rw [Nat.pow_succ] at h1; exact h1
    have h4 : m / 10 < 10 ^ (k + 1) := by rw [Nat.div_lt_iff_lt_mul (by decide)]; rw [Nat.pow_succ] at h2; exact h2
    have h5 : 0 < 10 ^ k := Nat.pow_pos (by decide)
    rw [e, ds_step (by omega) (Nat.mod_lt _ (by decide)), List.length_append, ih h3 h4]
    rfl
theorem ds_mul {m : Nat} (hm : 0 < m) (k : Nat) : ds (m * 10 ^ k) = ds m ++ List.replicate k 48 := by
  induction k with
  | zero => simp
  | succ k ih =>
    have e : m * 10 ^ (k + 1) = 10 * (m * 10 ^ k) + 0 := by rw [Nat.pow_succ]; ac_rfl
    rw [e, ds_step (Nat.mul_pos hm (Nat.pow_pos (by decide))) (by decide), ih, List.append_assoc, List.replicate_succ']
theorem ds_last (m : Nat) : ∃ l, ds m = l ++ [48 + m % 10] := by
  by_cases h : m < 10
  · exact ⟨[], by rw [ds_small h, Nat.mod_eq_of_lt h]; rfl⟩
  · have e : m = 10 * (m / 10) + m % 10 := by omega
    refine ⟨ds (m / 10), ?_⟩
    conv => lhs; rw [e]
    exact ds_step (by omega) (Nat.mod_lt _ (by decide))
theorem ds_ne (m : Nat) : ds m ≠ [] := by
  obtain ⟨l, h⟩ := ds_last m
  rw [h]; simp
theorem ds_pos (m : Nat) : 0 < (ds m).length := List.length_pos_iff.mpr (ds_ne m)
/-- the number that digits say -/
def val (l : List Nat) : Nat := l.foldl (fun a c => a * 10 + (c - 48)) 0
theorem val_snoc (l : List Nat) (c : Nat) : val (l ++ [c]) = val l * 10 + (c - 48) := by unfold val; rw [List.foldl_append]; rfl
theorem val_ds (m : Nat) : val (ds m) = m := by
  induction m using Nat.strongRecOn with
  | _ m ih =>
    by_cases h : m < 10
    · rw [ds_small h]; unfold val; simp
    · have e : m = 10 * (m / 10) + m % 10 := by omega
      conv => lhs; rw [e]
      rw [ds_step (by omega) (Nat.mod_lt _ (by decide)), val_snoc, ih (m / 10) (by omega)]
      omega
theorem str_neg (m : Nat) (hm : 0 < m) : Str.ofString (toString (-(m : Int))) = sO (45 :: ds m) := by
  obtain ⟨k, rfl⟩ : ∃ k, m = k + 1 := ⟨m - 1, by omega⟩
  have e : toString (-((k + 1 : Nat) : Int)) = "-" ++ Nat.repr (k + 1) := rfl
  have h := str_ds (k + 1)
  rw [show toString ((k + 1 : Nat) : Int) = Nat.repr (k + 1) from rfl, Str.ofString_eq_toList] at h
  have h' : (Nat.repr (k + 1)).toList.map Char.toNat = ds (k + 1) := by
    have := congrArg (fun x : Str => x.cps.toList) h
    simpa using this
  rw [e, Str.ofString_eq_toList, String.toList_append, List.map_append, h']
  rfl
/-- an int's text -/
theorem str_int (n : Int) : Str.ofString (toString n) = sO ((if n < 0 then [45] else []) ++ ds n.natAbs) := by
  by_cases h : n < 0
  · rw [if_pos h]
    have e : n = -((n.natAbs : Nat) : Int) := by omega
    conv => lhs; rw [e]
    exact str_neg _ (by omega)
  · rw [if_neg h]
    have e : n = ((n.natAbs : Nat) : Int) := by omega
    conv => lhs; rw [e]
    exact str_ds _
theorem item_sO (l : List Nat) (i : Int) (h0 : 0 ≤ i) (h : i < l.length) : Txt.item (sO l) i = sO [l.getD i.toNat 0] := by
  have hs : seqIndex? i (sO l).length = some i.toNat := seqIndex_of h0 (by simpa [Str.length] using h)
  have hg : l[i.toNat]? = some (l.getD i.toNat 0) := by
    have h2 : i.toNat < l.length := by omega
    simp [List.getD, h2]
  unfold Txt.item Txt.charAt
  rw [hs]
  show (⟨#[((l.toArray)[i.toNat]?).getD 0]⟩ : Str) = _
  rw [List.getElem?_toArray, hg]
  rfl
theorem range_max (a b : Int) : sliceRange a b 1 = sliceRange a (max a b) 1 := by
  unfold sliceRange
  by_cases h : a < b
  · rw [show max a b = b by omega]
  · rw [show max a b = a by omega]
    simp [h]
theorem cast_max (a b : Nat) : max (a : Int) (b : Int) = ((max a b : Nat) : Int) := by omega
def clipV (v : Option Int) (d : Int) (n : Nat) : Int := match v with
  | none => d
  | some i => max 0 (min (if i < 0 then i + n else i) n)
theorem idx_clip (lo hi : Option Int) (n : Nat) : Builtin.Str.strSliceIndices lo hi 1 n = sliceRange (clipV lo 0 n) (clipV hi n n) 1 := by
  cases lo <;> cases hi <;> rfl
theorem clipV_some {i : Int} (d : Int) (n : Nat) (h : 0 ≤ i) : clipV (some i) d n = ((min i.toNat n : Nat) : Int) := by
  show max 0 (min (if i < 0 then i + n else i) n) = _
  rw [if_neg (Int.not_lt.mpr h)]
  obtain ⟨a, rfl⟩ := Int.eq_ofNat_of_zero_le h
  rw [Int.max_eq_right (Int.le_min.mpr ⟨h, Int.natCast_nonneg n⟩), Int.toNat_natCast]
  omega
theorem slice_idx (lo hi : Option Int) (n : Nat) (i j : Int) (hlo : (lo = none ∧ i = 0) ∨ lo = some i) (hhi : (hi = none ∧ j = n) ∨ hi = some j) (h0 : 0 ≤ i) (h1 : 0 ≤ j) :
    Builtin.Str.strSliceIndices lo hi 1 n = Builtin.Str.strSliceIndices (some ((min i.toNat n : Nat) : Int)) (some ((max (min i.toNat n) (min j.toNat n) : Nat) : Int)) 1 n := by
  have e1 : clipV lo 0 n = ((min i.toNat n : Nat) : Int) := by
    rcases hlo with ⟨rfl, rfl⟩ | rfl
    · show (0 : Int) = _
      rw [Int.toNat_zero, Nat.zero_min]; rfl
    · exact clipV_some _ _ h0
  have e2 : clipV hi n n = ((min j.toNat n : Nat) : Int) := by
    rcases hhi with ⟨rfl, rfl⟩ | rfl
    · show (n : Int) = _
      rw [Int.toNat_natCast, Nat.min_self]
    · exact clipV_some _ _ h1
  rw [idx_clip, idx_clip, e1, e2, clipV_some _ _ (Int.natCast_nonneg _), clipV_some _ _ (Int.natCast_nonneg _), Int.toNat_natCast, Int.toNat_natCast, range_max, Nat.min_eq_left (Nat.min_le_right _ _), Nat.min_eq_left (Nat.max_le.mpr ⟨Nat.min_le_right _ _, Nat.min_le_right _ _⟩)]
  exact congrArg (fun z => sliceRange _ z 1) (cast_max _ _)
theorem mx_sub (p q : Nat) : max p q - p = q - p := by
  rcases Nat.le_total p q with h | h
  · rw [Nat.max_eq_right h]
  · rw [Nat.max_eq_left h, Nat.sub_self, Nat.sub_eq_zero_of_le h]
theorem sl_core (l : List Nat) (p q : Nat) : (l.drop (min p l.length)).take (max (min p l.length) (min q l.length) - min p l.length) = (l.drop p).take (q - p) := by
  rw [mx_sub]
  by_cases hp : p ≤ l.length
  · rw [Nat.min_eq_left hp]
    by_cases hq : q ≤ l.length
    · rw [Nat.min_eq_left hq]
    · have hq' := Nat.le_of_not_le hq
      rw [Nat.min_eq_right hq', List.take_of_length_le (Nat.le_of_eq List.length_drop), List.take_of_length_le (by rw [List.length_drop]; exact Nat.sub_le_sub_right hq' p)]
  · have hp' := Nat.le_of_not_le hp
    rw [Nat.min_eq_right hp', List.drop_of_length_le (Nat.le_refl _), List.drop_of_length_le hp', List.take_nil, List.take_nil]
theorem sl_whole (l : List Nat) (a b : Nat) (hb : b ≤ l.length) (h : b - a = l.length) : (l.drop a).take (b - a) = l := by
  rcases Nat.eq_zero_or_pos a with rfl | ha
  · rw [h, List.drop_zero, List.take_length]
  · have e : l.length = 0 := by omega
    rw [List.length_eq_zero_iff.mp e]; simp
theorem slice_sO (l : List Nat) (lo hi : Option Int) (i j : Int) (hlo : (lo = none ∧ i = 0) ∨ lo = some i) (hhi : (hi = none ∧ j = l.length) ∨ hi = some j) (h0 : 0 ≤ i) (h1 : 0 ≤ j) :
    Txt.slice (sO l) lo hi = sO ((l.drop i.toNat).take (j.toNat - i.toNat)) := by
  have hlen : (sO l).length = l.length := by simp [Str.length]
  have ha : min i.toNat l.length ≤ max (min i.toNat l.length) (min j.toNat l.length) := Nat.le_max_left _ _
  have hb : max (min i.toNat l.length) (min j.toNat l.length) ≤ l.length := Nat.max_le.mpr ⟨Nat.min_le_right _ _, Nat.min_le_right _ _⟩
  have hx := slice_idx lo hi (sO l).length i j hlo (by rw [hlen]; exact hhi) h0 h1
  have hp := StrLaws.sliced_plain (sO l) (a := min i.toNat (sO l).length) (b := max (min i.toNat (sO l).length) (min j.toNat (sO l).length)) (by rw [hlen]; exact ha) (by rw [hlen]; exact hb)
  rw [← hx] at hp
  rw [hlen] at hp
  have hq : ((sO l).cps.toList.drop (min i.toNat l.length)).take (max (min i.toNat l.length) (min j.toNat l.length) - min i.toNat l.length) = (l.drop i.toNat).take (j.toNat - i.toNat) := sl_core l _ _
  rw [hq] at hp
  unfold Txt.slice
  split
  · rename_i hc
    have hsz : (Builtin.Str.strSliceIndices lo hi 1 (sO l).length).length = (sO l).length := by simpa using hc
    rw [hx, hlen, StrLaws.strSliceIndices_plain ha hb, List.length_map, List.length_range] at hsz
    rw [← sl_core, sl_whole l _ _ hb hsz]
  · show (⟨(List.filterMap _ _).toArray⟩ : Str) = _
    rw [hlen, hp]

example : True := by (w_top off; exact True.intro)
section
variable {prog : Program} {w : World} {A : Around} {E : Value → Shared → Prop} {s : Shared} {value slice : Expr} {l : List Nat} {t : Tok} {Q : Value → Shared → Prop} {h₀ : Heap} {L : Addr} {m : Str → Option Value} {news : Led}
theorem item_at {i : Int} {u : Tok} (h0 : 0 ≤ i) (h1 : i < l.length) (h2 : i < 2 ^ 63) (h : ∀ tk k, Q (.str (sO [l.getD i.toNat 0]) tk) { s with toks := k })
    (hs : subscripted slice false (.str (sO l) t) (.int i u) = operate [.str (sO l) t, .int i u] (getItem (.str (sO l) t) (.int i u)) := by with_unfolding_all rfl)
    (ht : ∀ r, letTemporaryGo value (.str (sO l) t) r = pure () := by intro _; with_unfolding_all rfl) :
    wpAny (model prog w) A (subscriptTail value slice (.str (sO l) t) (.int i u)) Q E s := by
  have hl : ((sO l).length : Int) = l.length := by simp [Str.length]
  refine item_str ?_ (by omega) (by omega) (fun _ => ?_) hs ht
  · unfold fitsSsize
    simp; omega
  · rw [item_sO l i h0 h1]; exact h _ _
theorem cut_ss {i j : Int} {ui uj : Tok} (hF : Fr h₀ L s.heap m) (hN : News h₀ L s.heap news) (h0 : 0 ≤ i) (h1 : 0 ≤ j) (hz : l.length ≤ 10000)
    (h : ∀ h' t' k, Fr h₀ L h' m → News h₀ L h' news → Q (.str (sO ((l.drop i.toNat).take (j.toNat - i.toNat))) t') { s with heap := h', toks := k })
    (hs : subscripted slice false (.str (sO l) t) (.ref s.heap.objs.size) = operate [.ref s.heap.objs.size, .str (sO l) t] (getItem (.str (sO l) t) (.ref s.heap.objs.size)) := by with_unfolding_all rfl)
    (ht : ∀ r, letTemporaryGo value (.str (sO l) t) r = pure () := by intro _; with_unfolding_all rfl) :
    wpAny (model prog w) A (subscriptTail value slice (.str (sO l) t) (.ref s.heap.objs.size)) Q E { s with heap := s.heap.push { cls := .type "slice", data := .fields #[.int i ui, .int j uj, .none] } } :=
  slice_strN_ss hF hN (fun h' t' k F N => by rw [slice_sO l (some i) (some j) i j (.inr rfl) (.inr rfl) h0 h1]; exact h h' t' k F N) hs ht (by simp [Str.length, sizeLine]; omega)
theorem cut_sn {i : Int} {ui : Tok} (hF : Fr h₀ L s.heap m) (hN : News h₀ L s.heap news) (h0 : 0 ≤ i) (hz : l.length ≤ 10000)
    (h : ∀ h' t' k, Fr h₀ L h' m → News h₀ L h' news → Q (.str (sO (l.drop i.toNat)) t') { s with heap := h', toks := k })
    (hs : subscripted slice false (.str (sO l) t) (.ref s.heap.objs.size) = operate [.ref s.heap.objs.size, .str (sO l) t] (getItem (.str (sO l) t) (.ref s.heap.objs.size)) := by with_unfolding_all rfl)
    (ht : ∀ r, letTemporaryGo value (.str (sO l) t) r = pure () := by intro _; with_unfolding_all rfl) :
    wpAny (model prog w) A (subscriptTail value slice (.str (sO l) t) (.ref s.heap.objs.size)) Q E { s with heap := s.heap.push { cls := .type "slice", data := .fields #[.int i ui, .none, .none] } } :=
  slice_strN_sn hF hN (fun h' t' k F N => by
    rw [slice_sO l (some i) none i l.length (.inr rfl) (.inl ⟨rfl, rfl⟩) h0 (by omega), List.take_of_length_le (by simp)]; exact h h' t' k F N) hs ht (by simp [Str.length, sizeLine]; omega)
theorem cut_ns {j : Int} {uj : Tok} (hF : Fr h₀ L s.heap m) (hN : News h₀ L s.heap news) (h1 : 0 ≤ j) (hz : l.length ≤ 10000)
    (h : ∀ h' t' k, Fr h₀ L h' m → News h₀ L h' news → Q (.str (sO (l.take j.toNat)) t') { s with heap := h', toks := k })
    (hs : subscripted slice false (.str (sO l) t) (.ref s.heap.objs.size) = operate [.ref s.heap.objs.size, .str (sO l) t] (getItem (.str (sO l) t) (.ref s.heap.objs.size)) := by with_unfolding_all rfl)
    (ht : ∀ r, letTemporaryGo value (.str (sO l) t) r = pure () := by intro _; with_unfolding_all rfl) :
    wpAny (model prog w) A (subscriptTail value slice (.str (sO l) t) (.ref s.heap.objs.size)) Q E { s with heap := s.heap.push { cls := .type "slice", data := .fields #[.none, .int j uj, .none] } } :=
  slice_strN_ns hF hN (fun h' t' k F N => by
    rw [slice_sO l none (some j) 0 j (.inl ⟨rfl, rfl⟩) (.inr rfl) (by omega) h1]; exact h h' t' k F N) hs ht (by simp [Str.length, sizeLine]; omega)
theorem eq_sO {a b : List Nat} {t u : Tok} (h : Q (.bool (decide (a = b))) s) : wpAny (model prog w) A (compareOp .Eq (.str (sO a) t) (.str (sO b) u)) Q E s := by
  refine eq_str ?_
  rw [show (sO a == sO b) = decide (a = b) from ?_]
  · exact h
  · rw [Bool.eq_iff_iff]; simp
theorem len_sO {a : List Nat} {t : Tok} (hz : a.length ≤ 10000) (h : ∀ u k, Q (.int a.length u) { s with toks := k }) : wpAny (model prog w) A (call (.builtin "len") [.str (sO a) t]) Q E s := by
  have hl : (sO a).length = a.length := by simp [Str.length]
  refine len_str (by rw [hl]; omega) ?_
  rw [hl]; exact h _ _
theorem in_digits {c : Nat} {t u : Tok} (hc : c = 46 ∨ (48 ≤ c ∧ c ≤ 57)) (h : Q (.bool (decide (48 ≤ c))) s) : wpAny (model prog w) A (compareOp .In (.str (sO [c]) u) (.str (Str.ofString "0123456789") t)) Q E s := by
  refine in_str ?_
  have e : (!(Builtin.Str.occurrences (Str.ofString "0123456789") (sO [c]) 0 (Str.ofString "0123456789").length 1).isEmpty) = decide (48 ≤ c) := by
    have : c = 46 ∨ c = 48 ∨ c = 49 ∨ c = 50 ∨ c = 51 ∨ c = 52 ∨ c = 53 ∨ c = 54 ∨ c = 55 ∨ c = 56 ∨ c = 57 := by omega
    rcases this with rfl | rfl | rfl | rfl | rfl | rfl | rfl | rfl | rfl | rfl | rfl <;> decide +kernel
  rw [e]; exact h
theorem lower_one {c : Nat} {t : Tok} (hc : c = 46 ∨ (48 ≤ c ∧ c ≤ 57)) (h : ∀ u k, Q (.str (sO [c]) u) { s with toks := k }) : wpAny (model prog w) A (call (.builtin "str.lower") [.str (sO [c]) t]) Q E s :=
  KXs.lower_K (fun d hd => by simp at hd; omega) (by simp [Str.length]) h
theorem find_digit {c : Nat} {t u : Tok} (hc : 48 ≤ c ∧ c ≤ 57) (h : ∀ v k, Q (.int ((c : Int) - 48) v) { s with toks := k }) : wpAny (model prog w) A (call (.builtin "str.find") [.str (Str.ofString "0123456789abcdef") t, .str (sO [c]) u]) Q E s := by
  refine SC.find ?_
  have e : Txt.find (Str.ofString "0123456789abcdef") (sO [c]) = (c : Int) - 48 := by
    have key : ∀ i, i < 10 → Txt.find (Str.ofString "0123456789abcdef") (sO [i + 48]) = ((i + 48 : Nat) : Int) - 48 := by decide +kernel
    have h2 := key (c - 48) (Nat.sub_lt_left_of_lt_add hc.1 (Nat.lt_succ_of_le hc.2))
    rw [Nat.sub_add_cancel hc.1] at h2
    exact h2
  rw [e]; exact h _ _
end
local macro_rules | `(tactic| k_mem) => `(tactic| (first | assumption | (refine List.mem_cons_of_mem _ ?_; first | assumption | (refine List.mem_cons_of_mem _ ?_; first | assumption | (refine List.mem_cons_of_mem _ ?_; first | assumption | (refine List.mem_cons_of_mem _ ?_; first | assumption | (refine List.mem_cons_of_mem _ ?_; first | assumption | (refine List.mem_cons_of_mem _ ?_; first | assumption | (refine List.mem_cons_of_mem _ ?_; first | assumption | (refine List.mem_cons_of_mem _ ?_; assumption))))))))))
example : True := by (w_top off; exact True.intro)
theorem lit_0 : Str.ofString "0" = sO [48] := by decide +kernel
theorem lit_dot : Str.ofString "." = sO [46] := by decide +kernel
theorem lit_none : Str.ofString "" = sO [] := by decide +kernel
theorem lit_NA : Str.ofString "NA" = sO [78, 65] := by decide +kernel
theorem lit_NaN : Str.ofString "NaN" = sO [78, 97, 78] := by decide +kernel
theorem lit_inf : Str.ofString "inf" = sO [105, 110, 102] := by decide +kernel
theorem lit_infinity : Str.ofString "infinity" = sO [105, 110, 102, 105, 110, 105, 116, 121] := by decide +kernel
theorem lit_minus : Str.ofString "-" = sO [45] := by decide +kernel
theorem lit_plus : Str.ofString "+" = sO [43] := by decide +kernel
theorem lit_0x : Str.ofString "0x" = sO [48, 120] := by decide +kernel
theorem lit_0X : Str.ofString "0X" = sO [48, 88] := by decide +kernel
theorem eq_lit {prog : Program} {w : World} {A : Around} {E : Value → Shared → Prop} {s : Shared} {Q : Value → Shared → Prop} {a b : List Nat} {x : Str} {t u : Tok} (hx : x = sO b) (h : Q (.bool (decide (a = b))) s) :
    wpAny (model prog w) A (compareOp .Eq (.str (sO a) t) (.str x u)) Q E s := by subst hx; exact eq_sO h
theorem without_tail_spec (w mean mg mb) (p : List Nat) (k : Nat) (t1 : Tok) (hp : p ≠ []) (hz : p.length + k ≤ 1000) : SpecV w mean mg mb 178 20 160 [.str (sO (p ++ List.replicate k 48)) t1] (fun _ => True)
    (fun r => ∃ (c : Nat) (t : Tok), r = .str (sO ((p ++ List.replicate k 48).take c)) t ∧ 1 ≤ c ∧ c ≤ p.length ∧ (p.getD (p.length - 1) 0 ≠ 48 → c = p.length)) := by
  have hpl : 0 < p.length := List.length_pos_iff.mpr hp
  generalize hl : p ++ List.replicate k 48 = l
  have hll : l.length = p.length + k := by rw [← hl]; simp
  have hz0 : ∀ i, p.length ≤ i → i < l.length → l.getD i 0 = 48 := by
    intro i h1 h2
    rw [← hl, List.getD_eq_getElem?_getD, List.getElem?_append_right h1, List.getElem?_replicate, if_pos (by omega)]
    rfl
  have hlast : l.getD (p.length - 1) 0 = p.getD (p.length - 1) 0 := by
    rw [← hl, List.getD_eq_getElem?_getD, List.getElem?_append_left (by omega), List.getD_eq_getElem?_getD]
  unfold SpecV
  k_fill
  intro dp un gd cn cs a ccd cl outer A₀ base h₀ L m news s Q E B F X N T hk hpre hd hu hret
  refine wpAny_call ?_
  k_dflt cell_enter
  refine abs_A ?_
  intro A9a
  repeat' ((fail_if_success (with_reducible show wpAny _ _ (PySem.exec (PySem.Stmt.While _ _ _ _) _) _ _ _)); (fail_if_success (with_reducible show wpAny _ _ (PySem.exec (PySem.Stmt.For _ _ _ _ _) _) _ _ _)); (fail_if_success (with_reducible show wpAny _ _ (PySem.eval (PySem.Expr.ListComp _ _ _ _) _) _ _ _)); (fail_if_success (with_reducible show KswEnd _ _ _ _ _ _ _ _ _ _ _ _)); (fail_if_success (with_reducible show UnrEnd _ _ _ _ _ _ _)); first | (k_unfold; (try dsimp only)) | (k_end; wrow_close) | (with_reducible ((with_reducible show wpAny _ _ (subscriptTail _ (Expr.Slice _ _ _ _) (Value.str (sO _) _) (Value.ref _)) _ _ _); (with_reducible rename Fr _ _ _ _ => F9y); (with_reducible rename News _ _ _ _ => N9y); first | (refine cut_ss (s := ⟨_, _, _, _, _⟩) F9y N9y (by omega) (by omega) (by first | omega | (simp; omega)) ?_; intro h9z t9z k9z F9z N9z; (try k_sweep)) | (refine cut_sn (s := ⟨_, _, _, _, _⟩) F9y N9y (by omega) (by first | omega | (simp; omega)) ?_; intro h9z t9z k9z F9z N9z; (try k_sweep)) | (refine cut_ns (s := ⟨_, _, _, _, _⟩) F9y N9y (by omega) (by first | omega | (simp; omega)) ?_; intro h9z t9z k9z F9z N9z; (try k_sweep)))) | (with_reducible ((with_reducible show wpAny _ _ (subscriptTail _ _ (Value.str (sO _) _) (Value.int _ _)) _ _ _); (refine item_at (by omega) (by first | omega | (simp; omega)) (by omega) ?_); intro t9z k9z)) | (with_reducible ((with_reducible show wpAny _ _ (compareOp _ (Value.str (sO _) _) (Value.str (Str.ofString _) _)) _ _ _); refine' eq_lit ?hx ?_; (case hx => ((with_reducible first | exact lit_0 | exact lit_dot | exact lit_none | exact lit_NA | exact lit_NaN | exact lit_inf | exact lit_infinity | exact lit_minus | exact lit_plus | exact lit_0x | exact lit_0X))))) | ((with_reducible show wpAny _ _ (PySem.eval (PySem.Expr.Call (PySem.Expr.Name _ _) _ _) _) _ _ _); (refine Call_ ?_)) | (with_reducible ((with_reducible show wpAny _ _ (PySem.call (Value.builtin "len") [Value.str (sO _) _]) _ _ _); refine len_sO (by first | omega | (simp; omega)) ?_; intro u9z k9z)) | (with_reducible ((with_reducible show wpAny _ _ (eval (Expr.Name _ _) (envOf _ _ _ _ _)) _ _ _); k_dflt (refine' ld ?k1 ?k2 ?_; (case k1 => k_asm); (case k2 => exact rfl); k_whole))) | ((with_reducible show wpAny _ _ (PySem.execs (List.cons _ _) _) _ _ _); walk1; (try (refine gen_s ?_; intro tkG; (try dsimp only); (try k_fold)))) | (walk1; (try dsimp only)) | (dsimp only; walk1) | (leave1; (try dsimp only)) | fail "no step")
  refine' ksw_while (fun _ => news) (fun c : Nat × Tok => [(Str.ofString "end", .int c.1 c.2)]) (fun _ => True) [Str.ofString "end"] (fun c => 1 ≤ c.1 ∧ c.1 ≤ l.length ∧ (∀ i, c.1 ≤ i → i < l.length → l.getD i 0 = 48)) (fun c => c.1) (l.length, _) (by k_asm) (by k_asm) trivial ?kH ?kP ?_
  case kP => exact ⟨by omega, by omega, fun i h1 h2 => by omega⟩
  case kH => (refine' List.forall_mem_cons.mpr ⟨?_, keys_nil⟩ <;> with_unfolding_all exact rfl)
  rintro ⟨c, t3⟩ u h tk - ⟨h1, h2, h3⟩ F N
  dsimp only at h1 h2 h3
  dsimp only [kstB] at F
  repeat' ((fail_if_success (with_reducible show wpAny _ _ (PySem.exec (PySem.Stmt.While _ _ _ _) _) _ _ _)); (fail_if_success (with_reducible show wpAny _ _ (PySem.exec (PySem.Stmt.For _ _ _ _ _) _) _ _ _)); (fail_if_success (with_reducible show wpAny _ _ (PySem.eval (PySem.Expr.ListComp _ _ _ _) _) _ _ _)); (fail_if_success (with_reducible show KswEnd _ _ _ _ _ _ _ _ _ _ _ _)); (fail_if_success (with_reducible show UnrEnd _ _ _ _ _ _ _)); first | (k_unfold; (try dsimp only)) | (k_end; wrow_close) | (with_reducible ((with_reducible show wpAny _ _ (subscriptTail _ (Expr.Slice _ _ _ _) (Value.str (sO _) _) (Value.ref _)) _ _ _); (with_reducible rename Fr _ _ _ _ => F9y); (with_reducible rename News _ _ _ _ => N9y); first | (refine cut_ss (s := ⟨_, _, _, _, _⟩) F9y N9y (by omega) (by omega) (by first | omega | (simp; omega)) ?_; intro h9z t9z k9z F9z N9z; (try k_sweep)) | (refine cut_sn (s := ⟨_, _, _, _, _⟩) F9y N9y (by omega) (by first | omega | (simp; omega)) ?_; intro h9z t9z k9z F9z N9z; (try k_sweep)) | (refine cut_ns (s := ⟨_, _, _, _, _⟩) F9y N9y (by omega) (by first | omega | (simp; omega)) ?_; intro h9z t9z k9z F9z N9z; (try k_sweep)))) | (with_reducible ((with_reducible show wpAny _ _ (subscriptTail _ _ (Value.str (sO _) _) (Value.int _ _)) _ _ _); (refine item_at (by omega) (by first | omega | (simp; omega)) (by omega) ?_); intro t9z k9z)) | (with_reducible ((with_reducible show wpAny _ _ (compareOp _ (Value.str (sO _) _) (Value.str (Str.ofString _) _)) _ _ _); refine' eq_lit ?hx ?_; (case hx => ((with_reducible first | exact lit_0 | exact lit_dot | exact lit_none | exact lit_NA | exact lit_NaN | exact lit_inf | exact lit_infinity | exact lit_minus | exact lit_plus | exact lit_0x | exact lit_0X))))) | ((with_reducible show wpAny _ _ (PySem.eval (PySem.Expr.Call (PySem.Expr.Name _ _) _ _) _) _ _ _); (refine Call_ ?_)) | (with_reducible ((with_reducible show wpAny _ _ (PySem.call (Value.builtin "len") [Value.str (sO _) _]) _ _ _); refine len_sO (by first | omega | (simp; omega)) ?_; intro u9z k9z)) | (with_reducible ((with_reducible show wpAny _ _ (eval (Expr.Name _ _) (envOf _ _ _ _ _)) _ _ _); k_dflt (refine' ld ?k1 ?k2 ?_; (case k1 => k_asm); (case k2 => exact rfl); k_whole))) | ((with_reducible show wpAny _ _ (PySem.execs (List.cons _ _) _) _ _ _); walk1; (try (refine gen_s ?_; intro tkG; (try dsimp only); (try k_fold)))) | (walk1; (try dsimp only)) | (dsimp only; walk1) | (leave1; (try dsimp only)) | fail "no step")
  · rename [_] = [48] => hz1
    have hz2 : l.getD (c - 1) 0 = 48 := by
      rw [show ((c : Int) - 1).toNat = c - 1 by omega] at hz1
      simpa using hz1
    refine' ksw_end (c - 1, _) (by k_asm) (by k_asm) sub_refl trivial ?hk1 (by ksw_same) ⟨by dsimp only; omega, by dsimp only; omega, ?h7⟩ (by dsimp only; omega)
    case hk1 => (refine' List.forall_mem_cons.mpr ⟨?_, keys_nil⟩; (show some _ = some (Value.int ((c - 1 : Nat) : Int) _)); rw [show ((c - 1 : Nat) : Int) = (c : Int) - 1 by omega])
    case h7 =>
      intro i h5 h6
      rcases Nat.eq_or_lt_of_le h5 with e | e
      · rw [← e]; exact hz2
      · exact h3 i (by dsimp only at e; omega) h6
  · rename ¬ [_] = [48] => hz1
    have hz2 : l.getD (c - 1) 0 ≠ 48 := by
      rw [show ((c : Int) - 1).toNat = c - 1 by omega] at hz1
      simpa using hz1
    have h5 : c ≤ p.length := Classical.byContradiction fun hc => hz2 (hz0 (c - 1) (by omega) (by omega))
    exact hret _ _ _ (by k_asm) (by k_asm) ⟨c, _, rfl, h1, h5, fun h6 => Classical.byContradiction fun h7 => h6 (hlast ▸ h3 (p.length - 1) (by omega) (by omega))⟩
  · exact hret _ _ _ (by k_asm) (by k_asm) ⟨c, _, rfl, h1, by omega, fun h6 => Classical.byContradiction fun h7 => h6 (hlast ▸ h3 (p.length - 1) (by omega) (by omega))⟩

example : True := by (w_top off; exact True.intro)
/-- a number's signs: digits and one dot -/
def Sign (c : Nat) : Prop := c = 46 ∨ (48 ≤ c ∧ c ≤ 57)
theorem getD_mem {l : List Nat} {i : Nat} (h : i < l.length) : l.getD i 0 ∈ l := by
  rw [List.getD_eq_getElem?_getD, List.getElem?_eq_getElem h]
  exact List.getElem_mem h
theorem digit_run_spec (w mean mg mb) (l : List Nat) (i : Nat) (t1 t2 t3 : Tok) (hs : ∀ c ∈ l, c = 46 ∨ (48 ≤ c ∧ c ≤ 57)) (hi : i ≤ l.length) (hz : l.length ≤ 1000) :
    SpecV w mean mg mb 240 20 160 [.str (sO l) t1, .int i t2, .str (Str.ofString "0123456789") t3] (fun _ => True)
    (fun r => ∃ (c : Nat) (t : Tok), r = .int c t ∧ i ≤ c ∧ c ≤ l.length ∧ (∀ k, i ≤ k → k < c → 48 ≤ l.getD k 0) ∧ (c = l.length ∨ l.getD c 0 = 46)) := by
  unfold SpecV
  k_fill
  intro dp un gd cn cs a ccd cl outer A₀ base h₀ L m news s Q E B F X N T hk hpre hd hu hret
  refine wpAny_call ?_
  k_dflt cell_enter
  refine abs_A ?_
  intro A9a
  repeat' ((fail_if_success (with_reducible show wpAny _ _ (PySem.exec (PySem.Stmt.While _ _ _ _) _) _ _ _)); (fail_if_success (with_reducible show wpAny _ _ (PySem.exec (PySem.Stmt.For _ _ _ _ _) _) _ _ _)); (fail_if_success (with_reducible show wpAny _ _ (PySem.eval (PySem.Expr.ListComp _ _ _ _) _) _ _ _)); (fail_if_success (with_reducible show KswEnd _ _ _ _ _ _ _ _ _ _ _ _)); (fail_if_success (with_reducible show UnrEnd _ _ _ _ _ _ _)); first | (k_unfold; (try dsimp only)) | (k_end; wrow_close) | (with_reducible ((with_reducible show wpAny _ _ (subscriptTail _ _ (Value.str (sO _) _) (Value.int _ _)) _ _ _); (refine item_at (by omega) (by first | omega | (simp; omega)) (by omega) ?_); intro t9z k9z)) | (with_reducible ((with_reducible show wpAny _ _ (PySem.compareOp PySem.CmpOp.In (PySem.Value.str _ _) (PySem.Value.str _ _)) _ _ _); ((with_reducible refine in_digits ?kc ?_); (case kc => first | assumption | omega)))) | ((with_reducible show wpAny _ _ (PySem.eval (PySem.Expr.Call (PySem.Expr.Name _ _) _ _) _) _ _ _); (refine Call_ ?_)) | (with_reducible ((with_reducible show wpAny _ _ (PySem.call (PySem.Value.builtin "str.find") _) _ _ _); ((with_reducible refine find_digit ?kc ?_); (case kc => first | assumption | omega); intro u9z k9z))) | (with_reducible ((with_reducible show wpAny _ _ (PySem.call (PySem.Value.builtin "str.lower") _) _ _ _); ((with_reducible refine lower_one ?kc ?_); (case kc => first | assumption | omega); intro u9z k9z))) | (with_reducible ((with_reducible show wpAny _ _ (PySem.call (Value.builtin "len") [Value.str (sO _) _]) _ _ _); refine len_sO (by first | omega | (simp; omega)) ?_; intro u9z k9z)) | (with_reducible ((with_reducible show wpAny _ _ (eval (Expr.Name _ _) (envOf _ _ _ _ _)) _ _ _); k_dflt (refine' ld ?k1 ?k2 ?_; (case k1 => k_asm); (case k2 => exact rfl); k_whole))) | ((with_reducible show wpAny _ _ (PySem.execs (List.cons _ _) _) _ _ _); walk1; (try (refine gen_s ?_; intro tkG; (try dsimp only); (try k_fold)))) | (walk1; (try dsimp only)) | (dsimp only; walk1) | (leave1; (try dsimp only)) | fail "no step")
  refine' ksw_while (fun _ => news) (fun c : Nat × Tok => [(Str.ofString "at", .int c.1 c.2)]) (fun _ => True) [Str.ofString "at"] (fun c => i ≤ c.1 ∧ c.1 ≤ l.length ∧ (∀ k, i ≤ k → k < c.1 → 48 ≤ l.getD k 0)) (fun c => l.length - c.1) (i, _) (by k_asm) (by k_asm) trivial ?kH ?kP ?_
  case kP => exact ⟨by omega, by omega, fun i h1 h2 => by omega⟩
  case kH => (refine' List.forall_mem_cons.mpr ⟨?_, keys_nil⟩ <;> with_unfolding_all exact rfl)
  rintro ⟨c, t3⟩ u h tk - ⟨h1, h2, h3⟩ F N
  dsimp only at h1 h2 h3
  dsimp only [kstB] at F
  have hsg : c < l.length → (l.getD (c : Int).toNat 0 = 46 ∨ (48 ≤ l.getD (c : Int).toNat 0 ∧ l.getD (c : Int).toNat 0 ≤ 57)) := fun h => hs _ (getD_mem h)
  repeat' ((fail_if_success (with_reducible show wpAny _ _ (PySem.exec (PySem.Stmt.While _ _ _ _) _) _ _ _)); (fail_if_success (with_reducible show wpAny _ _ (PySem.exec (PySem.Stmt.For _ _ _ _ _) _) _ _ _)); (fail_if_success (with_reducible show wpAny _ _ (PySem.eval (PySem.Expr.ListComp _ _ _ _) _) _ _ _)); (fail_if_success (with_reducible show KswEnd _ _ _ _ _ _ _ _ _ _ _ _)); (fail_if_success (with_reducible show UnrEnd _ _ _ _ _ _ _)); first | (k_unfold; (try dsimp only)) | (k_end; wrow_close) | (with_reducible ((with_reducible show wpAny _ _ (subscriptTail _ _ (Value.str (sO _) _) (Value.int _ _)) _ _ _); (refine item_at (by omega) (by first | omega | (simp; omega)) (by omega) ?_); intro t9z k9z)) | (with_reducible ((with_reducible show wpAny _ _ (PySem.compareOp PySem.CmpOp.In (PySem.Value.str _ _) (PySem.Value.str _ _)) _ _ _); ((with_reducible refine in_digits ?kc ?_); (case kc => first | assumption | omega)))) | ((with_reducible show wpAny _ _ (PySem.eval (PySem.Expr.Call (PySem.Expr.Name _ _) _ _) _) _ _ _); (refine Call_ ?_)) | (with_reducible ((with_reducible show wpAny _ _ (PySem.call (PySem.Value.builtin "str.find") _) _ _ _); ((with_reducible refine find_digit ?kc ?_); (case kc => first | assumption | omega); intro u9z k9z))) | (with_reducible ((with_reducible show wpAny _ _ (PySem.call (PySem.Value.builtin "str.lower") _) _ _ _); ((with_reducible refine lower_one ?kc ?_); (case kc => first | assumption | omega); intro u9z k9z))) | (with_reducible ((with_reducible show wpAny _ _ (PySem.call (Value.builtin "len") [Value.str (sO _) _]) _ _ _); refine len_sO (by first | omega | (simp; omega)) ?_; intro u9z k9z)) | (with_reducible ((with_reducible show wpAny _ _ (eval (Expr.Name _ _) (envOf _ _ _ _ _)) _ _ _); k_dflt (refine' ld ?k1 ?k2 ?_; (case k1 => k_asm); (case k2 => exact rfl); k_whole))) | ((with_reducible show wpAny _ _ (PySem.execs (List.cons _ _) _) _ _ _); walk1; (try (refine gen_s ?_; intro tkG; (try dsimp only); (try k_fold)))) | (walk1; (try dsimp only)) | (dsimp only; walk1) | (leave1; (try dsimp only)) | fail "no step")
  · refine' ksw_end (c + 1, _) (by k_asm) (by k_asm) sub_refl trivial ?hk1 (by ksw_same) ⟨by dsimp only; omega, by dsimp only; omega, ?h7⟩ (by dsimp only; omega)
    case hk1 => (refine' List.forall_mem_cons.mpr ⟨?_, keys_nil⟩ <;> with_unfolding_all exact rfl)
    case h7 =>
      intro k h5 h6
      rcases Nat.eq_or_lt_of_le (Nat.le_of_lt_succ h6) with e | e
      · subst e; rename 48 ≤ l.getD _ 0 => h8; simpa using h8
      · exact h3 k h5 e
  · rename ¬ 48 ≤ l.getD _ 0 => h8
    refine hret _ _ _ (by k_asm) (by k_asm) ⟨c, _, rfl, h1, h2, h3, .inr ?_⟩
    have h9 := hsg (by omega)
    simp only [Int.toNat_natCast] at h8 h9
    omega
  · exact hret _ _ _ (by k_asm) (by k_asm) ⟨c, _, rfl, h1, h2, h3, .inl (by omega)⟩

theorem codes_mem {l : List Nat} {pre post : List Int} {n : Nat} (h : KStt.codes (sO l) = pre ++ (n : Int) :: post) : n ∈ l := by
  have h2 : (n : Int) ∈ KStt.codes (sO l) := by rw [h]; exact List.mem_append.mpr (.inr (.head _))
  unfold KStt.codes at h2
  obtain ⟨c, hc, e⟩ := List.mem_map.mp h2
  have e' : c = n := by omega
  subst e'
  simpa using hc
theorem val_lt (l : List Nat) (hs : ∀ c ∈ l, 48 ≤ c ∧ c ≤ 57) : val l < 10 ^ l.length := by
  suffices h : ∀ (r : List Nat), (∀ c ∈ r, 48 ≤ c ∧ c ≤ 57) → val r.reverse < 10 ^ r.length by
    have := h l.reverse (fun c hc => hs c (List.mem_reverse.mp hc))
    simpa using this
  intro r
  induction r with
  | nil => intro _; decide
  | cons c r ih =>
    intro h
    rw [List.reverse_cons, val_snoc, List.length_cons, Nat.pow_succ]
    have := ih (fun d hd => h d (.tail _ hd))
    have := h c (.head _)
    omega
theorem codes_toNat (l : List Nat) : (KStt.codes (sO l)).map Int.toNat = l := by
  unfold KStt.codes
  simp [Function.comp_def]
theorem val_lt_codes {l : List Nat} {pre post : List Int} {n : Nat} (h : KStt.codes (sO l) = pre ++ (n : Int) :: post) (hs : ∀ c ∈ l, 48 ≤ c ∧ c ≤ 57) (hz : l.length ≤ 12) : val (pre.map Int.toNat) < 10 ^ 12 := by
  have e := codes_toNat l
  rw [h, List.map_append] at e
  have h1 : (pre.map Int.toNat).length ≤ l.length := by rw [← e]; simp
  have h2 := val_lt (pre.map Int.toNat) (fun c hc => hs c (by rw [← e]; exact List.mem_append.mpr (.inl hc)))
  exact Nat.lt_of_lt_of_le h2 (Nat.pow_le_pow_right (by decide) (by omega))
theorem digits_value_spec (w mean mg mb) (l : List Nat) (t1 t2 : Tok) (hs : ∀ c ∈ l, 48 ≤ c ∧ c ≤ 57) (hz : l.length ≤ 12) :
    SpecV w mean mg mb 233 20 160 [.str (sO l) t1, .int 10 t2] (fun _ => True)
    (fun r => ∃ (t : Tok), r = .int (val l : Nat) t) := by
  unfold SpecV
  k_fill
  intro dp un gd cn cs a ccd cl outer A₀ base h₀ L m news s Q E B F X N T hk hpre hd hu hret
  refine wpAny_call ?_
  k_dflt cell_enter
  refine abs_A ?_
  intro A9a
  repeat' ((fail_if_success (with_reducible show wpAny _ _ (PySem.exec (PySem.Stmt.While _ _ _ _) _) _ _ _)); (fail_if_success (with_reducible show wpAny _ _ (PySem.exec (PySem.Stmt.For _ _ _ _ _) _) _ _ _)); (fail_if_success (with_reducible show wpAny _ _ (PySem.eval (PySem.Expr.ListComp _ _ _ _) _) _ _ _)); (fail_if_success (with_reducible show KswEnd _ _ _ _ _ _ _ _ _ _ _ _)); (fail_if_success (with_reducible show UnrEnd _ _ _ _ _ _ _)); first | (k_unfold; (try dsimp only)) | (k_end; wrow_close) | (with_reducible ((with_reducible show wpAny _ _ (subscriptTail _ _ (Value.str (sO _) _) (Value.int _ _)) _ _ _); (refine item_at (by omega) (by first | omega | (simp; omega)) (by omega) ?_); intro t9z k9z)) | (with_reducible ((with_reducible show wpAny _ _ (PySem.compareOp PySem.CmpOp.In (PySem.Value.str _ _) (PySem.Value.str _ _)) _ _ _); ((with_reducible refine in_digits ?kc ?_); (case kc => first | assumption | omega)))) | ((with_reducible show wpAny _ _ (PySem.eval (PySem.Expr.Call (PySem.Expr.Name _ _) _ _) _) _ _ _); (refine Call_ ?_)) | (with_reducible ((with_reducible show wpAny _ _ (PySem.call (PySem.Value.builtin "str.find") _) _ _ _); ((with_reducible refine find_digit ?kc ?_); (case kc => first | assumption | omega); intro u9z k9z))) | (with_reducible ((with_reducible show wpAny _ _ (PySem.call (PySem.Value.builtin "str.lower") _) _ _ _); ((with_reducible refine lower_one ?kc ?_); (case kc => first | assumption | omega); intro u9z k9z))) | (with_reducible ((with_reducible show wpAny _ _ (PySem.call (Value.builtin "len") [Value.str (sO _) _]) _ _ _); refine len_sO (by first | omega | (simp; omega)) ?_; intro u9z k9z)) | (with_reducible ((with_reducible show wpAny _ _ (eval (Expr.Name _ _) (envOf _ _ _ _ _)) _ _ _); k_dflt (refine' ld ?k1 ?k2 ?_; (case k1 => k_asm); (case k2 => exact rfl); k_whole))) | ((with_reducible show wpAny _ _ (PySem.execs (List.cons _ _) _) _ _ _); walk1; (try (refine gen_s ?_; intro tkG; (try dsimp only); (try k_fold)))) | (walk1; (try dsimp only)) | (dsimp only; walk1) | (leave1; (try dsimp only)) | fail "no step")
  (rename Fr _ _ _ _ => lF'); (with_unfolding_all refine' For_invVF lF' ?k1 ?k2 ?_; (case k1 => exact rfl); (case k2 => exact rfl); k_whole)
  (first | (with_reducible ((with_reducible show wpAny _ _ (subscriptTail _ _ (Value.str (sO _) _) (Value.int _ _)) _ _ _); (refine item_at (by omega) (by first | omega | (simp; omega)) (by omega) ?_); intro t9z k9z)) | (with_reducible ((with_reducible show wpAny _ _ (PySem.compareOp PySem.CmpOp.In (PySem.Value.str _ _) (PySem.Value.str _ _)) _ _ _); ((with_reducible refine in_digits ?kc ?_); (case kc => first | assumption | omega)))) | ((with_reducible show wpAny _ _ (PySem.eval (PySem.Expr.Call (PySem.Expr.Name _ _) _ _) _) _ _ _); (refine Call_ ?_)) | (with_reducible ((with_reducible show wpAny _ _ (PySem.call (PySem.Value.builtin "str.find") _) _ _ _); ((with_reducible refine find_digit ?kc ?_); (case kc => first | assumption | omega); intro u9z k9z))) | (with_reducible ((with_reducible show wpAny _ _ (PySem.call (PySem.Value.builtin "str.lower") _) _ _ _); ((with_reducible refine lower_one ?kc ?_); (case kc => first | assumption | omega); intro u9z k9z))) | (with_reducible ((with_reducible show wpAny _ _ (PySem.call (Value.builtin "len") [Value.str (sO _) _]) _ _ _); refine len_sO (by first | omega | (simp; omega)) ?_; intro u9z k9z)) | (with_reducible ((with_reducible show wpAny _ _ (eval (Expr.Name _ _) (envOf _ _ _ _ _)) _ _ _); k_dflt (refine' ld ?k1 ?k2 ?_; (case k1 => k_asm); (case k2 => exact rfl); k_whole))) | walk1)
  refine' KStt.kst_text (fun _ => news) (fun c : Nat × Tok => [(Str.ofString "value", .int c.1 c.2)]) (fun _ => True) [Str.ofString "value"] (fun pre c => c.1 = val (pre.map Int.toNat)) (0, _) rfl (by k_asm) (by k_asm) trivial ?kH ?kP ?_ ?_
  case kP => rfl
  case kH => (refine' List.forall_mem_cons.mpr ⟨?_, keys_nil⟩ <;> with_unfolding_all exact rfl)
  · rintro ⟨v, t3⟩ pre post n t u h tk own he hoff - h1 F N
    dsimp only at h1
    dsimp only [kstB] at F
    have hn : 48 ≤ n ∧ n ≤ 57 := hs n (codes_mem he)
    have hn2 : n = 46 ∨ (48 ≤ n ∧ n ≤ 57) := .inr hn
    have hv : v < 10 ^ 12 := h1 ▸ val_lt_codes he hs hz
    repeat' ((fail_if_success (with_reducible show wpAny _ _ (PySem.exec (PySem.Stmt.While _ _ _ _) _) _ _ _)); (fail_if_success (with_reducible show wpAny _ _ (PySem.exec (PySem.Stmt.For _ _ _ _ _) _) _ _ _)); (fail_if_success (with_reducible show wpAny _ _ (PySem.eval (PySem.Expr.ListComp _ _ _ _) _) _ _ _)); (fail_if_success (with_reducible show KswEnd _ _ _ _ _ _ _ _ _ _ _ _)); (fail_if_success (with_reducible show UnrEnd _ _ _ _ _ _ _)); first | (k_unfold; (try dsimp only)) | (k_end; wrow_close) | (with_reducible ((with_reducible show wpAny _ _ (subscriptTail _ _ (Value.str (sO _) _) (Value.int _ _)) _ _ _); (refine item_at (by omega) (by first | omega | (simp; omega)) (by omega) ?_); intro t9z k9z)) | (with_reducible ((with_reducible show wpAny _ _ (PySem.compareOp PySem.CmpOp.In (PySem.Value.str _ _) (PySem.Value.str _ _)) _ _ _); ((with_reducible refine in_digits ?kc ?_); (case kc => first | assumption | omega)))) | ((with_reducible show wpAny _ _ (PySem.eval (PySem.Expr.Call (PySem.Expr.Name _ _) _ _) _) _ _ _); (refine Call_ ?_)) | (with_reducible ((with_reducible show wpAny _ _ (PySem.call (PySem.Value.builtin "str.find") _) _ _ _); ((with_reducible refine find_digit ?kc ?_); (case kc => first | assumption | omega); intro u9z k9z))) | (with_reducible ((with_reducible show wpAny _ _ (PySem.call (PySem.Value.builtin "str.lower") _) _ _ _); ((with_reducible refine lower_one ?kc ?_); (case kc => first | assumption | omega); intro u9z k9z))) | (with_reducible ((with_reducible show wpAny _ _ (PySem.call (Value.builtin "len") [Value.str (sO _) _]) _ _ _); refine len_sO (by first | omega | (simp; omega)) ?_; intro u9z k9z)) | (with_reducible ((with_reducible show wpAny _ _ (eval (Expr.Name _ _) (envOf _ _ _ _ _)) _ _ _); k_dflt (refine' ld ?k1 ?k2 ?_; (case k1 => k_asm); (case k2 => exact rfl); k_whole))) | ((with_reducible show wpAny _ _ (PySem.execs (List.cons _ _) _) _ _ _); walk1; (try (refine gen_s ?_; intro tkG; (try dsimp only); (try k_fold)))) | (walk1; (try dsimp only)) | (dsimp only; walk1) | (leave1; (try dsimp only)) | fail "no step")
    refine' kst_end (c := (v * 10 + (n - 48), _)) (by k_asm) (by k_asm) (fun p hp => List.mem_append.mpr (.inl hp)) (fun p hp => List.mem_append.mpr (.inr hp)) rfl trivial ?hk1 (by kst_same) ?h7
    case hk1 => (refine' List.forall_mem_cons.mpr ⟨?_, keys_nil⟩; (show some _ = some (Value.int ((v * 10 + (n - 48) : Nat) : Int) _)); rw [show ((v * 10 + (n - 48) : Nat) : Int) = (v : Int) * 10 + ((n : Int) - 48) by omega])
    case h7 =>
      show v * 10 + (n - 48) = _
      rw [List.map_append, List.map_cons, List.map_nil, val_snoc, h1]
      rfl
  · rintro ⟨v, t3⟩ u h tk - h1 F N
    dsimp only at h1
    dsimp only [kstB] at F
    repeat' ((fail_if_success (with_reducible show wpAny _ _ (PySem.exec (PySem.Stmt.While _ _ _ _) _) _ _ _)); (fail_if_success (with_reducible show wpAny _ _ (PySem.exec (PySem.Stmt.For _ _ _ _ _) _) _ _ _)); (fail_if_success (with_reducible show wpAny _ _ (PySem.eval (PySem.Expr.ListComp _ _ _ _) _) _ _ _)); (fail_if_success (with_reducible show KswEnd _ _ _ _ _ _ _ _ _ _ _ _)); (fail_if_success (with_reducible show UnrEnd _ _ _ _ _ _ _)); first | (k_unfold; (try dsimp only)) | (k_end; wrow_close) | (with_reducible ((with_reducible show wpAny _ _ (subscriptTail _ _ (Value.str (sO _) _) (Value.int _ _)) _ _ _); (refine item_at (by omega) (by first | omega | (simp; omega)) (by omega) ?_); intro t9z k9z)) | (with_reducible ((with_reducible show wpAny _ _ (PySem.compareOp PySem.CmpOp.In (PySem.Value.str _ _) (PySem.Value.str _ _)) _ _ _); ((with_reducible refine in_digits ?kc ?_); (case kc => first | assumption | omega)))) | ((with_reducible show wpAny _ _ (PySem.eval (PySem.Expr.Call (PySem.Expr.Name _ _) _ _) _) _ _ _); (refine Call_ ?_)) | (with_reducible ((with_reducible show wpAny _ _ (PySem.call (PySem.Value.builtin "str.find") _) _ _ _); ((with_reducible refine find_digit ?kc ?_); (case kc => first | assumption | omega); intro u9z k9z))) | (with_reducible ((with_reducible show wpAny _ _ (PySem.call (PySem.Value.builtin "str.lower") _) _ _ _); ((with_reducible refine lower_one ?kc ?_); (case kc => first | assumption | omega); intro u9z k9z))) | (with_reducible ((with_reducible show wpAny _ _ (PySem.call (Value.builtin "len") [Value.str (sO _) _]) _ _ _); refine len_sO (by first | omega | (simp; omega)) ?_; intro u9z k9z)) | (with_reducible ((with_reducible show wpAny _ _ (eval (Expr.Name _ _) (envOf _ _ _ _ _)) _ _ _); k_dflt (refine' ld ?k1 ?k2 ?_; (case k1 => k_asm); (case k2 => exact rfl); k_whole))) | ((with_reducible show wpAny _ _ (PySem.execs (List.cons _ _) _) _ _ _); walk1; (try (refine gen_s ?_; intro tkG; (try dsimp only); (try k_fold)))) | (walk1; (try dsimp only)) | (dsimp only; walk1) | (leave1; (try dsimp only)) | fail "no step")
    rw [codes_toNat] at h1
    subst h1
    exact hret _ _ _ (by k_asm) (by k_asm) ⟨_, rfl⟩

example : True := by (w_top off; exact True.intro)
/-- a number as the law meets it, with its decimal digits M and their places pl -/
structure Num (n d : Int) (pl M : Nat) : Prop where
  hd : (d = 1 ∧ pl = 0) ∨ (d = 2 ∧ pl = 1) ∨ (d = 4 ∧ pl = 2)
  hM : (M : Int) * d = n.natAbs * 10 ^ pl
  h10 : 0 < pl → M % 10 ≠ 0
  hb : M < 10 ^ 5
  hge : n = 0 ∨ d ≤ n.natAbs
  hz : n = 0 → pl = 0
theorem Num.d_pos {n d : Int} {pl M : Nat} (h : Num n d pl M) : 0 < d ∧ d ≤ 4 := by rcases h.hd with ⟨rfl, _⟩ | ⟨rfl, _⟩ | ⟨rfl, _⟩ <;> decide
theorem Num.small {n d : Int} {pl M : Nat} (h : Num n d pl M) : n.natAbs < 10 ^ 6 := by
  have := h.hM; have := h.hb
  rcases h.hd with ⟨rfl, rfl⟩ | ⟨rfl, rfl⟩ | ⟨rfl, rfl⟩ <;> simp at * <;> omega
theorem Num.expo {n d : Int} {pl M e : Nat} (h : Num n d pl M) (h1 : d * 10 ^ e ≤ n.natAbs) (h2 : (n.natAbs : Int) < d * 10 ^ (e + 1)) :
    10 ^ (e + pl) ≤ M ∧ M < 10 ^ (e + pl + 1) := by
  have hM := h.hM
  have k1 : (10 : Int) ^ (e + pl) = 10 ^ e * 10 ^ pl := Int.pow_add ..
  have k2 : (10 : Int) ^ (e + pl + 1) = 10 ^ e * 10 ^ pl * 10 := by rw [Int.pow_succ, k1]
  have k3 : (10 : Int) ^ (e + 1) = 10 ^ e * 10 := Int.pow_succ ..
  have g1 : ((10 ^ (e + pl) : Nat) : Int) ≤ M := by
    rw [Int.natCast_pow]; show (10 : Int) ^ (e + pl) ≤ M
    rw [k1]
    generalize (10 : Int) ^ e = X at *
    rcases h.hd with ⟨rfl, rfl⟩ | ⟨rfl, rfl⟩ | ⟨rfl, rfl⟩ <;> simp only [show (10:Int)^0 = 1 from rfl, show (10:Int)^1 = 10 from rfl, show (10:Int)^2 = 100 from rfl] at * <;> omega
  have g2 : (M : Int) < ((10 ^ (e + pl + 1) : Nat) : Int) := by
    rw [Int.natCast_pow]; show (M : Int) < (10 : Int) ^ (e + pl + 1)
    rw [k2]; rw [k3] at h2
    generalize (10 : Int) ^ e = X at *
    rcases h.hd with ⟨rfl, rfl⟩ | ⟨rfl, rfl⟩ | ⟨rfl, rfl⟩ <;> simp only [show (10:Int)^0 = 1 from rfl, show (10:Int)^1 = 10 from rfl, show (10:Int)^2 = 100 from rfl] at * <;> omega
  exact ⟨by exact_mod_cast g1, by exact_mod_cast g2⟩
theorem Num.e_le {n d : Int} {pl M e : Nat} (h : Num n d pl M) (h1 : 10 ^ (e + pl) ≤ M) : e + pl ≤ 4 := by
  have := h.hb
  apply Classical.byContradiction
  intro hc
  have : 10 ^ 5 ≤ 10 ^ (e + pl) := Nat.pow_le_pow_right (by decide) (by omega)
  omega
theorem Num.scaled {n d : Int} {pl M e : Nat} (h : Num n d pl M) (he : e + pl ≤ 4) : (n.natAbs : Int) * 10 ^ (14 - e) = ((M * 10 ^ (14 - e - pl) : Nat) : Int) * d := by
  have hM := h.hM
  have k : (10 : Int) ^ (14 - e) = 10 ^ pl * 10 ^ (14 - e - pl) := by rw [← Int.pow_add]; congr 1; omega
  rw [k, ← Int.mul_assoc, ← hM, Int.natCast_mul, Int.natCast_pow]
  show _ = (M : Int) * (10 : Int) ^ (14 - e - pl) * d
  ac_rfl
theorem Num.top {n d : Int} {pl M e : Nat} (_h : Num n d pl M) (he : e + pl ≤ 4) (h2 : M < 10 ^ (e + pl + 1)) : M * 10 ^ (14 - e - pl) < 10 ^ 15 := by
  calc M * 10 ^ (14 - e - pl) < 10 ^ (e + pl + 1) * 10 ^ (14 - e - pl) := Nat.mul_lt_mul_of_pos_right h2 (Nat.pow_pos (by decide))
    _ = 10 ^ 15 := by rw [← Nat.pow_add]; congr 1; omega
theorem str_int_sO {prog : Program} {w : World} {A : Around} {E : Value → Shared → Prop} {s : Shared} {Q : Value → Shared → Prop} {a : Int} {t : Tok} (h1 : a.natAbs < 10 ^ 20)
    (h : ∀ u k, Q (.str (sO ((if a < 0 then [45] else []) ++ ds a.natAbs)) u) { s with toks := k }) : wpAny (model prog w) A (call (.type "str") [.int a t]) Q E s := by
  have b : (10 : Nat) ^ 20 ≤ 2 ^ 1920 := by decide +kernel
  refine P.str_of_int (shown (N := 2 ^ 1920) (by omega) (by omega) (Int.le_refl _)) ?_
  rw [str_int]; exact h _ _
theorem str_nat_sO {prog : Program} {w : World} {A : Around} {E : Value → Shared → Prop} {s : Shared} {Q : Value → Shared → Prop} {a : Nat} {t : Tok} (h1 : a < 10 ^ 20)
    (h : ∀ u k, Q (.str (sO (ds a)) u) { s with toks := k }) : wpAny (model prog w) A (call (.type "str") [.int (a : Int) t]) Q E s := by
  refine str_int_sO (by omega) fun u k => ?_
  rw [if_neg (by omega), Int.natAbs_natCast]; exact h u k

theorem top_cast {a : Nat} (h : a < 10 ^ 15) : (a : Int) < 10 ^ Int.toNat 15 := by
  have e : (10 : Int) ^ Int.toNat 15 = 1000000000000000 := rfl
  omega
theorem tup_eq {D : Addr} {vs vs' : List Value} {c : Nat} {news : Led} (h : vs = vs') : ((D, ({ cls := .type "tuple", data := .seq vs.toArray c } : Obj)) :: news) = (D, tupO vs' c) :: news := by subst h; rfl
theorem significant_nz (w mean mg mb) (x : Addr) (n d : Int) (pl M : Nat) (t1 t2 t3 : Tok) (c : Nat) (hn : Num n d pl M) (h0 : n ≠ 0) : SpecO w mean mg mb 171 23 220 [.ref x, .int 15 t3] (fun news => (x, tupO [.int n t1, .int d t2] c) ∈ news)
    (fun r news nw => ∃ (e : Nat) (D : Addr) (a1 a2 a3 : Tok) (c' : Nat), e + pl + 1 = (ds M).length ∧ e + pl ≤ 4 ∧ r = .ref D ∧ nw = (D, tupO [.int (if 0 < n then 1 else -1) a1, .str (sO (ds M ++ List.replicate (14 - e - pl) 48)) a2, .int e a3] c') :: news) := by
  have hdp := hn.d_pos
  have hsm := hn.small
  have hge : d ≤ n.natAbs := by rcases hn.hge with h | h; exact absurd h h0; exact h
  unfold SpecO
  k_fill
  intro dp un gd cn cs a ccd cl outer A₀ base h₀ L m news s Q E B F X N T hk hpre hd hu hret
  refine wpAny_call ?_
  k_dflt cell_enter
  refine abs_A ?_
  intro A9a
  repeat' ((fail_if_success (with_reducible show wpAny _ _ (PySem.exec (PySem.Stmt.While _ _ _ _) _) _ _ _)); (fail_if_success (with_reducible show wpAny _ _ (PySem.exec (PySem.Stmt.For _ _ _ _ _) _) _ _ _)); (fail_if_success (with_reducible show wpAny _ _ (PySem.eval (PySem.Expr.ListComp _ _ _ _) _) _ _ _)); (fail_if_success (with_reducible show KswEnd _ _ _ _ _ _ _ _ _ _ _ _)); (fail_if_success (with_reducible show UnrEnd _ _ _ _ _ _ _)); first | (k_unfold; (try dsimp only)) | (k_end; wrow_close) | ((with_reducible show wpAny _ _ (PySem.call (Value.ref _) _) _ _ _); first | (with_reducible ((with_reducible show wpAny _ _ (PySem.call (Value.ref 164) _) _ _ _); k_dflt (refine' useV (scaled_spec _ _ _ _ _ _ _ _ _ _ _ _ _ _ ?kq1 ?kq2 ?kq3 ?kq4 ?kq5) ?k1 ?k2 ?k3 ?k4 ?k5 ?kK ?kp ?kd ?ku ?_; (case k1 => k_asm); (case k2 => k_asm); (case k3 => k_asm); (case k4 => k_asm); (case k5 => k_asm); (case kK => first | exact rfl | assumption); (case kp => assumption); (case kd => ktr_room); (case ku => ktr_units); (case kq5 => assumption); (case kq1 => omega); (case kq2 => omega); (case kq3 => omega); (case kq4 => omega); intro r9z h9z tk9z F9z N9z hr9z; obtain ⟨t9z, hr9z⟩ := hr9z; subst hr9z; (try dsimp only); (try k_sweep)))) | (with_reducible ((with_reducible show wpAny _ _ (PySem.call (Value.ref 143) _) _ _ _); k_dflt (refine' useV (exponent_spec _ _ _ _ _ _ _ _ _ _ ?kq1 ?kq2 ?kq3) ?k1 ?k2 ?k3 ?k4 ?k5 ?kK ?kp ?kd ?ku ?_; (case k1 => k_asm); (case k2 => k_asm); (case k3 => k_asm); (case k4 => k_asm); (case k5 => k_asm); (case kK => first | exact rfl | assumption); (case kp => assumption); (case kd => ktr_room); (case ku => ktr_units); (case kq1 => omega); (case kq2 => omega); (case kq3 => omega); intro r9z h9z tk9z F9z N9z hr9z; obtain ⟨e9z, t9z, hr9z, he1, he2⟩ := hr9z; subst hr9z; (try dsimp only); (try k_sweep))))) | (with_reducible ((with_reducible show wpAny _ _ (subscriptTail _ _ (PySem.Value.ref _) (PySem.Value.int _ _)) _ _ _); (k_dflt (refine' item_tupleT ?t ?a ?b ?c ?d ?_; (case t => exact News.isTup (by k_asm) (by k_mem)); (case a => decide); (case b => decide); (case c => rfl); (case d => rfl); k_whole)))) | ((with_reducible show wpAny _ _ (PySem.eval (PySem.Expr.Call (PySem.Expr.Name _ _) _ _) _) _ _ _); (refine Call_ ?_)) | (with_reducible ((with_reducible show wpAny _ _ (PySem.call (Value.type "str") [Value.int ((_ : Nat) : Int) _]) _ _ _); (refine' str_nat_sO ?kn ?_; (case kn => first | assumption | omega)); intro t9z k9z)) | (with_reducible ((with_reducible show wpAny _ _ (eval (Expr.Name _ _) (envOf _ _ _ _ _)) _ _ _); k_dflt (refine' ld ?k1 ?k2 ?_; (case k1 => k_asm); (case k2 => exact rfl); k_whole))) | ((with_reducible show wpAny _ _ (PySem.execs (List.cons _ _) _) _ _ _); walk1; (try (refine gen_s ?_; intro tkG; (try dsimp only); (try k_fold)))) | (walk1; (try dsimp only)) | (dsimp only; walk1) | (leave1; (try dsimp only)) | fail "no step")
  · exfalso; omega
  · rename d * 10 ^ _ ≤ _ => he1
    rename _ < d * 10 ^ (_ + 1) => he2
    have hx := hn.expo he1 he2
    have he := hn.e_le hx.1
    have hq := hn.scaled he
    have ht := hn.top he hx.2
    have ht2 := top_cast ht
    have hM : 0 < M := Nat.lt_of_lt_of_le (Nat.pow_pos (by decide)) hx.1
    have hlen := ds_len hx.1 hx.2
    repeat' ((fail_if_success (with_reducible show wpAny _ _ (PySem.exec (PySem.Stmt.While _ _ _ _) _) _ _ _)); (fail_if_success (with_reducible show wpAny _ _ (PySem.exec (PySem.Stmt.For _ _ _ _ _) _) _ _ _)); (fail_if_success (with_reducible show wpAny _ _ (PySem.eval (PySem.Expr.ListComp _ _ _ _) _) _ _ _)); (fail_if_success (with_reducible show KswEnd _ _ _ _ _ _ _ _ _ _ _ _)); (fail_if_success (with_reducible show UnrEnd _ _ _ _ _ _ _)); first | (k_unfold; (try dsimp only)) | (k_end; wrow_close) | ((with_reducible show wpAny _ _ (PySem.call (Value.ref _) _) _ _ _); first | (with_reducible ((with_reducible show wpAny _ _ (PySem.call (Value.ref 164) _) _ _ _); k_dflt (refine' useV (scaled_spec _ _ _ _ _ _ _ _ _ _ _ _ _ _ ?kq1 ?kq2 ?kq3 ?kq4 ?kq5) ?k1 ?k2 ?k3 ?k4 ?k5 ?kK ?kp ?kd ?ku ?_; (case k1 => k_asm); (case k2 => k_asm); (case k3 => k_asm); (case k4 => k_asm); (case k5 => k_asm); (case kK => first | exact rfl | assumption); (case kp => assumption); (case kd => ktr_room); (case ku => ktr_units); (case kq5 => assumption); (case kq1 => omega); (case kq2 => omega); (case kq3 => omega); (case kq4 => omega); intro r9z h9z tk9z F9z N9z hr9z; obtain ⟨t9z, hr9z⟩ := hr9z; subst hr9z; (try dsimp only); (try k_sweep)))) | (with_reducible ((with_reducible show wpAny _ _ (PySem.call (Value.ref 143) _) _ _ _); k_dflt (refine' useV (exponent_spec _ _ _ _ _ _ _ _ _ _ ?kq1 ?kq2 ?kq3) ?k1 ?k2 ?k3 ?k4 ?k5 ?kK ?kp ?kd ?ku ?_; (case k1 => k_asm); (case k2 => k_asm); (case k3 => k_asm); (case k4 => k_asm); (case k5 => k_asm); (case kK => first | exact rfl | assumption); (case kp => assumption); (case kd => ktr_room); (case ku => ktr_units); (case kq1 => omega); (case kq2 => omega); (case kq3 => omega); intro r9z h9z tk9z F9z N9z hr9z; obtain ⟨e9z, t9z, hr9z, he1, he2⟩ := hr9z; subst hr9z; (try dsimp only); (try k_sweep))))) | (with_reducible ((with_reducible show wpAny _ _ (subscriptTail _ _ (PySem.Value.ref _) (PySem.Value.int _ _)) _ _ _); (k_dflt (refine' item_tupleT ?t ?a ?b ?c ?d ?_; (case t => exact News.isTup (by k_asm) (by k_mem)); (case a => decide); (case b => decide); (case c => rfl); (case d => rfl); k_whole)))) | ((with_reducible show wpAny _ _ (PySem.eval (PySem.Expr.Call (PySem.Expr.Name _ _) _ _) _) _ _ _); (refine Call_ ?_)) | (with_reducible ((with_reducible show wpAny _ _ (PySem.call (Value.type "str") [Value.int ((_ : Nat) : Int) _]) _ _ _); (refine' str_nat_sO ?kn ?_; (case kn => first | assumption | omega)); intro t9z k9z)) | (with_reducible ((with_reducible show wpAny _ _ (eval (Expr.Name _ _) (envOf _ _ _ _ _)) _ _ _); k_dflt (refine' ld ?k1 ?k2 ?_; (case k1 => k_asm); (case k2 => exact rfl); k_whole))) | ((with_reducible show wpAny _ _ (PySem.execs (List.cons _ _) _) _ _ _); walk1; (try (refine gen_s ?_; intro tkG; (try dsimp only); (try k_fold)))) | (walk1; (try dsimp only)) | (dsimp only; walk1) | (leave1; (try dsimp only)) | fail "no step")
    · refine' hret _ _ _ _ (by k_asm) (by k_asm) ⟨_, _, _, _, _, _, hlen.symm, he, rfl, tup_eq ?hte⟩
      case hte => rw [if_pos (by assumption), ds_mul hM]
    · refine' hret _ _ _ _ (by k_asm) (by k_asm) ⟨_, _, _, _, _, _, hlen.symm, he, rfl, tup_eq ?hte⟩
      case hte => rw [if_neg (by assumption), ds_mul hM]

theorem significant_z (w mean mg mb) (x : Addr) (t1 t2 t3 : Tok) (c : Nat) : SpecO w mean mg mb 171 23 220 [.ref x, .int 15 t3] (fun news => (x, tupO [.int 0 t1, .int 1 t2] c) ∈ news)
    (fun r news nw => ∃ (D : Addr) (a1 a2 a3 : Tok) (c' : Nat), r = .ref D ∧ nw = (D, tupO [.int 0 a1, .str (sO (ds 0 ++ List.replicate 14 48)) a2, .int 0 a3] c') :: news) := by
  unfold SpecO
  k_fill
  intro dp un gd cn cs a ccd cl outer A₀ base h₀ L m news s Q E B F X N T hk hpre hd hu hret
  refine wpAny_call ?_
  k_dflt cell_enter
  refine abs_A ?_
  intro A9a
  repeat' ((fail_if_success (with_reducible show wpAny _ _ (PySem.exec (PySem.Stmt.While _ _ _ _) _) _ _ _)); (fail_if_success (with_reducible show wpAny _ _ (PySem.exec (PySem.Stmt.For _ _ _ _ _) _) _ _ _)); (fail_if_success (with_reducible show wpAny _ _ (PySem.eval (PySem.Expr.ListComp _ _ _ _) _) _ _ _)); (fail_if_success (with_reducible show KswEnd _ _ _ _ _ _ _ _ _ _ _ _)); (fail_if_success (with_reducible show UnrEnd _ _ _ _ _ _ _)); first | (k_unfold; (try dsimp only)) | (k_end; wrow_close) | ((with_reducible show wpAny _ _ (PySem.call (Value.ref _) _) _ _ _); first | (with_reducible ((with_reducible show wpAny _ _ (PySem.call (Value.ref 164) _) _ _ _); k_dflt (refine' useV (scaled_spec _ _ _ _ _ _ _ _ _ _ _ _ _ _ ?kq1 ?kq2 ?kq3 ?kq4 ?kq5) ?k1 ?k2 ?k3 ?k4 ?k5 ?kK ?kp ?kd ?ku ?_; (case k1 => k_asm); (case k2 => k_asm); (case k3 => k_asm); (case k4 => k_asm); (case k5 => k_asm); (case kK => first | exact rfl | assumption); (case kp => assumption); (case kd => ktr_room); (case ku => ktr_units); (case kq5 => assumption); (case kq1 => omega); (case kq2 => omega); (case kq3 => omega); (case kq4 => omega); intro r9z h9z tk9z F9z N9z hr9z; obtain ⟨t9z, hr9z⟩ := hr9z; subst hr9z; (try dsimp only); (try k_sweep)))) | (with_reducible ((with_reducible show wpAny _ _ (PySem.call (Value.ref 143) _) _ _ _); k_dflt (refine' useV (exponent_spec _ _ _ _ _ _ _ _ _ _ ?kq1 ?kq2 ?kq3) ?k1 ?k2 ?k3 ?k4 ?k5 ?kK ?kp ?kd ?ku ?_; (case k1 => k_asm); (case k2 => k_asm); (case k3 => k_asm); (case k4 => k_asm); (case k5 => k_asm); (case kK => first | exact rfl | assumption); (case kp => assumption); (case kd => ktr_room); (case ku => ktr_units); (case kq1 => omega); (case kq2 => omega); (case kq3 => omega); intro r9z h9z tk9z F9z N9z hr9z; obtain ⟨e9z, t9z, hr9z, he1, he2⟩ := hr9z; subst hr9z; (try dsimp only); (try k_sweep))))) | (with_reducible ((with_reducible show wpAny _ _ (subscriptTail _ _ (PySem.Value.ref _) (PySem.Value.int _ _)) _ _ _); (k_dflt (refine' item_tupleT ?t ?a ?b ?c ?d ?_; (case t => exact News.isTup (by k_asm) (by k_mem)); (case a => decide); (case b => decide); (case c => rfl); (case d => rfl); k_whole)))) | ((with_reducible show wpAny _ _ (PySem.eval (PySem.Expr.Call (PySem.Expr.Name _ _) _ _) _) _ _ _); (refine Call_ ?_)) | (with_reducible ((with_reducible show wpAny _ _ (PySem.call (Value.type "str") [Value.int ((_ : Nat) : Int) _]) _ _ _); (refine' str_nat_sO ?kn ?_; (case kn => first | assumption | omega)); intro t9z k9z)) | (with_reducible ((with_reducible show wpAny _ _ (eval (Expr.Name _ _) (envOf _ _ _ _ _)) _ _ _); k_dflt (refine' ld ?k1 ?k2 ?_; (case k1 => k_asm); (case k2 => exact rfl); k_whole))) | ((with_reducible show wpAny _ _ (PySem.execs (List.cons _ _) _) _ _ _); walk1; (try (refine gen_s ?_; intro tkG; (try dsimp only); (try k_fold)))) | (walk1; (try dsimp only)) | (dsimp only; walk1) | (leave1; (try dsimp only)) | fail "no step")
  refine' hret _ _ _ _ (by k_asm) (by k_asm) ⟨_, _, _, _, _, rfl, tup_eq ?hte⟩
  case hte => rw [show Str.ofString "000000000000000" = sO (ds 0 ++ List.replicate 14 48) by decide +kernel]

example : True := by (w_top off; exact True.intro)
theorem significant_spec (w mean mg mb) (x : Addr) (n d : Int) (pl M : Nat) (t1 t2 t3 : Tok) (c : Nat) (hn : Num n d pl M) : SpecO w mean mg mb 171 23 220 [.ref x, .int 15 t3] (fun news => (x, tupO [.int n t1, .int d t2] c) ∈ news)
    (fun r news nw => ∃ (e : Nat) (D : Addr) (sd : Int) (a1 a2 a3 : Tok) (c' : Nat), e + pl + 1 = (ds M).length ∧ e + pl ≤ 4 ∧ r = .ref D ∧ nw = (D, tupO [.int sd a1, .str (sO (ds M ++ List.replicate (14 - e - pl) 48)) a2, .int e a3] c') :: news) := by
  by_cases h0 : n = 0
  · have hp := hn.hz h0
    have hd1 : d = 1 := by rcases hn.hd with ⟨h, _⟩ | ⟨_, h⟩ | ⟨_, h⟩ <;> omega
    have hM : M = 0 := by have := hn.hM; subst h0 hp hd1; simp at this; omega
    subst h0 hp hd1 hM
    intro dp un gd cn cs a ccd cl outer A₀ base h₀ L m news s Q E B F X N T hk hpre hd hu hret
    refine significant_z w mean mg mb x t1 t2 t3 c dp un gd cn cs a ccd cl outer A₀ base h₀ L m news s Q E B F X N T hk hpre hd hu ?_
    rintro r nw h' tk' F' N' ⟨D, a1, a2, a3, c', h1, h2⟩
    exact hret r nw h' tk' F' N' ⟨0, D, 0, a1, a2, a3, c', by rw [ds_small (by decide)]; rfl, by decide, h1, h2⟩
  · intro dp un gd cn cs a ccd cl outer A₀ base h₀ L m news s Q E B F X N T hk hpre hd hu hret
    refine significant_nz w mean mg mb x n d pl M t1 t2 t3 c hn h0 dp un gd cn cs a ccd cl outer A₀ base h₀ L m news s Q E B F X N T hk hpre hd hu ?_
    rintro r nw h' tk' F' N' ⟨e, D, a1, a2, a3, c', h1, h2, h3, h4⟩
    exact hret r nw h' tk' F' N' ⟨e, D, _, a1, a2, a3, c', h1, h2, h3, h4⟩

theorem news_tup {h₀ h : Heap} {L D : Addr} {vs vs' : List Value} {c : Nat} {rest news : Led} (N : News h₀ L h ((D, ({ cls := .type "tuple", data := .seq vs.toArray c } : Obj)) :: rest)) (e : vs = vs') (hs : ∀ p ∈ news, p ∈ rest) :
    News h₀ L h ((D, tupO vs' c) :: news) := by
  subst e
  exact cb_drop N fun p hp => by
    rcases List.mem_cons.mp hp with rfl | hp
    · exact .head _
    · exact .tail _ (hs p hp)
theorem ds_tail {n d : Int} {pl M : Nat} (hn : Num n d pl M) (h : 0 < pl) : (ds M).getD ((ds M).length - 1) 0 ≠ 48 := by
  obtain ⟨l, e⟩ := ds_last M
  have := hn.h10 h
  rw [e, List.getD_eq_getElem?_getD]
  simp; omega
theorem meas_vals {n d : Int} {pl M e c : Nat} {u a b t : Tok} {x y : Int} (hn : Num n d pl M) (he : e + pl + 1 = (ds M).length) (h1 : 1 ≤ c) (h2 : c ≤ (ds M).length) (h3 : (ds M).getD ((ds M).length - 1) 0 ≠ 48 → c = (ds M).length) (hxy : x = (e : Int) + 1 + y) :
    [Value.int (((ds M ++ List.replicate (14 - e - pl) 48).take c).length : Int) u, Value.int x a, Value.int (if 0 > (((ds M ++ List.replicate (14 - e - pl) 48).take c).length : Int) - 1 - e then 0 else (((ds M ++ List.replicate (14 - e - pl) 48).take c).length : Int) - 1 - e) b, Value.int e t]
      = [Value.int c u, Value.int ((e : Int) + 1 + y) a, Value.int pl b, Value.int e t] := by
  have hl : ((ds M ++ List.replicate (14 - e - pl) 48).take c).length = c := by rw [List.length_take, List.length_append]; omega
  have hp : (if 0 > (c : Int) - 1 - e then 0 else (c : Int) - 1 - e) = pl := by
    rcases Nat.eq_zero_or_pos pl with h | h
    · split <;> omega
    · have := h3 (ds_tail hn h)
      split <;> omega
  rw [hl, hp, hxy]
theorem measures_spec (w mean mg mb) (x : Addr) (n d : Int) (pl M : Nat) (t1 t2 t3 : Tok) (c : Nat) (hn : Num n d pl M) : SpecO w mean mg mb 199 24 240 [.ref x, .int 15 t3] (fun news => (x, tupO [.int n t1, .int d t2] c) ∈ news)
    (fun r news nw => ∃ (e cnt : Nat) (D : Addr) (a1 a2 a3 a4 : Tok) (c' : Nat), e + pl ≤ 4 ∧ 1 ≤ cnt ∧ cnt ≤ 15 ∧ (0 < pl → cnt = e + pl + 1) ∧ r = .ref D ∧ nw = (D, tupO [.int cnt a1, .int ((e : Int) + 1 + (if n < 0 then 1 else 0)) a2, .int pl a3, .int e a4] c') :: news) := by
  unfold SpecO
  k_fill
  intro dp un gd cn cs a ccd cl outer A₀ base h₀ L m news s Q E B F X N T hk hpre hd hu hret
  refine wpAny_call ?_
  k_dflt cell_enter
  refine abs_A ?_
  intro A9a
  repeat' ((fail_if_success (with_reducible show wpAny _ _ (PySem.exec (PySem.Stmt.While _ _ _ _) _) _ _ _)); (fail_if_success (with_reducible show wpAny _ _ (PySem.exec (PySem.Stmt.For _ _ _ _ _) _) _ _ _)); (fail_if_success (with_reducible show wpAny _ _ (PySem.eval (PySem.Expr.ListComp _ _ _ _) _) _ _ _)); (fail_if_success (with_reducible show KswEnd _ _ _ _ _ _ _ _ _ _ _ _)); (fail_if_success (with_reducible show UnrEnd _ _ _ _ _ _ _)); first | (k_unfold; (try dsimp only)) | (k_end; wrow_close) | ((with_reducible show wpAny _ _ (PySem.call (Value.ref _) _) _ _ _); first | (with_reducible ((with_reducible show wpAny _ _ (PySem.call (Value.ref 178) _) _ _ _); k_dflt (refine' useV (without_tail_spec _ _ _ _ _ _ _ ?kq1 ?kq2) ?k1 ?k2 ?k3 ?k4 ?k5 ?kK ?kp ?kd ?ku ?_; (case k1 => k_asm); (case k2 => k_asm); (case k3 => k_asm); (case k4 => k_asm); (case k5 => k_asm); (case kK => first | exact rfl | assumption); (case kp => trivial); (case kd => ktr_room); (case ku => ktr_units); (case kq1 => exact ds_ne _); (case kq2 => omega); intro r9z h9z tk9z F9z N9z hr9z; obtain ⟨c9z, t9z, hr9z, hc1, hc2, hc3⟩ := hr9z; subst hr9z; (try dsimp only); (try k_sweep)))) | (with_reducible ((with_reducible show wpAny _ _ (PySem.call (Value.ref 171) _) _ _ _); k_dflt (refine' useO (significant_spec _ _ _ _ _ _ _ _ _ _ _ _ _ ?kq) ?k1 ?k2 ?k3 ?k4 ?k5 ?kK ?kp ?kd ?ku ?_; (case k1 => k_asm); (case k2 => k_asm); (case k3 => k_asm); (case k4 => k_asm); (case k5 => k_asm); (case kK => first | exact rfl | assumption); (case kp => assumption); (case kd => ktr_room); (case ku => ktr_units); (case kq => assumption); intro r9z nw9z h9z tk9z F9z N9z hr9z; obtain ⟨e9z, D9z, sd9z, t91, t92, t93, c9z, he9z, hf9z, hr9z, hn9z⟩ := hr9z; subst hr9z; subst hn9z; (try dsimp only); (try k_sweep))))) | (with_reducible ((with_reducible show wpAny _ _ (subscriptTail _ _ (PySem.Value.ref _) (PySem.Value.int _ _)) _ _ _); (k_dflt (refine' item_tupleT ?t ?a ?b ?c ?d ?_; (case t => exact News.isTup (by k_asm) (by k_mem)); (case a => decide); (case b => decide); (case c => rfl); (case d => rfl); k_whole)))) | ((with_reducible show wpAny _ _ (PySem.eval (PySem.Expr.Call (PySem.Expr.Name _ _) _ _) _) _ _ _); (refine Call_ ?_)) | (with_reducible ((with_reducible show wpAny _ _ (PySem.call (Value.builtin "len") [Value.str (sO _) _]) _ _ _); refine len_sO (by first | omega | (simp; omega)) ?_; intro u9z k9z)) | (with_reducible ((with_reducible show wpAny _ _ (eval (Expr.Name _ _) (envOf _ _ _ _ _)) _ _ _); k_dflt (refine' ld ?k1 ?k2 ?_; (case k1 => k_asm); (case k2 => exact rfl); k_whole))) | ((with_reducible show wpAny _ _ (PySem.execs (List.cons _ _) _) _ _ _); walk1; (try (refine gen_s ?_; intro tkG; (try dsimp only); (try k_fold)))) | (walk1; (try dsimp only)) | (dsimp only; walk1) | (leave1; (try dsimp only)) | fail "no step")
  all_goals
    rename _ + pl + 1 = (ds M).length => he9
    rename _ + pl ≤ 4 => hf9
    rename 1 ≤ _ => hc1
    rename _ ≤ (ds M).length => hc2
    rename _ → _ = (ds M).length => hc3
    refine' hret _ _ _ _ (by k_asm) (news_tup (by k_asm) (meas_vals hn he9 hc1 hc2 hc3 ?hv) sub_tail) ⟨_, _, _, _, _, _, _, _, hf9, hc1, by omega, fun h => by rw [hc3 (ds_tail hn h), ← he9], rfl, rfl⟩
    case hv => ((repeat' split) <;> omega)

example : True := by (w_top off; exact True.intro)

abbrev lstO (vs : List Value) (c : Nat) : Obj := { cls := .type "list", data := .seq vs.toArray c }
theorem chosen_form_spec (w mean mg mb) (xs x : Addr) (n d : Int) (pl M : Nat) (t1 t2 t3 : Tok) (c c' : Nat) (hn : Num n d pl M) : SpecO w mean mg mb 206 25 260 [.ref xs, .int 15 t3] (fun news => (xs, lstO [.ref x] c') ∈ news ∧ (x, tupO [.int n t1, .int d t2] c) ∈ news)
    (fun r news nw => ∃ (D : Addr) (a1 a2 : Tok) (c' : Nat), (∀ p ∈ news, p.1 < D) ∧ r = .ref D ∧ nw = (D, tupO [.str (Str.ofString "fixed") a1, .int pl a2] c') :: news) := by
  unfold SpecO
  k_fill
  intro dp un gd cn cs a ccd cl outer A₀ base h₀ L m news s Q E B F X N T hk hpre hd hu hret
  refine wpAny_call ?_
  k_dflt cell_enter
  refine abs_A ?_
  intro A9a
  obtain ⟨hpre1, hpre2⟩ := hpre
  repeat' ((fail_if_success (with_reducible show wpAny _ _ (PySem.exec (PySem.Stmt.While _ _ _ _) _) _ _ _)); (fail_if_success (with_reducible show wpAny _ _ (PySem.exec (PySem.Stmt.For _ _ _ _ _) _) _ _ _)); (fail_if_success (with_reducible show wpAny _ _ (PySem.eval (PySem.Expr.ListComp _ _ _ _) _) _ _ _)); (fail_if_success (with_reducible show KswEnd _ _ _ _ _ _ _ _ _ _ _ _)); (fail_if_success (with_reducible show UnrEnd _ _ _ _ _ _ _)); first | (k_unfold; (try dsimp only)) | (k_end; wrow_close) | ((with_reducible show wpAny _ _ (PySem.call (Value.ref _) _) _ _ _); first | (with_reducible ((with_reducible show wpAny _ _ (PySem.call (Value.ref 199) _) _ _ _); k_dflt (refine' useO (measures_spec _ _ _ _ _ _ _ _ _ _ _ _ _ ?kq) ?k1 ?k2 ?k3 ?k4 ?k5 ?kK ?kp ?kd ?ku ?_; (case k1 => k_asm); (case k2 => k_asm); (case k3 => k_asm); (case k4 => k_asm); (case k5 => k_asm); (case kK => first | exact rfl | assumption); (case kp => k_mem); (case kd => ktr_room); (case ku => ktr_units); (case kq => assumption); intro r9z nw9z h9z tk9z F9z N9z hr9z; obtain ⟨e9z, n9z, D9z, t91, t92, t93, t94, c9z, he9z, hc1, hc3, hc2, hr9z, hn9z⟩ := hr9z; subst hr9z; subst hn9z; (try dsimp only); (try k_sweep))))) | (with_reducible ((with_reducible show wpAny _ _ (subscriptTail _ _ (PySem.Value.ref _) (PySem.Value.int _ _)) _ _ _); (k_dflt (refine' item_tupleT ?t ?a ?b ?c ?d ?_; (case t => exact News.isTup (by k_asm) (by k_mem)); (case a => decide); (case b => decide); (case c => rfl); (case d => rfl); k_whole)))) | ((with_reducible show wpAny _ _ (PySem.eval (PySem.Expr.Call (PySem.Expr.Name _ _) _ _) _) _ _ _); (refine Call_ ?_)) | (with_reducible ((with_reducible show wpAny _ _ (eval (Expr.Name _ _) (envOf _ _ _ _ _)) _ _ _); k_dflt (refine' ld ?k1 ?k2 ?_; (case k1 => k_asm); (case k2 => exact rfl); k_whole))) | (with_reducible ((with_reducible show wpAny _ _ (PySem.call (PySem.Value.builtin "abs") _) _ _ _); (refine abs_natAbs ?_; intro u9z k9z))) | ((with_reducible show wpAny _ _ (PySem.execs (List.cons _ _) _) _ _ _); walk1; (try (refine gen_s ?_; intro tkG; (try dsimp only); (try k_fold)))) | (walk1; (try dsimp only)) | (dsimp only; walk1) | (leave1; (try dsimp only)) | fail "no step")
  (rename Fr _ _ _ _ => lF'); (with_unfolding_all refine' For_invVF lF' ?k1 ?k2 ?_; (case k1 => exact rfl); (case k2 => exact rfl); k_whole)
  (first | ((with_reducible show wpAny _ _ (PySem.call (Value.ref _) _) _ _ _); first | (with_reducible ((with_reducible show wpAny _ _ (PySem.call (Value.ref 199) _) _ _ _); k_dflt (refine' useO (measures_spec _ _ _ _ _ _ _ _ _ _ _ _ _ ?kq) ?k1 ?k2 ?k3 ?k4 ?k5 ?kK ?kp ?kd ?ku ?_; (case k1 => k_asm); (case k2 => k_asm); (case k3 => k_asm); (case k4 => k_asm); (case k5 => k_asm); (case kK => first | exact rfl | assumption); (case kp => k_mem); (case kd => ktr_room); (case ku => ktr_units); (case kq => assumption); intro r9z nw9z h9z tk9z F9z N9z hr9z; obtain ⟨e9z, n9z, D9z, t91, t92, t93, t94, c9z, he9z, hc1, hc3, hc2, hr9z, hn9z⟩ := hr9z; subst hr9z; subst hn9z; (try dsimp only); (try k_sweep))))) | (with_reducible ((with_reducible show wpAny _ _ (subscriptTail _ _ (PySem.Value.ref _) (PySem.Value.int _ _)) _ _ _); (k_dflt (refine' item_tupleT ?t ?a ?b ?c ?d ?_; (case t => exact News.isTup (by k_asm) (by k_mem)); (case a => decide); (case b => decide); (case c => rfl); (case d => rfl); k_whole)))) | ((with_reducible show wpAny _ _ (PySem.eval (PySem.Expr.Call (PySem.Expr.Name _ _) _ _) _) _ _ _); (refine Call_ ?_)) | (with_reducible ((with_reducible show wpAny _ _ (eval (Expr.Name _ _) (envOf _ _ _ _ _)) _ _ _); k_dflt (refine' ld ?k1 ?k2 ?_; (case k1 => k_asm); (case k2 => exact rfl); k_whole))) | (with_reducible ((with_reducible show wpAny _ _ (PySem.call (PySem.Value.builtin "abs") _) _ _ _); (refine abs_natAbs ?_; intro u9z k9z))) | walk1)
  refine' iter_listUnr (lo := lstO [.ref x] c') (vs := [.ref x]) rfl (by k_asm) (by k_asm) hpre1 rfl rfl ?_
  intro I hI
  refine ListRest.succ (fun it h tk hit F N => ?_)
  repeat' ((fail_if_success (with_reducible show wpAny _ _ (PySem.exec (PySem.Stmt.While _ _ _ _) _) _ _ _)); (fail_if_success (with_reducible show wpAny _ _ (PySem.exec (PySem.Stmt.For _ _ _ _ _) _) _ _ _)); (fail_if_success (with_reducible show wpAny _ _ (PySem.eval (PySem.Expr.ListComp _ _ _ _) _) _ _ _)); (fail_if_success (with_reducible show KswEnd _ _ _ _ _ _ _ _ _ _ _ _)); (fail_if_success (with_reducible show UnrEnd _ _ _ _ _ _ _)); first | (k_unfold; (try dsimp only)) | (k_end; wrow_close) | ((with_reducible show wpAny _ _ (PySem.call (Value.ref _) _) _ _ _); first | (with_reducible ((with_reducible show wpAny _ _ (PySem.call (Value.ref 199) _) _ _ _); k_dflt (refine' useO (measures_spec _ _ _ _ _ _ _ _ _ _ _ _ _ ?kq) ?k1 ?k2 ?k3 ?k4 ?k5 ?kK ?kp ?kd ?ku ?_; (case k1 => k_asm); (case k2 => k_asm); (case k3 => k_asm); (case k4 => k_asm); (case k5 => k_asm); (case kK => first | exact rfl | assumption); (case kp => k_mem); (case kd => ktr_room); (case ku => ktr_units); (case kq => assumption); intro r9z nw9z h9z tk9z F9z N9z hr9z; obtain ⟨e9z, n9z, D9z, t91, t92, t93, t94, c9z, he9z, hc1, hc3, hc2, hr9z, hn9z⟩ := hr9z; subst hr9z; subst hn9z; (try dsimp only); (try k_sweep))))) | (with_reducible ((with_reducible show wpAny _ _ (subscriptTail _ _ (PySem.Value.ref _) (PySem.Value.int _ _)) _ _ _); (k_dflt (refine' item_tupleT ?t ?a ?b ?c ?d ?_; (case t => exact News.isTup (by k_asm) (by k_mem)); (case a => decide); (case b => decide); (case c => rfl); (case d => rfl); k_whole)))) | ((with_reducible show wpAny _ _ (PySem.eval (PySem.Expr.Call (PySem.Expr.Name _ _) _ _) _) _ _ _); (refine Call_ ?_)) | (with_reducible ((with_reducible show wpAny _ _ (eval (Expr.Name _ _) (envOf _ _ _ _ _)) _ _ _); k_dflt (refine' ld ?k1 ?k2 ?_; (case k1 => k_asm); (case k2 => exact rfl); k_whole))) | (with_reducible ((with_reducible show wpAny _ _ (PySem.call (PySem.Value.builtin "abs") _) _ _ _); (refine abs_natAbs ?_; intro u9z k9z))) | ((with_reducible show wpAny _ _ (PySem.execs (List.cons _ _) _) _ _ _); walk1; (try (refine gen_s ?_; intro tkG; (try dsimp only); (try k_fold)))) | (walk1; (try dsimp only)) | (dsimp only; walk1) | (leave1; (try dsimp only)) | fail "no step")
  all_goals
    refine UnrEnd.intro (by k_asm) (by k_asm) news sub_tail (fun p hp => Nat.ne_of_lt (hI p hp)) ⟨hpre1, ListRest.zero (fun h tk F N => ?_)⟩
    repeat' ((fail_if_success (with_reducible show wpAny _ _ (PySem.exec (PySem.Stmt.While _ _ _ _) _) _ _ _)); (fail_if_success (with_reducible show wpAny _ _ (PySem.exec (PySem.Stmt.For _ _ _ _ _) _) _ _ _)); (fail_if_success (with_reducible show wpAny _ _ (PySem.eval (PySem.Expr.ListComp _ _ _ _) _) _ _ _)); (fail_if_success (with_reducible show KswEnd _ _ _ _ _ _ _ _ _ _ _ _)); (fail_if_success (with_reducible show UnrEnd _ _ _ _ _ _ _)); first | (k_unfold; (try dsimp only)) | (k_end; wrow_close) | ((with_reducible show wpAny _ _ (PySem.call (Value.ref _) _) _ _ _); first | (with_reducible ((with_reducible show wpAny _ _ (PySem.call (Value.ref 199) _) _ _ _); k_dflt (refine' useO (measures_spec _ _ _ _ _ _ _ _ _ _ _ _ _ ?kq) ?k1 ?k2 ?k3 ?k4 ?k5 ?kK ?kp ?kd ?ku ?_; (case k1 => k_asm); (case k2 => k_asm); (case k3 => k_asm); (case k4 => k_asm); (case k5 => k_asm); (case kK => first | exact rfl | assumption); (case kp => k_mem); (case kd => ktr_room); (case ku => ktr_units); (case kq => assumption); intro r9z nw9z h9z tk9z F9z N9z hr9z; obtain ⟨e9z, n9z, D9z, t91, t92, t93, t94, c9z, he9z, hc1, hc3, hc2, hr9z, hn9z⟩ := hr9z; subst hr9z; subst hn9z; (try dsimp only); (try k_sweep))))) | (with_reducible ((with_reducible show wpAny _ _ (subscriptTail _ _ (PySem.Value.ref _) (PySem.Value.int _ _)) _ _ _); (k_dflt (refine' item_tupleT ?t ?a ?b ?c ?d ?_; (case t => exact News.isTup (by k_asm) (by k_mem)); (case a => decide); (case b => decide); (case c => rfl); (case d => rfl); k_whole)))) | ((with_reducible show wpAny _ _ (PySem.eval (PySem.Expr.Call (PySem.Expr.Name _ _) _ _) _) _ _ _); (refine Call_ ?_)) | (with_reducible ((with_reducible show wpAny _ _ (eval (Expr.Name _ _) (envOf _ _ _ _ _)) _ _ _); k_dflt (refine' ld ?k1 ?k2 ?_; (case k1 => k_asm); (case k2 => exact rfl); k_whole))) | (with_reducible ((with_reducible show wpAny _ _ (PySem.call (PySem.Value.builtin "abs") _) _ _ _); (refine abs_natAbs ?_; intro u9z k9z))) | ((with_reducible show wpAny _ _ (PySem.execs (List.cons _ _) _) _ _ _); walk1; (try (refine gen_s ?_; intro tkG; (try dsimp only); (try k_fold)))) | (walk1; (try dsimp only)) | (dsimp only; walk1) | (leave1; (try dsimp only)) | fail "no step")
  all_goals first
    | (refine' hret _ _ _ _ (by k_asm) (by k_asm) ⟨_, _, _, _, (by first | assumption | exact fun p hp => (by assumption : ∀ q ∈ _ :: news, q.1 < _) p (.tail _ hp)), rfl, tup_eq ?hte⟩; (case hte => rw [show (if (pl : Int) > 0 then (pl : Int) else 0) = pl by split <;> omega]))
    | (exfalso; omega)
    | (exfalso; (repeat' (split at *)) <;> omega)

example : True := by (w_top off; exact True.intro)
theorem join_one {prog : Program} {w : World} {A : Around} {E : Value → Shared → Prop} {s : Shared} {Q : Value → Shared → Prop} {h₀ : Heap} {L D : Addr} {news : Led} {l : List Nat} {t u : Tok} {c : Nat} (N : News h₀ L s.heap news)
    (hm : (D, W.listOf #[.str (sO l) u] c) ∈ news) (hz : l.length ≤ 1000) (h : ∀ t' k, Q (.str (sO l) t') { s with toks := k }) : wpAny (model prog w) A (call (.builtin "str.join") [.str (Str.ofString "") t, .ref D]) Q E s := by
  refine SC.join (l := [(sO l, u)]) (texts := [sO l]) ⟨_, N.get hm, rfl, c, rfl⟩ rfl ?_ ?_
  · unfold JoinOk Builtin.Str.tooLong
    have h0 : (Str.ofString "").length = 0 := by decide +kernel
    have hl : (sO l).length = l.length := by simp [Str.length]
    simp [h0, hl, sizeLine]
    omega
  · have e : Txt.join (Str.ofString "") [sO l] = sO l := by
      simp [Txt.join, Builtin.Str.glued, Str.ofString, cpsOfBytes]
    rw [e]; exact h

theorem ds_short {m : Nat} (h : m < 10 ^ 9) : (ds m).length ≤ 9 := by
  unfold ds; rw [List.length_map]; exact digits10_le (by decide) h
theorem whole_text_spec (w mean mg mb) (M : Nat) (t1 : Tok) (hM : M < 10 ^ 9) : SpecV w mean mg mb 150 20 160 [.int (M : Int) t1] (fun _ => True)
    (fun r => ∃ t, r = .str (sO (ds M)) t) := by
  have hb : (M : Int) < 10 ^ Int.toNat 18 := by
    have e : (10 : Int) ^ Int.toNat 18 = 1000000000000000000 := rfl
    omega
  have hz : (ds ((M : Int)).natAbs).length ≤ 1000 := by rw [Int.natAbs_natCast]; have := ds_short hM; omega
  unfold SpecV
  k_fill
  intro dp un gd cn cs a ccd cl outer A₀ base h₀ L m news s Q E B F X N T hk hpre hd hu hret
  refine wpAny_call ?_
  k_dflt cell_enter
  refine abs_A ?_
  intro A9a
  repeat' ((fail_if_success (with_reducible show wpAny _ _ (PySem.exec (PySem.Stmt.While _ _ _ _) _) _ _ _)); (fail_if_success (with_reducible show wpAny _ _ (PySem.exec (PySem.Stmt.For _ _ _ _ _) _) _ _ _)); (fail_if_success (with_reducible show wpAny _ _ (PySem.eval (PySem.Expr.ListComp _ _ _ _) _) _ _ _)); (fail_if_success (with_reducible show KswEnd _ _ _ _ _ _ _ _ _ _ _ _)); (fail_if_success (with_reducible show UnrEnd _ _ _ _ _ _ _)); first | (k_unfold; (try dsimp only)) | (k_end; wrow_close) | ((with_reducible show wpAny _ _ (PySem.eval (PySem.Expr.Call (PySem.Expr.Name _ _) _ _) _) _ _ _); (refine Call_ ?_)) | ((with_reducible show wpAny _ _ (PySem.call (PySem.Value.builtin "str.join") _) _ _ _); (refine join_one (by k_asm) (by k_mem) ?hz ?_; (case hz => first | omega | assumption); intro t9z k9z)) | (with_reducible ((with_reducible show wpAny _ _ (PySem.call (Value.type "str") [Value.int ((_ : Nat) : Int) _]) _ _ _); (refine' str_nat_sO ?kn ?_; (case kn => first | assumption | omega)); intro t9z k9z)) | (with_reducible ((with_reducible show wpAny _ _ (eval (Expr.Name _ _) (envOf _ _ _ _ _)) _ _ _); k_dflt (refine' ld ?k1 ?k2 ?_; (case k1 => k_asm); (case k2 => exact rfl); k_whole))) | (with_reducible ((with_reducible show wpAny _ _ (PySem.call (PySem.Value.builtin "abs") _) _ _ _); (refine abs_natAbs ?_; intro u9z k9z))) | walk1 | (dsimp only; walk1) | (leave1; (try dsimp only)) | fail "no step")
  rename News _ _ _ (_ :: news) => NN
  refine' ksw_while (fun _ => _ :: news) (fun _ : Unit => []) (fun _ => True) [] (fun _ => True) (fun _ => 0) () (by k_asm) NN trivial keys_nil trivial ?_
  rintro ⟨⟩ u2 h5 tk5 - - F5 N5
  dsimp only [kstB] at F5
  repeat' ((fail_if_success (with_reducible show wpAny _ _ (PySem.exec (PySem.Stmt.While _ _ _ _) _) _ _ _)); (fail_if_success (with_reducible show wpAny _ _ (PySem.exec (PySem.Stmt.For _ _ _ _ _) _) _ _ _)); (fail_if_success (with_reducible show wpAny _ _ (PySem.eval (PySem.Expr.ListComp _ _ _ _) _) _ _ _)); (fail_if_success (with_reducible show KswEnd _ _ _ _ _ _ _ _ _ _ _ _)); (fail_if_success (with_reducible show UnrEnd _ _ _ _ _ _ _)); first | (k_unfold; (try dsimp only)) | (k_end; wrow_close) | ((with_reducible show wpAny _ _ (PySem.eval (PySem.Expr.Call (PySem.Expr.Name _ _) _ _) _) _ _ _); (refine Call_ ?_)) | ((with_reducible show wpAny _ _ (PySem.call (PySem.Value.builtin "str.join") _) _ _ _); (refine join_one (by k_asm) (by k_mem) ?hz ?_; (case hz => first | omega | assumption); intro t9z k9z)) | (with_reducible ((with_reducible show wpAny _ _ (PySem.call (Value.type "str") [Value.int ((_ : Nat) : Int) _]) _ _ _); (refine' str_nat_sO ?kn ?_; (case kn => first | assumption | omega)); intro t9z k9z)) | (with_reducible ((with_reducible show wpAny _ _ (eval (Expr.Name _ _) (envOf _ _ _ _ _)) _ _ _); k_dflt (refine' ld ?k1 ?k2 ?_; (case k1 => k_asm); (case k2 => exact rfl); k_whole))) | (with_reducible ((with_reducible show wpAny _ _ (PySem.call (PySem.Value.builtin "abs") _) _ _ _); (refine abs_natAbs ?_; intro u9z k9z))) | walk1 | (dsimp only; walk1) | (leave1; (try dsimp only)) | fail "no step")
  exact hret _ _ _ (by k_asm) (cb_drop (by k_asm) sub_tail) ⟨_, by rw [Int.natAbs_natCast]⟩

example : True := by (w_top off; exact True.intro)
/-- a number's text as the program writes it -/
def txt (n : Int) (pl M : Nat) : List Nat :=
  (if n < 0 then [45] else []) ++ (if 0 < pl then (ds M).take ((ds M).length - pl) ++ 46 :: (ds M).drop ((ds M).length - pl) else ds M)
theorem rjust_sO {prog : Program} {w : World} {A : Around} {E : Value → Shared → Prop} {s : Shared} {Q : Value → Shared → Prop} {l : List Nat} {i : Int} {t u v : Tok} (hi : i ≤ l.length) (h0 : 0 ≤ i) (h9 : i < 1000)
    (h : ∀ t' k, Q (.str (sO l) t') { s with toks := k }) : wpAny (model prog w) A (call (.builtin "str.rjust") [.str (sO l) t, .int i u, .str (Str.ofString "0") v]) Q E s := by
  refine rjust_fill (padOk_of (by omega) (by omega)) (by decide +kernel) fun t' k => ?_
  have hl : (sO l).length = l.length := by simp [Str.length]
  unfold Txt.rjustF
  rw [if_pos (by rw [hl]; exact hi)]
  exact h t' k
theorem add_sO {prog : Program} {w : World} {A : Around} {E : Value → Shared → Prop} {s : Shared} {Q : Value → Shared → Prop} {a b : List Nat} {x y : Str} {t u : Tok} (hx : x = sO a) (hy : y = sO b) (hz : a.length + b.length ≤ 10000)
    (h : ∀ t' k, Q (.str (sO (a ++ b)) t') { s with toks := k }) : wpAny (model prog w) A (binaryOp .Add (.str x t) (.str y u)) Q E s := by
  subst hx hy
  refine add_str (fun t' k => ?_) (by simp [Str.length, sizeLine]; omega)
  have e : sO a ++ sO b = sO (a ++ b) := by
    refine Str.ext' ?_
    rw [Str.cps_append]; simp
  rw [e]; exact h t' k

theorem str_ex {a b : List Nat} {t : Tok} (h : a = b) : ∃ t', Value.str (sO a) t = .str (sO b) t' := ⟨t, by rw [h]⟩
theorem fixed_text_spec (w mean mg mb) (x : Addr) (n d : Int) (pl M : Nat) (t1 t2 t3 : Tok) (c : Nat) (hn : Num n d pl M) : SpecV w mean mg mb 192 22 180 [.ref x, .int pl t3] (fun news => (x, tupO [.int n t1, .int d t2] c) ∈ news)
    (fun r => ∃ t, r = .str (sO (txt n pl M)) t) := by
  have hdp := hn.d_pos
  have hq : (n.natAbs : Int) * 10 ^ (pl : Int).toNat = M * d := by rw [Int.toNat_natCast]; exact hn.hM.symm
  have hb := hn.hb
  have hpl : pl ≤ 2 := by rcases hn.hd with ⟨_, h⟩ | ⟨_, h⟩ | ⟨_, h⟩ <;> omega
  have hq2 : ((n.natAbs : Int) * 10 ^ (pl : Int).toNat).natAbs < 10 ^ 30 := by
    rw [hq]
    rcases hn.hd with ⟨rfl, _⟩ | ⟨rfl, _⟩ | ⟨rfl, _⟩ <;> omega
  have hl : pl + 1 ≤ (ds M).length := by
    have h1 := ds_pos M
    have hM := hn.hM
    have hz := hn.hz
    have hge := hn.hge
    have h2 : pl = 0 ∨ 10 ^ pl ≤ M := by
      rcases hn.hd with ⟨rfl, rfl⟩ | ⟨rfl, rfl⟩ | ⟨rfl, rfl⟩ <;> simp at * <;> omega
    unfold ds at h1 ⊢
    rcases h2 with h2 | h2
    · rw [h2]; exact h1
    · rw [List.length_map]; exact digits10_ge h2
  have hsm := hn.small
  have hs := ds_short (m := M) (by omega)
  unfold SpecV
  k_fill
  intro dp un gd cn cs a ccd cl outer A₀ base h₀ L m news s Q E B F X N T hk hpre hd hu hret
  refine wpAny_call ?_
  k_dflt cell_enter
  refine abs_A ?_
  intro A9a
  repeat' ((fail_if_success (with_reducible show wpAny _ _ (PySem.exec (PySem.Stmt.While _ _ _ _) _) _ _ _)); (fail_if_success (with_reducible show wpAny _ _ (PySem.exec (PySem.Stmt.For _ _ _ _ _) _) _ _ _)); (fail_if_success (with_reducible show wpAny _ _ (PySem.eval (PySem.Expr.ListComp _ _ _ _) _) _ _ _)); (fail_if_success (with_reducible show KswEnd _ _ _ _ _ _ _ _ _ _ _ _)); (fail_if_success (with_reducible show UnrEnd _ _ _ _ _ _ _)); first | (k_unfold; (try dsimp only)) | (k_end; wrow_close) | ((with_reducible show wpAny _ _ (PySem.call (Value.ref _) _) _ _ _); first | (with_reducible ((with_reducible show wpAny _ _ (PySem.call (Value.ref 150) _) _ _ _); k_dflt (refine' useV (whole_text_spec _ _ _ _ _ _ ?kq) ?k1 ?k2 ?k3 ?k4 ?k5 ?kK ?kp ?kd ?ku ?_; (case k1 => k_asm); (case k2 => k_asm); (case k3 => k_asm); (case k4 => k_asm); (case k5 => k_asm); (case kK => first | exact rfl | assumption); (case kp => trivial); (case kd => ktr_room); (case ku => ktr_units); (case kq => omega); intro r9z h9z tk9z F9z N9z hr9z; obtain ⟨t9z, hr9z⟩ := hr9z; subst hr9z; (try dsimp only); (try k_sweep)))) | (with_reducible ((with_reducible show wpAny _ _ (PySem.call (Value.ref 136) _) _ _ _); k_dflt (refine' useV (nearest_whole_spec _ _ _ _ _ _ _ _ _ ?kq1 ?kq2 ?kq3 ?kq4) ?k1 ?k2 ?k3 ?k4 ?k5 ?kK ?kp ?kd ?ku ?_; (case k1 => k_asm); (case k2 => k_asm); (case k3 => k_asm); (case k4 => k_asm); (case k5 => k_asm); (case kK => first | exact rfl | assumption); (case kp => trivial); (case kd => ktr_room); (case ku => ktr_units); (case kq1 => assumption); (case kq2 => omega); (case kq3 => omega); (case kq4 => assumption); intro r9z h9z tk9z F9z N9z hr9z; obtain ⟨t9z, hr9z⟩ := hr9z; subst hr9z; (try dsimp only); (try k_sweep))))) | (with_reducible ((with_reducible show wpAny _ _ (subscriptTail _ (Expr.Slice _ _ _ _) (Value.str (sO _) _) (Value.ref _)) _ _ _); (with_reducible rename Fr _ _ _ _ => F9y); (with_reducible rename News _ _ _ _ => N9y); first | (refine cut_ss (s := ⟨_, _, _, _, _⟩) F9y N9y (by omega) (by omega) (by first | omega | (simp; omega)) ?_; intro h9z t9z k9z F9z N9z; (try k_sweep)) | (refine cut_sn (s := ⟨_, _, _, _, _⟩) F9y N9y (by omega) (by first | omega | (simp; omega)) ?_; intro h9z t9z k9z F9z N9z; (try k_sweep)) | (refine cut_ns (s := ⟨_, _, _, _, _⟩) F9y N9y (by omega) (by first | omega | (simp; omega)) ?_; intro h9z t9z k9z F9z N9z; (try k_sweep)))) | (with_reducible ((with_reducible show wpAny _ _ (subscriptTail _ _ (PySem.Value.ref _) (PySem.Value.int _ _)) _ _ _); (k_dflt (refine' item_tupleT ?t ?a ?b ?c ?d ?_; (case t => exact News.isTup (by k_asm) (by k_mem)); (case a => decide); (case b => decide); (case c => rfl); (case d => rfl); k_whole)))) | (with_reducible ((with_reducible show wpAny _ _ (PySem.binaryOp PySem.Operator.Add (PySem.Value.str _ _) (PySem.Value.str _ _)) _ _ _); ((refine' add_sO ?hx ?hy ?hz ?_; (case hx => first | ((with_reducible first | exact lit_0 | exact lit_dot | exact lit_none | exact lit_NA | exact lit_NaN | exact lit_inf | exact lit_infinity | exact lit_minus | exact lit_plus | exact lit_0x | exact lit_0X)) | (with_reducible exact rfl)); (case hy => first | ((with_reducible first | exact lit_0 | exact lit_dot | exact lit_none | exact lit_NA | exact lit_NaN | exact lit_inf | exact lit_infinity | exact lit_minus | exact lit_plus | exact lit_0x | exact lit_0X)) | (with_reducible exact rfl)); (case hz => (simp; omega))); intro t9z k9z))) | ((with_reducible show wpAny _ _ (PySem.eval (PySem.Expr.Call (PySem.Expr.Name _ _) _ _) _) _ _ _); (refine Call_ ?_)) | (with_reducible ((with_reducible show wpAny _ _ (PySem.call (Value.builtin "str.rjust") [Value.str (sO _) _, _, _]) _ _ _); refine rjust_sO (by omega) (by omega) (by omega) ?_; intro t9z k9z)) | (with_reducible ((with_reducible show wpAny _ _ (PySem.call (Value.builtin "len") [Value.str (sO _) _]) _ _ _); refine len_sO (by first | omega | (simp; omega)) ?_; intro u9z k9z)) | (with_reducible ((with_reducible show wpAny _ _ (eval (Expr.Name _ _) (envOf _ _ _ _ _)) _ _ _); k_dflt (refine' ld ?k1 ?k2 ?_; (case k1 => k_asm); (case k2 => exact rfl); k_whole))) | (with_reducible ((with_reducible show wpAny _ _ (PySem.call (PySem.Value.builtin "abs") _) _ _ _); (refine abs_natAbs ?_; intro u9z k9z))) | ((with_reducible show wpAny _ _ (PySem.execs (List.cons _ _) _) _ _ _); walk1; (try (refine gen_s ?_; intro tkG; (try dsimp only); (try k_fold)))) | (walk1; (try dsimp only)) | (dsimp only; walk1) | (leave1; (try dsimp only)) | fail "no step")
  all_goals exact hret _ _ _ (by k_asm) (by k_asm) (str_ex (by (first | rw [txt, if_pos (show 0 < pl by omega)] | rw [txt, if_neg (show ¬ 0 < pl by omega)]); (first | rw [if_pos (show n < 0 by assumption)] | rw [if_neg (show ¬ n < 0 by assumption)]); try simp [Int.toNat_sub]))

example : True := by (w_top off; exact True.intro)
theorem special_text_spec (w mean mg mb) (x : Addr) (n d : Int) (t1 t2 : Tok) (c : Nat) (hd0 : 0 < d) : SpecV w mean mg mb 157 20 160 [.ref x] (fun news => (x, tupO [.int n t1, .int d t2] c) ∈ news)
    (fun r => r = .none) := by
  unfold SpecV
  k_fill
  intro dp un gd cn cs a ccd cl outer A₀ base h₀ L m news s Q E B F X N T hk hpre hd hu hret
  refine wpAny_call ?_
  k_dflt cell_enter
  refine abs_A ?_
  intro A9a
  repeat' ((fail_if_success (with_reducible show wpAny _ _ (PySem.exec (PySem.Stmt.While _ _ _ _) _) _ _ _)); (fail_if_success (with_reducible show wpAny _ _ (PySem.exec (PySem.Stmt.For _ _ _ _ _) _) _ _ _)); (fail_if_success (with_reducible show wpAny _ _ (PySem.eval (PySem.Expr.ListComp _ _ _ _) _) _ _ _)); (fail_if_success (with_reducible show KswEnd _ _ _ _ _ _ _ _ _ _ _ _)); (fail_if_success (with_reducible show UnrEnd _ _ _ _ _ _ _)); first | (k_unfold; (try dsimp only)) | (k_end; wrow_close) | ((with_reducible show wpAny _ _ (PySem.call (Value.ref _) _) _ _ _); first | (with_reducible ((with_reducible show wpAny _ _ (PySem.call (Value.ref 150) _) _ _ _); k_dflt (refine' useV (whole_text_spec _ _ _ _ _ _ ?kq) ?k1 ?k2 ?k3 ?k4 ?k5 ?kK ?kp ?kd ?ku ?_; (case k1 => k_asm); (case k2 => k_asm); (case k3 => k_asm); (case k4 => k_asm); (case k5 => k_asm); (case kK => first | exact rfl | assumption); (case kp => trivial); (case kd => ktr_room); (case ku => ktr_units); (case kq => omega); intro r9z h9z tk9z F9z N9z hr9z; obtain ⟨t9z, hr9z⟩ := hr9z; subst hr9z; (try dsimp only); (try k_sweep)))) | (with_reducible ((with_reducible show wpAny _ _ (PySem.call (Value.ref 199) _) _ _ _); k_dflt (refine' useO (measures_spec _ _ _ _ _ _ _ _ _ _ _ _ _ ?kq) ?k1 ?k2 ?k3 ?k4 ?k5 ?kK ?kp ?kd ?ku ?_; (case k1 => k_asm); (case k2 => k_asm); (case k3 => k_asm); (case k4 => k_asm); (case k5 => k_asm); (case kK => first | exact rfl | assumption); (case kp => k_mem); (case kd => ktr_room); (case ku => ktr_units); (case kq => assumption); intro r9z nw9z h9z tk9z F9z N9z hr9z; obtain ⟨e9z, n9z, D9z, t91, t92, t93, t94, c9z, he9z, hc1, hc3, hc2, hr9z, hn9z⟩ := hr9z; subst hr9z; subst hn9z; (try dsimp only); (try k_sweep))))) | (with_reducible ((with_reducible show wpAny _ _ (subscriptTail _ _ (PySem.Value.ref _) (PySem.Value.int _ _)) _ _ _); (k_dflt (refine' item_tupleT ?t ?a ?b ?c ?d ?_; (case t => exact News.isTup (by k_asm) (by k_mem)); (case a => decide); (case b => decide); (case c => rfl); (case d => rfl); k_whole)))) | (with_reducible ((with_reducible show wpAny _ _ (compareOp _ (Value.str (sO _) _) (Value.str (sO _) _)) _ _ _); refine eq_sO ?_)) | ((with_reducible show wpAny _ _ (PySem.eval (PySem.Expr.Call (PySem.Expr.Name _ _) _ _) _) _ _ _); (refine Call_ ?_)) | (with_reducible ((with_reducible show wpAny _ _ (eval (Expr.Name _ _) (envOf _ _ _ _ _)) _ _ _); k_dflt (refine' ld ?k1 ?k2 ?_; (case k1 => k_asm); (case k2 => exact rfl); k_whole))) | ((with_reducible show wpAny _ _ (PySem.execs (List.cons _ _) _) _ _ _); walk1; (try (refine gen_s ?_; intro tkG; (try dsimp only); (try k_fold)))) | (walk1; (try dsimp only)) | (dsimp only; walk1) | (leave1; (try dsimp only)) | fail "no step")
  all_goals exact hret _ _ _ (by k_asm) (by k_asm) rfl

theorem formed_spec (w mean mg mb) (x f : Addr) (n d : Int) (pl M : Nat) (t1 t2 a1 a2 : Tok) (c c' : Nat) (hn : Num n d pl M) : SpecV w mean mg mb 213 23 200 [.ref x, .ref f] (fun news => (x, tupO [.int n t1, .int d t2] c) ∈ news ∧ (f, tupO [.str (Str.ofString "fixed") a1, .int pl a2] c') ∈ news)
    (fun r => ∃ t, r = .str (sO (txt n pl M)) t) := by
  have hdp := hn.d_pos
  unfold SpecV
  k_fill
  intro dp un gd cn cs a ccd cl outer A₀ base h₀ L m news s Q E B F X N T hk hpre hd hu hret
  refine wpAny_call ?_
  k_dflt cell_enter
  refine abs_A ?_
  intro A9a
  obtain ⟨hpre1, hpre2⟩ := hpre
  repeat' ((fail_if_success (with_reducible show wpAny _ _ (PySem.exec (PySem.Stmt.While _ _ _ _) _) _ _ _)); (fail_if_success (with_reducible show wpAny _ _ (PySem.exec (PySem.Stmt.For _ _ _ _ _) _) _ _ _)); (fail_if_success (with_reducible show wpAny _ _ (PySem.eval (PySem.Expr.ListComp _ _ _ _) _) _ _ _)); (fail_if_success (with_reducible show KswEnd _ _ _ _ _ _ _ _ _ _ _ _)); (fail_if_success (with_reducible show UnrEnd _ _ _ _ _ _ _)); first | (k_unfold; (try dsimp only)) | (k_end; wrow_close) | ((with_reducible show wpAny _ _ (PySem.call (Value.ref _) _) _ _ _); first | (with_reducible ((with_reducible show wpAny _ _ (PySem.call (Value.ref 192) _) _ _ _); k_dflt (refine' useV (fixed_text_spec _ _ _ _ _ _ _ _ _ _ _ _ _ ?kq) ?k1 ?k2 ?k3 ?k4 ?k5 ?kK ?kp ?kd ?ku ?_; (case k1 => k_asm); (case k2 => k_asm); (case k3 => k_asm); (case k4 => k_asm); (case k5 => k_asm); (case kK => first | exact rfl | assumption); (case kp => k_mem); (case kd => ktr_room); (case ku => ktr_units); (case kq => assumption); intro r9z h9z tk9z F9z N9z hr9z; obtain ⟨t9z, hr9z⟩ := hr9z; subst hr9z; (try dsimp only); (try k_sweep)))) | (with_reducible ((with_reducible show wpAny _ _ (PySem.call (Value.ref 157) _) _ _ _); k_dflt (refine' useV (special_text_spec _ _ _ _ _ _ _ _ _ _ ?kq) ?k1 ?k2 ?k3 ?k4 ?k5 ?kK ?kp ?kd ?ku ?_; (case k1 => k_asm); (case k2 => k_asm); (case k3 => k_asm); (case k4 => k_asm); (case k5 => k_asm); (case kK => first | exact rfl | assumption); (case kp => k_mem); (case kd => ktr_room); (case ku => ktr_units); (case kq => omega); intro r9z h9z tk9z F9z N9z hr9z; subst hr9z; (try dsimp only); (try k_sweep))))) | (with_reducible ((with_reducible show wpAny _ _ (subscriptTail _ _ (PySem.Value.ref _) (PySem.Value.int _ _)) _ _ _); (k_dflt (refine' item_tupleT ?t ?a ?b ?c ?d ?_; (case t => exact News.isTup (by k_asm) (by k_mem)); (case a => decide); (case b => decide); (case c => rfl); (case d => rfl); k_whole)))) | (with_reducible ((with_reducible show wpAny _ _ (compareOp _ (Value.str (sO _) _) (Value.str (sO _) _)) _ _ _); refine eq_sO ?_)) | ((with_reducible show wpAny _ _ (PySem.eval (PySem.Expr.Call (PySem.Expr.Name _ _) _ _) _) _ _ _); (refine Call_ ?_)) | (with_reducible ((with_reducible show wpAny _ _ (eval (Expr.Name _ _) (envOf _ _ _ _ _)) _ _ _); k_dflt (refine' ld ?k1 ?k2 ?_; (case k1 => k_asm); (case k2 => exact rfl); k_whole))) | ((with_reducible show wpAny _ _ (PySem.execs (List.cons _ _) _) _ _ _); walk1; (try (refine gen_s ?_; intro tkG; (try dsimp only); (try k_fold)))) | (walk1; (try dsimp only)) | (dsimp only; walk1) | (leave1; (try dsimp only)) | fail "no step")
  all_goals exact hret _ _ _ (by k_asm) (by k_asm) ⟨_, rfl⟩

theorem common_texts_spec (w mean mg mb) (xs x : Addr) (n d : Int) (pl M : Nat) (t1 t2 t3 : Tok) (c c' : Nat) (hn : Num n d pl M) : SpecO w mean mg mb 218 28 300 [.ref xs, .int 15 t3] (fun news => (xs, lstO [.ref x] c') ∈ news ∧ (x, tupO [.int n t1, .int d t2] c) ∈ news)
    (fun r news nw => ∃ (D : Addr) (a : Tok), r = .ref D ∧ nw = (D, LCg.lst [.str (sO (txt n pl M)) a]) :: news) := by
  have hdp := hn.d_pos
  unfold SpecO
  k_fill
  intro dp un gd cn cs a ccd cl outer A₀ base h₀ L m news s Q E B F X N T hk hpre hd hu hret
  refine wpAny_call ?_
  k_dflt (refine' code_defC ?k1 ?k2 ?k3 ?k4 ?k5 ?kA ?kF ?kK ?k6 ?k7 ?k8 ?k9 ?kB ?kD ?_ ?c2 ?c3 ?c4; (case kA => exact rfl); (case kF => exact rfl); (case kK => assumption); (case k1 => k_asm); (case k2 => k_asm); (case k3 => k_asm); (case k4 => k_asm); (case k5 => k_asm); (case k6 => k_is); (case k7 => k_is); (case k8 => ktr_room); (case k9 => exact BindsTo.of_eq rfl); (case kB => exact rfl); (case kD => decide +kernel); (case c2 => exact rfl); (case c3 => exact rfl); (case c4 => exact rfl); k_whole; intro g' L' h' tk' cells' FG' F' N' Y' B' X' T' l1; (try k_lt l1); k_cells Y'; (try simp only [List.cons_append, List.nil_append] at N'); (try dsimp only); (try k_lift B'); (try k_fold))
  refine abs_A ?_
  intro A9a
  obtain ⟨hpre1, hpre2⟩ := hpre
  repeat' ((fail_if_success (with_reducible show wpAny _ _ (PySem.exec (PySem.Stmt.While _ _ _ _) _) _ _ _)); (fail_if_success (with_reducible show wpAny _ _ (PySem.exec (PySem.Stmt.For _ _ _ _ _) _) _ _ _)); (fail_if_success (with_reducible show wpAny _ _ (PySem.exec (PySem.Stmt.Assign _ (PySem.Expr.ListComp _ _ _ _) _) _) _ _ _)); (fail_if_success (with_reducible show wpAny _ _ (PySem.eval (PySem.Expr.ListComp _ _ _ _) _) _ _ _)); (fail_if_success (with_reducible show LCg.CompSrc _ _ _ _ _ _ _ _ _ _ _ _ _ _)); (fail_if_success (with_reducible show LCt.CompSrcT _ _ _ _ _ _ _ _ _ _ _ _ _ _ _)); (fail_if_success (with_reducible show LCg.CompEnd _ _ _ _ _ _ _ _ _ _ _ _ _ _)); (fail_if_success (with_reducible show KswEnd _ _ _ _ _ _ _ _ _ _ _ _)); (fail_if_success (with_reducible show UnrEnd _ _ _ _ _ _ _)); first | (k_unfold; (try dsimp only)) | (k_end; wrow_close) | ((with_reducible show wpAny _ _ (PySem.call (Value.ref _) _) _ _ _); first | (with_reducible ((with_reducible show wpAny _ _ (PySem.call (Value.ref 206) _) _ _ _); k_dflt (refine' useO (chosen_form_spec _ _ _ _ _ _ _ _ _ _ _ _ _ _ _ ?kq) ?k1 ?k2 ?k3 ?k4 ?k5 ?kK ?kp ?kd ?ku ?_; (case k1 => k_asm); (case k2 => k_asm); (case k3 => k_asm); (case k4 => k_asm); (case k5 => k_asm); (case kK => first | exact rfl | assumption); (case kp => (refine ⟨?_, ?_⟩ <;> k_mem)); (case kd => ktr_room); (case ku => ktr_units); (case kq => assumption); intro r9z nw9z h9z tk9z F9z N9z hr9z; obtain ⟨D9z, t91, t92, c9z, l9z, hr9z, hn9z⟩ := hr9z; subst hr9z; subst hn9z; (try dsimp only); (try k_sweep)))) | (with_reducible ((with_reducible show wpAny _ _ (PySem.call (Value.ref 213) _) _ _ _); k_dflt (refine' useV (formed_spec _ _ _ _ _ _ _ _ _ _ _ _ _ _ _ _ ?kq) ?k1 ?k2 ?k3 ?k4 ?k5 ?kK ?kp ?kd ?ku ?_; (case k1 => k_asm); (case k2 => k_asm); (case k3 => k_asm); (case k4 => k_asm); (case k5 => k_asm); (case kK => first | exact rfl | assumption); (case kp => (refine ⟨?_, ?_⟩ <;> k_mem)); (case kd => ktr_room); (case ku => ktr_units); (case kq => assumption); intro r9z h9z tk9z F9z N9z hr9z; obtain ⟨t9z, hr9z⟩ := hr9z; subst hr9z; (try dsimp only); (try k_sweep))))) | (with_reducible ((with_reducible show wpAny _ _ (subscriptTail _ _ (PySem.Value.ref _) (PySem.Value.int _ _)) _ _ _); (k_dflt (refine' item_tupleT ?t ?a ?b ?c ?d ?_; (case t => exact News.isTup (by k_asm) (by k_mem)); (case a => decide); (case b => decide); (case c => rfl); (case d => rfl); k_whole)))) | (with_reducible ((with_reducible show wpAny _ _ (compareOp _ (Value.str (sO _) _) (Value.str (sO _) _)) _ _ _); refine eq_sO ?_)) | ((with_reducible show wpAny _ _ (PySem.eval (PySem.Expr.Call (PySem.Expr.Name _ _) _ _) _) _ _ _); (refine Call_ ?_)) | (with_reducible ((with_reducible show wpAny _ _ (eval (Expr.Name _ _) (envOf _ _ _ _ _)) _ _ _); k_dflt (refine' ld ?k1 ?k2 ?_; (case k1 => k_asm); (case k2 => exact rfl); k_whole))) | ((with_reducible show wpAny _ _ (PySem.execs (List.cons _ _) _) _ _ _); walk1; (try (refine gen_s ?_; intro tkG; (try dsimp only); (try k_fold)))) | (walk1; (try dsimp only)) | (dsimp only; walk1) | (leave1; (try dsimp only)) | fail "no step")
  k_dflt (refine LCt.Assign_ListComp_T (F₀ := by k_asm) (by rfl) (by with_unfolding_all rfl) (by with_unfolding_all rfl) (by decide) (by rfl) (by decide) (by rfl) (by rfl) (by rfl) ?_)
  repeat' ((fail_if_success (with_reducible show wpAny _ _ (PySem.exec (PySem.Stmt.While _ _ _ _) _) _ _ _)); (fail_if_success (with_reducible show wpAny _ _ (PySem.exec (PySem.Stmt.For _ _ _ _ _) _) _ _ _)); (fail_if_success (with_reducible show wpAny _ _ (PySem.exec (PySem.Stmt.Assign _ (PySem.Expr.ListComp _ _ _ _) _) _) _ _ _)); (fail_if_success (with_reducible show wpAny _ _ (PySem.eval (PySem.Expr.ListComp _ _ _ _) _) _ _ _)); (fail_if_success (with_reducible show LCg.CompSrc _ _ _ _ _ _ _ _ _ _ _ _ _ _)); (fail_if_success (with_reducible show LCt.CompSrcT _ _ _ _ _ _ _ _ _ _ _ _ _ _ _)); (fail_if_success (with_reducible show LCg.CompEnd _ _ _ _ _ _ _ _ _ _ _ _ _ _)); (fail_if_success (with_reducible show KswEnd _ _ _ _ _ _ _ _ _ _ _ _)); (fail_if_success (with_reducible show UnrEnd _ _ _ _ _ _ _)); first | (k_unfold; (try dsimp only)) | (k_end; wrow_close) | ((with_reducible show wpAny _ _ (PySem.call (Value.ref _) _) _ _ _); first | (with_reducible ((with_reducible show wpAny _ _ (PySem.call (Value.ref 206) _) _ _ _); k_dflt (refine' useO (chosen_form_spec _ _ _ _ _ _ _ _ _ _ _ _ _ _ _ ?kq) ?k1 ?k2 ?k3 ?k4 ?k5 ?kK ?kp ?kd ?ku ?_; (case k1 => k_asm); (case k2 => k_asm); (case k3 => k_asm); (case k4 => k_asm); (case k5 => k_asm); (case kK => first | exact rfl | assumption); (case kp => (refine ⟨?_, ?_⟩ <;> k_mem)); (case kd => ktr_room); (case ku => ktr_units); (case kq => assumption); intro r9z nw9z h9z tk9z F9z N9z hr9z; obtain ⟨D9z, t91, t92, c9z, l9z, hr9z, hn9z⟩ := hr9z; subst hr9z; subst hn9z; (try dsimp only); (try k_sweep)))) | (with_reducible ((with_reducible show wpAny _ _ (PySem.call (Value.ref 213) _) _ _ _); k_dflt (refine' useV (formed_spec _ _ _ _ _ _ _ _ _ _ _ _ _ _ _ _ ?kq) ?k1 ?k2 ?k3 ?k4 ?k5 ?kK ?kp ?kd ?ku ?_; (case k1 => k_asm); (case k2 => k_asm); (case k3 => k_asm); (case k4 => k_asm); (case k5 => k_asm); (case kK => first | exact rfl | assumption); (case kp => (refine ⟨?_, ?_⟩ <;> k_mem)); (case kd => ktr_room); (case ku => ktr_units); (case kq => assumption); intro r9z h9z tk9z F9z N9z hr9z; obtain ⟨t9z, hr9z⟩ := hr9z; subst hr9z; (try dsimp only); (try k_sweep))))) | (with_reducible ((with_reducible show wpAny _ _ (subscriptTail _ _ (PySem.Value.ref _) (PySem.Value.int _ _)) _ _ _); (k_dflt (refine' item_tupleT ?t ?a ?b ?c ?d ?_; (case t => exact News.isTup (by k_asm) (by k_mem)); (case a => decide); (case b => decide); (case c => rfl); (case d => rfl); k_whole)))) | (with_reducible ((with_reducible show wpAny _ _ (compareOp _ (Value.str (sO _) _) (Value.str (sO _) _)) _ _ _); refine eq_sO ?_)) | ((with_reducible show wpAny _ _ (PySem.eval (PySem.Expr.Call (PySem.Expr.Name _ _) _ _) _) _ _ _); (refine Call_ ?_)) | (with_reducible ((with_reducible show wpAny _ _ (eval (Expr.Name _ _) (envOf _ _ _ _ _)) _ _ _); k_dflt (refine' ld ?k1 ?k2 ?_; (case k1 => k_asm); (case k2 => exact rfl); k_whole))) | ((with_reducible show wpAny _ _ (PySem.execs (List.cons _ _) _) _ _ _); walk1; (try (refine gen_s ?_; intro tkG; (try dsimp only); (try k_fold)))) | (walk1; (try dsimp only)) | (dsimp only; walk1) | (leave1; (try dsimp only)) | fail "no step")
  refine LCt.CompSrcT.ledger (by rfl) (by k_asm) (by k_asm) (List.mem_cons_of_mem _ hpre1) (Nat.le_of_ble_eq_true rfl) (fun g => ?_)
  show LCt.CompRestT _ _ _ _ _ _ _ _ _ _ _ _ _ _ _ _ 1 _ _ _
  refine LCt.CompRestT.succ ?_
  intro v' I' oI' C' oC' D' m' h' tk' E' hv' hC' hx' F' N' off' ne'
  obtain rfl : v' = .ref x := (Option.some.inj hv').symm
  repeat' ((fail_if_success (with_reducible show wpAny _ _ (PySem.exec (PySem.Stmt.While _ _ _ _) _) _ _ _)); (fail_if_success (with_reducible show wpAny _ _ (PySem.exec (PySem.Stmt.For _ _ _ _ _) _) _ _ _)); (fail_if_success (with_reducible show wpAny _ _ (PySem.exec (PySem.Stmt.Assign _ (PySem.Expr.ListComp _ _ _ _) _) _) _ _ _)); (fail_if_success (with_reducible show wpAny _ _ (PySem.eval (PySem.Expr.ListComp _ _ _ _) _) _ _ _)); (fail_if_success (with_reducible show LCg.CompSrc _ _ _ _ _ _ _ _ _ _ _ _ _ _)); (fail_if_success (with_reducible show LCt.CompSrcT _ _ _ _ _ _ _ _ _ _ _ _ _ _ _)); (fail_if_success (with_reducible show LCg.CompEnd _ _ _ _ _ _ _ _ _ _ _ _ _ _)); (fail_if_success (with_reducible show KswEnd _ _ _ _ _ _ _ _ _ _ _ _)); (fail_if_success (with_reducible show UnrEnd _ _ _ _ _ _ _)); first | (k_unfold; (try dsimp only)) | (k_end; wrow_close) | ((with_reducible show wpAny _ _ (PySem.call (Value.ref _) _) _ _ _); first | (with_reducible ((with_reducible show wpAny _ _ (PySem.call (Value.ref 206) _) _ _ _); k_dflt (refine' useO (chosen_form_spec _ _ _ _ _ _ _ _ _ _ _ _ _ _ _ ?kq) ?k1 ?k2 ?k3 ?k4 ?k5 ?kK ?kp ?kd ?ku ?_; (case k1 => k_asm); (case k2 => k_asm); (case k3 => k_asm); (case k4 => k_asm); (case k5 => k_asm); (case kK => first | exact rfl | assumption); (case kp => (refine ⟨?_, ?_⟩ <;> k_mem)); (case kd => ktr_room); (case ku => ktr_units); (case kq => assumption); intro r9z nw9z h9z tk9z F9z N9z hr9z; obtain ⟨D9z, t91, t92, c9z, l9z, hr9z, hn9z⟩ := hr9z; subst hr9z; subst hn9z; (try dsimp only); (try k_sweep)))) | (with_reducible ((with_reducible show wpAny _ _ (PySem.call (Value.ref 213) _) _ _ _); k_dflt (refine' useV (formed_spec _ _ _ _ _ _ _ _ _ _ _ _ _ _ _ _ ?kq) ?k1 ?k2 ?k3 ?k4 ?k5 ?kK ?kp ?kd ?ku ?_; (case k1 => k_asm); (case k2 => k_asm); (case k3 => k_asm); (case k4 => k_asm); (case k5 => k_asm); (case kK => first | exact rfl | assumption); (case kp => (refine ⟨?_, ?_⟩ <;> k_mem)); (case kd => ktr_room); (case ku => ktr_units); (case kq => assumption); intro r9z h9z tk9z F9z N9z hr9z; obtain ⟨t9z, hr9z⟩ := hr9z; subst hr9z; (try dsimp only); (try k_sweep))))) | (with_reducible ((with_reducible show wpAny _ _ (subscriptTail _ _ (PySem.Value.ref _) (PySem.Value.int _ _)) _ _ _); (k_dflt (refine' item_tupleT ?t ?a ?b ?c ?d ?_; (case t => exact News.isTup (by k_asm) (by k_mem)); (case a => decide); (case b => decide); (case c => rfl); (case d => rfl); k_whole)))) | (with_reducible ((with_reducible show wpAny _ _ (compareOp _ (Value.str (sO _) _) (Value.str (sO _) _)) _ _ _); refine eq_sO ?_)) | ((with_reducible show wpAny _ _ (PySem.eval (PySem.Expr.Call (PySem.Expr.Name _ _) _ _) _) _ _ _); (refine Call_ ?_)) | (with_reducible ((with_reducible show wpAny _ _ (eval (Expr.Name _ _) (envOf _ _ _ _ _)) _ _ _); k_dflt (refine' ld ?k1 ?k2 ?_; (case k1 => k_asm); (case k2 => exact rfl); k_whole))) | ((with_reducible show wpAny _ _ (PySem.execs (List.cons _ _) _) _ _ _); walk1; (try (refine gen_s ?_; intro tkG; (try dsimp only); (try k_fold)))) | (walk1; (try dsimp only)) | (dsimp only; walk1) | (leave1; (try dsimp only)) | fail "no step")
  refine LCg.CompEnd.intro (by k_asm) (by k_asm) _ sub_refl off' (.inr ⟨_, List.mem_cons_of_mem _ hpre1, rfl, _, rfl⟩) (LCt.CompRestT.zero ?_)
  intro D1 h' tk' F' N' o1'
  dsimp only [List.nil_append] at N'
  repeat' ((fail_if_success (with_reducible show wpAny _ _ (PySem.exec (PySem.Stmt.While _ _ _ _) _) _ _ _)); (fail_if_success (with_reducible show wpAny _ _ (PySem.exec (PySem.Stmt.For _ _ _ _ _) _) _ _ _)); (fail_if_success (with_reducible show wpAny _ _ (PySem.exec (PySem.Stmt.Assign _ (PySem.Expr.ListComp _ _ _ _) _) _) _ _ _)); (fail_if_success (with_reducible show wpAny _ _ (PySem.eval (PySem.Expr.ListComp _ _ _ _) _) _ _ _)); (fail_if_success (with_reducible show LCg.CompSrc _ _ _ _ _ _ _ _ _ _ _ _ _ _)); (fail_if_success (with_reducible show LCt.CompSrcT _ _ _ _ _ _ _ _ _ _ _ _ _ _ _)); (fail_if_success (with_reducible show LCg.CompEnd _ _ _ _ _ _ _ _ _ _ _ _ _ _)); (fail_if_success (with_reducible show KswEnd _ _ _ _ _ _ _ _ _ _ _ _)); (fail_if_success (with_reducible show UnrEnd _ _ _ _ _ _ _)); first | (k_unfold; (try dsimp only)) | (k_end; wrow_close) | ((with_reducible show wpAny _ _ (PySem.call (Value.ref _) _) _ _ _); first | (with_reducible ((with_reducible show wpAny _ _ (PySem.call (Value.ref 206) _) _ _ _); k_dflt (refine' useO (chosen_form_spec _ _ _ _ _ _ _ _ _ _ _ _ _ _ _ ?kq) ?k1 ?k2 ?k3 ?k4 ?k5 ?kK ?kp ?kd ?ku ?_; (case k1 => k_asm); (case k2 => k_asm); (case k3 => k_asm); (case k4 => k_asm); (case k5 => k_asm); (case kK => first | exact rfl | assumption); (case kp => (refine ⟨?_, ?_⟩ <;> k_mem)); (case kd => ktr_room); (case ku => ktr_units); (case kq => assumption); intro r9z nw9z h9z tk9z F9z N9z hr9z; obtain ⟨D9z, t91, t92, c9z, l9z, hr9z, hn9z⟩ := hr9z; subst hr9z; subst hn9z; (try dsimp only); (try k_sweep)))) | (with_reducible ((with_reducible show wpAny _ _ (PySem.call (Value.ref 213) _) _ _ _); k_dflt (refine' useV (formed_spec _ _ _ _ _ _ _ _ _ _ _ _ _ _ _ _ ?kq) ?k1 ?k2 ?k3 ?k4 ?k5 ?kK ?kp ?kd ?ku ?_; (case k1 => k_asm); (case k2 => k_asm); (case k3 => k_asm); (case k4 => k_asm); (case k5 => k_asm); (case kK => first | exact rfl | assumption); (case kp => (refine ⟨?_, ?_⟩ <;> k_mem)); (case kd => ktr_room); (case ku => ktr_units); (case kq => assumption); intro r9z h9z tk9z F9z N9z hr9z; obtain ⟨t9z, hr9z⟩ := hr9z; subst hr9z; (try dsimp only); (try k_sweep))))) | (with_reducible ((with_reducible show wpAny _ _ (subscriptTail _ _ (PySem.Value.ref _) (PySem.Value.int _ _)) _ _ _); (k_dflt (refine' item_tupleT ?t ?a ?b ?c ?d ?_; (case t => exact News.isTup (by k_asm) (by k_mem)); (case a => decide); (case b => decide); (case c => rfl); (case d => rfl); k_whole)))) | (with_reducible ((with_reducible show wpAny _ _ (compareOp _ (Value.str (sO _) _) (Value.str (sO _) _)) _ _ _); refine eq_sO ?_)) | ((with_reducible show wpAny _ _ (PySem.eval (PySem.Expr.Call (PySem.Expr.Name _ _) _ _) _) _ _ _); (refine Call_ ?_)) | (with_reducible ((with_reducible show wpAny _ _ (eval (Expr.Name _ _) (envOf _ _ _ _ _)) _ _ _); k_dflt (refine' ld ?k1 ?k2 ?_; (case k1 => k_asm); (case k2 => exact rfl); k_whole))) | ((with_reducible show wpAny _ _ (PySem.execs (List.cons _ _) _) _ _ _); walk1; (try (refine gen_s ?_; intro tkG; (try dsimp only); (try k_fold)))) | (walk1; (try dsimp only)) | (dsimp only; walk1) | (leave1; (try dsimp only)) | fail "no step")
  rename ∀ p ∈ (_ :: _ : Led), Prod.fst p < _ => l9
  have l9c := l9
  k_lt l9c
  simp only [LCg.Off1, and_true] at o1'
  k_dflt (refine' storeX_C ?F ?N ?c ?U ?d ?_ ?a ?b; (case a => rfl); (case b => rfl); (case F => k_asm); (case N => k_asm); (case c => rfl); (case U => exact UpdF.tail (by k_ne) (UpdF.tail (by k_ne) (UpdF.head (fun p hp => Nat.ne_of_lt (Nat.lt_succ_of_lt (l1 p hp)))))); (case d => k_asm); k_whole); intro h' o2 F' N' d2

  repeat' ((fail_if_success (with_reducible show wpAny _ _ (PySem.exec (PySem.Stmt.While _ _ _ _) _) _ _ _)); (fail_if_success (with_reducible show wpAny _ _ (PySem.exec (PySem.Stmt.For _ _ _ _ _) _) _ _ _)); (fail_if_success (with_reducible show wpAny _ _ (PySem.exec (PySem.Stmt.Assign _ (PySem.Expr.ListComp _ _ _ _) _) _) _ _ _)); (fail_if_success (with_reducible show wpAny _ _ (PySem.eval (PySem.Expr.ListComp _ _ _ _) _) _ _ _)); (fail_if_success (with_reducible show LCg.CompSrc _ _ _ _ _ _ _ _ _ _ _ _ _ _)); (fail_if_success (with_reducible show LCt.CompSrcT _ _ _ _ _ _ _ _ _ _ _ _ _ _ _)); (fail_if_success (with_reducible show LCg.CompEnd _ _ _ _ _ _ _ _ _ _ _ _ _ _)); (fail_if_success (with_reducible show KswEnd _ _ _ _ _ _ _ _ _ _ _ _)); (fail_if_success (with_reducible show UnrEnd _ _ _ _ _ _ _)); first | (k_unfold; (try dsimp only)) | (k_end; wrow_close) | ((with_reducible show wpAny _ _ (PySem.call (Value.ref _) _) _ _ _); first | (with_reducible ((with_reducible show wpAny _ _ (PySem.call (Value.ref 206) _) _ _ _); k_dflt (refine' useO (chosen_form_spec _ _ _ _ _ _ _ _ _ _ _ _ _ _ _ ?kq) ?k1 ?k2 ?k3 ?k4 ?k5 ?kK ?kp ?kd ?ku ?_; (case k1 => k_asm); (case k2 => k_asm); (case k3 => k_asm); (case k4 => k_asm); (case k5 => k_asm); (case kK => first | exact rfl | assumption); (case kp => (refine ⟨?_, ?_⟩ <;> k_mem)); (case kd => ktr_room); (case ku => ktr_units); (case kq => assumption); intro r9z nw9z h9z tk9z F9z N9z hr9z; obtain ⟨D9z, t91, t92, c9z, l9z, hr9z, hn9z⟩ := hr9z; subst hr9z; subst hn9z; (try dsimp only); (try k_sweep)))) | (with_reducible ((with_reducible show wpAny _ _ (PySem.call (Value.ref 213) _) _ _ _); k_dflt (refine' useV (formed_spec _ _ _ _ _ _ _ _ _ _ _ _ _ _ _ _ ?kq) ?k1 ?k2 ?k3 ?k4 ?k5 ?kK ?kp ?kd ?ku ?_; (case k1 => k_asm); (case k2 => k_asm); (case k3 => k_asm); (case k4 => k_asm); (case k5 => k_asm); (case kK => first | exact rfl | assumption); (case kp => (refine ⟨?_, ?_⟩ <;> k_mem)); (case kd => ktr_room); (case ku => ktr_units); (case kq => assumption); intro r9z h9z tk9z F9z N9z hr9z; obtain ⟨t9z, hr9z⟩ := hr9z; subst hr9z; (try dsimp only); (try k_sweep))))) | (with_reducible ((with_reducible show wpAny _ _ (subscriptTail _ _ (PySem.Value.ref _) (PySem.Value.int _ _)) _ _ _); (k_dflt (refine' item_tupleT ?t ?a ?b ?c ?d ?_; (case t => exact News.isTup (by k_asm) (by k_mem)); (case a => decide); (case b => decide); (case c => rfl); (case d => rfl); k_whole)))) | (with_reducible ((with_reducible show wpAny _ _ (compareOp _ (Value.str (sO _) _) (Value.str (sO _) _)) _ _ _); refine eq_sO ?_)) | ((with_reducible show wpAny _ _ (PySem.eval (PySem.Expr.Call (PySem.Expr.Name _ _) _ _) _) _ _ _); (refine Call_ ?_)) | (with_reducible ((with_reducible show wpAny _ _ (eval (Expr.Name _ _) (envOf _ _ _ _ _)) _ _ _); k_dflt (refine' ld ?k1 ?k2 ?_; (case k1 => k_asm); (case k2 => exact rfl); k_whole))) | ((with_reducible show wpAny _ _ (PySem.execs (List.cons _ _) _) _ _ _); walk1; (try (refine gen_s ?_; intro tkG; (try dsimp only); (try k_fold)))) | (walk1; (try dsimp only)) | (dsimp only; walk1) | (leave1; (try dsimp only)) | fail "no step")
  k_dflt (refine LCg.ListComp_U (F₀ := by k_asm) (by with_unfolding_all rfl) (by decide) (by rfl) (by decide) (by rfl) ?_)
  repeat' ((fail_if_success (with_reducible show wpAny _ _ (PySem.exec (PySem.Stmt.While _ _ _ _) _) _ _ _)); (fail_if_success (with_reducible show wpAny _ _ (PySem.exec (PySem.Stmt.For _ _ _ _ _) _) _ _ _)); (fail_if_success (with_reducible show wpAny _ _ (PySem.exec (PySem.Stmt.Assign _ (PySem.Expr.ListComp _ _ _ _) _) _) _ _ _)); (fail_if_success (with_reducible show wpAny _ _ (PySem.eval (PySem.Expr.ListComp _ _ _ _) _) _ _ _)); (fail_if_success (with_reducible show LCg.CompSrc _ _ _ _ _ _ _ _ _ _ _ _ _ _)); (fail_if_success (with_reducible show LCt.CompSrcT _ _ _ _ _ _ _ _ _ _ _ _ _ _ _)); (fail_if_success (with_reducible show LCg.CompEnd _ _ _ _ _ _ _ _ _ _ _ _ _ _)); (fail_if_success (with_reducible show KswEnd _ _ _ _ _ _ _ _ _ _ _ _)); (fail_if_success (with_reducible show UnrEnd _ _ _ _ _ _ _)); first | (k_unfold; (try dsimp only)) | (k_end; wrow_close) | ((with_reducible show wpAny _ _ (PySem.call (Value.ref _) _) _ _ _); first | (with_reducible ((with_reducible show wpAny _ _ (PySem.call (Value.ref 206) _) _ _ _); k_dflt (refine' useO (chosen_form_spec _ _ _ _ _ _ _ _ _ _ _ _ _ _ _ ?kq) ?k1 ?k2 ?k3 ?k4 ?k5 ?kK ?kp ?kd ?ku ?_; (case k1 => k_asm); (case k2 => k_asm); (case k3 => k_asm); (case k4 => k_asm); (case k5 => k_asm); (case kK => first | exact rfl | assumption); (case kp => (refine ⟨?_, ?_⟩ <;> k_mem)); (case kd => ktr_room); (case ku => ktr_units); (case kq => assumption); intro r9z nw9z h9z tk9z F9z N9z hr9z; obtain ⟨D9z, t91, t92, c9z, l9z, hr9z, hn9z⟩ := hr9z; subst hr9z; subst hn9z; (try dsimp only); (try k_sweep)))) | (with_reducible ((with_reducible show wpAny _ _ (PySem.call (Value.ref 213) _) _ _ _); k_dflt (refine' useV (formed_spec _ _ _ _ _ _ _ _ _ _ _ _ _ _ _ _ ?kq) ?k1 ?k2 ?k3 ?k4 ?k5 ?kK ?kp ?kd ?ku ?_; (case k1 => k_asm); (case k2 => k_asm); (case k3 => k_asm); (case k4 => k_asm); (case k5 => k_asm); (case kK => first | exact rfl | assumption); (case kp => (refine ⟨?_, ?_⟩ <;> k_mem)); (case kd => ktr_room); (case ku => ktr_units); (case kq => assumption); intro r9z h9z tk9z F9z N9z hr9z; obtain ⟨t9z, hr9z⟩ := hr9z; subst hr9z; (try dsimp only); (try k_sweep))))) | (with_reducible ((with_reducible show wpAny _ _ (subscriptTail _ _ (PySem.Value.ref _) (PySem.Value.int _ _)) _ _ _); (k_dflt (refine' item_tupleT ?t ?a ?b ?c ?d ?_; (case t => exact News.isTup (by k_asm) (by k_mem)); (case a => decide); (case b => decide); (case c => rfl); (case d => rfl); k_whole)))) | (with_reducible ((with_reducible show wpAny _ _ (compareOp _ (Value.str (sO _) _) (Value.str (sO _) _)) _ _ _); refine eq_sO ?_)) | ((with_reducible show wpAny _ _ (PySem.eval (PySem.Expr.Call (PySem.Expr.Name _ _) _ _) _) _ _ _); (refine Call_ ?_)) | (with_reducible ((with_reducible show wpAny _ _ (eval (Expr.Name _ _) (envOf _ _ _ _ _)) _ _ _); k_dflt (refine' ld ?k1 ?k2 ?_; (case k1 => k_asm); (case k2 => exact rfl); k_whole))) | ((with_reducible show wpAny _ _ (PySem.execs (List.cons _ _) _) _ _ _); walk1; (try (refine gen_s ?_; intro tkG; (try dsimp only); (try k_fold)))) | (walk1; (try dsimp only)) | (dsimp only; walk1) | (leave1; (try dsimp only)) | fail "no step")
  refine LCg.CompSrc.ledger (by rfl) (by k_asm) (by k_asm) (by k_mem) (Nat.le_of_ble_eq_true rfl) (fun g => ?_)
  show LCg.CompRest _ _ _ _ _ _ _ _ _ _ _ _ _ _ _ 1 _ _ _
  refine LCg.CompRest.succ ?_
  intro v' I' oI' C' oC' D' m' h' tk' E' hv' hC' hx' F' N' off' ne'
  obtain rfl : v' = .ref x := (Option.some.inj hv').symm
  repeat' ((fail_if_success (with_reducible show wpAny _ _ (PySem.exec (PySem.Stmt.While _ _ _ _) _) _ _ _)); (fail_if_success (with_reducible show wpAny _ _ (PySem.exec (PySem.Stmt.For _ _ _ _ _) _) _ _ _)); (fail_if_success (with_reducible show wpAny _ _ (PySem.exec (PySem.Stmt.Assign _ (PySem.Expr.ListComp _ _ _ _) _) _) _ _ _)); (fail_if_success (with_reducible show wpAny _ _ (PySem.eval (PySem.Expr.ListComp _ _ _ _) _) _ _ _)); (fail_if_success (with_reducible show LCg.CompSrc _ _ _ _ _ _ _ _ _ _ _ _ _ _)); (fail_if_success (with_reducible show LCt.CompSrcT _ _ _ _ _ _ _ _ _ _ _ _ _ _ _)); (fail_if_success (with_reducible show LCg.CompEnd _ _ _ _ _ _ _ _ _ _ _ _ _ _)); (fail_if_success (with_reducible show KswEnd _ _ _ _ _ _ _ _ _ _ _ _)); (fail_if_success (with_reducible show UnrEnd _ _ _ _ _ _ _)); first | (k_unfold; (try dsimp only)) | (k_end; wrow_close) | ((with_reducible show wpAny _ _ (PySem.call (Value.ref _) _) _ _ _); first | (with_reducible ((with_reducible show wpAny _ _ (PySem.call (Value.ref 206) _) _ _ _); k_dflt (refine' useO (chosen_form_spec _ _ _ _ _ _ _ _ _ _ _ _ _ _ _ ?kq) ?k1 ?k2 ?k3 ?k4 ?k5 ?kK ?kp ?kd ?ku ?_; (case k1 => k_asm); (case k2 => k_asm); (case k3 => k_asm); (case k4 => k_asm); (case k5 => k_asm); (case kK => first | exact rfl | assumption); (case kp => (refine ⟨?_, ?_⟩ <;> k_mem)); (case kd => ktr_room); (case ku => ktr_units); (case kq => assumption); intro r9z nw9z h9z tk9z F9z N9z hr9z; obtain ⟨D9z, t91, t92, c9z, l9z, hr9z, hn9z⟩ := hr9z; subst hr9z; subst hn9z; (try dsimp only); (try k_sweep)))) | (with_reducible ((with_reducible show wpAny _ _ (PySem.call (Value.ref 213) _) _ _ _); k_dflt (refine' useV (formed_spec _ _ _ _ _ _ _ _ _ _ _ _ _ _ _ _ ?kq) ?k1 ?k2 ?k3 ?k4 ?k5 ?kK ?kp ?kd ?ku ?_; (case k1 => k_asm); (case k2 => k_asm); (case k3 => k_asm); (case k4 => k_asm); (case k5 => k_asm); (case kK => first | exact rfl | assumption); (case kp => (refine ⟨?_, ?_⟩ <;> k_mem)); (case kd => ktr_room); (case ku => ktr_units); (case kq => assumption); intro r9z h9z tk9z F9z N9z hr9z; obtain ⟨t9z, hr9z⟩ := hr9z; subst hr9z; (try dsimp only); (try k_sweep))))) | (with_reducible ((with_reducible show wpAny _ _ (subscriptTail _ _ (PySem.Value.ref _) (PySem.Value.int _ _)) _ _ _); (k_dflt (refine' item_tupleT ?t ?a ?b ?c ?d ?_; (case t => exact News.isTup (by k_asm) (by k_mem)); (case a => decide); (case b => decide); (case c => rfl); (case d => rfl); k_whole)))) | (with_reducible ((with_reducible show wpAny _ _ (compareOp _ (Value.str (sO _) _) (Value.str (sO _) _)) _ _ _); refine eq_sO ?_)) | ((with_reducible show wpAny _ _ (PySem.eval (PySem.Expr.Call (PySem.Expr.Name _ _) _ _) _) _ _ _); (refine Call_ ?_)) | (with_reducible ((with_reducible show wpAny _ _ (eval (Expr.Name _ _) (envOf _ _ _ _ _)) _ _ _); k_dflt (refine' ld ?k1 ?k2 ?_; (case k1 => k_asm); (case k2 => exact rfl); k_whole))) | ((with_reducible show wpAny _ _ (PySem.execs (List.cons _ _) _) _ _ _); walk1; (try (refine gen_s ?_; intro tkG; (try dsimp only); (try k_fold)))) | (walk1; (try dsimp only)) | (dsimp only; walk1) | (leave1; (try dsimp only)) | fail "no step")
  refine LCg.CompEnd.intro (by k_asm) (by k_asm) _ sub_refl off' (.inr ⟨_, by k_mem, rfl, _, rfl⟩) (LCg.CompRest.zero ?_)
  intro D1 h' tk' F' N' o1'
  repeat' ((fail_if_success (with_reducible show wpAny _ _ (PySem.exec (PySem.Stmt.While _ _ _ _) _) _ _ _)); (fail_if_success (with_reducible show wpAny _ _ (PySem.exec (PySem.Stmt.For _ _ _ _ _) _) _ _ _)); (fail_if_success (with_reducible show wpAny _ _ (PySem.exec (PySem.Stmt.Assign _ (PySem.Expr.ListComp _ _ _ _) _) _) _ _ _)); (fail_if_success (with_reducible show wpAny _ _ (PySem.eval (PySem.Expr.ListComp _ _ _ _) _) _ _ _)); (fail_if_success (with_reducible show LCg.CompSrc _ _ _ _ _ _ _ _ _ _ _ _ _ _)); (fail_if_success (with_reducible show LCt.CompSrcT _ _ _ _ _ _ _ _ _ _ _ _ _ _ _)); (fail_if_success (with_reducible show LCg.CompEnd _ _ _ _ _ _ _ _ _ _ _ _ _ _)); (fail_if_success (with_reducible show KswEnd _ _ _ _ _ _ _ _ _ _ _ _)); (fail_if_success (with_reducible show UnrEnd _ _ _ _ _ _ _)); first | (k_unfold; (try dsimp only)) | (k_end; wrow_close) | ((with_reducible show wpAny _ _ (PySem.call (Value.ref _) _) _ _ _); first | (with_reducible ((with_reducible show wpAny _ _ (PySem.call (Value.ref 206) _) _ _ _); k_dflt (refine' useO (chosen_form_spec _ _ _ _ _ _ _ _ _ _ _ _ _ _ _ ?kq) ?k1 ?k2 ?k3 ?k4 ?k5 ?kK ?kp ?kd ?ku ?_; (case k1 => k_asm); (case k2 => k_asm); (case k3 => k_asm); (case k4 => k_asm); (case k5 => k_asm); (case kK => first | exact rfl | assumption); (case kp => (refine ⟨?_, ?_⟩ <;> k_mem)); (case kd => ktr_room); (case ku => ktr_units); (case kq => assumption); intro r9z nw9z h9z tk9z F9z N9z hr9z; obtain ⟨D9z, t91, t92, c9z, l9z, hr9z, hn9z⟩ := hr9z; subst hr9z; subst hn9z; (try dsimp only); (try k_sweep)))) | (with_reducible ((with_reducible show wpAny _ _ (PySem.call (Value.ref 213) _) _ _ _); k_dflt (refine' useV (formed_spec _ _ _ _ _ _ _ _ _ _ _ _ _ _ _ _ ?kq) ?k1 ?k2 ?k3 ?k4 ?k5 ?kK ?kp ?kd ?ku ?_; (case k1 => k_asm); (case k2 => k_asm); (case k3 => k_asm); (case k4 => k_asm); (case k5 => k_asm); (case kK => first | exact rfl | assumption); (case kp => (refine ⟨?_, ?_⟩ <;> k_mem)); (case kd => ktr_room); (case ku => ktr_units); (case kq => assumption); intro r9z h9z tk9z F9z N9z hr9z; obtain ⟨t9z, hr9z⟩ := hr9z; subst hr9z; (try dsimp only); (try k_sweep))))) | (with_reducible ((with_reducible show wpAny _ _ (subscriptTail _ _ (PySem.Value.ref _) (PySem.Value.int _ _)) _ _ _); (k_dflt (refine' item_tupleT ?t ?a ?b ?c ?d ?_; (case t => exact News.isTup (by k_asm) (by k_mem)); (case a => decide); (case b => decide); (case c => rfl); (case d => rfl); k_whole)))) | (with_reducible ((with_reducible show wpAny _ _ (compareOp _ (Value.str (sO _) _) (Value.str (sO _) _)) _ _ _); refine eq_sO ?_)) | ((with_reducible show wpAny _ _ (PySem.eval (PySem.Expr.Call (PySem.Expr.Name _ _) _ _) _) _ _ _); (refine Call_ ?_)) | (with_reducible ((with_reducible show wpAny _ _ (eval (Expr.Name _ _) (envOf _ _ _ _ _)) _ _ _); k_dflt (refine' ld ?k1 ?k2 ?_; (case k1 => k_asm); (case k2 => exact rfl); k_whole))) | ((with_reducible show wpAny _ _ (PySem.execs (List.cons _ _) _) _ _ _); walk1; (try (refine gen_s ?_; intro tkG; (try dsimp only); (try k_fold)))) | (walk1; (try dsimp only)) | (dsimp only; walk1) | (leave1; (try dsimp only)) | fail "no step")
  exact hret _ _ _ _ (by k_asm) (cb_drop (by k_asm) (List.forall_mem_cons.mpr ⟨.head _, fun p hp => .tail _ (.tail _ (.tail _ (.tail _ hp)))⟩)) ⟨_, _, rfl, rfl⟩

example : True := by (w_top off; exact True.intro)

theorem number_text_spec (w mean mg mb) (x : Addr) (n d : Int) (pl M : Nat) (t1 t2 t3 : Tok) (c : Nat) (hn : Num n d pl M) : SpecV w mean mg mb 226 30 340 [.ref x, .int 15 t3] (fun news => (x, tupO [.int n t1, .int d t2] c) ∈ news)
    (fun r => ∃ t, r = .str (sO (txt n pl M)) t) := by
  unfold SpecV
  k_fill
  intro dp un gd cn cs a ccd cl outer A₀ base h₀ L m news s Q E B F X N T hk hpre hd hu hret
  refine wpAny_call ?_
  k_dflt (refine' code_def ?k1 ?k2 ?k3 ?k4 ?k5 ?kA ?kF ?kK ?k6 ?k7 ?k8 ?k9 ?kB ?_ ?c2 ?c3 ?c4 ?c5; (case kA => exact rfl); (case kF => exact rfl); (case kK => assumption); (case k1 => k_asm); (case k2 => k_asm); (case k3 => k_asm); (case k4 => k_asm); (case k5 => k_asm); (case k6 => k_is); (case k7 => k_is); (case k8 => ktr_room); (case k9 => exact binds_K (by k_in) rfl (by k_is) rfl rfl rfl); (case c5 => decide); (case kB => exact locs rfl); (case c2 => exact rfl); (case c3 => exact rfl); (case c4 => exact rfl); k_whole; intro g' L' h' FG' F' N' B' X' T'; (try dsimp only); (try k_lift B'); (try k_fold))
  refine abs_A ?_
  intro A9a
  repeat' ((fail_if_success (with_reducible show wpAny _ _ (PySem.exec (PySem.Stmt.While _ _ _ _) _) _ _ _)); (fail_if_success (with_reducible show wpAny _ _ (PySem.exec (PySem.Stmt.For _ _ _ _ _) _) _ _ _)); (fail_if_success (with_reducible show wpAny _ _ (PySem.exec (PySem.Stmt.Assign _ (PySem.Expr.ListComp _ _ _ _) _) _) _ _ _)); (fail_if_success (with_reducible show wpAny _ _ (PySem.eval (PySem.Expr.ListComp _ _ _ _) _) _ _ _)); (fail_if_success (with_reducible show LCg.CompSrc _ _ _ _ _ _ _ _ _ _ _ _ _ _)); (fail_if_success (with_reducible show LCt.CompSrcT _ _ _ _ _ _ _ _ _ _ _ _ _ _ _)); (fail_if_success (with_reducible show LCg.CompEnd _ _ _ _ _ _ _ _ _ _ _ _ _ _)); (fail_if_success (with_reducible show KswEnd _ _ _ _ _ _ _ _ _ _ _ _)); (fail_if_success (with_reducible show UnrEnd _ _ _ _ _ _ _)); first | (k_unfold; (try dsimp only)) | (k_end; wrow_close) | ((with_reducible show wpAny _ _ (PySem.call (Value.ref _) _) _ _ _); first | (with_reducible ((with_reducible show wpAny _ _ (PySem.call (Value.ref 218) _) _ _ _); k_dflt (refine' useO (common_texts_spec _ _ _ _ _ _ _ _ _ _ _ _ _ _ _ ?kq) ?k1 ?k2 ?k3 ?k4 ?k5 ?kK ?kp ?kd ?ku ?_; (case k1 => k_asm); (case k2 => k_asm); (case k3 => k_asm); (case k4 => k_asm); (case k5 => k_asm); (case kK => first | exact rfl | assumption); (case kp => (refine ⟨?_, ?_⟩ <;> k_mem)); (case kd => ktr_room); (case ku => ktr_units); (case kq => assumption); intro r9z nw9z h9z tk9z F9z N9z hr9z; obtain ⟨D9z, t91, hr9z, hn9z⟩ := hr9z; subst hr9z; subst hn9z; (try dsimp only); (try k_sweep))))) | ((with_reducible show wpAny _ _ (PySem.eval (PySem.Expr.Call (PySem.Expr.Name _ _) _ _) _) _ _ _); (refine Call_ ?_)) | (with_reducible ((with_reducible show wpAny _ _ (eval (Expr.Name _ _) (envOf _ _ _ _ _)) _ _ _); k_dflt (refine' ld ?k1 ?k2 ?_; (case k1 => k_asm); (case k2 => exact rfl); k_whole))) | walk1 | (dsimp only; walk1) | (leave1; (try dsimp only)) | fail "no step")
  exact hret _ _ _ (by k_asm) (cb_drop (by k_asm) (fun p hp => .tail _ (.tail _ hp))) ⟨_, rfl⟩

example : True := by (w_top off; exact True.intro)
theorem make_one (w mean mg mb) (n : Int) (t1 t2 : Tok) : SpecO w mean mg mb 94 21 180 [.int (n * 10 ^ Int.toNat 0) t1, .int 1 t2] (fun _ => True)
    (fun r news nw => ∃ D t1 t2 c, (∀ p ∈ news, p.1 < D) ∧ r = .ref D ∧ nw = (D, tupO [.int n t1, .int 1 t2] c) :: news) :=
  make_spec w mean mg mb _ 1 n 1 1 t1 t2 (by decide) rfl rfl (by simp) (by decide) (by decide)
theorem powered_nz (w mean mg mb) (n : Int) (t1 t2 t3 : Tok) (h0 : 0 < n) : SpecO w mean mg mb 254 23 240 [.int n t1, .int 10 t2, .int 0 t3] (fun _ => True)
    (fun r news nw => ∃ (D : Addr) (t1 t2 : Tok) (c : Nat), (∀ p ∈ news, p.1 < D) ∧ r = .ref D ∧ nw = (D, tupO [.int n t1, .int 1 t2] c) :: news) := by
  unfold SpecO
  k_fill
  intro dp un gd cn cs a ccd cl outer A₀ base h₀ L m news s Q E B F X N T hk hpre hd hu hret
  refine wpAny_call ?_
  k_dflt cell_enter
  refine abs_A ?_
  intro A9a
  repeat' ((fail_if_success (with_reducible show wpAny _ _ (PySem.exec (PySem.Stmt.While _ _ _ _) _) _ _ _)); (fail_if_success (with_reducible show wpAny _ _ (PySem.exec (PySem.Stmt.For _ _ _ _ _) _) _ _ _)); (fail_if_success (with_reducible show wpAny _ _ (PySem.exec (PySem.Stmt.Assign _ (PySem.Expr.ListComp _ _ _ _) _) _) _ _ _)); (fail_if_success (with_reducible show wpAny _ _ (PySem.eval (PySem.Expr.ListComp _ _ _ _) _) _ _ _)); (fail_if_success (with_reducible show LCg.CompSrc _ _ _ _ _ _ _ _ _ _ _ _ _ _)); (fail_if_success (with_reducible show LCt.CompSrcT _ _ _ _ _ _ _ _ _ _ _ _ _ _ _)); (fail_if_success (with_reducible show LCg.CompEnd _ _ _ _ _ _ _ _ _ _ _ _ _ _)); (fail_if_success (with_reducible show KswEnd _ _ _ _ _ _ _ _ _ _ _ _)); (fail_if_success (with_reducible show UnrEnd _ _ _ _ _ _ _)); first | (k_unfold; (try dsimp only)) | (k_end; wrow_close) | ((with_reducible show wpAny _ _ (PySem.call (Value.ref _) _) _ _ _); first | (with_reducible ((with_reducible show wpAny _ _ (PySem.call (Value.ref 94) _) _ _ _); k_dflt (refine' useO (make_one _ _ _ _ _ _ _) ?k1 ?k2 ?k3 ?k4 ?k5 ?kK ?kp ?kd ?ku ?_; (case k1 => k_asm); (case k2 => k_asm); (case k3 => k_asm); (case k4 => k_asm); (case k5 => k_asm); (case kK => first | exact rfl | assumption); (case kp => trivial); (case kd => ktr_room); (case ku => ktr_units); intro r9z nw9z h9z tk9z F9z N9z hr9z; obtain ⟨D9z, t91, t92, c9z, l9z, hr9z, hn9z⟩ := hr9z; subst hr9z; subst hn9z; (try dsimp only); (try k_sweep))))) | ((with_reducible show wpAny _ _ (PySem.eval (PySem.Expr.Call (PySem.Expr.Name _ _) _ _) _) _ _ _); (refine Call_ ?_)) | (with_reducible ((with_reducible show wpAny _ _ (eval (Expr.Name _ _) (envOf _ _ _ _ _)) _ _ _); k_dflt (refine' ld ?k1 ?k2 ?_; (case k1 => k_asm); (case k2 => exact rfl); k_whole))) | walk1 | (dsimp only; walk1) | (leave1; (try dsimp only)) | fail "no step")
  · exfalso; omega
  · exact hret _ _ _ _ (by k_asm) (by k_asm) ⟨_, _, _, _, by assumption, rfl, rfl⟩
theorem powered_z (w mean mg mb) (t1 t2 t3 : Tok) : SpecV w mean mg mb 254 23 240 [.int 0 t1, .int 10 t2, .int 0 t3] (fun _ => True)
    (fun r => r = .ref 80) := by
  unfold SpecV
  k_fill
  intro dp un gd cn cs a ccd cl outer A₀ base h₀ L m news s Q E B F X N T hk hpre hd hu hret
  refine wpAny_call ?_
  k_dflt cell_enter
  refine abs_A ?_
  intro A9a
  repeat' ((fail_if_success (with_reducible show wpAny _ _ (PySem.exec (PySem.Stmt.While _ _ _ _) _) _ _ _)); (fail_if_success (with_reducible show wpAny _ _ (PySem.exec (PySem.Stmt.For _ _ _ _ _) _) _ _ _)); (fail_if_success (with_reducible show wpAny _ _ (PySem.exec (PySem.Stmt.Assign _ (PySem.Expr.ListComp _ _ _ _) _) _) _ _ _)); (fail_if_success (with_reducible show wpAny _ _ (PySem.eval (PySem.Expr.ListComp _ _ _ _) _) _ _ _)); (fail_if_success (with_reducible show LCg.CompSrc _ _ _ _ _ _ _ _ _ _ _ _ _ _)); (fail_if_success (with_reducible show LCt.CompSrcT _ _ _ _ _ _ _ _ _ _ _ _ _ _ _)); (fail_if_success (with_reducible show LCg.CompEnd _ _ _ _ _ _ _ _ _ _ _ _ _ _)); (fail_if_success (with_reducible show KswEnd _ _ _ _ _ _ _ _ _ _ _ _)); (fail_if_success (with_reducible show UnrEnd _ _ _ _ _ _ _)); first | (k_unfold; (try dsimp only)) | (k_end; wrow_close) | ((with_reducible show wpAny _ _ (PySem.call (Value.ref _) _) _ _ _); first | (with_reducible ((with_reducible show wpAny _ _ (PySem.call (Value.ref 94) _) _ _ _); k_dflt (refine' useO (make_one _ _ _ _ _ _ _) ?k1 ?k2 ?k3 ?k4 ?k5 ?kK ?kp ?kd ?ku ?_; (case k1 => k_asm); (case k2 => k_asm); (case k3 => k_asm); (case k4 => k_asm); (case k5 => k_asm); (case kK => first | exact rfl | assumption); (case kp => trivial); (case kd => ktr_room); (case ku => ktr_units); intro r9z nw9z h9z tk9z F9z N9z hr9z; obtain ⟨D9z, t91, t92, c9z, l9z, hr9z, hn9z⟩ := hr9z; subst hr9z; subst hn9z; (try dsimp only); (try k_sweep))))) | ((with_reducible show wpAny _ _ (PySem.eval (PySem.Expr.Call (PySem.Expr.Name _ _) _ _) _) _ _ _); (refine Call_ ?_)) | (with_reducible ((with_reducible show wpAny _ _ (eval (Expr.Name _ _) (envOf _ _ _ _ _)) _ _ _); k_dflt (refine' ld ?k1 ?k2 ?_; (case k1 => k_asm); (case k2 => exact rfl); k_whole))) | walk1 | (dsimp only; walk1) | (leave1; (try dsimp only)) | fail "no step")
  exact hret _ _ _ (by k_asm) (by k_asm) rfl
/-- the text of a number without its sign -/
def utxt (pl M : Nat) : List Nat := if 0 < pl then (ds M).take ((ds M).length - pl) ++ 46 :: (ds M).drop ((ds M).length - pl) else ds M
theorem txt_utxt (n : Int) (pl M : Nat) : txt n pl M = (if n < 0 then [45] else []) ++ utxt pl M := rfl
theorem utxt_sign {pl M : Nat} : ∀ c ∈ utxt pl M, c = 46 ∨ (48 ≤ c ∧ c ≤ 57) := by
  intro c hc
  unfold utxt at hc
  split at hc
  · rcases List.mem_append.mp hc with h | h
    · exact .inr (ds_all M c (List.mem_of_mem_take h))
    · rcases List.mem_cons.mp h with h | h
      · exact .inl h
      · exact .inr (ds_all M c (List.mem_of_mem_drop h))
  · exact .inr (ds_all M c hc)
theorem no_x {l : List Nat} (h : ∀ c ∈ l, c = 46 ∨ (48 ≤ c ∧ c ≤ 57)) {x : Nat} (hx : 57 < x) : ¬ l.take (Int.toNat 2) = [48, x] := by
  intro e
  have : x ∈ l.take (Int.toNat 2) := by rw [e]; simp
  have := h x (List.mem_of_mem_take this)
  omega
theorem num_len {n d : Int} {pl M : Nat} (hn : Num n d pl M) (h0 : n ≠ 0) : pl < (ds M).length ∧ (ds M).length ≤ 5 ∧ pl ≤ 2 ∧ 0 < M := by
  have hge : d ≤ n.natAbs := by rcases hn.hge with h | h; exact absurd h h0; exact h
  have h2 : 10 ^ pl ≤ M := by
    have hM := hn.hM
    rcases hn.hd with ⟨rfl, rfl⟩ | ⟨rfl, rfl⟩ | ⟨rfl, rfl⟩ <;> simp at * <;> omega
  have h3 : pl ≤ 2 := by rcases hn.hd with ⟨_, rfl⟩ | ⟨_, rfl⟩ | ⟨_, rfl⟩ <;> decide
  unfold ds
  rw [List.length_map]
  exact ⟨digits10_ge h2, digits10_le (by decide) hn.hb, h3, Nat.lt_of_lt_of_le (Nat.pow_pos (by decide)) h2⟩

example : True := by (w_top off; exact True.intro)
/-- the kinds that the law speaks of; Z: a list -/
inductive Kd where
  | L | I | D | C | Z
  deriving DecidableEq
def kn : Kd → Str
  | .L => Str.ofString "logical"
  | .I => Str.ofString "integer"
  | .D => Str.ofString "double"
  | .C => Str.ofString "character"
  | .Z => Str.ofString "list"
/-- what an item is -/
inductive It where
  | non
  | int (i : Int)
  | frac (n d : Int)
  | frz (n d : Int)
  | txt (l : List Nat)
  | box (k : Kd) (a : It)
abbrev ent (w : World) (x : String) (t : Tok) (v : Value) : DictEntry := { hash := PyData.keyHash w.params (Str.ofString x), key := .str (Str.ofString x) t, val := v }
/-- an object of the text's class Vector -/
def VObj (w : World) (news : Led) (x : Addr) (k : Str) (la : Addr) (av : Value) : Prop :=
  ∃ (dx : Addr) (t1 t2 t3 t4 t5 tk : Tok) (n : Nat) (sh : Bool), (x, instObj 293 dx) ∈ news ∧
    (dx, dictOf [ent w "kind" t1 (.str k tk), ent w "items" t2 (.ref la), ent w "attrs" t3 av, ent w "shared" t4 (.bool sh), ent w "loose" t5 (.bool false)] n) ∈ news
theorem VObj.mono {w : World} {news nw : Led} {x : Addr} {k : Str} {la : Addr} {av : Value} (h : VObj w news x k la av) (hs : ∀ p ∈ news, p ∈ nw) : VObj w nw x k la av := by
  obtain ⟨dx, t1, t2, t3, t4, t5, tk, n, sh, h1, h2⟩ := h
  exact ⟨dx, t1, t2, t3, t4, t5, tk, n, sh, hs _ h1, hs _ h2⟩
/-- how a value bears an item -/
def ItIn (w : World) (news : Led) : It → Value → Prop
  | .non, v => v = .none
  | .int i, v => ∃ t, v = .int i t
  | .frac n d, v => ∃ x t1 t2 c, v = .ref x ∧ (x, tupO [.int n t1, .int d t2] c) ∈ news
  | .frz n d, v => ∃ x, v = .ref x ∧ ((∃ t1 t2 c, (x, tupO [.int n t1, .int d t2] c) ∈ news) ∨ (x = 80 ∧ n = 0 ∧ d = 1))
  | .txt l, v => ∃ t, v = .str (sO l) t
  | .box k a, v => ∃ x la y c, v = .ref x ∧ VObj w news x (kn k) la .none ∧ (la, ({ cls := .type "list", data := .seq #[y] c } : Obj)) ∈ news ∧ ItIn w news a y
theorem ItIn.mono {w : World} {news nw : Led} (hs : ∀ p ∈ news, p ∈ nw) : ∀ {a : It} {v : Value}, ItIn w news a v → ItIn w nw a v
  | .non, _, h => h
  | .int _, _, h => h
  | .frac _ _, _, ⟨x, t1, t2, c, h1, h2⟩ => ⟨x, t1, t2, c, h1, hs _ h2⟩
  | .frz _ _, _, ⟨x, h1, h2⟩ => ⟨x, h1, h2.imp (fun ⟨t1, t2, c, h⟩ => ⟨t1, t2, c, hs _ h⟩) id⟩
  | .txt _, _, h => h
  | .box _ _, _, ⟨x, la, y, c, h1, h2, h3, h4⟩ => ⟨x, la, y, c, h1, h2.mono hs, hs _ h3, h4.mono hs⟩
inductive ItsIn (w : World) (news : Led) : List It → List Value → Prop
  | nil : ItsIn w news [] []
  | cons {a v as vs} : ItIn w news a v → ItsIn w news as vs → ItsIn w news (a :: as) (v :: vs)
theorem ItsIn.mono {w : World} {news nw : Led} (hs : ∀ p ∈ news, p ∈ nw) {as : List It} {vs : List Value} (h : ItsIn w news as vs) : ItsIn w nw as vs := by
  induction h with
  | nil => exact .nil
  | cons h _ ih => exact .cons (h.mono hs) ih
theorem ItsIn.length {w : World} {news : Led} {as : List It} {vs : List Value} (h : ItsIn w news as vs) : vs.length = as.length := by
  induction h with
  | nil => rfl
  | cons _ _ ih => rw [List.length_cons, List.length_cons, ih]
theorem ItsIn.snoc {w : World} {news : Led} {as : List It} {vs : List Value} {a : It} {v : Value} (h : ItsIn w news as vs) (q : ItIn w news a v) : ItsIn w news (as ++ [a]) (vs ++ [v]) := by
  induction h with
  | nil => exact .cons q .nil
  | cons h _ ih => exact .cons h ih
theorem ItsIn.get {w : World} {news : Led} {as : List It} {vs : List Value} (h : ItsIn w news as vs) : ∀ {i : Nat} {v : Value}, vs[i]? = some v → ∃ a, as[i]? = some a ∧ ItIn w news a v := by
  induction h with
  | nil => intro i v e; cases e
  | cons h _ ih =>
    intro i v e
    cases i with
    | zero => cases e; exact ⟨_, rfl, h⟩
    | succ i => exact ih (i := i) e
/-- the names: none, or a Vector of texts -/
def NmIn (w : World) (news : Led) (o : Option (List (List Nat))) (av : Value) : Prop := match o with
  | none => av = .none
  | some ls => ∃ ad o nv lb vs c, av = .ref ad ∧ (ad, o) ∈ news ∧ o.IsDictOf (PySem.strKind PySem.Challenge.rw_ov0074_01.row.prog w) [(Str.ofString "names", .ref nv)] ∧ (ad == sysModules) = false ∧ VObj w news nv (Str.ofString "character") lb .none ∧ (lb, ({ cls := .type "list", data := .seq vs.toArray c } : Obj)) ∈ news ∧ ItsIn w news (ls.map .txt) vs
theorem NmIn.mono {w : World} {news nw : Led} (hs : ∀ p ∈ news, p ∈ nw) {o : Option (List (List Nat))} {av : Value} (h : NmIn w news o av) : NmIn w nw o av := by
  cases o with
  | none => exact h
  | some ls =>
    obtain ⟨ad, o, nv, lb, vs, c, h1, h2, hd, hl, h3, h4, h5⟩ := h
    exact ⟨ad, o, nv, lb, vs, c, h1, hs _ h2, hd, hl, h3.mono hs, hs _ h4, h5.mono hs⟩
/-- a Vector of kind k with these items and names -/
def VecIn (w : World) (news : Led) (r : Value) (k : Kd) (its : List It) (nm : Option (List (List Nat))) : Prop :=
  ∃ x la vs c av, r = .ref x ∧ VObj w news x (kn k) la av ∧ (la, ({ cls := .type "list", data := .seq vs.toArray c } : Obj)) ∈ news ∧ ItsIn w news its vs ∧ NmIn w news nm av
theorem VecIn.mono {w : World} {news nw : Led} (hs : ∀ p ∈ news, p ∈ nw) {r : Value} {k : Kd} {its : List It} {nm : Option (List (List Nat))} (h : VecIn w news r k its nm) : VecIn w nw r k its nm := by
  obtain ⟨x, la, vs, c, av, h1, h2, h3, h4, h5⟩ := h
  exact ⟨x, la, vs, c, av, h1, h2.mono hs, hs _ h3, h4.mono hs, h5.mono hs⟩
/-- the ledger has grown, by new addresses -/
def Grew (news nw : Led) : Prop := ∃ add : Led, nw = add ++ news ∧ ∀ p ∈ add, ∀ q ∈ news, q.1 ≠ p.1
theorem Grew.refl (news : Led) : Grew news news := ⟨[], rfl, fun _ h => nomatch h⟩
theorem Grew.sub {news nw : Led} (h : Grew news nw) : ∀ p ∈ news, p ∈ nw := by
  obtain ⟨add, rfl, _⟩ := h
  exact fun p hp => List.mem_append.mpr (.inr hp)
theorem Grew.trans {a b c : Led} (h : Grew a b) (h' : Grew b c) : Grew a c := by
  obtain ⟨x, rfl, hx⟩ := h
  obtain ⟨y, rfl, hy⟩ := h'
  refine ⟨y ++ x, (List.append_assoc ..).symm, fun p hp q hq => ?_⟩
  rcases List.mem_append.mp hp with hp | hp
  · exact hy p hp q (List.mem_append.mpr (.inr hq))
  · exact hx p hp q hq
theorem Grew.ne1 {news : Led} {D : Addr} {o : Obj} (h : ∀ p ∈ news, p.1 ≠ D) : Grew news ((D, o) :: news) := ⟨[(D, o)], rfl, fun p hp q hq => by
  rw [List.mem_singleton.mp hp]; exact h q hq⟩
theorem Grew.one {news : Led} {D : Addr} {o : Obj} (h : ∀ p ∈ news, p.1 < D) : Grew news ((D, o) :: news) := Grew.ne1 fun p hp => Nat.ne_of_lt (h p hp)
theorem Grew.cons {news rest : Led} {D : Addr} {o : Obj} (h : Grew news rest) (hl : ∀ p ∈ rest, p.1 < D) : Grew news ((D, o) :: rest) := Grew.trans h (Grew.one hl)
def Fresh (add news : Led) : Prop := ∀ p ∈ add, ∀ q ∈ news, q.1 ≠ p.1
theorem Grew.lt {news nw : Led} {D : Addr} (h : Grew news nw) (hl : ∀ p ∈ nw, p.1 < D) : ∀ p ∈ news, p.1 < D := fun p hp => hl p (h.sub p hp)
example : True := by (w_top off; exact True.intro)
/-- a new Vector without attributes -/
theorem vector_new (w mean mg mb) (k : Str) (la : Addr) (t1 : Tok) : SpecO w mean mg mb 293 22 170 [.str k t1, .ref la] (fun _ => True)
    (fun r news nw => ∃ x dx u1 u2 u3 u4 u5 uk, r = .ref x ∧ nw = (x, instObj 293 dx) :: (dx, dictOf [{ hash := PyData.keyHash w.params (Str.ofString "kind"), key := .str (Str.ofString "kind") u1, val := (.str k uk) }, { hash := PyData.keyHash w.params (Str.ofString "items"), key := .str (Str.ofString "items") u2, val := (.ref la) }, { hash := PyData.keyHash w.params (Str.ofString "attrs"), key := .str (Str.ofString "attrs") u3, val := .none }, { hash := PyData.keyHash w.params (Str.ofString "shared"), key := .str (Str.ofString "shared") u4, val := (.bool false) }, { hash := PyData.keyHash w.params (Str.ofString "loose"), key := .str (Str.ofString "loose") u5, val := (.bool false) }] 5) :: news ∧ (∀ p ∈ news, p.1 < dx) ∧ @LT.lt Nat _ dx x) := by
  unfold SpecO
  k_fill
  intro dp un gd cn cs a ccd cl outer A₀ base h₀ L m news s Q E B F X N T hk hpre hd hu hret
  k_dflt (refine' call_cls ?k1 ?k2 ?k3 ?k4 ?k5 ?k6 ?_; (case k1 => k_asm); (case k2 => k_asm); (case k3 => k_asm); (case k4 => k_is); (case k5 => k_is); (case k6 => k_is); k_whole; intro x' d' h' F' N' l1 l2; (try k_lt l1); (try k_lt2 l2); (try k_sweep))
  k_dflt (refine' code_def ?k1 ?k2 ?k3 ?k4 ?k5 ?kA ?kF ?kK ?k6 ?k7 ?k8 ?k9 ?kB ?_ ?c2 ?c3 ?c4 ?c5; (case kA => exact rfl); (case kF => exact rfl); (case kK => assumption); (case k1 => k_asm); (case k2 => k_asm); (case k3 => k_asm); (case k4 => k_asm); (case k5 => k_asm); (case k6 => k_is); (case k7 => k_is); (case k8 => ktr_room); (case k9 => exact binds_K (by k_in) rfl (by k_is) rfl rfl rfl); (case c5 => decide); (case kB => exact locs rfl); (case c2 => exact rfl); (case c3 => exact rfl); (case c4 => exact rfl); k_whole; intro g' L' h' FG' F' N' B' X' T'; (try dsimp only); (try k_lift B'); (try k_fold))
  refine abs_A ?_
  intro A9a
  repeat' ((fail_if_success (with_reducible show wpAny _ _ (PySem.exec (PySem.Stmt.While _ _ _ _) _) _ _ _)); (fail_if_success (with_reducible show wpAny _ _ (PySem.exec (PySem.Stmt.For _ _ _ _ _) _) _ _ _)); (fail_if_success (with_reducible show wpAny _ _ (PySem.exec (PySem.Stmt.Assign _ (PySem.Expr.ListComp _ _ _ _) _) _) _ _ _)); (fail_if_success (with_reducible show wpAny _ _ (PySem.eval (PySem.Expr.ListComp _ _ _ _) _) _ _ _)); (fail_if_success (with_reducible show LCg.CompSrc _ _ _ _ _ _ _ _ _ _ _ _ _ _)); (fail_if_success (with_reducible show LCt.CompSrcT _ _ _ _ _ _ _ _ _ _ _ _ _ _ _)); (fail_if_success (with_reducible show LCg.CompEnd _ _ _ _ _ _ _ _ _ _ _ _ _ _)); (fail_if_success (with_reducible show KswEnd _ _ _ _ _ _ _ _ _ _ _ _)); (fail_if_success (with_reducible show UnrEnd _ _ _ _ _ _ _)); first | (k_unfold; (try dsimp only)) | (k_end; wrow_close) | (with_reducible ((with_reducible show wpAny _ _ (eval (Expr.Name _ _) (envOf _ _ _ _ _)) _ _ _); k_dflt (refine' ld ?k1 ?k2 ?_; (case k1 => k_asm); (case k2 => exact rfl); k_whole))) | walk1 | (dsimp only; walk1) | (leave1; (try dsimp only)) | fail "no step")
  all_goals exact hret _ _ _ _ (by k_asm) (by k_asm) ⟨_, _, _, _, _, _, _, _, rfl, rfl, by (first | assumption | (refine ktn_ltOf ?_; (try simp only [AllLt, and_true]); (repeat' first | assumption | omega | (refine And.intro ?_ ?_)); all_goals first | (rename _ ∧ AllLt _ _ => l8; exact tbn_up (by omega) l8.2) | (rename _ ∧ _ ∧ AllLt _ _ => l8; exact tbn_up (by omega) l8.2.2) | (rename _ ∧ _ ∧ _ ∧ AllLt _ _ => l8; exact tbn_up (by omega) l8.2.2.2) | (rename _ ∧ _ ∧ _ ∧ _ ∧ AllLt _ _ => l8; exact tbn_up (by omega) l8.2.2.2.2) | (rename _ ∧ _ ∧ _ ∧ _ ∧ _ ∧ AllLt _ _ => l8; exact tbn_up (by omega) l8.2.2.2.2.2) | (rename _ ∧ _ ∧ _ ∧ _ ∧ _ ∧ _ ∧ AllLt _ _ => l8; exact tbn_up (by omega) l8.2.2.2.2.2.2) | (rename _ ∧ _ ∧ _ ∧ _ ∧ _ ∧ _ ∧ _ ∧ AllLt _ _ => l8; exact tbn_up (by omega) l8.2.2.2.2.2.2.2) | (rename _ ∧ _ ∧ _ ∧ _ ∧ _ ∧ _ ∧ _ ∧ _ ∧ AllLt _ _ => l8; exact tbn_up (by omega) l8.2.2.2.2.2.2.2.2) | (rename ∀ p ∈ (_ : Led), Prod.fst p < _ => l8; exact tbn_up (by omega) (allLt_of l8)) | (rename ∀ p ∈ (_ :: _ : Led), Prod.fst p < _ => l8; exact allLt_of fun p hp => l8 p (.tail _ hp)))), by assumption⟩

example : True := by (w_top off; exact True.intro)
/-- what stands at a turn's end: the stored names' letters, the rest of the frame as it was, the ledger grown -/
def LstEnd {σ : Type} (h₀ : Heap) (L : Addr) (x : Str) (ps : σ → List (Str × Value)) (stored : List Str) (m₀ : Str → Option Value) (P : σ → Prop) (old : Led) (s₁ s₂ : Shared) : Prop :=
  ∃ h' tk m' c nw, s₂ = { s₁ with heap := h', toks := tk } ∧ Fr h₀ L h' m' ∧ News h₀ L h' nw ∧ Grew old nw ∧ P c ∧ (∀ p ∈ ps c, m' p.1 = some p.2) ∧ ∀ z, z ≠ x → (∀ p ∈ ps c, z ≠ p.1) → stored.contains z = false → m' z = m₀ z
theorem LstEnd.intro {σ : Type} {h₀ : Heap} {L : Addr} {x : Str} {ps : σ → List (Str × Value)} {stored : List Str} {m₀ : Str → Option Value} {P : σ → Prop} {old nw : Led} {s₁ : Shared} {h' : Heap} {tk : Nat} {m' : Str → Option Value} (c : σ)
    (F : Fr h₀ L h' m') (N : News h₀ L h' nw) (g : Grew old nw) (hk : ∀ p ∈ ps c, m' p.1 = some p.2) (hr : ∀ z, z ≠ x → (∀ p ∈ ps c, z ≠ p.1) → stored.contains z = false → m' z = m₀ z) (hp : P c) : LstEnd h₀ L x ps stored m₀ P old s₁ { s₁ with heap := h', toks := tk } :=
  ⟨h', tk, m', c, nw, rfl, F, N, g, hp, hk, hr⟩
def LstPost {σ : Type} (h₀ : Heap) (L : Addr) (x : Str) (ps : σ → List (Str × Value)) (stored : List Str) (m₀ : Str → Option Value) (P : σ → Prop) (old : Led) (s₁ : Shared) (Q : Flow → Shared → Prop) (f : Flow) (s₂ : Shared) : Prop :=
  match f with
  | .ret v => Q (.ret v) s₂
  | .brk => Q .next s₂
  | _ => LstEnd h₀ L x ps stored m₀ P old s₁ s₂
section
variable {prog : Program} {w : World} {A : Around} {E : Value → Shared → Prop} {s : Shared} {env : Env} {h₀ : Heap} {x : Str} {body : List Stmt} {Q : Flow → Shared → Prop}
/-- a for over a list of the ledger: letters for the stored names, the ledger grows -/
theorem lst_inv {σ : Type} {ax : Addr} {vs : List Value} {n : Nat} {m₀ : Str → Option Value} {news : Led} (ps : σ → List (Str × Value)) (stored : List Str) (P : Nat → σ → Prop) (c₀ : σ)
    (hh : A.handled = none) (F : Fr h₀ env.locals s.heap m₀) (N : News h₀ env.locals s.heap news) (hm : (ax, listOf vs.toArray n) ∈ news) (hk : ∀ p ∈ ps c₀, m₀ p.1 = some p.2) (hp : P 0 c₀)
    (turn : ∀ i v (c : σ) (u : Str → Option Value) h tk nw I it, vs[i]? = some v → P i c → Grew news nw → (∀ p ∈ nw, p.1 ≠ I) → Obj.cls it = .type "list_iterator" →
      Fr h₀ env.locals h (fun y => if y = x then some v else kstB (fun z => if stored.contains z then u z else m₀ z) (ps c) y) → News h₀ env.locals h ((I, it) :: nw) →
      wpAny (model prog w) A (execs body env) (LstPost h₀ env.locals x ps stored m₀ (P (i + 1)) ((I, it) :: nw) { s with heap := h, toks := tk } Q) E { s with heap := h, toks := tk })
    (done : ∀ (c : σ) (u : Str → Option Value) h tk nw, P vs.length c → Grew news nw → Fr h₀ env.locals h (fun y => if y = x then u y else kstB (fun z => if stored.contains z then u z else m₀ z) (ps c) y) → News h₀ env.locals h nw → Q .next { s with heap := h, toks := tk }) :
    wpAny (model prog w) A (pyIter (.ref ax)) (fun it s₂ => LoopAtV prog w A h₀ env x body Q E it s₂) E s := by
  refine iter_listUnr (lo := listOf vs.toArray n) (vs := vs) hh F N hm rfl rfl fun I hI => ?_
  have key : ∀ (rest : List Value) (i : Nat) (c : σ) (m : Str → Option Value) (nw : Led), vs.drop i = rest → i ≤ vs.length → P i c → Grew news nw → (∀ p ∈ nw, p.1 ≠ I) → (∀ p ∈ ps c, m p.1 = some p.2) →
      (∀ z, z ≠ x → (∀ p ∈ ps c, z ≠ p.1) → stored.contains z = false → m z = m₀ z) → ListRest prog w A E h₀ env x body Q s I (ax, listOf vs.toArray n) rest m nw := by
    intro rest
    induction rest with
    | nil =>
      intro i c m nw hd hi hp hg hI' hk' hr
      have hi' : i = vs.length := by
        have := congrArg List.length hd
        rw [List.length_drop, List.length_nil] at this
        omega
      subst hi'
      exact ListRest.zero fun h tk F' N' => done c m h tk nw hp hg (kst_frOut hk' hr F') N'
    | cons v rest ih =>
      intro i c m nw hd hi hp hg hI' hk' hr
      have hv : vs[i]? = some v := by
        have := congrArg (fun l => l[0]?) hd
        simpa using this
      refine ListRest.succ fun it h tk hit F' N' => ?_
      refine wpAny_mono (turn i v c m h tk nw I it hv hp hg hI' hit (kst_fr hk' hr F') N') (fun f s₂ q => ?_) fun _ _ e => e
      have fin : LstEnd h₀ env.locals x ps stored m₀ (P (i + 1)) ((I, it) :: nw) { s with heap := h, toks := tk } s₂ →
          UnrEnd h₀ env.locals { s with heap := h, toks := tk } I it (fun m' n' => (ax, listOf vs.toArray n) ∈ n' ∧ ListRest prog w A E h₀ env x body Q s I (ax, listOf vs.toArray n) rest m' n') s₂ := by
        rintro ⟨h', tk', m', c', nw', rfl, F'', N'', ⟨add, rfl, hf⟩, hp', hk'', hr''⟩
        have hg' : Grew news (add ++ nw) := hg.trans ⟨add, rfl, fun p hp q hq => hf p hp q (.tail _ hq)⟩
        have hI2 : ∀ p ∈ add ++ nw, p.1 ≠ I := fun p hp => by
          rcases List.mem_append.mp hp with hp | hp
          · exact Ne.symm (hf p hp _ (.head _))
          · exact hI' p hp
        refine UnrEnd.intro F'' N'' (add ++ nw) (fun p hp => ?_) hI2 ⟨hg'.sub _ hm, ih (i + 1) c' m' _ ?_ ?_ hp' hg' hI2 hk'' hr''⟩
        · rcases List.mem_cons.mp hp with rfl | hp
          · exact List.mem_append.mpr (.inr (.head _))
          · rcases List.mem_append.mp hp with hp | hp
            · exact List.mem_append.mpr (.inl hp)
            · exact List.mem_append.mpr (.inr (.tail _ hp))
        · rw [← List.drop_drop, hd]; rfl
        · have := congrArg List.length hd
          rw [List.length_drop, List.length_cons] at this
          omega
      cases f with
      | ret v => exact q
      | brk => exact q
      | next => exact fin q
      | cont => exact fin q
  exact key vs 0 c₀ m₀ news (List.drop_zero) (Nat.zero_le _) hp (Grew.refl _) (fun p hp => Nat.ne_of_lt (hI p hp)) hk fun _ _ _ _ => rfl
end

example : True := by (w_top off; exact True.intro)
theorem slice_up {prog : Program} {w : World} {A : Around} {E : Value → Shared → Prop} {s : Shared} {h₀ : Heap} {L l : Addr} {m : Str → Option Value} {news : Led} {value slice : PySem.Expr} {vs : List Value} {ns : List Int} {y : Int} {u : Tok} {Q : Value → Shared → Prop}
    (F : Fr h₀ L s.heap m) (N : News h₀ L s.heap news) (hl : s.heap.IsList l vs.toArray) (hi : IntsAre vs ns) (h0 : 0 ≤ y) (hz : ns.length ≤ 10000)
    (h : ∀ D ws h', Fr h₀ L h' m → News h₀ L h' ((D, listOf ws.toArray 0) :: news) → (∀ p ∈ news, p.1 < D) → IntsAre ws (ns.take y.toNat) → Q (.ref D) { s with heap := h' })
    (hs : subscripted slice false (.ref l) (.ref s.heap.objs.size) = operate [.ref s.heap.objs.size, .ref l] (getItem (.ref l) (.ref s.heap.objs.size)) := by with_unfolding_all rfl) (ht : ∀ r, letTemporaryGo value (.ref l) r = pure () := by intro _; with_unfolding_all rfl) :
    wpAny (model prog w) A (subscriptTail value slice (.ref l) (.ref s.heap.objs.size)) Q E { s with heap := s.heap.push { cls := .type "slice", data := .fields #[.none, .int y u, .none] } } := by
  refine kmk_slice F N hl .none (.int y u) (fun D h' F' N' l1 => h D (slicePick vs.toArray none (some y) none).toList h' F' ?_ l1 (kmk_upto hi h0)) hs ht (by rw [List.size_toArray, hi.length, sizeLine_eq]; omega)
  rw [Array.toArray_toList]
  exact N'
theorem append_row {prog : Program} {w : World} {A : Around} {E : Value → Shared → Prop} {s : Shared} {h₀ : Heap} {L D : Addr} {m : Str → Option Value} {rest : Led} {vs : List Value} {c : Nat} {x : Value} {Q : Value → Shared → Prop}
    (F : Fr h₀ L s.heap m) (N : News h₀ L s.heap ((D, listOf vs.toArray c) :: rest)) (hne : ∀ p ∈ rest, p.1 ≠ D) (hz : vs.length ≤ 10000)
    (h : ∀ h', Fr h₀ L h' m → News h₀ L h' ((D, listOf (vs ++ [x]).toArray (c + 1)) :: rest) → Q .none { s with heap := h' }) : wpAny (model prog w) A (call (.builtin "list.append") [.ref D, x]) Q E s := by
  refine append_K F N (.head hne) (fun h' F' N' => h h' F' ?_) (by rw [List.size_toArray, sizeLine_eq]; omega)
  rw [List.push_toArray] at N'
  exact N'
theorem IntsAre_snoc {vs : List Value} {ns : List Int} (h : IntsAre vs ns) (n : Int) (t : Tok) : IntsAre (vs ++ [.int n t]) (ns ++ [n]) := by
  induction h with
  | nil => exact .cons n t .nil
  | cons k u _ ih => exact .cons k u ih
theorem RowAll_snoc {ns : List Int} {n : Int} (h : ∀ k ∈ ns, 0 ≤ k ∧ k < 127) (h0 : 0 ≤ n) (h1 : n < 127) : ∀ k ∈ ns ++ [n], 0 ≤ k ∧ k < 127 := fun k hk => by
  rcases List.mem_append.mp hk with hk | hk
  · exact h k hk
  · rw [List.mem_singleton.mp hk]; exact ⟨h0, h1⟩
theorem ne_app {D : Addr} {a b : Led} (h1 : ∀ p ∈ a, p.1 ≠ D) (h2 : ∀ p ∈ b, p.1 ≠ D) : ∀ p ∈ a ++ b, p.1 ≠ D := fun p hp => by
  rcases List.mem_append.mp hp with hp | hp
  · exact h1 p hp
  · exact h2 p hp
abbrev RowSt := List Value × List Int × Nat
abbrev rowLed (row : Addr) (rest : Led) (c : RowSt) : Led := (row, listOf c.1.toArray c.2.2) :: rest
theorem isL9 {h₀ h : Heap} {L x : Addr} {vs : List Value} {c : Nat} {news : Led} (N : News h₀ L h news) (hm : (x, listOf vs.toArray c) ∈ news) : h.IsList x vs.toArray := ⟨_, N.get hm, rfl, c, rfl⟩
theorem isL_keep {h₀ h : Heap} {L l : Addr} {m : Str → Option Value} {vs : Array Value} (F : Fr h₀ L h m) (hl : h₀.IsList l vs) : h.IsList l vs := hl.at fun o e => F.keep l o e
theorem law_parts (w mean mg mb) (l : Addr) (vs : List Value) (ns : List Int) (hi : IntsAre vs ns) (hz : ns.length ≤ 1000) :
  ∀ (dp un : Nat) (gd : Option (List Code)) (cn : Str) (cs : Scope) (a : Addr) (ccd : Value) (cl : List (Str × Addr)) (outer : List Env) (A₀ : Around) (base h₀ : Heap) (L : Addr) (m : Str → Option Value) (news : Led) (s : Shared)
    (Q E : Value → Shared → Prop),
    Below A₀ base outer h₀ → Fr h₀ L s.heap m → (Mine.hd.heap_1 w.params).In h₀ → News h₀ L s.heap news →
    Top Mine.hd.view_1 (looseW Mine.hd.view_1 [Str.ofString "number_text"]) mean mg mb h₀ → cs.kind = .function → h₀.IsList l vs.toArray → dp + 20 < recursionLimit → un + 160 < cLine →
    (∀ row h' tk' vs ns c, Fr h₀ L h' m → News h₀ L h' ((row, listOf vs.toArray c) :: news) → (∀ p ∈ news, p.1 < row) → IntsAre vs ns → RowOk ns → Q (.ref row) { s with heap := h', toks := tk' }) →
    wpAny (model PySem.Challenge.rw_ov0074_01.row.prog w) (ktrTop dp un gd cn cs L a ccd cl outer) (call (.ref 454) [.ref l]) Q E s := by
  k_fill
  intro dp un gd cn cs a ccd cl outer A₀ base h₀ L m news s Q E B F X N T hk hpre hd hu hret
  refine wpAny_call ?_
  k_dflt cell_enter
  refine abs_A ?_
  intro A9a
  repeat' ((fail_if_success (with_reducible show wpAny _ _ (PySem.exec (PySem.Stmt.While _ _ _ _) _) _ _ _)); (fail_if_success (with_reducible show wpAny _ _ (PySem.exec (PySem.Stmt.For _ _ _ _ _) _) _ _ _)); (fail_if_success (with_reducible show wpAny _ _ (PySem.exec (PySem.Stmt.Assign _ (PySem.Expr.ListComp _ _ _ _) _) _) _ _ _)); (fail_if_success (with_reducible show wpAny _ _ (PySem.eval (PySem.Expr.ListComp _ _ _ _) _) _ _ _)); (fail_if_success (with_reducible show LCg.CompSrc _ _ _ _ _ _ _ _ _ _ _ _ _ _)); (fail_if_success (with_reducible show LCt.CompSrcT _ _ _ _ _ _ _ _ _ _ _ _ _ _ _)); (fail_if_success (with_reducible show LCg.CompEnd _ _ _ _ _ _ _ _ _ _ _ _ _ _)); (fail_if_success (with_reducible show KswEnd _ _ _ _ _ _ _ _ _ _ _ _)); (fail_if_success (with_reducible show UnrEnd _ _ _ _ _ _ _)); first | (k_unfold; (try dsimp only)) | (k_end; wrow_close) | (with_reducible ((with_reducible show wpAny _ _ (subscriptTail _ _ (PySem.Value.ref _) (PySem.Value.ref _)) _ _ _); (k_dflt (refine' slice_up ?F ?N ?l ?i ?h ?z ?_; (case F => k_asm); (case N => k_asm); (case l => first | exact isL_keep (by k_asm) (by assumption) | exact isL9 (by k_asm) (by k_mem)); (case i => assumption); (case h => omega); (case z => omega)); intro D9y ws9y h9y F9y N9y l9y hI9y))) | (with_reducible ((with_reducible show wpAny _ _ (PySem.binaryOp PySem.Operator.FloorDiv (PySem.Value.int _ _) (PySem.Value.int _ _)) _ _ _); ((with_reducible refine floordiv_int ?kbe ?_ (Or.inl (PyProof.noPylong_small ?kbp))); (case kbe => omega); (case kbp => omega)))) | ((with_reducible show wpAny _ _ (PySem.eval (PySem.Expr.Call (PySem.Expr.Name _ _) _ _) _) _ _ _); (refine Call_ ?_)) | (with_reducible ((with_reducible show wpAny _ _ (PySem.call (PySem.Value.builtin "list.append") _) _ _ _); (k_dflt (refine' append_row (by k_asm) (by k_asm) ?hne ?hz ?_; (case hne => assumption); (case hz => omega)); intro h9y F9y N9y))) | (with_reducible ((with_reducible show wpAny _ _ (eval (Expr.Name _ _) (envOf _ _ _ _ _)) _ _ _); k_dflt (refine' ld ?k1 ?k2 ?_; (case k1 => k_asm); (case k2 => exact rfl); k_whole))) | (with_reducible ((with_reducible show wpAny _ _ (PySem.call (PySem.Value.builtin "abs") _) _ _ _); (refine abs_natAbs ?_; intro u9z k9z))) | walk1 | (dsimp only; walk1) | (leave1; (try dsimp only)) | fail "no step")
  rename_i row h1 l1 h2 F2 N2
  rename Fr h₀ L _ m => FG
  have hls := isL_keep FG hpre
  (rename Fr _ _ _ _ => lF'); (with_unfolding_all refine' For_invVF lF' ?k1 ?k2 ?_; (case k1 => exact rfl); (case k2 => exact rfl); k_whole)
  repeat' ((fail_if_success (with_reducible show wpAny _ _ (PySem.pyIter _) _ _ _)); first | (with_reducible ((with_reducible show wpAny _ _ (subscriptTail _ _ (PySem.Value.ref _) (PySem.Value.ref _)) _ _ _); (k_dflt (refine' slice_up ?F ?N ?l ?i ?h ?z ?_; (case F => k_asm); (case N => k_asm); (case l => first | exact isL_keep (by k_asm) (by assumption) | exact isL9 (by k_asm) (by k_mem)); (case i => assumption); (case h => omega); (case z => omega)); intro D9y ws9y h9y F9y N9y l9y hI9y))) | (with_reducible ((with_reducible show wpAny _ _ (PySem.binaryOp PySem.Operator.FloorDiv (PySem.Value.int _ _) (PySem.Value.int _ _)) _ _ _); ((with_reducible refine floordiv_int ?kbe ?_ (Or.inl (PyProof.noPylong_small ?kbp))); (case kbe => omega); (case kbp => omega)))) | ((with_reducible show wpAny _ _ (PySem.eval (PySem.Expr.Call (PySem.Expr.Name _ _) _ _) _) _ _ _); (refine Call_ ?_)) | (with_reducible ((with_reducible show wpAny _ _ (PySem.call (PySem.Value.builtin "list.append") _) _ _ _); (k_dflt (refine' append_row (by k_asm) (by k_asm) ?hne ?hz ?_; (case hne => assumption); (case hz => omega)); intro h9y F9y N9y))) | (with_reducible ((with_reducible show wpAny _ _ (eval (Expr.Name _ _) (envOf _ _ _ _ _)) _ _ _); k_dflt (refine' ld ?k1 ?k2 ?_; (case k1 => k_asm); (case k2 => exact rfl); k_whole))) | (with_reducible ((with_reducible show wpAny _ _ (PySem.call (PySem.Value.builtin "abs") _) _ _ _); (refine abs_natAbs ?_; intro u9z k9z))) | walk1 | (dsimp only; walk1))
  revert D9y ws9y h9y F9y N9y l9y hI9y
  intro D ws h3 F3 N3 l3 hI
  have hne : ∀ p ∈ ((D, listOf ws.toArray 0) :: news : Led), p.1 ≠ row := fun p hp => by
    rcases List.mem_cons.mp hp with rfl | hp
    · exact Nat.ne_of_gt (l3 _ (.head _))
    · exact Nat.ne_of_lt (l1 p hp)
  refine' kst_listL (nn := 0) (rowLed row ((D, listOf ws.toArray 0) :: news)) (fun _ => []) (fun _ => True) [Str.ofString "left", Str.ofString "hop"] (fun pre c => IntsAre c.1 c.2.1 ∧ (∀ k ∈ c.2.1, 0 ≤ k ∧ k < 127) ∧ c.2.1.length ≤ 18 * pre.length) ([], [], 0) rfl (fun c => .tail _ (.head _)) hI (by k_asm) (cb_drop (by k_asm) (List.forall_mem_cons.mpr ⟨.tail _ (.head _), List.forall_mem_cons.mpr ⟨.head _, fun p hp => .tail _ (.tail _ hp)⟩⟩)) trivial keys_nil ?kP ?_ ?_
  case kP => exact ⟨.nil, (fun _ h => nomatch h), Nat.zero_le _⟩
  · rintro ⟨xs, ks, c⟩ pre post n t u h tk own hsplit hmem hown - ⟨h4, h5, h6⟩ F N
    dsimp only at h4 h5 h6
    dsimp only [kstB] at F
    have hpl : pre.length < 24 := by
      have := congrArg List.length hsplit
      rw [List.length_take, List.length_append, List.length_cons] at this
      have h24 : Int.toNat 24 = 24 := rfl
      omega
    have hne2 : ∀ p ∈ (((D, listOf ws.toArray 0) :: news) ++ own : Led), p.1 ≠ row := ne_app hne fun p hp => hown p hp row (.head _)
    repeat' ((fail_if_success (with_reducible show wpAny _ _ (PySem.exec (PySem.Stmt.While _ _ _ _) _) _ _ _)); (fail_if_success (with_reducible show wpAny _ _ (PySem.exec (PySem.Stmt.For _ _ _ _ _) _) _ _ _)); (fail_if_success (with_reducible show wpAny _ _ (PySem.exec (PySem.Stmt.Assign _ (PySem.Expr.ListComp _ _ _ _) _) _) _ _ _)); (fail_if_success (with_reducible show wpAny _ _ (PySem.eval (PySem.Expr.ListComp _ _ _ _) _) _ _ _)); (fail_if_success (with_reducible show LCg.CompSrc _ _ _ _ _ _ _ _ _ _ _ _ _ _)); (fail_if_success (with_reducible show LCt.CompSrcT _ _ _ _ _ _ _ _ _ _ _ _ _ _ _)); (fail_if_success (with_reducible show LCg.CompEnd _ _ _ _ _ _ _ _ _ _ _ _ _ _)); (fail_if_success (with_reducible show KswEnd _ _ _ _ _ _ _ _ _ _ _ _)); (fail_if_success (with_reducible show UnrEnd _ _ _ _ _ _ _)); first | (k_unfold; (try dsimp only)) | (k_end; wrow_close) | (with_reducible ((with_reducible show wpAny _ _ (subscriptTail _ _ (PySem.Value.ref _) (PySem.Value.ref _)) _ _ _); (k_dflt (refine' slice_up ?F ?N ?l ?i ?h ?z ?_; (case F => k_asm); (case N => k_asm); (case l => first | exact isL_keep (by k_asm) (by assumption) | exact isL9 (by k_asm) (by k_mem)); (case i => assumption); (case h => omega); (case z => omega)); intro D9y ws9y h9y F9y N9y l9y hI9y))) | (with_reducible ((with_reducible show wpAny _ _ (PySem.binaryOp PySem.Operator.FloorDiv (PySem.Value.int _ _) (PySem.Value.int _ _)) _ _ _); ((with_reducible refine floordiv_int ?kbe ?_ (Or.inl (PyProof.noPylong_small ?kbp))); (case kbe => omega); (case kbp => omega)))) | ((with_reducible show wpAny _ _ (PySem.eval (PySem.Expr.Call (PySem.Expr.Name _ _) _ _) _) _ _ _); (refine Call_ ?_)) | (with_reducible ((with_reducible show wpAny _ _ (PySem.call (PySem.Value.builtin "list.append") _) _ _ _); (k_dflt (refine' append_row (by k_asm) (by k_asm) ?hne ?hz ?_; (case hne => assumption); (case hz => omega)); intro h9y F9y N9y))) | (with_reducible ((with_reducible show wpAny _ _ (eval (Expr.Name _ _) (envOf _ _ _ _ _)) _ _ _); k_dflt (refine' ld ?k1 ?k2 ?_; (case k1 => k_asm); (case k2 => exact rfl); k_whole))) | (with_reducible ((with_reducible show wpAny _ _ (PySem.call (PySem.Value.builtin "abs") _) _ _ _); (refine abs_natAbs ?_; intro u9z k9z))) | walk1 | (dsimp only; walk1) | (leave1; (try dsimp only)) | fail "no step")
    all_goals
      (rename Fr _ _ _ _ => lF'); (with_unfolding_all refine' For_invVF lF' ?k1 ?k2 ?_; (case k1 => exact rfl); (case k2 => exact rfl); k_whole)
      repeat' ((fail_if_success (with_reducible show wpAny _ _ (PySem.pyIter _) _ _ _)); first | (with_reducible ((with_reducible show wpAny _ _ (subscriptTail _ _ (PySem.Value.ref _) (PySem.Value.ref _)) _ _ _); (k_dflt (refine' slice_up ?F ?N ?l ?i ?h ?z ?_; (case F => k_asm); (case N => k_asm); (case l => first | exact isL_keep (by k_asm) (by assumption) | exact isL9 (by k_asm) (by k_mem)); (case i => assumption); (case h => omega); (case z => omega)); intro D9y ws9y h9y F9y N9y l9y hI9y))) | (with_reducible ((with_reducible show wpAny _ _ (PySem.binaryOp PySem.Operator.FloorDiv (PySem.Value.int _ _) (PySem.Value.int _ _)) _ _ _); ((with_reducible refine floordiv_int ?kbe ?_ (Or.inl (PyProof.noPylong_small ?kbp))); (case kbe => omega); (case kbp => omega)))) | ((with_reducible show wpAny _ _ (PySem.eval (PySem.Expr.Call (PySem.Expr.Name _ _) _ _) _) _ _ _); (refine Call_ ?_)) | (with_reducible ((with_reducible show wpAny _ _ (PySem.call (PySem.Value.builtin "list.append") _) _ _ _); (k_dflt (refine' append_row (by k_asm) (by k_asm) ?hne ?hz ?_; (case hne => assumption); (case hz => omega)); intro h9y F9y N9y))) | (with_reducible ((with_reducible show wpAny _ _ (eval (Expr.Name _ _) (envOf _ _ _ _ _)) _ _ _); k_dflt (refine' ld ?k1 ?k2 ?_; (case k1 => k_asm); (case k2 => exact rfl); k_whole))) | (with_reducible ((with_reducible show wpAny _ _ (PySem.call (PySem.Value.builtin "abs") _) _ _ _); (refine abs_natAbs ?_; intro u9z k9z))) | walk1 | (dsimp only; walk1))
      refine' kst_range (fun c : RowSt × Int × Tok => rowLed row (((D, listOf ws.toArray 0) :: news) ++ own) c.1) (fun c => [(Str.ofString "left", .int c.2.1 c.2.2)]) (fun _ => True) [Str.ofString "left"] (fun pre2 c => IntsAre c.1.1 c.1.2.1 ∧ (∀ k ∈ c.1.2.1, 0 ≤ k ∧ k < 127) ∧ c.1.2.1.length ≤ 18 * pre.length + pre2.length ∧ 0 ≤ c.2.1) ((xs, ks, c), _, _) rfl (by assumption) (by rfl) (n := 18) (by rfl) (by k_asm) (by k_asm) trivial ?kH ?kP ?_ ?_
      case kH => (refine' List.forall_mem_cons.mpr ⟨?_, keys_nil⟩ <;> with_unfolding_all exact rfl)
      case kP => exact ⟨h4, h5, by dsimp only [List.length_nil]; omega, by dsimp only; omega⟩
      · rintro ⟨⟨xs2, ks2, c2⟩, lf, t2⟩ pre2 k t3 u2 h9 tk2 own2 hk2 hlt hown2 - ⟨g4, g5, g6, g7⟩ F N
        dsimp only at g4 g5 g6 g7
        dsimp only [kstB] at F
        have hne3 : ∀ p ∈ ((((D, listOf ws.toArray 0) :: news) ++ own) ++ own2 : Led), p.1 ≠ row := ne_app hne2 fun p hp => hown2 p hp row (.head _)
        have hlx := g4.length
        have N : News _ _ _ ((row, listOf xs2.toArray c2) :: ((((D, listOf ws.toArray 0) :: news) ++ own) ++ own2)) := N
        repeat' ((fail_if_success (with_reducible show wpAny _ _ (PySem.exec (PySem.Stmt.While _ _ _ _) _) _ _ _)); (fail_if_success (with_reducible show wpAny _ _ (PySem.exec (PySem.Stmt.For _ _ _ _ _) _) _ _ _)); (fail_if_success (with_reducible show wpAny _ _ (PySem.exec (PySem.Stmt.Assign _ (PySem.Expr.ListComp _ _ _ _) _) _) _ _ _)); (fail_if_success (with_reducible show wpAny _ _ (PySem.eval (PySem.Expr.ListComp _ _ _ _) _) _ _ _)); (fail_if_success (with_reducible show LCg.CompSrc _ _ _ _ _ _ _ _ _ _ _ _ _ _)); (fail_if_success (with_reducible show LCt.CompSrcT _ _ _ _ _ _ _ _ _ _ _ _ _ _ _)); (fail_if_success (with_reducible show LCg.CompEnd _ _ _ _ _ _ _ _ _ _ _ _ _ _)); (fail_if_success (with_reducible show KswEnd _ _ _ _ _ _ _ _ _ _ _ _)); (fail_if_success (with_reducible show UnrEnd _ _ _ _ _ _ _)); first | (k_unfold; (try dsimp only)) | (k_end; wrow_close) | (with_reducible ((with_reducible show wpAny _ _ (subscriptTail _ _ (PySem.Value.ref _) (PySem.Value.ref _)) _ _ _); (k_dflt (refine' slice_up ?F ?N ?l ?i ?h ?z ?_; (case F => k_asm); (case N => k_asm); (case l => first | exact isL_keep (by k_asm) (by assumption) | exact isL9 (by k_asm) (by k_mem)); (case i => assumption); (case h => omega); (case z => omega)); intro D9y ws9y h9y F9y N9y l9y hI9y))) | (with_reducible ((with_reducible show wpAny _ _ (PySem.binaryOp PySem.Operator.FloorDiv (PySem.Value.int _ _) (PySem.Value.int _ _)) _ _ _); ((with_reducible refine floordiv_int ?kbe ?_ (Or.inl (PyProof.noPylong_small ?kbp))); (case kbe => omega); (case kbp => omega)))) | ((with_reducible show wpAny _ _ (PySem.eval (PySem.Expr.Call (PySem.Expr.Name _ _) _ _) _) _ _ _); (refine Call_ ?_)) | (with_reducible ((with_reducible show wpAny _ _ (PySem.call (PySem.Value.builtin "list.append") _) _ _ _); (k_dflt (refine' append_row (by k_asm) (by k_asm) ?hne ?hz ?_; (case hne => assumption); (case hz => omega)); intro h9y F9y N9y))) | (with_reducible ((with_reducible show wpAny _ _ (eval (Expr.Name _ _) (envOf _ _ _ _ _)) _ _ _); k_dflt (refine' ld ?k1 ?k2 ?_; (case k1 => k_asm); (case k2 => exact rfl); k_whole))) | (with_reducible ((with_reducible show wpAny _ _ (PySem.call (PySem.Value.builtin "abs") _) _ _ _); (refine abs_natAbs ?_; intro u9z k9z))) | walk1 | (dsimp only; walk1) | (leave1; (try dsimp only)) | fail "no step")
        · refine kst_end (c := (xs2 ++ [Value.int (lf.fmod 127) (tk2 + 1)], ks2 ++ [lf.fmod 127], c2 + 1)) (by k_asm) (by k_asm) (List.forall_mem_cons.mpr ⟨.head _, fun p hp => .tail _ (List.mem_append_left _ (List.mem_append_left _ hp))⟩) (fun p hp => .tail _ (List.mem_append_left _ (List.mem_append_right _ hp))) rfl trivial keys_nil (by kst_same) ⟨IntsAre_snoc g4 _ _, RowAll_snoc g5 (Int.fmod_nonneg_of_pos _ (by decide)) (Int.fmod_lt_of_pos _ (by decide)), ?_⟩
          dsimp only
          rw [List.length_append, List.length_append, List.length_singleton, List.length_singleton]
          omega
        · refine' kst_end (c := ((xs2 ++ [Value.int (lf.fmod 127) (tk2 + 1)], ks2 ++ [lf.fmod 127], c2 + 1), lf.fdiv 127, _)) (by k_asm) (by k_asm) (List.forall_mem_cons.mpr ⟨.head _, fun p hp => .tail _ (List.mem_append_left _ hp)⟩) (fun p hp => .tail _ (List.mem_append_right _ hp)) rfl trivial ?kH (by kst_same) ⟨IntsAre_snoc g4 _ _, RowAll_snoc g5 (Int.fmod_nonneg_of_pos _ (by decide)) (Int.fmod_lt_of_pos _ (by decide)), ?_, ?_⟩
          case kH => (refine' List.forall_mem_cons.mpr ⟨?_, keys_nil⟩ <;> with_unfolding_all exact rfl)
          · dsimp only
            rw [List.length_append, List.length_append, List.length_singleton, List.length_singleton]
            omega
          · dsimp only
            rw [Int.fdiv_eq_ediv_of_nonneg _ (by decide)]
            omega
      · rintro ⟨⟨xs2, ks2, c2⟩, lf, t2⟩ u2 h9 tk2 - ⟨g4, g5, g6, g7⟩ F N
        dsimp only at g4 g5 g6 g7
        dsimp only [kstB] at F
        repeat' ((fail_if_success (with_reducible show wpAny _ _ (PySem.exec (PySem.Stmt.While _ _ _ _) _) _ _ _)); (fail_if_success (with_reducible show wpAny _ _ (PySem.exec (PySem.Stmt.For _ _ _ _ _) _) _ _ _)); (fail_if_success (with_reducible show wpAny _ _ (PySem.exec (PySem.Stmt.Assign _ (PySem.Expr.ListComp _ _ _ _) _) _) _ _ _)); (fail_if_success (with_reducible show wpAny _ _ (PySem.eval (PySem.Expr.ListComp _ _ _ _) _) _ _ _)); (fail_if_success (with_reducible show LCg.CompSrc _ _ _ _ _ _ _ _ _ _ _ _ _ _)); (fail_if_success (with_reducible show LCt.CompSrcT _ _ _ _ _ _ _ _ _ _ _ _ _ _ _)); (fail_if_success (with_reducible show LCg.CompEnd _ _ _ _ _ _ _ _ _ _ _ _ _ _)); (fail_if_success (with_reducible show KswEnd _ _ _ _ _ _ _ _ _ _ _ _)); (fail_if_success (with_reducible show UnrEnd _ _ _ _ _ _ _)); first | (k_unfold; (try dsimp only)) | (k_end; wrow_close) | (with_reducible ((with_reducible show wpAny _ _ (subscriptTail _ _ (PySem.Value.ref _) (PySem.Value.ref _)) _ _ _); (k_dflt (refine' slice_up ?F ?N ?l ?i ?h ?z ?_; (case F => k_asm); (case N => k_asm); (case l => first | exact isL_keep (by k_asm) (by assumption) | exact isL9 (by k_asm) (by k_mem)); (case i => assumption); (case h => omega); (case z => omega)); intro D9y ws9y h9y F9y N9y l9y hI9y))) | (with_reducible ((with_reducible show wpAny _ _ (PySem.binaryOp PySem.Operator.FloorDiv (PySem.Value.int _ _) (PySem.Value.int _ _)) _ _ _); ((with_reducible refine floordiv_int ?kbe ?_ (Or.inl (PyProof.noPylong_small ?kbp))); (case kbe => omega); (case kbp => omega)))) | ((with_reducible show wpAny _ _ (PySem.eval (PySem.Expr.Call (PySem.Expr.Name _ _) _ _) _) _ _ _); (refine Call_ ?_)) | (with_reducible ((with_reducible show wpAny _ _ (PySem.call (PySem.Value.builtin "list.append") _) _ _ _); (k_dflt (refine' append_row (by k_asm) (by k_asm) ?hne ?hz ?_; (case hne => assumption); (case hz => omega)); intro h9y F9y N9y))) | (with_reducible ((with_reducible show wpAny _ _ (eval (Expr.Name _ _) (envOf _ _ _ _ _)) _ _ _); k_dflt (refine' ld ?k1 ?k2 ?_; (case k1 => k_asm); (case k2 => exact rfl); k_whole))) | (with_reducible ((with_reducible show wpAny _ _ (PySem.call (PySem.Value.builtin "abs") _) _ _ _); (refine abs_natAbs ?_; intro u9z k9z))) | walk1 | (dsimp only; walk1) | (leave1; (try dsimp only)) | fail "no step")
  · rintro ⟨xs, ks, c⟩ u h tk - ⟨h4, h5, h6⟩ F N
    dsimp only at h4 h5 h6
    dsimp only [kstB] at F
    have hkl : ks.length ≤ 432 := by rw [List.length_take] at h6; omega
    repeat' ((fail_if_success (with_reducible show wpAny _ _ (PySem.exec (PySem.Stmt.While _ _ _ _) _) _ _ _)); (fail_if_success (with_reducible show wpAny _ _ (PySem.exec (PySem.Stmt.For _ _ _ _ _) _) _ _ _)); (fail_if_success (with_reducible show wpAny _ _ (PySem.exec (PySem.Stmt.Assign _ (PySem.Expr.ListComp _ _ _ _) _) _) _ _ _)); (fail_if_success (with_reducible show wpAny _ _ (PySem.eval (PySem.Expr.ListComp _ _ _ _) _) _ _ _)); (fail_if_success (with_reducible show LCg.CompSrc _ _ _ _ _ _ _ _ _ _ _ _ _ _)); (fail_if_success (with_reducible show LCt.CompSrcT _ _ _ _ _ _ _ _ _ _ _ _ _ _ _)); (fail_if_success (with_reducible show LCg.CompEnd _ _ _ _ _ _ _ _ _ _ _ _ _ _)); (fail_if_success (with_reducible show KswEnd _ _ _ _ _ _ _ _ _ _ _ _)); (fail_if_success (with_reducible show UnrEnd _ _ _ _ _ _ _)); first | (k_unfold; (try dsimp only)) | (k_end; wrow_close) | (with_reducible ((with_reducible show wpAny _ _ (subscriptTail _ _ (PySem.Value.ref _) (PySem.Value.ref _)) _ _ _); (k_dflt (refine' slice_up ?F ?N ?l ?i ?h ?z ?_; (case F => k_asm); (case N => k_asm); (case l => first | exact isL_keep (by k_asm) (by assumption) | exact isL9 (by k_asm) (by k_mem)); (case i => assumption); (case h => omega); (case z => omega)); intro D9y ws9y h9y F9y N9y l9y hI9y))) | (with_reducible ((with_reducible show wpAny _ _ (PySem.binaryOp PySem.Operator.FloorDiv (PySem.Value.int _ _) (PySem.Value.int _ _)) _ _ _); ((with_reducible refine floordiv_int ?kbe ?_ (Or.inl (PyProof.noPylong_small ?kbp))); (case kbe => omega); (case kbp => omega)))) | ((with_reducible show wpAny _ _ (PySem.eval (PySem.Expr.Call (PySem.Expr.Name _ _) _ _) _) _ _ _); (refine Call_ ?_)) | (with_reducible ((with_reducible show wpAny _ _ (PySem.call (PySem.Value.builtin "list.append") _) _ _ _); (k_dflt (refine' append_row (by k_asm) (by k_asm) ?hne ?hz ?_; (case hne => assumption); (case hz => omega)); intro h9y F9y N9y))) | (with_reducible ((with_reducible show wpAny _ _ (eval (Expr.Name _ _) (envOf _ _ _ _ _)) _ _ _); k_dflt (refine' ld ?k1 ?k2 ?_; (case k1 => k_asm); (case k2 => exact rfl); k_whole))) | (with_reducible ((with_reducible show wpAny _ _ (PySem.call (PySem.Value.builtin "abs") _) _ _ _); (refine abs_natAbs ?_; intro u9z k9z))) | walk1 | (dsimp only; walk1) | (leave1; (try dsimp only)) | fail "no step")
    exact hret _ _ _ _ _ _ (by k_asm) (cb_drop (by k_asm) (List.forall_mem_cons.mpr ⟨.head _, fun p hp => .tail _ (.tail _ (.tail _ hp))⟩)) (fun p hp => (by assumption : ∀ q ∈ rowLed row _ _, q.1 < _) p (.tail _ (.tail _ hp))) (by assumption) ⟨fun k hk => h5 k (List.mem_of_mem_take hk), by rw [List.length_take]; exact Nat.min_le_left _ _⟩

example : True := by (w_top off; exact True.intro)
/-- the greatest of some ranks -/
def top (is : List Nat) : Nat := is.foldl max 0
theorem strs_get {vs : List Value} {is : List Nat} (h : StrsAre vs (is.map rn)) {i : Nat} {v : Value} (hv : vs[i]? = some v) : ∃ k t, is[i]? = some k ∧ v = .str (rn k) t := by
  induction is generalizing vs i with
  | nil => cases h; cases hv
  | cons a r ih =>
    cases h with
    | cons y t h' =>
    cases i with
    | zero => cases hv; exact ⟨a, t, rfl, rfl⟩
    | succ i => exact ih h' (i := i) hv
theorem top_step {is : List Nat} {i k : Nat} (h : is[i]? = some k) : top (is.take (i + 1)) = max (top (is.take i)) k := by
  unfold top
  rw [List.take_add_one, h, List.foldl_append]
  rfl
theorem common_kind (w mean mg mb) (l : Addr) (is : List Nat) (vs : List Value) (c : Nat) (hs : StrsAre vs (is.map rn)) (h7 : ∀ i ∈ is, i < 7) : SpecV w mean mg mb 339 21 190 [.ref l] (fun news => (l, listOf vs.toArray c) ∈ news) (fun r => ∃ t, r = .str (rn (top is)) t) := by
  unfold SpecV
  k_fill
  intro dp un gd cn cs a ccd cl outer A₀ base h₀ L m news s Q E B F X N T hk hpre hd hu hret
  refine wpAny_call ?_
  k_dflt cell_enter
  refine abs_A ?_
  intro A9a
  repeat' ((fail_if_success (with_reducible show wpAny _ _ (PySem.exec (PySem.Stmt.While _ _ _ _) _) _ _ _)); (fail_if_success (with_reducible show wpAny _ _ (PySem.exec (PySem.Stmt.For _ _ _ _ _) _) _ _ _)); (fail_if_success (with_reducible show wpAny _ _ (PySem.exec (PySem.Stmt.Assign _ (PySem.Expr.ListComp _ _ _ _) _) _) _ _ _)); (fail_if_success (with_reducible show wpAny _ _ (PySem.eval (PySem.Expr.ListComp _ _ _ _) _) _ _ _)); (fail_if_success (with_reducible show LCg.CompSrc _ _ _ _ _ _ _ _ _ _ _ _ _ _)); (fail_if_success (with_reducible show LCt.CompSrcT _ _ _ _ _ _ _ _ _ _ _ _ _ _ _)); (fail_if_success (with_reducible show LCg.CompEnd _ _ _ _ _ _ _ _ _ _ _ _ _ _)); (fail_if_success (with_reducible show KswEnd _ _ _ _ _ _ _ _ _ _ _ _)); (fail_if_success (with_reducible show UnrEnd _ _ _ _ _ _ _)); first | (k_unfold; (try dsimp only)) | (k_end; wrow_close) | ((with_reducible show wpAny _ _ (PySem.call (Value.ref _) _) _ _ _); first | (with_reducible ((with_reducible show wpAny _ _ (PySem.call (Value.ref 332) _) _ _ _); k_dflt (refine' useV (kind_order _ _ _ _ _ ?kq _) ?k1 ?k2 ?k3 ?k4 ?k5 ?kK ?kp ?kd ?ku ?_; (case k1 => k_asm); (case k2 => k_asm); (case k3 => k_asm); (case k4 => k_asm); (case k5 => k_asm); (case kK => first | exact rfl | assumption); (case kp => trivial); (case kd => ktr_room); (case ku => ktr_units); (case kq => assumption); intro r9z h9z tk9z F9z N9z hr9z; obtain ⟨t9z, hr9z⟩ := hr9z; subst hr9z; (try dsimp only); (try k_sweep))))) | ((with_reducible show wpAny _ _ (PySem.eval (PySem.Expr.Call (PySem.Expr.Name _ _) _ _) _) _ _ _); (refine Call_ ?_)) | (with_reducible ((with_reducible show wpAny _ _ (eval (Expr.Name _ _) (envOf _ _ _ _ _)) _ _ _); k_dflt (refine' ld ?k1 ?k2 ?_; (case k1 => k_asm); (case k2 => exact rfl); k_whole))) | (with_reducible ((with_reducible show wpAny _ _ (subscriptTail _ _ (Value.ref _) (Value.int _ _)) _ _ _); k_dflt (refine rk_item (by k_asm) (by k_mem) rkAre (by omega) (by omega) ?_); intro t9z)) | (with_reducible ((with_reducible show LstPost _ _ _ _ _ _ _ _ _ _ _ _); (dsimp only [LstPost]))) | ((with_reducible show wpAny _ _ (PySem.execs (List.cons _ _) _) _ _ _); walk1; (try (refine gen_s ?_; intro tkG; (try dsimp only); (try k_fold)))) | (walk1; (try dsimp only)) | (dsimp only; walk1) | (leave1; (try dsimp only)) | fail "no step")
  (rename Fr _ _ _ _ => lF'); (with_unfolding_all refine' For_invVF lF' ?k1 ?k2 ?_; (case k1 => exact rfl); (case k2 => exact rfl); k_whole)
  (first | ((with_reducible show wpAny _ _ (PySem.call (Value.ref _) _) _ _ _); first | (with_reducible ((with_reducible show wpAny _ _ (PySem.call (Value.ref 332) _) _ _ _); k_dflt (refine' useV (kind_order _ _ _ _ _ ?kq _) ?k1 ?k2 ?k3 ?k4 ?k5 ?kK ?kp ?kd ?ku ?_; (case k1 => k_asm); (case k2 => k_asm); (case k3 => k_asm); (case k4 => k_asm); (case k5 => k_asm); (case kK => first | exact rfl | assumption); (case kp => trivial); (case kd => ktr_room); (case ku => ktr_units); (case kq => assumption); intro r9z h9z tk9z F9z N9z hr9z; obtain ⟨t9z, hr9z⟩ := hr9z; subst hr9z; (try dsimp only); (try k_sweep))))) | ((with_reducible show wpAny _ _ (PySem.eval (PySem.Expr.Call (PySem.Expr.Name _ _) _ _) _) _ _ _); (refine Call_ ?_)) | (with_reducible ((with_reducible show wpAny _ _ (eval (Expr.Name _ _) (envOf _ _ _ _ _)) _ _ _); k_dflt (refine' ld ?k1 ?k2 ?_; (case k1 => k_asm); (case k2 => exact rfl); k_whole))) | (with_reducible ((with_reducible show wpAny _ _ (subscriptTail _ _ (Value.ref _) (Value.int _ _)) _ _ _); k_dflt (refine rk_item (by k_asm) (by k_mem) rkAre (by omega) (by omega) ?_); intro t9z)) | (with_reducible ((with_reducible show LstPost _ _ _ _ _ _ _ _ _ _ _ _); (dsimp only [LstPost]))) | walk1)
  have hlen : vs.length = is.length := by rw [hs.length, List.length_map]
  refine' lst_inv (fun c : Nat × Tok => [(Str.ofString "most", .int c.1 c.2)]) [Str.ofString "most"] (fun i c => c.1 = top (is.take i) ∧ c.1 < 7) (0, _) rfl (by k_asm) (by k_asm) (.tail _ hpre) ?kH ?kP ?_ ?_
  case kP => exact ⟨rfl, Nat.zero_lt_succ _⟩
  case kH => (refine' List.forall_mem_cons.mpr ⟨?_, keys_nil⟩ <;> with_unfolding_all exact rfl)
  · rintro i v ⟨m, t3⟩ u h tk nw I it hv ⟨h1, h1'⟩ hg hI hit F N
    obtain ⟨k, t4, hk1, rfl⟩ := strs_get hs hv
    have hk7 := h7 k (List.mem_of_getElem? hk1)
    dsimp only at h1 h1'
    dsimp only [kstB] at F
    repeat' ((fail_if_success (with_reducible show wpAny _ _ (PySem.exec (PySem.Stmt.While _ _ _ _) _) _ _ _)); (fail_if_success (with_reducible show wpAny _ _ (PySem.exec (PySem.Stmt.For _ _ _ _ _) _) _ _ _)); (fail_if_success (with_reducible show wpAny _ _ (PySem.exec (PySem.Stmt.Assign _ (PySem.Expr.ListComp _ _ _ _) _) _) _ _ _)); (fail_if_success (with_reducible show wpAny _ _ (PySem.eval (PySem.Expr.ListComp _ _ _ _) _) _ _ _)); (fail_if_success (with_reducible show LCg.CompSrc _ _ _ _ _ _ _ _ _ _ _ _ _ _)); (fail_if_success (with_reducible show LCt.CompSrcT _ _ _ _ _ _ _ _ _ _ _ _ _ _ _)); (fail_if_success (with_reducible show LCg.CompEnd _ _ _ _ _ _ _ _ _ _ _ _ _ _)); (fail_if_success (with_reducible show KswEnd _ _ _ _ _ _ _ _ _ _ _ _)); (fail_if_success (with_reducible show UnrEnd _ _ _ _ _ _ _)); first | (k_unfold; (try dsimp only)) | (k_end; wrow_close) | ((with_reducible show wpAny _ _ (PySem.call (Value.ref _) _) _ _ _); first | (with_reducible ((with_reducible show wpAny _ _ (PySem.call (Value.ref 332) _) _ _ _); k_dflt (refine' useV (kind_order _ _ _ _ _ ?kq _) ?k1 ?k2 ?k3 ?k4 ?k5 ?kK ?kp ?kd ?ku ?_; (case k1 => k_asm); (case k2 => k_asm); (case k3 => k_asm); (case k4 => k_asm); (case k5 => k_asm); (case kK => first | exact rfl | assumption); (case kp => trivial); (case kd => ktr_room); (case ku => ktr_units); (case kq => assumption); intro r9z h9z tk9z F9z N9z hr9z; obtain ⟨t9z, hr9z⟩ := hr9z; subst hr9z; (try dsimp only); (try k_sweep))))) | ((with_reducible show wpAny _ _ (PySem.eval (PySem.Expr.Call (PySem.Expr.Name _ _) _ _) _) _ _ _); (refine Call_ ?_)) | (with_reducible ((with_reducible show wpAny _ _ (eval (Expr.Name _ _) (envOf _ _ _ _ _)) _ _ _); k_dflt (refine' ld ?k1 ?k2 ?_; (case k1 => k_asm); (case k2 => exact rfl); k_whole))) | (with_reducible ((with_reducible show wpAny _ _ (subscriptTail _ _ (Value.ref _) (Value.int _ _)) _ _ _); k_dflt (refine rk_item (by k_asm) (by k_mem) rkAre (by omega) (by omega) ?_); intro t9z)) | (with_reducible ((with_reducible show LstPost _ _ _ _ _ _ _ _ _ _ _ _); (dsimp only [LstPost]))) | ((with_reducible show wpAny _ _ (PySem.execs (List.cons _ _) _) _ _ _); walk1; (try (refine gen_s ?_; intro tkG; (try dsimp only); (try k_fold)))) | (walk1; (try dsimp only)) | (dsimp only; walk1) | (leave1; (try dsimp only)) | fail "no step")
    refine' LstEnd.intro (max m k, _) (by k_asm) (by k_asm) (Grew.refl _) ?hk1 (by kst_same) ⟨?h5, ?h6⟩
    case hk1 =>
      refine' List.forall_mem_cons.mpr ⟨?_, keys_nil⟩
      show some (Value.int (if (k : Int) > m then (k : Int) else m) _) = some (Value.int ((max m k : Nat) : Int) _)
      rw [show ((max m k : Nat) : Int) = if (k : Int) > m then (k : Int) else m by split <;> omega]
    case h5 => show max m k = _; rw [top_step hk1, h1]
    case h6 => show max m k < 7; omega
  · rintro ⟨m, t3⟩ u h tk nw ⟨h1, h1'⟩ hg F N
    dsimp only at h1 h1'
    dsimp only [kstB] at F
    have hD := hg.sub _ (.head _)
    repeat' ((fail_if_success (with_reducible show wpAny _ _ (PySem.exec (PySem.Stmt.While _ _ _ _) _) _ _ _)); (fail_if_success (with_reducible show wpAny _ _ (PySem.exec (PySem.Stmt.For _ _ _ _ _) _) _ _ _)); (fail_if_success (with_reducible show wpAny _ _ (PySem.exec (PySem.Stmt.Assign _ (PySem.Expr.ListComp _ _ _ _) _) _) _ _ _)); (fail_if_success (with_reducible show wpAny _ _ (PySem.eval (PySem.Expr.ListComp _ _ _ _) _) _ _ _)); (fail_if_success (with_reducible show LCg.CompSrc _ _ _ _ _ _ _ _ _ _ _ _ _ _)); (fail_if_success (with_reducible show LCt.CompSrcT _ _ _ _ _ _ _ _ _ _ _ _ _ _ _)); (fail_if_success (with_reducible show LCg.CompEnd _ _ _ _ _ _ _ _ _ _ _ _ _ _)); (fail_if_success (with_reducible show KswEnd _ _ _ _ _ _ _ _ _ _ _ _)); (fail_if_success (with_reducible show UnrEnd _ _ _ _ _ _ _)); first | (k_unfold; (try dsimp only)) | (k_end; wrow_close) | ((with_reducible show wpAny _ _ (PySem.call (Value.ref _) _) _ _ _); first | (with_reducible ((with_reducible show wpAny _ _ (PySem.call (Value.ref 332) _) _ _ _); k_dflt (refine' useV (kind_order _ _ _ _ _ ?kq _) ?k1 ?k2 ?k3 ?k4 ?k5 ?kK ?kp ?kd ?ku ?_; (case k1 => k_asm); (case k2 => k_asm); (case k3 => k_asm); (case k4 => k_asm); (case k5 => k_asm); (case kK => first | exact rfl | assumption); (case kp => trivial); (case kd => ktr_room); (case ku => ktr_units); (case kq => assumption); intro r9z h9z tk9z F9z N9z hr9z; obtain ⟨t9z, hr9z⟩ := hr9z; subst hr9z; (try dsimp only); (try k_sweep))))) | ((with_reducible show wpAny _ _ (PySem.eval (PySem.Expr.Call (PySem.Expr.Name _ _) _ _) _) _ _ _); (refine Call_ ?_)) | (with_reducible ((with_reducible show wpAny _ _ (eval (Expr.Name _ _) (envOf _ _ _ _ _)) _ _ _); k_dflt (refine' ld ?k1 ?k2 ?_; (case k1 => k_asm); (case k2 => exact rfl); k_whole))) | (with_reducible ((with_reducible show wpAny _ _ (subscriptTail _ _ (Value.ref _) (Value.int _ _)) _ _ _); k_dflt (refine rk_item (by k_asm) (by k_mem) rkAre (by omega) (by omega) ?_); intro t9z)) | (with_reducible ((with_reducible show LstPost _ _ _ _ _ _ _ _ _ _ _ _); (dsimp only [LstPost]))) | ((with_reducible show wpAny _ _ (PySem.execs (List.cons _ _) _) _ _ _); walk1; (try (refine gen_s ?_; intro tkG; (try dsimp only); (try k_fold)))) | (walk1; (try dsimp only)) | (dsimp only; walk1) | (leave1; (try dsimp only)) | fail "no step")
    rw [hlen, List.take_length] at h1
    subst h1
    exact hret _ _ _ (by k_asm) (cb_drop (by k_asm) fun p hp => hg.sub _ (.tail _ hp)) ⟨_, by rw [Int.toNat_natCast]⟩

example : True := by (w_top off; exact True.intro)
theorem getD_left {A B : List Nat} {k : Nat} (h : k < A.length) : (A ++ B).getD k 0 = A.getD k 0 := by
  rw [List.getD_eq_getElem?_getD, List.getElem?_append_left h, List.getD_eq_getElem?_getD]
theorem run_dot {A B : List Nat} {c : Nat} (hA : ∀ c ∈ A, 48 ≤ c ∧ c ≤ 57) (h2 : ∀ k, 0 ≤ k → k < c → 48 ≤ (A ++ 46 :: B).getD k 0) (h3 : c = (A ++ 46 :: B).length ∨ (A ++ 46 :: B).getD c 0 = 46) : c = A.length := by
  have h4 : ¬ A.length < c := fun h => by
    have := h2 A.length (by omega) h
    rw [List.getD_eq_getElem?_getD, List.getElem?_append_right (Nat.le_refl _)] at this
    simp at this
  rcases Nat.lt_or_ge c A.length with h | h
  · rcases h3 with h3 | h3
    · rw [h3, List.length_append] at h; omega
    · rw [getD_left h] at h3
      have := (hA _ (getD_mem h)).1
      omega
  · omega
theorem run_end {l : List Nat} {i c : Nat} (hB : ∀ k, i ≤ k → k < l.length → 48 ≤ l.getD k 0) (h1 : i ≤ c) (h2 : c ≤ l.length) (h3 : c = l.length ∨ l.getD c 0 = 46) : c = l.length := by
  rcases h3 with h | h
  · exact h
  · rcases Nat.lt_or_ge c l.length with q | q
    · have := hB c h1 q; omega
    · omega
theorem tail_digits {A B : List Nat} (hB : ∀ c ∈ B, 48 ≤ c ∧ c ≤ 57) : ∀ k, A.length + 1 ≤ k → k < (A ++ 46 :: B).length → 48 ≤ (A ++ 46 :: B).getD k 0 := by
  intro k h1 h2
  rw [List.length_append, List.length_cons] at h2
  have e : (A ++ 46 :: B).getD k 0 = B.getD (k - A.length - 1) 0 := by
    rw [List.getD_eq_getElem?_getD, List.getElem?_append_right (by omega), show k - A.length = (k - A.length - 1) + 1 by omega, List.getElem?_cons_succ, List.getD_eq_getElem?_getD]
    congr 1
  rw [e]
  exact (hB _ (getD_mem (by omega))).1
theorem dot_signs {A B : List Nat} (hA : ∀ c ∈ A, 48 ≤ c ∧ c ≤ 57) (hB : ∀ c ∈ B, 48 ≤ c ∧ c ≤ 57) : ∀ c ∈ A ++ 46 :: B, c = 46 ∨ (48 ≤ c ∧ c ≤ 57) := by
  intro c hc
  rcases List.mem_append.mp hc with h | h
  · exact .inr (hA c h)
  · rcases List.mem_cons.mp h with h | h
    · exact .inl h
    · exact .inr (hB c h)
theorem eq_ne {prog : Program} {w : World} {A : Around} {E : Value → Shared → Prop} {s : Shared} {Q : Value → Shared → Prop} {a b : List Nat} {x : Str} {t u : Tok} (hx : x = sO b) (hne : ¬ a = b) (h : Q (.bool false) s) :
    wpAny (model prog w) A (compareOp .Eq (.str (sO a) t) (.str x u)) Q E s := eq_lit hx (by rw [decide_eq_false hne]; exact h)
theorem eq_yes {prog : Program} {w : World} {A : Around} {E : Value → Shared → Prop} {s : Shared} {Q : Value → Shared → Prop} {a b : List Nat} {x : Str} {t u : Tok} (hx : x = sO b) (he : a = b) (h : Q (.bool true) s) :
    wpAny (model prog w) A (compareOp .Eq (.str (sO a) t) (.str x u)) Q E s := eq_lit hx (by rw [decide_eq_true he]; exact h)
section
variable {prog : Program} {w : World} {A : Around} {E : Value → Shared → Prop} {s : Shared} {value slice : Expr} {l r : List Nat} {t : Tok} {Q : Value → Shared → Prop} {h₀ : Heap} {L : Addr} {m : Str → Option Value} {news : Led}
theorem cutto_ss {i j : Int} {ui uj : Tok} (hF : Fr h₀ L s.heap m) (hN : News h₀ L s.heap news) (h0 : 0 ≤ i) (h1 : 0 ≤ j) (hz : l.length ≤ 10000) (he : (l.drop i.toNat).take (j.toNat - i.toNat) = r)
    (h : ∀ h' t' k, Fr h₀ L h' m → News h₀ L h' news → Q (.str (sO r) t') { s with heap := h', toks := k })
    (hs : subscripted slice false (.str (sO l) t) (.ref s.heap.objs.size) = operate [.ref s.heap.objs.size, .str (sO l) t] (getItem (.str (sO l) t) (.ref s.heap.objs.size)) := by with_unfolding_all rfl)
    (ht : ∀ r, letTemporaryGo value (.str (sO l) t) r = pure () := by intro _; with_unfolding_all rfl) :
    wpAny (model prog w) A (subscriptTail value slice (.str (sO l) t) (.ref s.heap.objs.size)) Q E { s with heap := s.heap.push { cls := .type "slice", data := .fields #[.int i ui, .int j uj, .none] } } := by
  subst he
  exact cut_ss hF hN h0 h1 hz h hs ht
theorem cutto_sn {i : Int} {ui : Tok} (hF : Fr h₀ L s.heap m) (hN : News h₀ L s.heap news) (h0 : 0 ≤ i) (hz : l.length ≤ 10000) (he : l.drop i.toNat = r)
    (h : ∀ h' t' k, Fr h₀ L h' m → News h₀ L h' news → Q (.str (sO r) t') { s with heap := h', toks := k })
    (hs : subscripted slice false (.str (sO l) t) (.ref s.heap.objs.size) = operate [.ref s.heap.objs.size, .str (sO l) t] (getItem (.str (sO l) t) (.ref s.heap.objs.size)) := by with_unfolding_all rfl)
    (ht : ∀ r, letTemporaryGo value (.str (sO l) t) r = pure () := by intro _; with_unfolding_all rfl) :
    wpAny (model prog w) A (subscriptTail value slice (.str (sO l) t) (.ref s.heap.objs.size)) Q E { s with heap := s.heap.push { cls := .type "slice", data := .fields #[.int i ui, .none, .none] } } := by
  subst he
  exact cut_sn hF hN h0 hz h hs ht
theorem cutto_ns {j : Int} {uj : Tok} (hF : Fr h₀ L s.heap m) (hN : News h₀ L s.heap news) (h1 : 0 ≤ j) (hz : l.length ≤ 10000) (he : l.take j.toNat = r)
    (h : ∀ h' t' k, Fr h₀ L h' m → News h₀ L h' news → Q (.str (sO r) t') { s with heap := h', toks := k })
    (hs : subscripted slice false (.str (sO l) t) (.ref s.heap.objs.size) = operate [.ref s.heap.objs.size, .str (sO l) t] (getItem (.str (sO l) t) (.ref s.heap.objs.size)) := by with_unfolding_all rfl)
    (ht : ∀ r, letTemporaryGo value (.str (sO l) t) r = pure () := by intro _; with_unfolding_all rfl) :
    wpAny (model prog w) A (subscriptTail value slice (.str (sO l) t) (.ref s.heap.objs.size)) Q E { s with heap := s.heap.push { cls := .type "slice", data := .fields #[.none, .int j uj, .none] } } := by
  subst he
  exact cut_ns hF hN h1 hz h hs ht
end

theorem SpecV.post {w mean mg mb f dpn unn vs Pre P P'} (h : SpecV w mean mg mb f dpn unn vs Pre P) (hp : ∀ r, P r → P' r) : SpecV w mean mg mb f dpn unn vs Pre P' := by
  intro dp un gd cn cs a ccd cl outer A₀ base h₀ L m news s Q E B F X N T hk hpre hd hu hret
  exact h dp un gd cn cs a ccd cl outer A₀ base h₀ L m news s Q E B F X N T hk hpre hd hu fun r h' tk' F' N' p => hret r h' tk' F' N' (hp r p)
theorem run_a (w mean mg mb) (ls rs : List Nat) (t1 t2 t3 : Tok) (hA : ∀ c ∈ ls, 48 ≤ c ∧ c ≤ 57) (hB : ∀ c ∈ rs, 48 ≤ c ∧ c ≤ 57) (hz : ls.length + rs.length ≤ 8) :
    SpecV w mean mg mb 240 20 160 [.str (sO (ls ++ 46 :: rs)) t1, .int 0 t2, .str (Str.ofString "0123456789") t3] (fun _ => True) (fun r => ∃ t, r = .int ls.length t) :=
  SpecV.post (digit_run_spec w mean mg mb _ 0 t1 t2 t3 (dot_signs hA hB) (Nat.zero_le _) (by simp; omega)) fun r ⟨c, t, e, _, _, h3, h4⟩ => ⟨t, by rw [e, run_dot hA h3 h4]⟩
theorem run_b (w mean mg mb) (ls rs : List Nat) (t1 t2 t3 : Tok) (hA : ∀ c ∈ ls, 48 ≤ c ∧ c ≤ 57) (hB : ∀ c ∈ rs, 48 ≤ c ∧ c ≤ 57) (hz : ls.length + rs.length ≤ 8) :
    SpecV w mean mg mb 240 20 160 [.str (sO (ls ++ 46 :: rs)) t1, .int ((ls.length : Int) + 1) t2, .str (Str.ofString "0123456789") t3] (fun _ => True) (fun r => ∃ t, r = .int ((ls.length + 1 + rs.length : Nat) : Int) t) :=
  SpecV.post (digit_run_spec w mean mg mb _ (ls.length + 1) t1 t2 t3 (dot_signs hA hB) (by simp) (by simp; omega)) fun r ⟨c, t, e, h1, h2, _, h4⟩ => ⟨t, by
    have e' := run_end (tail_digits hB) h1 h2 h4
    rw [e, e']; congr 1; simp; omega⟩
theorem run_c (w mean mg mb) (ls : List Nat) (t1 t2 t3 : Tok) (hA : ∀ c ∈ ls, 48 ≤ c ∧ c ≤ 57) (hz : ls.length ≤ 8) :
    SpecV w mean mg mb 240 20 160 [.str (sO ls) t1, .int 0 t2, .str (Str.ofString "0123456789") t3] (fun _ => True) (fun r => ∃ t, r = .int ls.length t) :=
  SpecV.post (digit_run_spec w mean mg mb _ 0 t1 t2 t3 (fun c hc => .inr (hA c hc)) (Nat.zero_le _) (by omega)) fun r ⟨c, t, e, h1, h2, _, h4⟩ => ⟨t, by
    rw [e, run_end (fun k _ hk => (hA _ (getD_mem hk)).1) h1 h2 h4]⟩
theorem make_fr (w mean mg mb) (n n' d' g : Int) (k : Nat) (t1 t2 : Tok) (hg : 0 < g) (hn : n = n' * g) (hdv : (10 : Int) ^ k = d' * g) (hc : Int.gcd n' d' = 1) (hk : k ≤ 7) : SpecO w mean mg mb 94 21 180 [.int n t1, .int (1 * 10 ^ Int.toNat (k : Int)) t2] (fun _ => True)
    (fun r news nw => ∃ D t1 t2 c, (∀ p ∈ news, p.1 < D) ∧ r = .ref D ∧ nw = (D, tupO [.int n' t1, .int d' t2] c) :: news) := by
  have hp : (10 : Int) ^ k ≤ 10 ^ 7 := (by decide : ∀ i, i < 8 → (10 : Int) ^ i ≤ 10 ^ 7) k (Nat.lt_succ_of_le hk)
  refine make_spec w mean mg mb _ _ n' d' g t1 t2 hg hn (by rw [Int.one_mul, Int.toNat_natCast]; exact hdv) hc ?_ ?_
  · rw [Int.one_mul, Int.toNat_natCast]; exact Int.pow_pos (by decide)
  · rw [Int.one_mul, Int.toNat_natCast]; omega
theorem make_in (w mean mg mb) (n : Int) (t1 t2 : Tok) : SpecO w mean mg mb 94 21 180 [.int n t1, .int (1 * 10 ^ Int.toNat 0) t2] (fun _ => True)
    (fun r news nw => ∃ D t1 t2 c, (∀ p ∈ news, p.1 < D) ∧ r = .ref D ∧ nw = (D, tupO [.int n t1, .int 1 t2] c) :: news) :=
  make_spec w mean mg mb _ _ n 1 1 t1 t2 (by decide) (by simp) rfl (by simp) (by decide) (by decide)
/-- a new tuple, or the text's own ZERO -/
def FrzNew (news nw : Led) (n d : Int) (D : Addr) : Prop := (∃ t1 t2 c, (D, tupO [.int n t1, .int d t2] c) ∈ nw ∧ ∀ q ∈ news, q.1 ≠ D) ∨ (D = 80 ∧ n = 0 ∧ d = 1)
theorem FrzNew.it {w : World} {news nw : Led} {n d : Int} {D : Addr} (h : FrzNew news nw n d D) : ItIn w nw (.frz n d) (.ref D) := ⟨D, rfl, h.imp (fun ⟨t1, t2, c, h, _⟩ => ⟨t1, t2, c, h⟩) id⟩
theorem FrzNew.add {w : World} {news nw : Led} {n d : Int} {D : Addr} (g : Grew news nw) (h : FrzNew news nw n d D) : ∃ add, nw = add ++ news ∧ Fresh add news ∧ ItIn w add (.frz n d) (.ref D) := by
  obtain ⟨add, rfl, hf⟩ := g
  refine ⟨add, rfl, hf, D, rfl, ?_⟩
  rcases h with ⟨t1, t2, c, hm, hD⟩ | h
  · rcases List.mem_append.mp hm with hm | hm
    · exact .inl ⟨t1, t2, c, hm⟩
    · exact absurd rfl (hD _ hm)
  · exact .inr h
/-- what unsigned_number and parse_number hand back -/
def NumRes (n d : Int) (r : Value) (news nw : Led) : Prop := Grew news nw ∧ ∃ R D c, r = .ref R ∧ (R, tupO [.bool true, .ref D] c) ∈ nw ∧ FrzNew news nw n d D
theorem NumRes.of {n d n' d' : Int} {R D : Addr} {c c' : Nat} {t1 t2 : Tok} {news nw : Led} (g : Grew news nw) (h1 : (R, tupO [.bool true, .ref D] c) ∈ nw) (h2 : (D, tupO [.int n' t1, .int d' t2] c') ∈ nw) (e1 : n' = n) (e2 : d' = d) (hD : ∀ p ∈ news, p.1 < D) : NumRes n d (.ref R) news nw := by
  subst e1 e2
  exact ⟨g, R, D, c, rfl, h1, .inl ⟨t1, t2, c', h2, fun q hq => Nat.ne_of_lt (hD q hq)⟩⟩
theorem NumRes.zero {R : Addr} {c : Nat} {news nw : Led} (g : Grew news nw) (h1 : (R, tupO [.bool true, .ref 80] c) ∈ nw) : NumRes 0 1 (.ref R) news nw :=
  ⟨g, R, 80, c, rfl, h1, .inr ⟨rfl, rfl, rfl⟩⟩
theorem unsigned_dot (w mean mg mb) (ls rs : List Nat) (n' d' g : Int) (t1 : Tok) (hA : ∀ c ∈ ls, 48 ≤ c ∧ c ≤ 57) (hB : ∀ c ∈ rs, 48 ≤ c ∧ c ≤ 57) (hl : 1 ≤ ls.length) (hz : ls.length + rs.length ≤ 8)
    (hv : 0 < val (ls ++ rs)) (hg : 0 < g) (hn : (val (ls ++ rs) : Int) = n' * g) (hdv : (10 : Int) ^ rs.length = d' * g) (hc : Int.gcd n' d' = 1) : SpecO w mean mg mb 261 26 300 [.str (sO (ls ++ 46 :: rs)) t1] (fun _ => True)
    (NumRes n' d') := by
  have hx1 := no_x (dot_signs hA hB) (show 57 < 120 by decide)
  have hx2 := no_x (dot_signs hA hB) (show 57 < 88 by decide)
  have hsg := dot_signs hA hB
  have htl := tail_digits (A := ls) hB
  have hlen : (ls ++ 46 :: rs).length = ls.length + rs.length + 1 := by simp; omega
  have hne : ¬ ls = [] := fun e => by rw [e] at hl; simp at hl
  have e1 : ((ls ++ 46 :: rs).drop (ls.length : Int).toNat).take (((ls.length : Int) + 1).toNat - (ls.length : Int).toNat) = [46] := by
    rw [show ((ls.length : Int) + 1).toNat - (ls.length : Int).toNat = 1 by omega, Int.toNat_natCast, List.drop_left]; rfl
  have e2 : (ls ++ 46 :: rs).take (ls.length : Int).toNat = ls := by rw [Int.toNat_natCast, List.take_left]
  have e3 : ((ls ++ 46 :: rs).drop ((ls.length : Int) + 1).toNat).take (((ls.length + 1 + rs.length : Nat) : Int).toNat - ((ls.length : Int) + 1).toNat) = rs := by
    rw [show ((ls.length : Int) + 1).toNat = ls.length + 1 by omega, show ((ls.length + 1 + rs.length : Nat) : Int).toNat - (ls.length + 1) = rs.length by omega, List.drop_append]
    simp
    rw [List.drop_of_length_le (by omega), List.nil_append, List.take_length]
  have hdg : ∀ c ∈ ls ++ rs, 48 ≤ c ∧ c ≤ 57 := fun c hc => (List.mem_append.mp hc).elim (hA c) (hB c)
  have hlz : (ls ++ rs).length ≤ 12 := by simp; omega
  unfold SpecO
  k_fill
  intro dp un gd cn cs a ccd cl outer A₀ base h₀ L m news s Q E B F X N T hk hpre hd hu hret
  refine wpAny_call ?_
  k_dflt cell_enter
  refine abs_A ?_
  intro A9a
  repeat' ((fail_if_success (with_reducible show wpAny _ _ (PySem.exec (PySem.Stmt.While _ _ _ _) _) _ _ _)); (fail_if_success (with_reducible show wpAny _ _ (PySem.exec (PySem.Stmt.For _ _ _ _ _) _) _ _ _)); (fail_if_success (with_reducible show wpAny _ _ (PySem.exec (PySem.Stmt.Assign _ (PySem.Expr.ListComp _ _ _ _) _) _) _ _ _)); (fail_if_success (with_reducible show wpAny _ _ (PySem.eval (PySem.Expr.ListComp _ _ _ _) _) _ _ _)); (fail_if_success (with_reducible show LCg.CompSrc _ _ _ _ _ _ _ _ _ _ _ _ _ _)); (fail_if_success (with_reducible show LCt.CompSrcT _ _ _ _ _ _ _ _ _ _ _ _ _ _ _)); (fail_if_success (with_reducible show LCg.CompEnd _ _ _ _ _ _ _ _ _ _ _ _ _ _)); (fail_if_success (with_reducible show KswEnd _ _ _ _ _ _ _ _ _ _ _ _)); (fail_if_success (with_reducible show UnrEnd _ _ _ _ _ _ _)); first | (k_unfold; (try dsimp only)) | (k_end; wrow_close) | ((with_reducible show wpAny _ _ (PySem.call (Value.ref _) _) _ _ _); first | (with_reducible ((with_reducible show wpAny _ _ (PySem.call (Value.ref 254) _) _ _ _); k_dflt (refine' useO (powered_nz _ _ _ _ _ _ _ _ ?kq1) ?k1 ?k2 ?k3 ?k4 ?k5 ?kK ?kp ?kd ?ku ?_; (case k1 => k_asm); (case k2 => k_asm); (case k3 => k_asm); (case k4 => k_asm); (case k5 => k_asm); (case kK => first | exact rfl | assumption); (case kp => trivial); (case kd => ktr_room); (case ku => ktr_units); (case kq1 => omega); intro r9z nw9z h9z tk9z F9z N9z hr9z; obtain ⟨D9z, t91, t92, c9z, l9z, hr9z, hn9z⟩ := hr9z; subst hr9z; subst hn9z; (try dsimp only); (try k_sweep)))) | (with_reducible ((with_reducible show wpAny _ _ (PySem.call (Value.ref 254) _) _ _ _); k_dflt (refine' useV (powered_z _ _ _ _ _ _ _) ?k1 ?k2 ?k3 ?k4 ?k5 ?kK ?kp ?kd ?ku ?_; (case k1 => k_asm); (case k2 => k_asm); (case k3 => k_asm); (case k4 => k_asm); (case k5 => k_asm); (case kK => first | exact rfl | assumption); (case kp => trivial); (case kd => ktr_room); (case ku => ktr_units); intro r9z h9z tk9z F9z N9z hr9z; subst hr9z; (try dsimp only); (try k_sweep)))) | (with_reducible ((with_reducible show wpAny _ _ (PySem.call (Value.ref 94) _) _ _ _); k_dflt (refine' useO (make_fr _ _ _ _ _ _ _ _ _ _ _ ?kq1 ?kq2 ?kq3 ?kq4 ?kq5) ?k1 ?k2 ?k3 ?k4 ?k5 ?kK ?kp ?kd ?ku ?_; (case k1 => k_asm); (case k2 => k_asm); (case k3 => k_asm); (case k4 => k_asm); (case k5 => k_asm); (case kK => first | exact rfl | assumption); (case kp => trivial); (case kd => ktr_room); (case ku => ktr_units); (case kq1 => assumption); (case kq2 => assumption); (case kq3 => assumption); (case kq4 => assumption); (case kq5 => omega); intro r9z nw9z h9z tk9z F9z N9z hr9z; obtain ⟨D9z, t91, t92, c9z, l9z, hr9z, hn9z⟩ := hr9z; subst hr9z; subst hn9z; (try dsimp only); (try k_sweep)))) | (with_reducible ((with_reducible show wpAny _ _ (PySem.call (Value.ref 94) _) _ _ _); k_dflt (refine' useO (make_in _ _ _ _ _ _ _) ?k1 ?k2 ?k3 ?k4 ?k5 ?kK ?kp ?kd ?ku ?_; (case k1 => k_asm); (case k2 => k_asm); (case k3 => k_asm); (case k4 => k_asm); (case k5 => k_asm); (case kK => first | exact rfl | assumption); (case kp => trivial); (case kd => ktr_room); (case ku => ktr_units); intro r9z nw9z h9z tk9z F9z N9z hr9z; obtain ⟨D9z, t91, t92, c9z, l9z, hr9z, hn9z⟩ := hr9z; subst hr9z; subst hn9z; (try dsimp only); (try k_sweep)))) | (with_reducible ((with_reducible show wpAny _ _ (PySem.call (Value.ref 233) _) _ _ _); k_dflt (refine' useV (digits_value_spec _ _ _ _ _ _ _ ?kq1 ?kq2) ?k1 ?k2 ?k3 ?k4 ?k5 ?kK ?kp ?kd ?ku ?_; (case k1 => k_asm); (case k2 => k_asm); (case k3 => k_asm); (case k4 => k_asm); (case k5 => k_asm); (case kK => first | exact rfl | assumption); (case kp => trivial); (case kd => ktr_room); (case ku => ktr_units); (case kq1 => assumption); (case kq2 => assumption); intro r9z h9z tk9z F9z N9z hr9z; obtain ⟨t9z, hr9z⟩ := hr9z; subst hr9z; (try dsimp only); (try k_sweep)))) | (with_reducible ((with_reducible show wpAny _ _ (PySem.call (Value.ref 240) _) _ _ _); k_dflt (refine' useV (run_a _ _ _ _ _ _ _ _ _ ?kq1 ?kq2 ?kq3) ?k1 ?k2 ?k3 ?k4 ?k5 ?kK ?kp ?kd ?ku ?_; (case k1 => k_asm); (case k2 => k_asm); (case k3 => k_asm); (case k4 => k_asm); (case k5 => k_asm); (case kK => first | exact rfl | assumption); (case kp => trivial); (case kd => ktr_room); (case ku => ktr_units); (case kq1 => assumption); (case kq2 => assumption); (case kq3 => omega); intro r9z h9z tk9z F9z N9z hr9z; obtain ⟨t9z, hr9z⟩ := hr9z; subst hr9z; (try dsimp only); (try k_sweep)))) | (with_reducible ((with_reducible show wpAny _ _ (PySem.call (Value.ref 240) _) _ _ _); k_dflt (refine' useV (run_b _ _ _ _ _ _ _ _ _ ?kq1 ?kq2 ?kq3) ?k1 ?k2 ?k3 ?k4 ?k5 ?kK ?kp ?kd ?ku ?_; (case k1 => k_asm); (case k2 => k_asm); (case k3 => k_asm); (case k4 => k_asm); (case k5 => k_asm); (case kK => first | exact rfl | assumption); (case kp => trivial); (case kd => ktr_room); (case ku => ktr_units); (case kq1 => assumption); (case kq2 => assumption); (case kq3 => omega); intro r9z h9z tk9z F9z N9z hr9z; obtain ⟨t9z, hr9z⟩ := hr9z; subst hr9z; (try dsimp only); (try k_sweep)))) | (with_reducible ((with_reducible show wpAny _ _ (PySem.call (Value.ref 240) _) _ _ _); k_dflt (refine' useV (run_c _ _ _ _ _ _ _ _ ?kq1 ?kq3) ?k1 ?k2 ?k3 ?k4 ?k5 ?kK ?kp ?kd ?ku ?_; (case k1 => k_asm); (case k2 => k_asm); (case k3 => k_asm); (case k4 => k_asm); (case k5 => k_asm); (case kK => first | exact rfl | assumption); (case kp => trivial); (case kd => ktr_room); (case ku => ktr_units); (case kq1 => assumption); (case kq3 => omega); intro r9z h9z tk9z F9z N9z hr9z; obtain ⟨t9z, hr9z⟩ := hr9z; subst hr9z; (try dsimp only); (try k_sweep))))) | (with_reducible ((with_reducible show wpAny _ _ (subscriptTail _ (Expr.Slice _ _ _ _) (Value.str (sO _) _) (Value.ref _)) _ _ _); (with_reducible rename Fr _ _ _ _ => F9y); (with_reducible rename News _ _ _ _ => N9y); first | (refine cutto_ss (s := ⟨_, _, _, _, _⟩) F9y N9y (by omega) (by omega) (by first | omega | (simp; omega)) (by assumption) ?_; intro h9z t9z k9z F9z N9z; (try k_sweep)) | (refine cutto_sn (s := ⟨_, _, _, _, _⟩) F9y N9y (by omega) (by first | omega | (simp; omega)) (by assumption) ?_; intro h9z t9z k9z F9z N9z; (try k_sweep)) | (refine cutto_ns (s := ⟨_, _, _, _, _⟩) F9y N9y (by omega) (by first | omega | (simp; omega)) (by assumption) ?_; intro h9z t9z k9z F9z N9z; (try k_sweep)))) | (with_reducible ((with_reducible show wpAny _ _ (subscriptTail _ (Expr.Slice _ _ _ _) (Value.str (sO _) _) (Value.ref _)) _ _ _); (with_reducible rename Fr _ _ _ _ => F9y); (with_reducible rename News _ _ _ _ => N9y); first | (refine cut_ss (s := ⟨_, _, _, _, _⟩) F9y N9y (by omega) (by omega) (by first | omega | (simp; omega)) ?_; intro h9z t9z k9z F9z N9z; (try k_sweep)) | (refine cut_sn (s := ⟨_, _, _, _, _⟩) F9y N9y (by omega) (by first | omega | (simp; omega)) ?_; intro h9z t9z k9z F9z N9z; (try k_sweep)) | (refine cut_ns (s := ⟨_, _, _, _, _⟩) F9y N9y (by omega) (by first | omega | (simp; omega)) ?_; intro h9z t9z k9z F9z N9z; (try k_sweep)))) | (with_reducible ((with_reducible show wpAny _ _ (subscriptTail _ _ (PySem.Value.ref _) (PySem.Value.int _ _)) _ _ _); (k_dflt (refine' item_tupleT ?t ?a ?b ?c ?d ?_; (case t => exact News.isTup (by k_asm) (by k_mem)); (case a => decide); (case b => decide); (case c => rfl); (case d => rfl); k_whole)))) | (with_reducible ((with_reducible show wpAny _ _ (binaryOp _ (Value.str (sO _) _) (Value.str (sO _) _)) _ _ _); (refine' add_sO ?hx ?hy ?hz ?_; (case hx => (with_reducible exact rfl)); (case hy => (with_reducible exact rfl)); (case hz => first | omega | (simp; omega))); intro t9z k9z)) | (with_reducible ((with_reducible show wpAny _ _ (compareOp _ (Value.str (sO _) _) (Value.str (Str.ofString _) _)) _ _ _); first | (refine' eq_ne ?hx ?hn ?_; (case hx => ((with_reducible first | exact lit_0 | exact lit_dot | exact lit_none | exact lit_NA | exact lit_NaN | exact lit_inf | exact lit_infinity | exact lit_minus | exact lit_plus | exact lit_0x | exact lit_0X))); (case hn => first | assumption | (intro h; cases h; done))) | (refine' eq_yes ?hx ?hn ?_; (case hx => ((with_reducible first | exact lit_0 | exact lit_dot | exact lit_none | exact lit_NA | exact lit_NaN | exact lit_inf | exact lit_infinity | exact lit_minus | exact lit_plus | exact lit_0x | exact lit_0X))); (case hn => first | assumption | exact rfl)))) | (with_reducible ((with_reducible show wpAny _ _ (PySem.binaryOp PySem.Operator.Add (PySem.Value.str _ _) (PySem.Value.str _ _)) _ _ _); ((refine' add_sO ?hx ?hy ?hz ?_; (case hx => first | ((with_reducible first | exact lit_0 | exact lit_dot | exact lit_none | exact lit_NA | exact lit_NaN | exact lit_inf | exact lit_infinity | exact lit_minus | exact lit_plus | exact lit_0x | exact lit_0X)) | (with_reducible exact rfl)); (case hy => first | ((with_reducible first | exact lit_0 | exact lit_dot | exact lit_none | exact lit_NA | exact lit_NaN | exact lit_inf | exact lit_infinity | exact lit_minus | exact lit_plus | exact lit_0x | exact lit_0X)) | (with_reducible exact rfl)); (case hz => (simp; omega))); intro t9z k9z))) | (with_reducible ((with_reducible show wpAny _ _ (compareOp _ (Value.str (sO _) _) (Value.str (Str.ofString _) _)) _ _ _); refine' eq_lit ?hx ?_; (case hx => ((with_reducible first | exact lit_0 | exact lit_dot | exact lit_none | exact lit_NA | exact lit_NaN | exact lit_inf | exact lit_infinity | exact lit_minus | exact lit_plus | exact lit_0x | exact lit_0X))))) | ((with_reducible show wpAny _ _ (PySem.eval (PySem.Expr.Call (PySem.Expr.Name _ _) _ _) _) _ _ _); (refine Call_ ?_)) | (with_reducible ((with_reducible show wpAny _ _ (PySem.call (Value.builtin "len") [Value.str (sO _) _]) _ _ _); refine len_sO (by first | omega | (simp; omega)) ?_; intro u9z k9z)) | (with_reducible ((with_reducible show wpAny _ _ (eval (Expr.Name _ _) (envOf _ _ _ _ _)) _ _ _); k_dflt (refine' ld ?k1 ?k2 ?_; (case k1 => k_asm); (case k2 => exact rfl); k_whole))) | ((with_reducible show wpAny _ _ (PySem.execs (List.cons _ _) _) _ _ _); walk1; (try (refine gen_s ?_; intro tkG; (try dsimp only); (try k_fold)))) | (walk1; (try dsimp only)) | (dsimp only; walk1) | (leave1; (try dsimp only)) | fail "no step")
  · exfalso; omega
  · exact hret _ _ _ _ (by k_asm) (by k_asm) (NumRes.of (by ((repeat' first | exact Grew.refl _ | assumption | (refine Grew.cons ?_ (by (first | assumption | (refine ktn_ltOf ?_; (try simp only [AllLt, and_true]); (repeat' first | assumption | omega | (refine And.intro ?_ ?_)); all_goals first | (rename _ ∧ AllLt _ _ => l8; exact tbn_up (by omega) l8.2) | (rename _ ∧ _ ∧ AllLt _ _ => l8; exact tbn_up (by omega) l8.2.2) | (rename _ ∧ _ ∧ _ ∧ AllLt _ _ => l8; exact tbn_up (by omega) l8.2.2.2) | (rename _ ∧ _ ∧ _ ∧ _ ∧ AllLt _ _ => l8; exact tbn_up (by omega) l8.2.2.2.2) | (rename _ ∧ _ ∧ _ ∧ _ ∧ _ ∧ AllLt _ _ => l8; exact tbn_up (by omega) l8.2.2.2.2.2) | (rename _ ∧ _ ∧ _ ∧ _ ∧ _ ∧ _ ∧ AllLt _ _ => l8; exact tbn_up (by omega) l8.2.2.2.2.2.2) | (rename _ ∧ _ ∧ _ ∧ _ ∧ _ ∧ _ ∧ _ ∧ AllLt _ _ => l8; exact tbn_up (by omega) l8.2.2.2.2.2.2.2) | (rename _ ∧ _ ∧ _ ∧ _ ∧ _ ∧ _ ∧ _ ∧ _ ∧ AllLt _ _ => l8; exact tbn_up (by omega) l8.2.2.2.2.2.2.2.2) | (rename ∀ p ∈ (_ : Led), Prod.fst p < _ => l8; exact tbn_up (by omega) (allLt_of l8)) | (rename ∀ p ∈ (_ :: _ : Led), Prod.fst p < _ => l8; exact allLt_of fun p hp => l8 p (.tail _ hp)))))) | (refine Grew.trans ?_ (by assumption))))) (.head _) (.tail _ (.head _)) rfl rfl (by (first | assumption | (refine ktn_ltOf ?_; (try simp only [AllLt, and_true]); (repeat' first | assumption | omega | (refine And.intro ?_ ?_)); all_goals first | (rename _ ∧ AllLt _ _ => l8; exact tbn_up (by omega) l8.2) | (rename _ ∧ _ ∧ AllLt _ _ => l8; exact tbn_up (by omega) l8.2.2) | (rename _ ∧ _ ∧ _ ∧ AllLt _ _ => l8; exact tbn_up (by omega) l8.2.2.2) | (rename _ ∧ _ ∧ _ ∧ _ ∧ AllLt _ _ => l8; exact tbn_up (by omega) l8.2.2.2.2) | (rename _ ∧ _ ∧ _ ∧ _ ∧ _ ∧ AllLt _ _ => l8; exact tbn_up (by omega) l8.2.2.2.2.2) | (rename _ ∧ _ ∧ _ ∧ _ ∧ _ ∧ _ ∧ AllLt _ _ => l8; exact tbn_up (by omega) l8.2.2.2.2.2.2) | (rename _ ∧ _ ∧ _ ∧ _ ∧ _ ∧ _ ∧ _ ∧ AllLt _ _ => l8; exact tbn_up (by omega) l8.2.2.2.2.2.2.2) | (rename _ ∧ _ ∧ _ ∧ _ ∧ _ ∧ _ ∧ _ ∧ _ ∧ AllLt _ _ => l8; exact tbn_up (by omega) l8.2.2.2.2.2.2.2.2) | (rename ∀ p ∈ (_ : Led), Prod.fst p < _ => l8; exact tbn_up (by omega) (allLt_of l8)) | (rename ∀ p ∈ (_ :: _ : Led), Prod.fst p < _ => l8; exact allLt_of fun p hp => l8 p (.tail _ hp))))))
theorem unsigned_int (w mean mg mb) (ls : List Nat) (t1 : Tok) (hA : ∀ c ∈ ls, 48 ≤ c ∧ c ≤ 57) (hl : 1 ≤ ls.length) (hz : ls.length ≤ 8) (hv : 0 < val ls) : SpecO w mean mg mb 261 26 300 [.str (sO ls) t1] (fun _ => True)
    (NumRes (val ls) 1) := by
  have hx1 := no_x (fun c hc => Or.inr (hA c hc)) (show 57 < 120 by decide)
  have hx2 := no_x (fun c hc => Or.inr (hA c hc)) (show 57 < 88 by decide)
  have hne : ¬ ls = [] := fun e => by rw [e] at hl; simp at hl
  have e1 : (ls.drop (ls.length : Int).toNat).take (((ls.length : Int) + 1).toNat - (ls.length : Int).toNat) = [] := by simp
  have e2 : ls.take (ls.length : Int).toNat = ls := by simp
  have hdg : ∀ c ∈ ls ++ [], 48 ≤ c ∧ c ≤ 57 := by simpa using hA
  have hlz : (ls ++ []).length ≤ 12 := by simp; omega
  have hvv : val (ls ++ []) = val ls := by rw [List.append_nil]
  unfold SpecO
  k_fill
  intro dp un gd cn cs a ccd cl outer A₀ base h₀ L m news s Q E B F X N T hk hpre hd hu hret
  refine wpAny_call ?_
  k_dflt cell_enter
  refine abs_A ?_
  intro A9a
  repeat' ((fail_if_success (with_reducible show wpAny _ _ (PySem.exec (PySem.Stmt.While _ _ _ _) _) _ _ _)); (fail_if_success (with_reducible show wpAny _ _ (PySem.exec (PySem.Stmt.For _ _ _ _ _) _) _ _ _)); (fail_if_success (with_reducible show wpAny _ _ (PySem.exec (PySem.Stmt.Assign _ (PySem.Expr.ListComp _ _ _ _) _) _) _ _ _)); (fail_if_success (with_reducible show wpAny _ _ (PySem.eval (PySem.Expr.ListComp _ _ _ _) _) _ _ _)); (fail_if_success (with_reducible show LCg.CompSrc _ _ _ _ _ _ _ _ _ _ _ _ _ _)); (fail_if_success (with_reducible show LCt.CompSrcT _ _ _ _ _ _ _ _ _ _ _ _ _ _ _)); (fail_if_success (with_reducible show LCg.CompEnd _ _ _ _ _ _ _ _ _ _ _ _ _ _)); (fail_if_success (with_reducible show KswEnd _ _ _ _ _ _ _ _ _ _ _ _)); (fail_if_success (with_reducible show UnrEnd _ _ _ _ _ _ _)); first | (k_unfold; (try dsimp only)) | (k_end; wrow_close) | ((with_reducible show wpAny _ _ (PySem.call (Value.ref _) _) _ _ _); first | (with_reducible ((with_reducible show wpAny _ _ (PySem.call (Value.ref 254) _) _ _ _); k_dflt (refine' useO (powered_nz _ _ _ _ _ _ _ _ ?kq1) ?k1 ?k2 ?k3 ?k4 ?k5 ?kK ?kp ?kd ?ku ?_; (case k1 => k_asm); (case k2 => k_asm); (case k3 => k_asm); (case k4 => k_asm); (case k5 => k_asm); (case kK => first | exact rfl | assumption); (case kp => trivial); (case kd => ktr_room); (case ku => ktr_units); (case kq1 => omega); intro r9z nw9z h9z tk9z F9z N9z hr9z; obtain ⟨D9z, t91, t92, c9z, l9z, hr9z, hn9z⟩ := hr9z; subst hr9z; subst hn9z; (try dsimp only); (try k_sweep)))) | (with_reducible ((with_reducible show wpAny _ _ (PySem.call (Value.ref 254) _) _ _ _); k_dflt (refine' useV (powered_z _ _ _ _ _ _ _) ?k1 ?k2 ?k3 ?k4 ?k5 ?kK ?kp ?kd ?ku ?_; (case k1 => k_asm); (case k2 => k_asm); (case k3 => k_asm); (case k4 => k_asm); (case k5 => k_asm); (case kK => first | exact rfl | assumption); (case kp => trivial); (case kd => ktr_room); (case ku => ktr_units); intro r9z h9z tk9z F9z N9z hr9z; subst hr9z; (try dsimp only); (try k_sweep)))) | (with_reducible ((with_reducible show wpAny _ _ (PySem.call (Value.ref 94) _) _ _ _); k_dflt (refine' useO (make_fr _ _ _ _ _ _ _ _ _ _ _ ?kq1 ?kq2 ?kq3 ?kq4 ?kq5) ?k1 ?k2 ?k3 ?k4 ?k5 ?kK ?kp ?kd ?ku ?_; (case k1 => k_asm); (case k2 => k_asm); (case k3 => k_asm); (case k4 => k_asm); (case k5 => k_asm); (case kK => first | exact rfl | assumption); (case kp => trivial); (case kd => ktr_room); (case ku => ktr_units); (case kq1 => assumption); (case kq2 => assumption); (case kq3 => assumption); (case kq4 => assumption); (case kq5 => omega); intro r9z nw9z h9z tk9z F9z N9z hr9z; obtain ⟨D9z, t91, t92, c9z, l9z, hr9z, hn9z⟩ := hr9z; subst hr9z; subst hn9z; (try dsimp only); (try k_sweep)))) | (with_reducible ((with_reducible show wpAny _ _ (PySem.call (Value.ref 94) _) _ _ _); k_dflt (refine' useO (make_in _ _ _ _ _ _ _) ?k1 ?k2 ?k3 ?k4 ?k5 ?kK ?kp ?kd ?ku ?_; (case k1 => k_asm); (case k2 => k_asm); (case k3 => k_asm); (case k4 => k_asm); (case k5 => k_asm); (case kK => first | exact rfl | assumption); (case kp => trivial); (case kd => ktr_room); (case ku => ktr_units); intro r9z nw9z h9z tk9z F9z N9z hr9z; obtain ⟨D9z, t91, t92, c9z, l9z, hr9z, hn9z⟩ := hr9z; subst hr9z; subst hn9z; (try dsimp only); (try k_sweep)))) | (with_reducible ((with_reducible show wpAny _ _ (PySem.call (Value.ref 233) _) _ _ _); k_dflt (refine' useV (digits_value_spec _ _ _ _ _ _ _ ?kq1 ?kq2) ?k1 ?k2 ?k3 ?k4 ?k5 ?kK ?kp ?kd ?ku ?_; (case k1 => k_asm); (case k2 => k_asm); (case k3 => k_asm); (case k4 => k_asm); (case k5 => k_asm); (case kK => first | exact rfl | assumption); (case kp => trivial); (case kd => ktr_room); (case ku => ktr_units); (case kq1 => assumption); (case kq2 => assumption); intro r9z h9z tk9z F9z N9z hr9z; obtain ⟨t9z, hr9z⟩ := hr9z; subst hr9z; (try dsimp only); (try k_sweep)))) | (with_reducible ((with_reducible show wpAny _ _ (PySem.call (Value.ref 240) _) _ _ _); k_dflt (refine' useV (run_a _ _ _ _ _ _ _ _ _ ?kq1 ?kq2 ?kq3) ?k1 ?k2 ?k3 ?k4 ?k5 ?kK ?kp ?kd ?ku ?_; (case k1 => k_asm); (case k2 => k_asm); (case k3 => k_asm); (case k4 => k_asm); (case k5 => k_asm); (case kK => first | exact rfl | assumption); (case kp => trivial); (case kd => ktr_room); (case ku => ktr_units); (case kq1 => assumption); (case kq2 => assumption); (case kq3 => omega); intro r9z h9z tk9z F9z N9z hr9z; obtain ⟨t9z, hr9z⟩ := hr9z; subst hr9z; (try dsimp only); (try k_sweep)))) | (with_reducible ((with_reducible show wpAny _ _ (PySem.call (Value.ref 240) _) _ _ _); k_dflt (refine' useV (run_b _ _ _ _ _ _ _ _ _ ?kq1 ?kq2 ?kq3) ?k1 ?k2 ?k3 ?k4 ?k5 ?kK ?kp ?kd ?ku ?_; (case k1 => k_asm); (case k2 => k_asm); (case k3 => k_asm); (case k4 => k_asm); (case k5 => k_asm); (case kK => first | exact rfl | assumption); (case kp => trivial); (case kd => ktr_room); (case ku => ktr_units); (case kq1 => assumption); (case kq2 => assumption); (case kq3 => omega); intro r9z h9z tk9z F9z N9z hr9z; obtain ⟨t9z, hr9z⟩ := hr9z; subst hr9z; (try dsimp only); (try k_sweep)))) | (with_reducible ((with_reducible show wpAny _ _ (PySem.call (Value.ref 240) _) _ _ _); k_dflt (refine' useV (run_c _ _ _ _ _ _ _ _ ?kq1 ?kq3) ?k1 ?k2 ?k3 ?k4 ?k5 ?kK ?kp ?kd ?ku ?_; (case k1 => k_asm); (case k2 => k_asm); (case k3 => k_asm); (case k4 => k_asm); (case k5 => k_asm); (case kK => first | exact rfl | assumption); (case kp => trivial); (case kd => ktr_room); (case ku => ktr_units); (case kq1 => assumption); (case kq3 => omega); intro r9z h9z tk9z F9z N9z hr9z; obtain ⟨t9z, hr9z⟩ := hr9z; subst hr9z; (try dsimp only); (try k_sweep))))) | (with_reducible ((with_reducible show wpAny _ _ (subscriptTail _ (Expr.Slice _ _ _ _) (Value.str (sO _) _) (Value.ref _)) _ _ _); (with_reducible rename Fr _ _ _ _ => F9y); (with_reducible rename News _ _ _ _ => N9y); first | (refine cutto_ss (s := ⟨_, _, _, _, _⟩) F9y N9y (by omega) (by omega) (by first | omega | (simp; omega)) (by assumption) ?_; intro h9z t9z k9z F9z N9z; (try k_sweep)) | (refine cutto_sn (s := ⟨_, _, _, _, _⟩) F9y N9y (by omega) (by first | omega | (simp; omega)) (by assumption) ?_; intro h9z t9z k9z F9z N9z; (try k_sweep)) | (refine cutto_ns (s := ⟨_, _, _, _, _⟩) F9y N9y (by omega) (by first | omega | (simp; omega)) (by assumption) ?_; intro h9z t9z k9z F9z N9z; (try k_sweep)))) | (with_reducible ((with_reducible show wpAny _ _ (subscriptTail _ (Expr.Slice _ _ _ _) (Value.str (sO _) _) (Value.ref _)) _ _ _); (with_reducible rename Fr _ _ _ _ => F9y); (with_reducible rename News _ _ _ _ => N9y); first | (refine cut_ss (s := ⟨_, _, _, _, _⟩) F9y N9y (by omega) (by omega) (by first | omega | (simp; omega)) ?_; intro h9z t9z k9z F9z N9z; (try k_sweep)) | (refine cut_sn (s := ⟨_, _, _, _, _⟩) F9y N9y (by omega) (by first | omega | (simp; omega)) ?_; intro h9z t9z k9z F9z N9z; (try k_sweep)) | (refine cut_ns (s := ⟨_, _, _, _, _⟩) F9y N9y (by omega) (by first | omega | (simp; omega)) ?_; intro h9z t9z k9z F9z N9z; (try k_sweep)))) | (with_reducible ((with_reducible show wpAny _ _ (subscriptTail _ _ (PySem.Value.ref _) (PySem.Value.int _ _)) _ _ _); (k_dflt (refine' item_tupleT ?t ?a ?b ?c ?d ?_; (case t => exact News.isTup (by k_asm) (by k_mem)); (case a => decide); (case b => decide); (case c => rfl); (case d => rfl); k_whole)))) | (with_reducible ((with_reducible show wpAny _ _ (binaryOp _ (Value.str (sO _) _) (Value.str (sO _) _)) _ _ _); (refine' add_sO ?hx ?hy ?hz ?_; (case hx => (with_reducible exact rfl)); (case hy => (with_reducible exact rfl)); (case hz => first | omega | (simp; omega))); intro t9z k9z)) | (with_reducible ((with_reducible show wpAny _ _ (compareOp _ (Value.str (sO _) _) (Value.str (Str.ofString _) _)) _ _ _); first | (refine' eq_ne ?hx ?hn ?_; (case hx => ((with_reducible first | exact lit_0 | exact lit_dot | exact lit_none | exact lit_NA | exact lit_NaN | exact lit_inf | exact lit_infinity | exact lit_minus | exact lit_plus | exact lit_0x | exact lit_0X))); (case hn => first | assumption | (intro h; cases h; done))) | (refine' eq_yes ?hx ?hn ?_; (case hx => ((with_reducible first | exact lit_0 | exact lit_dot | exact lit_none | exact lit_NA | exact lit_NaN | exact lit_inf | exact lit_infinity | exact lit_minus | exact lit_plus | exact lit_0x | exact lit_0X))); (case hn => first | assumption | exact rfl)))) | (with_reducible ((with_reducible show wpAny _ _ (PySem.binaryOp PySem.Operator.Add (PySem.Value.str _ _) (PySem.Value.str _ _)) _ _ _); ((refine' add_sO ?hx ?hy ?hz ?_; (case hx => first | ((with_reducible first | exact lit_0 | exact lit_dot | exact lit_none | exact lit_NA | exact lit_NaN | exact lit_inf | exact lit_infinity | exact lit_minus | exact lit_plus | exact lit_0x | exact lit_0X)) | (with_reducible exact rfl)); (case hy => first | ((with_reducible first | exact lit_0 | exact lit_dot | exact lit_none | exact lit_NA | exact lit_NaN | exact lit_inf | exact lit_infinity | exact lit_minus | exact lit_plus | exact lit_0x | exact lit_0X)) | (with_reducible exact rfl)); (case hz => (simp; omega))); intro t9z k9z))) | (with_reducible ((with_reducible show wpAny _ _ (compareOp _ (Value.str (sO _) _) (Value.str (Str.ofString _) _)) _ _ _); refine' eq_lit ?hx ?_; (case hx => ((with_reducible first | exact lit_0 | exact lit_dot | exact lit_none | exact lit_NA | exact lit_NaN | exact lit_inf | exact lit_infinity | exact lit_minus | exact lit_plus | exact lit_0x | exact lit_0X))))) | ((with_reducible show wpAny _ _ (PySem.eval (PySem.Expr.Call (PySem.Expr.Name _ _) _ _) _) _ _ _); (refine Call_ ?_)) | (with_reducible ((with_reducible show wpAny _ _ (PySem.call (Value.builtin "len") [Value.str (sO _) _]) _ _ _); refine len_sO (by first | omega | (simp; omega)) ?_; intro u9z k9z)) | (with_reducible ((with_reducible show wpAny _ _ (eval (Expr.Name _ _) (envOf _ _ _ _ _)) _ _ _); k_dflt (refine' ld ?k1 ?k2 ?_; (case k1 => k_asm); (case k2 => exact rfl); k_whole))) | ((with_reducible show wpAny _ _ (PySem.execs (List.cons _ _) _) _ _ _); walk1; (try (refine gen_s ?_; intro tkG; (try dsimp only); (try k_fold)))) | (walk1; (try dsimp only)) | (dsimp only; walk1) | (leave1; (try dsimp only)) | fail "no step")
  · exfalso; omega
  · exact hret _ _ _ _ (by k_asm) (by k_asm) (NumRes.of (by ((repeat' first | exact Grew.refl _ | assumption | (refine Grew.cons ?_ (by (first | assumption | (refine ktn_ltOf ?_; (try simp only [AllLt, and_true]); (repeat' first | assumption | omega | (refine And.intro ?_ ?_)); all_goals first | (rename _ ∧ AllLt _ _ => l8; exact tbn_up (by omega) l8.2) | (rename _ ∧ _ ∧ AllLt _ _ => l8; exact tbn_up (by omega) l8.2.2) | (rename _ ∧ _ ∧ _ ∧ AllLt _ _ => l8; exact tbn_up (by omega) l8.2.2.2) | (rename _ ∧ _ ∧ _ ∧ _ ∧ AllLt _ _ => l8; exact tbn_up (by omega) l8.2.2.2.2) | (rename _ ∧ _ ∧ _ ∧ _ ∧ _ ∧ AllLt _ _ => l8; exact tbn_up (by omega) l8.2.2.2.2.2) | (rename _ ∧ _ ∧ _ ∧ _ ∧ _ ∧ _ ∧ AllLt _ _ => l8; exact tbn_up (by omega) l8.2.2.2.2.2.2) | (rename _ ∧ _ ∧ _ ∧ _ ∧ _ ∧ _ ∧ _ ∧ AllLt _ _ => l8; exact tbn_up (by omega) l8.2.2.2.2.2.2.2) | (rename _ ∧ _ ∧ _ ∧ _ ∧ _ ∧ _ ∧ _ ∧ _ ∧ AllLt _ _ => l8; exact tbn_up (by omega) l8.2.2.2.2.2.2.2.2) | (rename ∀ p ∈ (_ : Led), Prod.fst p < _ => l8; exact tbn_up (by omega) (allLt_of l8)) | (rename ∀ p ∈ (_ :: _ : Led), Prod.fst p < _ => l8; exact allLt_of fun p hp => l8 p (.tail _ hp)))))) | (refine Grew.trans ?_ (by assumption))))) (.head _) (.tail _ (.head _)) (by rw [hvv]) rfl (by (first | assumption | (refine ktn_ltOf ?_; (try simp only [AllLt, and_true]); (repeat' first | assumption | omega | (refine And.intro ?_ ?_)); all_goals first | (rename _ ∧ AllLt _ _ => l8; exact tbn_up (by omega) l8.2) | (rename _ ∧ _ ∧ AllLt _ _ => l8; exact tbn_up (by omega) l8.2.2) | (rename _ ∧ _ ∧ _ ∧ AllLt _ _ => l8; exact tbn_up (by omega) l8.2.2.2) | (rename _ ∧ _ ∧ _ ∧ _ ∧ AllLt _ _ => l8; exact tbn_up (by omega) l8.2.2.2.2) | (rename _ ∧ _ ∧ _ ∧ _ ∧ _ ∧ AllLt _ _ => l8; exact tbn_up (by omega) l8.2.2.2.2.2) | (rename _ ∧ _ ∧ _ ∧ _ ∧ _ ∧ _ ∧ AllLt _ _ => l8; exact tbn_up (by omega) l8.2.2.2.2.2.2) | (rename _ ∧ _ ∧ _ ∧ _ ∧ _ ∧ _ ∧ _ ∧ AllLt _ _ => l8; exact tbn_up (by omega) l8.2.2.2.2.2.2.2) | (rename _ ∧ _ ∧ _ ∧ _ ∧ _ ∧ _ ∧ _ ∧ _ ∧ AllLt _ _ => l8; exact tbn_up (by omega) l8.2.2.2.2.2.2.2.2) | (rename ∀ p ∈ (_ : Led), Prod.fst p < _ => l8; exact tbn_up (by omega) (allLt_of l8)) | (rename ∀ p ∈ (_ :: _ : Led), Prod.fst p < _ => l8; exact allLt_of fun p hp => l8 p (.tail _ hp))))))
theorem unsigned_zero (w mean mg mb) (t1 : Tok) : SpecO w mean mg mb 261 26 300 [.str (sO [48]) t1] (fun _ => True)
    (NumRes 0 1) := by
  have hA : ∀ c ∈ [48], 48 ≤ c ∧ c ≤ 57 := by simp
  have hx1 := no_x (fun c hc => Or.inr (hA c hc)) (show 57 < 120 by decide)
  have hx2 := no_x (fun c hc => Or.inr (hA c hc)) (show 57 < 88 by decide)
  have e1 : ([48].drop (([48] : List Nat).length : Int).toNat).take (((([48] : List Nat).length : Int) + 1).toNat - (([48] : List Nat).length : Int).toNat) = [] := rfl
  have e2 : [48].take (([48] : List Nat).length : Int).toNat = [48] := rfl
  have hdg : ∀ c ∈ ([48] ++ [] : List Nat), 48 ≤ c ∧ c ≤ 57 := hA
  have hlz : ([48] ++ [] : List Nat).length ≤ 12 := by decide
  have hsz : ([48] : List Nat).length ≤ 8 := by decide
  unfold SpecO
  k_fill
  intro dp un gd cn cs a ccd cl outer A₀ base h₀ L m news s Q E B F X N T hk hpre hd hu hret
  refine wpAny_call ?_
  k_dflt cell_enter
  refine abs_A ?_
  intro A9a
  repeat' ((fail_if_success (with_reducible show wpAny _ _ (PySem.exec (PySem.Stmt.While _ _ _ _) _) _ _ _)); (fail_if_success (with_reducible show wpAny _ _ (PySem.exec (PySem.Stmt.For _ _ _ _ _) _) _ _ _)); (fail_if_success (with_reducible show wpAny _ _ (PySem.exec (PySem.Stmt.Assign _ (PySem.Expr.ListComp _ _ _ _) _) _) _ _ _)); (fail_if_success (with_reducible show wpAny _ _ (PySem.eval (PySem.Expr.ListComp _ _ _ _) _) _ _ _)); (fail_if_success (with_reducible show LCg.CompSrc _ _ _ _ _ _ _ _ _ _ _ _ _ _)); (fail_if_success (with_reducible show LCt.CompSrcT _ _ _ _ _ _ _ _ _ _ _ _ _ _ _)); (fail_if_success (with_reducible show LCg.CompEnd _ _ _ _ _ _ _ _ _ _ _ _ _ _)); (fail_if_success (with_reducible show KswEnd _ _ _ _ _ _ _ _ _ _ _ _)); (fail_if_success (with_reducible show UnrEnd _ _ _ _ _ _ _)); first | (k_unfold; (try dsimp only)) | (k_end; wrow_close) | ((with_reducible show wpAny _ _ (PySem.call (Value.ref _) _) _ _ _); first | (with_reducible ((with_reducible show wpAny _ _ (PySem.call (Value.ref 254) _) _ _ _); k_dflt (refine' useO (powered_nz _ _ _ _ _ _ _ _ ?kq1) ?k1 ?k2 ?k3 ?k4 ?k5 ?kK ?kp ?kd ?ku ?_; (case k1 => k_asm); (case k2 => k_asm); (case k3 => k_asm); (case k4 => k_asm); (case k5 => k_asm); (case kK => first | exact rfl | assumption); (case kp => trivial); (case kd => ktr_room); (case ku => ktr_units); (case kq1 => omega); intro r9z nw9z h9z tk9z F9z N9z hr9z; obtain ⟨D9z, t91, t92, c9z, l9z, hr9z, hn9z⟩ := hr9z; subst hr9z; subst hn9z; (try dsimp only); (try k_sweep)))) | (with_reducible ((with_reducible show wpAny _ _ (PySem.call (Value.ref 254) _) _ _ _); k_dflt (refine' useV (powered_z _ _ _ _ _ _ _) ?k1 ?k2 ?k3 ?k4 ?k5 ?kK ?kp ?kd ?ku ?_; (case k1 => k_asm); (case k2 => k_asm); (case k3 => k_asm); (case k4 => k_asm); (case k5 => k_asm); (case kK => first | exact rfl | assumption); (case kp => trivial); (case kd => ktr_room); (case ku => ktr_units); intro r9z h9z tk9z F9z N9z hr9z; subst hr9z; (try dsimp only); (try k_sweep)))) | (with_reducible ((with_reducible show wpAny _ _ (PySem.call (Value.ref 94) _) _ _ _); k_dflt (refine' useO (make_fr _ _ _ _ _ _ _ _ _ _ _ ?kq1 ?kq2 ?kq3 ?kq4 ?kq5) ?k1 ?k2 ?k3 ?k4 ?k5 ?kK ?kp ?kd ?ku ?_; (case k1 => k_asm); (case k2 => k_asm); (case k3 => k_asm); (case k4 => k_asm); (case k5 => k_asm); (case kK => first | exact rfl | assumption); (case kp => trivial); (case kd => ktr_room); (case ku => ktr_units); (case kq1 => assumption); (case kq2 => assumption); (case kq3 => assumption); (case kq4 => assumption); (case kq5 => omega); intro r9z nw9z h9z tk9z F9z N9z hr9z; obtain ⟨D9z, t91, t92, c9z, l9z, hr9z, hn9z⟩ := hr9z; subst hr9z; subst hn9z; (try dsimp only); (try k_sweep)))) | (with_reducible ((with_reducible show wpAny _ _ (PySem.call (Value.ref 94) _) _ _ _); k_dflt (refine' useO (make_in _ _ _ _ _ _ _) ?k1 ?k2 ?k3 ?k4 ?k5 ?kK ?kp ?kd ?ku ?_; (case k1 => k_asm); (case k2 => k_asm); (case k3 => k_asm); (case k4 => k_asm); (case k5 => k_asm); (case kK => first | exact rfl | assumption); (case kp => trivial); (case kd => ktr_room); (case ku => ktr_units); intro r9z nw9z h9z tk9z F9z N9z hr9z; obtain ⟨D9z, t91, t92, c9z, l9z, hr9z, hn9z⟩ := hr9z; subst hr9z; subst hn9z; (try dsimp only); (try k_sweep)))) | (with_reducible ((with_reducible show wpAny _ _ (PySem.call (Value.ref 233) _) _ _ _); k_dflt (refine' useV (digits_value_spec _ _ _ _ _ _ _ ?kq1 ?kq2) ?k1 ?k2 ?k3 ?k4 ?k5 ?kK ?kp ?kd ?ku ?_; (case k1 => k_asm); (case k2 => k_asm); (case k3 => k_asm); (case k4 => k_asm); (case k5 => k_asm); (case kK => first | exact rfl | assumption); (case kp => trivial); (case kd => ktr_room); (case ku => ktr_units); (case kq1 => assumption); (case kq2 => assumption); intro r9z h9z tk9z F9z N9z hr9z; obtain ⟨t9z, hr9z⟩ := hr9z; subst hr9z; (try dsimp only); (try k_sweep)))) | (with_reducible ((with_reducible show wpAny _ _ (PySem.call (Value.ref 240) _) _ _ _); k_dflt (refine' useV (run_a _ _ _ _ _ _ _ _ _ ?kq1 ?kq2 ?kq3) ?k1 ?k2 ?k3 ?k4 ?k5 ?kK ?kp ?kd ?ku ?_; (case k1 => k_asm); (case k2 => k_asm); (case k3 => k_asm); (case k4 => k_asm); (case k5 => k_asm); (case kK => first | exact rfl | assumption); (case kp => trivial); (case kd => ktr_room); (case ku => ktr_units); (case kq1 => assumption); (case kq2 => assumption); (case kq3 => omega); intro r9z h9z tk9z F9z N9z hr9z; obtain ⟨t9z, hr9z⟩ := hr9z; subst hr9z; (try dsimp only); (try k_sweep)))) | (with_reducible ((with_reducible show wpAny _ _ (PySem.call (Value.ref 240) _) _ _ _); k_dflt (refine' useV (run_b _ _ _ _ _ _ _ _ _ ?kq1 ?kq2 ?kq3) ?k1 ?k2 ?k3 ?k4 ?k5 ?kK ?kp ?kd ?ku ?_; (case k1 => k_asm); (case k2 => k_asm); (case k3 => k_asm); (case k4 => k_asm); (case k5 => k_asm); (case kK => first | exact rfl | assumption); (case kp => trivial); (case kd => ktr_room); (case ku => ktr_units); (case kq1 => assumption); (case kq2 => assumption); (case kq3 => omega); intro r9z h9z tk9z F9z N9z hr9z; obtain ⟨t9z, hr9z⟩ := hr9z; subst hr9z; (try dsimp only); (try k_sweep)))) | (with_reducible ((with_reducible show wpAny _ _ (PySem.call (Value.ref 240) _) _ _ _); k_dflt (refine' useV (run_c _ _ _ _ _ _ _ _ ?kq1 ?kq3) ?k1 ?k2 ?k3 ?k4 ?k5 ?kK ?kp ?kd ?ku ?_; (case k1 => k_asm); (case k2 => k_asm); (case k3 => k_asm); (case k4 => k_asm); (case k5 => k_asm); (case kK => first | exact rfl | assumption); (case kp => trivial); (case kd => ktr_room); (case ku => ktr_units); (case kq1 => assumption); (case kq3 => omega); intro r9z h9z tk9z F9z N9z hr9z; obtain ⟨t9z, hr9z⟩ := hr9z; subst hr9z; (try dsimp only); (try k_sweep))))) | (with_reducible ((with_reducible show wpAny _ _ (subscriptTail _ (Expr.Slice _ _ _ _) (Value.str (sO _) _) (Value.ref _)) _ _ _); (with_reducible rename Fr _ _ _ _ => F9y); (with_reducible rename News _ _ _ _ => N9y); first | (refine cutto_ss (s := ⟨_, _, _, _, _⟩) F9y N9y (by omega) (by omega) (by first | omega | (simp; omega)) (by assumption) ?_; intro h9z t9z k9z F9z N9z; (try k_sweep)) | (refine cutto_sn (s := ⟨_, _, _, _, _⟩) F9y N9y (by omega) (by first | omega | (simp; omega)) (by assumption) ?_; intro h9z t9z k9z F9z N9z; (try k_sweep)) | (refine cutto_ns (s := ⟨_, _, _, _, _⟩) F9y N9y (by omega) (by first | omega | (simp; omega)) (by assumption) ?_; intro h9z t9z k9z F9z N9z; (try k_sweep)))) | (with_reducible ((with_reducible show wpAny _ _ (subscriptTail _ (Expr.Slice _ _ _ _) (Value.str (sO _) _) (Value.ref _)) _ _ _); (with_reducible rename Fr _ _ _ _ => F9y); (with_reducible rename News _ _ _ _ => N9y); first | (refine cut_ss (s := ⟨_, _, _, _, _⟩) F9y N9y (by omega) (by omega) (by first | omega | (simp; omega)) ?_; intro h9z t9z k9z F9z N9z; (try k_sweep)) | (refine cut_sn (s := ⟨_, _, _, _, _⟩) F9y N9y (by omega) (by first | omega | (simp; omega)) ?_; intro h9z t9z k9z F9z N9z; (try k_sweep)) | (refine cut_ns (s := ⟨_, _, _, _, _⟩) F9y N9y (by omega) (by first | omega | (simp; omega)) ?_; intro h9z t9z k9z F9z N9z; (try k_sweep)))) | (with_reducible ((with_reducible show wpAny _ _ (subscriptTail _ _ (PySem.Value.ref _) (PySem.Value.int _ _)) _ _ _); (k_dflt (refine' item_tupleT ?t ?a ?b ?c ?d ?_; (case t => exact News.isTup (by k_asm) (by k_mem)); (case a => decide); (case b => decide); (case c => rfl); (case d => rfl); k_whole)))) | (with_reducible ((with_reducible show wpAny _ _ (binaryOp _ (Value.str (sO _) _) (Value.str (sO _) _)) _ _ _); (refine' add_sO ?hx ?hy ?hz ?_; (case hx => (with_reducible exact rfl)); (case hy => (with_reducible exact rfl)); (case hz => first | omega | (simp; omega))); intro t9z k9z)) | (with_reducible ((with_reducible show wpAny _ _ (compareOp _ (Value.str (sO _) _) (Value.str (Str.ofString _) _)) _ _ _); first | (refine' eq_ne ?hx ?hn ?_; (case hx => ((with_reducible first | exact lit_0 | exact lit_dot | exact lit_none | exact lit_NA | exact lit_NaN | exact lit_inf | exact lit_infinity | exact lit_minus | exact lit_plus | exact lit_0x | exact lit_0X))); (case hn => first | assumption | (intro h; cases h; done))) | (refine' eq_yes ?hx ?hn ?_; (case hx => ((with_reducible first | exact lit_0 | exact lit_dot | exact lit_none | exact lit_NA | exact lit_NaN | exact lit_inf | exact lit_infinity | exact lit_minus | exact lit_plus | exact lit_0x | exact lit_0X))); (case hn => first | assumption | exact rfl)))) | (with_reducible ((with_reducible show wpAny _ _ (PySem.binaryOp PySem.Operator.Add (PySem.Value.str _ _) (PySem.Value.str _ _)) _ _ _); ((refine' add_sO ?hx ?hy ?hz ?_; (case hx => first | ((with_reducible first | exact lit_0 | exact lit_dot | exact lit_none | exact lit_NA | exact lit_NaN | exact lit_inf | exact lit_infinity | exact lit_minus | exact lit_plus | exact lit_0x | exact lit_0X)) | (with_reducible exact rfl)); (case hy => first | ((with_reducible first | exact lit_0 | exact lit_dot | exact lit_none | exact lit_NA | exact lit_NaN | exact lit_inf | exact lit_infinity | exact lit_minus | exact lit_plus | exact lit_0x | exact lit_0X)) | (with_reducible exact rfl)); (case hz => (simp; omega))); intro t9z k9z))) | (with_reducible ((with_reducible show wpAny _ _ (compareOp _ (Value.str (sO _) _) (Value.str (Str.ofString _) _)) _ _ _); refine' eq_lit ?hx ?_; (case hx => ((with_reducible first | exact lit_0 | exact lit_dot | exact lit_none | exact lit_NA | exact lit_NaN | exact lit_inf | exact lit_infinity | exact lit_minus | exact lit_plus | exact lit_0x | exact lit_0X))))) | ((with_reducible show wpAny _ _ (PySem.eval (PySem.Expr.Call (PySem.Expr.Name _ _) _ _) _) _ _ _); (refine Call_ ?_)) | (with_reducible ((with_reducible show wpAny _ _ (PySem.call (Value.builtin "len") [Value.str (sO _) _]) _ _ _); refine len_sO (by first | omega | (simp; omega)) ?_; intro u9z k9z)) | (with_reducible ((with_reducible show wpAny _ _ (eval (Expr.Name _ _) (envOf _ _ _ _ _)) _ _ _); k_dflt (refine' ld ?k1 ?k2 ?_; (case k1 => k_asm); (case k2 => exact rfl); k_whole))) | ((with_reducible show wpAny _ _ (PySem.execs (List.cons _ _) _) _ _ _); walk1; (try (refine gen_s ?_; intro tkG; (try dsimp only); (try k_fold)))) | (walk1; (try dsimp only)) | (dsimp only; walk1) | (leave1; (try dsimp only)) | fail "no step")
  exact hret _ _ _ _ (by k_asm) (by k_asm) (NumRes.zero (by ((repeat' first | exact Grew.refl _ | assumption | (refine Grew.cons ?_ (by (first | assumption | (refine ktn_ltOf ?_; (try simp only [AllLt, and_true]); (repeat' first | assumption | omega | (refine And.intro ?_ ?_)); all_goals first | (rename _ ∧ AllLt _ _ => l8; exact tbn_up (by omega) l8.2) | (rename _ ∧ _ ∧ AllLt _ _ => l8; exact tbn_up (by omega) l8.2.2) | (rename _ ∧ _ ∧ _ ∧ AllLt _ _ => l8; exact tbn_up (by omega) l8.2.2.2) | (rename _ ∧ _ ∧ _ ∧ _ ∧ AllLt _ _ => l8; exact tbn_up (by omega) l8.2.2.2.2) | (rename _ ∧ _ ∧ _ ∧ _ ∧ _ ∧ AllLt _ _ => l8; exact tbn_up (by omega) l8.2.2.2.2.2) | (rename _ ∧ _ ∧ _ ∧ _ ∧ _ ∧ _ ∧ AllLt _ _ => l8; exact tbn_up (by omega) l8.2.2.2.2.2.2) | (rename _ ∧ _ ∧ _ ∧ _ ∧ _ ∧ _ ∧ _ ∧ AllLt _ _ => l8; exact tbn_up (by omega) l8.2.2.2.2.2.2.2) | (rename _ ∧ _ ∧ _ ∧ _ ∧ _ ∧ _ ∧ _ ∧ _ ∧ AllLt _ _ => l8; exact tbn_up (by omega) l8.2.2.2.2.2.2.2.2) | (rename ∀ p ∈ (_ : Led), Prod.fst p < _ => l8; exact tbn_up (by omega) (allLt_of l8)) | (rename ∀ p ∈ (_ :: _ : Led), Prod.fst p < _ => l8; exact allLt_of fun p hp => l8 p (.tail _ hp)))))) | (refine Grew.trans ?_ (by assumption))))) (.head _))

example : True := by (w_top off; exact True.intro)
theorem strip_none {x : Str} {p : Nat → Bool} (h : ∀ c ∈ x.cps.toList, p c = false) : Txt.stripBy p true true x = x := by
  have lo : stripLo p true x = 0 := by
    simp only [stripLo, if_true]
    cases hx : x.cps.toList with
    | nil => rfl
    | cons c l => simp [h c (by rw [hx]; exact .head _)]
  have hi : stripHi p true x 0 = x.length := by
    simp only [stripHi, if_true, List.drop_zero]
    cases hr : x.cps.toList.reverse with
    | nil => rfl
    | cons c l =>
      have hm : c ∈ x.cps.toList := List.mem_reverse.mp (by rw [hr]; exact .head _)
      simp [h c hm]
  have hsame : stripSame p true true x = true := by
    unfold stripSame
    rw [lo, hi]
    simp
  unfold Txt.stripBy
  rw [if_pos hsame]
theorem strip_num {l : List Nat} (h : ∀ c ∈ l, 33 ≤ c) : Txt.stripChars (sO l) (Str.ofString " \t\n\r\x0c\x0b") = sO l := by
  refine strip_none fun c hc => ?_
  have hc := h c (by simpa using hc)
  rw [show Str.ofString " \t\n\r\x0c\x0b" = ⟨#[32, 9, 10, 13, 12, 11]⟩ by decide +kernel]
  have : ∀ d ∈ #[32, 9, 10, 13, 12, 11], d ≠ c := by
    intro d hd
    simp at hd
    omega
  simpa using fun hm => this c hm rfl
theorem lower_sO {prog : Program} {w : World} {A : Around} {E : Value → Shared → Prop} {s : Shared} {Q : Value → Shared → Prop} {l : List Nat} {t : Tok} (hc : ∀ c ∈ l, c = 46 ∨ (48 ≤ c ∧ c ≤ 57)) (hz : l.length ≤ 1000) (h : ∀ u k, Q (.str (sO l) u) { s with toks := k }) : wpAny (model prog w) A (call (.builtin "str.lower") [.str (sO l) t]) Q E s :=
  KXs.lower_K (fun d hd => by have := hc d (by simpa using hd); omega) (by simp [Str.length]; omega) h
theorem strip_sO {prog : Program} {w : World} {A : Around} {E : Value → Shared → Prop} {s : Shared} {Q : Value → Shared → Prop} {l : List Nat} {t u : Tok} (hc : ∀ c ∈ l, 33 ≤ c) (hz : l.length ≤ 1000) (h : ∀ u k, Q (.str (sO l) u) { s with toks := k }) :
    wpAny (model prog w) A (call (.builtin "str.strip") [.str (sO l) t, .str (Str.ofString " \t\n\r\x0c\x0b") u]) Q E s :=
  KXw.stripChars (strip_num hc) (by simp [Str.length, sizeLine]; omega) h
theorem item_is {prog : Program} {w : World} {A : Around} {E : Value → Shared → Prop} {s : Shared} {value slice : Expr} {l : List Nat} {t : Tok} {Q : Value → Shared → Prop} {u : Tok} {c : Nat} (he : ∃ r, l = c :: r) (h : ∀ tk k, Q (.str (sO [c]) tk) { s with toks := k })
    (hs : subscripted slice false (.str (sO l) t) (.int 0 u) = operate [.str (sO l) t, .int 0 u] (getItem (.str (sO l) t) (.int 0 u)) := by with_unfolding_all rfl)
    (ht : ∀ r, letTemporaryGo value (.str (sO l) t) r = pure () := by intro _; with_unfolding_all rfl) :
    wpAny (model prog w) A (subscriptTail value slice (.str (sO l) t) (.int 0 u)) Q E s := by
  obtain ⟨r, rfl⟩ := he
  exact item_at (by decide) (by simp) (by decide) (fun tk k => h tk k) hs ht

theorem NumRes.up {n d : Int} {D D' : Addr} {news nw : Led} (g : Grew news nw) (h : FrzNew news nw n d D) (hl : ∀ p ∈ nw, p.1 < D') : NumRes n d (.ref D') news ((D', { cls := .type "tuple", data := .seq #[.bool true, .ref D] }) :: nw) :=
  ⟨g.cons hl, D', D, 0, rfl, .head _, h.imp (fun ⟨t1, t2, c, hm, hD⟩ => ⟨t1, t2, c, .tail _ hm, hD⟩) id⟩
theorem parse_pos (w mean mg mb) (l : List Nat) (n d : Int) (c : Nat) (t1 : Tok) (hs : ∀ c ∈ l, c = 46 ∨ (48 ≤ c ∧ c ≤ 57)) (hc : ∃ r, l = c :: r) (hz : l.length ≤ 9)
    (U : ∀ t, SpecO w mean mg mb 261 26 300 [.str (sO l) t] (fun _ => True) (NumRes n d)) : SpecO w mean mg mb 268 27 330 [.str (sO l) t1] (fun _ => True) (NumRes n d) := by
  have hlo : ∀ c ∈ l, 33 ≤ c := fun c hc => by have := hs c hc; omega
  have hno : ∀ x r, 57 < x → ¬ l = x :: r := fun x r hx e => by
    have := hs x (by rw [e]; exact .head _)
    omega
  have hne : ¬ l = [] := by obtain ⟨r, e⟩ := hc; rw [e]; exact fun h => nomatch h
  have hNA := hno 78 [65] (by decide)
  have hNaN := hno 78 [97, 78] (by decide)
  have hinf := hno 105 [110, 102] (by decide)
  have hinfy := hno 105 [110, 102, 105, 110, 105, 116, 121] (by decide)
  have hcs : c = 46 ∨ (48 ≤ c ∧ c ≤ 57) := by obtain ⟨r, e⟩ := hc; exact hs c (by rw [e]; exact .head _)
  have hm : ¬ [c] = [45] := by simp; omega
  have hp : ¬ [c] = [43] := by simp; omega
  unfold SpecO
  k_fill
  intro dp un gd cn cs a ccd cl outer A₀ base h₀ L m news s Q E B F X N T hk hpre hd hu hret
  refine wpAny_call ?_
  k_dflt cell_enter
  refine abs_A ?_
  intro A9a
  repeat' ((fail_if_success (with_reducible show wpAny _ _ (PySem.exec (PySem.Stmt.While _ _ _ _) _) _ _ _)); (fail_if_success (with_reducible show wpAny _ _ (PySem.exec (PySem.Stmt.For _ _ _ _ _) _) _ _ _)); (fail_if_success (with_reducible show wpAny _ _ (PySem.exec (PySem.Stmt.Assign _ (PySem.Expr.ListComp _ _ _ _) _) _) _ _ _)); (fail_if_success (with_reducible show wpAny _ _ (PySem.eval (PySem.Expr.ListComp _ _ _ _) _) _ _ _)); (fail_if_success (with_reducible show LCg.CompSrc _ _ _ _ _ _ _ _ _ _ _ _ _ _)); (fail_if_success (with_reducible show LCt.CompSrcT _ _ _ _ _ _ _ _ _ _ _ _ _ _ _)); (fail_if_success (with_reducible show LCg.CompEnd _ _ _ _ _ _ _ _ _ _ _ _ _ _)); (fail_if_success (with_reducible show KswEnd _ _ _ _ _ _ _ _ _ _ _ _)); (fail_if_success (with_reducible show UnrEnd _ _ _ _ _ _ _)); first | (k_unfold; (try dsimp only)) | (k_end; wrow_close) | ((with_reducible show wpAny _ _ (PySem.call (Value.ref _) _) _ _ _); first | (with_reducible ((with_reducible show wpAny _ _ (PySem.call (Value.ref 261) _) _ _ _); (rename ∀ t : Tok, SpecO _ _ _ _ 261 _ _ _ _ _ => U9z); k_dflt (refine' useO (U9z _) ?k1 ?k2 ?k3 ?k4 ?k5 ?kK ?kp ?kd ?ku ?_; (case k1 => k_asm); (case k2 => k_asm); (case k3 => k_asm); (case k4 => k_asm); (case k5 => k_asm); (case kK => first | exact rfl | assumption); (case kp => trivial); (case kd => ktr_room); (case ku => ktr_units); intro r9z nw9z h9z tk9z F9z N9z hr9z; obtain ⟨g9z, R9z, D9z, c9z, hr9z, hm9z, hi9z⟩ := hr9z; subst hr9z; (try dsimp only); (try k_sweep)))) | (with_reducible ((with_reducible show wpAny _ _ (PySem.call (Value.ref 218) _) _ _ _); k_dflt (refine' useO (common_texts_spec _ _ _ _ _ _ _ _ _ _ _ _ _ _ _ ?kq) ?k1 ?k2 ?k3 ?k4 ?k5 ?kK ?kp ?kd ?ku ?_; (case k1 => k_asm); (case k2 => k_asm); (case k3 => k_asm); (case k4 => k_asm); (case k5 => k_asm); (case kK => first | exact rfl | assumption); (case kp => (refine ⟨?_, ?_⟩ <;> k_mem)); (case kd => ktr_room); (case ku => ktr_units); (case kq => assumption); intro r9z nw9z h9z tk9z F9z N9z hr9z; obtain ⟨D9z, t91, hr9z, hn9z⟩ := hr9z; subst hr9z; subst hn9z; (try dsimp only); (try k_sweep))))) | (with_reducible ((with_reducible show wpAny _ _ (subscriptTail _ _ (Value.str (sO _) _) (Value.int 0 _)) _ _ _); (refine item_is (by first | assumption | exact ⟨_, rfl⟩) ?_); intro t9z k9z)) | (with_reducible ((with_reducible show wpAny _ _ (subscriptTail _ (Expr.Slice _ _ _ _) (Value.str (sO _) _) (Value.ref _)) _ _ _); (with_reducible rename Fr _ _ _ _ => F9y); (with_reducible rename News _ _ _ _ => N9y); first | (refine cutto_ss (s := ⟨_, _, _, _, _⟩) F9y N9y (by omega) (by omega) (by first | omega | (simp; omega)) (by assumption) ?_; intro h9z t9z k9z F9z N9z; (try k_sweep)) | (refine cutto_sn (s := ⟨_, _, _, _, _⟩) F9y N9y (by omega) (by first | omega | (simp; omega)) (by assumption) ?_; intro h9z t9z k9z F9z N9z; (try k_sweep)) | (refine cutto_ns (s := ⟨_, _, _, _, _⟩) F9y N9y (by omega) (by first | omega | (simp; omega)) (by assumption) ?_; intro h9z t9z k9z F9z N9z; (try k_sweep)))) | (with_reducible ((with_reducible show wpAny _ _ (compareOp _ (Value.str (sO _) _) (Value.str (Str.ofString _) _)) _ _ _); first | (refine' eq_ne ?hx ?hn ?_; (case hx => ((with_reducible first | exact lit_0 | exact lit_dot | exact lit_none | exact lit_NA | exact lit_NaN | exact lit_inf | exact lit_infinity | exact lit_minus | exact lit_plus | exact lit_0x | exact lit_0X))); (case hn => first | assumption | (intro h; cases h; done))) | (refine' eq_yes ?hx ?hn ?_; (case hx => ((with_reducible first | exact lit_0 | exact lit_dot | exact lit_none | exact lit_NA | exact lit_NaN | exact lit_inf | exact lit_infinity | exact lit_minus | exact lit_plus | exact lit_0x | exact lit_0X))); (case hn => first | assumption | exact rfl)))) | ((with_reducible show wpAny _ _ (PySem.eval (PySem.Expr.Call (PySem.Expr.Name _ _) _ _) _) _ _ _); (refine Call_ ?_)) | (with_reducible ((with_reducible show wpAny _ _ (PySem.call (PySem.Value.builtin "str.strip") _) _ _ _); ((refine strip_sO ?kc ?kz ?_); (case kc => assumption); (case kz => first | omega | (simp; omega)); intro u9z k9z))) | (with_reducible ((with_reducible show wpAny _ _ (PySem.call (PySem.Value.builtin "str.lower") _) _ _ _); ((with_reducible refine lower_sO ?kc ?kz ?_); (case kc => assumption); (case kz => omega); intro u9z k9z))) | (with_reducible ((with_reducible show wpAny _ _ (eval (Expr.Name _ _) (envOf _ _ _ _ _)) _ _ _); k_dflt (refine' ld ?k1 ?k2 ?_; (case k1 => k_asm); (case k2 => exact rfl); k_whole))) | ((with_reducible show wpAny _ _ (PySem.execs (List.cons _ _) _) _ _ _); walk1; (try (refine gen_s ?_; intro tkG; (try dsimp only); (try k_fold)))) | (walk1; (try dsimp only)) | (dsimp only; walk1) | (leave1; (try dsimp only)) | fail "no step")
  exact hret _ _ _ _ (by k_asm) (by k_asm) (NumRes.up (by assumption) (by assumption) (by (first | assumption | (refine ktn_ltOf ?_; (try simp only [AllLt, and_true]); (repeat' first | assumption | omega | (refine And.intro ?_ ?_)); all_goals first | (rename _ ∧ AllLt _ _ => l8; exact tbn_up (by omega) l8.2) | (rename _ ∧ _ ∧ AllLt _ _ => l8; exact tbn_up (by omega) l8.2.2) | (rename _ ∧ _ ∧ _ ∧ AllLt _ _ => l8; exact tbn_up (by omega) l8.2.2.2) | (rename _ ∧ _ ∧ _ ∧ _ ∧ AllLt _ _ => l8; exact tbn_up (by omega) l8.2.2.2.2) | (rename _ ∧ _ ∧ _ ∧ _ ∧ _ ∧ AllLt _ _ => l8; exact tbn_up (by omega) l8.2.2.2.2.2) | (rename _ ∧ _ ∧ _ ∧ _ ∧ _ ∧ _ ∧ AllLt _ _ => l8; exact tbn_up (by omega) l8.2.2.2.2.2.2) | (rename _ ∧ _ ∧ _ ∧ _ ∧ _ ∧ _ ∧ _ ∧ AllLt _ _ => l8; exact tbn_up (by omega) l8.2.2.2.2.2.2.2) | (rename _ ∧ _ ∧ _ ∧ _ ∧ _ ∧ _ ∧ _ ∧ _ ∧ AllLt _ _ => l8; exact tbn_up (by omega) l8.2.2.2.2.2.2.2.2) | (rename ∀ p ∈ (_ : Led), Prod.fst p < _ => l8; exact tbn_up (by omega) (allLt_of l8)) | (rename ∀ p ∈ (_ :: _ : Led), Prod.fst p < _ => l8; exact allLt_of fun p hp => l8 p (.tail _ hp))))))
theorem FrzNew.tup {news nw : Led} {n d : Int} {D : Addr} (h : FrzNew news nw n d D) (h0 : n ≠ 0) : ∃ t1 t2 c, (D, tupO [.int n t1, .int d t2] c) ∈ nw := by
  rcases h with ⟨t1, t2, c, h, _⟩ | ⟨_, e0, _⟩
  · exact ⟨t1, t2, c, h⟩
  · exact absurd e0 h0
theorem parse_neg (w mean mg mb) (l : List Nat) (n d : Int) (t1 : Tok) (hs : ∀ c ∈ l, c = 46 ∨ (48 ≤ c ∧ c ≤ 57)) (h0 : n ≠ 0) (hz : l.length ≤ 9)
    (U : ∀ t, SpecO w mean mg mb 261 26 300 [.str (sO l) t] (fun _ => True) (NumRes n d)) : SpecO w mean mg mb 268 27 330 [.str (sO (45 :: l)) t1] (fun _ => True) (NumRes (-n) d) := by
  have hlo : ∀ c ∈ 45 :: l, 33 ≤ c := fun c hc => by
    rcases List.mem_cons.mp hc with h | h
    · omega
    · have := hs c h; omega
  have hno : ∀ x r, 57 < x → ¬ l = x :: r := fun x r hx e => by
    have := hs x (by rw [e]; exact .head _)
    omega
  have hNA : ¬ 45 :: l = [78, 65] := by simp
  have hnil : ¬ 45 :: l = [] := by simp
  have hNaN := hno 78 [97, 78] (by decide)
  have hinf := hno 105 [110, 102] (by decide)
  have hinfy := hno 105 [110, 102, 105, 110, 105, 116, 121] (by decide)
  have hdr : (45 :: l).drop (Int.toNat 1) = l := rfl
  unfold SpecO
  k_fill
  intro dp un gd cn cs a ccd cl outer A₀ base h₀ L m news s Q E B F X N T hk hpre hd hu hret
  refine wpAny_call ?_
  k_dflt cell_enter
  refine abs_A ?_
  intro A9a
  repeat' ((fail_if_success (with_reducible show wpAny _ _ (PySem.exec (PySem.Stmt.While _ _ _ _) _) _ _ _)); (fail_if_success (with_reducible show wpAny _ _ (PySem.exec (PySem.Stmt.For _ _ _ _ _) _) _ _ _)); (fail_if_success (with_reducible show wpAny _ _ (PySem.exec (PySem.Stmt.Assign _ (PySem.Expr.ListComp _ _ _ _) _) _) _ _ _)); (fail_if_success (with_reducible show wpAny _ _ (PySem.eval (PySem.Expr.ListComp _ _ _ _) _) _ _ _)); (fail_if_success (with_reducible show LCg.CompSrc _ _ _ _ _ _ _ _ _ _ _ _ _ _)); (fail_if_success (with_reducible show LCt.CompSrcT _ _ _ _ _ _ _ _ _ _ _ _ _ _ _)); (fail_if_success (with_reducible show LCg.CompEnd _ _ _ _ _ _ _ _ _ _ _ _ _ _)); (fail_if_success (with_reducible show KswEnd _ _ _ _ _ _ _ _ _ _ _ _)); (fail_if_success (with_reducible show UnrEnd _ _ _ _ _ _ _)); first | (k_unfold; (try dsimp only)) | (k_end; wrow_close) | ((with_reducible show wpAny _ _ (PySem.call (Value.ref _) _) _ _ _); first | (with_reducible ((with_reducible show wpAny _ _ (PySem.call (Value.ref 122) _) _ _ _); k_dflt (refine' useO (neg_spec _ _ _ _ _ _ _ _ _ _) ?k1 ?k2 ?k3 ?k4 ?k5 ?kK ?kp ?kd ?ku ?_; (case k1 => k_asm); (case k2 => k_asm); (case k3 => k_asm); (case k4 => k_asm); (case k5 => k_asm); (case kK => first | exact rfl | assumption); (case kp => k_mem); (case kd => ktr_room); (case ku => ktr_units); intro r9z nw9z h9z tk9z F9z N9z hr9z; obtain ⟨D9z, t91, t92, c9z, l9z, hr9z, hn9z⟩ := hr9z; subst hr9z; subst hn9z; (try dsimp only); (try k_sweep)))) | (with_reducible ((with_reducible show wpAny _ _ (PySem.call (Value.ref 261) _) _ _ _); (rename ∀ t : Tok, SpecO _ _ _ _ 261 _ _ _ _ _ => U9z); k_dflt (refine' useO (U9z _) ?k1 ?k2 ?k3 ?k4 ?k5 ?kK ?kp ?kd ?ku ?_; (case k1 => k_asm); (case k2 => k_asm); (case k3 => k_asm); (case k4 => k_asm); (case k5 => k_asm); (case kK => first | exact rfl | assumption); (case kp => trivial); (case kd => ktr_room); (case ku => ktr_units); intro r9z nw9z h9z tk9z F9z N9z hr9z; obtain ⟨g9z, R9z, D9z, c9z, hr9z, hm9z, hi9z⟩ := hr9z; subst hr9z; (try (obtain ⟨u1, u2, u3, hm8⟩ := FrzNew.tup hi9z (by assumption))); (try dsimp only); (try k_sweep))))) | (with_reducible ((with_reducible show wpAny _ _ (subscriptTail _ _ (Value.str (sO _) _) (Value.int 0 _)) _ _ _); (refine item_is (by first | assumption | exact ⟨_, rfl⟩) ?_); intro t9z k9z)) | (with_reducible ((with_reducible show wpAny _ _ (subscriptTail _ (Expr.Slice _ _ _ _) (Value.str (sO _) _) (Value.ref _)) _ _ _); (with_reducible rename Fr _ _ _ _ => F9y); (with_reducible rename News _ _ _ _ => N9y); first | (refine cutto_ss (s := ⟨_, _, _, _, _⟩) F9y N9y (by omega) (by omega) (by first | omega | (simp; omega)) (by assumption) ?_; intro h9z t9z k9z F9z N9z; (try k_sweep)) | (refine cutto_sn (s := ⟨_, _, _, _, _⟩) F9y N9y (by omega) (by first | omega | (simp; omega)) (by assumption) ?_; intro h9z t9z k9z F9z N9z; (try k_sweep)) | (refine cutto_ns (s := ⟨_, _, _, _, _⟩) F9y N9y (by omega) (by first | omega | (simp; omega)) (by assumption) ?_; intro h9z t9z k9z F9z N9z; (try k_sweep)))) | (with_reducible ((with_reducible show wpAny _ _ (compareOp _ (Value.str (sO _) _) (Value.str (Str.ofString _) _)) _ _ _); first | (refine' eq_ne ?hx ?hn ?_; (case hx => ((with_reducible first | exact lit_0 | exact lit_dot | exact lit_none | exact lit_NA | exact lit_NaN | exact lit_inf | exact lit_infinity | exact lit_minus | exact lit_plus | exact lit_0x | exact lit_0X))); (case hn => first | assumption | (intro h; cases h; done))) | (refine' eq_yes ?hx ?hn ?_; (case hx => ((with_reducible first | exact lit_0 | exact lit_dot | exact lit_none | exact lit_NA | exact lit_NaN | exact lit_inf | exact lit_infinity | exact lit_minus | exact lit_plus | exact lit_0x | exact lit_0X))); (case hn => first | assumption | exact rfl)))) | ((with_reducible show wpAny _ _ (PySem.eval (PySem.Expr.Call (PySem.Expr.Name _ _) _ _) _) _ _ _); (refine Call_ ?_)) | (with_reducible ((with_reducible show wpAny _ _ (PySem.call (PySem.Value.builtin "str.strip") _) _ _ _); ((refine strip_sO ?kc ?kz ?_); (case kc => assumption); (case kz => first | omega | (simp; omega)); intro u9z k9z))) | (with_reducible ((with_reducible show wpAny _ _ (PySem.call (PySem.Value.builtin "str.lower") _) _ _ _); ((with_reducible refine lower_sO ?kc ?kz ?_); (case kc => assumption); (case kz => omega); intro u9z k9z))) | (with_reducible ((with_reducible show wpAny _ _ (eval (Expr.Name _ _) (envOf _ _ _ _ _)) _ _ _); k_dflt (refine' ld ?k1 ?k2 ?_; (case k1 => k_asm); (case k2 => exact rfl); k_whole))) | ((with_reducible show wpAny _ _ (PySem.execs (List.cons _ _) _) _ _ _); walk1; (try (refine gen_s ?_; intro tkG; (try dsimp only); (try k_fold)))) | (walk1; (try dsimp only)) | (dsimp only; walk1) | (leave1; (try dsimp only)) | fail "no step")
  exact hret _ _ _ _ (by k_asm) (by k_asm) (NumRes.of (by ((repeat' first | exact Grew.refl _ | assumption | (refine Grew.cons ?_ (by (first | assumption | (refine ktn_ltOf ?_; (try simp only [AllLt, and_true]); (repeat' first | assumption | omega | (refine And.intro ?_ ?_)); all_goals first | (rename _ ∧ AllLt _ _ => l8; exact tbn_up (by omega) l8.2) | (rename _ ∧ _ ∧ AllLt _ _ => l8; exact tbn_up (by omega) l8.2.2) | (rename _ ∧ _ ∧ _ ∧ AllLt _ _ => l8; exact tbn_up (by omega) l8.2.2.2) | (rename _ ∧ _ ∧ _ ∧ _ ∧ AllLt _ _ => l8; exact tbn_up (by omega) l8.2.2.2.2) | (rename _ ∧ _ ∧ _ ∧ _ ∧ _ ∧ AllLt _ _ => l8; exact tbn_up (by omega) l8.2.2.2.2.2) | (rename _ ∧ _ ∧ _ ∧ _ ∧ _ ∧ _ ∧ AllLt _ _ => l8; exact tbn_up (by omega) l8.2.2.2.2.2.2) | (rename _ ∧ _ ∧ _ ∧ _ ∧ _ ∧ _ ∧ _ ∧ AllLt _ _ => l8; exact tbn_up (by omega) l8.2.2.2.2.2.2.2) | (rename _ ∧ _ ∧ _ ∧ _ ∧ _ ∧ _ ∧ _ ∧ _ ∧ AllLt _ _ => l8; exact tbn_up (by omega) l8.2.2.2.2.2.2.2.2) | (rename ∀ p ∈ (_ : Led), Prod.fst p < _ => l8; exact tbn_up (by omega) (allLt_of l8)) | (rename ∀ p ∈ (_ :: _ : Led), Prod.fst p < _ => l8; exact allLt_of fun p hp => l8 p (.tail _ hp)))))) | (refine Grew.trans ?_ (by assumption))))) (.head _) (.tail _ (.head _)) rfl rfl (by exact fun p hp => (by assumption : ∀ q ∈ _, q.1 < _) p (Grew.sub (by assumption) p hp)))
theorem SpecO.post {w mean mg mb f dpn unn vs Pre P P'} (h : SpecO w mean mg mb f dpn unn vs Pre P) (hp : ∀ r news nw, P r news nw → P' r news nw) : SpecO w mean mg mb f dpn unn vs Pre P' := by
  intro dp un gd cn cs a ccd cl outer A₀ base h₀ L m news s Q E B F X N T hk hpre hd hu hret
  exact h dp un gd cn cs a ccd cl outer A₀ base h₀ L m news s Q E B F X N T hk hpre hd hu fun r nw h' tk' F' N' p => hret r nw h' tk' F' N' (hp r news nw p)
theorem odd_gcd {n M g : Nat} {p : Nat} (hM : M = n * g) (h10 : M % 10 ≠ 0) (h5 : g % 5 = 0) : Nat.gcd n (2 ^ p) = 1 := by
  have hodd : n % 2 = 1 := by
    rcases Nat.mod_two_eq_zero_or_one n with h | h
    · exfalso
      obtain ⟨k, rfl⟩ : ∃ k, n = 2 * k := ⟨n / 2, by omega⟩
      obtain ⟨j, rfl⟩ : ∃ j, g = 5 * j := ⟨g / 5, by omega⟩
      have : M = 10 * (k * j) := by rw [hM]; ac_rfl
      omega
    · exact h
  have h2 : Nat.Coprime n 2 := by
    have := Nat.gcd_dvd_right n 2
    have h3 := Nat.gcd_dvd_left n 2
    have : Nat.gcd n 2 = 1 ∨ Nat.gcd n 2 = 2 := by
      have := Nat.le_of_dvd (by decide) this
      have h0 : 0 < Nat.gcd n 2 := Nat.gcd_pos_of_pos_right _ (by decide)
      omega
    rcases this with h | h
    · exact h
    · rw [h] at h3; omega
  exact Nat.Coprime.pow_right p h2
theorem unsigned_num (w mean mg mb) (n d : Int) (pl M : Nat) (hn : Num n d pl M) (t : Tok) : SpecO w mean mg mb 261 26 300 [.str (sO (utxt pl M)) t] (fun _ => True) (NumRes n.natAbs d) := by
  by_cases h0 : n = 0
  · have hp := hn.hz h0
    have hd1 : d = 1 := by rcases hn.hd with ⟨h, _⟩ | ⟨_, h⟩ | ⟨_, h⟩ <;> omega
    have hM : M = 0 := by have := hn.hM; subst h0 hp hd1; simp at this; omega
    subst h0 hp hd1 hM
    exact unsigned_zero w mean mg mb t
  · obtain ⟨h1, h2, h3, h4⟩ := num_len hn h0
    rcases Nat.eq_zero_or_pos pl with hp | hp
    · subst hp
      have hd1 : d = 1 := by rcases hn.hd with ⟨h, _⟩ | ⟨_, h⟩ | ⟨_, h⟩ <;> omega
      subst hd1
      have e : utxt 0 M = ds M := if_neg (by decide)
      have e2 : (val (ds M) : Int) = n.natAbs := by rw [val_ds]; have := hn.hM; simp at this; omega
      rw [e, ← e2]
      exact unsigned_int w mean mg mb (ds M) t (ds_all M) (ds_pos M) (by omega) (by rw [val_ds]; exact h4)
    · have e : utxt pl M = (ds M).take ((ds M).length - pl) ++ 46 :: (ds M).drop ((ds M).length - pl) := if_pos hp
      rw [e]
      have hM := hn.hM
      have h10 := hn.h10 hp
      have key : ∃ g : Nat, 0 < g ∧ M = n.natAbs * g ∧ (10 : Int) ^ pl = d * g ∧ Int.gcd (n.natAbs : Int) d = 1 := by
        rcases hn.hd with ⟨_, h⟩ | ⟨rfl, rfl⟩ | ⟨rfl, rfl⟩
        · omega
        · have h5 : M = n.natAbs * 5 := by simp at hM; omega
          exact ⟨5, by decide, h5, rfl, odd_gcd (p := 1) h5 h10 rfl⟩
        · have h5 : M = n.natAbs * 25 := by simp at hM; omega
          exact ⟨25, by decide, h5, rfl, odd_gcd (p := 2) h5 h10 rfl⟩
      obtain ⟨g, hg, hMg, hd, hgc⟩ := key
      have hlen : ((ds M).drop ((ds M).length - pl)).length = pl := by rw [List.length_drop]; omega
      refine unsigned_dot w mean mg mb _ _ n.natAbs d g t (fun c hc => ds_all M c (List.mem_of_mem_take hc)) (fun c hc => ds_all M c (List.mem_of_mem_drop hc)) ?_ ?_ ?_ ?_ ?_ ?_ hgc
      · rw [List.length_take]; omega
      · rw [List.length_take, List.length_drop]; omega
      · rw [List.take_append_drop, val_ds]; exact h4
      · omega
      · rw [List.take_append_drop, val_ds, hMg, Int.natCast_mul]
      · rw [hlen]; exact hd
theorem utxt_head (pl M : Nat) (h : pl < (ds M).length) : ∃ c r, utxt pl M = c :: r := by
  unfold utxt
  split
  · cases e : (ds M).take ((ds M).length - pl) with
    | nil =>
      have := congrArg List.length e
      rw [List.length_take] at this
      simp at this; omega
    | cons c r => exact ⟨c, _, rfl⟩
  · cases e : ds M with
    | nil => exact absurd e (ds_ne M)
    | cons c r => exact ⟨c, r, rfl⟩
theorem parse_num (w mean mg mb) (n d : Int) (pl M : Nat) (hn : Num n d pl M) (t : Tok) : SpecO w mean mg mb 268 27 330 [.str (sO (txt n pl M)) t] (fun _ => True) (NumRes n d) := by
  have hs := @utxt_sign pl M
  have hl5 : (ds M).length ≤ 5 := by unfold ds; rw [List.length_map]; exact digits10_le (by decide) hn.hb
  have hlp : pl < (ds M).length := by
    by_cases h0 : n = 0
    · rw [hn.hz h0]; exact ds_pos M
    · exact (num_len hn h0).1
  have hlz : (utxt pl M).length ≤ 6 := by
    unfold utxt
    split
    · rw [List.length_append, List.length_cons, List.length_take, List.length_drop]; omega
    · omega
  have U := unsigned_num w mean mg mb n d pl M hn
  by_cases h : n < 0
  · have e : txt n pl M = 45 :: utxt pl M := by rw [txt_utxt, if_pos h]; rfl
    rw [e]
    have := parse_neg w mean mg mb (utxt pl M) n.natAbs d t hs (by omega) (by omega) U
    rwa [show -(n.natAbs : Int) = n by omega] at this
  · have e : txt n pl M = utxt pl M := by rw [txt_utxt, if_neg h]; rfl
    rw [e]
    obtain ⟨c, r, hc⟩ := utxt_head pl M hlp
    have := parse_pos w mean mg mb (utxt pl M) n.natAbs d c t hs ⟨r, hc⟩ (by omega) U
    rwa [show (n.natAbs : Int) = n by omega] at this

example : True := by (w_top off; exact True.intro)
section
/-- the items that the law builds, by their kind -/
def Base (k : Kd) : It → Prop
  | .non => True
  | .int i => (k = .L ∧ (i = 0 ∨ i = 1)) ∨ (k = .I ∧ i.natAbs < 10 ^ 5)
  | .frac n d => k = .D ∧ ∃ pl M, Num n d pl M
  | _ => False
/-- what an entry hands back: an item that stands on what was added -/
def EntPost (w : World) (row : Addr) (k : Kd) (r : Value) (news nw : Led) : Prop := ∃ it add, Base k it ∧ RowStep row news nw ∧ (∀ p ∈ add, p ∈ nw) ∧ Fresh add news ∧ ItIn w add it r
theorem EntPost.plain {w : World} {row : Addr} {k : Kd} {r : Value} {news nw : Led} {it : It} (hb : Base k it) (hs : RowStep row news nw) (hi : ItIn w [] it r) : EntPost w row k r news nw :=
  ⟨it, [], hb, hs, (fun _ h => nomatch h), (fun _ h => nomatch h), hi⟩
theorem EntPost.tup {w : World} {row D : Addr} {news nw : Led} {n d : Int} {t1 t2 : Tok} {c pl M : Nat} (hn : Num n d pl M) (hs : RowStep row news nw) (hl : ∀ p ∈ nw, p.1 < D) : EntPost w row .D (.ref D) news ((D, tupO [.int n t1, .int d t2] c) :: nw) := by
  refine ⟨.frac n d, [(D, tupO [.int n t1, .int d t2] c)], ⟨rfl, pl, M, hn⟩, hs.cons, fun p hp => ?_, fun p hp q hq => ?_, D, t1, t2, c, rfl, .head _⟩
  · rw [List.mem_singleton.mp hp]; exact .head _
  · rw [List.mem_singleton.mp hp]
    show q.1 ≠ D
    by_cases h : q.1 = row
    · obtain ⟨vs, ns, c, h1, _⟩ := hs.2
      have := hl _ h1
      rw [h]; exact Nat.ne_of_lt this
    · exact Nat.ne_of_lt (hl _ (hs.1 q hq h))
theorem num_q1 {k : Int} (h0 : 0 ≤ k) (h1 : k < 120) (h : (k * 9 - 400).fmod 4 = 0) : Num ((k * 9 - 400).fdiv 4) 1 0 ((k * 9 - 400).fdiv 4).natAbs := by
  rw [Int.fmod_eq_emod_of_nonneg _ (by decide)] at h
  rw [Int.fdiv_eq_ediv_of_nonneg _ (by decide)]
  exact ⟨.inl ⟨rfl, rfl⟩, by omega, fun h => absurd h (by decide), by omega, by omega, fun _ => rfl⟩
theorem num_q2 {k : Int} (h0 : 0 ≤ k) (h1 : k < 120) (h : (k * 9 - 400).fmod 2 = 0) (h4 : (k * 9 - 400).fmod 4 ≠ 0) : Num ((k * 9 - 400).fdiv 2) 2 1 (((k * 9 - 400).fdiv 2).natAbs * 5) := by
  rw [Int.fmod_eq_emod_of_nonneg _ (by decide)] at h h4
  rw [Int.fdiv_eq_ediv_of_nonneg _ (by decide)]
  exact ⟨.inr (.inl ⟨rfl, rfl⟩), by omega, fun _ => by omega, by omega, by omega, fun h => by omega⟩
theorem num_q4 {k : Int} (h0 : 0 ≤ k) (h1 : k < 120) (h : (k * 9 - 400).fmod 2 ≠ 0) : Num (k * 9 - 400) 4 2 ((k * 9 - 400).natAbs * 25) := by
  rw [Int.fmod_eq_emod_of_nonneg _ (by decide)] at h
  exact ⟨.inr (.inr ⟨rfl, rfl⟩), by omega, fun _ => by omega, by omega, by omega, fun h => by omega⟩
theorem law_entry_L (w mean mg mb) (row : Addr) (t : Tok) : SpecO w mean mg mb 468 22 240 [.ref row, .str (kn .L) t] (fun news => RowIn row news) (EntPost w row .L) := by
  unfold SpecO
  k_fill
  intro dp un gd cn cs a ccd cl outer A₀ base h₀ L m news s Q E B F X N T hk hpre hd hu hret
  refine wpAny_call ?_
  k_dflt cell_enter
  refine abs_A ?_
  intro A9a
  repeat' ((fail_if_success (with_reducible show wpAny _ _ (PySem.exec (PySem.Stmt.While _ _ _ _) _) _ _ _)); (fail_if_success (with_reducible show wpAny _ _ (PySem.exec (PySem.Stmt.For _ _ _ _ _) _) _ _ _)); (fail_if_success (with_reducible show wpAny _ _ (PySem.exec (PySem.Stmt.Assign _ (PySem.Expr.ListComp _ _ _ _) _) _) _ _ _)); (fail_if_success (with_reducible show wpAny _ _ (PySem.eval (PySem.Expr.ListComp _ _ _ _) _) _ _ _)); (fail_if_success (with_reducible show LCg.CompSrc _ _ _ _ _ _ _ _ _ _ _ _ _ _)); (fail_if_success (with_reducible show LCt.CompSrcT _ _ _ _ _ _ _ _ _ _ _ _ _ _ _)); (fail_if_success (with_reducible show LCg.CompEnd _ _ _ _ _ _ _ _ _ _ _ _ _ _)); (fail_if_success (with_reducible show KswEnd _ _ _ _ _ _ _ _ _ _ _ _)); (fail_if_success (with_reducible show UnrEnd _ _ _ _ _ _ _)); first | (k_unfold; (try dsimp only)) | (k_end; wrow_close) | ((with_reducible show wpAny _ _ (PySem.call (Value.ref _) _) _ _ _); first | (with_reducible ((with_reducible show wpAny _ _ (PySem.call (Value.ref 461) _) _ _ _); k_dflt (refine' useO (law_part _ _ _ _ _ _ _ ?kq1 ?kq2) ?k1 ?k2 ?k3 ?k4 ?k5 ?kK ?kp ?kd ?ku ?_; (case k1 => k_asm); (case k2 => k_asm); (case k3 => k_asm); (case k4 => k_asm); (case k5 => k_asm); (case kK => first | exact rfl | assumption); (case kp => assumption); (case kd => ktr_room); (case ku => ktr_units); (case kq1 => decide); (case kq2 => decide); intro r9z nw9z h9z tk9z F9z N9z hr9z; obtain ⟨k9z, t9z, hr9z, hk9z, hm9z, hs9z⟩ := hr9z; subst hr9z; have hi9z := hs9z.2; (try dsimp only); (try k_sweep))))) | (with_reducible ((with_reducible show wpAny _ _ (compareOp _ (Value.str (sO _) _) (Value.str (sO _) _)) _ _ _); refine eq_sO ?_)) | (with_reducible ((with_reducible show wpAny _ _ (PySem.binaryOp PySem.Operator.FloorDiv (PySem.Value.int _ _) (PySem.Value.int _ _)) _ _ _); ((with_reducible refine floordiv_int ?kbe ?_ (Or.inl (PyProof.noPylong_small ?kbp))); (case kbe => omega); (case kbp => omega)))) | ((with_reducible show wpAny _ _ (PySem.eval (PySem.Expr.Call (PySem.Expr.Name _ _) _ _) _) _ _ _); (refine Call_ ?_)) | (with_reducible ((with_reducible show wpAny _ _ (eval (Expr.Name _ _) (envOf _ _ _ _ _)) _ _ _); k_dflt (refine' ld ?k1 ?k2 ?_; (case k1 => k_asm); (case k2 => exact rfl); k_whole))) | ((with_reducible show wpAny _ _ (PySem.execs (List.cons _ _) _) _ _ _); walk1; (try (refine gen_s ?_; intro tkG; (try dsimp only); (try k_fold)))) | (walk1; (try dsimp only)) | (dsimp only; walk1) | (leave1; (try dsimp only)) | fail "no step")
  all_goals first
    | exact hret _ _ _ _ (by k_asm) (by k_asm) (EntPost.plain (it := .non) trivial (by (repeat' (first | assumption | (refine RowStep.trans ?_ (by assumption))))) rfl)
    | exact hret _ _ _ _ (by k_asm) (by k_asm) (EntPost.plain (it := .int _) (.inl ⟨rfl, by omega⟩) (by (repeat' (first | assumption | (refine RowStep.trans ?_ (by assumption))))) ⟨_, rfl⟩)
theorem law_entry_I (w mean mg mb) (row : Addr) (t : Tok) : SpecO w mean mg mb 468 22 240 [.ref row, .str (kn .I) t] (fun news => RowIn row news) (EntPost w row .I) := by
  unfold SpecO
  k_fill
  intro dp un gd cn cs a ccd cl outer A₀ base h₀ L m news s Q E B F X N T hk hpre hd hu hret
  refine wpAny_call ?_
  k_dflt cell_enter
  refine abs_A ?_
  intro A9a
  repeat' ((fail_if_success (with_reducible show wpAny _ _ (PySem.exec (PySem.Stmt.While _ _ _ _) _) _ _ _)); (fail_if_success (with_reducible show wpAny _ _ (PySem.exec (PySem.Stmt.For _ _ _ _ _) _) _ _ _)); (fail_if_success (with_reducible show wpAny _ _ (PySem.exec (PySem.Stmt.Assign _ (PySem.Expr.ListComp _ _ _ _) _) _) _ _ _)); (fail_if_success (with_reducible show wpAny _ _ (PySem.eval (PySem.Expr.ListComp _ _ _ _) _) _ _ _)); (fail_if_success (with_reducible show LCg.CompSrc _ _ _ _ _ _ _ _ _ _ _ _ _ _)); (fail_if_success (with_reducible show LCt.CompSrcT _ _ _ _ _ _ _ _ _ _ _ _ _ _ _)); (fail_if_success (with_reducible show LCg.CompEnd _ _ _ _ _ _ _ _ _ _ _ _ _ _)); (fail_if_success (with_reducible show KswEnd _ _ _ _ _ _ _ _ _ _ _ _)); (fail_if_success (with_reducible show UnrEnd _ _ _ _ _ _ _)); first | (k_unfold; (try dsimp only)) | (k_end; wrow_close) | ((with_reducible show wpAny _ _ (PySem.call (Value.ref _) _) _ _ _); first | (with_reducible ((with_reducible show wpAny _ _ (PySem.call (Value.ref 461) _) _ _ _); k_dflt (refine' useO (law_part _ _ _ _ _ _ _ ?kq1 ?kq2) ?k1 ?k2 ?k3 ?k4 ?k5 ?kK ?kp ?kd ?ku ?_; (case k1 => k_asm); (case k2 => k_asm); (case k3 => k_asm); (case k4 => k_asm); (case k5 => k_asm); (case kK => first | exact rfl | assumption); (case kp => assumption); (case kd => ktr_room); (case ku => ktr_units); (case kq1 => decide); (case kq2 => decide); intro r9z nw9z h9z tk9z F9z N9z hr9z; obtain ⟨k9z, t9z, hr9z, hk9z, hm9z, hs9z⟩ := hr9z; subst hr9z; have hi9z := hs9z.2; (try dsimp only); (try k_sweep))))) | (with_reducible ((with_reducible show wpAny _ _ (compareOp _ (Value.str (sO _) _) (Value.str (sO _) _)) _ _ _); refine eq_sO ?_)) | (with_reducible ((with_reducible show wpAny _ _ (PySem.binaryOp PySem.Operator.FloorDiv (PySem.Value.int _ _) (PySem.Value.int _ _)) _ _ _); ((with_reducible refine floordiv_int ?kbe ?_ (Or.inl (PyProof.noPylong_small ?kbp))); (case kbe => omega); (case kbp => omega)))) | ((with_reducible show wpAny _ _ (PySem.eval (PySem.Expr.Call (PySem.Expr.Name _ _) _ _) _) _ _ _); (refine Call_ ?_)) | (with_reducible ((with_reducible show wpAny _ _ (eval (Expr.Name _ _) (envOf _ _ _ _ _)) _ _ _); k_dflt (refine' ld ?k1 ?k2 ?_; (case k1 => k_asm); (case k2 => exact rfl); k_whole))) | ((with_reducible show wpAny _ _ (PySem.execs (List.cons _ _) _) _ _ _); walk1; (try (refine gen_s ?_; intro tkG; (try dsimp only); (try k_fold)))) | (walk1; (try dsimp only)) | (dsimp only; walk1) | (leave1; (try dsimp only)) | fail "no step")
  all_goals first
    | exact hret _ _ _ _ (by k_asm) (by k_asm) (EntPost.plain (it := .non) trivial (by (repeat' (first | assumption | (refine RowStep.trans ?_ (by assumption))))) rfl)
    | exact hret _ _ _ _ (by k_asm) (by k_asm) (EntPost.plain (it := .int _) (.inr ⟨rfl, by omega⟩) (by (repeat' (first | assumption | (refine RowStep.trans ?_ (by assumption))))) ⟨_, rfl⟩)
theorem law_entry_D (w mean mg mb) (row : Addr) (t : Tok) : SpecO w mean mg mb 468 22 240 [.ref row, .str (kn .D) t] (fun news => RowIn row news) (EntPost w row .D) := by
  unfold SpecO
  k_fill
  intro dp un gd cn cs a ccd cl outer A₀ base h₀ L m news s Q E B F X N T hk hpre hd hu hret
  refine wpAny_call ?_
  k_dflt cell_enter
  refine abs_A ?_
  intro A9a
  repeat' ((fail_if_success (with_reducible show wpAny _ _ (PySem.exec (PySem.Stmt.While _ _ _ _) _) _ _ _)); (fail_if_success (with_reducible show wpAny _ _ (PySem.exec (PySem.Stmt.For _ _ _ _ _) _) _ _ _)); (fail_if_success (with_reducible show wpAny _ _ (PySem.exec (PySem.Stmt.Assign _ (PySem.Expr.ListComp _ _ _ _) _) _) _ _ _)); (fail_if_success (with_reducible show wpAny _ _ (PySem.eval (PySem.Expr.ListComp _ _ _ _) _) _ _ _)); (fail_if_success (with_reducible show LCg.CompSrc _ _ _ _ _ _ _ _ _ _ _ _ _ _)); (fail_if_success (with_reducible show LCt.CompSrcT _ _ _ _ _ _ _ _ _ _ _ _ _ _ _)); (fail_if_success (with_reducible show LCg.CompEnd _ _ _ _ _ _ _ _ _ _ _ _ _ _)); (fail_if_success (with_reducible show KswEnd _ _ _ _ _ _ _ _ _ _ _ _)); (fail_if_success (with_reducible show UnrEnd _ _ _ _ _ _ _)); first | (k_unfold; (try dsimp only)) | (k_end; wrow_close) | ((with_reducible show wpAny _ _ (PySem.call (Value.ref _) _) _ _ _); first | (with_reducible ((with_reducible show wpAny _ _ (PySem.call (Value.ref 461) _) _ _ _); k_dflt (refine' useO (law_part _ _ _ _ _ _ _ ?kq1 ?kq2) ?k1 ?k2 ?k3 ?k4 ?k5 ?kK ?kp ?kd ?ku ?_; (case k1 => k_asm); (case k2 => k_asm); (case k3 => k_asm); (case k4 => k_asm); (case k5 => k_asm); (case kK => first | exact rfl | assumption); (case kp => assumption); (case kd => ktr_room); (case ku => ktr_units); (case kq1 => decide); (case kq2 => decide); intro r9z nw9z h9z tk9z F9z N9z hr9z; obtain ⟨k9z, t9z, hr9z, hk9z, hm9z, hs9z⟩ := hr9z; subst hr9z; have hi9z := hs9z.2; (try dsimp only); (try k_sweep))))) | (with_reducible ((with_reducible show wpAny _ _ (compareOp _ (Value.str (sO _) _) (Value.str (sO _) _)) _ _ _); refine eq_sO ?_)) | (with_reducible ((with_reducible show wpAny _ _ (PySem.binaryOp PySem.Operator.FloorDiv (PySem.Value.int _ _) (PySem.Value.int _ _)) _ _ _); ((with_reducible refine floordiv_int ?kbe ?_ (Or.inl (PyProof.noPylong_small ?kbp))); (case kbe => omega); (case kbp => omega)))) | ((with_reducible show wpAny _ _ (PySem.eval (PySem.Expr.Call (PySem.Expr.Name _ _) _ _) _) _ _ _); (refine Call_ ?_)) | (with_reducible ((with_reducible show wpAny _ _ (eval (Expr.Name _ _) (envOf _ _ _ _ _)) _ _ _); k_dflt (refine' ld ?k1 ?k2 ?_; (case k1 => k_asm); (case k2 => exact rfl); k_whole))) | ((with_reducible show wpAny _ _ (PySem.execs (List.cons _ _) _) _ _ _); walk1; (try (refine gen_s ?_; intro tkG; (try dsimp only); (try k_fold)))) | (walk1; (try dsimp only)) | (dsimp only; walk1) | (leave1; (try dsimp only)) | fail "no step")
  all_goals first
    | exact hret _ _ _ _ (by k_asm) (by k_asm) (EntPost.plain (it := .non) trivial (by (repeat' (first | assumption | (refine RowStep.trans ?_ (by assumption))))) rfl)
    | exact hret _ _ _ _ (by k_asm) (by k_asm) (EntPost.tup (num_q1 (by assumption) (by assumption) (by assumption)) (by (repeat' (first | assumption | (refine RowStep.trans ?_ (by assumption))))) (by assumption))
    | exact hret _ _ _ _ (by k_asm) (by k_asm) (EntPost.tup (num_q2 (by assumption) (by assumption) (by assumption) (by assumption)) (by (repeat' (first | assumption | (refine RowStep.trans ?_ (by assumption))))) (by assumption))
    | exact hret _ _ _ _ (by k_asm) (by k_asm) (EntPost.tup (num_q4 (by assumption) (by assumption) (by assumption)) (by (repeat' (first | assumption | (refine RowStep.trans ?_ (by assumption))))) (by assumption))
theorem law_entry (w mean mg mb) (row : Addr) (k : Kd) (hk : k = .L ∨ k = .I ∨ k = .D) (t : Tok) : SpecO w mean mg mb 468 22 240 [.ref row, .str (kn k) t] (fun news => RowIn row news) (EntPost w row k) := by
  rcases hk with rfl | rfl | rfl
  · exact law_entry_L w mean mg mb row t
  · exact law_entry_I w mean mg mb row t
  · exact law_entry_D w mean mg mb row t

end
example : True := by (w_top off; exact True.intro)
theorem is_na_80 (w mean mg mb) : SpecV w mean mg mb 108 20 160 [.ref 80] (fun _ => True) (fun r => r = .bool false) := by
  unfold SpecV
  k_fill
  intro dp un gd cn cs a ccd cl outer A₀ base h₀ L m news s Q E B F X N T hk hpre hd hu hret
  refine wpAny_call ?_
  k_dflt cell_enter
  refine abs_A ?_
  intro A9a
  repeat' ((fail_if_success (with_reducible show wpAny _ _ (PySem.exec (PySem.Stmt.While _ _ _ _) _) _ _ _)); (fail_if_success (with_reducible show wpAny _ _ (PySem.exec (PySem.Stmt.For _ _ _ _ _) _) _ _ _)); (fail_if_success (with_reducible show wpAny _ _ (PySem.exec (PySem.Stmt.Assign _ (PySem.Expr.ListComp _ _ _ _) _) _) _ _ _)); (fail_if_success (with_reducible show wpAny _ _ (PySem.eval (PySem.Expr.ListComp _ _ _ _) _) _ _ _)); (fail_if_success (with_reducible show LCg.CompSrc _ _ _ _ _ _ _ _ _ _ _ _ _ _)); (fail_if_success (with_reducible show LCt.CompSrcT _ _ _ _ _ _ _ _ _ _ _ _ _ _ _)); (fail_if_success (with_reducible show LCg.CompEnd _ _ _ _ _ _ _ _ _ _ _ _ _ _)); (fail_if_success (with_reducible show KswEnd _ _ _ _ _ _ _ _ _ _ _ _)); (fail_if_success (with_reducible show UnrEnd _ _ _ _ _ _ _)); first | (k_unfold; (try dsimp only)) | (k_end; wrow_close) | ((with_reducible show wpAny _ _ (PySem.call (Value.ref _) _) _ _ _); first | (with_reducible ((with_reducible show wpAny _ _ (PySem.call (Value.ref 218) _) _ _ _); k_dflt (refine' useO (common_texts_spec _ _ _ _ _ _ _ _ _ _ _ _ _ _ _ ?kq) ?k1 ?k2 ?k3 ?k4 ?k5 ?kK ?kp ?kd ?ku ?_; (case k1 => k_asm); (case k2 => k_asm); (case k3 => k_asm); (case k4 => k_asm); (case k5 => k_asm); (case kK => first | exact rfl | assumption); (case kp => (refine ⟨?_, ?_⟩ <;> k_mem)); (case kd => ktr_room); (case ku => ktr_units); (case kq => assumption); intro r9z nw9z h9z tk9z F9z N9z hr9z; obtain ⟨D9z, t91, hr9z, hn9z⟩ := hr9z; subst hr9z; subst hn9z; (try dsimp only); (try k_sweep)))) | (with_reducible ((with_reducible show wpAny _ _ (PySem.call (Value.ref 157) _) _ _ _); k_dflt (refine' useV (special_text_spec _ _ _ _ _ _ _ _ _ _ ?kq) ?k1 ?k2 ?k3 ?k4 ?k5 ?kK ?kp ?kd ?ku ?_; (case k1 => k_asm); (case k2 => k_asm); (case k3 => k_asm); (case k4 => k_asm); (case k5 => k_asm); (case kK => first | exact rfl | assumption); (case kp => k_mem); (case kd => ktr_room); (case ku => ktr_units); (case kq => omega); intro r9z h9z tk9z F9z N9z hr9z; subst hr9z; (try dsimp only); (try k_sweep))))) | (with_reducible ((with_reducible show wpAny _ _ (compareOp _ (Value.str (sO _) _) (Value.str (Str.ofString _) _)) _ _ _); first | (refine' eq_ne ?hx ?hn ?_; (case hx => ((with_reducible first | exact lit_0 | exact lit_dot | exact lit_none | exact lit_NA | exact lit_NaN | exact lit_inf | exact lit_infinity | exact lit_minus | exact lit_plus | exact lit_0x | exact lit_0X))); (case hn => first | assumption | (intro h; cases h; done))) | (refine' eq_yes ?hx ?hn ?_; (case hx => ((with_reducible first | exact lit_0 | exact lit_dot | exact lit_none | exact lit_NA | exact lit_NaN | exact lit_inf | exact lit_infinity | exact lit_minus | exact lit_plus | exact lit_0x | exact lit_0X))); (case hn => first | assumption | exact rfl)))) | (with_reducible ((with_reducible show wpAny _ _ (PySem.binaryOp PySem.Operator.FloorDiv (PySem.Value.int _ _) (PySem.Value.int _ _)) _ _ _); ((with_reducible refine floordiv_int ?kbe ?_ (Or.inl (PyProof.noPylong_small ?kbp))); (case kbe => omega); (case kbp => omega)))) | ((with_reducible show wpAny _ _ (PySem.eval (PySem.Expr.Call (PySem.Expr.Name _ _) _ _) _) _ _ _); (refine Call_ ?_)) | (with_reducible ((with_reducible show wpAny _ _ (eval (Expr.Name _ _) (envOf _ _ _ _ _)) _ _ _); k_dflt (refine' ld ?k1 ?k2 ?_; (case k1 => k_asm); (case k2 => exact rfl); k_whole))) | (with_reducible ((with_reducible show wpAny _ _ (PySem.call (PySem.Value.builtin "abs") _) _ _ _); (refine abs_natAbs ?_; intro u9z k9z))) | walk1 | (dsimp only; walk1) | (leave1; (try dsimp only)) | fail "no step")
  all_goals exact hret _ _ _ (by k_asm) (by k_asm) rfl
theorem is_finite_80 (w mean mg mb) : SpecV w mean mg mb 115 20 160 [.ref 80] (fun _ => True) (fun r => r = .bool true) := by
  unfold SpecV
  k_fill
  intro dp un gd cn cs a ccd cl outer A₀ base h₀ L m news s Q E B F X N T hk hpre hd hu hret
  refine wpAny_call ?_
  k_dflt cell_enter
  refine abs_A ?_
  intro A9a
  repeat' ((fail_if_success (with_reducible show wpAny _ _ (PySem.exec (PySem.Stmt.While _ _ _ _) _) _ _ _)); (fail_if_success (with_reducible show wpAny _ _ (PySem.exec (PySem.Stmt.For _ _ _ _ _) _) _ _ _)); (fail_if_success (with_reducible show wpAny _ _ (PySem.exec (PySem.Stmt.Assign _ (PySem.Expr.ListComp _ _ _ _) _) _) _ _ _)); (fail_if_success (with_reducible show wpAny _ _ (PySem.eval (PySem.Expr.ListComp _ _ _ _) _) _ _ _)); (fail_if_success (with_reducible show LCg.CompSrc _ _ _ _ _ _ _ _ _ _ _ _ _ _)); (fail_if_success (with_reducible show LCt.CompSrcT _ _ _ _ _ _ _ _ _ _ _ _ _ _ _)); (fail_if_success (with_reducible show LCg.CompEnd _ _ _ _ _ _ _ _ _ _ _ _ _ _)); (fail_if_success (with_reducible show KswEnd _ _ _ _ _ _ _ _ _ _ _ _)); (fail_if_success (with_reducible show UnrEnd _ _ _ _ _ _ _)); first | (k_unfold; (try dsimp only)) | (k_end; wrow_close) | ((with_reducible show wpAny _ _ (PySem.call (Value.ref _) _) _ _ _); first | (with_reducible ((with_reducible show wpAny _ _ (PySem.call (Value.ref 218) _) _ _ _); k_dflt (refine' useO (common_texts_spec _ _ _ _ _ _ _ _ _ _ _ _ _ _ _ ?kq) ?k1 ?k2 ?k3 ?k4 ?k5 ?kK ?kp ?kd ?ku ?_; (case k1 => k_asm); (case k2 => k_asm); (case k3 => k_asm); (case k4 => k_asm); (case k5 => k_asm); (case kK => first | exact rfl | assumption); (case kp => (refine ⟨?_, ?_⟩ <;> k_mem)); (case kd => ktr_room); (case ku => ktr_units); (case kq => assumption); intro r9z nw9z h9z tk9z F9z N9z hr9z; obtain ⟨D9z, t91, hr9z, hn9z⟩ := hr9z; subst hr9z; subst hn9z; (try dsimp only); (try k_sweep)))) | (with_reducible ((with_reducible show wpAny _ _ (PySem.call (Value.ref 157) _) _ _ _); k_dflt (refine' useV (special_text_spec _ _ _ _ _ _ _ _ _ _ ?kq) ?k1 ?k2 ?k3 ?k4 ?k5 ?kK ?kp ?kd ?ku ?_; (case k1 => k_asm); (case k2 => k_asm); (case k3 => k_asm); (case k4 => k_asm); (case k5 => k_asm); (case kK => first | exact rfl | assumption); (case kp => k_mem); (case kd => ktr_room); (case ku => ktr_units); (case kq => omega); intro r9z h9z tk9z F9z N9z hr9z; subst hr9z; (try dsimp only); (try k_sweep))))) | (with_reducible ((with_reducible show wpAny _ _ (compareOp _ (Value.str (sO _) _) (Value.str (Str.ofString _) _)) _ _ _); first | (refine' eq_ne ?hx ?hn ?_; (case hx => ((with_reducible first | exact lit_0 | exact lit_dot | exact lit_none | exact lit_NA | exact lit_NaN | exact lit_inf | exact lit_infinity | exact lit_minus | exact lit_plus | exact lit_0x | exact lit_0X))); (case hn => first | assumption | (intro h; cases h; done))) | (refine' eq_yes ?hx ?hn ?_; (case hx => ((with_reducible first | exact lit_0 | exact lit_dot | exact lit_none | exact lit_NA | exact lit_NaN | exact lit_inf | exact lit_infinity | exact lit_minus | exact lit_plus | exact lit_0x | exact lit_0X))); (case hn => first | assumption | exact rfl)))) | (with_reducible ((with_reducible show wpAny _ _ (PySem.binaryOp PySem.Operator.FloorDiv (PySem.Value.int _ _) (PySem.Value.int _ _)) _ _ _); ((with_reducible refine floordiv_int ?kbe ?_ (Or.inl (PyProof.noPylong_small ?kbp))); (case kbe => omega); (case kbp => omega)))) | ((with_reducible show wpAny _ _ (PySem.eval (PySem.Expr.Call (PySem.Expr.Name _ _) _ _) _) _ _ _); (refine Call_ ?_)) | (with_reducible ((with_reducible show wpAny _ _ (eval (Expr.Name _ _) (envOf _ _ _ _ _)) _ _ _); k_dflt (refine' ld ?k1 ?k2 ?_; (case k1 => k_asm); (case k2 => exact rfl); k_whole))) | (with_reducible ((with_reducible show wpAny _ _ (PySem.call (PySem.Value.builtin "abs") _) _ _ _); (refine abs_natAbs ?_; intro u9z k9z))) | walk1 | (dsimp only; walk1) | (leave1; (try dsimp only)) | fail "no step")
  all_goals exact hret _ _ _ (by k_asm) (by k_asm) rfl
theorem to_whole_80 (w mean mg mb) : SpecV w mean mg mb 129 21 180 [.ref 80] (fun _ => True) (fun r => ∃ t, r = .int 0 t) := by
  unfold SpecV
  k_fill
  intro dp un gd cn cs a ccd cl outer A₀ base h₀ L m news s Q E B F X N T hk hpre hd hu hret
  refine wpAny_call ?_
  k_dflt cell_enter
  refine abs_A ?_
  intro A9a
  repeat' ((fail_if_success (with_reducible show wpAny _ _ (PySem.exec (PySem.Stmt.While _ _ _ _) _) _ _ _)); (fail_if_success (with_reducible show wpAny _ _ (PySem.exec (PySem.Stmt.For _ _ _ _ _) _) _ _ _)); (fail_if_success (with_reducible show wpAny _ _ (PySem.exec (PySem.Stmt.Assign _ (PySem.Expr.ListComp _ _ _ _) _) _) _ _ _)); (fail_if_success (with_reducible show wpAny _ _ (PySem.eval (PySem.Expr.ListComp _ _ _ _) _) _ _ _)); (fail_if_success (with_reducible show LCg.CompSrc _ _ _ _ _ _ _ _ _ _ _ _ _ _)); (fail_if_success (with_reducible show LCt.CompSrcT _ _ _ _ _ _ _ _ _ _ _ _ _ _ _)); (fail_if_success (with_reducible show LCg.CompEnd _ _ _ _ _ _ _ _ _ _ _ _ _ _)); (fail_if_success (with_reducible show KswEnd _ _ _ _ _ _ _ _ _ _ _ _)); (fail_if_success (with_reducible show UnrEnd _ _ _ _ _ _ _)); first | (k_unfold; (try dsimp only)) | (k_end; wrow_close) | ((with_reducible show wpAny _ _ (PySem.call (Value.ref _) _) _ _ _); first | (with_reducible ((with_reducible show wpAny _ _ (PySem.call (Value.ref 115) _) _ _ _); k_dflt (refine' useV (is_finite_80 _ _ _ _) ?k1 ?k2 ?k3 ?k4 ?k5 ?kK ?kp ?kd ?ku ?_; (case k1 => k_asm); (case k2 => k_asm); (case k3 => k_asm); (case k4 => k_asm); (case k5 => k_asm); (case kK => first | exact rfl | assumption); (case kp => trivial); (case kd => ktr_room); (case ku => ktr_units); intro r9z h9z tk9z F9z N9z hr9z; subst hr9z; (try dsimp only); (try k_sweep)))) | (with_reducible ((with_reducible show wpAny _ _ (PySem.call (Value.ref 192) _) _ _ _); k_dflt (refine' useV (fixed_text_spec _ _ _ _ _ _ _ _ _ _ _ _ _ ?kq) ?k1 ?k2 ?k3 ?k4 ?k5 ?kK ?kp ?kd ?ku ?_; (case k1 => k_asm); (case k2 => k_asm); (case k3 => k_asm); (case k4 => k_asm); (case k5 => k_asm); (case kK => first | exact rfl | assumption); (case kp => k_mem); (case kd => ktr_room); (case ku => ktr_units); (case kq => assumption); intro r9z h9z tk9z F9z N9z hr9z; obtain ⟨t9z, hr9z⟩ := hr9z; subst hr9z; (try dsimp only); (try k_sweep))))) | (with_reducible ((with_reducible show wpAny _ _ (compareOp _ (Value.str (sO _) _) (Value.str (Str.ofString _) _)) _ _ _); first | (refine' eq_ne ?hx ?hn ?_; (case hx => ((with_reducible first | exact lit_0 | exact lit_dot | exact lit_none | exact lit_NA | exact lit_NaN | exact lit_inf | exact lit_infinity | exact lit_minus | exact lit_plus | exact lit_0x | exact lit_0X))); (case hn => first | assumption | (intro h; cases h; done))) | (refine' eq_yes ?hx ?hn ?_; (case hx => ((with_reducible first | exact lit_0 | exact lit_dot | exact lit_none | exact lit_NA | exact lit_NaN | exact lit_inf | exact lit_infinity | exact lit_minus | exact lit_plus | exact lit_0x | exact lit_0X))); (case hn => first | assumption | exact rfl)))) | (with_reducible ((with_reducible show wpAny _ _ (PySem.binaryOp PySem.Operator.FloorDiv (PySem.Value.int _ _) (PySem.Value.int _ _)) _ _ _); ((with_reducible refine floordiv_int ?kbe ?_ (Or.inl (PyProof.noPylong_small ?kbp))); (case kbe => omega); (case kbp => omega)))) | ((with_reducible show wpAny _ _ (PySem.eval (PySem.Expr.Call (PySem.Expr.Name _ _) _ _) _) _ _ _); (refine Call_ ?_)) | (with_reducible ((with_reducible show wpAny _ _ (eval (Expr.Name _ _) (envOf _ _ _ _ _)) _ _ _); k_dflt (refine' ld ?k1 ?k2 ?_; (case k1 => k_asm); (case k2 => exact rfl); k_whole))) | (with_reducible ((with_reducible show wpAny _ _ (PySem.call (PySem.Value.builtin "abs") _) _ _ _); (refine abs_natAbs ?_; intro u9z k9z))) | walk1 | (dsimp only; walk1) | (leave1; (try dsimp only)) | fail "no step")
  all_goals exact hret _ _ _ (by k_asm) (by k_asm) ⟨_, rfl⟩
theorem SpecV.pre {w mean mg mb f dpn unn vs Pre Pre' P} (h : SpecV w mean mg mb f dpn unn vs Pre P) (hp : ∀ news, Pre' news → Pre news) : SpecV w mean mg mb f dpn unn vs Pre' P := by
  intro dp un gd cn cs a ccd cl outer A₀ base h₀ L m news s Q E B F X N T hk hpre hd hu hret
  exact h dp un gd cn cs a ccd cl outer A₀ base h₀ L m news s Q E B F X N T hk (hp news hpre) hd hu hret
theorem SpecV.choose {w mean mg mb f dpn unn vs Pre P} (h : ∀ news, Pre news → ∃ Pre', Pre' news ∧ SpecV w mean mg mb f dpn unn vs Pre' P) : SpecV w mean mg mb f dpn unn vs Pre P := by
  intro dp un gd cn cs a ccd cl outer A₀ base h₀ L m news s Q E B F X N T hk hpre hd hu hret
  obtain ⟨Pre', hp, h'⟩ := h news hpre
  exact h' dp un gd cn cs a ccd cl outer A₀ base h₀ L m news s Q E B F X N T hk hp hd hu hret
theorem SpecO.choose {w mean mg mb f dpn unn vs Pre P} (h : ∀ news, Pre news → ∃ Pre', Pre' news ∧ SpecO w mean mg mb f dpn unn vs Pre' P) : SpecO w mean mg mb f dpn unn vs Pre P := by
  intro dp un gd cn cs a ccd cl outer A₀ base h₀ L m news s Q E B F X N T hk hpre hd hu hret
  obtain ⟨Pre', hp, h'⟩ := h news hpre
  exact h' dp un gd cn cs a ccd cl outer A₀ base h₀ L m news s Q E B F X N T hk hp hd hu hret
theorem is_na_it (w mean mg mb) (x : Addr) (n d : Int) (hd : 0 < d) : SpecV w mean mg mb 108 20 160 [.ref x] (fun news => ItIn w news (.frz n d) (.ref x)) (fun r => r = .bool false) :=
  SpecV.choose fun news h => by
    obtain ⟨y, e, ⟨t1, t2, c, hm⟩ | ⟨rfl, _, _⟩⟩ := h
    · cases e
      exact ⟨_, hm, is_na_spec w mean mg mb x n d t1 t2 c hd⟩
    · cases e
      exact ⟨_, trivial, is_na_80 w mean mg mb⟩
theorem to_whole_it (w mean mg mb) (x : Addr) (n : Int) : SpecV w mean mg mb 129 21 180 [.ref x] (fun news => ItIn w news (.frz n 1) (.ref x)) (fun r => ∃ t, r = .int n t) :=
  SpecV.choose fun news h => by
    obtain ⟨y, e, ⟨t1, t2, c, hm⟩ | ⟨rfl, rfl, _⟩⟩ := h
    · cases e
      exact ⟨_, hm, to_whole_spec w mean mg mb x n t1 t2 c⟩
    · cases e
      exact ⟨_, trivial, to_whole_80 w mean mg mb⟩
theorem frac_one {w : World} {news : Led} {n d : Int} {D : Addr} {c : Nat} {t1 t2 : Tok} (h : (D, tupO [.int n t1, .int d t2] c) ∈ news) : ItIn w news (.frac n d) (.ref D) := ⟨D, t1, t2, c, rfl, h⟩
theorem eq_self {prog : Program} {w : World} {A : Around} {E : Value → Shared → Prop} {s : Shared} {Q : Value → Shared → Prop} {k : Str} {t u : Tok} (h : Q (.bool true) s) : wpAny (model prog w) A (compareOp .Eq (.str k t) (.str k u)) Q E s :=
  eq_str (by rw [beq_self_eq_true]; exact h)
theorem eq_not {prog : Program} {w : World} {A : Around} {E : Value → Shared → Prop} {s : Shared} {Q : Value → Shared → Prop} {k l : Str} {t u : Tok} (hn : ¬ k = l) (h : Q (.bool false) s) : wpAny (model prog w) A (compareOp .Eq (.str k t) (.str l u)) Q E s :=
  eq_str (by rw [beq_eq_false_iff_ne.mpr hn]; exact h)
theorem eq_is {prog : Program} {w : World} {A : Around} {E : Value → Shared → Prop} {s : Shared} {Q : Value → Shared → Prop} {k l : Str} {t u : Tok} (hn : k = l) (h : Q (.bool true) s) : wpAny (model prog w) A (compareOp .Eq (.str k t) (.str l u)) Q E s := by subst hn; exact eq_self h
theorem frz_of {w : World} {news : Led} {n d : Int} {D : Addr} {c : Nat} {t1 t2 : Tok} (h : (D, tupO [.int n t1, .int d t2] c) ∈ news) : ItIn w news (.frz n d) (.ref D) := ⟨D, rfl, .inl ⟨t1, t2, c, h⟩⟩
local macro_rules | `(tactic| k_room) => `(tactic| ktr_room)
theorem Fresh.one {news : Led} {D : Addr} {o : Obj} (h : ∀ p ∈ news, p.1 < D) : Fresh [(D, o)] news := fun p hp q hq => by rw [List.mem_singleton.mp hp]; exact Nat.ne_of_lt (h q hq)
theorem Fresh.cons {add news : Led} {D : Addr} {o : Obj} (h : ∀ p ∈ news, p.1 < D) (ha : Fresh add news) : Fresh ((D, o) :: add) news := fun p hp q hq => by
  rcases List.mem_cons.mp hp with rfl | hp
  · exact Nat.ne_of_lt (h q hq)
  · exact ha p hp q hq
/-- what item_as hands back, and what it adds: own is what the item stands on -/
abbrev ItPost (w : World) (own : Led) (b : It) (r : Value) (news nw : Led) : Prop := ∃ add, nw = add ++ news ∧ Fresh add news ∧ ItIn w (add ++ own) b r
abbrev ItPre (w : World) (own : Led) (a : It) (v : Value) (news : Led) : Prop := (∀ p ∈ own, p ∈ news) ∧ ItIn w own a v
theorem is_atomic_yes (w mean mg mb) (k : Kd) (t : Tok) (hk : k ≠ .Z) : SpecV w mean mg mb 409 20 160 [.str (kn k) t] (fun _ => True) (fun r => r = .bool true) := by
  unfold SpecV
  k_fill
  intro dp un gd cn cs a ccd cl outer A₀ base h₀ L m news s Q E B F X N T hk hpre hd hu hret
  refine wpAny_call ?_
  k_dflt cell_enter
  refine abs_A ?_
  intro A9a
  repeat' ((fail_if_success (with_reducible show wpAny _ _ (PySem.exec (PySem.Stmt.While _ _ _ _) _) _ _ _)); (fail_if_success (with_reducible show wpAny _ _ (PySem.exec (PySem.Stmt.For _ _ _ _ _) _) _ _ _)); (fail_if_success (with_reducible show wpAny _ _ (PySem.exec (PySem.Stmt.Assign _ (PySem.Expr.ListComp _ _ _ _) _) _) _ _ _)); (fail_if_success (with_reducible show wpAny _ _ (PySem.eval (PySem.Expr.ListComp _ _ _ _) _) _ _ _)); (fail_if_success (with_reducible show LCg.CompSrc _ _ _ _ _ _ _ _ _ _ _ _ _ _)); (fail_if_success (with_reducible show LCt.CompSrcT _ _ _ _ _ _ _ _ _ _ _ _ _ _ _)); (fail_if_success (with_reducible show LCg.CompEnd _ _ _ _ _ _ _ _ _ _ _ _ _ _)); (fail_if_success (with_reducible show KswEnd _ _ _ _ _ _ _ _ _ _ _ _)); (fail_if_success (with_reducible show UnrEnd _ _ _ _ _ _ _)); first | (k_unfold; (try dsimp only)) | (k_end; wrow_close) | ((with_reducible show wpAny _ _ (PySem.call (Value.ref _) _) _ _ _); first | (with_reducible ((with_reducible show wpAny _ _ (PySem.call (Value.ref 129) _) _ _ _); k_dflt (refine' useV (to_whole_it _ _ _ _ _ _) ?k1 ?k2 ?k3 ?k4 ?k5 ?kK ?kp ?kd ?ku ?_; (case k1 => k_asm); (case k2 => k_asm); (case k3 => k_asm); (case k4 => k_asm); (case k5 => k_asm); (case kK => first | exact rfl | assumption); (case kp => first | assumption | exact FrzNew.it (by assumption) | exact frz_of (by k_mem)); (case kd => ktr_room); (case ku => ktr_units); intro r9z h9z tk9z F9z N9z hr9z; obtain ⟨t9z, hr9z⟩ := hr9z; subst hr9z; (try dsimp only); (try k_sweep)))) | (with_reducible ((with_reducible show wpAny _ _ (PySem.call (Value.ref 218) _) _ _ _); k_dflt (refine' useO (common_texts_spec _ _ _ _ _ _ _ _ _ _ _ _ _ _ _ ?kq) ?k1 ?k2 ?k3 ?k4 ?k5 ?kK ?kp ?kd ?ku ?_; (case k1 => k_asm); (case k2 => k_asm); (case k3 => k_asm); (case k4 => k_asm); (case k5 => k_asm); (case kK => first | exact rfl | assumption); (case kp => (refine ⟨?_, ?_⟩ <;> k_mem)); (case kd => ktr_room); (case ku => ktr_units); (case kq => assumption); intro r9z nw9z h9z tk9z F9z N9z hr9z; obtain ⟨D9z, t91, hr9z, hn9z⟩ := hr9z; subst hr9z; subst hn9z; (try dsimp only); (try k_sweep))))) | (with_reducible ((with_reducible show wpAny _ _ (PySem.compareOp PySem.CmpOp.Eq (PySem.Value.str _ _) (PySem.Value.str _ _)) _ _ _); ((with_reducible first | (refine eq_self ?_) | (refine eq_not ?kn ?_; (case kn => first | assumption | decide +kernel)) | (refine eq_is ?kn ?_; (case kn => decide +kernel)))))) | (with_reducible ((with_reducible show wpAny _ _ (PySem.binaryOp PySem.Operator.FloorDiv (PySem.Value.int _ _) (PySem.Value.int _ _)) _ _ _); ((with_reducible refine floordiv_int ?kbe ?_ (Or.inl (PyProof.noPylong_small ?kbp))); (case kbe => omega); (case kbp => omega)))) | ((with_reducible show wpAny _ _ (PySem.eval (PySem.Expr.Call (PySem.Expr.Name _ _) _ _) _) _ _ _); (refine Call_ ?_)) | (with_reducible ((with_reducible show wpAny _ _ (eval (Expr.Name _ _) (envOf _ _ _ _ _)) _ _ _); k_dflt (refine' ld ?k1 ?k2 ?_; (case k1 => k_asm); (case k2 => exact rfl); k_whole))) | (with_reducible ((with_reducible show wpAny _ _ (PySem.call (PySem.Value.builtin "abs") _) _ _ _); (refine abs_natAbs ?_; intro u9z k9z))) | walk1 | (dsimp only; walk1) | (leave1; (try dsimp only)) | fail "no step")
  exact hret _ _ _ (by k_asm) (cb_drop (by k_asm) sub_tail) (by cases k <;> first | exact absurd rfl hk | decide +kernel)
theorem is_atomic_no (w mean mg mb) (t : Tok) : SpecV w mean mg mb 409 20 160 [.str (kn .Z) t] (fun _ => True) (fun r => r = .bool false) := by
  unfold SpecV
  k_fill
  intro dp un gd cn cs a ccd cl outer A₀ base h₀ L m news s Q E B F X N T hk hpre hd hu hret
  refine wpAny_call ?_
  k_dflt cell_enter
  refine abs_A ?_
  intro A9a
  repeat' ((fail_if_success (with_reducible show wpAny _ _ (PySem.exec (PySem.Stmt.While _ _ _ _) _) _ _ _)); (fail_if_success (with_reducible show wpAny _ _ (PySem.exec (PySem.Stmt.For _ _ _ _ _) _) _ _ _)); (fail_if_success (with_reducible show wpAny _ _ (PySem.exec (PySem.Stmt.Assign _ (PySem.Expr.ListComp _ _ _ _) _) _) _ _ _)); (fail_if_success (with_reducible show wpAny _ _ (PySem.eval (PySem.Expr.ListComp _ _ _ _) _) _ _ _)); (fail_if_success (with_reducible show LCg.CompSrc _ _ _ _ _ _ _ _ _ _ _ _ _ _)); (fail_if_success (with_reducible show LCt.CompSrcT _ _ _ _ _ _ _ _ _ _ _ _ _ _ _)); (fail_if_success (with_reducible show LCg.CompEnd _ _ _ _ _ _ _ _ _ _ _ _ _ _)); (fail_if_success (with_reducible show KswEnd _ _ _ _ _ _ _ _ _ _ _ _)); (fail_if_success (with_reducible show UnrEnd _ _ _ _ _ _ _)); first | (k_unfold; (try dsimp only)) | (k_end; wrow_close) | ((with_reducible show wpAny _ _ (PySem.call (Value.ref _) _) _ _ _); first | (with_reducible ((with_reducible show wpAny _ _ (PySem.call (Value.ref 129) _) _ _ _); k_dflt (refine' useV (to_whole_it _ _ _ _ _ _) ?k1 ?k2 ?k3 ?k4 ?k5 ?kK ?kp ?kd ?ku ?_; (case k1 => k_asm); (case k2 => k_asm); (case k3 => k_asm); (case k4 => k_asm); (case k5 => k_asm); (case kK => first | exact rfl | assumption); (case kp => first | assumption | exact FrzNew.it (by assumption) | exact frz_of (by k_mem)); (case kd => ktr_room); (case ku => ktr_units); intro r9z h9z tk9z F9z N9z hr9z; obtain ⟨t9z, hr9z⟩ := hr9z; subst hr9z; (try dsimp only); (try k_sweep)))) | (with_reducible ((with_reducible show wpAny _ _ (PySem.call (Value.ref 218) _) _ _ _); k_dflt (refine' useO (common_texts_spec _ _ _ _ _ _ _ _ _ _ _ _ _ _ _ ?kq) ?k1 ?k2 ?k3 ?k4 ?k5 ?kK ?kp ?kd ?ku ?_; (case k1 => k_asm); (case k2 => k_asm); (case k3 => k_asm); (case k4 => k_asm); (case k5 => k_asm); (case kK => first | exact rfl | assumption); (case kp => (refine ⟨?_, ?_⟩ <;> k_mem)); (case kd => ktr_room); (case ku => ktr_units); (case kq => assumption); intro r9z nw9z h9z tk9z F9z N9z hr9z; obtain ⟨D9z, t91, hr9z, hn9z⟩ := hr9z; subst hr9z; subst hn9z; (try dsimp only); (try k_sweep))))) | (with_reducible ((with_reducible show wpAny _ _ (PySem.compareOp PySem.CmpOp.Eq (PySem.Value.str _ _) (PySem.Value.str _ _)) _ _ _); ((with_reducible first | (refine eq_self ?_) | (refine eq_not ?kn ?_; (case kn => first | assumption | decide +kernel)) | (refine eq_is ?kn ?_; (case kn => decide +kernel)))))) | (with_reducible ((with_reducible show wpAny _ _ (PySem.binaryOp PySem.Operator.FloorDiv (PySem.Value.int _ _) (PySem.Value.int _ _)) _ _ _); ((with_reducible refine floordiv_int ?kbe ?_ (Or.inl (PyProof.noPylong_small ?kbp))); (case kbe => omega); (case kbp => omega)))) | ((with_reducible show wpAny _ _ (PySem.eval (PySem.Expr.Call (PySem.Expr.Name _ _) _ _) _) _ _ _); (refine Call_ ?_)) | (with_reducible ((with_reducible show wpAny _ _ (eval (Expr.Name _ _) (envOf _ _ _ _ _)) _ _ _); k_dflt (refine' ld ?k1 ?k2 ?_; (case k1 => k_asm); (case k2 => exact rfl); k_whole))) | (with_reducible ((with_reducible show wpAny _ _ (PySem.call (PySem.Value.builtin "abs") _) _ _ _); (refine abs_natAbs ?_; intro u9z k9z))) | walk1 | (dsimp only; walk1) | (leave1; (try dsimp only)) | fail "no step")
  exact hret _ _ _ (by k_asm) (cb_drop (by k_asm) sub_tail) (by decide +kernel)

theorem as_same (w mean mg mb) (k : Str) (v nt : Value) (t1 t2 : Tok) : SpecV w mean mg mb 402 36 430 [.str k t1, v, .str k t2, nt] (fun _ => True) (fun r => r = v) := by
  unfold SpecV
  k_fill
  intro dp un gd cn cs a ccd cl outer A₀ base h₀ L m news s Q E B F X N T hk hpre hd hu hret
  refine wpAny_call ?_
  k_dflt cell_enter
  refine abs_A ?_
  intro A9a
  repeat' ((fail_if_success (with_reducible show wpAny _ _ (PySem.exec (PySem.Stmt.While _ _ _ _) _) _ _ _)); (fail_if_success (with_reducible show wpAny _ _ (PySem.exec (PySem.Stmt.For _ _ _ _ _) _) _ _ _)); (fail_if_success (with_reducible show wpAny _ _ (PySem.exec (PySem.Stmt.Assign _ (PySem.Expr.ListComp _ _ _ _) _) _) _ _ _)); (fail_if_success (with_reducible show wpAny _ _ (PySem.eval (PySem.Expr.ListComp _ _ _ _) _) _ _ _)); (fail_if_success (with_reducible show LCg.CompSrc _ _ _ _ _ _ _ _ _ _ _ _ _ _)); (fail_if_success (with_reducible show LCt.CompSrcT _ _ _ _ _ _ _ _ _ _ _ _ _ _ _)); (fail_if_success (with_reducible show LCg.CompEnd _ _ _ _ _ _ _ _ _ _ _ _ _ _)); (fail_if_success (with_reducible show KswEnd _ _ _ _ _ _ _ _ _ _ _ _)); (fail_if_success (with_reducible show UnrEnd _ _ _ _ _ _ _)); first | (k_unfold; (try dsimp only)) | (k_end; wrow_close) | ((with_reducible show wpAny _ _ (PySem.call (Value.ref _) _) _ _ _); first | (with_reducible ((with_reducible show wpAny _ _ (PySem.call (Value.ref 409) _) _ _ _); k_dflt (refine' useV (is_atomic_yes _ _ _ _ _ _ ?kq) ?k1 ?k2 ?k3 ?k4 ?k5 ?kK ?kp ?kd ?ku ?_; (case k1 => k_asm); (case k2 => k_asm); (case k3 => k_asm); (case k4 => k_asm); (case k5 => k_asm); (case kK => first | exact rfl | assumption); (case kp => trivial); (case kd => ktr_room); (case ku => ktr_units); (case kq => first | assumption | decide); intro r9z h9z tk9z F9z N9z hr9z; subst hr9z; (try dsimp only); (try k_sweep)))) | (with_reducible ((with_reducible show wpAny _ _ (PySem.call (Value.ref 101) _) _ _ _); k_dflt (refine' useO (from_int_spec _ _ _ _ _ _) ?k1 ?k2 ?k3 ?k4 ?k5 ?kK ?kp ?kd ?ku ?_; (case k1 => k_asm); (case k2 => k_asm); (case k3 => k_asm); (case k4 => k_asm); (case k5 => k_asm); (case kK => first | exact rfl | assumption); (case kp => trivial); (case kd => ktr_room); (case ku => ktr_units); intro r9z nw9z h9z tk9z F9z N9z hr9z; obtain ⟨D9z, t91, t92, c9z, l9z, hr9z, hn9z⟩ := hr9z; subst hr9z; subst hn9z; (try dsimp only); (try k_sweep))))) | (with_reducible ((with_reducible show wpAny _ _ (PySem.compareOp PySem.CmpOp.Eq (PySem.Value.str _ _) (PySem.Value.str _ _)) _ _ _); ((with_reducible first | (refine eq_self ?_) | (refine eq_not ?kn ?_; (case kn => first | assumption | decide +kernel)) | (refine eq_is ?kn ?_; (case kn => decide +kernel)))))) | (with_reducible ((with_reducible show wpAny _ _ (PySem.binaryOp PySem.Operator.FloorDiv (PySem.Value.int _ _) (PySem.Value.int _ _)) _ _ _); ((with_reducible refine floordiv_int ?kbe ?_ (Or.inl (PyProof.noPylong_small ?kbp))); (case kbe => omega); (case kbp => omega)))) | ((with_reducible show wpAny _ _ (PySem.eval (PySem.Expr.Call (PySem.Expr.Name _ _) _ _) _) _ _ _); (refine Call_ ?_)) | (with_reducible ((with_reducible show wpAny _ _ (eval (Expr.Name _ _) (envOf _ _ _ _ _)) _ _ _); k_dflt (refine' ld ?k1 ?k2 ?_; (case k1 => k_asm); (case k2 => exact rfl); k_whole))) | (with_reducible ((with_reducible show wpAny _ _ (PySem.call (PySem.Value.builtin "abs") _) _ _ _); (refine abs_natAbs ?_; intro u9z k9z))) | walk1 | (dsimp only; walk1) | (leave1; (try dsimp only)) | fail "no step")
  exact hret _ _ _ (by k_asm) (by k_asm) rfl
theorem as_non_I (w mean mg mb) (k : Kd) (nt : Value) (t1 t2 : Tok) (hz : k ≠ .Z) (hk : k ≠ .I) : SpecV w mean mg mb 402 36 430 [.str (kn k) t1, .none, .str (kn .I) t2, nt] (fun _ => True) (fun r => r = .none) := by
  have h1 : ¬ kn k = kn .I := by cases k <;> first | exact absurd rfl hk | decide +kernel
  unfold SpecV
  k_fill
  intro dp un gd cn cs a ccd cl outer A₀ base h₀ L m news s Q E B F X N T hk hpre hd hu hret
  refine wpAny_call ?_
  k_dflt cell_enter
  refine abs_A ?_
  intro A9a
  repeat' ((fail_if_success (with_reducible show wpAny _ _ (PySem.exec (PySem.Stmt.While _ _ _ _) _) _ _ _)); (fail_if_success (with_reducible show wpAny _ _ (PySem.exec (PySem.Stmt.For _ _ _ _ _) _) _ _ _)); (fail_if_success (with_reducible show wpAny _ _ (PySem.exec (PySem.Stmt.Assign _ (PySem.Expr.ListComp _ _ _ _) _) _) _ _ _)); (fail_if_success (with_reducible show wpAny _ _ (PySem.eval (PySem.Expr.ListComp _ _ _ _) _) _ _ _)); (fail_if_success (with_reducible show LCg.CompSrc _ _ _ _ _ _ _ _ _ _ _ _ _ _)); (fail_if_success (with_reducible show LCt.CompSrcT _ _ _ _ _ _ _ _ _ _ _ _ _ _ _)); (fail_if_success (with_reducible show LCg.CompEnd _ _ _ _ _ _ _ _ _ _ _ _ _ _)); (fail_if_success (with_reducible show KswEnd _ _ _ _ _ _ _ _ _ _ _ _)); (fail_if_success (with_reducible show UnrEnd _ _ _ _ _ _ _)); first | (k_unfold; (try dsimp only)) | (k_end; wrow_close) | ((with_reducible show wpAny _ _ (PySem.call (Value.ref _) _) _ _ _); first | (with_reducible ((with_reducible show wpAny _ _ (PySem.call (Value.ref 409) _) _ _ _); k_dflt (refine' useV (is_atomic_yes _ _ _ _ _ _ ?kq) ?k1 ?k2 ?k3 ?k4 ?k5 ?kK ?kp ?kd ?ku ?_; (case k1 => k_asm); (case k2 => k_asm); (case k3 => k_asm); (case k4 => k_asm); (case k5 => k_asm); (case kK => first | exact rfl | assumption); (case kp => trivial); (case kd => ktr_room); (case ku => ktr_units); (case kq => first | assumption | decide); intro r9z h9z tk9z F9z N9z hr9z; subst hr9z; (try dsimp only); (try k_sweep)))) | (with_reducible ((with_reducible show wpAny _ _ (PySem.call (Value.ref 101) _) _ _ _); k_dflt (refine' useO (from_int_spec _ _ _ _ _ _) ?k1 ?k2 ?k3 ?k4 ?k5 ?kK ?kp ?kd ?ku ?_; (case k1 => k_asm); (case k2 => k_asm); (case k3 => k_asm); (case k4 => k_asm); (case k5 => k_asm); (case kK => first | exact rfl | assumption); (case kp => trivial); (case kd => ktr_room); (case ku => ktr_units); intro r9z nw9z h9z tk9z F9z N9z hr9z; obtain ⟨D9z, t91, t92, c9z, l9z, hr9z, hn9z⟩ := hr9z; subst hr9z; subst hn9z; (try dsimp only); (try k_sweep))))) | (with_reducible ((with_reducible show wpAny _ _ (PySem.compareOp PySem.CmpOp.Eq (PySem.Value.str _ _) (PySem.Value.str _ _)) _ _ _); ((with_reducible first | (refine eq_self ?_) | (refine eq_not ?kn ?_; (case kn => first | assumption | decide +kernel)) | (refine eq_is ?kn ?_; (case kn => decide +kernel)))))) | (with_reducible ((with_reducible show wpAny _ _ (PySem.binaryOp PySem.Operator.FloorDiv (PySem.Value.int _ _) (PySem.Value.int _ _)) _ _ _); ((with_reducible refine floordiv_int ?kbe ?_ (Or.inl (PyProof.noPylong_small ?kbp))); (case kbe => omega); (case kbp => omega)))) | ((with_reducible show wpAny _ _ (PySem.eval (PySem.Expr.Call (PySem.Expr.Name _ _) _ _) _) _ _ _); (refine Call_ ?_)) | (with_reducible ((with_reducible show wpAny _ _ (eval (Expr.Name _ _) (envOf _ _ _ _ _)) _ _ _); k_dflt (refine' ld ?k1 ?k2 ?_; (case k1 => k_asm); (case k2 => exact rfl); k_whole))) | (with_reducible ((with_reducible show wpAny _ _ (PySem.call (PySem.Value.builtin "abs") _) _ _ _); (refine abs_natAbs ?_; intro u9z k9z))) | walk1 | (dsimp only; walk1) | (leave1; (try dsimp only)) | fail "no step")
  exact hret _ _ _ (by k_asm) (by k_asm) rfl
theorem as_non_D (w mean mg mb) (k : Kd) (nt : Value) (t1 t2 : Tok) (hz : k ≠ .Z) (hk : k ≠ .D) : SpecV w mean mg mb 402 36 430 [.str (kn k) t1, .none, .str (kn .D) t2, nt] (fun _ => True) (fun r => r = .none) := by
  have h1 : ¬ kn k = kn .D := by cases k <;> first | exact absurd rfl hk | decide +kernel
  have h2 : ¬ kn k = Str.ofString "double" := h1
  unfold SpecV
  k_fill
  intro dp un gd cn cs a ccd cl outer A₀ base h₀ L m news s Q E B F X N T hk hpre hd hu hret
  refine wpAny_call ?_
  k_dflt cell_enter
  refine abs_A ?_
  intro A9a
  repeat' ((fail_if_success (with_reducible show wpAny _ _ (PySem.exec (PySem.Stmt.While _ _ _ _) _) _ _ _)); (fail_if_success (with_reducible show wpAny _ _ (PySem.exec (PySem.Stmt.For _ _ _ _ _) _) _ _ _)); (fail_if_success (with_reducible show wpAny _ _ (PySem.exec (PySem.Stmt.Assign _ (PySem.Expr.ListComp _ _ _ _) _) _) _ _ _)); (fail_if_success (with_reducible show wpAny _ _ (PySem.eval (PySem.Expr.ListComp _ _ _ _) _) _ _ _)); (fail_if_success (with_reducible show LCg.CompSrc _ _ _ _ _ _ _ _ _ _ _ _ _ _)); (fail_if_success (with_reducible show LCt.CompSrcT _ _ _ _ _ _ _ _ _ _ _ _ _ _ _)); (fail_if_success (with_reducible show LCg.CompEnd _ _ _ _ _ _ _ _ _ _ _ _ _ _)); (fail_if_success (with_reducible show KswEnd _ _ _ _ _ _ _ _ _ _ _ _)); (fail_if_success (with_reducible show UnrEnd _ _ _ _ _ _ _)); first | (k_unfold; (try dsimp only)) | (k_end; wrow_close) | ((with_reducible show wpAny _ _ (PySem.call (Value.ref _) _) _ _ _); first | (with_reducible ((with_reducible show wpAny _ _ (PySem.call (Value.ref 409) _) _ _ _); k_dflt (refine' useV (is_atomic_yes _ _ _ _ _ _ ?kq) ?k1 ?k2 ?k3 ?k4 ?k5 ?kK ?kp ?kd ?ku ?_; (case k1 => k_asm); (case k2 => k_asm); (case k3 => k_asm); (case k4 => k_asm); (case k5 => k_asm); (case kK => first | exact rfl | assumption); (case kp => trivial); (case kd => ktr_room); (case ku => ktr_units); (case kq => first | assumption | decide); intro r9z h9z tk9z F9z N9z hr9z; subst hr9z; (try dsimp only); (try k_sweep)))) | (with_reducible ((with_reducible show wpAny _ _ (PySem.call (Value.ref 101) _) _ _ _); k_dflt (refine' useO (from_int_spec _ _ _ _ _ _) ?k1 ?k2 ?k3 ?k4 ?k5 ?kK ?kp ?kd ?ku ?_; (case k1 => k_asm); (case k2 => k_asm); (case k3 => k_asm); (case k4 => k_asm); (case k5 => k_asm); (case kK => first | exact rfl | assumption); (case kp => trivial); (case kd => ktr_room); (case ku => ktr_units); intro r9z nw9z h9z tk9z F9z N9z hr9z; obtain ⟨D9z, t91, t92, c9z, l9z, hr9z, hn9z⟩ := hr9z; subst hr9z; subst hn9z; (try dsimp only); (try k_sweep))))) | (with_reducible ((with_reducible show wpAny _ _ (PySem.compareOp PySem.CmpOp.Eq (PySem.Value.str _ _) (PySem.Value.str _ _)) _ _ _); ((with_reducible first | (refine eq_self ?_) | (refine eq_not ?kn ?_; (case kn => first | assumption | decide +kernel)) | (refine eq_is ?kn ?_; (case kn => decide +kernel)))))) | (with_reducible ((with_reducible show wpAny _ _ (PySem.binaryOp PySem.Operator.FloorDiv (PySem.Value.int _ _) (PySem.Value.int _ _)) _ _ _); ((with_reducible refine floordiv_int ?kbe ?_ (Or.inl (PyProof.noPylong_small ?kbp))); (case kbe => omega); (case kbp => omega)))) | ((with_reducible show wpAny _ _ (PySem.eval (PySem.Expr.Call (PySem.Expr.Name _ _) _ _) _) _ _ _); (refine Call_ ?_)) | (with_reducible ((with_reducible show wpAny _ _ (eval (Expr.Name _ _) (envOf _ _ _ _ _)) _ _ _); k_dflt (refine' ld ?k1 ?k2 ?_; (case k1 => k_asm); (case k2 => exact rfl); k_whole))) | (with_reducible ((with_reducible show wpAny _ _ (PySem.call (PySem.Value.builtin "abs") _) _ _ _); (refine abs_natAbs ?_; intro u9z k9z))) | walk1 | (dsimp only; walk1) | (leave1; (try dsimp only)) | fail "no step")
  exact hret _ _ _ (by k_asm) (by k_asm) rfl
theorem as_non_C (w mean mg mb) (k : Kd) (nt : Value) (t1 t2 : Tok) (hz : k ≠ .Z) (hk : k ≠ .C) : SpecV w mean mg mb 402 36 430 [.str (kn k) t1, .none, .str (kn .C) t2, nt] (fun _ => True) (fun r => r = .none) := by
  have h1 : ¬ kn k = kn .C := by cases k <;> first | exact absurd rfl hk | decide +kernel
  unfold SpecV
  k_fill
  intro dp un gd cn cs a ccd cl outer A₀ base h₀ L m news s Q E B F X N T hk hpre hd hu hret
  refine wpAny_call ?_
  k_dflt cell_enter
  refine abs_A ?_
  intro A9a
  repeat' ((fail_if_success (with_reducible show wpAny _ _ (PySem.exec (PySem.Stmt.While _ _ _ _) _) _ _ _)); (fail_if_success (with_reducible show wpAny _ _ (PySem.exec (PySem.Stmt.For _ _ _ _ _) _) _ _ _)); (fail_if_success (with_reducible show wpAny _ _ (PySem.exec (PySem.Stmt.Assign _ (PySem.Expr.ListComp _ _ _ _) _) _) _ _ _)); (fail_if_success (with_reducible show wpAny _ _ (PySem.eval (PySem.Expr.ListComp _ _ _ _) _) _ _ _)); (fail_if_success (with_reducible show LCg.CompSrc _ _ _ _ _ _ _ _ _ _ _ _ _ _)); (fail_if_success (with_reducible show LCt.CompSrcT _ _ _ _ _ _ _ _ _ _ _ _ _ _ _)); (fail_if_success (with_reducible show LCg.CompEnd _ _ _ _ _ _ _ _ _ _ _ _ _ _)); (fail_if_success (with_reducible show KswEnd _ _ _ _ _ _ _ _ _ _ _ _)); (fail_if_success (with_reducible show UnrEnd _ _ _ _ _ _ _)); first | (k_unfold; (try dsimp only)) | (k_end; wrow_close) | ((with_reducible show wpAny _ _ (PySem.call (Value.ref _) _) _ _ _); first | (with_reducible ((with_reducible show wpAny _ _ (PySem.call (Value.ref 409) _) _ _ _); k_dflt (refine' useV (is_atomic_yes _ _ _ _ _ _ ?kq) ?k1 ?k2 ?k3 ?k4 ?k5 ?kK ?kp ?kd ?ku ?_; (case k1 => k_asm); (case k2 => k_asm); (case k3 => k_asm); (case k4 => k_asm); (case k5 => k_asm); (case kK => first | exact rfl | assumption); (case kp => trivial); (case kd => ktr_room); (case ku => ktr_units); (case kq => first | assumption | decide); intro r9z h9z tk9z F9z N9z hr9z; subst hr9z; (try dsimp only); (try k_sweep)))) | (with_reducible ((with_reducible show wpAny _ _ (PySem.call (Value.ref 101) _) _ _ _); k_dflt (refine' useO (from_int_spec _ _ _ _ _ _) ?k1 ?k2 ?k3 ?k4 ?k5 ?kK ?kp ?kd ?ku ?_; (case k1 => k_asm); (case k2 => k_asm); (case k3 => k_asm); (case k4 => k_asm); (case k5 => k_asm); (case kK => first | exact rfl | assumption); (case kp => trivial); (case kd => ktr_room); (case ku => ktr_units); intro r9z nw9z h9z tk9z F9z N9z hr9z; obtain ⟨D9z, t91, t92, c9z, l9z, hr9z, hn9z⟩ := hr9z; subst hr9z; subst hn9z; (try dsimp only); (try k_sweep))))) | (with_reducible ((with_reducible show wpAny _ _ (PySem.compareOp PySem.CmpOp.Eq (PySem.Value.str _ _) (PySem.Value.str _ _)) _ _ _); ((with_reducible first | (refine eq_self ?_) | (refine eq_not ?kn ?_; (case kn => first | assumption | decide +kernel)) | (refine eq_is ?kn ?_; (case kn => decide +kernel)))))) | (with_reducible ((with_reducible show wpAny _ _ (PySem.binaryOp PySem.Operator.FloorDiv (PySem.Value.int _ _) (PySem.Value.int _ _)) _ _ _); ((with_reducible refine floordiv_int ?kbe ?_ (Or.inl (PyProof.noPylong_small ?kbp))); (case kbe => omega); (case kbp => omega)))) | ((with_reducible show wpAny _ _ (PySem.eval (PySem.Expr.Call (PySem.Expr.Name _ _) _ _) _) _ _ _); (refine Call_ ?_)) | (with_reducible ((with_reducible show wpAny _ _ (eval (Expr.Name _ _) (envOf _ _ _ _ _)) _ _ _); k_dflt (refine' ld ?k1 ?k2 ?_; (case k1 => k_asm); (case k2 => exact rfl); k_whole))) | (with_reducible ((with_reducible show wpAny _ _ (PySem.call (PySem.Value.builtin "abs") _) _ _ _); (refine abs_natAbs ?_; intro u9z k9z))) | walk1 | (dsimp only; walk1) | (leave1; (try dsimp only)) | fail "no step")
  exact hret _ _ _ (by k_asm) (by k_asm) rfl
theorem as_XD (w mean mg mb) (k : Kd) (i : Int) (nt : Value) (t t1 t2 : Tok) (hk : k = .L ∨ k = .I) : SpecO w mean mg mb 402 36 430 [.str (kn k) t1, .int i t, .str (kn .D) t2, nt] (fun _ => True) (ItPost w [] (.frac i 1)) := by
  have h1 : ¬ kn k = kn .D := by rcases hk with rfl | rfl <;> decide +kernel
  have h2 : ¬ kn k = Str.ofString "double" := h1
  have h3 : ¬ kn k = Str.ofString "character" := by rcases hk with rfl | rfl <;> decide +kernel
  have h4 : k ≠ .Z := by rcases hk with rfl | rfl <;> decide
  unfold SpecO
  k_fill
  intro dp un gd cn cs a ccd cl outer A₀ base h₀ L m news s Q E B F X N T hk hpre hd hu hret
  refine wpAny_call ?_
  k_dflt cell_enter
  refine abs_A ?_
  intro A9a
  repeat' ((fail_if_success (with_reducible show wpAny _ _ (PySem.exec (PySem.Stmt.While _ _ _ _) _) _ _ _)); (fail_if_success (with_reducible show wpAny _ _ (PySem.exec (PySem.Stmt.For _ _ _ _ _) _) _ _ _)); (fail_if_success (with_reducible show wpAny _ _ (PySem.exec (PySem.Stmt.Assign _ (PySem.Expr.ListComp _ _ _ _) _) _) _ _ _)); (fail_if_success (with_reducible show wpAny _ _ (PySem.eval (PySem.Expr.ListComp _ _ _ _) _) _ _ _)); (fail_if_success (with_reducible show LCg.CompSrc _ _ _ _ _ _ _ _ _ _ _ _ _ _)); (fail_if_success (with_reducible show LCt.CompSrcT _ _ _ _ _ _ _ _ _ _ _ _ _ _ _)); (fail_if_success (with_reducible show LCg.CompEnd _ _ _ _ _ _ _ _ _ _ _ _ _ _)); (fail_if_success (with_reducible show KswEnd _ _ _ _ _ _ _ _ _ _ _ _)); (fail_if_success (with_reducible show UnrEnd _ _ _ _ _ _ _)); first | (k_unfold; (try dsimp only)) | (k_end; wrow_close) | ((with_reducible show wpAny _ _ (PySem.call (Value.ref _) _) _ _ _); first | (with_reducible ((with_reducible show wpAny _ _ (PySem.call (Value.ref 409) _) _ _ _); k_dflt (refine' useV (is_atomic_yes _ _ _ _ _ _ ?kq) ?k1 ?k2 ?k3 ?k4 ?k5 ?kK ?kp ?kd ?ku ?_; (case k1 => k_asm); (case k2 => k_asm); (case k3 => k_asm); (case k4 => k_asm); (case k5 => k_asm); (case kK => first | exact rfl | assumption); (case kp => trivial); (case kd => ktr_room); (case ku => ktr_units); (case kq => first | assumption | decide); intro r9z h9z tk9z F9z N9z hr9z; subst hr9z; (try dsimp only); (try k_sweep)))) | (with_reducible ((with_reducible show wpAny _ _ (PySem.call (Value.ref 101) _) _ _ _); k_dflt (refine' useO (from_int_spec _ _ _ _ _ _) ?k1 ?k2 ?k3 ?k4 ?k5 ?kK ?kp ?kd ?ku ?_; (case k1 => k_asm); (case k2 => k_asm); (case k3 => k_asm); (case k4 => k_asm); (case k5 => k_asm); (case kK => first | exact rfl | assumption); (case kp => trivial); (case kd => ktr_room); (case ku => ktr_units); intro r9z nw9z h9z tk9z F9z N9z hr9z; obtain ⟨D9z, t91, t92, c9z, l9z, hr9z, hn9z⟩ := hr9z; subst hr9z; subst hn9z; (try dsimp only); (try k_sweep))))) | (with_reducible ((with_reducible show wpAny _ _ (PySem.compareOp PySem.CmpOp.Eq (PySem.Value.str _ _) (PySem.Value.str _ _)) _ _ _); ((with_reducible first | (refine eq_self ?_) | (refine eq_not ?kn ?_; (case kn => first | assumption | decide +kernel)) | (refine eq_is ?kn ?_; (case kn => decide +kernel)))))) | (with_reducible ((with_reducible show wpAny _ _ (PySem.binaryOp PySem.Operator.FloorDiv (PySem.Value.int _ _) (PySem.Value.int _ _)) _ _ _); ((with_reducible refine floordiv_int ?kbe ?_ (Or.inl (PyProof.noPylong_small ?kbp))); (case kbe => omega); (case kbp => omega)))) | ((with_reducible show wpAny _ _ (PySem.eval (PySem.Expr.Call (PySem.Expr.Name _ _) _ _) _) _ _ _); (refine Call_ ?_)) | (with_reducible ((with_reducible show wpAny _ _ (eval (Expr.Name _ _) (envOf _ _ _ _ _)) _ _ _); k_dflt (refine' ld ?k1 ?k2 ?_; (case k1 => k_asm); (case k2 => exact rfl); k_whole))) | (with_reducible ((with_reducible show wpAny _ _ (PySem.call (PySem.Value.builtin "abs") _) _ _ _); (refine abs_natAbs ?_; intro u9z k9z))) | walk1 | (dsimp only; walk1) | (leave1; (try dsimp only)) | fail "no step")
  exact hret _ _ _ _ (by k_asm) (by k_asm) ⟨[_], rfl, Fresh.one (by (first | assumption | (refine ktn_ltOf ?_; (try simp only [AllLt, and_true]); (repeat' first | assumption | omega | (refine And.intro ?_ ?_)); all_goals first | (rename _ ∧ AllLt _ _ => l8; exact tbn_up (by omega) l8.2) | (rename _ ∧ _ ∧ AllLt _ _ => l8; exact tbn_up (by omega) l8.2.2) | (rename _ ∧ _ ∧ _ ∧ AllLt _ _ => l8; exact tbn_up (by omega) l8.2.2.2) | (rename _ ∧ _ ∧ _ ∧ _ ∧ AllLt _ _ => l8; exact tbn_up (by omega) l8.2.2.2.2) | (rename _ ∧ _ ∧ _ ∧ _ ∧ _ ∧ AllLt _ _ => l8; exact tbn_up (by omega) l8.2.2.2.2.2) | (rename _ ∧ _ ∧ _ ∧ _ ∧ _ ∧ _ ∧ AllLt _ _ => l8; exact tbn_up (by omega) l8.2.2.2.2.2.2) | (rename _ ∧ _ ∧ _ ∧ _ ∧ _ ∧ _ ∧ _ ∧ AllLt _ _ => l8; exact tbn_up (by omega) l8.2.2.2.2.2.2.2) | (rename _ ∧ _ ∧ _ ∧ _ ∧ _ ∧ _ ∧ _ ∧ _ ∧ AllLt _ _ => l8; exact tbn_up (by omega) l8.2.2.2.2.2.2.2.2) | (rename ∀ p ∈ (_ : Led), Prod.fst p < _ => l8; exact tbn_up (by omega) (allLt_of l8)) | (rename ∀ p ∈ (_ :: _ : Led), Prod.fst p < _ => l8; exact allLt_of fun p hp => l8 p (.tail _ hp))))), frac_one (.head _)⟩

example : True := by (w_top off; exact True.intro)
def tT : List Nat := [84, 82, 85, 69]
def tF : List Nat := [70, 65, 76, 83, 69]
theorem lit_T : Str.ofString "TRUE" = sO tT := by decide +kernel
theorem lit_F : Str.ofString "FALSE" = sO tF := by decide +kernel
theorem txt_int (i : Int) : (if i < 0 then [45] else []) ++ ds i.natAbs = txt i 0 i.natAbs := by unfold txt; rw [if_neg (Nat.lt_irrefl 0)]
theorem as_non_IL (w mean mg mb) (nt : Value) (t1 t2 : Tok) : SpecV w mean mg mb 402 36 430 [.str (kn .I) t1, .none, .str (kn .L) t2, nt] (fun _ => True) (fun r => r = .none) := by
  unfold SpecV
  k_fill
  intro dp un gd cn cs a ccd cl outer A₀ base h₀ L m news s Q E B F X N T hk hpre hd hu hret
  refine wpAny_call ?_
  k_dflt cell_enter
  refine abs_A ?_
  intro A9a
  repeat' ((fail_if_success (with_reducible show wpAny _ _ (PySem.exec (PySem.Stmt.While _ _ _ _) _) _ _ _)); (fail_if_success (with_reducible show wpAny _ _ (PySem.exec (PySem.Stmt.For _ _ _ _ _) _) _ _ _)); (fail_if_success (with_reducible show wpAny _ _ (PySem.exec (PySem.Stmt.Assign _ (PySem.Expr.ListComp _ _ _ _) _) _) _ _ _)); (fail_if_success (with_reducible show wpAny _ _ (PySem.eval (PySem.Expr.ListComp _ _ _ _) _) _ _ _)); (fail_if_success (with_reducible show LCg.CompSrc _ _ _ _ _ _ _ _ _ _ _ _ _ _)); (fail_if_success (with_reducible show LCt.CompSrcT _ _ _ _ _ _ _ _ _ _ _ _ _ _ _)); (fail_if_success (with_reducible show LCg.CompEnd _ _ _ _ _ _ _ _ _ _ _ _ _ _)); (fail_if_success (with_reducible show KswEnd _ _ _ _ _ _ _ _ _ _ _ _)); (fail_if_success (with_reducible show UnrEnd _ _ _ _ _ _ _)); first | (k_unfold; (try dsimp only)) | (k_end; wrow_close) | ((with_reducible show wpAny _ _ (PySem.call (Value.ref _) _) _ _ _); first | (with_reducible ((with_reducible show wpAny _ _ (PySem.call (Value.ref 409) _) _ _ _); k_dflt (refine' useV (is_atomic_yes _ _ _ _ _ _ ?kq) ?k1 ?k2 ?k3 ?k4 ?k5 ?kK ?kp ?kd ?ku ?_; (case k1 => k_asm); (case k2 => k_asm); (case k3 => k_asm); (case k4 => k_asm); (case k5 => k_asm); (case kK => first | exact rfl | assumption); (case kp => trivial); (case kd => ktr_room); (case ku => ktr_units); (case kq => first | assumption | decide); intro r9z h9z tk9z F9z N9z hr9z; subst hr9z; (try dsimp only); (try k_sweep)))) | (with_reducible ((with_reducible show wpAny _ _ (PySem.call (Value.ref 409) _) _ _ _); k_dflt (refine' useV (is_atomic_no _ _ _ _ _) ?k1 ?k2 ?k3 ?k4 ?k5 ?kK ?kp ?kd ?ku ?_; (case k1 => k_asm); (case k2 => k_asm); (case k3 => k_asm); (case k4 => k_asm); (case k5 => k_asm); (case kK => first | exact rfl | assumption); (case kp => trivial); (case kd => ktr_room); (case ku => ktr_units); intro r9z h9z tk9z F9z N9z hr9z; subst hr9z; (try dsimp only); (try k_sweep)))) | (with_reducible ((with_reducible show wpAny _ _ (PySem.call (Value.ref 101) _) _ _ _); k_dflt (refine' useO (from_int_spec _ _ _ _ _ _) ?k1 ?k2 ?k3 ?k4 ?k5 ?kK ?kp ?kd ?ku ?_; (case k1 => k_asm); (case k2 => k_asm); (case k3 => k_asm); (case k4 => k_asm); (case k5 => k_asm); (case kK => first | exact rfl | assumption); (case kp => trivial); (case kd => ktr_room); (case ku => ktr_units); intro r9z nw9z h9z tk9z F9z N9z hr9z; obtain ⟨D9z, t91, t92, c9z, l9z, hr9z, hn9z⟩ := hr9z; subst hr9z; subst hn9z; (try dsimp only); (try k_sweep))))) | (with_reducible ((with_reducible show wpAny _ _ (subscriptTail _ _ (PySem.Value.ref _) (PySem.Value.int _ _)) _ _ _); (k_dflt (refine' item_tupleT ?t ?a ?b ?c ?d ?_; (case t => exact News.isTup (by k_asm) (by k_mem)); (case a => decide); (case b => decide); (case c => rfl); (case d => rfl); k_whole)))) | (with_reducible ((with_reducible show wpAny _ _ (PySem.compareOp PySem.CmpOp.Eq (PySem.Value.str _ _) (PySem.Value.str _ _)) _ _ _); ((with_reducible first | (refine eq_self ?_) | (refine eq_not ?kn ?_; (case kn => first | assumption | decide +kernel)) | (refine eq_is ?kn ?_; (case kn => decide +kernel)))))) | ((with_reducible show wpAny _ _ (PySem.eval (PySem.Expr.Call (PySem.Expr.Name _ _) _ _) _) _ _ _); (refine Call_ ?_)) | (with_reducible ((with_reducible show wpAny _ _ (PySem.call (Value.type "str") [Value.int _ _]) _ _ _); (refine' str_int_sO ?kn ?_; (case kn => first | assumption | omega)); intro t9z k9z)) | (with_reducible ((with_reducible show wpAny _ _ (eval (Expr.Name _ _) (envOf _ _ _ _ _)) _ _ _); k_dflt (refine' ld ?k1 ?k2 ?_; (case k1 => k_asm); (case k2 => exact rfl); k_whole))) | walk1 | (dsimp only; walk1) | (leave1; (try dsimp only)) | fail "no step")
  exact hret _ _ _ (by k_asm) (by k_asm) rfl
theorem as_non_DL (w mean mg mb) (nt : Value) (t1 t2 : Tok) : SpecV w mean mg mb 402 36 430 [.str (kn .D) t1, .none, .str (kn .L) t2, nt] (fun _ => True) (fun r => r = .none) := by
  unfold SpecV
  k_fill
  intro dp un gd cn cs a ccd cl outer A₀ base h₀ L m news s Q E B F X N T hk hpre hd hu hret
  refine wpAny_call ?_
  k_dflt cell_enter
  refine abs_A ?_
  intro A9a
  repeat' ((fail_if_success (with_reducible show wpAny _ _ (PySem.exec (PySem.Stmt.While _ _ _ _) _) _ _ _)); (fail_if_success (with_reducible show wpAny _ _ (PySem.exec (PySem.Stmt.For _ _ _ _ _) _) _ _ _)); (fail_if_success (with_reducible show wpAny _ _ (PySem.exec (PySem.Stmt.Assign _ (PySem.Expr.ListComp _ _ _ _) _) _) _ _ _)); (fail_if_success (with_reducible show wpAny _ _ (PySem.eval (PySem.Expr.ListComp _ _ _ _) _) _ _ _)); (fail_if_success (with_reducible show LCg.CompSrc _ _ _ _ _ _ _ _ _ _ _ _ _ _)); (fail_if_success (with_reducible show LCt.CompSrcT _ _ _ _ _ _ _ _ _ _ _ _ _ _ _)); (fail_if_success (with_reducible show LCg.CompEnd _ _ _ _ _ _ _ _ _ _ _ _ _ _)); (fail_if_success (with_reducible show KswEnd _ _ _ _ _ _ _ _ _ _ _ _)); (fail_if_success (with_reducible show UnrEnd _ _ _ _ _ _ _)); first | (k_unfold; (try dsimp only)) | (k_end; wrow_close) | ((with_reducible show wpAny _ _ (PySem.call (Value.ref _) _) _ _ _); first | (with_reducible ((with_reducible show wpAny _ _ (PySem.call (Value.ref 108) _) _ _ _); k_dflt (refine' useV (is_na_none _ _ _ _) ?k1 ?k2 ?k3 ?k4 ?k5 ?kK ?kp ?kd ?ku ?_; (case k1 => k_asm); (case k2 => k_asm); (case k3 => k_asm); (case k4 => k_asm); (case k5 => k_asm); (case kK => first | exact rfl | assumption); (case kp => trivial); (case kd => ktr_room); (case ku => ktr_units); intro r9z h9z tk9z F9z N9z hr9z; subst hr9z; (try dsimp only); (try k_sweep)))) | (with_reducible ((with_reducible show wpAny _ _ (PySem.call (Value.ref 409) _) _ _ _); k_dflt (refine' useV (is_atomic_yes _ _ _ _ _ _ ?kq) ?k1 ?k2 ?k3 ?k4 ?k5 ?kK ?kp ?kd ?ku ?_; (case k1 => k_asm); (case k2 => k_asm); (case k3 => k_asm); (case k4 => k_asm); (case k5 => k_asm); (case kK => first | exact rfl | assumption); (case kp => trivial); (case kd => ktr_room); (case ku => ktr_units); (case kq => first | assumption | decide); intro r9z h9z tk9z F9z N9z hr9z; subst hr9z; (try dsimp only); (try k_sweep)))) | (with_reducible ((with_reducible show wpAny _ _ (PySem.call (Value.ref 108) _) _ _ _); k_dflt (refine' useV (is_na_it _ _ _ _ _ _ _ ?kq) ?k1 ?k2 ?k3 ?k4 ?k5 ?kK ?kp ?kd ?ku ?_; (case k1 => k_asm); (case k2 => k_asm); (case k3 => k_asm); (case k4 => k_asm); (case k5 => k_asm); (case kK => first | exact rfl | assumption); (case kp => first | assumption | exact FrzNew.it (by assumption) | exact frz_of (by k_mem)); (case kd => ktr_room); (case ku => ktr_units); (case kq => omega); intro r9z h9z tk9z F9z N9z hr9z; subst hr9z; (try dsimp only); (try k_sweep))))) | (with_reducible ((with_reducible show wpAny _ _ (subscriptTail _ _ (PySem.Value.ref _) (PySem.Value.int _ _)) _ _ _); (k_dflt (refine' item_tupleT ?t ?a ?b ?c ?d ?_; (case t => exact News.isTup (by k_asm) (by k_mem)); (case a => decide); (case b => decide); (case c => rfl); (case d => rfl); k_whole)))) | (with_reducible ((with_reducible show wpAny _ _ (PySem.compareOp PySem.CmpOp.Eq (PySem.Value.str _ _) (PySem.Value.str _ _)) _ _ _); ((with_reducible first | (refine eq_self ?_) | (refine eq_not ?kn ?_; (case kn => first | assumption | decide +kernel)) | (refine eq_is ?kn ?_; (case kn => decide +kernel)))))) | ((with_reducible show wpAny _ _ (PySem.eval (PySem.Expr.Call (PySem.Expr.Name _ _) _ _) _) _ _ _); (refine Call_ ?_)) | (with_reducible ((with_reducible show wpAny _ _ (PySem.call (Value.type "str") [Value.int _ _]) _ _ _); (refine' str_int_sO ?kn ?_; (case kn => first | assumption | omega)); intro t9z k9z)) | (with_reducible ((with_reducible show wpAny _ _ (eval (Expr.Name _ _) (envOf _ _ _ _ _)) _ _ _); k_dflt (refine' ld ?k1 ?k2 ?_; (case k1 => k_asm); (case k2 => exact rfl); k_whole))) | walk1 | (dsimp only; walk1) | (leave1; (try dsimp only)) | fail "no step")
  exact hret _ _ _ (by k_asm) (by k_asm) rfl
theorem as_non_CL (w mean mg mb) (nt : Value) (t1 t2 : Tok) : SpecV w mean mg mb 402 36 430 [.str (kn .C) t1, .none, .str (kn .L) t2, nt] (fun _ => True) (fun r => r = .none) := by
  unfold SpecV
  k_fill
  intro dp un gd cn cs a ccd cl outer A₀ base h₀ L m news s Q E B F X N T hk hpre hd hu hret
  refine wpAny_call ?_
  k_dflt cell_enter
  refine abs_A ?_
  intro A9a
  repeat' ((fail_if_success (with_reducible show wpAny _ _ (PySem.exec (PySem.Stmt.While _ _ _ _) _) _ _ _)); (fail_if_success (with_reducible show wpAny _ _ (PySem.exec (PySem.Stmt.For _ _ _ _ _) _) _ _ _)); (fail_if_success (with_reducible show wpAny _ _ (PySem.exec (PySem.Stmt.Assign _ (PySem.Expr.ListComp _ _ _ _) _) _) _ _ _)); (fail_if_success (with_reducible show wpAny _ _ (PySem.eval (PySem.Expr.ListComp _ _ _ _) _) _ _ _)); (fail_if_success (with_reducible show LCg.CompSrc _ _ _ _ _ _ _ _ _ _ _ _ _ _)); (fail_if_success (with_reducible show LCt.CompSrcT _ _ _ _ _ _ _ _ _ _ _ _ _ _ _)); (fail_if_success (with_reducible show LCg.CompEnd _ _ _ _ _ _ _ _ _ _ _ _ _ _)); (fail_if_success (with_reducible show KswEnd _ _ _ _ _ _ _ _ _ _ _ _)); (fail_if_success (with_reducible show UnrEnd _ _ _ _ _ _ _)); first | (k_unfold; (try dsimp only)) | (k_end; wrow_close) | ((with_reducible show wpAny _ _ (PySem.call (Value.ref _) _) _ _ _); first | (with_reducible ((with_reducible show wpAny _ _ (PySem.call (Value.ref 108) _) _ _ _); k_dflt (refine' useV (is_na_none _ _ _ _) ?k1 ?k2 ?k3 ?k4 ?k5 ?kK ?kp ?kd ?ku ?_; (case k1 => k_asm); (case k2 => k_asm); (case k3 => k_asm); (case k4 => k_asm); (case k5 => k_asm); (case kK => first | exact rfl | assumption); (case kp => trivial); (case kd => ktr_room); (case ku => ktr_units); intro r9z h9z tk9z F9z N9z hr9z; subst hr9z; (try dsimp only); (try k_sweep)))) | (with_reducible ((with_reducible show wpAny _ _ (PySem.call (Value.ref 409) _) _ _ _); k_dflt (refine' useV (is_atomic_yes _ _ _ _ _ _ ?kq) ?k1 ?k2 ?k3 ?k4 ?k5 ?kK ?kp ?kd ?ku ?_; (case k1 => k_asm); (case k2 => k_asm); (case k3 => k_asm); (case k4 => k_asm); (case k5 => k_asm); (case kK => first | exact rfl | assumption); (case kp => trivial); (case kd => ktr_room); (case ku => ktr_units); (case kq => first | assumption | decide); intro r9z h9z tk9z F9z N9z hr9z; subst hr9z; (try dsimp only); (try k_sweep)))) | (with_reducible ((with_reducible show wpAny _ _ (PySem.call (Value.ref 108) _) _ _ _); k_dflt (refine' useV (is_na_it _ _ _ _ _ _ _ ?kq) ?k1 ?k2 ?k3 ?k4 ?k5 ?kK ?kp ?kd ?ku ?_; (case k1 => k_asm); (case k2 => k_asm); (case k3 => k_asm); (case k4 => k_asm); (case k5 => k_asm); (case kK => first | exact rfl | assumption); (case kp => first | assumption | exact FrzNew.it (by assumption) | exact frz_of (by k_mem)); (case kd => ktr_room); (case ku => ktr_units); (case kq => omega); intro r9z h9z tk9z F9z N9z hr9z; subst hr9z; (try dsimp only); (try k_sweep))))) | (with_reducible ((with_reducible show wpAny _ _ (subscriptTail _ _ (PySem.Value.ref _) (PySem.Value.int _ _)) _ _ _); (k_dflt (refine' item_tupleT ?t ?a ?b ?c ?d ?_; (case t => exact News.isTup (by k_asm) (by k_mem)); (case a => decide); (case b => decide); (case c => rfl); (case d => rfl); k_whole)))) | (with_reducible ((with_reducible show wpAny _ _ (PySem.compareOp PySem.CmpOp.Eq (PySem.Value.str _ _) (PySem.Value.str _ _)) _ _ _); ((with_reducible first | (refine eq_self ?_) | (refine eq_not ?kn ?_; (case kn => first | assumption | decide +kernel)) | (refine eq_is ?kn ?_; (case kn => decide +kernel)))))) | ((with_reducible show wpAny _ _ (PySem.eval (PySem.Expr.Call (PySem.Expr.Name _ _) _ _) _) _ _ _); (refine Call_ ?_)) | (with_reducible ((with_reducible show wpAny _ _ (PySem.call (Value.type "str") [Value.int _ _]) _ _ _); (refine' str_int_sO ?kn ?_; (case kn => first | assumption | omega)); intro t9z k9z)) | (with_reducible ((with_reducible show wpAny _ _ (eval (Expr.Name _ _) (envOf _ _ _ _ _)) _ _ _); k_dflt (refine' ld ?k1 ?k2 ?_; (case k1 => k_asm); (case k2 => exact rfl); k_whole))) | walk1 | (dsimp only; walk1) | (leave1; (try dsimp only)) | fail "no step")
  exact hret _ _ _ (by k_asm) (by k_asm) rfl
theorem as_LI (w mean mg mb) (i : Int) (nt : Value) (t t1 t2 : Tok) : SpecV w mean mg mb 402 36 430 [.str (kn .L) t1, .int i t, .str (kn .I) t2, nt] (fun _ => True) (fun r => ∃ t, r = .int i t) := by
  unfold SpecV
  k_fill
  intro dp un gd cn cs a ccd cl outer A₀ base h₀ L m news s Q E B F X N T hk hpre hd hu hret
  refine wpAny_call ?_
  k_dflt cell_enter
  refine abs_A ?_
  intro A9a
  repeat' ((fail_if_success (with_reducible show wpAny _ _ (PySem.exec (PySem.Stmt.While _ _ _ _) _) _ _ _)); (fail_if_success (with_reducible show wpAny _ _ (PySem.exec (PySem.Stmt.For _ _ _ _ _) _) _ _ _)); (fail_if_success (with_reducible show wpAny _ _ (PySem.exec (PySem.Stmt.Assign _ (PySem.Expr.ListComp _ _ _ _) _) _) _ _ _)); (fail_if_success (with_reducible show wpAny _ _ (PySem.eval (PySem.Expr.ListComp _ _ _ _) _) _ _ _)); (fail_if_success (with_reducible show LCg.CompSrc _ _ _ _ _ _ _ _ _ _ _ _ _ _)); (fail_if_success (with_reducible show LCt.CompSrcT _ _ _ _ _ _ _ _ _ _ _ _ _ _ _)); (fail_if_success (with_reducible show LCg.CompEnd _ _ _ _ _ _ _ _ _ _ _ _ _ _)); (fail_if_success (with_reducible show KswEnd _ _ _ _ _ _ _ _ _ _ _ _)); (fail_if_success (with_reducible show UnrEnd _ _ _ _ _ _ _)); first | (k_unfold; (try dsimp only)) | (k_end; wrow_close) | ((with_reducible show wpAny _ _ (PySem.call (Value.ref _) _) _ _ _); first | (with_reducible ((with_reducible show wpAny _ _ (PySem.call (Value.ref 108) _) _ _ _); k_dflt (refine' useV (is_na_none _ _ _ _) ?k1 ?k2 ?k3 ?k4 ?k5 ?kK ?kp ?kd ?ku ?_; (case k1 => k_asm); (case k2 => k_asm); (case k3 => k_asm); (case k4 => k_asm); (case k5 => k_asm); (case kK => first | exact rfl | assumption); (case kp => trivial); (case kd => ktr_room); (case ku => ktr_units); intro r9z h9z tk9z F9z N9z hr9z; subst hr9z; (try dsimp only); (try k_sweep)))) | (with_reducible ((with_reducible show wpAny _ _ (PySem.call (Value.ref 409) _) _ _ _); k_dflt (refine' useV (is_atomic_yes _ _ _ _ _ _ ?kq) ?k1 ?k2 ?k3 ?k4 ?k5 ?kK ?kp ?kd ?ku ?_; (case k1 => k_asm); (case k2 => k_asm); (case k3 => k_asm); (case k4 => k_asm); (case k5 => k_asm); (case kK => first | exact rfl | assumption); (case kp => trivial); (case kd => ktr_room); (case ku => ktr_units); (case kq => first | assumption | decide); intro r9z h9z tk9z F9z N9z hr9z; subst hr9z; (try dsimp only); (try k_sweep)))) | (with_reducible ((with_reducible show wpAny _ _ (PySem.call (Value.ref 108) _) _ _ _); k_dflt (refine' useV (is_na_it _ _ _ _ _ _ _ ?kq) ?k1 ?k2 ?k3 ?k4 ?k5 ?kK ?kp ?kd ?ku ?_; (case k1 => k_asm); (case k2 => k_asm); (case k3 => k_asm); (case k4 => k_asm); (case k5 => k_asm); (case kK => first | exact rfl | assumption); (case kp => first | assumption | exact FrzNew.it (by assumption) | exact frz_of (by k_mem)); (case kd => ktr_room); (case ku => ktr_units); (case kq => omega); intro r9z h9z tk9z F9z N9z hr9z; subst hr9z; (try dsimp only); (try k_sweep))))) | (with_reducible ((with_reducible show wpAny _ _ (subscriptTail _ _ (PySem.Value.ref _) (PySem.Value.int _ _)) _ _ _); (k_dflt (refine' item_tupleT ?t ?a ?b ?c ?d ?_; (case t => exact News.isTup (by k_asm) (by k_mem)); (case a => decide); (case b => decide); (case c => rfl); (case d => rfl); k_whole)))) | (with_reducible ((with_reducible show wpAny _ _ (PySem.compareOp PySem.CmpOp.Eq (PySem.Value.str _ _) (PySem.Value.str _ _)) _ _ _); ((with_reducible first | (refine eq_self ?_) | (refine eq_not ?kn ?_; (case kn => first | assumption | decide +kernel)) | (refine eq_is ?kn ?_; (case kn => decide +kernel)))))) | ((with_reducible show wpAny _ _ (PySem.eval (PySem.Expr.Call (PySem.Expr.Name _ _) _ _) _) _ _ _); (refine Call_ ?_)) | (with_reducible ((with_reducible show wpAny _ _ (PySem.call (Value.type "str") [Value.int _ _]) _ _ _); (refine' str_int_sO ?kn ?_; (case kn => first | assumption | omega)); intro t9z k9z)) | (with_reducible ((with_reducible show wpAny _ _ (eval (Expr.Name _ _) (envOf _ _ _ _ _)) _ _ _); k_dflt (refine' ld ?k1 ?k2 ?_; (case k1 => k_asm); (case k2 => exact rfl); k_whole))) | walk1 | (dsimp only; walk1) | (leave1; (try dsimp only)) | fail "no step")
  exact hret _ _ _ (by k_asm) (by k_asm) ⟨_, rfl⟩
theorem as_LC (w mean mg mb) (i : Int) (nt : Value) (t t1 t2 : Tok) : SpecV w mean mg mb 402 36 430 [.str (kn .L) t1, .int i t, .str (kn .C) t2, nt] (fun _ => True) (fun r => ∃ t, r = .str (sO (if i = 1 then tT else tF)) t) := by
  unfold SpecV
  k_fill
  intro dp un gd cn cs a ccd cl outer A₀ base h₀ L m news s Q E B F X N T hk hpre hd hu hret
  refine wpAny_call ?_
  k_dflt cell_enter
  refine abs_A ?_
  intro A9a
  repeat' ((fail_if_success (with_reducible show wpAny _ _ (PySem.exec (PySem.Stmt.While _ _ _ _) _) _ _ _)); (fail_if_success (with_reducible show wpAny _ _ (PySem.exec (PySem.Stmt.For _ _ _ _ _) _) _ _ _)); (fail_if_success (with_reducible show wpAny _ _ (PySem.exec (PySem.Stmt.Assign _ (PySem.Expr.ListComp _ _ _ _) _) _) _ _ _)); (fail_if_success (with_reducible show wpAny _ _ (PySem.eval (PySem.Expr.ListComp _ _ _ _) _) _ _ _)); (fail_if_success (with_reducible show LCg.CompSrc _ _ _ _ _ _ _ _ _ _ _ _ _ _)); (fail_if_success (with_reducible show LCt.CompSrcT _ _ _ _ _ _ _ _ _ _ _ _ _ _ _)); (fail_if_success (with_reducible show LCg.CompEnd _ _ _ _ _ _ _ _ _ _ _ _ _ _)); (fail_if_success (with_reducible show KswEnd _ _ _ _ _ _ _ _ _ _ _ _)); (fail_if_success (with_reducible show UnrEnd _ _ _ _ _ _ _)); first | (k_unfold; (try dsimp only)) | (k_end; wrow_close) | ((with_reducible show wpAny _ _ (PySem.call (Value.ref _) _) _ _ _); first | (with_reducible ((with_reducible show wpAny _ _ (PySem.call (Value.ref 108) _) _ _ _); k_dflt (refine' useV (is_na_none _ _ _ _) ?k1 ?k2 ?k3 ?k4 ?k5 ?kK ?kp ?kd ?ku ?_; (case k1 => k_asm); (case k2 => k_asm); (case k3 => k_asm); (case k4 => k_asm); (case k5 => k_asm); (case kK => first | exact rfl | assumption); (case kp => trivial); (case kd => ktr_room); (case ku => ktr_units); intro r9z h9z tk9z F9z N9z hr9z; subst hr9z; (try dsimp only); (try k_sweep)))) | (with_reducible ((with_reducible show wpAny _ _ (PySem.call (Value.ref 409) _) _ _ _); k_dflt (refine' useV (is_atomic_yes _ _ _ _ _ _ ?kq) ?k1 ?k2 ?k3 ?k4 ?k5 ?kK ?kp ?kd ?ku ?_; (case k1 => k_asm); (case k2 => k_asm); (case k3 => k_asm); (case k4 => k_asm); (case k5 => k_asm); (case kK => first | exact rfl | assumption); (case kp => trivial); (case kd => ktr_room); (case ku => ktr_units); (case kq => first | assumption | decide); intro r9z h9z tk9z F9z N9z hr9z; subst hr9z; (try dsimp only); (try k_sweep)))) | (with_reducible ((with_reducible show wpAny _ _ (PySem.call (Value.ref 108) _) _ _ _); k_dflt (refine' useV (is_na_it _ _ _ _ _ _ _ ?kq) ?k1 ?k2 ?k3 ?k4 ?k5 ?kK ?kp ?kd ?ku ?_; (case k1 => k_asm); (case k2 => k_asm); (case k3 => k_asm); (case k4 => k_asm); (case k5 => k_asm); (case kK => first | exact rfl | assumption); (case kp => first | assumption | exact FrzNew.it (by assumption) | exact frz_of (by k_mem)); (case kd => ktr_room); (case ku => ktr_units); (case kq => omega); intro r9z h9z tk9z F9z N9z hr9z; subst hr9z; (try dsimp only); (try k_sweep))))) | (with_reducible ((with_reducible show wpAny _ _ (subscriptTail _ _ (PySem.Value.ref _) (PySem.Value.int _ _)) _ _ _); (k_dflt (refine' item_tupleT ?t ?a ?b ?c ?d ?_; (case t => exact News.isTup (by k_asm) (by k_mem)); (case a => decide); (case b => decide); (case c => rfl); (case d => rfl); k_whole)))) | (with_reducible ((with_reducible show wpAny _ _ (PySem.compareOp PySem.CmpOp.Eq (PySem.Value.str _ _) (PySem.Value.str _ _)) _ _ _); ((with_reducible first | (refine eq_self ?_) | (refine eq_not ?kn ?_; (case kn => first | assumption | decide +kernel)) | (refine eq_is ?kn ?_; (case kn => decide +kernel)))))) | ((with_reducible show wpAny _ _ (PySem.eval (PySem.Expr.Call (PySem.Expr.Name _ _) _ _) _) _ _ _); (refine Call_ ?_)) | (with_reducible ((with_reducible show wpAny _ _ (PySem.call (Value.type "str") [Value.int _ _]) _ _ _); (refine' str_int_sO ?kn ?_; (case kn => first | assumption | omega)); intro t9z k9z)) | (with_reducible ((with_reducible show wpAny _ _ (eval (Expr.Name _ _) (envOf _ _ _ _ _)) _ _ _); k_dflt (refine' ld ?k1 ?k2 ?_; (case k1 => k_asm); (case k2 => exact rfl); k_whole))) | walk1 | (dsimp only; walk1) | (leave1; (try dsimp only)) | fail "no step")
  all_goals first
    | exact hret _ _ _ (by k_asm) (by k_asm) ⟨_, by rw [if_pos (by assumption), ← lit_T]⟩
    | exact hret _ _ _ (by k_asm) (by k_asm) ⟨_, by rw [if_neg (by assumption), ← lit_F]⟩
theorem as_IC (w mean mg mb) (i : Int) (nt : Value) (t t1 t2 : Tok) (hi : i.natAbs < 10 ^ 6) : SpecV w mean mg mb 402 36 430 [.str (kn .I) t1, .int i t, .str (kn .C) t2, nt] (fun _ => True) (fun r => ∃ t, r = .str (sO (txt i 0 i.natAbs)) t) := by
  unfold SpecV
  k_fill
  intro dp un gd cn cs a ccd cl outer A₀ base h₀ L m news s Q E B F X N T hk hpre hd hu hret
  refine wpAny_call ?_
  k_dflt cell_enter
  refine abs_A ?_
  intro A9a
  repeat' ((fail_if_success (with_reducible show wpAny _ _ (PySem.exec (PySem.Stmt.While _ _ _ _) _) _ _ _)); (fail_if_success (with_reducible show wpAny _ _ (PySem.exec (PySem.Stmt.For _ _ _ _ _) _) _ _ _)); (fail_if_success (with_reducible show wpAny _ _ (PySem.exec (PySem.Stmt.Assign _ (PySem.Expr.ListComp _ _ _ _) _) _) _ _ _)); (fail_if_success (with_reducible show wpAny _ _ (PySem.eval (PySem.Expr.ListComp _ _ _ _) _) _ _ _)); (fail_if_success (with_reducible show LCg.CompSrc _ _ _ _ _ _ _ _ _ _ _ _ _ _)); (fail_if_success (with_reducible show LCt.CompSrcT _ _ _ _ _ _ _ _ _ _ _ _ _ _ _)); (fail_if_success (with_reducible show LCg.CompEnd _ _ _ _ _ _ _ _ _ _ _ _ _ _)); (fail_if_success (with_reducible show KswEnd _ _ _ _ _ _ _ _ _ _ _ _)); (fail_if_success (with_reducible show UnrEnd _ _ _ _ _ _ _)); first | (k_unfold; (try dsimp only)) | (k_end; wrow_close) | ((with_reducible show wpAny _ _ (PySem.call (Value.ref _) _) _ _ _); first | (with_reducible ((with_reducible show wpAny _ _ (PySem.call (Value.ref 108) _) _ _ _); k_dflt (refine' useV (is_na_none _ _ _ _) ?k1 ?k2 ?k3 ?k4 ?k5 ?kK ?kp ?kd ?ku ?_; (case k1 => k_asm); (case k2 => k_asm); (case k3 => k_asm); (case k4 => k_asm); (case k5 => k_asm); (case kK => first | exact rfl | assumption); (case kp => trivial); (case kd => ktr_room); (case ku => ktr_units); intro r9z h9z tk9z F9z N9z hr9z; subst hr9z; (try dsimp only); (try k_sweep)))) | (with_reducible ((with_reducible show wpAny _ _ (PySem.call (Value.ref 409) _) _ _ _); k_dflt (refine' useV (is_atomic_yes _ _ _ _ _ _ ?kq) ?k1 ?k2 ?k3 ?k4 ?k5 ?kK ?kp ?kd ?ku ?_; (case k1 => k_asm); (case k2 => k_asm); (case k3 => k_asm); (case k4 => k_asm); (case k5 => k_asm); (case kK => first | exact rfl | assumption); (case kp => trivial); (case kd => ktr_room); (case ku => ktr_units); (case kq => first | assumption | decide); intro r9z h9z tk9z F9z N9z hr9z; subst hr9z; (try dsimp only); (try k_sweep)))) | (with_reducible ((with_reducible show wpAny _ _ (PySem.call (Value.ref 108) _) _ _ _); k_dflt (refine' useV (is_na_it _ _ _ _ _ _ _ ?kq) ?k1 ?k2 ?k3 ?k4 ?k5 ?kK ?kp ?kd ?ku ?_; (case k1 => k_asm); (case k2 => k_asm); (case k3 => k_asm); (case k4 => k_asm); (case k5 => k_asm); (case kK => first | exact rfl | assumption); (case kp => first | assumption | exact FrzNew.it (by assumption) | exact frz_of (by k_mem)); (case kd => ktr_room); (case ku => ktr_units); (case kq => omega); intro r9z h9z tk9z F9z N9z hr9z; subst hr9z; (try dsimp only); (try k_sweep))))) | (with_reducible ((with_reducible show wpAny _ _ (subscriptTail _ _ (PySem.Value.ref _) (PySem.Value.int _ _)) _ _ _); (k_dflt (refine' item_tupleT ?t ?a ?b ?c ?d ?_; (case t => exact News.isTup (by k_asm) (by k_mem)); (case a => decide); (case b => decide); (case c => rfl); (case d => rfl); k_whole)))) | (with_reducible ((with_reducible show wpAny _ _ (PySem.compareOp PySem.CmpOp.Eq (PySem.Value.str _ _) (PySem.Value.str _ _)) _ _ _); ((with_reducible first | (refine eq_self ?_) | (refine eq_not ?kn ?_; (case kn => first | assumption | decide +kernel)) | (refine eq_is ?kn ?_; (case kn => decide +kernel)))))) | ((with_reducible show wpAny _ _ (PySem.eval (PySem.Expr.Call (PySem.Expr.Name _ _) _ _) _) _ _ _); (refine Call_ ?_)) | (with_reducible ((with_reducible show wpAny _ _ (PySem.call (Value.type "str") [Value.int _ _]) _ _ _); (refine' str_int_sO ?kn ?_; (case kn => first | assumption | omega)); intro t9z k9z)) | (with_reducible ((with_reducible show wpAny _ _ (eval (Expr.Name _ _) (envOf _ _ _ _ _)) _ _ _); k_dflt (refine' ld ?k1 ?k2 ?_; (case k1 => k_asm); (case k2 => exact rfl); k_whole))) | walk1 | (dsimp only; walk1) | (leave1; (try dsimp only)) | fail "no step")
  exact hret _ _ _ (by k_asm) (by k_asm) ⟨_, by rw [txt_int]⟩
theorem as_IL (w mean mg mb) (i : Int) (nt : Value) (t t1 t2 : Tok) (hi : i = 0 ∨ i = 1) : SpecV w mean mg mb 402 36 430 [.str (kn .I) t1, .int i t, .str (kn .L) t2, nt] (fun _ => True) (fun r => ∃ t, r = .int i t) := by
  unfold SpecV
  k_fill
  intro dp un gd cn cs a ccd cl outer A₀ base h₀ L m news s Q E B F X N T hk hpre hd hu hret
  refine wpAny_call ?_
  k_dflt cell_enter
  refine abs_A ?_
  intro A9a
  repeat' ((fail_if_success (with_reducible show wpAny _ _ (PySem.exec (PySem.Stmt.While _ _ _ _) _) _ _ _)); (fail_if_success (with_reducible show wpAny _ _ (PySem.exec (PySem.Stmt.For _ _ _ _ _) _) _ _ _)); (fail_if_success (with_reducible show wpAny _ _ (PySem.exec (PySem.Stmt.Assign _ (PySem.Expr.ListComp _ _ _ _) _) _) _ _ _)); (fail_if_success (with_reducible show wpAny _ _ (PySem.eval (PySem.Expr.ListComp _ _ _ _) _) _ _ _)); (fail_if_success (with_reducible show LCg.CompSrc _ _ _ _ _ _ _ _ _ _ _ _ _ _)); (fail_if_success (with_reducible show LCt.CompSrcT _ _ _ _ _ _ _ _ _ _ _ _ _ _ _)); (fail_if_success (with_reducible show LCg.CompEnd _ _ _ _ _ _ _ _ _ _ _ _ _ _)); (fail_if_success (with_reducible show KswEnd _ _ _ _ _ _ _ _ _ _ _ _)); (fail_if_success (with_reducible show UnrEnd _ _ _ _ _ _ _)); first | (k_unfold; (try dsimp only)) | (k_end; wrow_close) | ((with_reducible show wpAny _ _ (PySem.call (Value.ref _) _) _ _ _); first | (with_reducible ((with_reducible show wpAny _ _ (PySem.call (Value.ref 108) _) _ _ _); k_dflt (refine' useV (is_na_none _ _ _ _) ?k1 ?k2 ?k3 ?k4 ?k5 ?kK ?kp ?kd ?ku ?_; (case k1 => k_asm); (case k2 => k_asm); (case k3 => k_asm); (case k4 => k_asm); (case k5 => k_asm); (case kK => first | exact rfl | assumption); (case kp => trivial); (case kd => ktr_room); (case ku => ktr_units); intro r9z h9z tk9z F9z N9z hr9z; subst hr9z; (try dsimp only); (try k_sweep)))) | (with_reducible ((with_reducible show wpAny _ _ (PySem.call (Value.ref 409) _) _ _ _); k_dflt (refine' useV (is_atomic_yes _ _ _ _ _ _ ?kq) ?k1 ?k2 ?k3 ?k4 ?k5 ?kK ?kp ?kd ?ku ?_; (case k1 => k_asm); (case k2 => k_asm); (case k3 => k_asm); (case k4 => k_asm); (case k5 => k_asm); (case kK => first | exact rfl | assumption); (case kp => trivial); (case kd => ktr_room); (case ku => ktr_units); (case kq => first | assumption | decide); intro r9z h9z tk9z F9z N9z hr9z; subst hr9z; (try dsimp only); (try k_sweep)))) | (with_reducible ((with_reducible show wpAny _ _ (PySem.call (Value.ref 108) _) _ _ _); k_dflt (refine' useV (is_na_it _ _ _ _ _ _ _ ?kq) ?k1 ?k2 ?k3 ?k4 ?k5 ?kK ?kp ?kd ?ku ?_; (case k1 => k_asm); (case k2 => k_asm); (case k3 => k_asm); (case k4 => k_asm); (case k5 => k_asm); (case kK => first | exact rfl | assumption); (case kp => first | assumption | exact FrzNew.it (by assumption) | exact frz_of (by k_mem)); (case kd => ktr_room); (case ku => ktr_units); (case kq => omega); intro r9z h9z tk9z F9z N9z hr9z; subst hr9z; (try dsimp only); (try k_sweep))))) | (with_reducible ((with_reducible show wpAny _ _ (subscriptTail _ _ (PySem.Value.ref _) (PySem.Value.int _ _)) _ _ _); (k_dflt (refine' item_tupleT ?t ?a ?b ?c ?d ?_; (case t => exact News.isTup (by k_asm) (by k_mem)); (case a => decide); (case b => decide); (case c => rfl); (case d => rfl); k_whole)))) | (with_reducible ((with_reducible show wpAny _ _ (PySem.compareOp PySem.CmpOp.Eq (PySem.Value.str _ _) (PySem.Value.str _ _)) _ _ _); ((with_reducible first | (refine eq_self ?_) | (refine eq_not ?kn ?_; (case kn => first | assumption | decide +kernel)) | (refine eq_is ?kn ?_; (case kn => decide +kernel)))))) | ((with_reducible show wpAny _ _ (PySem.eval (PySem.Expr.Call (PySem.Expr.Name _ _) _ _) _) _ _ _); (refine Call_ ?_)) | (with_reducible ((with_reducible show wpAny _ _ (PySem.call (Value.type "str") [Value.int _ _]) _ _ _); (refine' str_int_sO ?kn ?_; (case kn => first | assumption | omega)); intro t9z k9z)) | (with_reducible ((with_reducible show wpAny _ _ (eval (Expr.Name _ _) (envOf _ _ _ _ _)) _ _ _); k_dflt (refine' ld ?k1 ?k2 ?_; (case k1 => k_asm); (case k2 => exact rfl); k_whole))) | walk1 | (dsimp only; walk1) | (leave1; (try dsimp only)) | fail "no step")
  all_goals first
    | exact hret _ _ _ (by k_asm) (by k_asm) (ktn_int (by omega))
theorem as_DL (w mean mg mb) (x : Addr) (i : Int) (nt : Value) (t1 t2 t3 t4 : Tok) (c : Nat) (hi : i = 0 ∨ i = 1) : SpecV w mean mg mb 402 36 430 [.str (kn .D) t1, .ref x, .str (kn .L) t2, nt] (fun news => (x, tupO [.int i t3, .int 1 t4] c) ∈ news) (fun r => ∃ t, r = .int i t) := by
  unfold SpecV
  k_fill
  intro dp un gd cn cs a ccd cl outer A₀ base h₀ L m news s Q E B F X N T hk hpre hd hu hret
  refine wpAny_call ?_
  k_dflt cell_enter
  refine abs_A ?_
  intro A9a
  repeat' ((fail_if_success (with_reducible show wpAny _ _ (PySem.exec (PySem.Stmt.While _ _ _ _) _) _ _ _)); (fail_if_success (with_reducible show wpAny _ _ (PySem.exec (PySem.Stmt.For _ _ _ _ _) _) _ _ _)); (fail_if_success (with_reducible show wpAny _ _ (PySem.exec (PySem.Stmt.Assign _ (PySem.Expr.ListComp _ _ _ _) _) _) _ _ _)); (fail_if_success (with_reducible show wpAny _ _ (PySem.eval (PySem.Expr.ListComp _ _ _ _) _) _ _ _)); (fail_if_success (with_reducible show LCg.CompSrc _ _ _ _ _ _ _ _ _ _ _ _ _ _)); (fail_if_success (with_reducible show LCt.CompSrcT _ _ _ _ _ _ _ _ _ _ _ _ _ _ _)); (fail_if_success (with_reducible show LCg.CompEnd _ _ _ _ _ _ _ _ _ _ _ _ _ _)); (fail_if_success (with_reducible show KswEnd _ _ _ _ _ _ _ _ _ _ _ _)); (fail_if_success (with_reducible show UnrEnd _ _ _ _ _ _ _)); first | (k_unfold; (try dsimp only)) | (k_end; wrow_close) | ((with_reducible show wpAny _ _ (PySem.call (Value.ref _) _) _ _ _); first | (with_reducible ((with_reducible show wpAny _ _ (PySem.call (Value.ref 108) _) _ _ _); k_dflt (refine' useV (is_na_none _ _ _ _) ?k1 ?k2 ?k3 ?k4 ?k5 ?kK ?kp ?kd ?ku ?_; (case k1 => k_asm); (case k2 => k_asm); (case k3 => k_asm); (case k4 => k_asm); (case k5 => k_asm); (case kK => first | exact rfl | assumption); (case kp => trivial); (case kd => ktr_room); (case ku => ktr_units); intro r9z h9z tk9z F9z N9z hr9z; subst hr9z; (try dsimp only); (try k_sweep)))) | (with_reducible ((with_reducible show wpAny _ _ (PySem.call (Value.ref 409) _) _ _ _); k_dflt (refine' useV (is_atomic_yes _ _ _ _ _ _ ?kq) ?k1 ?k2 ?k3 ?k4 ?k5 ?kK ?kp ?kd ?ku ?_; (case k1 => k_asm); (case k2 => k_asm); (case k3 => k_asm); (case k4 => k_asm); (case k5 => k_asm); (case kK => first | exact rfl | assumption); (case kp => trivial); (case kd => ktr_room); (case ku => ktr_units); (case kq => first | assumption | decide); intro r9z h9z tk9z F9z N9z hr9z; subst hr9z; (try dsimp only); (try k_sweep)))) | (with_reducible ((with_reducible show wpAny _ _ (PySem.call (Value.ref 108) _) _ _ _); k_dflt (refine' useV (is_na_it _ _ _ _ _ _ _ ?kq) ?k1 ?k2 ?k3 ?k4 ?k5 ?kK ?kp ?kd ?ku ?_; (case k1 => k_asm); (case k2 => k_asm); (case k3 => k_asm); (case k4 => k_asm); (case k5 => k_asm); (case kK => first | exact rfl | assumption); (case kp => first | assumption | exact FrzNew.it (by assumption) | exact frz_of (by k_mem)); (case kd => ktr_room); (case ku => ktr_units); (case kq => omega); intro r9z h9z tk9z F9z N9z hr9z; subst hr9z; (try dsimp only); (try k_sweep))))) | (with_reducible ((with_reducible show wpAny _ _ (subscriptTail _ _ (PySem.Value.ref _) (PySem.Value.int _ _)) _ _ _); (k_dflt (refine' item_tupleT ?t ?a ?b ?c ?d ?_; (case t => exact News.isTup (by k_asm) (by k_mem)); (case a => decide); (case b => decide); (case c => rfl); (case d => rfl); k_whole)))) | (with_reducible ((with_reducible show wpAny _ _ (PySem.compareOp PySem.CmpOp.Eq (PySem.Value.str _ _) (PySem.Value.str _ _)) _ _ _); ((with_reducible first | (refine eq_self ?_) | (refine eq_not ?kn ?_; (case kn => first | assumption | decide +kernel)) | (refine eq_is ?kn ?_; (case kn => decide +kernel)))))) | ((with_reducible show wpAny _ _ (PySem.eval (PySem.Expr.Call (PySem.Expr.Name _ _) _ _) _) _ _ _); (refine Call_ ?_)) | (with_reducible ((with_reducible show wpAny _ _ (PySem.call (Value.type "str") [Value.int _ _]) _ _ _); (refine' str_int_sO ?kn ?_; (case kn => first | assumption | omega)); intro t9z k9z)) | (with_reducible ((with_reducible show wpAny _ _ (eval (Expr.Name _ _) (envOf _ _ _ _ _)) _ _ _); k_dflt (refine' ld ?k1 ?k2 ?_; (case k1 => k_asm); (case k2 => exact rfl); k_whole))) | walk1 | (dsimp only; walk1) | (leave1; (try dsimp only)) | fail "no step")
  all_goals first
    | exact hret _ _ _ (by k_asm) (by k_asm) (ktn_int (by omega))

example : True := by (w_top off; exact True.intro)
theorem as_DC (w mean mg mb) (x : Addr) (n d : Int) (pl M : Nat) (nt : Value) (t1 t2 t3 t4 : Tok) (c : Nat) (hn : Num n d pl M) : SpecV w mean mg mb 402 36 430 [.str (kn .D) t1, .ref x, .str (kn .C) t2, nt] (fun news => (x, tupO [.int n t3, .int d t4] c) ∈ news)
    (fun r => ∃ t, r = .str (sO (txt n pl M)) t) := by
  unfold SpecV
  k_fill
  intro dp un gd cn cs a ccd cl outer A₀ base h₀ L m news s Q E B F X N T hk hpre hd hu hret
  refine wpAny_call ?_
  k_dflt cell_enter
  refine abs_A ?_
  intro A9a
  repeat' ((fail_if_success (with_reducible show wpAny _ _ (PySem.exec (PySem.Stmt.While _ _ _ _) _) _ _ _)); (fail_if_success (with_reducible show wpAny _ _ (PySem.exec (PySem.Stmt.For _ _ _ _ _) _) _ _ _)); (fail_if_success (with_reducible show wpAny _ _ (PySem.exec (PySem.Stmt.Assign _ (PySem.Expr.ListComp _ _ _ _) _) _) _ _ _)); (fail_if_success (with_reducible show wpAny _ _ (PySem.eval (PySem.Expr.ListComp _ _ _ _) _) _ _ _)); (fail_if_success (with_reducible show LCg.CompSrc _ _ _ _ _ _ _ _ _ _ _ _ _ _)); (fail_if_success (with_reducible show LCt.CompSrcT _ _ _ _ _ _ _ _ _ _ _ _ _ _ _)); (fail_if_success (with_reducible show LCg.CompEnd _ _ _ _ _ _ _ _ _ _ _ _ _ _)); (fail_if_success (with_reducible show KswEnd _ _ _ _ _ _ _ _ _ _ _ _)); (fail_if_success (with_reducible show UnrEnd _ _ _ _ _ _ _)); first | (k_unfold; (try dsimp only)) | (k_end; wrow_close) | ((with_reducible show wpAny _ _ (PySem.call (Value.ref _) _) _ _ _); first | (with_reducible ((with_reducible show wpAny _ _ (PySem.call (Value.ref 226) _) _ _ _); k_dflt (refine' useV (number_text_spec _ _ _ _ _ _ _ _ _ _ _ _ _ ?kq) ?k1 ?k2 ?k3 ?k4 ?k5 ?kK ?kp ?kd ?ku ?_; (case k1 => k_asm); (case k2 => k_asm); (case k3 => k_asm); (case k4 => k_asm); (case k5 => k_asm); (case kK => first | exact rfl | assumption); (case kp => k_mem); (case kd => ktr_room); (case ku => ktr_units); (case kq => assumption); intro r9z h9z tk9z F9z N9z hr9z; obtain ⟨t9z, hr9z⟩ := hr9z; subst hr9z; (try dsimp only); (try k_sweep)))) | (with_reducible ((with_reducible show wpAny _ _ (PySem.call (Value.ref 409) _) _ _ _); k_dflt (refine' useV (is_atomic_yes _ _ _ _ _ _ ?kq) ?k1 ?k2 ?k3 ?k4 ?k5 ?kK ?kp ?kd ?ku ?_; (case k1 => k_asm); (case k2 => k_asm); (case k3 => k_asm); (case k4 => k_asm); (case k5 => k_asm); (case kK => first | exact rfl | assumption); (case kp => trivial); (case kd => ktr_room); (case ku => ktr_units); (case kq => first | assumption | decide); intro r9z h9z tk9z F9z N9z hr9z; subst hr9z; (try dsimp only); (try k_sweep)))) | (with_reducible ((with_reducible show wpAny _ _ (PySem.call (Value.ref 409) _) _ _ _); k_dflt (refine' useV (is_atomic_no _ _ _ _ _) ?k1 ?k2 ?k3 ?k4 ?k5 ?kK ?kp ?kd ?ku ?_; (case k1 => k_asm); (case k2 => k_asm); (case k3 => k_asm); (case k4 => k_asm); (case k5 => k_asm); (case kK => first | exact rfl | assumption); (case kp => trivial); (case kd => ktr_room); (case ku => ktr_units); intro r9z h9z tk9z F9z N9z hr9z; subst hr9z; (try dsimp only); (try k_sweep)))) | (with_reducible ((with_reducible show wpAny _ _ (PySem.call (Value.ref 129) _) _ _ _); k_dflt (refine' useV (to_whole_it _ _ _ _ _ _) ?k1 ?k2 ?k3 ?k4 ?k5 ?kK ?kp ?kd ?ku ?_; (case k1 => k_asm); (case k2 => k_asm); (case k3 => k_asm); (case k4 => k_asm); (case k5 => k_asm); (case kK => first | exact rfl | assumption); (case kp => first | assumption | exact FrzNew.it (by assumption) | exact frz_of (by k_mem)); (case kd => ktr_room); (case ku => ktr_units); intro r9z h9z tk9z F9z N9z hr9z; obtain ⟨t9z, hr9z⟩ := hr9z; subst hr9z; (try dsimp only); (try k_sweep)))) | (with_reducible ((with_reducible show wpAny _ _ (PySem.call (Value.ref 108) _) _ _ _); k_dflt (refine' useV (is_na_it _ _ _ _ _ _ _ ?kq) ?k1 ?k2 ?k3 ?k4 ?k5 ?kK ?kp ?kd ?ku ?_; (case k1 => k_asm); (case k2 => k_asm); (case k3 => k_asm); (case k4 => k_asm); (case k5 => k_asm); (case kK => first | exact rfl | assumption); (case kp => first | assumption | exact FrzNew.it (by assumption) | exact frz_of (by k_mem)); (case kd => ktr_room); (case ku => ktr_units); (case kq => omega); intro r9z h9z tk9z F9z N9z hr9z; subst hr9z; (try dsimp only); (try k_sweep)))) | (with_reducible ((with_reducible show wpAny _ _ (PySem.call (Value.ref 101) _) _ _ _); k_dflt (refine' useO (from_int_spec _ _ _ _ _ _) ?k1 ?k2 ?k3 ?k4 ?k5 ?kK ?kp ?kd ?ku ?_; (case k1 => k_asm); (case k2 => k_asm); (case k3 => k_asm); (case k4 => k_asm); (case k5 => k_asm); (case kK => first | exact rfl | assumption); (case kp => trivial); (case kd => ktr_room); (case ku => ktr_units); intro r9z nw9z h9z tk9z F9z N9z hr9z; obtain ⟨D9z, t91, t92, c9z, l9z, hr9z, hn9z⟩ := hr9z; subst hr9z; subst hn9z; (try dsimp only); (try k_sweep))))) | (with_reducible ((with_reducible show wpAny _ _ (PySem.compareOp PySem.CmpOp.Eq (PySem.Value.str _ _) (PySem.Value.str _ _)) _ _ _); ((with_reducible first | (refine eq_self ?_) | (refine eq_not ?kn ?_; (case kn => first | assumption | decide +kernel)) | (refine eq_is ?kn ?_; (case kn => decide +kernel)))))) | ((with_reducible show wpAny _ _ (PySem.eval (PySem.Expr.Call (PySem.Expr.Name _ _) _ _) _) _ _ _); (refine Call_ ?_)) | (with_reducible ((with_reducible show wpAny _ _ (eval (Expr.Name _ _) (envOf _ _ _ _ _)) _ _ _); k_dflt (refine' ld ?k1 ?k2 ?_; (case k1 => k_asm); (case k2 => exact rfl); k_whole))) | (with_reducible ((with_reducible show wpAny _ _ (PySem.call (PySem.Value.builtin "abs") _) _ _ _); (refine abs_natAbs ?_; intro u9z k9z))) | walk1 | (dsimp only; walk1) | (leave1; (try dsimp only)) | fail "no step")
  exact hret _ _ _ (by k_asm) (by k_asm) ⟨_, rfl⟩
theorem as_DI (w mean mg mb) (x : Addr) (n : Int) (nt : Value) (t1 t2 t3 t4 : Tok) (c : Nat) (hn : n.natAbs < 10 ^ 6) : SpecV w mean mg mb 402 36 430 [.str (kn .D) t1, .ref x, .str (kn .I) t2, nt] (fun news => (x, tupO [.int n t3, .int 1 t4] c) ∈ news)
    (fun r => ∃ t, r = .int n t) := by
  unfold SpecV
  k_fill
  intro dp un gd cn cs a ccd cl outer A₀ base h₀ L m news s Q E B F X N T hk hpre hd hu hret
  refine wpAny_call ?_
  k_dflt cell_enter
  refine abs_A ?_
  intro A9a
  repeat' ((fail_if_success (with_reducible show wpAny _ _ (PySem.exec (PySem.Stmt.While _ _ _ _) _) _ _ _)); (fail_if_success (with_reducible show wpAny _ _ (PySem.exec (PySem.Stmt.For _ _ _ _ _) _) _ _ _)); (fail_if_success (with_reducible show wpAny _ _ (PySem.exec (PySem.Stmt.Assign _ (PySem.Expr.ListComp _ _ _ _) _) _) _ _ _)); (fail_if_success (with_reducible show wpAny _ _ (PySem.eval (PySem.Expr.ListComp _ _ _ _) _) _ _ _)); (fail_if_success (with_reducible show LCg.CompSrc _ _ _ _ _ _ _ _ _ _ _ _ _ _)); (fail_if_success (with_reducible show LCt.CompSrcT _ _ _ _ _ _ _ _ _ _ _ _ _ _ _)); (fail_if_success (with_reducible show LCg.CompEnd _ _ _ _ _ _ _ _ _ _ _ _ _ _)); (fail_if_success (with_reducible show KswEnd _ _ _ _ _ _ _ _ _ _ _ _)); (fail_if_success (with_reducible show UnrEnd _ _ _ _ _ _ _)); first | (k_unfold; (try dsimp only)) | (k_end; wrow_close) | ((with_reducible show wpAny _ _ (PySem.call (Value.ref _) _) _ _ _); first | (with_reducible ((with_reducible show wpAny _ _ (PySem.call (Value.ref 226) _) _ _ _); k_dflt (refine' useV (number_text_spec _ _ _ _ _ _ _ _ _ _ _ _ _ ?kq) ?k1 ?k2 ?k3 ?k4 ?k5 ?kK ?kp ?kd ?ku ?_; (case k1 => k_asm); (case k2 => k_asm); (case k3 => k_asm); (case k4 => k_asm); (case k5 => k_asm); (case kK => first | exact rfl | assumption); (case kp => k_mem); (case kd => ktr_room); (case ku => ktr_units); (case kq => assumption); intro r9z h9z tk9z F9z N9z hr9z; obtain ⟨t9z, hr9z⟩ := hr9z; subst hr9z; (try dsimp only); (try k_sweep)))) | (with_reducible ((with_reducible show wpAny _ _ (PySem.call (Value.ref 409) _) _ _ _); k_dflt (refine' useV (is_atomic_yes _ _ _ _ _ _ ?kq) ?k1 ?k2 ?k3 ?k4 ?k5 ?kK ?kp ?kd ?ku ?_; (case k1 => k_asm); (case k2 => k_asm); (case k3 => k_asm); (case k4 => k_asm); (case k5 => k_asm); (case kK => first | exact rfl | assumption); (case kp => trivial); (case kd => ktr_room); (case ku => ktr_units); (case kq => first | assumption | decide); intro r9z h9z tk9z F9z N9z hr9z; subst hr9z; (try dsimp only); (try k_sweep)))) | (with_reducible ((with_reducible show wpAny _ _ (PySem.call (Value.ref 409) _) _ _ _); k_dflt (refine' useV (is_atomic_no _ _ _ _ _) ?k1 ?k2 ?k3 ?k4 ?k5 ?kK ?kp ?kd ?ku ?_; (case k1 => k_asm); (case k2 => k_asm); (case k3 => k_asm); (case k4 => k_asm); (case k5 => k_asm); (case kK => first | exact rfl | assumption); (case kp => trivial); (case kd => ktr_room); (case ku => ktr_units); intro r9z h9z tk9z F9z N9z hr9z; subst hr9z; (try dsimp only); (try k_sweep)))) | (with_reducible ((with_reducible show wpAny _ _ (PySem.call (Value.ref 129) _) _ _ _); k_dflt (refine' useV (to_whole_it _ _ _ _ _ _) ?k1 ?k2 ?k3 ?k4 ?k5 ?kK ?kp ?kd ?ku ?_; (case k1 => k_asm); (case k2 => k_asm); (case k3 => k_asm); (case k4 => k_asm); (case k5 => k_asm); (case kK => first | exact rfl | assumption); (case kp => first | assumption | exact FrzNew.it (by assumption) | exact frz_of (by k_mem)); (case kd => ktr_room); (case ku => ktr_units); intro r9z h9z tk9z F9z N9z hr9z; obtain ⟨t9z, hr9z⟩ := hr9z; subst hr9z; (try dsimp only); (try k_sweep)))) | (with_reducible ((with_reducible show wpAny _ _ (PySem.call (Value.ref 108) _) _ _ _); k_dflt (refine' useV (is_na_it _ _ _ _ _ _ _ ?kq) ?k1 ?k2 ?k3 ?k4 ?k5 ?kK ?kp ?kd ?ku ?_; (case k1 => k_asm); (case k2 => k_asm); (case k3 => k_asm); (case k4 => k_asm); (case k5 => k_asm); (case kK => first | exact rfl | assumption); (case kp => first | assumption | exact FrzNew.it (by assumption) | exact frz_of (by k_mem)); (case kd => ktr_room); (case ku => ktr_units); (case kq => omega); intro r9z h9z tk9z F9z N9z hr9z; subst hr9z; (try dsimp only); (try k_sweep)))) | (with_reducible ((with_reducible show wpAny _ _ (PySem.call (Value.ref 101) _) _ _ _); k_dflt (refine' useO (from_int_spec _ _ _ _ _ _) ?k1 ?k2 ?k3 ?k4 ?k5 ?kK ?kp ?kd ?ku ?_; (case k1 => k_asm); (case k2 => k_asm); (case k3 => k_asm); (case k4 => k_asm); (case k5 => k_asm); (case kK => first | exact rfl | assumption); (case kp => trivial); (case kd => ktr_room); (case ku => ktr_units); intro r9z nw9z h9z tk9z F9z N9z hr9z; obtain ⟨D9z, t91, t92, c9z, l9z, hr9z, hn9z⟩ := hr9z; subst hr9z; subst hn9z; (try dsimp only); (try k_sweep))))) | (with_reducible ((with_reducible show wpAny _ _ (PySem.compareOp PySem.CmpOp.Eq (PySem.Value.str _ _) (PySem.Value.str _ _)) _ _ _); ((with_reducible first | (refine eq_self ?_) | (refine eq_not ?kn ?_; (case kn => first | assumption | decide +kernel)) | (refine eq_is ?kn ?_; (case kn => decide +kernel)))))) | ((with_reducible show wpAny _ _ (PySem.eval (PySem.Expr.Call (PySem.Expr.Name _ _) _ _) _) _ _ _); (refine Call_ ?_)) | (with_reducible ((with_reducible show wpAny _ _ (eval (Expr.Name _ _) (envOf _ _ _ _ _)) _ _ _); k_dflt (refine' ld ?k1 ?k2 ?_; (case k1 => k_asm); (case k2 => exact rfl); k_whole))) | (with_reducible ((with_reducible show wpAny _ _ (PySem.call (PySem.Value.builtin "abs") _) _ _ _); (refine abs_natAbs ?_; intro u9z k9z))) | walk1 | (dsimp only; walk1) | (leave1; (try dsimp only)) | fail "no step")
  all_goals first
    | exact hret _ _ _ (by k_asm) (by k_asm) ⟨_, rfl⟩
    | (exfalso; omega)
theorem as_CI (w mean mg mb) (n : Int) (M : Nat) (nt : Value) (t t1 t2 : Tok) (hn : Num n 1 0 M) : SpecV w mean mg mb 402 36 430 [.str (kn .C) t1, .str (sO (txt n 0 M)) t, .str (kn .I) t2, nt] (fun _ => True)
    (fun r => ∃ t, r = .int n t) := by
  have hsm := hn.small
  unfold SpecV
  k_fill
  intro dp un gd cn cs a ccd cl outer A₀ base h₀ L m news s Q E B F X N T hk hpre hd hu hret
  refine wpAny_call ?_
  k_dflt cell_enter
  refine abs_A ?_
  intro A9a
  repeat' ((fail_if_success (with_reducible show wpAny _ _ (PySem.exec (PySem.Stmt.While _ _ _ _) _) _ _ _)); (fail_if_success (with_reducible show wpAny _ _ (PySem.exec (PySem.Stmt.For _ _ _ _ _) _) _ _ _)); (fail_if_success (with_reducible show wpAny _ _ (PySem.exec (PySem.Stmt.Assign _ (PySem.Expr.ListComp _ _ _ _) _) _) _ _ _)); (fail_if_success (with_reducible show wpAny _ _ (PySem.eval (PySem.Expr.ListComp _ _ _ _) _) _ _ _)); (fail_if_success (with_reducible show LCg.CompSrc _ _ _ _ _ _ _ _ _ _ _ _ _ _)); (fail_if_success (with_reducible show LCt.CompSrcT _ _ _ _ _ _ _ _ _ _ _ _ _ _ _)); (fail_if_success (with_reducible show LCg.CompEnd _ _ _ _ _ _ _ _ _ _ _ _ _ _)); (fail_if_success (with_reducible show KswEnd _ _ _ _ _ _ _ _ _ _ _ _)); (fail_if_success (with_reducible show UnrEnd _ _ _ _ _ _ _)); first | (k_unfold; (try dsimp only)) | (k_end; wrow_close) | ((with_reducible show wpAny _ _ (PySem.call (Value.ref _) _) _ _ _); first | (with_reducible ((with_reducible show wpAny _ _ (PySem.call (Value.ref 268) _) _ _ _); k_dflt (refine' useO (parse_num _ _ _ _ _ _ _ _ ?kq _) ?k1 ?k2 ?k3 ?k4 ?k5 ?kK ?kp ?kd ?ku ?_; (case k1 => k_asm); (case k2 => k_asm); (case k3 => k_asm); (case k4 => k_asm); (case k5 => k_asm); (case kK => first | exact rfl | assumption); (case kp => trivial); (case kd => ktr_room); (case ku => ktr_units); (case kq => assumption); intro r9z nw9z h9z tk9z F9z N9z hr9z; obtain ⟨g9z, R9z, D9z, c9z, hr9z, hm9z, hj9z⟩ := hr9z; subst hr9z; (try dsimp only); (try k_sweep)))) | (with_reducible ((with_reducible show wpAny _ _ (PySem.call (Value.ref 226) _) _ _ _); k_dflt (refine' useV (number_text_spec _ _ _ _ _ _ _ _ _ _ _ _ _ ?kq) ?k1 ?k2 ?k3 ?k4 ?k5 ?kK ?kp ?kd ?ku ?_; (case k1 => k_asm); (case k2 => k_asm); (case k3 => k_asm); (case k4 => k_asm); (case k5 => k_asm); (case kK => first | exact rfl | assumption); (case kp => k_mem); (case kd => ktr_room); (case ku => ktr_units); (case kq => assumption); intro r9z h9z tk9z F9z N9z hr9z; obtain ⟨t9z, hr9z⟩ := hr9z; subst hr9z; (try dsimp only); (try k_sweep)))) | (with_reducible ((with_reducible show wpAny _ _ (PySem.call (Value.ref 409) _) _ _ _); k_dflt (refine' useV (is_atomic_yes _ _ _ _ _ _ ?kq) ?k1 ?k2 ?k3 ?k4 ?k5 ?kK ?kp ?kd ?ku ?_; (case k1 => k_asm); (case k2 => k_asm); (case k3 => k_asm); (case k4 => k_asm); (case k5 => k_asm); (case kK => first | exact rfl | assumption); (case kp => trivial); (case kd => ktr_room); (case ku => ktr_units); (case kq => first | assumption | decide); intro r9z h9z tk9z F9z N9z hr9z; subst hr9z; (try dsimp only); (try k_sweep)))) | (with_reducible ((with_reducible show wpAny _ _ (PySem.call (Value.ref 409) _) _ _ _); k_dflt (refine' useV (is_atomic_no _ _ _ _ _) ?k1 ?k2 ?k3 ?k4 ?k5 ?kK ?kp ?kd ?ku ?_; (case k1 => k_asm); (case k2 => k_asm); (case k3 => k_asm); (case k4 => k_asm); (case k5 => k_asm); (case kK => first | exact rfl | assumption); (case kp => trivial); (case kd => ktr_room); (case ku => ktr_units); intro r9z h9z tk9z F9z N9z hr9z; subst hr9z; (try dsimp only); (try k_sweep)))) | (with_reducible ((with_reducible show wpAny _ _ (PySem.call (Value.ref 129) _) _ _ _); k_dflt (refine' useV (to_whole_it _ _ _ _ _ _) ?k1 ?k2 ?k3 ?k4 ?k5 ?kK ?kp ?kd ?ku ?_; (case k1 => k_asm); (case k2 => k_asm); (case k3 => k_asm); (case k4 => k_asm); (case k5 => k_asm); (case kK => first | exact rfl | assumption); (case kp => first | assumption | exact FrzNew.it (by assumption) | exact frz_of (by k_mem)); (case kd => ktr_room); (case ku => ktr_units); intro r9z h9z tk9z F9z N9z hr9z; obtain ⟨t9z, hr9z⟩ := hr9z; subst hr9z; (try dsimp only); (try k_sweep)))) | (with_reducible ((with_reducible show wpAny _ _ (PySem.call (Value.ref 108) _) _ _ _); k_dflt (refine' useV (is_na_it _ _ _ _ _ _ _ ?kq) ?k1 ?k2 ?k3 ?k4 ?k5 ?kK ?kp ?kd ?ku ?_; (case k1 => k_asm); (case k2 => k_asm); (case k3 => k_asm); (case k4 => k_asm); (case k5 => k_asm); (case kK => first | exact rfl | assumption); (case kp => first | assumption | exact FrzNew.it (by assumption) | exact frz_of (by k_mem)); (case kd => ktr_room); (case ku => ktr_units); (case kq => omega); intro r9z h9z tk9z F9z N9z hr9z; subst hr9z; (try dsimp only); (try k_sweep))))) | (with_reducible ((with_reducible show wpAny _ _ (PySem.compareOp PySem.CmpOp.Eq (PySem.Value.str _ _) (PySem.Value.str _ _)) _ _ _); ((with_reducible first | (refine eq_self ?_) | (refine eq_not ?kn ?_; (case kn => first | assumption | decide +kernel)) | (refine eq_is ?kn ?_; (case kn => decide +kernel)))))) | ((with_reducible show wpAny _ _ (PySem.eval (PySem.Expr.Call (PySem.Expr.Name _ _) _ _) _) _ _ _); (refine Call_ ?_)) | (with_reducible ((with_reducible show wpAny _ _ (eval (Expr.Name _ _) (envOf _ _ _ _ _)) _ _ _); k_dflt (refine' ld ?k1 ?k2 ?_; (case k1 => k_asm); (case k2 => exact rfl); k_whole))) | (with_reducible ((with_reducible show wpAny _ _ (PySem.call (PySem.Value.builtin "abs") _) _ _ _); (refine abs_natAbs ?_; intro u9z k9z))) | walk1 | (dsimp only; walk1) | (leave1; (try dsimp only)) | fail "no step")
  all_goals first
    | exact hret _ _ _ (by k_asm) (cb_drop (by k_asm) (Grew.sub (by assumption))) ⟨_, rfl⟩
    | (exfalso; omega)
theorem frz_post {w : World} {news nw : Led} {n d : Int} {D : Addr} (g : Grew news nw) (h : FrzNew news nw n d D) : ItPost w [] (.frz n d) (.ref D) news nw := by
  obtain ⟨add, e, f, i⟩ := FrzNew.add (w := w) g h
  exact ⟨add, e, f, by rw [List.append_nil]; exact i⟩
theorem as_CD (w mean mg mb) (n d : Int) (pl M : Nat) (nt : Value) (t t1 t2 : Tok) (hn : Num n d pl M) : SpecO w mean mg mb 402 36 430 [.str (kn .C) t1, .str (sO (txt n pl M)) t, .str (kn .D) t2, nt] (fun _ => True)
    (ItPost w [] (.frz n d)) := by
  unfold SpecO
  k_fill
  intro dp un gd cn cs a ccd cl outer A₀ base h₀ L m news s Q E B F X N T hk hpre hd hu hret
  refine wpAny_call ?_
  k_dflt cell_enter
  refine abs_A ?_
  intro A9a
  repeat' ((fail_if_success (with_reducible show wpAny _ _ (PySem.exec (PySem.Stmt.While _ _ _ _) _) _ _ _)); (fail_if_success (with_reducible show wpAny _ _ (PySem.exec (PySem.Stmt.For _ _ _ _ _) _) _ _ _)); (fail_if_success (with_reducible show wpAny _ _ (PySem.exec (PySem.Stmt.Assign _ (PySem.Expr.ListComp _ _ _ _) _) _) _ _ _)); (fail_if_success (with_reducible show wpAny _ _ (PySem.eval (PySem.Expr.ListComp _ _ _ _) _) _ _ _)); (fail_if_success (with_reducible show LCg.CompSrc _ _ _ _ _ _ _ _ _ _ _ _ _ _)); (fail_if_success (with_reducible show LCt.CompSrcT _ _ _ _ _ _ _ _ _ _ _ _ _ _ _)); (fail_if_success (with_reducible show LCg.CompEnd _ _ _ _ _ _ _ _ _ _ _ _ _ _)); (fail_if_success (with_reducible show KswEnd _ _ _ _ _ _ _ _ _ _ _ _)); (fail_if_success (with_reducible show UnrEnd _ _ _ _ _ _ _)); first | (k_unfold; (try dsimp only)) | (k_end; wrow_close) | ((with_reducible show wpAny _ _ (PySem.call (Value.ref _) _) _ _ _); first | (with_reducible ((with_reducible show wpAny _ _ (PySem.call (Value.ref 268) _) _ _ _); k_dflt (refine' useO (parse_num _ _ _ _ _ _ _ _ ?kq _) ?k1 ?k2 ?k3 ?k4 ?k5 ?kK ?kp ?kd ?ku ?_; (case k1 => k_asm); (case k2 => k_asm); (case k3 => k_asm); (case k4 => k_asm); (case k5 => k_asm); (case kK => first | exact rfl | assumption); (case kp => trivial); (case kd => ktr_room); (case ku => ktr_units); (case kq => assumption); intro r9z nw9z h9z tk9z F9z N9z hr9z; obtain ⟨g9z, R9z, D9z, c9z, hr9z, hm9z, hj9z⟩ := hr9z; subst hr9z; (try dsimp only); (try k_sweep)))) | (with_reducible ((with_reducible show wpAny _ _ (PySem.call (Value.ref 226) _) _ _ _); k_dflt (refine' useV (number_text_spec _ _ _ _ _ _ _ _ _ _ _ _ _ ?kq) ?k1 ?k2 ?k3 ?k4 ?k5 ?kK ?kp ?kd ?ku ?_; (case k1 => k_asm); (case k2 => k_asm); (case k3 => k_asm); (case k4 => k_asm); (case k5 => k_asm); (case kK => first | exact rfl | assumption); (case kp => k_mem); (case kd => ktr_room); (case ku => ktr_units); (case kq => assumption); intro r9z h9z tk9z F9z N9z hr9z; obtain ⟨t9z, hr9z⟩ := hr9z; subst hr9z; (try dsimp only); (try k_sweep)))) | (with_reducible ((with_reducible show wpAny _ _ (PySem.call (Value.ref 409) _) _ _ _); k_dflt (refine' useV (is_atomic_yes _ _ _ _ _ _ ?kq) ?k1 ?k2 ?k3 ?k4 ?k5 ?kK ?kp ?kd ?ku ?_; (case k1 => k_asm); (case k2 => k_asm); (case k3 => k_asm); (case k4 => k_asm); (case k5 => k_asm); (case kK => first | exact rfl | assumption); (case kp => trivial); (case kd => ktr_room); (case ku => ktr_units); (case kq => first | assumption | decide); intro r9z h9z tk9z F9z N9z hr9z; subst hr9z; (try dsimp only); (try k_sweep)))) | (with_reducible ((with_reducible show wpAny _ _ (PySem.call (Value.ref 409) _) _ _ _); k_dflt (refine' useV (is_atomic_no _ _ _ _ _) ?k1 ?k2 ?k3 ?k4 ?k5 ?kK ?kp ?kd ?ku ?_; (case k1 => k_asm); (case k2 => k_asm); (case k3 => k_asm); (case k4 => k_asm); (case k5 => k_asm); (case kK => first | exact rfl | assumption); (case kp => trivial); (case kd => ktr_room); (case ku => ktr_units); intro r9z h9z tk9z F9z N9z hr9z; subst hr9z; (try dsimp only); (try k_sweep)))) | (with_reducible ((with_reducible show wpAny _ _ (PySem.call (Value.ref 129) _) _ _ _); k_dflt (refine' useV (to_whole_it _ _ _ _ _ _) ?k1 ?k2 ?k3 ?k4 ?k5 ?kK ?kp ?kd ?ku ?_; (case k1 => k_asm); (case k2 => k_asm); (case k3 => k_asm); (case k4 => k_asm); (case k5 => k_asm); (case kK => first | exact rfl | assumption); (case kp => first | assumption | exact FrzNew.it (by assumption) | exact frz_of (by k_mem)); (case kd => ktr_room); (case ku => ktr_units); intro r9z h9z tk9z F9z N9z hr9z; obtain ⟨t9z, hr9z⟩ := hr9z; subst hr9z; (try dsimp only); (try k_sweep)))) | (with_reducible ((with_reducible show wpAny _ _ (PySem.call (Value.ref 108) _) _ _ _); k_dflt (refine' useV (is_na_it _ _ _ _ _ _ _ ?kq) ?k1 ?k2 ?k3 ?k4 ?k5 ?kK ?kp ?kd ?ku ?_; (case k1 => k_asm); (case k2 => k_asm); (case k3 => k_asm); (case k4 => k_asm); (case k5 => k_asm); (case kK => first | exact rfl | assumption); (case kp => first | assumption | exact FrzNew.it (by assumption) | exact frz_of (by k_mem)); (case kd => ktr_room); (case ku => ktr_units); (case kq => omega); intro r9z h9z tk9z F9z N9z hr9z; subst hr9z; (try dsimp only); (try k_sweep))))) | (with_reducible ((with_reducible show wpAny _ _ (PySem.compareOp PySem.CmpOp.Eq (PySem.Value.str _ _) (PySem.Value.str _ _)) _ _ _); ((with_reducible first | (refine eq_self ?_) | (refine eq_not ?kn ?_; (case kn => first | assumption | decide +kernel)) | (refine eq_is ?kn ?_; (case kn => decide +kernel)))))) | ((with_reducible show wpAny _ _ (PySem.eval (PySem.Expr.Call (PySem.Expr.Name _ _) _ _) _) _ _ _); (refine Call_ ?_)) | (with_reducible ((with_reducible show wpAny _ _ (eval (Expr.Name _ _) (envOf _ _ _ _ _)) _ _ _); k_dflt (refine' ld ?k1 ?k2 ?_; (case k1 => k_asm); (case k2 => exact rfl); k_whole))) | (with_reducible ((with_reducible show wpAny _ _ (PySem.call (PySem.Value.builtin "abs") _) _ _ _); (refine abs_natAbs ?_; intro u9z k9z))) | walk1 | (dsimp only; walk1) | (leave1; (try dsimp only)) | fail "no step")
  all_goals first
    | exact hret _ _ _ _ (by k_asm) (by k_asm) (frz_post (by assumption) (by assumption))
theorem as_CL1 (w mean mg mb) (nt : Value) (t t1 t2 : Tok) : SpecV w mean mg mb 402 36 430 [.str (kn .C) t1, .str (sO tT) t, .str (kn .L) t2, nt] (fun _ => True)
    (fun r => ∃ t, r = .int 1 t) := by
  unfold SpecV
  k_fill
  intro dp un gd cn cs a ccd cl outer A₀ base h₀ L m news s Q E B F X N T hk hpre hd hu hret
  refine wpAny_call ?_
  k_dflt cell_enter
  refine abs_A ?_
  intro A9a
  repeat' ((fail_if_success (with_reducible show wpAny _ _ (PySem.exec (PySem.Stmt.While _ _ _ _) _) _ _ _)); (fail_if_success (with_reducible show wpAny _ _ (PySem.exec (PySem.Stmt.For _ _ _ _ _) _) _ _ _)); (fail_if_success (with_reducible show wpAny _ _ (PySem.exec (PySem.Stmt.Assign _ (PySem.Expr.ListComp _ _ _ _) _) _) _ _ _)); (fail_if_success (with_reducible show wpAny _ _ (PySem.eval (PySem.Expr.ListComp _ _ _ _) _) _ _ _)); (fail_if_success (with_reducible show LCg.CompSrc _ _ _ _ _ _ _ _ _ _ _ _ _ _)); (fail_if_success (with_reducible show LCt.CompSrcT _ _ _ _ _ _ _ _ _ _ _ _ _ _ _)); (fail_if_success (with_reducible show LCg.CompEnd _ _ _ _ _ _ _ _ _ _ _ _ _ _)); (fail_if_success (with_reducible show KswEnd _ _ _ _ _ _ _ _ _ _ _ _)); (fail_if_success (with_reducible show UnrEnd _ _ _ _ _ _ _)); first | (k_unfold; (try dsimp only)) | (k_end; wrow_close) | ((with_reducible show wpAny _ _ (PySem.call (Value.ref _) _) _ _ _); first | (with_reducible ((with_reducible show wpAny _ _ (PySem.call (Value.ref 268) _) _ _ _); k_dflt (refine' useO (parse_num _ _ _ _ _ _ _ _ ?kq _) ?k1 ?k2 ?k3 ?k4 ?k5 ?kK ?kp ?kd ?ku ?_; (case k1 => k_asm); (case k2 => k_asm); (case k3 => k_asm); (case k4 => k_asm); (case k5 => k_asm); (case kK => first | exact rfl | assumption); (case kp => trivial); (case kd => ktr_room); (case ku => ktr_units); (case kq => assumption); intro r9z nw9z h9z tk9z F9z N9z hr9z; obtain ⟨g9z, R9z, D9z, c9z, hr9z, hm9z, hj9z⟩ := hr9z; subst hr9z; (try dsimp only); (try k_sweep)))) | (with_reducible ((with_reducible show wpAny _ _ (PySem.call (Value.ref 226) _) _ _ _); k_dflt (refine' useV (number_text_spec _ _ _ _ _ _ _ _ _ _ _ _ _ ?kq) ?k1 ?k2 ?k3 ?k4 ?k5 ?kK ?kp ?kd ?ku ?_; (case k1 => k_asm); (case k2 => k_asm); (case k3 => k_asm); (case k4 => k_asm); (case k5 => k_asm); (case kK => first | exact rfl | assumption); (case kp => k_mem); (case kd => ktr_room); (case ku => ktr_units); (case kq => assumption); intro r9z h9z tk9z F9z N9z hr9z; obtain ⟨t9z, hr9z⟩ := hr9z; subst hr9z; (try dsimp only); (try k_sweep)))) | (with_reducible ((with_reducible show wpAny _ _ (PySem.call (Value.ref 409) _) _ _ _); k_dflt (refine' useV (is_atomic_yes _ _ _ _ _ _ ?kq) ?k1 ?k2 ?k3 ?k4 ?k5 ?kK ?kp ?kd ?ku ?_; (case k1 => k_asm); (case k2 => k_asm); (case k3 => k_asm); (case k4 => k_asm); (case k5 => k_asm); (case kK => first | exact rfl | assumption); (case kp => trivial); (case kd => ktr_room); (case ku => ktr_units); (case kq => first | assumption | decide); intro r9z h9z tk9z F9z N9z hr9z; subst hr9z; (try dsimp only); (try k_sweep)))) | (with_reducible ((with_reducible show wpAny _ _ (PySem.call (Value.ref 409) _) _ _ _); k_dflt (refine' useV (is_atomic_no _ _ _ _ _) ?k1 ?k2 ?k3 ?k4 ?k5 ?kK ?kp ?kd ?ku ?_; (case k1 => k_asm); (case k2 => k_asm); (case k3 => k_asm); (case k4 => k_asm); (case k5 => k_asm); (case kK => first | exact rfl | assumption); (case kp => trivial); (case kd => ktr_room); (case ku => ktr_units); intro r9z h9z tk9z F9z N9z hr9z; subst hr9z; (try dsimp only); (try k_sweep)))) | (with_reducible ((with_reducible show wpAny _ _ (PySem.call (Value.ref 129) _) _ _ _); k_dflt (refine' useV (to_whole_it _ _ _ _ _ _) ?k1 ?k2 ?k3 ?k4 ?k5 ?kK ?kp ?kd ?ku ?_; (case k1 => k_asm); (case k2 => k_asm); (case k3 => k_asm); (case k4 => k_asm); (case k5 => k_asm); (case kK => first | exact rfl | assumption); (case kp => first | assumption | exact FrzNew.it (by assumption) | exact frz_of (by k_mem)); (case kd => ktr_room); (case ku => ktr_units); intro r9z h9z tk9z F9z N9z hr9z; obtain ⟨t9z, hr9z⟩ := hr9z; subst hr9z; (try dsimp only); (try k_sweep)))) | (with_reducible ((with_reducible show wpAny _ _ (PySem.call (Value.ref 108) _) _ _ _); k_dflt (refine' useV (is_na_it _ _ _ _ _ _ _ ?kq) ?k1 ?k2 ?k3 ?k4 ?k5 ?kK ?kp ?kd ?ku ?_; (case k1 => k_asm); (case k2 => k_asm); (case k3 => k_asm); (case k4 => k_asm); (case k5 => k_asm); (case kK => first | exact rfl | assumption); (case kp => first | assumption | exact FrzNew.it (by assumption) | exact frz_of (by k_mem)); (case kd => ktr_room); (case ku => ktr_units); (case kq => omega); intro r9z h9z tk9z F9z N9z hr9z; subst hr9z; (try dsimp only); (try k_sweep))))) | (with_reducible ((with_reducible show wpAny _ _ (PySem.compareOp PySem.CmpOp.Eq (PySem.Value.str _ _) (PySem.Value.str _ _)) _ _ _); ((with_reducible first | (refine eq_self ?_) | (refine eq_not ?kn ?_; (case kn => first | assumption | decide +kernel)) | (refine eq_is ?kn ?_; (case kn => decide +kernel)))))) | ((with_reducible show wpAny _ _ (PySem.eval (PySem.Expr.Call (PySem.Expr.Name _ _) _ _) _) _ _ _); (refine Call_ ?_)) | (with_reducible ((with_reducible show wpAny _ _ (eval (Expr.Name _ _) (envOf _ _ _ _ _)) _ _ _); k_dflt (refine' ld ?k1 ?k2 ?_; (case k1 => k_asm); (case k2 => exact rfl); k_whole))) | (with_reducible ((with_reducible show wpAny _ _ (PySem.call (PySem.Value.builtin "abs") _) _ _ _); (refine abs_natAbs ?_; intro u9z k9z))) | walk1 | (dsimp only; walk1) | (leave1; (try dsimp only)) | fail "no step")
  all_goals first
    | exact hret _ _ _ (by k_asm) (cb_drop (by k_asm) sub_tail) ⟨_, rfl⟩
theorem as_CL0 (w mean mg mb) (nt : Value) (t t1 t2 : Tok) : SpecV w mean mg mb 402 36 430 [.str (kn .C) t1, .str (sO tF) t, .str (kn .L) t2, nt] (fun _ => True)
    (fun r => ∃ t, r = .int 0 t) := by
  unfold SpecV
  k_fill
  intro dp un gd cn cs a ccd cl outer A₀ base h₀ L m news s Q E B F X N T hk hpre hd hu hret
  refine wpAny_call ?_
  k_dflt cell_enter
  refine abs_A ?_
  intro A9a
  repeat' ((fail_if_success (with_reducible show wpAny _ _ (PySem.exec (PySem.Stmt.While _ _ _ _) _) _ _ _)); (fail_if_success (with_reducible show wpAny _ _ (PySem.exec (PySem.Stmt.For _ _ _ _ _) _) _ _ _)); (fail_if_success (with_reducible show wpAny _ _ (PySem.exec (PySem.Stmt.Assign _ (PySem.Expr.ListComp _ _ _ _) _) _) _ _ _)); (fail_if_success (with_reducible show wpAny _ _ (PySem.eval (PySem.Expr.ListComp _ _ _ _) _) _ _ _)); (fail_if_success (with_reducible show LCg.CompSrc _ _ _ _ _ _ _ _ _ _ _ _ _ _)); (fail_if_success (with_reducible show LCt.CompSrcT _ _ _ _ _ _ _ _ _ _ _ _ _ _ _)); (fail_if_success (with_reducible show LCg.CompEnd _ _ _ _ _ _ _ _ _ _ _ _ _ _)); (fail_if_success (with_reducible show KswEnd _ _ _ _ _ _ _ _ _ _ _ _)); (fail_if_success (with_reducible show UnrEnd _ _ _ _ _ _ _)); first | (k_unfold; (try dsimp only)) | (k_end; wrow_close) | ((with_reducible show wpAny _ _ (PySem.call (Value.ref _) _) _ _ _); first | (with_reducible ((with_reducible show wpAny _ _ (PySem.call (Value.ref 268) _) _ _ _); k_dflt (refine' useO (parse_num _ _ _ _ _ _ _ _ ?kq _) ?k1 ?k2 ?k3 ?k4 ?k5 ?kK ?kp ?kd ?ku ?_; (case k1 => k_asm); (case k2 => k_asm); (case k3 => k_asm); (case k4 => k_asm); (case k5 => k_asm); (case kK => first | exact rfl | assumption); (case kp => trivial); (case kd => ktr_room); (case ku => ktr_units); (case kq => assumption); intro r9z nw9z h9z tk9z F9z N9z hr9z; obtain ⟨g9z, R9z, D9z, c9z, hr9z, hm9z, hj9z⟩ := hr9z; subst hr9z; (try dsimp only); (try k_sweep)))) | (with_reducible ((with_reducible show wpAny _ _ (PySem.call (Value.ref 226) _) _ _ _); k_dflt (refine' useV (number_text_spec _ _ _ _ _ _ _ _ _ _ _ _ _ ?kq) ?k1 ?k2 ?k3 ?k4 ?k5 ?kK ?kp ?kd ?ku ?_; (case k1 => k_asm); (case k2 => k_asm); (case k3 => k_asm); (case k4 => k_asm); (case k5 => k_asm); (case kK => first | exact rfl | assumption); (case kp => k_mem); (case kd => ktr_room); (case ku => ktr_units); (case kq => assumption); intro r9z h9z tk9z F9z N9z hr9z; obtain ⟨t9z, hr9z⟩ := hr9z; subst hr9z; (try dsimp only); (try k_sweep)))) | (with_reducible ((with_reducible show wpAny _ _ (PySem.call (Value.ref 409) _) _ _ _); k_dflt (refine' useV (is_atomic_yes _ _ _ _ _ _ ?kq) ?k1 ?k2 ?k3 ?k4 ?k5 ?kK ?kp ?kd ?ku ?_; (case k1 => k_asm); (case k2 => k_asm); (case k3 => k_asm); (case k4 => k_asm); (case k5 => k_asm); (case kK => first | exact rfl | assumption); (case kp => trivial); (case kd => ktr_room); (case ku => ktr_units); (case kq => first | assumption | decide); intro r9z h9z tk9z F9z N9z hr9z; subst hr9z; (try dsimp only); (try k_sweep)))) | (with_reducible ((with_reducible show wpAny _ _ (PySem.call (Value.ref 409) _) _ _ _); k_dflt (refine' useV (is_atomic_no _ _ _ _ _) ?k1 ?k2 ?k3 ?k4 ?k5 ?kK ?kp ?kd ?ku ?_; (case k1 => k_asm); (case k2 => k_asm); (case k3 => k_asm); (case k4 => k_asm); (case k5 => k_asm); (case kK => first | exact rfl | assumption); (case kp => trivial); (case kd => ktr_room); (case ku => ktr_units); intro r9z h9z tk9z F9z N9z hr9z; subst hr9z; (try dsimp only); (try k_sweep)))) | (with_reducible ((with_reducible show wpAny _ _ (PySem.call (Value.ref 129) _) _ _ _); k_dflt (refine' useV (to_whole_it _ _ _ _ _ _) ?k1 ?k2 ?k3 ?k4 ?k5 ?kK ?kp ?kd ?ku ?_; (case k1 => k_asm); (case k2 => k_asm); (case k3 => k_asm); (case k4 => k_asm); (case k5 => k_asm); (case kK => first | exact rfl | assumption); (case kp => first | assumption | exact FrzNew.it (by assumption) | exact frz_of (by k_mem)); (case kd => ktr_room); (case ku => ktr_units); intro r9z h9z tk9z F9z N9z hr9z; obtain ⟨t9z, hr9z⟩ := hr9z; subst hr9z; (try dsimp only); (try k_sweep)))) | (with_reducible ((with_reducible show wpAny _ _ (PySem.call (Value.ref 108) _) _ _ _); k_dflt (refine' useV (is_na_it _ _ _ _ _ _ _ ?kq) ?k1 ?k2 ?k3 ?k4 ?k5 ?kK ?kp ?kd ?ku ?_; (case k1 => k_asm); (case k2 => k_asm); (case k3 => k_asm); (case k4 => k_asm); (case k5 => k_asm); (case kK => first | exact rfl | assumption); (case kp => first | assumption | exact FrzNew.it (by assumption) | exact frz_of (by k_mem)); (case kd => ktr_room); (case ku => ktr_units); (case kq => omega); intro r9z h9z tk9z F9z N9z hr9z; subst hr9z; (try dsimp only); (try k_sweep))))) | (with_reducible ((with_reducible show wpAny _ _ (PySem.compareOp PySem.CmpOp.Eq (PySem.Value.str _ _) (PySem.Value.str _ _)) _ _ _); ((with_reducible first | (refine eq_self ?_) | (refine eq_not ?kn ?_; (case kn => first | assumption | decide +kernel)) | (refine eq_is ?kn ?_; (case kn => decide +kernel)))))) | ((with_reducible show wpAny _ _ (PySem.eval (PySem.Expr.Call (PySem.Expr.Name _ _) _ _) _) _ _ _); (refine Call_ ?_)) | (with_reducible ((with_reducible show wpAny _ _ (eval (Expr.Name _ _) (envOf _ _ _ _ _)) _ _ _); k_dflt (refine' ld ?k1 ?k2 ?_; (case k1 => k_asm); (case k2 => exact rfl); k_whole))) | (with_reducible ((with_reducible show wpAny _ _ (PySem.call (PySem.Value.builtin "abs") _) _ _ _); (refine abs_natAbs ?_; intro u9z k9z))) | walk1 | (dsimp only; walk1) | (leave1; (try dsimp only)) | fail "no step")
  all_goals first
    | exact hret _ _ _ (by k_asm) (cb_drop (by k_asm) (fun p hp => .tail _ (.tail _ hp))) ⟨_, rfl⟩

example : True := by (w_top off; exact True.intro)
theorem item_one {prog : Program} {w : World} {A : Around} {E : Value → Shared → Prop} {s : Shared} {value slice : Expr} {l : Addr} {y : Value} {u : Tok} {c : Nat} {Q : Value → Shared → Prop} {h₀ : Heap} {L : Addr} {news : Led} (N : News h₀ L s.heap news)
    (hm : (l, ({ cls := .type "list", data := .seq #[y] c } : Obj)) ∈ news) (h : Q y s)
    (hs : subscripted slice false (.ref l) (.int 0 u) = operate [.ref l, .int 0 u] (getItem (.ref l) (.int 0 u)) := by with_unfolding_all rfl) :
    wpAny (model prog w) A (subscriptTail value slice (.ref l) (.int 0 u)) Q E s :=
  have hl : s.heap.IsList l #[y] := ⟨_, N.get hm, rfl, c, rfl⟩
  tail_any hl.typeIs slot_list_getitem.lookup (wpAny_getItem_list hl (by decide) (by decide) rfl h) hs
theorem isL {h₀ h : Heap} {L x : Addr} {vs : List Value} {c : Nat} {news : Led} (N : News h₀ L h news) (hm : (x, ({ cls := .type "list", data := .seq vs.toArray c } : Obj)) ∈ news) : h.IsList x vs.toArray := ⟨_, N.get hm, rfl, c, rfl⟩

theorem is_atomic_v (w mean mg mb) (k : Kd) (x la : Addr) (av : Value) (hk : k ≠ .Z) : SpecV w mean mg mb 318 20 160 [.ref x] (fun news => VObj w news x (kn k) la av) (fun r => r = .bool true) := by
  unfold SpecV
  k_fill
  intro dp un gd cn cs a ccd cl outer A₀ base h₀ L m news s Q E B F X N T hk hpre hd hu hret
  refine wpAny_call ?_
  k_dflt cell_enter
  refine abs_A ?_
  intro A9a
  obtain ⟨dx, u1, u2, u3, u4, u5, uk, un, ush, hx, hdx⟩ := hpre
  repeat' ((fail_if_success (with_reducible show wpAny _ _ (PySem.exec (PySem.Stmt.While _ _ _ _) _) _ _ _)); (fail_if_success (with_reducible show wpAny _ _ (PySem.exec (PySem.Stmt.For _ _ _ _ _) _) _ _ _)); (fail_if_success (with_reducible show wpAny _ _ (PySem.exec (PySem.Stmt.Assign _ (PySem.Expr.ListComp _ _ _ _) _) _) _ _ _)); (fail_if_success (with_reducible show wpAny _ _ (PySem.eval (PySem.Expr.ListComp _ _ _ _) _) _ _ _)); (fail_if_success (with_reducible show LCg.CompSrc _ _ _ _ _ _ _ _ _ _ _ _ _ _)); (fail_if_success (with_reducible show LCt.CompSrcT _ _ _ _ _ _ _ _ _ _ _ _ _ _ _)); (fail_if_success (with_reducible show LCg.CompEnd _ _ _ _ _ _ _ _ _ _ _ _ _ _)); (fail_if_success (with_reducible show KswEnd _ _ _ _ _ _ _ _ _ _ _ _)); (fail_if_success (with_reducible show UnrEnd _ _ _ _ _ _ _)); first | (k_unfold; (try dsimp only)) | (k_end; wrow_close) | ((with_reducible show wpAny _ _ (PySem.call (Value.ref _) _) _ _ _); first | (with_reducible ((with_reducible show wpAny _ _ (PySem.call (Value.ref 409) _) _ _ _); k_dflt (refine' useV (is_atomic_yes _ _ _ _ _ _ ?kq) ?k1 ?k2 ?k3 ?k4 ?k5 ?kK ?kp ?kd ?ku ?_; (case k1 => k_asm); (case k2 => k_asm); (case k3 => k_asm); (case k4 => k_asm); (case k5 => k_asm); (case kK => first | exact rfl | assumption); (case kp => trivial); (case kd => ktr_room); (case ku => ktr_units); (case kq => first | assumption | decide); intro r9z h9z tk9z F9z N9z hr9z; subst hr9z; (try dsimp only); (try k_sweep)))) | (with_reducible ((with_reducible show wpAny _ _ (PySem.call (Value.ref 129) _) _ _ _); k_dflt (refine' useV (to_whole_it _ _ _ _ _ _) ?k1 ?k2 ?k3 ?k4 ?k5 ?kK ?kp ?kd ?ku ?_; (case k1 => k_asm); (case k2 => k_asm); (case k3 => k_asm); (case k4 => k_asm); (case k5 => k_asm); (case kK => first | exact rfl | assumption); (case kp => first | assumption | exact FrzNew.it (by assumption) | exact frz_of (by k_mem)); (case kd => ktr_room); (case ku => ktr_units); intro r9z h9z tk9z F9z N9z hr9z; obtain ⟨t9z, hr9z⟩ := hr9z; subst hr9z; (try dsimp only); (try k_sweep)))) | (with_reducible ((with_reducible show wpAny _ _ (PySem.call (Value.ref 108) _) _ _ _); k_dflt (refine' useV (is_na_it _ _ _ _ _ _ _ ?kq) ?k1 ?k2 ?k3 ?k4 ?k5 ?kK ?kp ?kd ?ku ?_; (case k1 => k_asm); (case k2 => k_asm); (case k3 => k_asm); (case k4 => k_asm); (case k5 => k_asm); (case kK => first | exact rfl | assumption); (case kp => first | assumption | exact FrzNew.it (by assumption) | exact frz_of (by k_mem)); (case kd => ktr_room); (case ku => ktr_units); (case kq => omega); intro r9z h9z tk9z F9z N9z hr9z; subst hr9z; (try dsimp only); (try k_sweep)))) | (with_reducible ((with_reducible show wpAny _ _ (PySem.call (Value.ref 218) _) _ _ _); k_dflt (refine' useO (common_texts_spec _ _ _ _ _ _ _ _ _ _ _ _ _ _ _ ?kq) ?k1 ?k2 ?k3 ?k4 ?k5 ?kK ?kp ?kd ?ku ?_; (case k1 => k_asm); (case k2 => k_asm); (case k3 => k_asm); (case k4 => k_asm); (case k5 => k_asm); (case kK => first | exact rfl | assumption); (case kp => (refine ⟨?_, ?_⟩ <;> k_mem)); (case kd => ktr_room); (case ku => ktr_units); (case kq => assumption); intro r9z nw9z h9z tk9z F9z N9z hr9z; obtain ⟨D9z, t91, hr9z, hn9z⟩ := hr9z; subst hr9z; subst hn9z; (try dsimp only); (try k_sweep))))) | (with_reducible ((with_reducible show wpAny _ _ (PySem.compareOp PySem.CmpOp.Eq (PySem.Value.str _ _) (PySem.Value.str _ _)) _ _ _); ((with_reducible first | (refine eq_self ?_) | (refine eq_not ?kn ?_; (case kn => first | assumption | decide +kernel)) | (refine eq_is ?kn ?_; (case kn => first | assumption | decide +kernel)))))) | (with_reducible ((with_reducible show wpAny _ _ (compareOp _ (Value.str (sO _) _) (Value.str (sO _) _)) _ _ _); refine eq_sO ?_)) | ((with_reducible show wpAny _ _ (PySem.eval (PySem.Expr.Call (PySem.Expr.Name _ _) _ _) _) _ _ _); (refine Call_ ?_)) | (with_reducible ((with_reducible show wpAny _ _ (eval (Expr.Name _ _) (envOf _ _ _ _ _)) _ _ _); k_dflt (refine' ld ?k1 ?k2 ?_; (case k1 => k_asm); (case k2 => exact rfl); k_whole))) | (with_reducible ((with_reducible show wpAny _ _ (subscriptTail _ _ (Value.ref _) (Value.int 0 _)) _ _ _); (refine item_one (by k_asm) (by assumption) ?_))) | ((with_reducible show wpAny _ _ (PySem.execs (List.cons _ _) _) _ _ _); walk1; (try (refine gen_s ?_; intro tkG; (try dsimp only); (try k_fold)))) | (walk1; (try dsimp only)) | (dsimp only; walk1) | (leave1; (try dsimp only)) | fail "no step")
  exact hret _ _ _ (by k_asm) (cb_drop (by k_asm) sub_tail) (by cases k <;> first | exact absurd rfl hk | decide +kernel)
theorem length_v (w mean mg mb) (k : Kd) (x la : Addr) (av y : Value) (c : Nat) : SpecV w mean mg mb 311 20 160 [.ref x] (fun news => VObj w news x (kn k) la av ∧ (la, ({ cls := .type "list", data := .seq #[y] c } : Obj)) ∈ news) (fun r => ∃ t, r = .int 1 t) := by
  have h6 : ¬ kn k = Str.ofString "NULL" := by cases k <;> decide +kernel
  unfold SpecV
  k_fill
  intro dp un gd cn cs a ccd cl outer A₀ base h₀ L m news s Q E B F X N T hk hpre hd hu hret
  refine wpAny_call ?_
  k_dflt cell_enter
  refine abs_A ?_
  intro A9a
  obtain ⟨⟨dx, u1, u2, u3, u4, u5, uk, un, ush, hx, hdx⟩, hla⟩ := hpre
  repeat' ((fail_if_success (with_reducible show wpAny _ _ (PySem.exec (PySem.Stmt.While _ _ _ _) _) _ _ _)); (fail_if_success (with_reducible show wpAny _ _ (PySem.exec (PySem.Stmt.For _ _ _ _ _) _) _ _ _)); (fail_if_success (with_reducible show wpAny _ _ (PySem.exec (PySem.Stmt.Assign _ (PySem.Expr.ListComp _ _ _ _) _) _) _ _ _)); (fail_if_success (with_reducible show wpAny _ _ (PySem.eval (PySem.Expr.ListComp _ _ _ _) _) _ _ _)); (fail_if_success (with_reducible show LCg.CompSrc _ _ _ _ _ _ _ _ _ _ _ _ _ _)); (fail_if_success (with_reducible show LCt.CompSrcT _ _ _ _ _ _ _ _ _ _ _ _ _ _ _)); (fail_if_success (with_reducible show LCg.CompEnd _ _ _ _ _ _ _ _ _ _ _ _ _ _)); (fail_if_success (with_reducible show KswEnd _ _ _ _ _ _ _ _ _ _ _ _)); (fail_if_success (with_reducible show UnrEnd _ _ _ _ _ _ _)); first | (k_unfold; (try dsimp only)) | (k_end; wrow_close) | ((with_reducible show wpAny _ _ (PySem.call (Value.ref _) _) _ _ _); first | (with_reducible ((with_reducible show wpAny _ _ (PySem.call (Value.ref 409) _) _ _ _); k_dflt (refine' useV (is_atomic_yes _ _ _ _ _ _ ?kq) ?k1 ?k2 ?k3 ?k4 ?k5 ?kK ?kp ?kd ?ku ?_; (case k1 => k_asm); (case k2 => k_asm); (case k3 => k_asm); (case k4 => k_asm); (case k5 => k_asm); (case kK => first | exact rfl | assumption); (case kp => trivial); (case kd => ktr_room); (case ku => ktr_units); (case kq => first | assumption | decide); intro r9z h9z tk9z F9z N9z hr9z; subst hr9z; (try dsimp only); (try k_sweep)))) | (with_reducible ((with_reducible show wpAny _ _ (PySem.call (Value.ref 129) _) _ _ _); k_dflt (refine' useV (to_whole_it _ _ _ _ _ _) ?k1 ?k2 ?k3 ?k4 ?k5 ?kK ?kp ?kd ?ku ?_; (case k1 => k_asm); (case k2 => k_asm); (case k3 => k_asm); (case k4 => k_asm); (case k5 => k_asm); (case kK => first | exact rfl | assumption); (case kp => first | assumption | exact FrzNew.it (by assumption) | exact frz_of (by k_mem)); (case kd => ktr_room); (case ku => ktr_units); intro r9z h9z tk9z F9z N9z hr9z; obtain ⟨t9z, hr9z⟩ := hr9z; subst hr9z; (try dsimp only); (try k_sweep)))) | (with_reducible ((with_reducible show wpAny _ _ (PySem.call (Value.ref 108) _) _ _ _); k_dflt (refine' useV (is_na_it _ _ _ _ _ _ _ ?kq) ?k1 ?k2 ?k3 ?k4 ?k5 ?kK ?kp ?kd ?ku ?_; (case k1 => k_asm); (case k2 => k_asm); (case k3 => k_asm); (case k4 => k_asm); (case k5 => k_asm); (case kK => first | exact rfl | assumption); (case kp => first | assumption | exact FrzNew.it (by assumption) | exact frz_of (by k_mem)); (case kd => ktr_room); (case ku => ktr_units); (case kq => omega); intro r9z h9z tk9z F9z N9z hr9z; subst hr9z; (try dsimp only); (try k_sweep)))) | (with_reducible ((with_reducible show wpAny _ _ (PySem.call (Value.ref 218) _) _ _ _); k_dflt (refine' useO (common_texts_spec _ _ _ _ _ _ _ _ _ _ _ _ _ _ _ ?kq) ?k1 ?k2 ?k3 ?k4 ?k5 ?kK ?kp ?kd ?ku ?_; (case k1 => k_asm); (case k2 => k_asm); (case k3 => k_asm); (case k4 => k_asm); (case k5 => k_asm); (case kK => first | exact rfl | assumption); (case kp => (refine ⟨?_, ?_⟩ <;> k_mem)); (case kd => ktr_room); (case ku => ktr_units); (case kq => assumption); intro r9z nw9z h9z tk9z F9z N9z hr9z; obtain ⟨D9z, t91, hr9z, hn9z⟩ := hr9z; subst hr9z; subst hn9z; (try dsimp only); (try k_sweep))))) | (with_reducible ((with_reducible show wpAny _ _ (PySem.compareOp PySem.CmpOp.Eq (PySem.Value.str _ _) (PySem.Value.str _ _)) _ _ _); ((with_reducible first | (refine eq_self ?_) | (refine eq_not ?kn ?_; (case kn => first | assumption | decide +kernel)) | (refine eq_is ?kn ?_; (case kn => first | assumption | decide +kernel)))))) | (with_reducible ((with_reducible show wpAny _ _ (compareOp _ (Value.str (sO _) _) (Value.str (sO _) _)) _ _ _); refine eq_sO ?_)) | ((with_reducible show wpAny _ _ (PySem.eval (PySem.Expr.Call (PySem.Expr.Name _ _) _ _) _) _ _ _); (refine Call_ ?_)) | (with_reducible ((with_reducible show wpAny _ _ (eval (Expr.Name _ _) (envOf _ _ _ _ _)) _ _ _); k_dflt (refine' ld ?k1 ?k2 ?_; (case k1 => k_asm); (case k2 => exact rfl); k_whole))) | (with_reducible ((with_reducible show wpAny _ _ (subscriptTail _ _ (Value.ref _) (Value.int 0 _)) _ _ _); (refine item_one (by k_asm) (by assumption) ?_))) | ((with_reducible show wpAny _ _ (PySem.execs (List.cons _ _) _) _ _ _); walk1; (try (refine gen_s ?_; intro tkG; (try dsimp only); (try k_fold)))) | (walk1; (try dsimp only)) | (dsimp only; walk1) | (leave1; (try dsimp only)) | fail "no step")
  all_goals first
    | exact hret _ _ _ (by k_asm) (by k_asm) ⟨_, rfl⟩

theorem as_box (w mean mg mb) (own : Led) (k : Kd) (v nt : Value) (a : It) (t1 t2 : Tok) (hz : k ≠ .Z) (hi : ItIn w own a v) : SpecO w mean mg mb 402 36 430 [.str (kn k) t1, v, .str (kn .Z) t2, nt] (fun _ => True)
    (ItPost w own (.box k a)) := by
  have h1 : ¬ kn k = kn .Z := by cases k <;> first | exact absurd rfl hz | decide +kernel
  unfold SpecO
  k_fill
  intro dp un gd cn cs a ccd cl outer A₀ base h₀ L m news s Q E B F X N T hk hpre hd hu hret
  refine wpAny_call ?_
  k_dflt cell_enter
  refine abs_A ?_
  intro A9a
  repeat' ((fail_if_success (with_reducible show wpAny _ _ (PySem.exec (PySem.Stmt.While _ _ _ _) _) _ _ _)); (fail_if_success (with_reducible show wpAny _ _ (PySem.exec (PySem.Stmt.For _ _ _ _ _) _) _ _ _)); (fail_if_success (with_reducible show wpAny _ _ (PySem.exec (PySem.Stmt.Assign _ (PySem.Expr.ListComp _ _ _ _) _) _) _ _ _)); (fail_if_success (with_reducible show wpAny _ _ (PySem.eval (PySem.Expr.ListComp _ _ _ _) _) _ _ _)); (fail_if_success (with_reducible show LCg.CompSrc _ _ _ _ _ _ _ _ _ _ _ _ _ _)); (fail_if_success (with_reducible show LCt.CompSrcT _ _ _ _ _ _ _ _ _ _ _ _ _ _ _)); (fail_if_success (with_reducible show LCg.CompEnd _ _ _ _ _ _ _ _ _ _ _ _ _ _)); (fail_if_success (with_reducible show KswEnd _ _ _ _ _ _ _ _ _ _ _ _)); (fail_if_success (with_reducible show UnrEnd _ _ _ _ _ _ _)); first | (k_unfold; (try dsimp only)) | (k_end; wrow_close) | ((with_reducible show wpAny _ _ (PySem.call (Value.ref _) _) _ _ _); first | (with_reducible ((with_reducible show wpAny _ _ (PySem.call (Value.ref 293) _) _ _ _); k_dflt (refine' useO (vector_new _ _ _ _ _ _ _) ?k1 ?k2 ?k3 ?k4 ?k5 ?kK ?kp ?kd ?ku ?_; (case k1 => k_asm); (case k2 => k_asm); (case k3 => k_asm); (case k4 => k_asm); (case k5 => k_asm); (case kK => first | exact rfl | assumption); (case kp => exact True.intro); (case kd => ktr_room); (case ku => ktr_units); intro r9z nw9z h9z tk9z F9z N9z hr9z; obtain ⟨x9z, d9z, u91, u92, u93, u94, u95, uk9z, hr9z, hn9z, l9z, ll9z⟩ := hr9z; subst hr9z; subst hn9z; (try k_lt l9z); (try k_lt2 ll9z); (try dsimp only); (try k_sweep)))) | (with_reducible ((with_reducible show wpAny _ _ (PySem.call (Value.ref 318) _) _ _ _); k_dflt (refine' useV (is_atomic_v _ _ _ _ _ _ _ _ ?kq) ?k1 ?k2 ?k3 ?k4 ?k5 ?kK ?kp ?kd ?ku ?_; (case k1 => k_asm); (case k2 => k_asm); (case k3 => k_asm); (case k4 => k_asm); (case k5 => k_asm); (case kK => first | exact rfl | assumption); (case kp => exact ⟨_, _, _, _, _, _, _, _, _, by assumption, by assumption⟩); (case kd => ktr_room); (case ku => ktr_units); (case kq => assumption); intro r9z h9z tk9z F9z N9z hr9z; subst hr9z; (try dsimp only); (try k_sweep)))) | (with_reducible ((with_reducible show wpAny _ _ (PySem.call (Value.ref 409) _) _ _ _); k_dflt (refine' useV (is_atomic_yes _ _ _ _ _ _ ?kq) ?k1 ?k2 ?k3 ?k4 ?k5 ?kK ?kp ?kd ?ku ?_; (case k1 => k_asm); (case k2 => k_asm); (case k3 => k_asm); (case k4 => k_asm); (case k5 => k_asm); (case kK => first | exact rfl | assumption); (case kp => trivial); (case kd => ktr_room); (case ku => ktr_units); (case kq => first | assumption | decide); intro r9z h9z tk9z F9z N9z hr9z; subst hr9z; (try dsimp only); (try k_sweep)))) | (with_reducible ((with_reducible show wpAny _ _ (PySem.call (Value.ref 129) _) _ _ _); k_dflt (refine' useV (to_whole_it _ _ _ _ _ _) ?k1 ?k2 ?k3 ?k4 ?k5 ?kK ?kp ?kd ?ku ?_; (case k1 => k_asm); (case k2 => k_asm); (case k3 => k_asm); (case k4 => k_asm); (case k5 => k_asm); (case kK => first | exact rfl | assumption); (case kp => first | assumption | exact FrzNew.it (by assumption) | exact frz_of (by k_mem)); (case kd => ktr_room); (case ku => ktr_units); intro r9z h9z tk9z F9z N9z hr9z; obtain ⟨t9z, hr9z⟩ := hr9z; subst hr9z; (try dsimp only); (try k_sweep))))) | (with_reducible ((with_reducible show wpAny _ _ (PySem.compareOp PySem.CmpOp.Eq (PySem.Value.str _ _) (PySem.Value.str _ _)) _ _ _); ((with_reducible first | (refine eq_self ?_) | (refine eq_not ?kn ?_; (case kn => first | assumption | decide +kernel)) | (refine eq_is ?kn ?_; (case kn => first | assumption | decide +kernel)))))) | (with_reducible ((with_reducible show wpAny _ _ (compareOp _ (Value.str (sO _) _) (Value.str (sO _) _)) _ _ _); refine eq_sO ?_)) | ((with_reducible show wpAny _ _ (PySem.eval (PySem.Expr.Call (PySem.Expr.Name _ _) _ _) _) _ _ _); (refine Call_ ?_)) | (with_reducible ((with_reducible show wpAny _ _ (eval (Expr.Name _ _) (envOf _ _ _ _ _)) _ _ _); k_dflt (refine' ld ?k1 ?k2 ?_; (case k1 => k_asm); (case k2 => exact rfl); k_whole))) | (with_reducible ((with_reducible show wpAny _ _ (subscriptTail _ _ (Value.ref _) (Value.int 0 _)) _ _ _); (refine item_one (by k_asm) (by assumption) ?_))) | ((with_reducible show wpAny _ _ (PySem.execs (List.cons _ _) _) _ _ _); walk1; (try (refine gen_s ?_; intro tkG; (try dsimp only); (try k_fold)))) | (walk1; (try dsimp only)) | (dsimp only; walk1) | (leave1; (try dsimp only)) | fail "no step")
  exact hret _ _ _ _ (by k_asm) (by k_asm) ⟨[_, _, _], rfl, Fresh.cons (by (first | assumption | (refine ktn_ltOf ?_; (try simp only [AllLt, and_true]); (repeat' first | assumption | omega | (refine And.intro ?_ ?_)); all_goals first | (rename _ ∧ AllLt _ _ => l8; exact tbn_up (by omega) l8.2) | (rename _ ∧ _ ∧ AllLt _ _ => l8; exact tbn_up (by omega) l8.2.2) | (rename _ ∧ _ ∧ _ ∧ AllLt _ _ => l8; exact tbn_up (by omega) l8.2.2.2) | (rename _ ∧ _ ∧ _ ∧ _ ∧ AllLt _ _ => l8; exact tbn_up (by omega) l8.2.2.2.2) | (rename _ ∧ _ ∧ _ ∧ _ ∧ _ ∧ AllLt _ _ => l8; exact tbn_up (by omega) l8.2.2.2.2.2) | (rename _ ∧ _ ∧ _ ∧ _ ∧ _ ∧ _ ∧ AllLt _ _ => l8; exact tbn_up (by omega) l8.2.2.2.2.2.2) | (rename _ ∧ _ ∧ _ ∧ _ ∧ _ ∧ _ ∧ _ ∧ AllLt _ _ => l8; exact tbn_up (by omega) l8.2.2.2.2.2.2.2) | (rename _ ∧ _ ∧ _ ∧ _ ∧ _ ∧ _ ∧ _ ∧ _ ∧ AllLt _ _ => l8; exact tbn_up (by omega) l8.2.2.2.2.2.2.2.2) | (rename ∀ p ∈ (_ : Led), Prod.fst p < _ => l8; exact tbn_up (by omega) (allLt_of l8)) | (rename ∀ p ∈ (_ :: _ : Led), Prod.fst p < _ => l8; exact allLt_of fun p hp => l8 p (.tail _ hp))))) (Fresh.cons (by (first | assumption | (refine ktn_ltOf ?_; (try simp only [AllLt, and_true]); (repeat' first | assumption | omega | (refine And.intro ?_ ?_)); all_goals first | (rename _ ∧ AllLt _ _ => l8; exact tbn_up (by omega) l8.2) | (rename _ ∧ _ ∧ AllLt _ _ => l8; exact tbn_up (by omega) l8.2.2) | (rename _ ∧ _ ∧ _ ∧ AllLt _ _ => l8; exact tbn_up (by omega) l8.2.2.2) | (rename _ ∧ _ ∧ _ ∧ _ ∧ AllLt _ _ => l8; exact tbn_up (by omega) l8.2.2.2.2) | (rename _ ∧ _ ∧ _ ∧ _ ∧ _ ∧ AllLt _ _ => l8; exact tbn_up (by omega) l8.2.2.2.2.2) | (rename _ ∧ _ ∧ _ ∧ _ ∧ _ ∧ _ ∧ AllLt _ _ => l8; exact tbn_up (by omega) l8.2.2.2.2.2.2) | (rename _ ∧ _ ∧ _ ∧ _ ∧ _ ∧ _ ∧ _ ∧ AllLt _ _ => l8; exact tbn_up (by omega) l8.2.2.2.2.2.2.2) | (rename _ ∧ _ ∧ _ ∧ _ ∧ _ ∧ _ ∧ _ ∧ _ ∧ AllLt _ _ => l8; exact tbn_up (by omega) l8.2.2.2.2.2.2.2.2) | (rename ∀ p ∈ (_ : Led), Prod.fst p < _ => l8; exact tbn_up (by omega) (allLt_of l8)) | (rename ∀ p ∈ (_ :: _ : Led), Prod.fst p < _ => l8; exact allLt_of fun p hp => l8 p (.tail _ hp))))) (Fresh.one (by (first | assumption | (refine ktn_ltOf ?_; (try simp only [AllLt, and_true]); (repeat' first | assumption | omega | (refine And.intro ?_ ?_)); all_goals first | (rename _ ∧ AllLt _ _ => l8; exact tbn_up (by omega) l8.2) | (rename _ ∧ _ ∧ AllLt _ _ => l8; exact tbn_up (by omega) l8.2.2) | (rename _ ∧ _ ∧ _ ∧ AllLt _ _ => l8; exact tbn_up (by omega) l8.2.2.2) | (rename _ ∧ _ ∧ _ ∧ _ ∧ AllLt _ _ => l8; exact tbn_up (by omega) l8.2.2.2.2) | (rename _ ∧ _ ∧ _ ∧ _ ∧ _ ∧ AllLt _ _ => l8; exact tbn_up (by omega) l8.2.2.2.2.2) | (rename _ ∧ _ ∧ _ ∧ _ ∧ _ ∧ _ ∧ AllLt _ _ => l8; exact tbn_up (by omega) l8.2.2.2.2.2.2) | (rename _ ∧ _ ∧ _ ∧ _ ∧ _ ∧ _ ∧ _ ∧ AllLt _ _ => l8; exact tbn_up (by omega) l8.2.2.2.2.2.2.2) | (rename _ ∧ _ ∧ _ ∧ _ ∧ _ ∧ _ ∧ _ ∧ _ ∧ AllLt _ _ => l8; exact tbn_up (by omega) l8.2.2.2.2.2.2.2.2) | (rename ∀ p ∈ (_ : Led), Prod.fst p < _ => l8; exact tbn_up (by omega) (allLt_of l8)) | (rename ∀ p ∈ (_ :: _ : Led), Prod.fst p < _ => l8; exact allLt_of fun p hp => l8 p (.tail _ hp))))))), _, _, v, _, rfl, ⟨_, _, _, _, _, _, _, _, _, .head _, .tail _ (.head _)⟩, .tail _ (.tail _ (.head _)), hi.mono fun p hp => .tail _ (.tail _ (.tail _ hp))⟩
theorem as_un (w mean mg mb) (own : Led) (k to : Kd) (v nt : Value) (a b : It) (t1 t2 : Tok) (hz : k ≠ .Z) (ht : to ≠ .Z) (U : ∀ y t1 t2, SpecO w mean mg mb 402 36 430 [.str (kn k) t1, y, .str (kn to) t2, nt] (ItPre w own a y) (ItPost w own b)) :
    SpecO w mean mg mb 402 40 510 [.str (kn .Z) t1, v, .str (kn to) t2, nt] (ItPre w own (.box k a) v) (ItPost w own b) := by
  have h1 : ¬ kn .Z = kn to := by cases to <;> first | exact absurd rfl ht | decide +kernel
  have h2 : ¬ kn to = Str.ofString "list" := by cases to <;> first | exact absurd rfl ht | decide +kernel
  have h3 : ¬ kn to = Str.ofString "expression" := by cases to <;> decide +kernel
  have h4 : ¬ kn to = Str.ofString "pairlist" := by cases to <;> decide +kernel
  have h5 : ¬ kn k = Str.ofString "symbol" := by cases k <;> decide +kernel
  unfold SpecO
  k_fill
  intro dp un gd cn cs a ccd cl outer A₀ base h₀ L m news s Q E B F X N T hk hpre hd hu hret
  refine wpAny_call ?_
  k_dflt cell_enter
  refine abs_A ?_
  intro A9a
  obtain ⟨hsub, x, la, y, c, rfl, ⟨dx, u1, u2, u3, u4, u5, uk, un, ush, hx, hdx⟩, hla, hit⟩ := hpre
  replace hx := hsub _ hx
  replace hdx := hsub _ hdx
  replace hla := hsub _ hla
  repeat' ((fail_if_success (with_reducible show wpAny _ _ (PySem.exec (PySem.Stmt.While _ _ _ _) _) _ _ _)); (fail_if_success (with_reducible show wpAny _ _ (PySem.exec (PySem.Stmt.For _ _ _ _ _) _) _ _ _)); (fail_if_success (with_reducible show wpAny _ _ (PySem.exec (PySem.Stmt.Assign _ (PySem.Expr.ListComp _ _ _ _) _) _) _ _ _)); (fail_if_success (with_reducible show wpAny _ _ (PySem.eval (PySem.Expr.ListComp _ _ _ _) _) _ _ _)); (fail_if_success (with_reducible show LCg.CompSrc _ _ _ _ _ _ _ _ _ _ _ _ _ _)); (fail_if_success (with_reducible show LCt.CompSrcT _ _ _ _ _ _ _ _ _ _ _ _ _ _ _)); (fail_if_success (with_reducible show LCg.CompEnd _ _ _ _ _ _ _ _ _ _ _ _ _ _)); (fail_if_success (with_reducible show KswEnd _ _ _ _ _ _ _ _ _ _ _ _)); (fail_if_success (with_reducible show UnrEnd _ _ _ _ _ _ _)); first | (k_unfold; (try dsimp only)) | (k_end; wrow_close) | ((with_reducible show wpAny _ _ (PySem.call (Value.ref _) _) _ _ _); first | (with_reducible ((with_reducible show wpAny _ _ (PySem.call (Value.ref 402) _) _ _ _); (rename ∀ (_ : Value) (_ _ : Tok), SpecO _ _ _ _ 402 _ _ _ _ _ => U9z); k_dflt (refine' useO (U9z _ _ _) ?k1 ?k2 ?k3 ?k4 ?k5 ?kK ?kp ?kd ?ku ?_; (case k1 => k_asm); (case k2 => k_asm); (case k3 => k_asm); (case k4 => k_asm); (case k5 => k_asm); (case kK => first | exact rfl | assumption); (case kp => exact ⟨by assumption, by assumption⟩); (case kd => ktr_room); (case ku => ktr_units); intro r9z nw9z h9z tk9z F9z N9z hr9z; (try dsimp only); (try k_sweep)))) | (with_reducible ((with_reducible show wpAny _ _ (PySem.call (Value.ref 311) _) _ _ _); k_dflt (refine' useV (length_v _ _ _ _ _ _ _ _ _ _) ?k1 ?k2 ?k3 ?k4 ?k5 ?kK ?kp ?kd ?ku ?_; (case k1 => k_asm); (case k2 => k_asm); (case k3 => k_asm); (case k4 => k_asm); (case k5 => k_asm); (case kK => first | exact rfl | assumption); (case kp => exact ⟨⟨_, _, _, _, _, _, _, _, _, by assumption, by assumption⟩, by assumption⟩); (case kd => ktr_room); (case ku => ktr_units); intro r9z h9z tk9z F9z N9z hr9z; obtain ⟨t9z, hr9z⟩ := hr9z; subst hr9z; (try dsimp only); (try k_sweep)))) | (with_reducible ((with_reducible show wpAny _ _ (PySem.call (Value.ref 318) _) _ _ _); k_dflt (refine' useV (is_atomic_v _ _ _ _ _ _ _ _ ?kq) ?k1 ?k2 ?k3 ?k4 ?k5 ?kK ?kp ?kd ?ku ?_; (case k1 => k_asm); (case k2 => k_asm); (case k3 => k_asm); (case k4 => k_asm); (case k5 => k_asm); (case kK => first | exact rfl | assumption); (case kp => exact ⟨_, _, _, _, _, _, _, _, _, by assumption, by assumption⟩); (case kd => ktr_room); (case ku => ktr_units); (case kq => assumption); intro r9z h9z tk9z F9z N9z hr9z; subst hr9z; (try dsimp only); (try k_sweep)))) | (with_reducible ((with_reducible show wpAny _ _ (PySem.call (Value.ref 409) _) _ _ _); k_dflt (refine' useV (is_atomic_no _ _ _ _ _) ?k1 ?k2 ?k3 ?k4 ?k5 ?kK ?kp ?kd ?ku ?_; (case k1 => k_asm); (case k2 => k_asm); (case k3 => k_asm); (case k4 => k_asm); (case k5 => k_asm); (case kK => first | exact rfl | assumption); (case kp => trivial); (case kd => ktr_room); (case ku => ktr_units); intro r9z h9z tk9z F9z N9z hr9z; subst hr9z; (try dsimp only); (try k_sweep))))) | (with_reducible ((with_reducible show wpAny _ _ (PySem.compareOp PySem.CmpOp.Eq (PySem.Value.str _ _) (PySem.Value.str _ _)) _ _ _); ((with_reducible first | (refine eq_self ?_) | (refine eq_not ?kn ?_; (case kn => first | assumption | decide +kernel)) | (refine eq_is ?kn ?_; (case kn => first | assumption | decide +kernel)))))) | (with_reducible ((with_reducible show wpAny _ _ (compareOp _ (Value.str (sO _) _) (Value.str (sO _) _)) _ _ _); refine eq_sO ?_)) | ((with_reducible show wpAny _ _ (PySem.eval (PySem.Expr.Call (PySem.Expr.Name _ _) _ _) _) _ _ _); (refine Call_ ?_)) | (with_reducible ((with_reducible show wpAny _ _ (eval (Expr.Name _ _) (envOf _ _ _ _ _)) _ _ _); k_dflt (refine' ld ?k1 ?k2 ?_; (case k1 => k_asm); (case k2 => exact rfl); k_whole))) | (with_reducible ((with_reducible show wpAny _ _ (subscriptTail _ _ (Value.ref _) (Value.int 0 _)) _ _ _); (refine item_one (by k_asm) (by assumption) ?_))) | ((with_reducible show wpAny _ _ (PySem.execs (List.cons _ _) _) _ _ _); walk1; (try (refine gen_s ?_; intro tkG; (try dsimp only); (try k_fold)))) | (walk1; (try dsimp only)) | (dsimp only; walk1) | (leave1; (try dsimp only)) | fail "no step")
  all_goals exact hret _ _ _ _ (by k_asm) (by k_asm) (by assumption)

example : True := by (w_top off; exact True.intro)
/-- what item_as makes of an item, between kinds that are no list -/
inductive Conv1 : Kd → Kd → It → It → Prop
  | non {k to} (hk : k ≠ .Z) (ht : to ≠ .Z) (hn : k ≠ to) : Conv1 k to .non .non
  | XD {k i} (hk : k = .L ∨ k = .I) : Conv1 k .D (.int i) (.frac i 1)
  | LI (i) : Conv1 .L .I (.int i) (.int i)
  | LC (i) : Conv1 .L .C (.int i) (.txt (if i = 1 then tT else tF))
  | IC {i} (hi : i.natAbs < 10 ^ 6) : Conv1 .I .C (.int i) (.txt (txt i 0 i.natAbs))
  | IL {i} (hi : i = 0 ∨ i = 1) : Conv1 .I .L (.int i) (.int i)
  | DL {i} (hi : i = 0 ∨ i = 1) : Conv1 .D .L (.frac i 1) (.int i)
  | DC {n d pl M} (hn : Num n d pl M) : Conv1 .D .C (.frac n d) (.txt (txt n pl M))
  | DI {n} (hn : n.natAbs < 10 ^ 6) : Conv1 .D .I (.frac n 1) (.int n)
  | CI {n M} (hn : Num n 1 0 M) : Conv1 .C .I (.txt (txt n 0 M)) (.int n)
  | CD {n d pl M} (hn : Num n d pl M) : Conv1 .C .D (.txt (txt n pl M)) (.frz n d)
  | CL1 : Conv1 .C .L (.txt tT) (.int 1)
  | CL0 : Conv1 .C .L (.txt tF) (.int 0)
inductive Conv : Kd → Kd → It → It → Prop
  | one {k to a b} (h : Conv1 k to a b) : Conv k to a b
  | box {k a} (hk : k ≠ .Z) : Conv k .Z a (.box k a)
  | un {k to a b} (hk : k ≠ .Z) (ht : to ≠ .Z) (h : Conv1 k to a b ∨ (k = to ∧ a = b)) : Conv .Z to (.box k a) b
theorem SpecO.up {w mean mg mb f d u d' u' vs Pre P} (h : SpecO w mean mg mb f d u vs Pre P) (hd' : d ≤ d') (hu' : u ≤ u') : SpecO w mean mg mb f d' u' vs Pre P := by
  intro dp un gd cn cs a ccd cl outer A₀ base h₀ L m news s Q E B F X N T hk hpre hd hu hret
  exact h dp un gd cn cs a ccd cl outer A₀ base h₀ L m news s Q E B F X N T hk hpre (by omega) (by omega) hret
theorem SpecV.toO {w mean mg mb f d u vs Pre P b own} (h : SpecV w mean mg mb f d u vs Pre P) (hp : ∀ r, P r → ItIn w own b r) : SpecO w mean mg mb f d u vs Pre (ItPost w own b) := by
  intro dp un gd cn cs a ccd cl outer A₀ base h₀ L m news s Q E B F X N T hk hpre hd hu hret
  exact h dp un gd cn cs a ccd cl outer A₀ base h₀ L m news s Q E B F X N T hk hpre hd hu fun r h' tk' F' N' p => hret r news h' tk' F' N' ⟨[], rfl, fun _ h => (nomatch h), hp r p⟩
theorem ItPost.own {w : World} {b : It} {r : Value} {news nw own : Led} (h : ItPost w [] b r news nw) : ItPost w own b r news nw := by
  obtain ⟨add, e, f, i⟩ := h
  exact ⟨add, e, f, i.mono fun p hp => List.mem_append.mpr (.inl (by simpa using hp))⟩
theorem conv1_spec (w mean mg mb) (own : Led) {k to : Kd} {a b : It} (h : Conv1 k to a b) (v nt : Value) (t1 t2 : Tok) : SpecO w mean mg mb 402 36 430 [.str (kn k) t1, v, .str (kn to) t2, nt] (ItPre w own a v) (ItPost w own b) := by
  refine SpecO.choose fun news ⟨hsub, hv⟩ => ?_
  have tr : ∀ {P : Value → Prop} {x : Value}, SpecV w mean mg mb 402 36 430 [.str (kn k) t1, x, .str (kn to) t2, nt] (fun _ => True) P → v = x → (∀ r, P r → ItIn w own b r) → ∃ Pre', Pre' news ∧ SpecO w mean mg mb 402 36 430 [.str (kn k) t1, v, .str (kn to) t2, nt] Pre' (ItPost w own b) := by
    intro P x hs e hp
    subst e
    exact ⟨fun _ => True, trivial, hs.toO hp⟩
  cases h with
  | non hk ht hn =>
    have e : v = .none := hv
    cases to with
    | Z => exact absurd rfl ht
    | I => exact tr (as_non_I w mean mg mb k nt t1 t2 hk hn) e fun r p => p
    | D => exact tr (as_non_D w mean mg mb k nt t1 t2 hk hn) e fun r p => p
    | C => exact tr (as_non_C w mean mg mb k nt t1 t2 hk hn) e fun r p => p
    | L =>
      cases k with
      | Z => exact absurd rfl hk
      | L => exact absurd rfl hn
      | I => exact tr (as_non_IL w mean mg mb nt t1 t2) e fun r p => p
      | D => exact tr (as_non_DL w mean mg mb nt t1 t2) e fun r p => p
      | C => exact tr (as_non_CL w mean mg mb nt t1 t2) e fun r p => p
  | XD hk =>
    obtain ⟨t, rfl⟩ := hv
    exact ⟨fun _ => True, trivial, (as_XD w mean mg mb k _ nt t t1 t2 hk).post fun _ _ _ p => p.own⟩
  | LI i =>
    obtain ⟨t, e⟩ := hv
    exact tr (as_LI w mean mg mb i nt t t1 t2) e fun r p => p
  | LC i =>
    obtain ⟨t, e⟩ := hv
    exact tr (as_LC w mean mg mb i nt t t1 t2) e fun r p => p
  | IC hi =>
    obtain ⟨t, e⟩ := hv
    exact tr (as_IC w mean mg mb _ nt t t1 t2 hi) e fun r p => p
  | IL hi =>
    obtain ⟨t, e⟩ := hv
    exact tr (as_IL w mean mg mb _ nt t t1 t2 hi) e fun r p => p
  | DL hi =>
    obtain ⟨x, t3, t4, c, rfl, hm⟩ := hv
    exact ⟨_, hsub _ hm, (as_DL w mean mg mb x _ nt t1 t2 t3 t4 c hi).toO fun r p => p⟩
  | DC hn =>
    obtain ⟨x, t3, t4, c, rfl, hm⟩ := hv
    exact ⟨_, hsub _ hm, (as_DC w mean mg mb x _ _ _ _ nt t1 t2 t3 t4 c hn).toO fun r p => p⟩
  | DI hn =>
    obtain ⟨x, t3, t4, c, rfl, hm⟩ := hv
    exact ⟨_, hsub _ hm, (as_DI w mean mg mb x _ nt t1 t2 t3 t4 c hn).toO fun r p => p⟩
  | CI hn =>
    obtain ⟨t, e⟩ := hv
    exact tr (as_CI w mean mg mb _ _ nt t t1 t2 hn) e fun r p => p
  | CD hn =>
    obtain ⟨t, rfl⟩ := hv
    exact ⟨fun _ => True, trivial, (as_CD w mean mg mb _ _ _ _ nt t t1 t2 hn).post fun _ _ _ p => p.own⟩
  | CL1 =>
    obtain ⟨t, e⟩ := hv
    exact tr (as_CL1 w mean mg mb nt t t1 t2) e fun r p => p
  | CL0 =>
    obtain ⟨t, e⟩ := hv
    exact tr (as_CL0 w mean mg mb nt t t1 t2) e fun r p => p
theorem conv_spec (w mean mg mb) (own : Led) {k to : Kd} {a b : It} (h : Conv k to a b) (v nt : Value) (t1 t2 : Tok) : SpecO w mean mg mb 402 40 510 [.str (kn k) t1, v, .str (kn to) t2, nt] (ItPre w own a v) (ItPost w own b) := by
  cases h with
  | one h => exact (conv1_spec w mean mg mb own h v nt t1 t2).up (by decide) (by decide)
  | box hk => exact SpecO.choose fun news ⟨_, hv⟩ => ⟨_, trivial, (as_box w mean mg mb own k v nt a t1 t2 hk hv).up (by decide) (by decide)⟩
  | un hk ht h =>
    refine as_un w mean mg mb own _ to v nt _ b t1 t2 hk ht fun y t1 t2 => ?_
    rcases h with h | ⟨rfl, rfl⟩
    · exact conv1_spec w mean mg mb own h y nt t1 t2
    · exact SpecO.choose fun news ⟨_, hv⟩ => ⟨_, trivial, (as_same w mean mg mb _ y nt t1 t2).toO fun r e => by rw [e]; exact hv⟩

example : True := by (w_top off; exact True.intro)

def NmRes (w : World) (nm : Option (List (List Nat))) (r : Value) (nw : Led) : Prop := match nm with
  | none => r = .none
  | some ls => ∃ D vs c, r = .ref D ∧ (D, ({ cls := .type "list", data := .seq vs.toArray c } : Obj)) ∈ nw ∧ ItsIn w nw (ls.map .txt) vs
theorem names_none (w mean mg mb) (k : Kd) (x la : Addr) : SpecV w mean mg mb 33 24 240 [.ref x] (fun news => VObj w news x (kn k) la .none) (fun r => r = .none) := by
  have h1 : ¬ kn k = Str.ofString "language" := by cases k <;> decide +kernel
  have h2 : ¬ kn k = Str.ofString "environment" := by cases k <;> decide +kernel
  unfold SpecV
  k_fill
  intro dp un gd cn cs a ccd cl outer A₀ base h₀ L m news s Q E B F X N T hk hpre hd hu hret
  refine wpAny_call ?_
  k_dflt cell_enter
  refine abs_A ?_
  intro A9a
  obtain ⟨dx, u1, u2, u3, u4, u5, uk, un, ush, hx, hdx⟩ := hpre
  repeat' ((fail_if_success (with_reducible show wpAny _ _ (PySem.exec (PySem.Stmt.While _ _ _ _) _) _ _ _)); (fail_if_success (with_reducible show wpAny _ _ (PySem.exec (PySem.Stmt.For _ _ _ _ _) _) _ _ _)); (fail_if_success (with_reducible show wpAny _ _ (PySem.exec (PySem.Stmt.Assign _ (PySem.Expr.ListComp _ _ _ _) _) _) _ _ _)); (fail_if_success (with_reducible show wpAny _ _ (PySem.eval (PySem.Expr.ListComp _ _ _ _) _) _ _ _)); (fail_if_success (with_reducible show LCg.CompSrc _ _ _ _ _ _ _ _ _ _ _ _ _ _)); (fail_if_success (with_reducible show LCt.CompSrcT _ _ _ _ _ _ _ _ _ _ _ _ _ _ _)); (fail_if_success (with_reducible show LCg.CompEnd _ _ _ _ _ _ _ _ _ _ _ _ _ _)); (fail_if_success (with_reducible show KswEnd _ _ _ _ _ _ _ _ _ _ _ _)); (fail_if_success (with_reducible show UnrEnd _ _ _ _ _ _ _)); first | (k_unfold; (try dsimp only)) | (k_end; wrow_close) | (with_reducible ((with_reducible show wpAny _ _ (PySem.compareOp PySem.CmpOp.Eq (PySem.Value.str _ _) (PySem.Value.str _ _)) _ _ _); ((with_reducible first | (refine eq_self ?_) | (refine eq_not ?kn ?_; (case kn => first | assumption | decide +kernel)) | (refine eq_is ?kn ?_; (case kn => first | assumption | decide +kernel)))))) | ((with_reducible show wpAny _ _ (PySem.eval (PySem.Expr.Call (PySem.Expr.Name _ _) _ _) _) _ _ _); (refine Call_ ?_)) | (with_reducible ((with_reducible show wpAny _ _ (PySem.call (PySem.Value.builtin "dict.get") _) _ _ _); (k_dflt (first | refine kdg_get1 (knd := PySem.strKind _ _) (by k_asm) (by assumption) (by assumption) (by assumption) (strKind_is _ _ _ _) (some _) (by rfl) ?_ | refine kdg_get1 (knd := PySem.strKind _ _) (by k_asm) (by assumption) (by assumption) (by assumption) (strKind_is _ _ _ _) none (by rfl) ?_); (try dsimp only [Option.getD])))) | (with_reducible ((with_reducible show wpAny _ _ (getMethod (Value.ref _) (Str.ofString "get") _) _ _ _); k_dflt (refine kdg_method (knd := PySem.strKind _ _) (by k_asm) (by assumption) (by assumption) ?_))) | (with_reducible ((with_reducible show wpAny _ _ (PySem.call (Value.type "list") [Value.ref _]) _ _ _); k_dflt (refine' list_copyK ?F ?N ?l ?_ ?z; (case F => k_asm); (case N => k_asm); (case l => exact isL (by k_asm) (by k_mem)); (case z => (simp [sizeLine]; omega)); k_whole); intro D9y c9y h9y F9y N9y l9y; (try k_lt l9y))) | (with_reducible ((with_reducible show wpAny _ _ (eval (Expr.Name _ _) (envOf _ _ _ _ _)) _ _ _); k_dflt (refine' ld ?k1 ?k2 ?_; (case k1 => k_asm); (case k2 => exact rfl); k_whole))) | ((with_reducible show wpAny _ _ (PySem.execs (List.cons _ _) _) _ _ _); walk1; (try (refine gen_s ?_; intro tkG; (try dsimp only); (try k_fold)))) | (walk1; (try dsimp only)) | (dsimp only; walk1) | (leave1; (try dsimp only)) | fail "no step")
  all_goals first
    | exact hret _ _ _ (by k_asm) (by k_asm) rfl
theorem names_some (w mean mg mb) (k : Kd) (x la ad nv lb : Addr) (o : Obj) (c : Nat) (vs : List Value) (hz : vs.length ≤ 7) (hdo : o.IsDictOf (PySem.strKind PySem.Challenge.rw_ov0074_01.row.prog w) [(Str.ofString "names", .ref nv)]) (hlo : (ad == sysModules) = false) :
    SpecO w mean mg mb 33 24 240 [.ref x] (fun news => VObj w news x (kn k) la (.ref ad) ∧ (ad, o) ∈ news ∧
      VObj w news nv (Str.ofString "character") lb .none ∧ (lb, ({ cls := .type "list", data := .seq vs.toArray c } : Obj)) ∈ news)
    (fun r news nw => ∃ D c, (∀ p ∈ news, p.1 < D) ∧ r = .ref D ∧ nw = (D, ({ cls := .type "list", data := .seq vs.toArray c } : Obj)) :: news) := by
  have h1 : ¬ kn k = Str.ofString "language" := by cases k <;> decide +kernel
  have h2 : ¬ kn k = Str.ofString "environment" := by cases k <;> decide +kernel
  unfold SpecO
  k_fill
  intro dp un gd cn cs a ccd cl outer A₀ base h₀ L m news s Q E B F X N T hk hpre hd hu hret
  refine wpAny_call ?_
  k_dflt cell_enter
  refine abs_A ?_
  intro A9a
  obtain ⟨⟨dx, u1, u2, u3, u4, u5, uk, un, ush, hx, hdx⟩, had, ⟨dv, v1, v2, v3, v4, v5, vk, vn, vsh, hv, hdv⟩, hlb⟩ := hpre
  repeat' ((fail_if_success (with_reducible show wpAny _ _ (PySem.exec (PySem.Stmt.While _ _ _ _) _) _ _ _)); (fail_if_success (with_reducible show wpAny _ _ (PySem.exec (PySem.Stmt.For _ _ _ _ _) _) _ _ _)); (fail_if_success (with_reducible show wpAny _ _ (PySem.exec (PySem.Stmt.Assign _ (PySem.Expr.ListComp _ _ _ _) _) _) _ _ _)); (fail_if_success (with_reducible show wpAny _ _ (PySem.eval (PySem.Expr.ListComp _ _ _ _) _) _ _ _)); (fail_if_success (with_reducible show LCg.CompSrc _ _ _ _ _ _ _ _ _ _ _ _ _ _)); (fail_if_success (with_reducible show LCt.CompSrcT _ _ _ _ _ _ _ _ _ _ _ _ _ _ _)); (fail_if_success (with_reducible show LCg.CompEnd _ _ _ _ _ _ _ _ _ _ _ _ _ _)); (fail_if_success (with_reducible show KswEnd _ _ _ _ _ _ _ _ _ _ _ _)); (fail_if_success (with_reducible show UnrEnd _ _ _ _ _ _ _)); first | (k_unfold; (try dsimp only)) | (k_end; wrow_close) | (with_reducible ((with_reducible show wpAny _ _ (PySem.compareOp PySem.CmpOp.Eq (PySem.Value.str _ _) (PySem.Value.str _ _)) _ _ _); ((with_reducible first | (refine eq_self ?_) | (refine eq_not ?kn ?_; (case kn => first | assumption | decide +kernel)) | (refine eq_is ?kn ?_; (case kn => first | assumption | decide +kernel)))))) | ((with_reducible show wpAny _ _ (PySem.eval (PySem.Expr.Call (PySem.Expr.Name _ _) _ _) _) _ _ _); (refine Call_ ?_)) | (with_reducible ((with_reducible show wpAny _ _ (PySem.call (PySem.Value.builtin "dict.get") _) _ _ _); (k_dflt (first | refine kdg_get1 (knd := PySem.strKind _ _) (by k_asm) (by assumption) (by assumption) (by assumption) (strKind_is _ _ _ _) (some _) (by rfl) ?_ | refine kdg_get1 (knd := PySem.strKind _ _) (by k_asm) (by assumption) (by assumption) (by assumption) (strKind_is _ _ _ _) none (by rfl) ?_); (try dsimp only [Option.getD])))) | (with_reducible ((with_reducible show wpAny _ _ (getMethod (Value.ref _) (Str.ofString "get") _) _ _ _); k_dflt (refine kdg_method (knd := PySem.strKind _ _) (by k_asm) (by assumption) (by assumption) ?_))) | (with_reducible ((with_reducible show wpAny _ _ (PySem.call (Value.type "list") [Value.ref _]) _ _ _); k_dflt (refine' list_copyK ?F ?N ?l ?_ ?z; (case F => k_asm); (case N => k_asm); (case l => exact isL (by k_asm) (by k_mem)); (case z => (simp [sizeLine]; omega)); k_whole); intro D9y c9y h9y F9y N9y l9y; (try k_lt l9y))) | (with_reducible ((with_reducible show wpAny _ _ (eval (Expr.Name _ _) (envOf _ _ _ _ _)) _ _ _); k_dflt (refine' ld ?k1 ?k2 ?_; (case k1 => k_asm); (case k2 => exact rfl); k_whole))) | ((with_reducible show wpAny _ _ (PySem.execs (List.cons _ _) _) _ _ _); walk1; (try (refine gen_s ?_; intro tkG; (try dsimp only); (try k_fold)))) | (walk1; (try dsimp only)) | (dsimp only; walk1) | (leave1; (try dsimp only)) | fail "no step")
  all_goals first
    | exact hret _ _ _ _ (by k_asm) (by k_asm) ⟨_, _, by assumption, rfl, rfl⟩

example : True := by (w_top off; exact True.intro)
section
variable {prog : Program} {w : World} {A : Around} {h₀ : Heap} {L : Addr} {m : Str → Option Value} {env : Env} {elt : Expr} {x : Str} {scope : Scope} {cl : List (Str × Addr)} {s : Shared} {S : Led → Prop} {Fin : List Value → Led → Prop}
theorem off_add {I C D : Addr} {oI oC oD : Obj} {news add : Led} (off : LCg.Off3 I C D news) (hf : Fresh add ((I, oI) :: (C, oC) :: (D, oD) :: news)) : LCg.Off3 I C D (add ++ news) := LCg.Off3.of fun p hp => by
  rcases List.mem_append.mp hp with hp | hp
  · exact ⟨Ne.symm (hf p hp _ (.head _)), Ne.symm (hf p hp _ (.tail _ (.head _))), Ne.symm (hf p hp _ (.tail _ (.tail _ (.head _))))⟩
  · exact off.mem p hp
/-- one turn of a comprehension: what its element hands back -/
def TurnQ (w : World) (h₀ : Heap) (L : Addr) (m : Str → Option Value) (s : Shared) (I C D : Addr) (oI oC : Obj) (ys : List Value) (news : Led) (b : It) (y : Value) (s' : Shared) : Prop :=
  ∃ h' tk', s' = { s with heap := h', toks := tk' } ∧ Fr h₀ L h' m ∧ ∃ nw, News h₀ L h' nw ∧ ItPost w news b y ((I, oI) :: (C, oC) :: (D, LCg.lst ys) :: news) nw
theorem comp_its {vs : List Value} {its its' : List It} {news₀ : Led} (hits : ItsIn w news₀ its vs) (hlen : its'.length = its.length) (hS : ∀ nw, (∀ p ∈ news₀, p ∈ nw) → S nw)
    (turn : ∀ (i : Nat) (a b : It) v I oI C oC D m₂ ys news h tk (E' : Value → Shared → Prop), its[i]? = some a → its'[i]? = some b → (∀ p ∈ news₀, p ∈ news) → ItIn w news a v → LCg.NsObj oC m₂ → m₂ x = some v → Fr h₀ L h m →
      News h₀ L h ((I, oI) :: (C, oC) :: (D, LCg.lst ys) :: news) → LCg.Off3 I C D news → ((@Ne Nat I C) ∧ (@Ne Nat I D) ∧ (@Ne Nat C D)) →
      wpAny (model prog w) A (eval elt (compEnvC scope cl C env)) (TurnQ w h₀ L m s I C D oI oC ys news b) E' { s with heap := h, toks := tk })
    (fin : ∀ ys nw, Grew news₀ nw → ItsIn w nw its' ys → Fin ys nw) :
    LCg.CompRest prog w A h₀ L m env elt x scope cl s S (fun i v => vs.toArray[i]? = some v) Fin vs.toArray.size 0 [] news₀ := by
  have key : ∀ (j i : Nat) (ys : List Value) (news : Led), i + j = vs.length → Grew news₀ news → ItsIn w news (its'.take i) ys → LCg.CompRest prog w A h₀ L m env elt x scope cl s S (fun i v => vs.toArray[i]? = some v) Fin j i ys news := by
    intro j
    induction j with
    | zero =>
      intro i ys news hi hg hy
      rw [List.take_of_length_le (by rw [hlen, ← hits.length]; omega)] at hy
      exact LCg.CompRest.zero (fin ys news hg hy)
    | succ j ih =>
      intro i ys news hi hg hy
      refine LCg.CompRest.succ ?_
      intro v I oI C oC D m₂ h tk E' hv hC hx F N off ne
      have hv' : vs[i]? = some v := by simpa using hv
      obtain ⟨a, ha, hav⟩ := hits.get hv'
      have hil : i < its'.length := by rw [hlen, ← hits.length]; omega
      refine wpAny_mono (turn i a its'[i] v I oI C oC D m₂ ys news h tk E' ha (List.getElem?_eq_getElem hil) hg.sub (hav.mono hg.sub) hC hx F N off ne) (fun y s₂ hq => ?_) fun _ _ e => e
      obtain ⟨h', tk', rfl, F', nw, N', add, rfl, hf, hb⟩ := hq
      have hga : Grew news (add ++ news) := ⟨add, rfl, fun p hp q hq => hf p hp q (.tail _ (.tail _ (.tail _ hq)))⟩
      refine ⟨h', tk', add ++ news, rfl, F', fun p hp => N' p ?_, off_add off hf, hS _ (fun p hp => hga.sub p (hg.sub p hp)), ih (i + 1) _ _ (by omega) (hg.trans hga) ?_⟩
      · rcases List.mem_cons.mp hp with rfl | hp
        · exact List.mem_append.mpr (.inr (.head _))
        · rcases List.mem_cons.mp hp with rfl | hp
          · exact List.mem_append.mpr (.inr (.tail _ (.head _)))
          · rcases List.mem_cons.mp hp with rfl | hp
            · exact List.mem_append.mpr (.inr (.tail _ (.tail _ (.head _))))
            · rcases List.mem_append.mp hp with hp | hp
              · exact List.mem_append.mpr (.inl hp)
              · exact List.mem_append.mpr (.inr (.tail _ (.tail _ (.tail _ hp))))
      · rw [List.take_add_one, List.getElem?_eq_getElem hil]
        exact (hy.mono hga.sub).snoc hb
  exact key vs.toArray.size 0 [] news₀ (by simp) (Grew.refl _) (by rw [List.take_zero]; exact .nil)
end
theorem ne_not {prog : Program} {w : World} {A : Around} {E : Value → Shared → Prop} {s : Shared} {Q : Value → Shared → Prop} {k l : Str} {t u : Tok} (hn : ¬ k = l) (h : Q (.bool true) s) : wpAny (model prog w) A (compareOp .NotEq (.str k t) (.str l u)) Q E s := by
  refine ne_str ?_
  rw [bne_iff_ne.mpr hn]; exact h
theorem ne_self {prog : Program} {w : World} {A : Around} {E : Value → Shared → Prop} {s : Shared} {Q : Value → Shared → Prop} {k : Str} {t u : Tok} (h : Q (.bool false) s) : wpAny (model prog w) A (compareOp .NotEq (.str k t) (.str k u)) Q E s := by
  refine ne_str ?_
  rw [bne_self_eq_false]; exact h
theorem cells3 {news : Led} {L : Addr} {a b c : Obj} (h : ∀ p ∈ news, p.1 < L) : Grew news ((L + 1 + 1 + 1, a) :: (L + 1 + 1, b) :: (L + 1, c) :: news) := by
  refine Grew.cons (Grew.cons (Grew.one fun p hp => Nat.lt_succ_of_lt (h p hp)) fun p hp => ?_) fun p hp => ?_
  · rcases List.mem_cons.mp hp with rfl | hp
    · exact Nat.lt_succ_self _
    · exact Nat.lt_succ_of_lt (Nat.lt_succ_of_lt (h p hp))
  · rcases List.mem_cons.mp hp with rfl | hp
    · exact Nat.lt_succ_self _
    · rcases List.mem_cons.mp hp with rfl | hp
      · exact Nat.lt_succ_of_lt (Nat.lt_succ_self _)
      · exact Nat.lt_succ_of_lt (Nat.lt_succ_of_lt (Nat.lt_succ_of_lt (h p hp)))
theorem off1_mem {D : Addr} : ∀ {l : Led}, LCg.Off1 D l → ∀ p ∈ l, p.1 ≠ D
  | [], _, _, h => nomatch h
  | _ :: _, x, p, h => by
    rcases List.mem_cons.mp h with rfl | h
    · exact x.1
    · exact off1_mem x.2 p h

example : True := by (w_top off; exact True.intro)
/-- the body of a def's statement -/
def stBody : Stmt → List Stmt
  | .FunctionDef _ _ b _ _ _ _ _ _ _ => b
  | _ => []
def stScope : Stmt → Scope
  | .FunctionDef _ _ _ _ _ _ s _ _ _ => s
  | _ => { kind := .module, names := [], isGenerator := false, isCoroutine := false, more := [] }
def askSt : Stmt := (PySem.Challenge.rw_ov0074_01.row.prog.main.body.reverse.drop 7).head?.getD (.Pass ⟨0, 0, 0, 0⟩)
def askBody : List Stmt := stBody askSt
def askScope : Scope := stScope askSt
/-- as_kind from its last statement on -/
theorem ask_tail (w : World) (mean : ExcName → Option Value) (mg mb : Str → Option Value) (k to : Kd) (its : List It) (nm : Option (List (List Nat))) (x la lI : Addr) (av : Value) (vs : List Value) (c : Nat) (hz : its.length ≤ 7) (hls : ∀ ls, nm = some ls → ls.length ≤ 7) :
    ∀ (sts : List Stmt) (cs : Scope), askBody.drop 3 = sts → askScope = cs →
    ∀ (dp un : Nat) (gd : Option (List Code)) (a : Addr) (ccd : Value) (outer : List Env) (A₀ : Around) (base h₀ : Heap) (L : Addr) (r : Str → Option Value) (news : Led) (o1 o2 : Obj) (tk : Tok) (s : Shared) (Q : Flow → Shared → Prop) (E : Value → Shared → Prop),
      Below A₀ base outer h₀ → Fr h₀ L s.heap (kstB r [(Str.ofString "items", .ref lI)]) → (Mine.hd.heap_1 w.params).In h₀ → News h₀ L s.heap news →
      Top Mine.hd.view_1 (looseW Mine.hd.view_1 [Str.ofString "number_text"]) mean mg mb h₀ →
      (L + 1 + 1, o2) ∈ news → (L + 1, o1) ∈ news → o1.data = .cell (some (.ref x)) → o2.data = .cell (some (.str (kn to) tk)) →
      VObj w news x (kn k) la av → (lI, ({ cls := .type "list", data := .seq vs.toArray c } : Obj)) ∈ news → ItsIn w news its vs → NmIn w news nm av →
      dp + 42 < recursionLimit → un + 560 < cLine →
      (∀ rv nw h' tk' m', Fr h₀ L h' m' → News h₀ L h' nw → Grew news nw → VecIn w nw rv to its nm → Q (.ret rv) { s with heap := h', toks := tk' }) →
      wpAny (model PySem.Challenge.rw_ov0074_01.row.prog w) (ktrTop dp un gd (Str.ofString "as_kind") cs L a ccd (cellsFrom (L + 1) cs.names []) outer) (execs sts (envOfC (Str.ofString "as_kind") cs L a ccd)) Q E s := by
  k_fill
  intro sts cs hsts hcs dp un gd a ccd outer A₀ base h₀ L r news o1 o2 tk s Q E Bl F X N T e2 e1 d1 d2 hV hlI hits hnm hd hu hret
  obtain ⟨dx, u1, u2, u3, u4, u5, uk, un', ush, hx, hdx⟩ := hV
  have hvz : vs.length ≤ 7 := by rw [hits.length]; exact hz
  conv at hsts => lhs; whnf
  conv at hcs => lhs; whnf
  subst hsts hcs
  refine abs_A ?_
  intro A9a
  repeat' ((fail_if_success (with_reducible show wpAny _ _ (PySem.exec (PySem.Stmt.While _ _ _ _) _) _ _ _)); (fail_if_success (with_reducible show wpAny _ _ (PySem.exec (PySem.Stmt.For _ _ _ _ _) _) _ _ _)); (fail_if_success (with_reducible show wpAny _ _ (PySem.exec (PySem.Stmt.Assign _ (PySem.Expr.ListComp _ _ _ _) _) _) _ _ _)); (fail_if_success (with_reducible show wpAny _ _ (PySem.eval (PySem.Expr.ListComp _ _ _ _) _) _ _ _)); (fail_if_success (with_reducible show LCg.CompSrc _ _ _ _ _ _ _ _ _ _ _ _ _ _)); (fail_if_success (with_reducible show LCt.CompSrcT _ _ _ _ _ _ _ _ _ _ _ _ _ _ _)); (fail_if_success (with_reducible show LCg.CompEnd _ _ _ _ _ _ _ _ _ _ _ _ _ _)); (fail_if_success (with_reducible show KswEnd _ _ _ _ _ _ _ _ _ _ _ _)); (fail_if_success (with_reducible show UnrEnd _ _ _ _ _ _ _)); (fail_if_success (with_reducible show wpAny _ _ (PySem.call (Value.ref 33) _) _ _ _)); first | (k_unfold; (try dsimp only)) | (k_end; wrow_close) | ((with_reducible show wpAny _ _ (PySem.call (Value.ref _) _) _ _ _); first | (with_reducible ((with_reducible show wpAny _ _ (PySem.call (Value.ref 293) _) _ _ _); k_dflt (refine' useO (vector_new _ _ _ _ _ _ _) ?k1 ?k2 ?k3 ?k4 ?k5 ?kK ?kp ?kd ?ku ?_; (case k1 => k_asm); (case k2 => k_asm); (case k3 => k_asm); (case k4 => k_asm); (case k5 => k_asm); (case kK => first | exact rfl | assumption); (case kp => exact True.intro); (case kd => ktr_room); (case ku => ktr_units); intro r9z nw9z h9z tk9z F9z N9z hr9z; obtain ⟨x9z, d9z, u91, u92, u93, u94, u95, uk9z, hr9z, hn9z, l9z, ll9z⟩ := hr9z; subst hr9z; subst hn9z; (try k_lt l9z); (try k_lt2 ll9z); (try dsimp only); (try k_sweep)))) | (with_reducible ((with_reducible show wpAny _ _ (PySem.call (Value.ref 33) _) _ _ _); k_dflt (refine' useO (names_some _ _ _ _ _ _ _ _ _ _ _ _ _ ?kq1 ?kq2 ?kq3) ?k1 ?k2 ?k3 ?k4 ?k5 ?kK ?kp ?kd ?ku ?_; (case k1 => k_asm); (case k2 => k_asm); (case k3 => k_asm); (case k4 => k_asm); (case k5 => k_asm); (case kK => first | exact rfl | assumption); (case kp => exact ⟨⟨_, _, _, _, _, _, _, _, _, by k_mem, by k_mem⟩, by k_mem, ⟨_, _, _, _, _, _, _, _, _, by k_mem, by k_mem⟩, by k_mem⟩); (case kd => ktr_room); (case ku => ktr_units); (case kq1 => assumption); (case kq2 => assumption); (case kq3 => assumption); intro r9z nw9z h9z tk9z F9z N9z hr9z; obtain ⟨D9z, c9z, l9z, hr9z, hn9z⟩ := hr9z; subst hr9z; subst hn9z; (try k_lt l9z); (try dsimp only); (try k_sweep)))) | (with_reducible ((with_reducible show wpAny _ _ (PySem.call (Value.ref 33) _) _ _ _); k_dflt (refine' useV (names_none _ _ _ _ _ _ _) ?k1 ?k2 ?k3 ?k4 ?k5 ?kK ?kp ?kd ?ku ?_; (case k1 => k_asm); (case k2 => k_asm); (case k3 => k_asm); (case k4 => k_asm); (case k5 => k_asm); (case kK => first | exact rfl | assumption); (case kp => exact ⟨_, _, _, _, _, _, _, _, _, by k_mem, by k_mem⟩); (case kd => ktr_room); (case ku => ktr_units); intro r9z h9z tk9z F9z N9z hr9z; subst hr9z; (try dsimp only); (try k_sweep))))) | ((with_reducible show wpAny _ _ (PySem.eval (PySem.Expr.Call (PySem.Expr.Name _ _) _ _) _) _ _ _); (refine Call_ ?_)) | (with_reducible ((with_reducible show wpAny _ _ (PySem.call (Value.type "list") [Value.ref _]) _ _ _); k_dflt (refine' list_copyK ?F ?N ?l ?_ ?z; (case F => k_asm); (case N => k_asm); (case l => exact isL (by k_asm) (by k_mem)); (case z => (simp [sizeLine]; omega)); k_whole); intro D9y c9y h9y F9y N9y l9y; (try k_lt l9y))) | (with_reducible ((with_reducible show wpAny _ _ (eval (Expr.Name _ _) (envOf _ _ _ _ _)) _ _ _); k_dflt (refine' ld ?k1 ?k2 ?_; (case k1 => k_asm); (case k2 => exact rfl); k_whole))) | ((with_reducible show wpAny _ _ (PySem.execs (List.cons _ _) _) _ _ _); walk1; (try (refine gen_s ?_; intro tkG; (try dsimp only); (try k_fold)))) | (walk1; (try dsimp only)) | (dsimp only; walk1) | (leave1; (try dsimp only)) | fail "no step")
  cases nm with
  | none =>
    have hav : av = .none := hnm
    subst hav
    repeat' ((fail_if_success (with_reducible show wpAny _ _ (PySem.exec (PySem.Stmt.While _ _ _ _) _) _ _ _)); (fail_if_success (with_reducible show wpAny _ _ (PySem.exec (PySem.Stmt.For _ _ _ _ _) _) _ _ _)); (fail_if_success (with_reducible show wpAny _ _ (PySem.exec (PySem.Stmt.Assign _ (PySem.Expr.ListComp _ _ _ _) _) _) _ _ _)); (fail_if_success (with_reducible show wpAny _ _ (PySem.eval (PySem.Expr.ListComp _ _ _ _) _) _ _ _)); (fail_if_success (with_reducible show LCg.CompSrc _ _ _ _ _ _ _ _ _ _ _ _ _ _)); (fail_if_success (with_reducible show LCt.CompSrcT _ _ _ _ _ _ _ _ _ _ _ _ _ _ _)); (fail_if_success (with_reducible show LCg.CompEnd _ _ _ _ _ _ _ _ _ _ _ _ _ _)); (fail_if_success (with_reducible show KswEnd _ _ _ _ _ _ _ _ _ _ _ _)); (fail_if_success (with_reducible show UnrEnd _ _ _ _ _ _ _)); first | (k_unfold; (try dsimp only)) | (k_end; wrow_close) | ((with_reducible show wpAny _ _ (PySem.call (Value.ref _) _) _ _ _); first | (with_reducible ((with_reducible show wpAny _ _ (PySem.call (Value.ref 293) _) _ _ _); k_dflt (refine' useO (vector_new _ _ _ _ _ _ _) ?k1 ?k2 ?k3 ?k4 ?k5 ?kK ?kp ?kd ?ku ?_; (case k1 => k_asm); (case k2 => k_asm); (case k3 => k_asm); (case k4 => k_asm); (case k5 => k_asm); (case kK => first | exact rfl | assumption); (case kp => exact True.intro); (case kd => ktr_room); (case ku => ktr_units); intro r9z nw9z h9z tk9z F9z N9z hr9z; obtain ⟨x9z, d9z, u91, u92, u93, u94, u95, uk9z, hr9z, hn9z, l9z, ll9z⟩ := hr9z; subst hr9z; subst hn9z; (try k_lt l9z); (try k_lt2 ll9z); (try dsimp only); (try k_sweep)))) | (with_reducible ((with_reducible show wpAny _ _ (PySem.call (Value.ref 33) _) _ _ _); k_dflt (refine' useO (names_some _ _ _ _ _ _ _ _ _ _ _ _ _ ?kq1 ?kq2 ?kq3) ?k1 ?k2 ?k3 ?k4 ?k5 ?kK ?kp ?kd ?ku ?_; (case k1 => k_asm); (case k2 => k_asm); (case k3 => k_asm); (case k4 => k_asm); (case k5 => k_asm); (case kK => first | exact rfl | assumption); (case kp => exact ⟨⟨_, _, _, _, _, _, _, _, _, by k_mem, by k_mem⟩, by k_mem, ⟨_, _, _, _, _, _, _, _, _, by k_mem, by k_mem⟩, by k_mem⟩); (case kd => ktr_room); (case ku => ktr_units); (case kq1 => assumption); (case kq2 => assumption); (case kq3 => assumption); intro r9z nw9z h9z tk9z F9z N9z hr9z; obtain ⟨D9z, c9z, l9z, hr9z, hn9z⟩ := hr9z; subst hr9z; subst hn9z; (try k_lt l9z); (try dsimp only); (try k_sweep)))) | (with_reducible ((with_reducible show wpAny _ _ (PySem.call (Value.ref 33) _) _ _ _); k_dflt (refine' useV (names_none _ _ _ _ _ _ _) ?k1 ?k2 ?k3 ?k4 ?k5 ?kK ?kp ?kd ?ku ?_; (case k1 => k_asm); (case k2 => k_asm); (case k3 => k_asm); (case k4 => k_asm); (case k5 => k_asm); (case kK => first | exact rfl | assumption); (case kp => exact ⟨_, _, _, _, _, _, _, _, _, by k_mem, by k_mem⟩); (case kd => ktr_room); (case ku => ktr_units); intro r9z h9z tk9z F9z N9z hr9z; subst hr9z; (try dsimp only); (try k_sweep))))) | ((with_reducible show wpAny _ _ (PySem.eval (PySem.Expr.Call (PySem.Expr.Name _ _) _ _) _) _ _ _); (refine Call_ ?_)) | (with_reducible ((with_reducible show wpAny _ _ (PySem.call (Value.type "list") [Value.ref _]) _ _ _); k_dflt (refine' list_copyK ?F ?N ?l ?_ ?z; (case F => k_asm); (case N => k_asm); (case l => exact isL (by k_asm) (by k_mem)); (case z => (simp [sizeLine]; omega)); k_whole); intro D9y c9y h9y F9y N9y l9y; (try k_lt l9y))) | (with_reducible ((with_reducible show wpAny _ _ (eval (Expr.Name _ _) (envOf _ _ _ _ _)) _ _ _); k_dflt (refine' ld ?k1 ?k2 ?_; (case k1 => k_asm); (case k2 => exact rfl); k_whole))) | ((with_reducible show wpAny _ _ (PySem.execs (List.cons _ _) _) _ _ _); walk1; (try (refine gen_s ?_; intro tkG; (try dsimp only); (try k_fold)))) | (walk1; (try dsimp only)) | (dsimp only; walk1) | (leave1; (try dsimp only)) | fail "no step")
    exact hret _ _ _ _ _ (by k_asm) (by k_asm) (by ((repeat' first | exact Grew.refl _ | assumption | (refine Grew.cons ?_ (by (first | assumption | (refine ktn_ltOf ?_; (try simp only [AllLt, and_true]); (repeat' first | assumption | omega | (refine And.intro ?_ ?_)); all_goals first | (rename _ ∧ AllLt _ _ => l8; exact tbn_up (by omega) l8.2) | (rename _ ∧ _ ∧ AllLt _ _ => l8; exact tbn_up (by omega) l8.2.2) | (rename _ ∧ _ ∧ _ ∧ AllLt _ _ => l8; exact tbn_up (by omega) l8.2.2.2) | (rename _ ∧ _ ∧ _ ∧ _ ∧ AllLt _ _ => l8; exact tbn_up (by omega) l8.2.2.2.2) | (rename _ ∧ _ ∧ _ ∧ _ ∧ _ ∧ AllLt _ _ => l8; exact tbn_up (by omega) l8.2.2.2.2.2) | (rename _ ∧ _ ∧ _ ∧ _ ∧ _ ∧ _ ∧ AllLt _ _ => l8; exact tbn_up (by omega) l8.2.2.2.2.2.2) | (rename _ ∧ _ ∧ _ ∧ _ ∧ _ ∧ _ ∧ _ ∧ AllLt _ _ => l8; exact tbn_up (by omega) l8.2.2.2.2.2.2.2) | (rename _ ∧ _ ∧ _ ∧ _ ∧ _ ∧ _ ∧ _ ∧ _ ∧ AllLt _ _ => l8; exact tbn_up (by omega) l8.2.2.2.2.2.2.2.2) | (rename ∀ p ∈ (_ : Led), Prod.fst p < _ => l8; exact tbn_up (by omega) (allLt_of l8)) | (rename ∀ p ∈ (_ :: _ : Led), Prod.fst p < _ => l8; exact allLt_of fun p hp => l8 p (.tail _ hp)))))) | (refine Grew.trans ?_ (by assumption))))) ⟨_, _, vs, _, _, rfl, ⟨_, _, _, _, _, _, _, _, _, .head _, .tail _ (.head _)⟩, .tail _ (.tail _ (.head _)), hits.mono (fun p hp => .tail _ (.tail _ (.tail _ hp))), rfl⟩
  | some ls =>
    obtain ⟨ad, ob, nv, lb, vs2, c2, rfl, had, hdo, hlo, ⟨dv, v1, v2, v3, v4, v5, vk, vn, vsh, hv, hdv⟩, hlb, hits2⟩ := hnm
    have hz2 : vs2.length ≤ 7 := by rw [hits2.length, List.length_map]; exact hls _ rfl
    repeat' ((fail_if_success (with_reducible show wpAny _ _ (PySem.exec (PySem.Stmt.While _ _ _ _) _) _ _ _)); (fail_if_success (with_reducible show wpAny _ _ (PySem.exec (PySem.Stmt.For _ _ _ _ _) _) _ _ _)); (fail_if_success (with_reducible show wpAny _ _ (PySem.exec (PySem.Stmt.Assign _ (PySem.Expr.ListComp _ _ _ _) _) _) _ _ _)); (fail_if_success (with_reducible show wpAny _ _ (PySem.eval (PySem.Expr.ListComp _ _ _ _) _) _ _ _)); (fail_if_success (with_reducible show LCg.CompSrc _ _ _ _ _ _ _ _ _ _ _ _ _ _)); (fail_if_success (with_reducible show LCt.CompSrcT _ _ _ _ _ _ _ _ _ _ _ _ _ _ _)); (fail_if_success (with_reducible show LCg.CompEnd _ _ _ _ _ _ _ _ _ _ _ _ _ _)); (fail_if_success (with_reducible show KswEnd _ _ _ _ _ _ _ _ _ _ _ _)); (fail_if_success (with_reducible show UnrEnd _ _ _ _ _ _ _)); first | (k_unfold; (try dsimp only)) | (k_end; wrow_close) | ((with_reducible show wpAny _ _ (PySem.call (Value.ref _) _) _ _ _); first | (with_reducible ((with_reducible show wpAny _ _ (PySem.call (Value.ref 293) _) _ _ _); k_dflt (refine' useO (vector_new _ _ _ _ _ _ _) ?k1 ?k2 ?k3 ?k4 ?k5 ?kK ?kp ?kd ?ku ?_; (case k1 => k_asm); (case k2 => k_asm); (case k3 => k_asm); (case k4 => k_asm); (case k5 => k_asm); (case kK => first | exact rfl | assumption); (case kp => exact True.intro); (case kd => ktr_room); (case ku => ktr_units); intro r9z nw9z h9z tk9z F9z N9z hr9z; obtain ⟨x9z, d9z, u91, u92, u93, u94, u95, uk9z, hr9z, hn9z, l9z, ll9z⟩ := hr9z; subst hr9z; subst hn9z; (try k_lt l9z); (try k_lt2 ll9z); (try dsimp only); (try k_sweep)))) | (with_reducible ((with_reducible show wpAny _ _ (PySem.call (Value.ref 33) _) _ _ _); k_dflt (refine' useO (names_some _ _ _ _ _ _ _ _ _ _ _ _ _ ?kq1 ?kq2 ?kq3) ?k1 ?k2 ?k3 ?k4 ?k5 ?kK ?kp ?kd ?ku ?_; (case k1 => k_asm); (case k2 => k_asm); (case k3 => k_asm); (case k4 => k_asm); (case k5 => k_asm); (case kK => first | exact rfl | assumption); (case kp => exact ⟨⟨_, _, _, _, _, _, _, _, _, by k_mem, by k_mem⟩, by k_mem, ⟨_, _, _, _, _, _, _, _, _, by k_mem, by k_mem⟩, by k_mem⟩); (case kd => ktr_room); (case ku => ktr_units); (case kq1 => assumption); (case kq2 => assumption); (case kq3 => assumption); intro r9z nw9z h9z tk9z F9z N9z hr9z; obtain ⟨D9z, c9z, l9z, hr9z, hn9z⟩ := hr9z; subst hr9z; subst hn9z; (try k_lt l9z); (try dsimp only); (try k_sweep)))) | (with_reducible ((with_reducible show wpAny _ _ (PySem.call (Value.ref 33) _) _ _ _); k_dflt (refine' useV (names_none _ _ _ _ _ _ _) ?k1 ?k2 ?k3 ?k4 ?k5 ?kK ?kp ?kd ?ku ?_; (case k1 => k_asm); (case k2 => k_asm); (case k3 => k_asm); (case k4 => k_asm); (case k5 => k_asm); (case kK => first | exact rfl | assumption); (case kp => exact ⟨_, _, _, _, _, _, _, _, _, by k_mem, by k_mem⟩); (case kd => ktr_room); (case ku => ktr_units); intro r9z h9z tk9z F9z N9z hr9z; subst hr9z; (try dsimp only); (try k_sweep))))) | ((with_reducible show wpAny _ _ (PySem.eval (PySem.Expr.Call (PySem.Expr.Name _ _) _ _) _) _ _ _); (refine Call_ ?_)) | (with_reducible ((with_reducible show wpAny _ _ (PySem.call (Value.type "list") [Value.ref _]) _ _ _); k_dflt (refine' list_copyK ?F ?N ?l ?_ ?z; (case F => k_asm); (case N => k_asm); (case l => exact isL (by k_asm) (by k_mem)); (case z => (simp [sizeLine]; omega)); k_whole); intro D9y c9y h9y F9y N9y l9y; (try k_lt l9y))) | (with_reducible ((with_reducible show wpAny _ _ (eval (Expr.Name _ _) (envOf _ _ _ _ _)) _ _ _); k_dflt (refine' ld ?k1 ?k2 ?_; (case k1 => k_asm); (case k2 => exact rfl); k_whole))) | ((with_reducible show wpAny _ _ (PySem.execs (List.cons _ _) _) _ _ _); walk1; (try (refine gen_s ?_; intro tkG; (try dsimp only); (try k_fold)))) | (walk1; (try dsimp only)) | (dsimp only; walk1) | (leave1; (try dsimp only)) | fail "no step")
    exact hret _ _ _ _ _ (by k_asm) (by k_asm) (by ((repeat' first | exact Grew.refl _ | assumption | (refine Grew.cons ?_ (by (first | assumption | (refine ktn_ltOf ?_; (try simp only [AllLt, and_true]); (repeat' first | assumption | omega | (refine And.intro ?_ ?_)); all_goals first | (rename _ ∧ AllLt _ _ => l8; exact tbn_up (by omega) l8.2) | (rename _ ∧ _ ∧ AllLt _ _ => l8; exact tbn_up (by omega) l8.2.2) | (rename _ ∧ _ ∧ _ ∧ AllLt _ _ => l8; exact tbn_up (by omega) l8.2.2.2) | (rename _ ∧ _ ∧ _ ∧ _ ∧ AllLt _ _ => l8; exact tbn_up (by omega) l8.2.2.2.2) | (rename _ ∧ _ ∧ _ ∧ _ ∧ _ ∧ AllLt _ _ => l8; exact tbn_up (by omega) l8.2.2.2.2.2) | (rename _ ∧ _ ∧ _ ∧ _ ∧ _ ∧ _ ∧ AllLt _ _ => l8; exact tbn_up (by omega) l8.2.2.2.2.2.2) | (rename _ ∧ _ ∧ _ ∧ _ ∧ _ ∧ _ ∧ _ ∧ AllLt _ _ => l8; exact tbn_up (by omega) l8.2.2.2.2.2.2.2) | (rename _ ∧ _ ∧ _ ∧ _ ∧ _ ∧ _ ∧ _ ∧ _ ∧ AllLt _ _ => l8; exact tbn_up (by omega) l8.2.2.2.2.2.2.2.2) | (rename ∀ p ∈ (_ : Led), Prod.fst p < _ => l8; exact tbn_up (by omega) (allLt_of l8)) | (rename ∀ p ∈ (_ :: _ : Led), Prod.fst p < _ => l8; exact allLt_of fun p hp => l8 p (.tail _ hp)))))) | (refine Grew.trans ?_ (by assumption))))) ⟨_, _, vs, _, _, rfl, ⟨_, _, _, _, _, _, _, _, _, .tail _ (.tail _ (.tail _ (.tail _ (.tail _ (.head _))))), .tail _ (.tail _ (.tail _ (.tail _ (.tail _ (.tail _ (.head _))))))⟩, .tail _ (.tail _ (.tail _ (.tail _ (.tail _ (.tail _ (.tail _ (.head _))))))), hits.mono (fun p hp => .tail _ (.tail _ (.tail _ (.tail _ (.tail _ (.tail _ (.tail _ (.tail _ hp)))))))), _, _, _, _, vs2, _, rfl, .tail _ (.tail _ (.tail _ (.head _))), (by assumption), (by assumption), ⟨_, _, _, _, _, _, _, _, _, .head _, .tail _ (.head _)⟩, .tail _ (.tail _ (.head _)), hits2.mono (fun p hp => .tail _ (.tail _ (.tail _ (.tail _ (.tail _ (.tail _ (.tail _ (.tail _ hp))))))))⟩

example : True := by (w_top off; exact True.intro)
theorem as_kind_ne (w mean mg mb) (k to : Kd) (its its' : List It) (nm : Option (List (List Nat))) (x la nt : Addr) (av : Value) (vs : List Value) (c : Nat) (t1 : Tok) (hz : its.length ≤ 7) (hls : ∀ ls, nm = some ls → ls.length ≤ 7) (hn : k ≠ to) (hlen : its'.length = its.length)
    (hcv : ∀ (i : Nat) a b, its[i]? = some a → its'[i]? = some b → Conv k to a b) : SpecO w mean mg mb 440 44 600 [.ref x, .str (kn to) t1, .ref nt]
    (fun news => VObj w news x (kn k) la av ∧ (la, ({ cls := .type "list", data := .seq vs.toArray c } : Obj)) ∈ news ∧ ItsIn w news its vs ∧ NmIn w news nm av)
    (fun r news nw => Grew news nw ∧ VecIn w nw r to its' nm) := by
  have h1 : ¬ kn k = kn to := by cases k <;> cases to <;> first | exact absurd rfl hn | decide +kernel
  unfold SpecO
  k_fill
  intro dp un gd cn cs a ccd cl outer A₀ base h₀ L m news s Q E B F X N T hk hpre hd hu hret
  refine wpAny_call ?_
  k_dflt (refine' code_defC ?k1 ?k2 ?k3 ?k4 ?k5 ?kA ?kF ?kK ?k6 ?k7 ?k8 ?k9 ?kB ?kD ?_ ?c2 ?c3 ?c4; (case kA => exact rfl); (case kF => exact rfl); (case kK => assumption); (case k1 => k_asm); (case k2 => k_asm); (case k3 => k_asm); (case k4 => k_asm); (case k5 => k_asm); (case k6 => k_is); (case k7 => k_is); (case k8 => ktr_room); (case k9 => exact BindsTo.of_eq rfl); (case kB => exact rfl); (case kD => decide +kernel); (case c2 => exact rfl); (case c3 => exact rfl); (case c4 => exact rfl); k_whole; intro g' L' h' tk' cells' FG' F' N' Y' B' X' T' l1; (try k_lt l1); k_cells Y'; (try simp only [List.cons_append, List.nil_append] at N'); (try dsimp only); (try k_lift B'); (try k_fold))
  refine abs_A ?_
  intro A9a
  obtain ⟨⟨dx, u1, u2, u3, u4, u5, uk, un, ush, hx, hdx⟩, hla, hits, hnm⟩ := hpre
  have hvz : vs.length ≤ 7 := by rw [hits.length]; exact hz
  repeat' ((fail_if_success (with_reducible show wpAny _ _ (PySem.exec (PySem.Stmt.While _ _ _ _) _) _ _ _)); (fail_if_success (with_reducible show wpAny _ _ (PySem.exec (PySem.Stmt.For _ _ _ _ _) _) _ _ _)); (fail_if_success (with_reducible show wpAny _ _ (PySem.exec (PySem.Stmt.Assign _ (PySem.Expr.ListComp _ _ _ _) _) _) _ _ _)); (fail_if_success (with_reducible show wpAny _ _ (PySem.eval (PySem.Expr.ListComp _ _ _ _) _) _ _ _)); (fail_if_success (with_reducible show LCg.CompSrc _ _ _ _ _ _ _ _ _ _ _ _ _ _)); (fail_if_success (with_reducible show LCt.CompSrcT _ _ _ _ _ _ _ _ _ _ _ _ _ _ _)); (fail_if_success (with_reducible show LCg.CompEnd _ _ _ _ _ _ _ _ _ _ _ _ _ _)); (fail_if_success (with_reducible show KswEnd _ _ _ _ _ _ _ _ _ _ _ _)); (fail_if_success (with_reducible show UnrEnd _ _ _ _ _ _ _)); first | (k_unfold; (try dsimp only)) | (k_end; wrow_close) | ((with_reducible show wpAny _ _ (PySem.call (Value.ref _) _) _ _ _); first | (with_reducible ((with_reducible show wpAny _ _ (PySem.call (Value.ref 402) _) _ _ _); k_dflt (refine' useO (conv_spec _ _ _ _ _ ?kq _ _ _ _) ?k1 ?k2 ?k3 ?k4 ?k5 ?kK ?kp ?kd ?ku ?_; (case k1 => k_asm); (case k2 => k_asm); (case k3 => k_asm); (case k4 => k_asm); (case k5 => k_asm); (case kK => first | exact rfl | assumption); (case kp => exact ⟨fun p hp => .tail _ (.tail _ (.tail _ hp)), by assumption⟩); (case kd => ktr_room); (case ku => ktr_units); (case kq => assumption); intro r9z nw9z h9z tk9z F9z N9z hr9z; skip; (try dsimp only); (try k_sweep))))) | (with_reducible ((with_reducible show wpAny _ _ (PySem.compareOp PySem.CmpOp.NotEq (PySem.Value.str _ _) (PySem.Value.str _ _)) _ _ _); ((with_reducible first | (refine ne_self ?_) | (refine ne_not ?kn ?_; (case kn => first | assumption | decide +kernel)))))) | ((with_reducible show wpAny _ _ (PySem.eval (PySem.Expr.Call (PySem.Expr.Name _ _) _ _) _) _ _ _); (refine Call_ ?_)) | walk1 | (dsimp only; walk1) | (leave1; (try dsimp only)) | fail "no step")
  k_dflt (refine LCg.Assign_ListComp_U (F₀ := by k_asm) (by rfl) (by with_unfolding_all rfl) (by with_unfolding_all rfl) (by decide) (by rfl) (by decide) (by rfl) (by rfl) (by rfl) ?_)
  repeat' ((fail_if_success (with_reducible show wpAny _ _ (PySem.exec (PySem.Stmt.While _ _ _ _) _) _ _ _)); (fail_if_success (with_reducible show wpAny _ _ (PySem.exec (PySem.Stmt.For _ _ _ _ _) _) _ _ _)); (fail_if_success (with_reducible show wpAny _ _ (PySem.exec (PySem.Stmt.Assign _ (PySem.Expr.ListComp _ _ _ _) _) _) _ _ _)); (fail_if_success (with_reducible show wpAny _ _ (PySem.eval (PySem.Expr.ListComp _ _ _ _) _) _ _ _)); (fail_if_success (with_reducible show LCg.CompSrc _ _ _ _ _ _ _ _ _ _ _ _ _ _)); (fail_if_success (with_reducible show LCt.CompSrcT _ _ _ _ _ _ _ _ _ _ _ _ _ _ _)); (fail_if_success (with_reducible show LCg.CompEnd _ _ _ _ _ _ _ _ _ _ _ _ _ _)); (fail_if_success (with_reducible show KswEnd _ _ _ _ _ _ _ _ _ _ _ _)); (fail_if_success (with_reducible show UnrEnd _ _ _ _ _ _ _)); first | (k_unfold; (try dsimp only)) | (k_end; wrow_close) | ((with_reducible show wpAny _ _ (PySem.call (Value.ref _) _) _ _ _); first | (with_reducible ((with_reducible show wpAny _ _ (PySem.call (Value.ref 402) _) _ _ _); k_dflt (refine' useO (conv_spec _ _ _ _ _ ?kq _ _ _ _) ?k1 ?k2 ?k3 ?k4 ?k5 ?kK ?kp ?kd ?ku ?_; (case k1 => k_asm); (case k2 => k_asm); (case k3 => k_asm); (case k4 => k_asm); (case k5 => k_asm); (case kK => first | exact rfl | assumption); (case kp => exact ⟨fun p hp => .tail _ (.tail _ (.tail _ hp)), by assumption⟩); (case kd => ktr_room); (case ku => ktr_units); (case kq => assumption); intro r9z nw9z h9z tk9z F9z N9z hr9z; skip; (try dsimp only); (try k_sweep))))) | (with_reducible ((with_reducible show wpAny _ _ (PySem.compareOp PySem.CmpOp.NotEq (PySem.Value.str _ _) (PySem.Value.str _ _)) _ _ _); ((with_reducible first | (refine ne_self ?_) | (refine ne_not ?kn ?_; (case kn => first | assumption | decide +kernel)))))) | ((with_reducible show wpAny _ _ (PySem.eval (PySem.Expr.Call (PySem.Expr.Name _ _) _ _) _) _ _ _); (refine Call_ ?_)) | walk1 | (dsimp only; walk1) | (leave1; (try dsimp only)) | fail "no step")
  refine LCg.CompSrc.ledger (by rfl) (by k_asm) (by k_asm) (.tail _ (.tail _ (.tail _ hla))) (by rw [List.size_toArray, sizeLine_eq]; omega) (fun g => ?_)
  refine comp_its (its' := its') (hits.mono fun p hp => .tail _ (.tail _ (.tail _ hp))) hlen (fun nw hs => .inr ⟨_, hs _ (.tail _ (.tail _ (.tail _ hla))), rfl, _, rfl⟩) ?_ ?_
  · intro i a b v I oI C oC D m₂ ys nws h tk E' ha hb hsub hav hC hx2 F9 N9 off9 ne9
    have hcv9 := hcv i a b ha hb
    have e1 := hsub _ (.head _)
    have e2 := hsub _ (.tail _ (.head _))
    have e3 := hsub _ (.tail _ (.tail _ (.head _)))
    have e4 := hsub _ (.tail _ (.tail _ (.tail _ hx)))
    have e5 := hsub _ (.tail _ (.tail _ (.tail _ hdx)))
    repeat' ((fail_if_success (with_reducible show wpAny _ _ (PySem.exec (PySem.Stmt.While _ _ _ _) _) _ _ _)); (fail_if_success (with_reducible show wpAny _ _ (PySem.exec (PySem.Stmt.For _ _ _ _ _) _) _ _ _)); (fail_if_success (with_reducible show wpAny _ _ (PySem.exec (PySem.Stmt.Assign _ (PySem.Expr.ListComp _ _ _ _) _) _) _ _ _)); (fail_if_success (with_reducible show wpAny _ _ (PySem.eval (PySem.Expr.ListComp _ _ _ _) _) _ _ _)); (fail_if_success (with_reducible show LCg.CompSrc _ _ _ _ _ _ _ _ _ _ _ _ _ _)); (fail_if_success (with_reducible show LCt.CompSrcT _ _ _ _ _ _ _ _ _ _ _ _ _ _ _)); (fail_if_success (with_reducible show LCg.CompEnd _ _ _ _ _ _ _ _ _ _ _ _ _ _)); (fail_if_success (with_reducible show KswEnd _ _ _ _ _ _ _ _ _ _ _ _)); (fail_if_success (with_reducible show UnrEnd _ _ _ _ _ _ _)); first | (k_unfold; (try dsimp only)) | (k_end; wrow_close) | ((with_reducible show wpAny _ _ (PySem.call (Value.ref _) _) _ _ _); first | (with_reducible ((with_reducible show wpAny _ _ (PySem.call (Value.ref 402) _) _ _ _); k_dflt (refine' useO (conv_spec _ _ _ _ _ ?kq _ _ _ _) ?k1 ?k2 ?k3 ?k4 ?k5 ?kK ?kp ?kd ?ku ?_; (case k1 => k_asm); (case k2 => k_asm); (case k3 => k_asm); (case k4 => k_asm); (case k5 => k_asm); (case kK => first | exact rfl | assumption); (case kp => exact ⟨fun p hp => .tail _ (.tail _ (.tail _ hp)), by assumption⟩); (case kd => ktr_room); (case ku => ktr_units); (case kq => assumption); intro r9z nw9z h9z tk9z F9z N9z hr9z; skip; (try dsimp only); (try k_sweep))))) | (with_reducible ((with_reducible show wpAny _ _ (PySem.compareOp PySem.CmpOp.NotEq (PySem.Value.str _ _) (PySem.Value.str _ _)) _ _ _); ((with_reducible first | (refine ne_self ?_) | (refine ne_not ?kn ?_; (case kn => first | assumption | decide +kernel)))))) | ((with_reducible show wpAny _ _ (PySem.eval (PySem.Expr.Call (PySem.Expr.Name _ _) _ _) _) _ _ _); (refine Call_ ?_)) | walk1 | (dsimp only; walk1) | (leave1; (try dsimp only)) | fail "no step")
    exact ⟨_, _, rfl, by k_asm, _, by k_asm, by assumption⟩
  · intro ys nws hg hy
    intro D h tk F9 N9 o9
    have hG : Grew news ((D, LCg.lst ys) :: nws) := ((cells3 l1).trans hg).trans (Grew.ne1 (off1_mem o9))
    have e1 := hg.sub _ (.head _)
    have e2 := hg.sub _ (.tail _ (.head _))
    have e3 := hg.sub _ (.tail _ (.tail _ (.head _)))
    have e4 := hg.sub _ (.tail _ (.tail _ (.tail _ hx)))
    have e5 := hg.sub _ (.tail _ (.tail _ (.tail _ hdx)))
    have hz7 : its'.length ≤ 7 := by rw [hlen]; exact hz
    repeat' ((fail_if_success (with_reducible show wpAny _ _ (PySem.exec (PySem.Stmt.While _ _ _ _) _) _ _ _)); (fail_if_success (with_reducible show wpAny _ _ (PySem.exec (PySem.Stmt.For _ _ _ _ _) _) _ _ _)); (fail_if_success (with_reducible show wpAny _ _ (PySem.exec (PySem.Stmt.Assign _ (PySem.Expr.ListComp _ _ _ _) _) _) _ _ _)); (fail_if_success (with_reducible show wpAny _ _ (PySem.eval (PySem.Expr.ListComp _ _ _ _) _) _ _ _)); (fail_if_success (with_reducible show LCg.CompSrc _ _ _ _ _ _ _ _ _ _ _ _ _ _)); (fail_if_success (with_reducible show LCt.CompSrcT _ _ _ _ _ _ _ _ _ _ _ _ _ _ _)); (fail_if_success (with_reducible show LCg.CompEnd _ _ _ _ _ _ _ _ _ _ _ _ _ _)); (fail_if_success (with_reducible show KswEnd _ _ _ _ _ _ _ _ _ _ _ _)); (fail_if_success (with_reducible show UnrEnd _ _ _ _ _ _ _)); (fail_if_success (with_reducible show wpAny _ _ (PySem.execs (List.cons (PySem.Stmt.Return _ _) _) _) _ _ _)); first | (k_unfold; (try dsimp only)) | (k_end; wrow_close) | ((with_reducible show wpAny _ _ (PySem.call (Value.ref _) _) _ _ _); first | (with_reducible ((with_reducible show wpAny _ _ (PySem.call (Value.ref 402) _) _ _ _); k_dflt (refine' useO (conv_spec _ _ _ _ _ ?kq _ _ _ _) ?k1 ?k2 ?k3 ?k4 ?k5 ?kK ?kp ?kd ?ku ?_; (case k1 => k_asm); (case k2 => k_asm); (case k3 => k_asm); (case k4 => k_asm); (case k5 => k_asm); (case kK => first | exact rfl | assumption); (case kp => exact ⟨fun p hp => .tail _ (.tail _ (.tail _ hp)), by assumption⟩); (case kd => ktr_room); (case ku => ktr_units); (case kq => assumption); intro r9z nw9z h9z tk9z F9z N9z hr9z; skip; (try dsimp only); (try k_sweep))))) | (with_reducible ((with_reducible show wpAny _ _ (PySem.compareOp PySem.CmpOp.NotEq (PySem.Value.str _ _) (PySem.Value.str _ _)) _ _ _); ((with_reducible first | (refine ne_self ?_) | (refine ne_not ?kn ?_; (case kn => first | assumption | decide +kernel)))))) | ((with_reducible show wpAny _ _ (PySem.eval (PySem.Expr.Call (PySem.Expr.Name _ _) _ _) _) _ _ _); (refine Call_ ?_)) | walk1 | (dsimp only; walk1) | (leave1; (try dsimp only)) | fail "no step")
    refine' ask_tail w mean mg mb k to its' nm x la _ av _ _ hz7 hls _ _ ?g1 ?g2 _ _ _ _ _ _ _ _ _ _ _ _ _ _ _ _ _ _ ?gB ?gF ?gX ?gN ?gT ?e2 ?e1 ?d1 ?d2 ?gV ?gl ?gi ?gm ?gd ?gu ?gR
    case g1 => kernel_rfl
    case g2 => kernel_rfl
    case gB => k_asm
    case gF => k_asm
    case gX => k_asm
    case gN => k_asm
    case gT => k_asm
    case gd => ktr_room
    case gu => ktr_units
    case d1 => assumption
    case d2 => assumption
    case e2 => exact .tail _ e2
    case e1 => exact .tail _ e3
    case gV => exact ⟨_, _, _, _, _, _, _, _, _, .tail _ e4, .tail _ e5⟩
    case gl => exact .head _
    case gi => exact hy.mono (fun p hp => .tail _ hp)
    case gm => exact hnm.mono fun p hp => .tail _ (hg.sub _ (.tail _ (.tail _ (.tail _ hp))))
    case gR =>
      intro rv nw h9 tk9 m9 F9 N9 hG9 hV9
      repeat' ((fail_if_success (with_reducible show wpAny _ _ (PySem.exec (PySem.Stmt.While _ _ _ _) _) _ _ _)); (fail_if_success (with_reducible show wpAny _ _ (PySem.exec (PySem.Stmt.For _ _ _ _ _) _) _ _ _)); (fail_if_success (with_reducible show wpAny _ _ (PySem.exec (PySem.Stmt.Assign _ (PySem.Expr.ListComp _ _ _ _) _) _) _ _ _)); (fail_if_success (with_reducible show wpAny _ _ (PySem.eval (PySem.Expr.ListComp _ _ _ _) _) _ _ _)); (fail_if_success (with_reducible show LCg.CompSrc _ _ _ _ _ _ _ _ _ _ _ _ _ _)); (fail_if_success (with_reducible show LCt.CompSrcT _ _ _ _ _ _ _ _ _ _ _ _ _ _ _)); (fail_if_success (with_reducible show LCg.CompEnd _ _ _ _ _ _ _ _ _ _ _ _ _ _)); (fail_if_success (with_reducible show KswEnd _ _ _ _ _ _ _ _ _ _ _ _)); (fail_if_success (with_reducible show UnrEnd _ _ _ _ _ _ _)); first | (k_unfold; (try dsimp only)) | (k_end; wrow_close) | ((with_reducible show wpAny _ _ (PySem.call (Value.ref _) _) _ _ _); first | (with_reducible ((with_reducible show wpAny _ _ (PySem.call (Value.ref 402) _) _ _ _); k_dflt (refine' useO (conv_spec _ _ _ _ _ ?kq _ _ _ _) ?k1 ?k2 ?k3 ?k4 ?k5 ?kK ?kp ?kd ?ku ?_; (case k1 => k_asm); (case k2 => k_asm); (case k3 => k_asm); (case k4 => k_asm); (case k5 => k_asm); (case kK => first | exact rfl | assumption); (case kp => exact ⟨fun p hp => .tail _ (.tail _ (.tail _ hp)), by assumption⟩); (case kd => ktr_room); (case ku => ktr_units); (case kq => assumption); intro r9z nw9z h9z tk9z F9z N9z hr9z; skip; (try dsimp only); (try k_sweep))))) | (with_reducible ((with_reducible show wpAny _ _ (PySem.compareOp PySem.CmpOp.NotEq (PySem.Value.str _ _) (PySem.Value.str _ _)) _ _ _); ((with_reducible first | (refine ne_self ?_) | (refine ne_not ?kn ?_; (case kn => first | assumption | decide +kernel)))))) | ((with_reducible show wpAny _ _ (PySem.eval (PySem.Expr.Call (PySem.Expr.Name _ _) _ _) _) _ _ _); (refine Call_ ?_)) | walk1 | (dsimp only; walk1) | (leave1; (try dsimp only)) | fail "no step")
      exact hret _ _ _ _ (by k_asm) (by k_asm) ⟨hG.trans hG9, hV9⟩

example : True := by (w_top off; exact True.intro)
theorem as_kind_eq (w mean mg mb) (k : Kd) (its : List It) (nm : Option (List (List Nat))) (x la nt : Addr) (av : Value) (vs : List Value) (c : Nat) (t1 : Tok) (hz : its.length ≤ 7) (hls : ∀ ls, nm = some ls → ls.length ≤ 7) : SpecO w mean mg mb 440 44 600 [.ref x, .str (kn k) t1, .ref nt]
    (fun news => VObj w news x (kn k) la av ∧ (la, ({ cls := .type "list", data := .seq vs.toArray c } : Obj)) ∈ news ∧ ItsIn w news its vs ∧ NmIn w news nm av)
    (fun r news nw => Grew news nw ∧ VecIn w nw r k its nm) := by
  unfold SpecO
  k_fill
  intro dp un gd cn cs a ccd cl outer A₀ base h₀ L m news s Q E B F X N T hk hpre hd hu hret
  refine wpAny_call ?_
  k_dflt (refine' code_defC ?k1 ?k2 ?k3 ?k4 ?k5 ?kA ?kF ?kK ?k6 ?k7 ?k8 ?k9 ?kB ?kD ?_ ?c2 ?c3 ?c4; (case kA => exact rfl); (case kF => exact rfl); (case kK => assumption); (case k1 => k_asm); (case k2 => k_asm); (case k3 => k_asm); (case k4 => k_asm); (case k5 => k_asm); (case k6 => k_is); (case k7 => k_is); (case k8 => ktr_room); (case k9 => exact BindsTo.of_eq rfl); (case kB => exact rfl); (case kD => decide +kernel); (case c2 => exact rfl); (case c3 => exact rfl); (case c4 => exact rfl); k_whole; intro g' L' h' tk' cells' FG' F' N' Y' B' X' T' l1; (try k_lt l1); k_cells Y'; (try simp only [List.cons_append, List.nil_append] at N'); (try dsimp only); (try k_lift B'); (try k_fold))
  refine abs_A ?_
  intro A9a
  obtain ⟨⟨dx, u1, u2, u3, u4, u5, uk, un, ush, hx, hdx⟩, hla, hits, hnm⟩ := hpre
  have hz7 := hz
  have hG : ∀ a b c, Grew news ((L' + 1 + 1 + 1, a) :: (L' + 1 + 1, b) :: (L' + 1, c) :: news) := fun a b c => cells3 l1
  repeat' ((fail_if_success (with_reducible show wpAny _ _ (PySem.exec (PySem.Stmt.While _ _ _ _) _) _ _ _)); (fail_if_success (with_reducible show wpAny _ _ (PySem.exec (PySem.Stmt.For _ _ _ _ _) _) _ _ _)); (fail_if_success (with_reducible show wpAny _ _ (PySem.exec (PySem.Stmt.Assign _ (PySem.Expr.ListComp _ _ _ _) _) _) _ _ _)); (fail_if_success (with_reducible show wpAny _ _ (PySem.eval (PySem.Expr.ListComp _ _ _ _) _) _ _ _)); (fail_if_success (with_reducible show LCg.CompSrc _ _ _ _ _ _ _ _ _ _ _ _ _ _)); (fail_if_success (with_reducible show LCt.CompSrcT _ _ _ _ _ _ _ _ _ _ _ _ _ _ _)); (fail_if_success (with_reducible show LCg.CompEnd _ _ _ _ _ _ _ _ _ _ _ _ _ _)); (fail_if_success (with_reducible show KswEnd _ _ _ _ _ _ _ _ _ _ _ _)); (fail_if_success (with_reducible show UnrEnd _ _ _ _ _ _ _)); (fail_if_success (with_reducible show wpAny _ _ (PySem.execs (List.cons (PySem.Stmt.Return _ _) _) _) _ _ _)); first | (k_unfold; (try dsimp only)) | (k_end; wrow_close) | (with_reducible ((with_reducible show wpAny _ _ (PySem.compareOp PySem.CmpOp.NotEq (PySem.Value.str _ _) (PySem.Value.str _ _)) _ _ _); ((with_reducible first | (refine ne_self ?_) | (refine ne_not ?kn ?_; (case kn => first | assumption | decide +kernel)))))) | ((with_reducible show wpAny _ _ (PySem.eval (PySem.Expr.Call (PySem.Expr.Name _ _) _ _) _) _ _ _); (refine Call_ ?_)) | walk1 | (dsimp only; walk1) | (leave1; (try dsimp only)) | fail "no step")
  refine' ask_tail w mean mg mb k k its nm x la _ av vs c hz7 hls _ _ ?g1 ?g2 _ _ _ _ _ _ _ _ _ _ _ _ _ _ _ _ _ _ ?gB ?gF ?gX ?gN ?gT ?e2 ?e1 ?d1 ?d2 ?gV ?gl ?gi ?gm ?gd ?gu ?gR
  case g1 => kernel_rfl
  case g2 => kernel_rfl
  case gB => k_asm
  case gF => k_asm
  case gX => k_asm
  case gN => k_asm
  case gT => k_asm
  case gd => ktr_room
  case gu => ktr_units
  case d1 => assumption
  case d2 => assumption
  case e2 => exact .tail _ (.head _)
  case e1 => exact .tail _ (.tail _ (.head _))
  case gV => exact ⟨_, _, _, _, _, _, _, _, _, .tail _ (.tail _ (.tail _ hx)), .tail _ (.tail _ (.tail _ hdx))⟩
  case gl => exact .tail _ (.tail _ (.tail _ hla))
  case gi => exact hits.mono (fun p hp => .tail _ (.tail _ (.tail _ hp)))
  case gm => exact hnm.mono fun p hp => .tail _ (.tail _ (.tail _ hp))
  case gR =>
    intro rv nw h9 tk9 m9 F9 N9 hG9 hV9
    repeat' ((fail_if_success (with_reducible show wpAny _ _ (PySem.exec (PySem.Stmt.While _ _ _ _) _) _ _ _)); (fail_if_success (with_reducible show wpAny _ _ (PySem.exec (PySem.Stmt.For _ _ _ _ _) _) _ _ _)); (fail_if_success (with_reducible show wpAny _ _ (PySem.exec (PySem.Stmt.Assign _ (PySem.Expr.ListComp _ _ _ _) _) _) _ _ _)); (fail_if_success (with_reducible show wpAny _ _ (PySem.eval (PySem.Expr.ListComp _ _ _ _) _) _ _ _)); (fail_if_success (with_reducible show LCg.CompSrc _ _ _ _ _ _ _ _ _ _ _ _ _ _)); (fail_if_success (with_reducible show LCt.CompSrcT _ _ _ _ _ _ _ _ _ _ _ _ _ _ _)); (fail_if_success (with_reducible show LCg.CompEnd _ _ _ _ _ _ _ _ _ _ _ _ _ _)); (fail_if_success (with_reducible show KswEnd _ _ _ _ _ _ _ _ _ _ _ _)); (fail_if_success (with_reducible show UnrEnd _ _ _ _ _ _ _)); first | (k_unfold; (try dsimp only)) | (k_end; wrow_close) | (with_reducible ((with_reducible show wpAny _ _ (PySem.compareOp PySem.CmpOp.NotEq (PySem.Value.str _ _) (PySem.Value.str _ _)) _ _ _); ((with_reducible first | (refine ne_self ?_) | (refine ne_not ?kn ?_; (case kn => first | assumption | decide +kernel)))))) | ((with_reducible show wpAny _ _ (PySem.eval (PySem.Expr.Call (PySem.Expr.Name _ _) _ _) _) _ _ _); (refine Call_ ?_)) | walk1 | (dsimp only; walk1) | (leave1; (try dsimp only)) | fail "no step")
    exact hret _ _ _ _ (by k_asm) (by k_asm) ⟨(hG _ _ _).trans hG9, hV9⟩

example : True := by (w_top off; exact True.intro)
/-- an item as data -/
def dat : It → PyData
  | .non => .none
  | .int i => .int i
  | .frac n d => .tuple [.int n, .int d]
  | .frz n d => .tuple [.int n, .int d]
  | .txt l => .str (sO l)
  | .box _ _ => .none
def flat : It → Prop
  | .box _ _ => False
  | .txt l => ∀ c ∈ l, c < 1114112
  | _ => True
theorem K80 (P : Params) : ∃ t1 t2 c, (Mine.hd.heap_1 P).lookup 80 = some { cls := .type "tuple", data := .seq #[.int 0 t1, .int 1 t2] c } := ⟨_, _, _, rfl⟩
theorem reads_it {w : World} {h₀ h : Heap} {L : Addr} {news : Led} (N : News h₀ L h news) (X : (Mine.hd.heap_1 w.params).In h) : ∀ {a : It} {v : Value}, flat a → ItIn w news a v → ∃ as, Reads h v (dat a) as
  | .non, v, _, e => by
    have e : v = .none := e
    subst e; exact ⟨_, .none⟩
  | .int i, v, _, ⟨t, e⟩ => by subst e; exact ⟨_, .int i t⟩
  | .txt l, v, _, ⟨t, e⟩ => by subst e; exact ⟨_, .str _ t⟩
  | .frac n d, v, _, ⟨x, t1, t2, c, e, hm⟩ => by
    subst e
    exact ⟨_, .tuple (N.get hm) rfl rfl (.cons (.int n t1) (.cons (.int d t2) .nil))⟩
  | .frz n d, v, _, ⟨x, e, h⟩ => by
    subst e
    rcases h with ⟨t1, t2, c, hm⟩ | ⟨rfl, rfl, rfl⟩
    · exact ⟨_, .tuple (N.get hm) rfl rfl (.cons (.int n t1) (.cons (.int d t2) .nil))⟩
    · obtain ⟨t1, t2, c, e⟩ := K80 w.params
      exact ⟨_, .tuple (X _ _ e) rfl rfl (.cons (.int 0 t1) (.cons (.int 1 t2) .nil))⟩
  | .box _ _, _, f, _ => f.elim
theorem reads_its {w : World} {h₀ h : Heap} {L : Addr} {news : Led} (N : News h₀ L h news) (X : (Mine.hd.heap_1 w.params).In h) {its : List It} {vs : List Value} (hi : ItsIn w news its vs) (hf : ∀ a ∈ its, flat a) : ∃ as, ReadsAll h vs (its.map dat) as := by
  induction hi with
  | nil => exact ⟨_, .nil⟩
  | cons h1 _ ih =>
    obtain ⟨as, h2⟩ := reads_it N X (hf _ (.head _)) h1
    obtain ⟨bs, h3⟩ := ih fun a ha => hf a (.tail _ ha)
    exact ⟨_, .cons h2 h3⟩
theorem eqv_self (a : It) : PyData.eqv (dat a) (dat a) = true := by
  cases a <;> simp [dat, PyData.eqv, PyData.eqvAll]
theorem eqv_all (its : List It) : PyData.eqvAll (its.map dat) (its.map dat) = true := by
  induction its with
  | nil => simp [PyData.eqvAll]
  | cons a r ih => simp only [List.map_cons, PyData.eqvAll, eqv_self, ih, Bool.and_self]
theorem lay_it (a : It) (h : flat a) : PyData.canLay0 (dat a) = true ∧ PyData.depth (dat a) ≤ 1 := by
  cases a with
  | box => exact h.elim
  | txt l =>
    refine ⟨?_, by simp [dat, PyData.depth]⟩
    show PyData.strOk (sO l) = true
    unfold PyData.strOk
    have h : ∀ c ∈ l, c < 1114112 := h
    simpa using h
  | _ => simp [dat, PyData.canLay0, PyData.canLayAll0, PyData.depth, PyData.depthAll]
theorem lay_its : ∀ (its : List It), (∀ a ∈ its, flat a) → PyData.canLayAll0 (its.map dat) = true ∧ PyData.depthAll (its.map dat) ≤ 1
  | [], _ => by simp [PyData.canLayAll0, PyData.depthAll]
  | a :: r, h => by
    obtain ⟨h1, h2⟩ := lay_it a (h a (.head _))
    obtain ⟨h3, h4⟩ := lay_its r fun b hb => h b (.tail _ hb)
    simp only [List.map_cons, PyData.canLayAll0, PyData.depthAll, h1, h3, Bool.and_self, true_and]
    omega
theorem shaped_its (its : List It) (h : ∀ a ∈ its, flat a) : SeqAt.shaped (.list (its.map dat)) = true := by
  obtain ⟨h1, h2⟩ := lay_its its h
  have h3 : PyData.depth (.list (its.map dat)) ≤ 64 := by simp only [PyData.depth]; omega
  unfold SeqAt.shaped
  rw [show PyData.canLay0 (.list (its.map dat)) = true by simp only [PyData.canLay0]; exact h1, decide_eq_true h3]
  rfl
/-- two lists with the same data compare equal -/
theorem ne_its {prog : Program} {w : World} {A : Around} {E : Value → Shared → Prop} {s : Shared} {Q : Value → Shared → Prop} {h₀ : Heap} {L la lb : Addr} {news : Led} {its its2 : List It} {vs vs2 : List Value} {c c2 : Nat} (N : News h₀ L s.heap news) (X : (Mine.hd.heap_1 w.params).In s.heap)
    (ha : (la, ({ cls := .type "list", data := .seq vs.toArray c } : Obj)) ∈ news) (hb : (lb, ({ cls := .type "list", data := .seq vs2.toArray c2 } : Obj)) ∈ news) (hi : ItsIn w news its vs) (hj : ItsIn w news its2 vs2) (hf : ∀ a ∈ its, flat a) (hf2 : ∀ a ∈ its2, flat a) (he : its.map dat = its2.map dat)
    (hu : A.units + 64 < cLine) (h : Q (.bool false) s) : wpAny (model prog w) A (compareOp .NotEq (.ref la) (.ref lb)) Q E s := by
  obtain ⟨as, r1⟩ := reads_its N X hi hf
  obtain ⟨bs, r2⟩ := reads_its N X hj hf2
  refine ne_dataH (.list (N.get ha) rfl rfl r1) (.list (N.get hb) rfl rfl r2) (shaped_its its hf) (shaped_its its2 hf2) hu ?_
  rw [← he]
  simp only [PyData.eqv, eqv_all, Bool.not_true]
  exact h
theorem eq_its {prog : Program} {w : World} {A : Around} {E : Value → Shared → Prop} {s : Shared} {Q : Value → Shared → Prop} {h₀ : Heap} {L la lb : Addr} {news : Led} {its its2 : List It} {vs vs2 : List Value} {c c2 : Nat} (N : News h₀ L s.heap news) (X : (Mine.hd.heap_1 w.params).In s.heap)
    (ha : (la, ({ cls := .type "list", data := .seq vs.toArray c } : Obj)) ∈ news) (hb : (lb, ({ cls := .type "list", data := .seq vs2.toArray c2 } : Obj)) ∈ news) (hi : ItsIn w news its vs) (hj : ItsIn w news its2 vs2) (hf : ∀ a ∈ its, flat a) (hf2 : ∀ a ∈ its2, flat a) (he : its.map dat = its2.map dat)
    (hu : A.units + 64 < cLine) (h : Q (.bool true) s) : wpAny (model prog w) A (compareOp .Eq (.ref la) (.ref lb)) Q E s := by
  obtain ⟨as, r1⟩ := reads_its N X hi hf
  obtain ⟨bs, r2⟩ := reads_its N X hj hf2
  refine eq_dataH (.list (N.get ha) rfl rfl r1) (.list (N.get hb) rfl rfl r2) (shaped_its its hf) (shaped_its its2 hf2) hu ?_
  rw [← he]
  simp only [PyData.eqv, eqv_all]
  exact h

example : True := by (w_top off; exact True.intro)

theorem law_same (w mean mg mb) (k : Kd) (x y la lb : Addr) (av av2 : Value) (vs vs2 : List Value) (c c2 : Nat) (its its2 : List It) (nm : Option (List (List Nat))) (hf : ∀ a ∈ its, flat a) (hf2 : ∀ a ∈ its2, flat a) (he : its.map dat = its2.map dat)
    (hls : ∀ ls, nm = some ls → ∀ a ∈ ls.map It.txt, flat a) :
    SpecV w mean mg mb 475 24 300 [.ref x, .ref y] (fun news => VObj w news x (kn k) la av ∧ VObj w news y (kn k) lb av2 ∧ (la, ({ cls := .type "list", data := .seq vs.toArray c } : Obj)) ∈ news ∧ (lb, ({ cls := .type "list", data := .seq vs2.toArray c2 } : Obj)) ∈ news ∧
      ItsIn w news its vs ∧ ItsIn w news its2 vs2 ∧ NmIn w news nm av ∧ NmIn w news nm av2) (fun r => r = .bool true) := by
  unfold SpecV
  k_fill
  intro dp un gd cn cs a ccd cl outer A₀ base h₀ L m news s Q E B F X N T hk hpre hd hu hret
  refine wpAny_call ?_
  k_dflt cell_enter
  refine abs_A ?_
  intro A9a
  obtain ⟨⟨dx, u1, u2, u3, u4, u5, uk, un, ush, hx, hdx⟩, ⟨dy, y1, y2, y3, y4, y5, yk, yn, ysh, hy, hdy⟩, hla, hlb, hi, hj, hn1, hn2⟩ := hpre
  cases nm with
  | none =>
    have e1 : av = .none := hn1
    have e2 : av2 = .none := hn2
    subst e1 e2
    repeat' ((fail_if_success (with_reducible show wpAny _ _ (PySem.exec (PySem.Stmt.While _ _ _ _) _) _ _ _)); (fail_if_success (with_reducible show wpAny _ _ (PySem.exec (PySem.Stmt.For _ _ _ _ _) _) _ _ _)); (fail_if_success (with_reducible show wpAny _ _ (PySem.exec (PySem.Stmt.Assign _ (PySem.Expr.ListComp _ _ _ _) _) _) _ _ _)); (fail_if_success (with_reducible show wpAny _ _ (PySem.eval (PySem.Expr.ListComp _ _ _ _) _) _ _ _)); (fail_if_success (with_reducible show LCg.CompSrc _ _ _ _ _ _ _ _ _ _ _ _ _ _)); (fail_if_success (with_reducible show LCt.CompSrcT _ _ _ _ _ _ _ _ _ _ _ _ _ _ _)); (fail_if_success (with_reducible show LCg.CompEnd _ _ _ _ _ _ _ _ _ _ _ _ _ _)); (fail_if_success (with_reducible show KswEnd _ _ _ _ _ _ _ _ _ _ _ _)); (fail_if_success (with_reducible show UnrEnd _ _ _ _ _ _ _)); first | (k_unfold; (try dsimp only)) | (k_end; wrow_close) | (with_reducible ((with_reducible show wpAny _ _ (PySem.compareOp PySem.CmpOp.Eq (PySem.Value.ref _) (PySem.Value.ref _)) _ _ _); (k_dflt (refine eq_its (by k_asm) (by k_in) (by assumption) (by assumption) (by assumption) (by assumption) (by assumption) (by assumption) (by first | rfl | assumption) (by first | ke_room | ktr_units) ?_)))) | (with_reducible ((with_reducible show wpAny _ _ (PySem.compareOp PySem.CmpOp.NotEq (PySem.Value.ref _) (PySem.Value.ref _)) _ _ _); (k_dflt (refine ne_its (by k_asm) (by k_in) (by assumption) (by assumption) (by assumption) (by assumption) (by assumption) (by assumption) (by assumption) (by first | ke_room | ktr_units) ?_)))) | (with_reducible ((with_reducible show wpAny _ _ (PySem.compareOp PySem.CmpOp.NotEq (PySem.Value.str _ _) (PySem.Value.str _ _)) _ _ _); ((with_reducible first | (refine ne_self ?_) | (refine ne_not ?kn ?_; (case kn => first | assumption | decide +kernel)))))) | (with_reducible ((with_reducible show wpAny _ _ (eval (Expr.Name _ _) (envOf _ _ _ _ _)) _ _ _); k_dflt (refine' ld ?k1 ?k2 ?_; (case k1 => k_asm); (case k2 => exact rfl); k_whole))) | (with_reducible ((with_reducible show wpAny _ _ (subscriptTail _ _ (Value.ref _) (Value.str _ _)) _ _ _); k_dflt (refine kda_item (knd := PySem.strKind _ _) (by k_asm) (by assumption) (by assumption) (strKind_is _ _ _ _) (by rfl) ?_))) | walk1 | (dsimp only; walk1) | (leave1; (try dsimp only)) | fail "no step")
    exact hret _ _ _ (by k_asm) (by k_asm) rfl
  | some ls =>
    obtain ⟨ad, ob, nv, lc, vs3, c3, rfl, had, hdo, hlo, ⟨dv, v1, v2, v3, v4, v5, vk, vn, vsh, hv, hdv⟩, hlc, hits3⟩ := hn1
    obtain ⟨ad4, ob4, nv4, lc4, vs4, c4, rfl, had4, hdo4, hlo4, ⟨dv4, w1, w2, w3, w4, w5, wk, wn, wsh, hw, hdw⟩, hlc4, hits4⟩ := hn2
    have hfl := hls _ rfl
    repeat' ((fail_if_success (with_reducible show wpAny _ _ (PySem.exec (PySem.Stmt.While _ _ _ _) _) _ _ _)); (fail_if_success (with_reducible show wpAny _ _ (PySem.exec (PySem.Stmt.For _ _ _ _ _) _) _ _ _)); (fail_if_success (with_reducible show wpAny _ _ (PySem.exec (PySem.Stmt.Assign _ (PySem.Expr.ListComp _ _ _ _) _) _) _ _ _)); (fail_if_success (with_reducible show wpAny _ _ (PySem.eval (PySem.Expr.ListComp _ _ _ _) _) _ _ _)); (fail_if_success (with_reducible show LCg.CompSrc _ _ _ _ _ _ _ _ _ _ _ _ _ _)); (fail_if_success (with_reducible show LCt.CompSrcT _ _ _ _ _ _ _ _ _ _ _ _ _ _ _)); (fail_if_success (with_reducible show LCg.CompEnd _ _ _ _ _ _ _ _ _ _ _ _ _ _)); (fail_if_success (with_reducible show KswEnd _ _ _ _ _ _ _ _ _ _ _ _)); (fail_if_success (with_reducible show UnrEnd _ _ _ _ _ _ _)); first | (k_unfold; (try dsimp only)) | (k_end; wrow_close) | (with_reducible ((with_reducible show wpAny _ _ (PySem.compareOp PySem.CmpOp.Eq (PySem.Value.ref _) (PySem.Value.ref _)) _ _ _); (k_dflt (refine eq_its (by k_asm) (by k_in) (by assumption) (by assumption) (by assumption) (by assumption) (by assumption) (by assumption) (by first | rfl | assumption) (by first | ke_room | ktr_units) ?_)))) | (with_reducible ((with_reducible show wpAny _ _ (PySem.compareOp PySem.CmpOp.NotEq (PySem.Value.ref _) (PySem.Value.ref _)) _ _ _); (k_dflt (refine ne_its (by k_asm) (by k_in) (by assumption) (by assumption) (by assumption) (by assumption) (by assumption) (by assumption) (by assumption) (by first | ke_room | ktr_units) ?_)))) | (with_reducible ((with_reducible show wpAny _ _ (PySem.compareOp PySem.CmpOp.NotEq (PySem.Value.str _ _) (PySem.Value.str _ _)) _ _ _); ((with_reducible first | (refine ne_self ?_) | (refine ne_not ?kn ?_; (case kn => first | assumption | decide +kernel)))))) | (with_reducible ((with_reducible show wpAny _ _ (eval (Expr.Name _ _) (envOf _ _ _ _ _)) _ _ _); k_dflt (refine' ld ?k1 ?k2 ?_; (case k1 => k_asm); (case k2 => exact rfl); k_whole))) | (with_reducible ((with_reducible show wpAny _ _ (subscriptTail _ _ (Value.ref _) (Value.str _ _)) _ _ _); k_dflt (refine kda_item (knd := PySem.strKind _ _) (by k_asm) (by assumption) (by assumption) (strKind_is _ _ _ _) (by rfl) ?_))) | walk1 | (dsimp only; walk1) | (leave1; (try dsimp only)) | fail "no step")
    exact hret _ _ _ (by k_asm) (by k_asm) rfl

example : True := by (w_top off; exact True.intro)
def plOf (d : Int) : Nat := if d = 1 then 0 else if d = 2 then 1 else 2
def MOf (n d : Int) : Nat := n.natAbs * 10 ^ plOf d / d.toNat
theorem Num.is {n d : Int} {pl M : Nat} (h : Num n d pl M) : pl = plOf d ∧ M = MOf n d := by
  have hM := h.hM
  rcases h.hd with ⟨rfl, rfl⟩ | ⟨rfl, rfl⟩ | ⟨rfl, rfl⟩
  · refine ⟨rfl, ?_⟩
    show M = n.natAbs * 10 ^ 0 / 1
    simp at hM ⊢; omega
  · refine ⟨rfl, ?_⟩
    show M = n.natAbs * 10 ^ 1 / 2
    simp at hM ⊢; omega
  · refine ⟨rfl, ?_⟩
    show M = n.natAbs * 10 ^ 2 / 4
    simp at hM ⊢; omega
/-- how a base item of kind B looks in kind k -/
def rep (B k : Kd) : It → It
  | .int i => match k with
    | .D => .frac i 1
    | .C => .txt (match B with | .L => if i = 1 then tT else tF | _ => txt i 0 i.natAbs)
    | _ => .int i
  | .frac n d => match k with
    | .C => .txt (txt n (plOf d) (MOf n d))
    | _ => .frac n d
  | a => a
/-- what it is when it has come down again -/
def dn (k : Kd) : It → It
  | .frac n d => match k with
    | .C => .frz n d
    | _ => .frac n d
  | a => a
def ix : Kd → Nat
  | .L => 0
  | .I => 1
  | .D => 2
  | .C => 3
  | .Z => 4
theorem num_int {i : Int} (h : i.natAbs < 10 ^ 5) : Num i 1 0 i.natAbs := ⟨.inl ⟨rfl, rfl⟩, by simp, fun h => absurd h (Nat.lt_irrefl 0), h, by omega, fun _ => rfl⟩
theorem txt_one (i : Int) : txt i (plOf 1) (MOf i 1) = txt i 0 i.natAbs := by
  show txt i 0 (i.natAbs * 10 ^ 0 / 1) = _
  simp
theorem conv1_mid {B m k : Kd} {a : It} (hb : Base B a) (h1 : ix B ≤ ix m) (h2 : ix m < ix k) (h3 : ix k ≤ 3) (hs : ¬(B = .L ∧ k = .C ∧ (m = .I ∨ m = .D))) : Conv1 m k (rep B m a) (rep B k a) := by
  cases a with
  | non => exact .non (by rintro rfl; simp [ix] at *; omega) (by rintro rfl; simp [ix] at *) (by rintro rfl; omega)
  | int i =>
    rcases hb with ⟨rfl, hi⟩ | ⟨rfl, hi⟩
    · cases k <;> cases m <;> first | exact absurd h2 (by decide) | exact absurd h3 (by decide) | (exact absurd ⟨rfl, rfl, by decide⟩ hs) | exact .LI i | exact .XD (.inl rfl) | exact .XD (.inr rfl) | exact .LC i
    · cases k <;> cases m <;> first | exact absurd h2 (by decide) | exact absurd h3 (by decide) | exact absurd h1 (by decide) | exact .XD (.inr rfl) | exact .IC (by omega) | exact .DC (num_int hi)
  | frac n d =>
    obtain ⟨rfl, pl, M, hn⟩ := hb
    obtain ⟨rfl, rfl⟩ := hn.is
    cases k <;> cases m <;> first | exact absurd h2 (by decide) | exact absurd h3 (by decide) | exact absurd h1 (by decide) | exact .DC hn
  | frz => exact hb.elim
  | txt => exact hb.elim
  | box => exact hb.elim
theorem conv1_down {B k : Kd} {a : It} (hb : Base B a) (h2 : ix B < ix k) (h3 : ix k ≤ 3) : Conv1 k B (rep B k a) (dn k a) := by
  cases a with
  | non => exact .non (by rintro rfl; simp [ix] at *) (by rintro rfl; simp [ix] at *; omega) (by rintro rfl; omega)
  | int i =>
    rcases hb with ⟨rfl, hi⟩ | ⟨rfl, hi⟩
    · cases k
      · exact absurd h2 (by decide)
      · exact .IL hi
      · exact .DL hi
      · rcases hi with rfl | rfl
        · exact .CL0
        · exact .CL1
      · exact absurd h3 (by decide)
    · cases k
      · exact absurd h2 (by decide)
      · exact absurd h2 (by decide)
      · exact .DI (by omega)
      · exact .CI (num_int hi)
      · exact absurd h3 (by decide)
  | frac n d =>
    obtain ⟨rfl, pl, M, hn⟩ := hb
    obtain ⟨rfl, rfl⟩ := hn.is
    cases k <;> first | exact absurd h2 (by decide) | exact absurd h3 (by decide) | exact .CD hn
  | frz => exact hb.elim
  | txt => exact hb.elim
  | box => exact hb.elim
theorem rep_base {B : Kd} {a : It} (hb : Base B a) (h : ix B ≤ 2) : rep B B a = a ∧ dn B a = a := by
  cases a with
  | non => exact ⟨rfl, rfl⟩
  | int i => rcases hb with ⟨rfl, _⟩ | ⟨rfl, _⟩ <;> exact ⟨rfl, rfl⟩
  | frac n d => obtain ⟨rfl, _⟩ := hb; exact ⟨rfl, rfl⟩
  | frz => exact hb.elim
  | txt => exact hb.elim
  | box => exact hb.elim
theorem txt_small (n : Int) (pl M : Nat) : ∀ c ∈ txt n pl M, c < 1114112 := by
  intro c hc
  rw [txt_utxt] at hc
  rcases List.mem_append.mp hc with h | h
  · split at h
    · rw [List.mem_singleton.mp h]; decide
    · cases h
  · have := utxt_sign c h
    omega
theorem tT_small : ∀ c ∈ tT, c < 1114112 := by decide
theorem tF_small : ∀ c ∈ tF, c < 1114112 := by decide
theorem flat_rep {B k : Kd} {a : It} (hb : Base B a) : flat (rep B k a) := by
  cases a with
  | non => exact trivial
  | int i =>
    cases k
    case C =>
      rcases hb with ⟨rfl, _⟩ | ⟨rfl, _⟩
      · show ∀ c ∈ (if i = 1 then tT else tF), c < 1114112
        split
        · exact tT_small
        · exact tF_small
      · exact txt_small _ _ _
    all_goals exact trivial
  | frac n d =>
    cases k
    case C => exact txt_small _ _ _
    all_goals exact trivial
  | frz => exact hb.elim
  | txt => exact hb.elim
  | box => exact hb.elim
theorem flat_dn {B k : Kd} {a : It} (hb : Base B a) : flat (dn k a) ∧ dat (dn k a) = dat a := by
  cases a with
  | non => exact ⟨trivial, rfl⟩
  | int i => exact ⟨trivial, rfl⟩
  | frac n d => cases k <;> exact ⟨trivial, rfl⟩
  | frz => exact hb.elim
  | txt => exact hb.elim
  | box => exact hb.elim
/-- a step of as_kind over the base items -/
def CvAll (k to : Kd) (its : List It) (f g : It → It) : Prop := (k = to ∧ ∀ a ∈ its, f a = g a) ∨ (k ≠ to ∧ ∀ a ∈ its, Conv k to (f a) (g a))
theorem cv_mid {B m k : Kd} {its : List It} (hb : ∀ a ∈ its, Base B a) (h1 : ix B ≤ ix m) (h2 : ix m ≤ ix k) (h3 : ix k ≤ 3) (hs : ¬(B = .L ∧ k = .C ∧ (m = .I ∨ m = .D))) : CvAll m k its (rep B m) (rep B k) := by
  by_cases e : m = k
  · subst e; exact .inl ⟨rfl, fun _ _ => rfl⟩
  · have : ix m ≠ ix k := fun q => e (by cases m <;> cases k <;> first | rfl | exact absurd q (by decide))
    exact .inr ⟨e, fun a ha => .one (conv1_mid (hb a ha) h1 (by omega) h3 hs)⟩
theorem cv_down {B k : Kd} {its : List It} (hb : ∀ a ∈ its, Base B a) (h1 : ix B ≤ ix k) (h3 : ix k ≤ 3) (hB : ix B ≤ 2) : CvAll k B its (rep B k) (dn k) := by
  by_cases e : k = B
  · subst e; exact .inl ⟨rfl, fun a ha => by rw [(rep_base (hb a ha) hB).1, (rep_base (hb a ha) hB).2]⟩
  · have : ix k ≠ ix B := fun q => e (by cases k <;> cases B <;> first | rfl | exact absurd q (by decide))
    exact .inr ⟨e, fun a ha => .one (conv1_down (hb a ha) (by omega) h3)⟩
theorem cv_box {B : Kd} {its : List It} (hB : ix B ≤ 2) : CvAll B .Z its (rep B B) (fun a => .box B (rep B B a)) :=
  have h : B ≠ .Z := by rintro rfl; exact absurd hB (by decide)
  .inr ⟨h, fun _ _ => .box h⟩
theorem cv_unbox {B k : Kd} {its : List It} (hb : ∀ a ∈ its, Base B a) (h1 : ix B ≤ ix k) (h3 : ix k ≤ 3) (hB : ix B ≤ 2) : CvAll .Z k its (fun a => .box B (rep B B a)) (rep B k) := by
  have h : B ≠ .Z := by rintro rfl; exact absurd hB (by decide)
  have h' : k ≠ .Z := by rintro rfl; exact absurd h3 (by decide)
  refine .inr ⟨h'.symm, fun a ha => .un h h' ?_⟩
  by_cases e : B = k
  · subst e; exact .inr ⟨rfl, rfl⟩
  · have : ix B ≠ ix k := fun q => e (by cases k <;> cases B <;> first | rfl | exact absurd q (by decide))
    refine .inl (conv1_mid (hb a ha) (Nat.le_refl _) (by omega) h3 ?_)
    rintro ⟨rfl, rfl, h | h⟩ <;> cases h
theorem get_map {f : It → It} {its : List It} {i : Nat} {b : It} (h : (its.map f)[i]? = some b) : ∃ a, a ∈ its ∧ its[i]? = some a ∧ b = f a := by
  rw [List.getElem?_map] at h
  cases e : its[i]? with
  | none => rw [e] at h; cases h
  | some a => rw [e] at h; cases h; exact ⟨a, List.mem_of_getElem? e, rfl, rfl⟩
theorem as_kind_all (w mean mg mb) (k to : Kd) (its : List It) (f g : It → It) (nm : Option (List (List Nat))) (r : Value) (nt : Addr) (t1 : Tok) (hz : its.length ≤ 7) (hls : ∀ ls, nm = some ls → ls.length ≤ 7) (hf : CvAll k to its f g) : SpecO w mean mg mb 440 44 600 [r, .str (kn to) t1, .ref nt]
    (fun news => VecIn w news r k (its.map f) nm) (fun r news nw => Grew news nw ∧ VecIn w nw r to (its.map g) nm) := by
  refine SpecO.choose fun news ⟨x, la, vs, c, av, e, h1, h2, h3, h4⟩ => ?_
  subst e
  rcases hf with ⟨rfl, hf⟩ | ⟨hne, hf⟩
  · refine ⟨(fun news => VObj w news x (kn k) la av ∧ (la, ({ cls := .type "list", data := .seq vs.toArray c } : Obj)) ∈ news ∧ ItsIn w news (its.map f) vs ∧ NmIn w news nm av), ⟨h1, h2, h3, h4⟩, ?_⟩
    rw [← List.map_congr_left hf]
    exact as_kind_eq w mean mg mb k (its.map f) nm x la nt av vs c t1 (by rw [List.length_map]; exact hz) hls
  · refine ⟨(fun news => VObj w news x (kn k) la av ∧ (la, ({ cls := .type "list", data := .seq vs.toArray c } : Obj)) ∈ news ∧ ItsIn w news (its.map f) vs ∧ NmIn w news nm av), ⟨h1, h2, h3, h4⟩, ?_⟩
    refine as_kind_ne w mean mg mb k to (its.map f) (its.map g) nm x la nt av vs c t1 (by rw [List.length_map]; exact hz) hls hne (by rw [List.length_map, List.length_map]) fun i a b ha hb => ?_
    obtain ⟨a0, hm, e1, rfl⟩ := get_map ha
    obtain ⟨b0, _, e2, rfl⟩ := get_map hb
    rw [e1] at e2
    cases e2
    exact hf a0 hm
theorem law_same_v (w mean mg mb) (k : Kd) (its : List It) (f g : It → It) (nm : Option (List (List Nat))) (r1 r2 : Value) (hf : ∀ a ∈ its, flat (f a)) (hg : ∀ a ∈ its, flat (g a)) (he : ∀ a ∈ its, dat (f a) = dat (g a)) (hls : ∀ ls, nm = some ls → ∀ a ∈ ls.map It.txt, flat a) :
    SpecV w mean mg mb 475 24 300 [r1, r2] (fun news => VecIn w news r1 k (its.map f) nm ∧ VecIn w news r2 k (its.map g) nm) (fun r => r = .bool true) := by
  refine SpecV.choose fun news hnews => ?_
  obtain ⟨v1, v2⟩ := hnews
  obtain ⟨x, la, vs, c, av, e, h1, h2, h3, h4⟩ := v1
  obtain ⟨x2, la2, vs2, c2, av2, e2, g1, g2, g3, g4⟩ := v2
  subst e e2
  have hm : ∀ (q : It → It), (∀ a ∈ its, flat (q a)) → ∀ a ∈ its.map q, flat a := fun q hq a ha => by
    obtain ⟨b, hb, rfl⟩ := List.mem_map.mp ha
    exact hq b hb
  refine ⟨(fun news => VObj w news x (kn k) la av ∧ VObj w news x2 (kn k) la2 av2 ∧ (la, ({ cls := .type "list", data := .seq vs.toArray c } : Obj)) ∈ news ∧ (la2, ({ cls := .type "list", data := .seq vs2.toArray c2 } : Obj)) ∈ news ∧ ItsIn w news (its.map f) vs ∧ ItsIn w news (its.map g) vs2 ∧ NmIn w news nm av ∧ NmIn w news nm av2), ⟨h1, g1, h2, g2, h3, g3, h4, g4⟩, law_same w mean mg mb k x x2 la la2 av av2 vs vs2 c c2 _ _ nm (hm f hf) (hm g hg) ?_ hls⟩
  rw [List.map_map, List.map_map]
  exact List.map_congr_left he

example : True := by (w_top off; exact True.intro)
theorem as_list_v (w mean mg mb) (k : Kd) (its : List It) (f g : It → It) (nm : Option (List (List Nat))) (r : Value) (hz : its.length ≤ 7) (hls : ∀ ls, nm = some ls → ls.length ≤ 7) (hf : CvAll k .Z its f g) : SpecO w mean mg mb 447 45 640 [r]
    (fun news => VecIn w news r k (its.map f) nm) (fun r news nw => Grew news nw ∧ VecIn w nw r .Z (its.map g) nm) := by
  unfold SpecO
  k_fill
  intro dp un gd cn cs a ccd cl outer A₀ base h₀ L m news s Q E B F X N T hk hpre hd hu hret
  refine wpAny_call ?_
  k_dflt cell_enter
  refine abs_A ?_
  intro A9a
  repeat' ((fail_if_success (with_reducible show wpAny _ _ (PySem.exec (PySem.Stmt.While _ _ _ _) _) _ _ _)); (fail_if_success (with_reducible show wpAny _ _ (PySem.exec (PySem.Stmt.For _ _ _ _ _) _) _ _ _)); (fail_if_success (with_reducible show wpAny _ _ (PySem.exec (PySem.Stmt.Assign _ (PySem.Expr.ListComp _ _ _ _) _) _) _ _ _)); (fail_if_success (with_reducible show wpAny _ _ (PySem.eval (PySem.Expr.ListComp _ _ _ _) _) _ _ _)); (fail_if_success (with_reducible show LCg.CompSrc _ _ _ _ _ _ _ _ _ _ _ _ _ _)); (fail_if_success (with_reducible show LCt.CompSrcT _ _ _ _ _ _ _ _ _ _ _ _ _ _ _)); (fail_if_success (with_reducible show LCg.CompEnd _ _ _ _ _ _ _ _ _ _ _ _ _ _)); (fail_if_success (with_reducible show KswEnd _ _ _ _ _ _ _ _ _ _ _ _)); (fail_if_success (with_reducible show UnrEnd _ _ _ _ _ _ _)); (fail_if_success (with_reducible show wpAny _ _ (PySem.call (Value.ref 440) _) _ _ _)); (fail_if_success (with_reducible show wpAny _ _ (PySem.call (Value.ref 447) _) _ _ _)); (fail_if_success (with_reducible show wpAny _ _ (PySem.call (Value.ref 475) _) _ _ _)); (fail_if_success (with_reducible show wpAny _ _ (PySem.call (Value.ref 461) _) _ _ _)); (fail_if_success (with_reducible show wpAny _ _ (PySem.call (Value.ref 468) _) _ _ _)); (fail_if_success (with_reducible show wpAny _ _ (PySem.call (Value.ref 454) _) _ _ _)); (fail_if_success (with_reducible show wpAny _ _ (PySem.call (Value.ref 339) _) _ _ _)); first | (k_unfold; (try dsimp only)) | (k_end; wrow_close) | ((with_reducible show wpAny _ _ (PySem.eval (PySem.Expr.Call (PySem.Expr.Name _ _) _ _) _) _ _ _); (refine Call_ ?_)) | (with_reducible ((with_reducible show wpAny _ _ (eval (Expr.Name _ _) (envOf _ _ _ _ _)) _ _ _); k_dflt (refine' ld ?k1 ?k2 ?_; (case k1 => k_asm); (case k2 => exact rfl); k_whole))) | walk1 | (dsimp only; walk1) | (leave1; (try dsimp only)) | fail "no step")
  refine useO (as_kind_all w mean mg mb k .Z its f g nm r _ _ hz hls hf) (by k_asm) (by k_asm) (by k_asm) (by k_asm) (by k_asm) rfl (hpre.mono sub_tail) (by ktr_room) (by ktr_units) ?_
  rintro r9 nw9 h9 tk9 F9 N9 ⟨g9, v9⟩
  (try dsimp only); (try k_sweep)
  repeat' ((fail_if_success (with_reducible show wpAny _ _ (PySem.exec (PySem.Stmt.While _ _ _ _) _) _ _ _)); (fail_if_success (with_reducible show wpAny _ _ (PySem.exec (PySem.Stmt.For _ _ _ _ _) _) _ _ _)); (fail_if_success (with_reducible show wpAny _ _ (PySem.exec (PySem.Stmt.Assign _ (PySem.Expr.ListComp _ _ _ _) _) _) _ _ _)); (fail_if_success (with_reducible show wpAny _ _ (PySem.eval (PySem.Expr.ListComp _ _ _ _) _) _ _ _)); (fail_if_success (with_reducible show LCg.CompSrc _ _ _ _ _ _ _ _ _ _ _ _ _ _)); (fail_if_success (with_reducible show LCt.CompSrcT _ _ _ _ _ _ _ _ _ _ _ _ _ _ _)); (fail_if_success (with_reducible show LCg.CompEnd _ _ _ _ _ _ _ _ _ _ _ _ _ _)); (fail_if_success (with_reducible show KswEnd _ _ _ _ _ _ _ _ _ _ _ _)); (fail_if_success (with_reducible show UnrEnd _ _ _ _ _ _ _)); (fail_if_success (with_reducible show wpAny _ _ (PySem.call (Value.ref 440) _) _ _ _)); (fail_if_success (with_reducible show wpAny _ _ (PySem.call (Value.ref 447) _) _ _ _)); (fail_if_success (with_reducible show wpAny _ _ (PySem.call (Value.ref 475) _) _ _ _)); (fail_if_success (with_reducible show wpAny _ _ (PySem.call (Value.ref 461) _) _ _ _)); (fail_if_success (with_reducible show wpAny _ _ (PySem.call (Value.ref 468) _) _ _ _)); (fail_if_success (with_reducible show wpAny _ _ (PySem.call (Value.ref 454) _) _ _ _)); (fail_if_success (with_reducible show wpAny _ _ (PySem.call (Value.ref 339) _) _ _ _)); first | (k_unfold; (try dsimp only)) | (k_end; wrow_close) | ((with_reducible show wpAny _ _ (PySem.eval (PySem.Expr.Call (PySem.Expr.Name _ _) _ _) _) _ _ _); (refine Call_ ?_)) | (with_reducible ((with_reducible show wpAny _ _ (eval (Expr.Name _ _) (envOf _ _ _ _ _)) _ _ _); k_dflt (refine' ld ?k1 ?k2 ?_; (case k1 => k_asm); (case k2 => exact rfl); k_whole))) | walk1 | (dsimp only; walk1) | (leave1; (try dsimp only)) | fail "no step")
  exact hret _ _ _ _ (by k_asm) (by k_asm) ⟨Grew.trans (Grew.one (by assumption)) g9, v9⟩

example : True := by (w_top off; exact True.intro)
theorem law_part_U (w mean mg mb) (row : Addr) (ns : List Int) (vs : List Value) (c : Nat) (m : Int) (t : Tok) (news₀ : Led) (g : Obj → Led) (U : UpdF row (listOf vs.toArray c) news₀ g) (hi : IntsAre vs ns) (hr : RowOk ns) (hm0 : 0 < m) (hm1 : m ≤ 1000) :
    SpecO w mean mg mb 461 20 200 [.ref row, .int m t] (fun news => news = news₀)
    (fun r _ nw => ∃ k t vs' ns' c', r = .int k t ∧ 0 ≤ k ∧ k < m ∧ IntsAre vs' ns' ∧ RowOk ns' ∧ nw = g (listOf vs'.toArray c')) := by
  obtain ⟨pre, post, e1, e2, h1, h2⟩ := U.split
  refine SpecO.choose fun news hn => ?_
  subst hn
  have hm : (row, listOf vs.toArray c) ∈ news := by rw [e1]; exact List.mem_append.mpr (.inr (.head _))
  refine ⟨fun nws => nws = news, rfl, ?_⟩
  intro dp un gd cn cs a ccd cl outer A₀ base h₀ L mm nws s Q E B F X N T hk hpre hd hu hret
  subst hpre
  refine law_part_spec w mean mg mb row ns vs c m t hi hr hm0 hm1 dp un gd cn cs a ccd cl outer A₀ base h₀ L mm nws s Q E B F X N T hk hm hd hu fun r nw h' tk' F' N' ⟨k, t, vs', ns', c', q1, q2, q3, q4, q5, q6⟩ => ?_
  refine hret r nw h' tk' F' N' ⟨k, t, vs', ns', c', q1, q2, q3, q4, q5, ?_⟩
  rw [q6, e2, e1]
  have hid : ∀ l : Led, (∀ p ∈ l, p.1 ≠ row) → setRow row (listOf vs'.toArray c') l = l := fun l hl => by
    show l.map _ = l
    conv => rhs; rw [← List.map_id l]
    exact List.map_congr_left fun p hp => by rw [if_neg (hl p hp)]; rfl
  show (pre ++ _ :: post).map _ = _
  rw [List.map_append, List.map_cons]
  have e3 := hid pre h1
  have e4 := hid post h2
  show setRow row _ pre ++ _ :: setRow row _ post = _
  rw [e3, e4]
  simp
theorem kind3 {k : Int} (h0 : 0 ≤ k) (h1 : k < 3) : ∃ B : Kd, (B = .L ∨ B = .I ∨ B = .D) ∧ [Str.ofString "logical", Str.ofString "integer", Str.ofString "double"].getD k.toNat Str.empty = kn B := by
  have : k = 0 ∨ k = 1 ∨ k = 2 := by omega
  rcases this with rfl | rfl | rfl
  · exact ⟨.L, .inl rfl, rfl⟩
  · exact ⟨.I, .inr (.inl rfl), rfl⟩
  · exact ⟨.D, .inr (.inr rfl), rfl⟩
section
variable {prog : Program} {w : World} {A : Around} {E : Value → Shared → Prop} {s : Shared} {h₀ : Heap} {L D : Addr} {news : Led} {n : Nat}
theorem item_kind {Q : Value → Shared → Prop} {value slice : PySem.Expr} {k : Int} {u t0 t1 t2 : Tok} (N : News h₀ L s.heap news) (hm : (D, listOf [Value.str (Str.ofString "logical") t0, .str (Str.ofString "integer") t1, .str (Str.ofString "double") t2].toArray n) ∈ news) (h0 : 0 ≤ k) (h1 : k < 3)
    (h : ∀ B t, B = Kd.L ∨ B = .I ∨ B = .D → Q (.str (kn B) t) s)
    (hs2 : subscripted slice false (.ref D) (.int k u) = operate [.ref D, .int k u] (getItem (.ref D) (.int k u)) := by with_unfolding_all rfl) : wpAny (model prog w) A (subscriptTail value slice (.ref D) (.int k u)) Q E s := by
  obtain ⟨B, hB, e⟩ := kind3 h0 h1
  refine KTb.item_list ⟨_, (N _ hm).1, rfl, _, rfl⟩ (.cons _ _ (.cons _ _ (.cons _ _ .nil))) h0 h1 (by omega) (fun t _ => ?_) hs2
  rw [e]
  exact h B t hB
end
section
variable {prog : Program} {w : World} {A : Around} {h₀ : Heap} {L : Addr} {m : Str → Option Value} {env : Env} {elt : Expr} {x : Str} {scope : Scope} {cl : List (Str × Addr)} {s : Shared} {Fin : List Value → Led → Prop}
def EntQ (w : World) (h₀ : Heap) (L : Addr) (m : Str → Option Value) (s : Shared) (row : Addr) (k : Kd) (led : Led) (y : Value) (s' : Shared) : Prop :=
  ∃ h' tk' nw, s' = { s with heap := h', toks := tk' } ∧ Fr h₀ L h' m ∧ News h₀ L h' nw ∧ EntPost w row k y led nw
theorem comp_ents {k : Kd} {row : Addr} {K : Led} {n : Nat} {vs : List Value} {ns : List Int} {c : Nat} (hK : ∀ p ∈ K, p.1 ≠ row) (hi : IntsAre vs ns) (hr : RowOk ns)
    (turn : ∀ (ys : List Value) (R : Led) vs' ns' c' I oI C oC D m₂ h tk (E' : Value → Shared → Prop), (∀ p ∈ K, p ∈ R) → IntsAre vs' ns' → RowOk ns' → LCg.NsObj oC m₂ → Fr h₀ L h m → News h₀ L h ((I, oI) :: (C, oC) :: (D, LCg.lst ys) :: (row, listOf vs'.toArray c') :: R) →
      wpAny (model prog w) A (eval elt (compEnvC scope cl C env)) (EntQ w h₀ L m s row k ((I, oI) :: (C, oC) :: (D, LCg.lst ys) :: (row, listOf vs'.toArray c') :: R)) E' { s with heap := h, toks := tk })
    (fin : ∀ ys (its : List It) R vs' ns' c', its.length = n → (∀ a ∈ its, Base k a) → ItsIn w R its ys → IntsAre vs' ns' → RowOk ns' → (∀ p ∈ R, p.1 ≠ row) → (∀ p ∈ K, p ∈ R) → Fin ys ((row, listOf vs'.toArray c') :: R)) :
    LCg.CompRest prog w A h₀ L m env elt x scope cl s (fun _ => True) (fun i v => ∃ t, v = .int ((0 : Int) + (i : Int)) t) Fin n 0 [] ((row, listOf vs.toArray c) :: K) := by
  have key : ∀ (j i : Nat) (ys : List Value) (its : List It) (own : Led) vs' ns' c', i + j = n → its.length = i → (∀ a ∈ its, Base k a) → ItsIn w own its ys → IntsAre vs' ns' → RowOk ns' → (∀ p ∈ own ++ K, p.1 ≠ row) → (∀ p ∈ own, ∀ q ∈ K, q.1 ≠ p.1) →
      LCg.CompRest prog w A h₀ L m env elt x scope cl s (fun _ => True) (fun i v => ∃ t, v = .int ((0 : Int) + (i : Int)) t) Fin j i ys ((row, listOf vs'.toArray c') :: (own ++ K)) := by
    intro j
    induction j with
    | zero =>
      intro i ys its own vs' ns' c' hij hl hb hits hi' hr' hrow hK2
      exact LCg.CompRest.zero (fin ys its (own ++ K) vs' ns' c' (by omega) hb (hits.mono fun p hp => List.mem_append.mpr (.inl hp)) hi' hr' hrow fun p hp => List.mem_append.mpr (.inr hp))
    | succ j ih =>
      intro i ys its own vs' ns' c' hij hl hb hits hi' hr' hrow hK2
      refine LCg.CompRest.succ ?_
      intro v I oI C oC D m₂ h tk E' hv hC hx F N off ne
      have hoff := off.mem
      refine wpAny_mono (turn ys (own ++ K) vs' ns' c' I oI C oC D m₂ h tk E' (fun p hp => List.mem_append.mpr (.inr hp)) hi' hr' hC F N) (fun y s₂ hq => ?_) fun _ _ e => e
      obtain ⟨h', tk', nw, rfl, F', N', it, add, hbi, hst, hadd, hfr, hin⟩ := hq
      obtain ⟨vs2, ns2, c2, hm2, hi2, hr2⟩ := hst.2
      have hrI := hoff (row, listOf vs'.toArray c') (.head _)
      have hown : ∀ p ∈ own ++ K, p ∈ nw := fun p hp => hst.1 p (.tail _ (.tail _ (.tail _ (.tail _ hp)))) (hrow p hp)
      have hfr' : ∀ p ∈ add, p.1 ≠ row := fun p hp => Ne.symm (hfr p hp _ (.tail _ (.tail _ (.tail _ (.head _)))))
      refine ⟨h', tk', (row, listOf vs2.toArray c2) :: ((add ++ own) ++ K), rfl, F', fun p hp => N' p ?_, LCg.Off3.of fun p hp => ?_, trivial, ?_⟩
      · rcases List.mem_cons.mp hp with rfl | hp
        · exact hst.1 _ (.head _) (Ne.symm hrI.1)
        rcases List.mem_cons.mp hp with rfl | hp
        · exact hst.1 _ (.tail _ (.head _)) (Ne.symm hrI.2.1)
        rcases List.mem_cons.mp hp with rfl | hp
        · exact hst.1 _ (.tail _ (.tail _ (.head _))) (Ne.symm hrI.2.2)
        rcases List.mem_cons.mp hp with rfl | hp
        · exact hm2
        rw [List.append_assoc] at hp
        rcases List.mem_append.mp hp with hp | hp
        · exact hadd p hp
        · exact hown p hp
      · rcases List.mem_cons.mp hp with rfl | hp
        · exact hrI
        rw [List.append_assoc] at hp
        rcases List.mem_append.mp hp with hp | hp
        · exact ⟨Ne.symm (hfr p hp _ (.head _)), Ne.symm (hfr p hp _ (.tail _ (.head _))), Ne.symm (hfr p hp _ (.tail _ (.tail _ (.head _))))⟩
        · exact hoff p (.tail _ hp)
      · refine ih (i + 1) (ys ++ [y]) (its ++ [it]) (add ++ own) vs2 ns2 c2 (by omega) (by rw [List.length_append, hl]; rfl) (fun a ha => ?_) ?_ hi2 hr2 (fun p hp => ?_) (fun p hp q hq => ?_)
        · rcases List.mem_append.mp ha with ha | ha
          · exact hb a ha
          · rw [List.mem_singleton.mp ha]; exact hbi
        · exact (hits.mono fun p hp => List.mem_append.mpr (.inr hp)).snoc (hin.mono fun p hp => List.mem_append.mpr (.inl hp))
        · rw [List.append_assoc] at hp
          rcases List.mem_append.mp hp with hp | hp
          · exact hfr' p hp
          · exact hrow p hp
        · rcases List.mem_append.mp hp with hp | hp
          · exact hfr p hp q (.tail _ (.tail _ (.tail _ (.tail _ (List.mem_append.mpr (.inr hq))))))
          · exact hK2 p hp q hq
  exact key n 0 [] [] [] vs ns c (by omega) rfl (fun _ h => nomatch h) .nil hi hr hK (fun _ h => nomatch h)
end

example : True := by (w_top off; exact True.intro)
def lawSt : Stmt := PySem.Challenge.rw_ov0074_01.row.prog.main.body.getLast?.getD (.Pass ⟨0, 0, 0, 0⟩)
def lawBody : List Stmt := stBody lawSt
def lawScope : Scope := stScope lawSt
/-- from a place of the law's body on: the law answers True -/
def LawFrom (w : World) (mean : ExcName → Option Value) (mg mb : Str → Option Value) (k : Nat) (Pre : Addr → (Str → Option Value) → Led → Prop) : Prop :=
  ∀ (sts : List Stmt) (cs : Scope), lawBody.drop k = sts → lawScope = cs →
  ∀ (dp un : Nat) (gd : Option (List Code)) (a : Addr) (ccd : Value) (outer : List Env) (A₀ : Around) (base h₀ : Heap) (L : Addr) (m : Str → Option Value) (news : Led) (s : Shared) (Q : Flow → Shared → Prop) (E : Value → Shared → Prop),
    Below A₀ base outer h₀ → Fr h₀ L s.heap m → (Mine.hd.heap_1 w.params).In h₀ → News h₀ L s.heap news →
    Top Mine.hd.view_1 (looseW Mine.hd.view_1 [Str.ofString "number_text"]) mean mg mb h₀ → Pre L m news → dp + 60 < recursionLimit → un + 800 < cLine →
    PassesOwn (model PySem.Challenge.rw_ov0074_01.row.prog w) (ktrTop dp un gd (Str.ofString "law") cs L a ccd (cellsFrom (L + 1) cs.names []) outer) (envOfC (Str.ofString "law") cs L a ccd) E →
    (∀ h' tk' m', Fr h₀ L h' m' → Q (.ret (.bool true)) { s with heap := h', toks := tk' }) →
    wpAny (model PySem.Challenge.rw_ov0074_01.row.prog w) (ktrTop dp un gd (Str.ofString "law") cs L a ccd (cellsFrom (L + 1) cs.names []) outer) (execs sts (envOfC (Str.ofString "law") cs L a ccd)) Q E s

example : True := by (w_top off; exact True.intro)
section
theorem rks_nil : StrsAre [] (List.map rn []) := .nil
theorem rks_cons {i : Nat} {is : List Nat} {vs : List Value} {t : Tok} (h : StrsAre vs (is.map rn)) : StrsAre (.str (rn i) t :: vs) ((i :: is).map rn) := .cons _ _ h
theorem rks_snoc {i : Nat} {is : List Nat} {vs : List Value} {t : Tok} (h : StrsAre vs (is.map rn)) : StrsAre (vs ++ [.str (rn i) t]) ((is ++ [i]).map rn) := by
  induction is generalizing vs with
  | nil => cases h; exact .cons _ _ .nil
  | cons a r ih => cases h with
    | cons y u h' => exact .cons _ _ (ih h')
theorem all7_nil : ∀ i ∈ ([] : List Nat), i < 7 := fun _ h => nomatch h
theorem all7_cons {i : Nat} {is : List Nat} (h : i < 7) (h' : ∀ i ∈ is, i < 7) : ∀ j ∈ i :: is, j < 7 := fun j hj => by
  rcases List.mem_cons.mp hj with rfl | hj
  · exact h
  · exact h' j hj
theorem top_nil : top [] = 0 := rfl
theorem top_one (i : Nat) : top [i] = i := by simp [top]
theorem top_two (i j : Nat) : top [i, j] = max i j := by simp [top]
theorem top_three (i j k : Nat) : top [i, j, k] = max (max i j) k := by simp [top]
theorem top_four (i j k l : Nat) : top [i, j, k, l] = max (max (max i j) k) l := by simp [top]
theorem top_acb (i j k : Nat) : top [i, k, j] = top [i, j, k] := by rw [top_three, top_three]; exact Nat.max_right_comm i k j
theorem top_bac (i j k : Nat) : top [j, i, k] = top [i, j, k] := by rw [top_three, top_three, Nat.max_comm j i]
theorem top_bca (i j k : Nat) : top [j, k, i] = top [i, j, k] := by rw [top_acb, top_bac]
theorem top_cab (i j k : Nat) : top [k, i, j] = top [i, j, k] := by rw [top_bac, top_acb]
theorem top_cba (i j k : Nat) : top [k, j, i] = top [i, j, k] := by rw [top_bac, top_bca]
theorem top_abca (i j k : Nat) : top [i, j, k, i] = top [i, j, k] := by
  rw [top_four, top_three]; exact Nat.max_eq_left (Nat.le_trans (Nat.le_max_left i j) (Nat.le_max_left _ k))
theorem top_ab_c (i j k : Nat) : top [top [i, j], k] = top [i, j, k] := by rw [top_two, top_two, top_three]
theorem top_a_bc (i j k : Nat) : top [i, top [j, k]] = top [i, j, k] := by rw [top_two, top_two, top_three]; exact (Nat.max_assoc i j k).symm
theorem top_aa (i : Nat) : top [i, i] = i := by rw [top_two]; exact Nat.max_self i
theorem top_lt2 {i j : Nat} (h1 : i < 7) (h2 : j < 7) : top [i, j] < 7 := by rw [top_two]; exact Nat.max_lt.mpr ⟨h1, h2⟩
theorem top_lt3 {i j k : Nat} (h1 : i < 7) (h2 : j < 7) (h3 : k < 7) : top [i, j, k] < 7 := by rw [top_three]; exact Nat.max_lt.mpr ⟨Nat.max_lt.mpr ⟨h1, h2⟩, h3⟩
section
variable {prog : Program} {w : World} {A : Around} {E : Value → Shared → Prop} {s : Shared} {h₀ : Heap} {L D : Addr} {news : Led} {n : Nat} {Q : Value → Shared → Prop} {t u : Tok}
theorem ne_nil_nil {l b : Addr} {c c' : Nat} (N : News h₀ L s.heap news) (hl : (l, W.listOf #[] c) ∈ news) (hm : (b, W.listOf #[] c') ∈ news) (hu : A.units + 64 < cLine) (h : Q (.bool false) s) : wpAny (model prog w) A (compareOp .NotEq (.ref l) (.ref b)) Q E s :=
  ne_intsK (a := l) (b := b) (vs := []) (us := []) (ns := []) (ms := []) ⟨_, N.get hl, rfl, c, rfl⟩ .nil ⟨_, N.get hm, rfl, c', rfl⟩ .nil hu h
theorem nin_top {i j k : Nat} {t0 t1 t2 : Tok} (N : News h₀ L s.heap news) (hm : (D, tupO [.str (rn i) t0, .str (rn j) t1, .str (rn k) t2] n) ∈ news) (h : Q (.bool false) s) : wpAny (model prog w) A (compareOp .NotIn (.str (rn (top [i, j, k])) t) (.ref D)) Q E s := by
  refine notin_tuple_strs (items := [Value.str (rn i) t0, .str (rn j) t1, .str (rn k) t2].toArray) ⟨_, (N _ hm).1, rfl, _, rfl⟩ (rks_cons (rks_cons (rks_cons rks_nil))) ?_
  have e : (List.map rn [i, j, k]).any (· == rn (top [i, j, k])) = true := by
    have := top_three i j k
    rw [List.any_eq_true]
    rcases (show top [i, j, k] = i ∨ top [i, j, k] = j ∨ top [i, j, k] = k by omega) with q | q | q <;> rw [q] <;> simp
  rw [e]; exact h
theorem ne_rn {i j : Nat} (e : i = j) (h : Q (.bool false) s) : wpAny (model prog w) A (compareOp .NotEq (.str (rn i) t) (.str (rn j) u)) Q E s := by
  subst e; exact ne_self h
theorem ne_max {i j k : Nat} {M : Int} (h1 : M ∈ List.map (fun i : Nat => (i : Int)) [i, j, k]) (h2 : ∀ a ∈ List.map (fun i : Nat => (i : Int)) [i, j, k], a ≤ M) (h : Q (.bool false) s) : wpAny (model prog w) A (compareOp .NotEq (.int M t) (.int ((top [i, j, k] : Nat) : Int) u)) Q E s := by
  have e : M = ((top [i, j, k] : Nat) : Int) := by
    have a := h2 i (by simp)
    have b := h2 j (by simp)
    have c := h2 k (by simp)
    have d : M = i ∨ M = j ∨ M = k := by simpa using h1
    rw [top_three]; omega
  subst e
  refine ne_int ?_
  rw [bne_self_eq_false]; exact h
theorem eq_rn {i j : Nat} (e : i = j) (h : Q (.bool true) s) : wpAny (model prog w) A (compareOp .Eq (.str (rn i) t) (.str (rn j) u)) Q E s := by
  subst e
  refine eq_str ?_
  rw [beq_self_eq_true]; exact h
theorem eq_rn0 (h : Q (.bool true) s) : wpAny (model prog w) A (compareOp .Eq (.str (rn (top [])) t) (.str (Str.ofString "NULL") u)) Q E s := eq_rn (i := 0) (j := 0) rfl h
end
section
variable {prog : Program} {w : World} {A : Around} {h₀ : Heap} {L : Addr} {m : Str → Option Value} {env : Env} {elt : Expr} {x : Str} {scope : Scope} {cl : List (Str × Addr)} {s : Shared} {Fin : List Value → Led → Prop}
def RkQ (h₀ : Heap) (L : Addr) (m : Str → Option Value) (s : Shared) (row : Addr) (led : Led) (y : Value) (s' : Shared) : Prop :=
  ∃ h' tk' nw i t, s' = { s with heap := h', toks := tk' } ∧ Fr h₀ L h' m ∧ News h₀ L h' nw ∧ y = .str (rn i) t ∧ i < 7 ∧ RowStep row led nw
theorem RowStep.sub {row : Addr} {a b : Led} (h : RowStep row a b) {p : Addr × Obj} (hp : p ∈ a) (hn : p.1 ≠ row) : p ∈ b := h.1 p hp hn
theorem comp_rks {row : Addr} {K : Led} {n : Nat} {vs : List Value} {ns : List Int} {c : Nat} (hK : ∀ p ∈ K, p.1 ≠ row) (hi : IntsAre vs ns) (hr : RowOk ns)
    (turn : ∀ (ys : List Value) vs' ns' c' I oI C oC D m₂ h tk (E' : Value → Shared → Prop), IntsAre vs' ns' → RowOk ns' → LCg.NsObj oC m₂ → Fr h₀ L h m → News h₀ L h ((I, oI) :: (C, oC) :: (D, LCg.lst ys) :: (row, listOf vs'.toArray c') :: K) →
      LCg.Off3 I C D ((row, listOf vs'.toArray c') :: K) →
      wpAny (model prog w) A (eval elt (compEnvC scope cl C env)) (RkQ h₀ L m s row ((I, oI) :: (C, oC) :: (D, LCg.lst ys) :: (row, listOf vs'.toArray c') :: K)) E' { s with heap := h, toks := tk })
    (fin : ∀ (ys : List Value) (is : List Nat) vs' ns' c', is.length = n → (∀ i ∈ is, i < 7) → StrsAre ys (is.map rn) → IntsAre vs' ns' → RowOk ns' → Fin ys ((row, listOf vs'.toArray c') :: K)) :
    LCg.CompRest prog w A h₀ L m env elt x scope cl s (fun _ => True) (fun i v => ∃ t, v = .int ((0 : Int) + (i : Int)) t) Fin n 0 [] ((row, listOf vs.toArray c) :: K) := by
  have key : ∀ (j i : Nat) (ys : List Value) (is : List Nat) vs' ns' c', i + j = n → is.length = i → (∀ i ∈ is, i < 7) → StrsAre ys (is.map rn) → IntsAre vs' ns' → RowOk ns' →
      LCg.CompRest prog w A h₀ L m env elt x scope cl s (fun _ => True) (fun i v => ∃ t, v = .int ((0 : Int) + (i : Int)) t) Fin j i ys ((row, listOf vs'.toArray c') :: K) := by
    intro j
    induction j with
    | zero =>
      intro i ys is vs' ns' c' hij hl hb hits hi' hr'
      exact LCg.CompRest.zero (fin ys is vs' ns' c' (by omega) hb hits hi' hr')
    | succ j ih =>
      intro i ys is vs' ns' c' hij hl hb hits hi' hr'
      refine LCg.CompRest.succ ?_
      intro v I oI C oC D m₂ h tk E' hv hC hx F N off ne
      have hoff := off.mem
      refine wpAny_mono (turn ys vs' ns' c' I oI C oC D m₂ h tk E' hi' hr' hC F N off) (fun y s₂ hq => ?_) fun _ _ e => e
      obtain ⟨h', tk', nw, i2, t, rfl, F', N', rfl, hi7, hst⟩ := hq
      obtain ⟨vs2, ns2, c2, hm2, hi2, hr2⟩ := hst.2
      have hrI := hoff (row, listOf vs'.toArray c') (.head _)
      refine ⟨h', tk', (row, listOf vs2.toArray c2) :: K, rfl, F', fun p hp => N' p ?_, LCg.Off3.of fun p hp => ?_, trivial, ?_⟩
      · rcases List.mem_cons.mp hp with rfl | hp
        · exact hst.1 _ (.head _) (Ne.symm hrI.1)
        rcases List.mem_cons.mp hp with rfl | hp
        · exact hst.1 _ (.tail _ (.head _)) (Ne.symm hrI.2.1)
        rcases List.mem_cons.mp hp with rfl | hp
        · exact hst.1 _ (.tail _ (.tail _ (.head _))) (Ne.symm hrI.2.2)
        rcases List.mem_cons.mp hp with rfl | hp
        · exact hm2
        exact hst.1 p (.tail _ (.tail _ (.tail _ (.tail _ hp)))) (hK p hp)
      · rcases List.mem_cons.mp hp with rfl | hp
        · exact hrI
        · exact hoff p (.tail _ hp)
      · refine ih (i + 1) _ (is ++ [i2]) vs2 ns2 c2 (by omega) (by rw [List.length_append, hl]; rfl) (fun a ha => ?_) (rks_snoc hits) hi2 hr2
        rcases List.mem_append.mp ha with ha | ha
        · exact hb a ha
        · rw [List.mem_singleton.mp ha]; exact hi7
  exact key n 0 [] [] vs ns c (by omega) rfl (fun _ h => nomatch h) .nil hi hr
end
/-- a comprehension over a tuple of the ledger -/
def TupSrc (prog : Program) (w : World) (A : Around) (h₀ : Heap) (L : Addr) (m : Str → Option Value) (env : Env) (elt : Expr) (x : Str) (scope : Scope) (cl : List (Str × Addr)) (Q : Value → Shared → Prop) (xv : Value) (s₁ : Shared) : Prop :=
  ∃ ax its n news, xv = .ref ax ∧ A.handled = none ∧ Fr h₀ L s₁.heap m ∧ News h₀ L s₁.heap news ∧ (ax, tupO its n) ∈ news ∧ its.toArray.size ≤ sizeLine ∧
    ∀ s₂ : Shared, (∃ h, s₂ = { s₁ with heap := h }) → LCg.CompRest prog w A h₀ L m env elt x scope cl s₂ (fun nw => (ax, tupO its n) ∈ nw) (fun i v => its.toArray[i]? = some v) (LCg.FinE h₀ L m s₂ Q) its.toArray.size 0 [] news
section
variable {prog : Program} {w : World} {A : Around} {E : Value → Shared → Prop} {h₀ : Heap} {L : Addr} {m : Str → Option Value} {env : Env} {elt : Expr} {x : Str} {scope : Scope} {cl : List (Str × Addr)} {s : Shared} {Fin : List Value → Led → Prop}
theorem TupSrc.intro {Q : Value → Shared → Prop} {ax : Addr} {its : List Value} {n : Nat} {news : Led} (hh : A.handled = none) (F : Fr h₀ L s.heap m) (N : News h₀ L s.heap news) (hm : (ax, tupO its n) ∈ news) (hz : its.toArray.size ≤ sizeLine)
    (h : ∀ g, LCg.CompRest prog w A h₀ L m env elt x scope cl { s with heap := g } (fun nw => (ax, tupO its n) ∈ nw) (fun i v => its.toArray[i]? = some v) (LCg.FinE h₀ L m { s with heap := g } Q) its.toArray.size 0 [] news) :
    TupSrc prog w A h₀ L m env elt x scope cl Q (.ref ax) s := ⟨ax, its, n, news, rfl, hh, F, N, hm, hz, fun _ ⟨g, e⟩ => e ▸ h g⟩
theorem tup_comp {iter : Expr} {px : Pos} {pos : Pos} {Q : Value → Shared → Prop} (_F₀ : Fr h₀ L s.heap m)
    (hclos : closureFor scope env = pure cl) (hcell : ∀ y ∈ scope.names, y.2 ≠ .cell) (hkind : scope.kind = .function)
    (hnames : ∀ y ∈ scope.names, y.2 = .local → scope.names.lookup y.1 = some .local) (hx : scope.names.lookup x = some .local)
    (h : wpAny (model prog w) A (eval iter env) (TupSrc prog w A h₀ L m env elt x scope cl Q) E s)
    (hs : ∀ x, foldedSetIterable iter env x = pure x := by intro _; rfl) :
    wpAny (model prog w) A (eval (.ListComp elt [⟨.Name x px, iter, [], 0⟩] scope pos) env) Q E s := by
  rw [eval_ListComp]
  refine wpAny_comprehension_free (use := none) rfl hs hclos hkind hnames (wpAny_mono h (fun xv s₁ h₁ => ?_) fun _ _ e => e)
  obtain ⟨ax, its, n, news, rfl, hh, F, N, hm, hz, R⟩ := h₁
  have ht : s₁.heap.IsTuple ax its.toArray := ⟨_, N.get hm, rfl, _, rfl⟩
  have hlt : ax < s₁.heap.objs.size := Heap.lt_size (N.get hm)
  refine wpAny_pyIter_tuple ht ?_
  have up : ∀ b o, s₁.heap.get? b = some o → (s₁.heap.push { cls := .type "tuple_iterator", data := .fields #[.ref ax, .int 0 0] }).get? b = some o := fun b o e => Heap.get?_push_of_some _ e
  refine LCg.block_U (Walks.tuple hh s₁.heap.objs.size ax (Nat.ne_of_lt hlt) its.toArray) hz (fun i h st => by obtain ⟨o, e, _⟩ := st.1; exact ⟨o, e⟩) (S := fun nw => (ax, tupO its n) ∈ nw) ?_ hcell hkind hx ⟨⟨_, Heap.get?_push_size _ rfl, rfl, rfl⟩, ht.push _⟩ (fun b hb => ?_)
    (F.keeps up) (N.grown up) (Nat.ne_of_lt F.ns.lt) (next_is_new F) (fun p hp => Nat.ne_of_lt (Heap.lt_size (N p hp).1)) hm (R _ ⟨_, rfl⟩) ?_
  · intro i g g' o nw st e e' _ N' hm'
    refine ⟨?_, ⟨_, N'.get hm', rfl, _, rfl⟩⟩
    obtain ⟨o', q, r⟩ := st.1
    rw [e] at q; cases q
    exact ⟨o, e', r⟩
  · show b < (s₁.heap.push _).objs.size
    rw [Heap.size_push]
    rcases List.mem_cons.mp hb with rfl | hb
    · exact Nat.lt_succ_self _
    · rw [List.mem_singleton.mp hb]; exact Nat.lt_succ_of_lt hlt
  · intro D C h tk m' ys news' F' N' o1 hn hC₀ hD₀ hCL hDL hCD offC fin
    refine ⟨m', hn, fun h'' hs'' => fin D h'' tk (F'.change hs'' hCL hC₀) (fun p hp => ?_) o1⟩
    refine ⟨hs''.extBut _ _ ?_ (N' p hp).1, (N' p hp).2⟩
    rcases List.mem_cons.mp hp with rfl | hp
    · exact Ne.symm hCD
    · exact offC p hp
theorem comp_idx {is : List Nat} {its : List Value} {n : Nat} {ax : Addr} {news : Led} (hs : StrsAre its (is.map rn)) (h7 : ∀ i ∈ is, i < 7) (hm : (ax, tupO its n) ∈ news)
    (turn : ∀ (i : Nat) (t : Tok) ys I oI C oC D m₂ h tk (E' : Value → Shared → Prop), i < 7 → LCg.NsObj oC m₂ → m₂ x = some (.str (rn i) t) → Fr h₀ L h m → News h₀ L h ((I, oI) :: (C, oC) :: (D, LCg.lst ys) :: news) →
      wpAny (model prog w) A (eval elt (compEnvC scope cl C env)) (fun y s' => ∃ h' tk' t', s' = { s with heap := h', toks := tk' } ∧ Fr h₀ L h' m ∧ News h₀ L h' ((I, oI) :: (C, oC) :: (D, LCg.lst ys) :: news) ∧ y = .int i t') E' { s with heap := h, toks := tk })
    (fin : ∀ ys, IntsAre ys (is.map fun i : Nat => (i : Int)) → Fin ys news) :
    LCg.CompRest prog w A h₀ L m env elt x scope cl s (fun nw => (ax, tupO its n) ∈ nw) (fun i v => its.toArray[i]? = some v) Fin its.toArray.size 0 [] news := by
  have key : ∀ (j i : Nat) (ys : List Value), i + j = its.length → IntsAre ys ((is.take i).map fun i : Nat => (i : Int)) →
      LCg.CompRest prog w A h₀ L m env elt x scope cl s (fun nw => (ax, tupO its n) ∈ nw) (fun i v => its.toArray[i]? = some v) Fin j i ys news := by
    have hlen : its.length = is.length := by rw [hs.length, List.length_map]
    intro j
    induction j with
    | zero =>
      intro i ys hij hy
      rw [List.take_of_length_le (by omega)] at hy
      exact LCg.CompRest.zero (fin ys hy)
    | succ j ih =>
      intro i ys hij hy
      refine LCg.CompRest.succ ?_
      intro v I oI C oC D m₂ h tk E' hv hC hx F N off ne
      have hv' : its[i]? = some v := by simpa using hv
      obtain ⟨k, t, hk, rfl⟩ := strs_get hs hv'
      refine wpAny_mono (turn k t ys I oI C oC D m₂ h tk E' (h7 k (List.mem_of_getElem? hk)) hC hx F N) (fun y s₂ hq => ?_) fun _ _ e => e
      obtain ⟨h', tk', t', rfl, F', N', rfl⟩ := hq
      refine ⟨h', tk', news, rfl, F', N', off, hm, ih (i + 1) _ (by omega) ?_⟩
      rw [List.take_add_one, hk, List.map_append]
      exact IntsAre_snoc hy _ _
  exact key its.toArray.size 0 [] (by simp) .nil
end
theorem ints_uncons {ys : List Value} {n : Int} {ns : List Int} (h : IntsAre ys (n :: ns)) : ∃ t vs, ys = .int n t :: vs ∧ IntsAre vs ns := by
  cases h with
  | cons _ t h => exact ⟨t, _, rfl, h⟩
theorem ints_unnil {ys : List Value} (h : IntsAre ys []) : ys = [] := by
  cases h; rfl
theorem strs_uncons {ys : List Value} {n : Str} {ns : List Str} (h : StrsAre ys (n :: ns)) : ∃ t vs, ys = .str n t :: vs ∧ StrsAre vs ns := by
  cases h with
  | cons _ t h => exact ⟨t, _, rfl, h⟩
theorem strs_unnil {ys : List Value} (h : StrsAre ys []) : ys = [] := by
  cases h; rfl
theorem ints3 {ys : List Value} {i j k : Nat} (h : IntsAre ys ([i, j, k].map fun i : Nat => (i : Int))) : ∃ t0 t1 t2, ys = [.int i t0, .int j t1, .int k t2] := by
  obtain ⟨t0, v1, e0, h1⟩ := ints_uncons h
  obtain ⟨t1, v2, e1, h2⟩ := ints_uncons h1
  obtain ⟨t2, v3, e2, h3⟩ := ints_uncons h2
  exact ⟨t0, t1, t2, by rw [e0, e1, e2, ints_unnil h3]⟩
theorem newList_ab {M : Model} {A : Around} {E : Value → Shared → Prop} {s : Shared} {h₀ : Heap} {L : Addr} {m : Str → Option Value} {news : Led} {vs : List Value} {ss : List Str} {Q : Value → Shared → Prop} (hs : StrsAre vs ss) (F : Fr h₀ L s.heap m) (N : News h₀ L s.heap news)
    (h : ∀ lvs, StrsAre lvs ss → ∀ l h', Fr h₀ L h' m → News h₀ L h' ((l, W.listOf (List.toArray lvs) 0) :: news) → (∀ p ∈ news, p.1 < l) → Q (.ref l) { s with heap := h' }) (hsz : vs.length ≤ sizeLine) : wpAny M A (newList vs) Q E s :=
  newList_K F N (h vs hs) hsz
/-- a list of kinds' names with the greatest rank T -/
def PermL (news : Led) (T : Nat) (v : Value) : Prop := ∃ l lvs is c, v = .ref l ∧ (l, W.listOf (List.toArray lvs) c) ∈ news ∧ StrsAre lvs (List.map rn is) ∧ (∀ i ∈ is, i < 7) ∧ top is = T
theorem perm_loop {prog : Program} {w : World} {A : Around} {E : Value → Shared → Prop} {s : Shared} {env : Env} {h₀ : Heap} {x : Str} {body : List Stmt} {Q : Flow → Shared → Prop} {ax : Addr} {vs : List Value} {n T : Nat} {m₀ : Str → Option Value} {news : Led}
    (hh : A.handled = none) (F : Fr h₀ env.locals s.heap m₀) (N : News h₀ env.locals s.heap news) (hm : (ax, listOf vs.toArray n) ∈ news) (hv : ∀ v ∈ vs, PermL news T v)
    (turn : ∀ l lvs is c nw h tk I it (E' : Value → Shared → Prop), (l, W.listOf (List.toArray lvs) c) ∈ nw → StrsAre lvs (List.map rn is) → (∀ i ∈ is, i < 7) → top is = T → Fr h₀ env.locals h (fun y => if y = x then some (.ref l) else m₀ y) → News h₀ env.locals h ((I, it) :: nw) →
      wpAny (model prog w) A (execs body env) (fun f s₂ => f = .next ∧ ∃ h' tk', s₂ = { s with heap := h', toks := tk' } ∧ Fr h₀ env.locals h' (fun y => if y = x then some (.ref l) else m₀ y) ∧ News h₀ env.locals h' ((I, it) :: nw)) E' { s with heap := h, toks := tk })
    (done : ∀ (u : Str → Option Value) h tk, Fr h₀ env.locals h (fun y => if y = x then u y else m₀ y) → News h₀ env.locals h news → Q .next { s with heap := h, toks := tk }) :
    wpAny (model prog w) A (pyIter (.ref ax)) (fun it s₂ => LoopAtV prog w A h₀ env x body Q E it s₂) E s := by
  refine lst_inv (fun _ : Unit => []) [] (fun _ _ => True) () hh F N hm (fun _ h => nomatch h) trivial ?_ ?_
  · intro i v c u h tk nw I it hvi _ hg hI hit F' N'
    obtain ⟨l, lvs, is, c, rfl, hl, hs, h7, hT⟩ := hv v (List.mem_of_getElem? hvi)
    have e : (fun y => if y = x then some (Value.ref l) else kstB (fun z => if [].contains z then u z else m₀ z) [] y) = fun y => if y = x then some (.ref l) else m₀ y := by
      funext y; simp [kstB]
    rw [e] at F'
    refine wpAny_mono (turn l lvs is c nw h tk I it E (hg.sub _ hl) hs h7 hT F' N') (fun f s₂ hq => ?_) fun _ _ e => e
    obtain ⟨rfl, h', tk', rfl, F'', N''⟩ := hq
    exact ⟨h', tk', _, (), _, rfl, F'', N'', Grew.refl _, trivial, (fun _ h => nomatch h), fun z hz _ _ => if_neg hz⟩
  · intro c u h tk nw _ hg F' N'
    have e : (fun y => if y = x then u y else kstB (fun z => if [].contains z then u z else m₀ z) [] y) = fun y => if y = x then u y else m₀ y := by
      funext y; simp [kstB]
    rw [e] at F'
    exact done u h tk F' (cb_drop N' hg.sub)
theorem strs3 {ys : List Value} {is : List Nat} (hl : is.length = 3) (h7 : ∀ i ∈ is, i < 7) (h : StrsAre ys (is.map rn)) : ∃ i j k t0 t1 t2, is = [i, j, k] ∧ i < 7 ∧ j < 7 ∧ k < 7 ∧ ys = [.str (rn i) t0, .str (rn j) t1, .str (rn k) t2] := by
  obtain ⟨i, r1, rfl⟩ := List.exists_cons_of_length_eq_add_one hl
  obtain ⟨j, r2, rfl⟩ := List.exists_cons_of_length_eq_add_one (Nat.succ.inj hl)
  obtain ⟨k, r3, rfl⟩ := List.exists_cons_of_length_eq_add_one (Nat.succ.inj (Nat.succ.inj hl))
  obtain rfl := List.eq_nil_of_length_eq_zero (Nat.succ.inj (Nat.succ.inj (Nat.succ.inj hl)))
  obtain ⟨t0, v1, e0, h1⟩ := strs_uncons h
  obtain ⟨t1, v2, e1, h2⟩ := strs_uncons h1
  obtain ⟨t2, v3, e2, h3⟩ := strs_uncons h2
  exact ⟨i, j, k, t0, t1, t2, rfl, h7 i (.head _), h7 j (.tail _ (.head _)), h7 k (.tail _ (.tail _ (.head _))), by rw [e0, e1, e2, strs_unnil h3]⟩
theorem led_pick {h₀ h : Heap} {L : Addr} {p0 p1 p2 p3 : Addr × Obj} {r : Led} (N : News h₀ L h (p0 :: p1 :: p2 :: p3 :: r)) : News h₀ L h (p3 :: p0 :: r) :=
  cb_drop N (List.forall_mem_cons.mpr ⟨.tail _ (.tail _ (.tail _ (.head _))), List.forall_mem_cons.mpr ⟨.head _, fun p hp => .tail _ (.tail _ (.tail _ (.tail _ hp)))⟩⟩)
def LcPre (L : Addr) (m : Str → Option Value) (news : Led) : Prop :=
  ∃ (row nt : Addr) (vs : List Value) (ns : List Int) (c cn : Nat) (o1 o2 o3 o4 : Obj) (v4 : Option Value) (r : Str → Option Value), m = kstB r [(Str.ofString "notes", .ref nt)] ∧
    news = [(nt, W.listOf #[] cn), (row, W.listOf vs.toArray c), (L + 1 + 1 + 1 + 1, o4), (L + 1 + 1 + 1, o3), (L + 1 + 1, o2), (L + 1, o1)] ∧
    o1.data = .cell (some (.ref row)) ∧ o4.data = .cell v4 ∧ IntsAre vs ns ∧ RowOk ns ∧ @LT.lt Nat _ (L + 1 + 1 + 1 + 1) row ∧ @LT.lt Nat _ row nt
theorem law_C (w mean mg mb) : LawFrom w mean mg mb 8 LcPre := by
  unfold LawFrom
  k_fill
  intro sts cs hsts hcs dp un gd a ccd outer A₀ base h₀ L m news s Q E B F X N T hpre hd hu hE hret
  obtain ⟨row, nt, vs, ns, c, cn, o1, o2, o3, o4, v4, r, rfl, rfl, d1, d4, hi, hr, hl1, hl2⟩ := hpre
  conv at hsts => lhs; whnf
  conv at hcs => lhs; whnf
  subst hsts hcs
  refine abs_A ?_
  intro A9a
  dsimp only [kstB] at F
  repeat' ((fail_if_success (with_reducible show wpAny _ _ (PySem.exec (PySem.Stmt.While _ _ _ _) _) _ _ _)); (fail_if_success (with_reducible show wpAny _ _ (PySem.exec (PySem.Stmt.For _ _ _ _ _) _) _ _ _)); (fail_if_success (with_reducible show wpAny _ _ (PySem.exec (PySem.Stmt.Assign _ (PySem.Expr.ListComp _ _ _ _) _) _) _ _ _)); (fail_if_success (with_reducible show wpAny _ _ (PySem.eval (PySem.Expr.ListComp _ _ _ _) _) _ _ _)); (fail_if_success (with_reducible show LCg.CompSrc _ _ _ _ _ _ _ _ _ _ _ _ _ _)); (fail_if_success (with_reducible show LCt.CompSrcT _ _ _ _ _ _ _ _ _ _ _ _ _ _ _)); (fail_if_success (with_reducible show LCg.CompEnd _ _ _ _ _ _ _ _ _ _ _ _ _ _)); (fail_if_success (with_reducible show KswEnd _ _ _ _ _ _ _ _ _ _ _ _)); (fail_if_success (with_reducible show UnrEnd _ _ _ _ _ _ _)); (fail_if_success (with_reducible show wpAny _ _ (PySem.call (Value.ref 440) _) _ _ _)); (fail_if_success (with_reducible show wpAny _ _ (PySem.call (Value.ref 447) _) _ _ _)); (fail_if_success (with_reducible show wpAny _ _ (PySem.call (Value.ref 475) _) _ _ _)); (fail_if_success (with_reducible show wpAny _ _ (PySem.call (Value.ref 461) _) _ _ _)); (fail_if_success (with_reducible show wpAny _ _ (PySem.call (Value.ref 468) _) _ _ _)); (fail_if_success (with_reducible show wpAny _ _ (PySem.call (Value.ref 454) _) _ _ _)); (fail_if_success (with_reducible show wpAny _ _ (PySem.call (Value.ref 339) _) _ _ _)); first | (k_unfold; (try dsimp only)) | (k_end; wrow_close) | ((with_reducible show wpAny _ _ (PySem.call (Value.ref _) _) _ _ _); first | (with_reducible ((with_reducible show wpAny _ _ (PySem.call (Value.ref 339) _) _ _ _); k_dflt (refine' useV (common_kind _ _ _ _ _ _ _ _ ?kq1 ?kq2) ?k1 ?k2 ?k3 ?k4 ?k5 ?kK ?kp ?kd ?ku ?_; (case k1 => k_asm); (case k2 => k_asm); (case k3 => k_asm); (case k4 => k_asm); (case k5 => k_asm); (case kK => first | exact rfl | assumption); (case kp => first | k_mem | exact .tail _ (by assumption)); (case kd => ktr_room); (case ku => ktr_units); (case kq1 => first | assumption | (repeat' (first | exact rks_nil | refine' rks_cons ?_))); (case kq2 => first | assumption | (repeat' (first | exact all7_nil | refine all7_cons ?_ ?_ | assumption | exact top_lt2 (by assumption) (by assumption) | exact top_lt3 (by assumption) (by assumption) (by assumption)))); intro r9z h9z tk9z F9z N9z hr9z; obtain ⟨t9z, hr9z⟩ := hr9z; subst hr9z; (try dsimp only); (try k_sweep)))) | (with_reducible ((with_reducible show wpAny _ _ (PySem.call (Value.ref 461) _) _ _ _); k_dflt (refine' useO (law_part _ _ _ _ _ _ _ ?kq1 ?kq2) ?k1 ?k2 ?k3 ?k4 ?k5 ?kK ?kp ?kd ?ku ?_; (case k1 => k_asm); (case k2 => k_asm); (case k3 => k_asm); (case k4 => k_asm); (case k5 => k_asm); (case kK => first | exact rfl | assumption); (case kp => exact ⟨_, _, _, by k_mem, by assumption, by assumption⟩); (case kd => ktr_room); (case ku => ktr_units); (case kq1 => decide); (case kq2 => decide); intro r9z nw9z h9z tk9z F9z N9z hr9z; obtain ⟨k9z, t9z, hr9z, hk9z, hm9z, hs9z⟩ := hr9z; subst hr9z; have hi9z := hs9z.2; (try dsimp only); (try k_sweep))))) | (with_reducible ((with_reducible show wpAny _ _ (PySem.compareOp PySem.CmpOp.NotIn (PySem.Value.str _ _) (PySem.Value.ref _)) _ _ _); (k_dflt (refine' nin_top ?N ?m ?_; (case N => k_asm); (case m => k_mem))))) | (with_reducible ((with_reducible show wpAny _ _ (PySem.compareOp PySem.CmpOp.Eq (PySem.Value.str _ _) (PySem.Value.str _ _)) _ _ _); ((with_reducible first | refine eq_rn0 ?_ | (refine eq_rn ?e ?_; (case e => (first | assumption | exact top_ab_c _ _ _ | exact top_a_bc _ _ _ | exact top_one _ | exact top_aa _ | (simp only [top_one, top_two, top_three, top_four]; done) | (simp only [top_one, top_two, top_three, top_four]; omega)))))))) | (with_reducible ((with_reducible show wpAny _ _ (PySem.compareOp PySem.CmpOp.NotEq (PySem.Value.str _ _) (PySem.Value.str _ _)) _ _ _); ((with_reducible refine ne_rn ?e ?_); (case e => (first | assumption | exact top_ab_c _ _ _ | exact top_a_bc _ _ _ | exact top_one _ | exact top_aa _ | (simp only [top_one, top_two, top_three, top_four]; done) | (simp only [top_one, top_two, top_three, top_four]; omega)))))) | (with_reducible ((with_reducible show wpAny _ _ (PySem.compareOp PySem.CmpOp.NotEq (PySem.Value.int _ _) (PySem.Value.int _ _)) _ _ _); (k_dflt (refine' ne_max ?a ?b ?_; (case a => assumption); (case b => assumption))))) | (with_reducible ((with_reducible show wpAny _ _ (PySem.compareOp PySem.CmpOp.NotEq (PySem.Value.ref _) (PySem.Value.ref _)) _ _ _); (k_dflt (refine' ne_nil_nil ?N ?a ?b ?hu ?_; (case N => k_asm); (case a => k_mem); (case b => k_mem); (case hu => first | ke_room | ktr_units))))) | ((with_reducible show wpAny _ _ (PySem.eval (PySem.Expr.Call (PySem.Expr.Name _ _) _ _) _) _ _ _); (refine Call_ ?_)) | (with_reducible ((with_reducible show wpAny _ _ (PySem.call (PySem.Value.builtin "list.index") _) _ _ _); (k_dflt (refine' rk_indexL ?N ?m ?hs ?i ?_; (case N => k_asm); (case m => k_mem); (case hs => first | assumption | exact rkAre); (case i => first | assumption | exact top_lt3 (by assumption) (by assumption) (by assumption))); intro t9z k9z))) | (with_reducible ((with_reducible show wpAny _ _ (getMethod (Value.ref _) (PySem.Str.ofString "index") _) _ _ _); k_dflt (refine' kl_method ?N ?m PySem.F.slot_list_index PySem.F.type_list_index ?_; (case N => k_asm); (case m => k_mem)))) | (with_reducible ((with_reducible show wpAny _ _ (newList (List.cons (Value.str _ _) _)) _ _ _); k_dflt (refine' newList_ab ?k0 ?k1 ?k2 ?_ ?k3; (case k0 => first | with_reducible exact rkAre | (with_reducible ((repeat' (first | exact rks_nil | refine' rks_cons ?_)); done))); (case k1 => k_asm); (case k2 => k_asm); (case k3 => (simp only [List.length_cons, List.length_nil, sizeLine_eq]; omega)); k_whole); intro v' s' l9y h9y F9y N9y l9y; (try k_lt l9y); (try k_sweep))) | (with_reducible ((with_reducible show wpAny _ _ (PySem.newList _) _ _ _); (k_dflt (refine' newList_K ?k1 ?k2 ?_ ?k3; (case k1 => k_asm); (case k2 => k_asm); (case k3 => (simp only [List.length_cons, List.length_nil, sizeLine_eq]; omega)); k_whole); intro l9y h9y F9y N9y l9y; (try k_lt l9y); (try k_sweep)))) | (with_reducible ((with_reducible show wpAny _ _ (subscriptTail _ _ (Value.ref _) (Value.int _ _)) _ _ _); k_dflt (refine' rk_itemL ?N ?m ?hs ?h0 ?h1 ?_; (case N => k_asm); (case m => (refine RowStep.sub (by assumption) (by k_mem) ?_; k_ne)); (case hs => first | assumption | exact rkAre); (case h0 => omega); (case h1 => omega)); intro t9z)) | (with_reducible (first | with_reducible refine ite_ff ?_ | with_reducible refine ite_tt ?_)) | ((with_reducible show wpAny _ _ (PySem.execs (List.cons _ _) _) _ _ _); walk1; (try (refine gen_s ?_; intro tkG; (try dsimp only); (try k_fold)))) | (walk1; (try dsimp only)) | (dsimp only; walk1) | (leave1; (try dsimp only)) | fail "no step")
  refine Assign_Tuple ?_
  repeat' ((fail_if_success (with_reducible show wpAny _ _ (PySem.exec (PySem.Stmt.While _ _ _ _) _) _ _ _)); (fail_if_success (with_reducible show wpAny _ _ (PySem.exec (PySem.Stmt.For _ _ _ _ _) _) _ _ _)); (fail_if_success (with_reducible show wpAny _ _ (PySem.exec (PySem.Stmt.Assign _ (PySem.Expr.ListComp _ _ _ _) _) _) _ _ _)); (fail_if_success (with_reducible show wpAny _ _ (PySem.eval (PySem.Expr.ListComp _ _ _ _) _) _ _ _)); (fail_if_success (with_reducible show LCg.CompSrc _ _ _ _ _ _ _ _ _ _ _ _ _ _)); (fail_if_success (with_reducible show LCt.CompSrcT _ _ _ _ _ _ _ _ _ _ _ _ _ _ _)); (fail_if_success (with_reducible show LCg.CompEnd _ _ _ _ _ _ _ _ _ _ _ _ _ _)); (fail_if_success (with_reducible show KswEnd _ _ _ _ _ _ _ _ _ _ _ _)); (fail_if_success (with_reducible show UnrEnd _ _ _ _ _ _ _)); (fail_if_success (with_reducible show wpAny _ _ (PySem.call (Value.ref 440) _) _ _ _)); (fail_if_success (with_reducible show wpAny _ _ (PySem.call (Value.ref 447) _) _ _ _)); (fail_if_success (with_reducible show wpAny _ _ (PySem.call (Value.ref 475) _) _ _ _)); (fail_if_success (with_reducible show wpAny _ _ (PySem.call (Value.ref 461) _) _ _ _)); (fail_if_success (with_reducible show wpAny _ _ (PySem.call (Value.ref 468) _) _ _ _)); (fail_if_success (with_reducible show wpAny _ _ (PySem.call (Value.ref 454) _) _ _ _)); (fail_if_success (with_reducible show wpAny _ _ (PySem.call (Value.ref 339) _) _ _ _)); first | (k_unfold; (try dsimp only)) | (k_end; wrow_close) | ((with_reducible show wpAny _ _ (PySem.call (Value.ref _) _) _ _ _); first | (with_reducible ((with_reducible show wpAny _ _ (PySem.call (Value.ref 339) _) _ _ _); k_dflt (refine' useV (common_kind _ _ _ _ _ _ _ _ ?kq1 ?kq2) ?k1 ?k2 ?k3 ?k4 ?k5 ?kK ?kp ?kd ?ku ?_; (case k1 => k_asm); (case k2 => k_asm); (case k3 => k_asm); (case k4 => k_asm); (case k5 => k_asm); (case kK => first | exact rfl | assumption); (case kp => first | k_mem | exact .tail _ (by assumption)); (case kd => ktr_room); (case ku => ktr_units); (case kq1 => first | assumption | (repeat' (first | exact rks_nil | refine' rks_cons ?_))); (case kq2 => first | assumption | (repeat' (first | exact all7_nil | refine all7_cons ?_ ?_ | assumption | exact top_lt2 (by assumption) (by assumption) | exact top_lt3 (by assumption) (by assumption) (by assumption)))); intro r9z h9z tk9z F9z N9z hr9z; obtain ⟨t9z, hr9z⟩ := hr9z; subst hr9z; (try dsimp only); (try k_sweep)))) | (with_reducible ((with_reducible show wpAny _ _ (PySem.call (Value.ref 461) _) _ _ _); k_dflt (refine' useO (law_part _ _ _ _ _ _ _ ?kq1 ?kq2) ?k1 ?k2 ?k3 ?k4 ?k5 ?kK ?kp ?kd ?ku ?_; (case k1 => k_asm); (case k2 => k_asm); (case k3 => k_asm); (case k4 => k_asm); (case k5 => k_asm); (case kK => first | exact rfl | assumption); (case kp => exact ⟨_, _, _, by k_mem, by assumption, by assumption⟩); (case kd => ktr_room); (case ku => ktr_units); (case kq1 => decide); (case kq2 => decide); intro r9z nw9z h9z tk9z F9z N9z hr9z; obtain ⟨k9z, t9z, hr9z, hk9z, hm9z, hs9z⟩ := hr9z; subst hr9z; have hi9z := hs9z.2; (try dsimp only); (try k_sweep))))) | (with_reducible ((with_reducible show wpAny _ _ (PySem.compareOp PySem.CmpOp.NotIn (PySem.Value.str _ _) (PySem.Value.ref _)) _ _ _); (k_dflt (refine' nin_top ?N ?m ?_; (case N => k_asm); (case m => k_mem))))) | (with_reducible ((with_reducible show wpAny _ _ (PySem.compareOp PySem.CmpOp.Eq (PySem.Value.str _ _) (PySem.Value.str _ _)) _ _ _); ((with_reducible first | refine eq_rn0 ?_ | (refine eq_rn ?e ?_; (case e => (first | assumption | exact top_ab_c _ _ _ | exact top_a_bc _ _ _ | exact top_one _ | exact top_aa _ | (simp only [top_one, top_two, top_three, top_four]; done) | (simp only [top_one, top_two, top_three, top_four]; omega)))))))) | (with_reducible ((with_reducible show wpAny _ _ (PySem.compareOp PySem.CmpOp.NotEq (PySem.Value.str _ _) (PySem.Value.str _ _)) _ _ _); ((with_reducible refine ne_rn ?e ?_); (case e => (first | assumption | exact top_ab_c _ _ _ | exact top_a_bc _ _ _ | exact top_one _ | exact top_aa _ | (simp only [top_one, top_two, top_three, top_four]; done) | (simp only [top_one, top_two, top_three, top_four]; omega)))))) | (with_reducible ((with_reducible show wpAny _ _ (PySem.compareOp PySem.CmpOp.NotEq (PySem.Value.int _ _) (PySem.Value.int _ _)) _ _ _); (k_dflt (refine' ne_max ?a ?b ?_; (case a => assumption); (case b => assumption))))) | (with_reducible ((with_reducible show wpAny _ _ (PySem.compareOp PySem.CmpOp.NotEq (PySem.Value.ref _) (PySem.Value.ref _)) _ _ _); (k_dflt (refine' ne_nil_nil ?N ?a ?b ?hu ?_; (case N => k_asm); (case a => k_mem); (case b => k_mem); (case hu => first | ke_room | ktr_units))))) | ((with_reducible show wpAny _ _ (PySem.eval (PySem.Expr.Call (PySem.Expr.Name _ _) _ _) _) _ _ _); (refine Call_ ?_)) | (with_reducible ((with_reducible show wpAny _ _ (PySem.call (PySem.Value.builtin "list.index") _) _ _ _); (k_dflt (refine' rk_indexL ?N ?m ?hs ?i ?_; (case N => k_asm); (case m => k_mem); (case hs => first | assumption | exact rkAre); (case i => first | assumption | exact top_lt3 (by assumption) (by assumption) (by assumption))); intro t9z k9z))) | (with_reducible ((with_reducible show wpAny _ _ (getMethod (Value.ref _) (PySem.Str.ofString "index") _) _ _ _); k_dflt (refine' kl_method ?N ?m PySem.F.slot_list_index PySem.F.type_list_index ?_; (case N => k_asm); (case m => k_mem)))) | (with_reducible ((with_reducible show wpAny _ _ (newList (List.cons (Value.str _ _) _)) _ _ _); k_dflt (refine' newList_ab ?k0 ?k1 ?k2 ?_ ?k3; (case k0 => first | with_reducible exact rkAre | (with_reducible ((repeat' (first | exact rks_nil | refine' rks_cons ?_)); done))); (case k1 => k_asm); (case k2 => k_asm); (case k3 => (simp only [List.length_cons, List.length_nil, sizeLine_eq]; omega)); k_whole); intro v' s' l9y h9y F9y N9y l9y; (try k_lt l9y); (try k_sweep))) | (with_reducible ((with_reducible show wpAny _ _ (PySem.newList _) _ _ _); (k_dflt (refine' newList_K ?k1 ?k2 ?_ ?k3; (case k1 => k_asm); (case k2 => k_asm); (case k3 => (simp only [List.length_cons, List.length_nil, sizeLine_eq]; omega)); k_whole); intro l9y h9y F9y N9y l9y; (try k_lt l9y); (try k_sweep)))) | (with_reducible ((with_reducible show wpAny _ _ (subscriptTail _ _ (Value.ref _) (Value.int _ _)) _ _ _); k_dflt (refine' rk_itemL ?N ?m ?hs ?h0 ?h1 ?_; (case N => k_asm); (case m => (refine RowStep.sub (by assumption) (by k_mem) ?_; k_ne)); (case hs => first | assumption | exact rkAre); (case h0 => omega); (case h1 => omega)); intro t9z)) | (with_reducible (first | with_reducible refine ite_ff ?_ | with_reducible refine ite_tt ?_)) | ((with_reducible show wpAny _ _ (PySem.execs (List.cons _ _) _) _ _ _); walk1; (try (refine gen_s ?_; intro tkG; (try dsimp only); (try k_fold)))) | (walk1; (try dsimp only)) | (dsimp only; walk1) | (leave1; (try dsimp only)) | fail "no step")
  k_dflt (refine LCg.ListComp_U (F₀ := by k_asm) (by with_unfolding_all rfl) (by decide) (by rfl) (by decide) (by rfl) ?_)
  repeat' ((fail_if_success (with_reducible show wpAny _ _ (PySem.exec (PySem.Stmt.While _ _ _ _) _) _ _ _)); (fail_if_success (with_reducible show wpAny _ _ (PySem.exec (PySem.Stmt.For _ _ _ _ _) _) _ _ _)); (fail_if_success (with_reducible show wpAny _ _ (PySem.exec (PySem.Stmt.Assign _ (PySem.Expr.ListComp _ _ _ _) _) _) _ _ _)); (fail_if_success (with_reducible show wpAny _ _ (PySem.eval (PySem.Expr.ListComp _ _ _ _) _) _ _ _)); (fail_if_success (with_reducible show LCg.CompSrc _ _ _ _ _ _ _ _ _ _ _ _ _ _)); (fail_if_success (with_reducible show LCt.CompSrcT _ _ _ _ _ _ _ _ _ _ _ _ _ _ _)); (fail_if_success (with_reducible show LCg.CompEnd _ _ _ _ _ _ _ _ _ _ _ _ _ _)); (fail_if_success (with_reducible show KswEnd _ _ _ _ _ _ _ _ _ _ _ _)); (fail_if_success (with_reducible show UnrEnd _ _ _ _ _ _ _)); (fail_if_success (with_reducible show wpAny _ _ (PySem.call (Value.ref 440) _) _ _ _)); (fail_if_success (with_reducible show wpAny _ _ (PySem.call (Value.ref 447) _) _ _ _)); (fail_if_success (with_reducible show wpAny _ _ (PySem.call (Value.ref 475) _) _ _ _)); (fail_if_success (with_reducible show wpAny _ _ (PySem.call (Value.ref 461) _) _ _ _)); (fail_if_success (with_reducible show wpAny _ _ (PySem.call (Value.ref 468) _) _ _ _)); (fail_if_success (with_reducible show wpAny _ _ (PySem.call (Value.ref 454) _) _ _ _)); (fail_if_success (with_reducible show wpAny _ _ (PySem.call (Value.ref 339) _) _ _ _)); first | (k_unfold; (try dsimp only)) | (k_end; wrow_close) | ((with_reducible show wpAny _ _ (PySem.call (Value.ref _) _) _ _ _); first | (with_reducible ((with_reducible show wpAny _ _ (PySem.call (Value.ref 339) _) _ _ _); k_dflt (refine' useV (common_kind _ _ _ _ _ _ _ _ ?kq1 ?kq2) ?k1 ?k2 ?k3 ?k4 ?k5 ?kK ?kp ?kd ?ku ?_; (case k1 => k_asm); (case k2 => k_asm); (case k3 => k_asm); (case k4 => k_asm); (case k5 => k_asm); (case kK => first | exact rfl | assumption); (case kp => first | k_mem | exact .tail _ (by assumption)); (case kd => ktr_room); (case ku => ktr_units); (case kq1 => first | assumption | (repeat' (first | exact rks_nil | refine' rks_cons ?_))); (case kq2 => first | assumption | (repeat' (first | exact all7_nil | refine all7_cons ?_ ?_ | assumption | exact top_lt2 (by assumption) (by assumption) | exact top_lt3 (by assumption) (by assumption) (by assumption)))); intro r9z h9z tk9z F9z N9z hr9z; obtain ⟨t9z, hr9z⟩ := hr9z; subst hr9z; (try dsimp only); (try k_sweep)))) | (with_reducible ((with_reducible show wpAny _ _ (PySem.call (Value.ref 461) _) _ _ _); k_dflt (refine' useO (law_part _ _ _ _ _ _ _ ?kq1 ?kq2) ?k1 ?k2 ?k3 ?k4 ?k5 ?kK ?kp ?kd ?ku ?_; (case k1 => k_asm); (case k2 => k_asm); (case k3 => k_asm); (case k4 => k_asm); (case k5 => k_asm); (case kK => first | exact rfl | assumption); (case kp => exact ⟨_, _, _, by k_mem, by assumption, by assumption⟩); (case kd => ktr_room); (case ku => ktr_units); (case kq1 => decide); (case kq2 => decide); intro r9z nw9z h9z tk9z F9z N9z hr9z; obtain ⟨k9z, t9z, hr9z, hk9z, hm9z, hs9z⟩ := hr9z; subst hr9z; have hi9z := hs9z.2; (try dsimp only); (try k_sweep))))) | (with_reducible ((with_reducible show wpAny _ _ (PySem.compareOp PySem.CmpOp.NotIn (PySem.Value.str _ _) (PySem.Value.ref _)) _ _ _); (k_dflt (refine' nin_top ?N ?m ?_; (case N => k_asm); (case m => k_mem))))) | (with_reducible ((with_reducible show wpAny _ _ (PySem.compareOp PySem.CmpOp.Eq (PySem.Value.str _ _) (PySem.Value.str _ _)) _ _ _); ((with_reducible first | refine eq_rn0 ?_ | (refine eq_rn ?e ?_; (case e => (first | assumption | exact top_ab_c _ _ _ | exact top_a_bc _ _ _ | exact top_one _ | exact top_aa _ | (simp only [top_one, top_two, top_three, top_four]; done) | (simp only [top_one, top_two, top_three, top_four]; omega)))))))) | (with_reducible ((with_reducible show wpAny _ _ (PySem.compareOp PySem.CmpOp.NotEq (PySem.Value.str _ _) (PySem.Value.str _ _)) _ _ _); ((with_reducible refine ne_rn ?e ?_); (case e => (first | assumption | exact top_ab_c _ _ _ | exact top_a_bc _ _ _ | exact top_one _ | exact top_aa _ | (simp only [top_one, top_two, top_three, top_four]; done) | (simp only [top_one, top_two, top_three, top_four]; omega)))))) | (with_reducible ((with_reducible show wpAny _ _ (PySem.compareOp PySem.CmpOp.NotEq (PySem.Value.int _ _) (PySem.Value.int _ _)) _ _ _); (k_dflt (refine' ne_max ?a ?b ?_; (case a => assumption); (case b => assumption))))) | (with_reducible ((with_reducible show wpAny _ _ (PySem.compareOp PySem.CmpOp.NotEq (PySem.Value.ref _) (PySem.Value.ref _)) _ _ _); (k_dflt (refine' ne_nil_nil ?N ?a ?b ?hu ?_; (case N => k_asm); (case a => k_mem); (case b => k_mem); (case hu => first | ke_room | ktr_units))))) | ((with_reducible show wpAny _ _ (PySem.eval (PySem.Expr.Call (PySem.Expr.Name _ _) _ _) _) _ _ _); (refine Call_ ?_)) | (with_reducible ((with_reducible show wpAny _ _ (PySem.call (PySem.Value.builtin "list.index") _) _ _ _); (k_dflt (refine' rk_indexL ?N ?m ?hs ?i ?_; (case N => k_asm); (case m => k_mem); (case hs => first | assumption | exact rkAre); (case i => first | assumption | exact top_lt3 (by assumption) (by assumption) (by assumption))); intro t9z k9z))) | (with_reducible ((with_reducible show wpAny _ _ (getMethod (Value.ref _) (PySem.Str.ofString "index") _) _ _ _); k_dflt (refine' kl_method ?N ?m PySem.F.slot_list_index PySem.F.type_list_index ?_; (case N => k_asm); (case m => k_mem)))) | (with_reducible ((with_reducible show wpAny _ _ (newList (List.cons (Value.str _ _) _)) _ _ _); k_dflt (refine' newList_ab ?k0 ?k1 ?k2 ?_ ?k3; (case k0 => first | with_reducible exact rkAre | (with_reducible ((repeat' (first | exact rks_nil | refine' rks_cons ?_)); done))); (case k1 => k_asm); (case k2 => k_asm); (case k3 => (simp only [List.length_cons, List.length_nil, sizeLine_eq]; omega)); k_whole); intro v' s' l9y h9y F9y N9y l9y; (try k_lt l9y); (try k_sweep))) | (with_reducible ((with_reducible show wpAny _ _ (PySem.newList _) _ _ _); (k_dflt (refine' newList_K ?k1 ?k2 ?_ ?k3; (case k1 => k_asm); (case k2 => k_asm); (case k3 => (simp only [List.length_cons, List.length_nil, sizeLine_eq]; omega)); k_whole); intro l9y h9y F9y N9y l9y; (try k_lt l9y); (try k_sweep)))) | (with_reducible ((with_reducible show wpAny _ _ (subscriptTail _ _ (Value.ref _) (Value.int _ _)) _ _ _); k_dflt (refine' rk_itemL ?N ?m ?hs ?h0 ?h1 ?_; (case N => k_asm); (case m => (refine RowStep.sub (by assumption) (by k_mem) ?_; k_ne)); (case hs => first | assumption | exact rkAre); (case h0 => omega); (case h1 => omega)); intro t9z)) | (with_reducible (first | with_reducible refine ite_ff ?_ | with_reducible refine ite_tt ?_)) | ((with_reducible show wpAny _ _ (PySem.execs (List.cons _ _) _) _ _ _); walk1; (try (refine gen_s ?_; intro tkG; (try dsimp only); (try k_fold)))) | (walk1; (try dsimp only)) | (dsimp only; walk1) | (leave1; (try dsimp only)) | fail "no step")
  rename IsRange _ _ _ _ _ _ _ _ => hR9
  rename News _ _ _ _ => N9
  refine LCg.CompSrc.range (n := 3) rfl (by k_asm) (led_pick N9) hR9 (by rfl) (by rfl) (by decide) (fun g => ?_)
  refine comp_rks ?hK hi hr ?_ ?_
  case hK => k_all
  · intro ys vs' ns' c' I oI C oC D m₂ h tk E' hi' hr' hC F9 N9 off9
    repeat' ((fail_if_success (with_reducible show wpAny _ _ (PySem.exec (PySem.Stmt.While _ _ _ _) _) _ _ _)); (fail_if_success (with_reducible show wpAny _ _ (PySem.exec (PySem.Stmt.For _ _ _ _ _) _) _ _ _)); (fail_if_success (with_reducible show wpAny _ _ (PySem.exec (PySem.Stmt.Assign _ (PySem.Expr.ListComp _ _ _ _) _) _) _ _ _)); (fail_if_success (with_reducible show wpAny _ _ (PySem.eval (PySem.Expr.ListComp _ _ _ _) _) _ _ _)); (fail_if_success (with_reducible show LCg.CompSrc _ _ _ _ _ _ _ _ _ _ _ _ _ _)); (fail_if_success (with_reducible show LCt.CompSrcT _ _ _ _ _ _ _ _ _ _ _ _ _ _ _)); (fail_if_success (with_reducible show LCg.CompEnd _ _ _ _ _ _ _ _ _ _ _ _ _ _)); (fail_if_success (with_reducible show KswEnd _ _ _ _ _ _ _ _ _ _ _ _)); (fail_if_success (with_reducible show UnrEnd _ _ _ _ _ _ _)); (fail_if_success (with_reducible show wpAny _ _ (PySem.call (Value.ref 440) _) _ _ _)); (fail_if_success (with_reducible show wpAny _ _ (PySem.call (Value.ref 447) _) _ _ _)); (fail_if_success (with_reducible show wpAny _ _ (PySem.call (Value.ref 475) _) _ _ _)); (fail_if_success (with_reducible show wpAny _ _ (PySem.call (Value.ref 468) _) _ _ _)); (fail_if_success (with_reducible show wpAny _ _ (PySem.call (Value.ref 454) _) _ _ _)); first | (k_unfold; (try dsimp only)) | (k_end; wrow_close) | ((with_reducible show wpAny _ _ (PySem.call (Value.ref _) _) _ _ _); first | (with_reducible ((with_reducible show wpAny _ _ (PySem.call (Value.ref 339) _) _ _ _); k_dflt (refine' useV (common_kind _ _ _ _ _ _ _ _ ?kq1 ?kq2) ?k1 ?k2 ?k3 ?k4 ?k5 ?kK ?kp ?kd ?ku ?_; (case k1 => k_asm); (case k2 => k_asm); (case k3 => k_asm); (case k4 => k_asm); (case k5 => k_asm); (case kK => first | exact rfl | assumption); (case kp => first | k_mem | exact .tail _ (by assumption)); (case kd => ktr_room); (case ku => ktr_units); (case kq1 => first | assumption | (repeat' (first | exact rks_nil | refine' rks_cons ?_))); (case kq2 => first | assumption | (repeat' (first | exact all7_nil | refine all7_cons ?_ ?_ | assumption | exact top_lt2 (by assumption) (by assumption) | exact top_lt3 (by assumption) (by assumption) (by assumption)))); intro r9z h9z tk9z F9z N9z hr9z; obtain ⟨t9z, hr9z⟩ := hr9z; subst hr9z; (try dsimp only); (try k_sweep)))) | (with_reducible ((with_reducible show wpAny _ _ (PySem.call (Value.ref 461) _) _ _ _); k_dflt (refine' useO (law_part _ _ _ _ _ _ _ ?kq1 ?kq2) ?k1 ?k2 ?k3 ?k4 ?k5 ?kK ?kp ?kd ?ku ?_; (case k1 => k_asm); (case k2 => k_asm); (case k3 => k_asm); (case k4 => k_asm); (case k5 => k_asm); (case kK => first | exact rfl | assumption); (case kp => exact ⟨_, _, _, by k_mem, by assumption, by assumption⟩); (case kd => ktr_room); (case ku => ktr_units); (case kq1 => decide); (case kq2 => decide); intro r9z nw9z h9z tk9z F9z N9z hr9z; obtain ⟨k9z, t9z, hr9z, hk9z, hm9z, hs9z⟩ := hr9z; subst hr9z; have hi9z := hs9z.2; (try dsimp only); (try k_sweep))))) | (with_reducible ((with_reducible show wpAny _ _ (PySem.compareOp PySem.CmpOp.NotIn (PySem.Value.str _ _) (PySem.Value.ref _)) _ _ _); (k_dflt (refine' nin_top ?N ?m ?_; (case N => k_asm); (case m => k_mem))))) | (with_reducible ((with_reducible show wpAny _ _ (PySem.compareOp PySem.CmpOp.Eq (PySem.Value.str _ _) (PySem.Value.str _ _)) _ _ _); ((with_reducible first | refine eq_rn0 ?_ | (refine eq_rn ?e ?_; (case e => (first | assumption | exact top_ab_c _ _ _ | exact top_a_bc _ _ _ | exact top_one _ | exact top_aa _ | (simp only [top_one, top_two, top_three, top_four]; done) | (simp only [top_one, top_two, top_three, top_four]; omega)))))))) | (with_reducible ((with_reducible show wpAny _ _ (PySem.compareOp PySem.CmpOp.NotEq (PySem.Value.str _ _) (PySem.Value.str _ _)) _ _ _); ((with_reducible refine ne_rn ?e ?_); (case e => (first | assumption | exact top_ab_c _ _ _ | exact top_a_bc _ _ _ | exact top_one _ | exact top_aa _ | (simp only [top_one, top_two, top_three, top_four]; done) | (simp only [top_one, top_two, top_three, top_four]; omega)))))) | (with_reducible ((with_reducible show wpAny _ _ (PySem.compareOp PySem.CmpOp.NotEq (PySem.Value.int _ _) (PySem.Value.int _ _)) _ _ _); (k_dflt (refine' ne_max ?a ?b ?_; (case a => assumption); (case b => assumption))))) | (with_reducible ((with_reducible show wpAny _ _ (PySem.compareOp PySem.CmpOp.NotEq (PySem.Value.ref _) (PySem.Value.ref _)) _ _ _); (k_dflt (refine' ne_nil_nil ?N ?a ?b ?hu ?_; (case N => k_asm); (case a => k_mem); (case b => k_mem); (case hu => first | ke_room | ktr_units))))) | ((with_reducible show wpAny _ _ (PySem.eval (PySem.Expr.Call (PySem.Expr.Name _ _) _ _) _) _ _ _); (refine Call_ ?_)) | (with_reducible ((with_reducible show wpAny _ _ (PySem.call (PySem.Value.builtin "list.index") _) _ _ _); (k_dflt (refine' rk_indexL ?N ?m ?hs ?i ?_; (case N => k_asm); (case m => k_mem); (case hs => first | assumption | exact rkAre); (case i => first | assumption | exact top_lt3 (by assumption) (by assumption) (by assumption))); intro t9z k9z))) | (with_reducible ((with_reducible show wpAny _ _ (getMethod (Value.ref _) (PySem.Str.ofString "index") _) _ _ _); k_dflt (refine' kl_method ?N ?m PySem.F.slot_list_index PySem.F.type_list_index ?_; (case N => k_asm); (case m => k_mem)))) | (with_reducible ((with_reducible show wpAny _ _ (newList (List.cons (Value.str _ _) _)) _ _ _); k_dflt (refine' newList_ab ?k0 ?k1 ?k2 ?_ ?k3; (case k0 => first | with_reducible exact rkAre | (with_reducible ((repeat' (first | exact rks_nil | refine' rks_cons ?_)); done))); (case k1 => k_asm); (case k2 => k_asm); (case k3 => (simp only [List.length_cons, List.length_nil, sizeLine_eq]; omega)); k_whole); intro v' s' l9y h9y F9y N9y l9y; (try k_lt l9y); (try k_sweep))) | (with_reducible ((with_reducible show wpAny _ _ (PySem.newList _) _ _ _); (k_dflt (refine' newList_K ?k1 ?k2 ?_ ?k3; (case k1 => k_asm); (case k2 => k_asm); (case k3 => (simp only [List.length_cons, List.length_nil, sizeLine_eq]; omega)); k_whole); intro l9y h9y F9y N9y l9y; (try k_lt l9y); (try k_sweep)))) | (with_reducible ((with_reducible show wpAny _ _ (subscriptTail _ _ (Value.ref _) (Value.int _ _)) _ _ _); k_dflt (refine' rk_itemL ?N ?m ?hs ?h0 ?h1 ?_; (case N => k_asm); (case m => (refine RowStep.sub (by assumption) (by k_mem) ?_; k_ne)); (case hs => first | assumption | exact rkAre); (case h0 => omega); (case h1 => omega)); intro t9z)) | (with_reducible (first | with_reducible refine ite_ff ?_ | with_reducible refine ite_tt ?_)) | ((with_reducible show wpAny _ _ (PySem.execs (List.cons _ _) _) _ _ _); walk1; (try (refine gen_s ?_; intro tkG; (try dsimp only); (try k_fold)))) | (walk1; (try dsimp only)) | (dsimp only; walk1) | (leave1; (try dsimp only)) | fail "no step")
    exact ⟨_, _, _, _, _, rfl, by k_asm, by k_asm, rfl, by omega, by assumption⟩
  · intro ys is vs' ns' c' hl h7 hs hi' hr'
    intro D h tk F9 N9 o9
    obtain ⟨i, j, k, t0, t1, t2, rfl, hi7, hj7, hk7, rfl⟩ := strs3 hl h7 hs
    dsimp only
    repeat' ((fail_if_success (with_reducible show wpAny _ _ (PySem.exec (PySem.Stmt.While _ _ _ _) _) _ _ _)); (fail_if_success (with_reducible show wpAny _ _ (PySem.exec (PySem.Stmt.For _ _ _ _ _) _) _ _ _)); (fail_if_success (with_reducible show wpAny _ _ (PySem.exec (PySem.Stmt.Assign _ (PySem.Expr.ListComp _ _ _ _) _) _) _ _ _)); (fail_if_success (with_reducible show wpAny _ _ (PySem.eval (PySem.Expr.ListComp _ _ _ _) _) _ _ _)); (fail_if_success (with_reducible show LCg.CompSrc _ _ _ _ _ _ _ _ _ _ _ _ _ _)); (fail_if_success (with_reducible show LCt.CompSrcT _ _ _ _ _ _ _ _ _ _ _ _ _ _ _)); (fail_if_success (with_reducible show LCg.CompEnd _ _ _ _ _ _ _ _ _ _ _ _ _ _)); (fail_if_success (with_reducible show KswEnd _ _ _ _ _ _ _ _ _ _ _ _)); (fail_if_success (with_reducible show UnrEnd _ _ _ _ _ _ _)); (fail_if_success (with_reducible show wpAny _ _ (PySem.call (Value.ref 440) _) _ _ _)); (fail_if_success (with_reducible show wpAny _ _ (PySem.call (Value.ref 447) _) _ _ _)); (fail_if_success (with_reducible show wpAny _ _ (PySem.call (Value.ref 475) _) _ _ _)); (fail_if_success (with_reducible show wpAny _ _ (PySem.call (Value.ref 468) _) _ _ _)); (fail_if_success (with_reducible show wpAny _ _ (PySem.call (Value.ref 454) _) _ _ _)); first | (k_unfold; (try dsimp only)) | (k_end; wrow_close) | ((with_reducible show wpAny _ _ (PySem.call (Value.ref _) _) _ _ _); first | (with_reducible ((with_reducible show wpAny _ _ (PySem.call (Value.ref 339) _) _ _ _); k_dflt (refine' useV (common_kind _ _ _ _ _ _ _ _ ?kq1 ?kq2) ?k1 ?k2 ?k3 ?k4 ?k5 ?kK ?kp ?kd ?ku ?_; (case k1 => k_asm); (case k2 => k_asm); (case k3 => k_asm); (case k4 => k_asm); (case k5 => k_asm); (case kK => first | exact rfl | assumption); (case kp => first | k_mem | exact .tail _ (by assumption)); (case kd => ktr_room); (case ku => ktr_units); (case kq1 => first | assumption | (repeat' (first | exact rks_nil | refine' rks_cons ?_))); (case kq2 => first | assumption | (repeat' (first | exact all7_nil | refine all7_cons ?_ ?_ | assumption | exact top_lt2 (by assumption) (by assumption) | exact top_lt3 (by assumption) (by assumption) (by assumption)))); intro r9z h9z tk9z F9z N9z hr9z; obtain ⟨t9z, hr9z⟩ := hr9z; subst hr9z; (try dsimp only); (try k_sweep)))) | (with_reducible ((with_reducible show wpAny _ _ (PySem.call (Value.ref 461) _) _ _ _); k_dflt (refine' useO (law_part _ _ _ _ _ _ _ ?kq1 ?kq2) ?k1 ?k2 ?k3 ?k4 ?k5 ?kK ?kp ?kd ?ku ?_; (case k1 => k_asm); (case k2 => k_asm); (case k3 => k_asm); (case k4 => k_asm); (case k5 => k_asm); (case kK => first | exact rfl | assumption); (case kp => exact ⟨_, _, _, by k_mem, by assumption, by assumption⟩); (case kd => ktr_room); (case ku => ktr_units); (case kq1 => decide); (case kq2 => decide); intro r9z nw9z h9z tk9z F9z N9z hr9z; obtain ⟨k9z, t9z, hr9z, hk9z, hm9z, hs9z⟩ := hr9z; subst hr9z; have hi9z := hs9z.2; (try dsimp only); (try k_sweep))))) | (with_reducible ((with_reducible show wpAny _ _ (PySem.compareOp PySem.CmpOp.NotIn (PySem.Value.str _ _) (PySem.Value.ref _)) _ _ _); (k_dflt (refine' nin_top ?N ?m ?_; (case N => k_asm); (case m => k_mem))))) | (with_reducible ((with_reducible show wpAny _ _ (PySem.compareOp PySem.CmpOp.Eq (PySem.Value.str _ _) (PySem.Value.str _ _)) _ _ _); ((with_reducible first | refine eq_rn0 ?_ | (refine eq_rn ?e ?_; (case e => (first | assumption | exact top_ab_c _ _ _ | exact top_a_bc _ _ _ | exact top_one _ | exact top_aa _ | (simp only [top_one, top_two, top_three, top_four]; done) | (simp only [top_one, top_two, top_three, top_four]; omega)))))))) | (with_reducible ((with_reducible show wpAny _ _ (PySem.compareOp PySem.CmpOp.NotEq (PySem.Value.str _ _) (PySem.Value.str _ _)) _ _ _); ((with_reducible refine ne_rn ?e ?_); (case e => (first | assumption | exact top_ab_c _ _ _ | exact top_a_bc _ _ _ | exact top_one _ | exact top_aa _ | (simp only [top_one, top_two, top_three, top_four]; done) | (simp only [top_one, top_two, top_three, top_four]; omega)))))) | (with_reducible ((with_reducible show wpAny _ _ (PySem.compareOp PySem.CmpOp.NotEq (PySem.Value.int _ _) (PySem.Value.int _ _)) _ _ _); (k_dflt (refine' ne_max ?a ?b ?_; (case a => assumption); (case b => assumption))))) | (with_reducible ((with_reducible show wpAny _ _ (PySem.compareOp PySem.CmpOp.NotEq (PySem.Value.ref _) (PySem.Value.ref _)) _ _ _); (k_dflt (refine' ne_nil_nil ?N ?a ?b ?hu ?_; (case N => k_asm); (case a => k_mem); (case b => k_mem); (case hu => first | ke_room | ktr_units))))) | ((with_reducible show wpAny _ _ (PySem.eval (PySem.Expr.Call (PySem.Expr.Name _ _) _ _) _) _ _ _); (refine Call_ ?_)) | (with_reducible ((with_reducible show wpAny _ _ (PySem.call (PySem.Value.builtin "list.index") _) _ _ _); (k_dflt (refine' rk_indexL ?N ?m ?hs ?i ?_; (case N => k_asm); (case m => k_mem); (case hs => first | assumption | exact rkAre); (case i => first | assumption | exact top_lt3 (by assumption) (by assumption) (by assumption))); intro t9z k9z))) | (with_reducible ((with_reducible show wpAny _ _ (getMethod (Value.ref _) (PySem.Str.ofString "index") _) _ _ _); k_dflt (refine' kl_method ?N ?m PySem.F.slot_list_index PySem.F.type_list_index ?_; (case N => k_asm); (case m => k_mem)))) | (with_reducible ((with_reducible show wpAny _ _ (newList (List.cons (Value.str _ _) _)) _ _ _); k_dflt (refine' newList_ab ?k0 ?k1 ?k2 ?_ ?k3; (case k0 => first | with_reducible exact rkAre | (with_reducible ((repeat' (first | exact rks_nil | refine' rks_cons ?_)); done))); (case k1 => k_asm); (case k2 => k_asm); (case k3 => (simp only [List.length_cons, List.length_nil, sizeLine_eq]; omega)); k_whole); intro v' s' l9y h9y F9y N9y l9y; (try k_lt l9y); (try k_sweep))) | (with_reducible ((with_reducible show wpAny _ _ (PySem.newList _) _ _ _); (k_dflt (refine' newList_K ?k1 ?k2 ?_ ?k3; (case k1 => k_asm); (case k2 => k_asm); (case k3 => (simp only [List.length_cons, List.length_nil, sizeLine_eq]; omega)); k_whole); intro l9y h9y F9y N9y l9y; (try k_lt l9y); (try k_sweep)))) | (with_reducible ((with_reducible show wpAny _ _ (subscriptTail _ _ (Value.ref _) (Value.int _ _)) _ _ _); k_dflt (refine' rk_itemL ?N ?m ?hs ?h0 ?h1 ?_; (case N => k_asm); (case m => (refine RowStep.sub (by assumption) (by k_mem) ?_; k_ne)); (case hs => first | assumption | exact rkAre); (case h0 => omega); (case h1 => omega)); intro t9z)) | (with_reducible (first | with_reducible refine ite_ff ?_ | with_reducible refine ite_tt ?_)) | ((with_reducible show wpAny _ _ (PySem.execs (List.cons _ _) _) _ _ _); walk1; (try (refine gen_s ?_; intro tkG; (try dsimp only); (try k_fold)))) | (walk1; (try dsimp only)) | (dsimp only; walk1) | (leave1; (try dsimp only)) | fail "no step")
    k_dflt (refine tup_comp (by k_asm) (by with_unfolding_all rfl) (by decide) (by rfl) (by decide) (by rfl) ?_)
    repeat' ((fail_if_success (with_reducible show wpAny _ _ (PySem.exec (PySem.Stmt.While _ _ _ _) _) _ _ _)); (fail_if_success (with_reducible show wpAny _ _ (PySem.exec (PySem.Stmt.For _ _ _ _ _) _) _ _ _)); (fail_if_success (with_reducible show wpAny _ _ (PySem.exec (PySem.Stmt.Assign _ (PySem.Expr.ListComp _ _ _ _) _) _) _ _ _)); (fail_if_success (with_reducible show wpAny _ _ (PySem.eval (PySem.Expr.ListComp _ _ _ _) _) _ _ _)); (fail_if_success (with_reducible show LCg.CompSrc _ _ _ _ _ _ _ _ _ _ _ _ _ _)); (fail_if_success (with_reducible show LCt.CompSrcT _ _ _ _ _ _ _ _ _ _ _ _ _ _ _)); (fail_if_success (with_reducible show LCg.CompEnd _ _ _ _ _ _ _ _ _ _ _ _ _ _)); (fail_if_success (with_reducible show KswEnd _ _ _ _ _ _ _ _ _ _ _ _)); (fail_if_success (with_reducible show UnrEnd _ _ _ _ _ _ _)); (fail_if_success (with_reducible show wpAny _ _ (PySem.call (Value.ref 440) _) _ _ _)); (fail_if_success (with_reducible show wpAny _ _ (PySem.call (Value.ref 447) _) _ _ _)); (fail_if_success (with_reducible show wpAny _ _ (PySem.call (Value.ref 475) _) _ _ _)); (fail_if_success (with_reducible show wpAny _ _ (PySem.call (Value.ref 468) _) _ _ _)); (fail_if_success (with_reducible show wpAny _ _ (PySem.call (Value.ref 454) _) _ _ _)); first | (k_unfold; (try dsimp only)) | (k_end; wrow_close) | ((with_reducible show wpAny _ _ (PySem.call (Value.ref _) _) _ _ _); first | (with_reducible ((with_reducible show wpAny _ _ (PySem.call (Value.ref 339) _) _ _ _); k_dflt (refine' useV (common_kind _ _ _ _ _ _ _ _ ?kq1 ?kq2) ?k1 ?k2 ?k3 ?k4 ?k5 ?kK ?kp ?kd ?ku ?_; (case k1 => k_asm); (case k2 => k_asm); (case k3 => k_asm); (case k4 => k_asm); (case k5 => k_asm); (case kK => first | exact rfl | assumption); (case kp => first | k_mem | exact .tail _ (by assumption)); (case kd => ktr_room); (case ku => ktr_units); (case kq1 => first | assumption | (repeat' (first | exact rks_nil | refine' rks_cons ?_))); (case kq2 => first | assumption | (repeat' (first | exact all7_nil | refine all7_cons ?_ ?_ | assumption | exact top_lt2 (by assumption) (by assumption) | exact top_lt3 (by assumption) (by assumption) (by assumption)))); intro r9z h9z tk9z F9z N9z hr9z; obtain ⟨t9z, hr9z⟩ := hr9z; subst hr9z; (try dsimp only); (try k_sweep)))) | (with_reducible ((with_reducible show wpAny _ _ (PySem.call (Value.ref 461) _) _ _ _); k_dflt (refine' useO (law_part _ _ _ _ _ _ _ ?kq1 ?kq2) ?k1 ?k2 ?k3 ?k4 ?k5 ?kK ?kp ?kd ?ku ?_; (case k1 => k_asm); (case k2 => k_asm); (case k3 => k_asm); (case k4 => k_asm); (case k5 => k_asm); (case kK => first | exact rfl | assumption); (case kp => exact ⟨_, _, _, by k_mem, by assumption, by assumption⟩); (case kd => ktr_room); (case ku => ktr_units); (case kq1 => decide); (case kq2 => decide); intro r9z nw9z h9z tk9z F9z N9z hr9z; obtain ⟨k9z, t9z, hr9z, hk9z, hm9z, hs9z⟩ := hr9z; subst hr9z; have hi9z := hs9z.2; (try dsimp only); (try k_sweep))))) | (with_reducible ((with_reducible show wpAny _ _ (PySem.compareOp PySem.CmpOp.NotIn (PySem.Value.str _ _) (PySem.Value.ref _)) _ _ _); (k_dflt (refine' nin_top ?N ?m ?_; (case N => k_asm); (case m => k_mem))))) | (with_reducible ((with_reducible show wpAny _ _ (PySem.compareOp PySem.CmpOp.Eq (PySem.Value.str _ _) (PySem.Value.str _ _)) _ _ _); ((with_reducible first | refine eq_rn0 ?_ | (refine eq_rn ?e ?_; (case e => (first | assumption | exact top_ab_c _ _ _ | exact top_a_bc _ _ _ | exact top_one _ | exact top_aa _ | (simp only [top_one, top_two, top_three, top_four]; done) | (simp only [top_one, top_two, top_three, top_four]; omega)))))))) | (with_reducible ((with_reducible show wpAny _ _ (PySem.compareOp PySem.CmpOp.NotEq (PySem.Value.str _ _) (PySem.Value.str _ _)) _ _ _); ((with_reducible refine ne_rn ?e ?_); (case e => (first | assumption | exact top_ab_c _ _ _ | exact top_a_bc _ _ _ | exact top_one _ | exact top_aa _ | (simp only [top_one, top_two, top_three, top_four]; done) | (simp only [top_one, top_two, top_three, top_four]; omega)))))) | (with_reducible ((with_reducible show wpAny _ _ (PySem.compareOp PySem.CmpOp.NotEq (PySem.Value.int _ _) (PySem.Value.int _ _)) _ _ _); (k_dflt (refine' ne_max ?a ?b ?_; (case a => assumption); (case b => assumption))))) | (with_reducible ((with_reducible show wpAny _ _ (PySem.compareOp PySem.CmpOp.NotEq (PySem.Value.ref _) (PySem.Value.ref _)) _ _ _); (k_dflt (refine' ne_nil_nil ?N ?a ?b ?hu ?_; (case N => k_asm); (case a => k_mem); (case b => k_mem); (case hu => first | ke_room | ktr_units))))) | ((with_reducible show wpAny _ _ (PySem.eval (PySem.Expr.Call (PySem.Expr.Name _ _) _ _) _) _ _ _); (refine Call_ ?_)) | (with_reducible ((with_reducible show wpAny _ _ (PySem.call (PySem.Value.builtin "list.index") _) _ _ _); (k_dflt (refine' rk_indexL ?N ?m ?hs ?i ?_; (case N => k_asm); (case m => k_mem); (case hs => first | assumption | exact rkAre); (case i => first | assumption | exact top_lt3 (by assumption) (by assumption) (by assumption))); intro t9z k9z))) | (with_reducible ((with_reducible show wpAny _ _ (getMethod (Value.ref _) (PySem.Str.ofString "index") _) _ _ _); k_dflt (refine' kl_method ?N ?m PySem.F.slot_list_index PySem.F.type_list_index ?_; (case N => k_asm); (case m => k_mem)))) | (with_reducible ((with_reducible show wpAny _ _ (newList (List.cons (Value.str _ _) _)) _ _ _); k_dflt (refine' newList_ab ?k0 ?k1 ?k2 ?_ ?k3; (case k0 => first | with_reducible exact rkAre | (with_reducible ((repeat' (first | exact rks_nil | refine' rks_cons ?_)); done))); (case k1 => k_asm); (case k2 => k_asm); (case k3 => (simp only [List.length_cons, List.length_nil, sizeLine_eq]; omega)); k_whole); intro v' s' l9y h9y F9y N9y l9y; (try k_lt l9y); (try k_sweep))) | (with_reducible ((with_reducible show wpAny _ _ (PySem.newList _) _ _ _); (k_dflt (refine' newList_K ?k1 ?k2 ?_ ?k3; (case k1 => k_asm); (case k2 => k_asm); (case k3 => (simp only [List.length_cons, List.length_nil, sizeLine_eq]; omega)); k_whole); intro l9y h9y F9y N9y l9y; (try k_lt l9y); (try k_sweep)))) | (with_reducible ((with_reducible show wpAny _ _ (subscriptTail _ _ (Value.ref _) (Value.int _ _)) _ _ _); k_dflt (refine' rk_itemL ?N ?m ?hs ?h0 ?h1 ?_; (case N => k_asm); (case m => (refine RowStep.sub (by assumption) (by k_mem) ?_; k_ne)); (case hs => first | assumption | exact rkAre); (case h0 => omega); (case h1 => omega)); intro t9z)) | (with_reducible (first | with_reducible refine ite_ff ?_ | with_reducible refine ite_tt ?_)) | ((with_reducible show wpAny _ _ (PySem.execs (List.cons _ _) _) _ _ _); walk1; (try (refine gen_s ?_; intro tkG; (try dsimp only); (try k_fold)))) | (walk1; (try dsimp only)) | (dsimp only; walk1) | (leave1; (try dsimp only)) | fail "no step")
    refine TupSrc.intro rfl (by k_asm) (by k_asm) (.head _) (by simp only [List.size_toArray, List.length_cons, List.length_nil, sizeLine_eq]; omega) (fun g2 => ?_)
    refine comp_idx (rks_cons (rks_cons (rks_cons rks_nil))) (by (repeat' (first | exact all7_nil | refine all7_cons ?_ ?_ | assumption | exact top_lt2 (by assumption) (by assumption) | exact top_lt3 (by assumption) (by assumption) (by assumption)))) (.head _) ?_ ?_
    · intro i9 t9 ys I oI C oC D2 m₂ h9 tk9 E9 hi9 hC9 hx9 F9 N9
      repeat' ((fail_if_success (with_reducible show wpAny _ _ (PySem.exec (PySem.Stmt.While _ _ _ _) _) _ _ _)); (fail_if_success (with_reducible show wpAny _ _ (PySem.exec (PySem.Stmt.For _ _ _ _ _) _) _ _ _)); (fail_if_success (with_reducible show wpAny _ _ (PySem.exec (PySem.Stmt.Assign _ (PySem.Expr.ListComp _ _ _ _) _) _) _ _ _)); (fail_if_success (with_reducible show wpAny _ _ (PySem.eval (PySem.Expr.ListComp _ _ _ _) _) _ _ _)); (fail_if_success (with_reducible show LCg.CompSrc _ _ _ _ _ _ _ _ _ _ _ _ _ _)); (fail_if_success (with_reducible show LCt.CompSrcT _ _ _ _ _ _ _ _ _ _ _ _ _ _ _)); (fail_if_success (with_reducible show LCg.CompEnd _ _ _ _ _ _ _ _ _ _ _ _ _ _)); (fail_if_success (with_reducible show KswEnd _ _ _ _ _ _ _ _ _ _ _ _)); (fail_if_success (with_reducible show UnrEnd _ _ _ _ _ _ _)); (fail_if_success (with_reducible show wpAny _ _ (PySem.call (Value.ref 440) _) _ _ _)); (fail_if_success (with_reducible show wpAny _ _ (PySem.call (Value.ref 447) _) _ _ _)); (fail_if_success (with_reducible show wpAny _ _ (PySem.call (Value.ref 475) _) _ _ _)); (fail_if_success (with_reducible show wpAny _ _ (PySem.call (Value.ref 468) _) _ _ _)); (fail_if_success (with_reducible show wpAny _ _ (PySem.call (Value.ref 454) _) _ _ _)); first | (k_unfold; (try dsimp only)) | (k_end; wrow_close) | ((with_reducible show wpAny _ _ (PySem.call (Value.ref _) _) _ _ _); first | (with_reducible ((with_reducible show wpAny _ _ (PySem.call (Value.ref 339) _) _ _ _); k_dflt (refine' useV (common_kind _ _ _ _ _ _ _ _ ?kq1 ?kq2) ?k1 ?k2 ?k3 ?k4 ?k5 ?kK ?kp ?kd ?ku ?_; (case k1 => k_asm); (case k2 => k_asm); (case k3 => k_asm); (case k4 => k_asm); (case k5 => k_asm); (case kK => first | exact rfl | assumption); (case kp => first | k_mem | exact .tail _ (by assumption)); (case kd => ktr_room); (case ku => ktr_units); (case kq1 => first | assumption | (repeat' (first | exact rks_nil | refine' rks_cons ?_))); (case kq2 => first | assumption | (repeat' (first | exact all7_nil | refine all7_cons ?_ ?_ | assumption | exact top_lt2 (by assumption) (by assumption) | exact top_lt3 (by assumption) (by assumption) (by assumption)))); intro r9z h9z tk9z F9z N9z hr9z; obtain ⟨t9z, hr9z⟩ := hr9z; subst hr9z; (try dsimp only); (try k_sweep)))) | (with_reducible ((with_reducible show wpAny _ _ (PySem.call (Value.ref 461) _) _ _ _); k_dflt (refine' useO (law_part _ _ _ _ _ _ _ ?kq1 ?kq2) ?k1 ?k2 ?k3 ?k4 ?k5 ?kK ?kp ?kd ?ku ?_; (case k1 => k_asm); (case k2 => k_asm); (case k3 => k_asm); (case k4 => k_asm); (case k5 => k_asm); (case kK => first | exact rfl | assumption); (case kp => exact ⟨_, _, _, by k_mem, by assumption, by assumption⟩); (case kd => ktr_room); (case ku => ktr_units); (case kq1 => decide); (case kq2 => decide); intro r9z nw9z h9z tk9z F9z N9z hr9z; obtain ⟨k9z, t9z, hr9z, hk9z, hm9z, hs9z⟩ := hr9z; subst hr9z; have hi9z := hs9z.2; (try dsimp only); (try k_sweep))))) | (with_reducible ((with_reducible show wpAny _ _ (PySem.compareOp PySem.CmpOp.NotIn (PySem.Value.str _ _) (PySem.Value.ref _)) _ _ _); (k_dflt (refine' nin_top ?N ?m ?_; (case N => k_asm); (case m => k_mem))))) | (with_reducible ((with_reducible show wpAny _ _ (PySem.compareOp PySem.CmpOp.Eq (PySem.Value.str _ _) (PySem.Value.str _ _)) _ _ _); ((with_reducible first | refine eq_rn0 ?_ | (refine eq_rn ?e ?_; (case e => (first | assumption | exact top_ab_c _ _ _ | exact top_a_bc _ _ _ | exact top_one _ | exact top_aa _ | (simp only [top_one, top_two, top_three, top_four]; done) | (simp only [top_one, top_two, top_three, top_four]; omega)))))))) | (with_reducible ((with_reducible show wpAny _ _ (PySem.compareOp PySem.CmpOp.NotEq (PySem.Value.str _ _) (PySem.Value.str _ _)) _ _ _); ((with_reducible refine ne_rn ?e ?_); (case e => (first | assumption | exact top_ab_c _ _ _ | exact top_a_bc _ _ _ | exact top_one _ | exact top_aa _ | (simp only [top_one, top_two, top_three, top_four]; done) | (simp only [top_one, top_two, top_three, top_four]; omega)))))) | (with_reducible ((with_reducible show wpAny _ _ (PySem.compareOp PySem.CmpOp.NotEq (PySem.Value.int _ _) (PySem.Value.int _ _)) _ _ _); (k_dflt (refine' ne_max ?a ?b ?_; (case a => assumption); (case b => assumption))))) | (with_reducible ((with_reducible show wpAny _ _ (PySem.compareOp PySem.CmpOp.NotEq (PySem.Value.ref _) (PySem.Value.ref _)) _ _ _); (k_dflt (refine' ne_nil_nil ?N ?a ?b ?hu ?_; (case N => k_asm); (case a => k_mem); (case b => k_mem); (case hu => first | ke_room | ktr_units))))) | ((with_reducible show wpAny _ _ (PySem.eval (PySem.Expr.Call (PySem.Expr.Name _ _) _ _) _) _ _ _); (refine Call_ ?_)) | (with_reducible ((with_reducible show wpAny _ _ (PySem.call (PySem.Value.builtin "list.index") _) _ _ _); (k_dflt (refine' rk_indexL ?N ?m ?hs ?i ?_; (case N => k_asm); (case m => k_mem); (case hs => first | assumption | exact rkAre); (case i => first | assumption | exact top_lt3 (by assumption) (by assumption) (by assumption))); intro t9z k9z))) | (with_reducible ((with_reducible show wpAny _ _ (getMethod (Value.ref _) (PySem.Str.ofString "index") _) _ _ _); k_dflt (refine' kl_method ?N ?m PySem.F.slot_list_index PySem.F.type_list_index ?_; (case N => k_asm); (case m => k_mem)))) | (with_reducible ((with_reducible show wpAny _ _ (newList (List.cons (Value.str _ _) _)) _ _ _); k_dflt (refine' newList_ab ?k0 ?k1 ?k2 ?_ ?k3; (case k0 => first | with_reducible exact rkAre | (with_reducible ((repeat' (first | exact rks_nil | refine' rks_cons ?_)); done))); (case k1 => k_asm); (case k2 => k_asm); (case k3 => (simp only [List.length_cons, List.length_nil, sizeLine_eq]; omega)); k_whole); intro v' s' l9y h9y F9y N9y l9y; (try k_lt l9y); (try k_sweep))) | (with_reducible ((with_reducible show wpAny _ _ (PySem.newList _) _ _ _); (k_dflt (refine' newList_K ?k1 ?k2 ?_ ?k3; (case k1 => k_asm); (case k2 => k_asm); (case k3 => (simp only [List.length_cons, List.length_nil, sizeLine_eq]; omega)); k_whole); intro l9y h9y F9y N9y l9y; (try k_lt l9y); (try k_sweep)))) | (with_reducible ((with_reducible show wpAny _ _ (subscriptTail _ _ (Value.ref _) (Value.int _ _)) _ _ _); k_dflt (refine' rk_itemL ?N ?m ?hs ?h0 ?h1 ?_; (case N => k_asm); (case m => (refine RowStep.sub (by assumption) (by k_mem) ?_; k_ne)); (case hs => first | assumption | exact rkAre); (case h0 => omega); (case h1 => omega)); intro t9z)) | (with_reducible (first | with_reducible refine ite_ff ?_ | with_reducible refine ite_tt ?_)) | ((with_reducible show wpAny _ _ (PySem.execs (List.cons _ _) _) _ _ _); walk1; (try (refine gen_s ?_; intro tkG; (try dsimp only); (try k_fold)))) | (walk1; (try dsimp only)) | (dsimp only; walk1) | (leave1; (try dsimp only)) | fail "no step")
      all_goals first | k_asm | exact ⟨_, _, _, rfl, by k_asm, by k_asm, rfl⟩
    · intro ys2 hI2
      intro D2 h9 tk9 F9 N9 o9
      obtain ⟨u0, u1, u2, rfl⟩ := ints3 hI2
      dsimp only
      repeat' ((fail_if_success (with_reducible show wpAny _ _ (PySem.exec (PySem.Stmt.While _ _ _ _) _) _ _ _)); (fail_if_success (with_reducible show wpAny _ _ (PySem.exec (PySem.Stmt.For _ _ _ _ _) _) _ _ _)); (fail_if_success (with_reducible show wpAny _ _ (PySem.exec (PySem.Stmt.Assign _ (PySem.Expr.ListComp _ _ _ _) _) _) _ _ _)); (fail_if_success (with_reducible show wpAny _ _ (PySem.eval (PySem.Expr.ListComp _ _ _ _) _) _ _ _)); (fail_if_success (with_reducible show LCg.CompSrc _ _ _ _ _ _ _ _ _ _ _ _ _ _)); (fail_if_success (with_reducible show LCt.CompSrcT _ _ _ _ _ _ _ _ _ _ _ _ _ _ _)); (fail_if_success (with_reducible show LCg.CompEnd _ _ _ _ _ _ _ _ _ _ _ _ _ _)); (fail_if_success (with_reducible show KswEnd _ _ _ _ _ _ _ _ _ _ _ _)); (fail_if_success (with_reducible show UnrEnd _ _ _ _ _ _ _)); (fail_if_success (with_reducible show wpAny _ _ (PySem.call (Value.ref 440) _) _ _ _)); (fail_if_success (with_reducible show wpAny _ _ (PySem.call (Value.ref 447) _) _ _ _)); (fail_if_success (with_reducible show wpAny _ _ (PySem.call (Value.ref 475) _) _ _ _)); (fail_if_success (with_reducible show wpAny _ _ (PySem.call (Value.ref 468) _) _ _ _)); (fail_if_success (with_reducible show wpAny _ _ (PySem.call (Value.ref 454) _) _ _ _)); first | (k_unfold; (try dsimp only)) | (k_end; wrow_close) | ((with_reducible show wpAny _ _ (PySem.call (Value.ref _) _) _ _ _); first | (with_reducible ((with_reducible show wpAny _ _ (PySem.call (Value.ref 339) _) _ _ _); k_dflt (refine' useV (common_kind _ _ _ _ _ _ _ _ ?kq1 ?kq2) ?k1 ?k2 ?k3 ?k4 ?k5 ?kK ?kp ?kd ?ku ?_; (case k1 => k_asm); (case k2 => k_asm); (case k3 => k_asm); (case k4 => k_asm); (case k5 => k_asm); (case kK => first | exact rfl | assumption); (case kp => first | k_mem | exact .tail _ (by assumption)); (case kd => ktr_room); (case ku => ktr_units); (case kq1 => first | assumption | (repeat' (first | exact rks_nil | refine' rks_cons ?_))); (case kq2 => first | assumption | (repeat' (first | exact all7_nil | refine all7_cons ?_ ?_ | assumption | exact top_lt2 (by assumption) (by assumption) | exact top_lt3 (by assumption) (by assumption) (by assumption)))); intro r9z h9z tk9z F9z N9z hr9z; obtain ⟨t9z, hr9z⟩ := hr9z; subst hr9z; (try dsimp only); (try k_sweep)))) | (with_reducible ((with_reducible show wpAny _ _ (PySem.call (Value.ref 461) _) _ _ _); k_dflt (refine' useO (law_part _ _ _ _ _ _ _ ?kq1 ?kq2) ?k1 ?k2 ?k3 ?k4 ?k5 ?kK ?kp ?kd ?ku ?_; (case k1 => k_asm); (case k2 => k_asm); (case k3 => k_asm); (case k4 => k_asm); (case k5 => k_asm); (case kK => first | exact rfl | assumption); (case kp => exact ⟨_, _, _, by k_mem, by assumption, by assumption⟩); (case kd => ktr_room); (case ku => ktr_units); (case kq1 => decide); (case kq2 => decide); intro r9z nw9z h9z tk9z F9z N9z hr9z; obtain ⟨k9z, t9z, hr9z, hk9z, hm9z, hs9z⟩ := hr9z; subst hr9z; have hi9z := hs9z.2; (try dsimp only); (try k_sweep))))) | (with_reducible ((with_reducible show wpAny _ _ (PySem.compareOp PySem.CmpOp.NotIn (PySem.Value.str _ _) (PySem.Value.ref _)) _ _ _); (k_dflt (refine' nin_top ?N ?m ?_; (case N => k_asm); (case m => k_mem))))) | (with_reducible ((with_reducible show wpAny _ _ (PySem.compareOp PySem.CmpOp.Eq (PySem.Value.str _ _) (PySem.Value.str _ _)) _ _ _); ((with_reducible first | refine eq_rn0 ?_ | (refine eq_rn ?e ?_; (case e => (first | assumption | exact top_ab_c _ _ _ | exact top_a_bc _ _ _ | exact top_one _ | exact top_aa _ | (simp only [top_one, top_two, top_three, top_four]; done) | (simp only [top_one, top_two, top_three, top_four]; omega)))))))) | (with_reducible ((with_reducible show wpAny _ _ (PySem.compareOp PySem.CmpOp.NotEq (PySem.Value.str _ _) (PySem.Value.str _ _)) _ _ _); ((with_reducible refine ne_rn ?e ?_); (case e => (first | assumption | exact top_ab_c _ _ _ | exact top_a_bc _ _ _ | exact top_one _ | exact top_aa _ | (simp only [top_one, top_two, top_three, top_four]; done) | (simp only [top_one, top_two, top_three, top_four]; omega)))))) | (with_reducible ((with_reducible show wpAny _ _ (PySem.compareOp PySem.CmpOp.NotEq (PySem.Value.int _ _) (PySem.Value.int _ _)) _ _ _); (k_dflt (refine' ne_max ?a ?b ?_; (case a => assumption); (case b => assumption))))) | (with_reducible ((with_reducible show wpAny _ _ (PySem.compareOp PySem.CmpOp.NotEq (PySem.Value.ref _) (PySem.Value.ref _)) _ _ _); (k_dflt (refine' ne_nil_nil ?N ?a ?b ?hu ?_; (case N => k_asm); (case a => k_mem); (case b => k_mem); (case hu => first | ke_room | ktr_units))))) | ((with_reducible show wpAny _ _ (PySem.eval (PySem.Expr.Call (PySem.Expr.Name _ _) _ _) _) _ _ _); (refine Call_ ?_)) | (with_reducible ((with_reducible show wpAny _ _ (PySem.call (PySem.Value.builtin "list.index") _) _ _ _); (k_dflt (refine' rk_indexL ?N ?m ?hs ?i ?_; (case N => k_asm); (case m => k_mem); (case hs => first | assumption | exact rkAre); (case i => first | assumption | exact top_lt3 (by assumption) (by assumption) (by assumption))); intro t9z k9z))) | (with_reducible ((with_reducible show wpAny _ _ (getMethod (Value.ref _) (PySem.Str.ofString "index") _) _ _ _); k_dflt (refine' kl_method ?N ?m PySem.F.slot_list_index PySem.F.type_list_index ?_; (case N => k_asm); (case m => k_mem)))) | (with_reducible ((with_reducible show wpAny _ _ (newList (List.cons (Value.str _ _) _)) _ _ _); k_dflt (refine' newList_ab ?k0 ?k1 ?k2 ?_ ?k3; (case k0 => first | with_reducible exact rkAre | (with_reducible ((repeat' (first | exact rks_nil | refine' rks_cons ?_)); done))); (case k1 => k_asm); (case k2 => k_asm); (case k3 => (simp only [List.length_cons, List.length_nil, sizeLine_eq]; omega)); k_whole); intro v' s' l9y h9y F9y N9y l9y; (try k_lt l9y); (try k_sweep))) | (with_reducible ((with_reducible show wpAny _ _ (PySem.newList _) _ _ _); (k_dflt (refine' newList_K ?k1 ?k2 ?_ ?k3; (case k1 => k_asm); (case k2 => k_asm); (case k3 => (simp only [List.length_cons, List.length_nil, sizeLine_eq]; omega)); k_whole); intro l9y h9y F9y N9y l9y; (try k_lt l9y); (try k_sweep)))) | (with_reducible ((with_reducible show wpAny _ _ (subscriptTail _ _ (Value.ref _) (Value.int _ _)) _ _ _); k_dflt (refine' rk_itemL ?N ?m ?hs ?h0 ?h1 ?_; (case N => k_asm); (case m => (refine RowStep.sub (by assumption) (by k_mem) ?_; k_ne)); (case hs => first | assumption | exact rkAre); (case h0 => omega); (case h1 => omega)); intro t9z)) | (with_reducible (first | with_reducible refine ite_ff ?_ | with_reducible refine ite_tt ?_)) | ((with_reducible show wpAny _ _ (PySem.execs (List.cons _ _) _) _ _ _); walk1; (try (refine gen_s ?_; intro tkG; (try dsimp only); (try k_fold)))) | (walk1; (try dsimp only)) | (dsimp only; walk1) | (leave1; (try dsimp only)) | fail "no step")
      (rename Fr _ _ _ _ => lF'); (with_unfolding_all refine' For_invVF lF' ?k1 ?k2 ?_ (hE := hE); (case k1 => exact rfl); (case k2 => exact rfl); k_whole)
      repeat' ((fail_if_success (with_reducible show wpAny _ _ (PySem.pyIter _) _ _ _)); first | ((with_reducible show wpAny _ _ (PySem.call (Value.ref _) _) _ _ _); first | (with_reducible ((with_reducible show wpAny _ _ (PySem.call (Value.ref 339) _) _ _ _); k_dflt (refine' useV (common_kind _ _ _ _ _ _ _ _ ?kq1 ?kq2) ?k1 ?k2 ?k3 ?k4 ?k5 ?kK ?kp ?kd ?ku ?_; (case k1 => k_asm); (case k2 => k_asm); (case k3 => k_asm); (case k4 => k_asm); (case k5 => k_asm); (case kK => first | exact rfl | assumption); (case kp => first | k_mem | exact .tail _ (by assumption)); (case kd => ktr_room); (case ku => ktr_units); (case kq1 => first | assumption | (repeat' (first | exact rks_nil | refine' rks_cons ?_))); (case kq2 => first | assumption | (repeat' (first | exact all7_nil | refine all7_cons ?_ ?_ | assumption | exact top_lt2 (by assumption) (by assumption) | exact top_lt3 (by assumption) (by assumption) (by assumption)))); intro r9z h9z tk9z F9z N9z hr9z; obtain ⟨t9z, hr9z⟩ := hr9z; subst hr9z; (try dsimp only); (try k_sweep)))) | (with_reducible ((with_reducible show wpAny _ _ (PySem.call (Value.ref 461) _) _ _ _); k_dflt (refine' useO (law_part _ _ _ _ _ _ _ ?kq1 ?kq2) ?k1 ?k2 ?k3 ?k4 ?k5 ?kK ?kp ?kd ?ku ?_; (case k1 => k_asm); (case k2 => k_asm); (case k3 => k_asm); (case k4 => k_asm); (case k5 => k_asm); (case kK => first | exact rfl | assumption); (case kp => exact ⟨_, _, _, by k_mem, by assumption, by assumption⟩); (case kd => ktr_room); (case ku => ktr_units); (case kq1 => decide); (case kq2 => decide); intro r9z nw9z h9z tk9z F9z N9z hr9z; obtain ⟨k9z, t9z, hr9z, hk9z, hm9z, hs9z⟩ := hr9z; subst hr9z; have hi9z := hs9z.2; (try dsimp only); (try k_sweep))))) | (with_reducible ((with_reducible show wpAny _ _ (PySem.compareOp PySem.CmpOp.NotIn (PySem.Value.str _ _) (PySem.Value.ref _)) _ _ _); (k_dflt (refine' nin_top ?N ?m ?_; (case N => k_asm); (case m => k_mem))))) | (with_reducible ((with_reducible show wpAny _ _ (PySem.compareOp PySem.CmpOp.Eq (PySem.Value.str _ _) (PySem.Value.str _ _)) _ _ _); ((with_reducible first | refine eq_rn0 ?_ | (refine eq_rn ?e ?_; (case e => (first | assumption | exact top_ab_c _ _ _ | exact top_a_bc _ _ _ | exact top_one _ | exact top_aa _ | (simp only [top_one, top_two, top_three, top_four]; done) | (simp only [top_one, top_two, top_three, top_four]; omega)))))))) | (with_reducible ((with_reducible show wpAny _ _ (PySem.compareOp PySem.CmpOp.NotEq (PySem.Value.str _ _) (PySem.Value.str _ _)) _ _ _); ((with_reducible refine ne_rn ?e ?_); (case e => (first | assumption | exact top_ab_c _ _ _ | exact top_a_bc _ _ _ | exact top_one _ | exact top_aa _ | (simp only [top_one, top_two, top_three, top_four]; done) | (simp only [top_one, top_two, top_three, top_four]; omega)))))) | (with_reducible ((with_reducible show wpAny _ _ (PySem.compareOp PySem.CmpOp.NotEq (PySem.Value.int _ _) (PySem.Value.int _ _)) _ _ _); (k_dflt (refine' ne_max ?a ?b ?_; (case a => assumption); (case b => assumption))))) | (with_reducible ((with_reducible show wpAny _ _ (PySem.compareOp PySem.CmpOp.NotEq (PySem.Value.ref _) (PySem.Value.ref _)) _ _ _); (k_dflt (refine' ne_nil_nil ?N ?a ?b ?hu ?_; (case N => k_asm); (case a => k_mem); (case b => k_mem); (case hu => first | ke_room | ktr_units))))) | ((with_reducible show wpAny _ _ (PySem.eval (PySem.Expr.Call (PySem.Expr.Name _ _) _ _) _) _ _ _); (refine Call_ ?_)) | (with_reducible ((with_reducible show wpAny _ _ (PySem.call (PySem.Value.builtin "list.index") _) _ _ _); (k_dflt (refine' rk_indexL ?N ?m ?hs ?i ?_; (case N => k_asm); (case m => k_mem); (case hs => first | assumption | exact rkAre); (case i => first | assumption | exact top_lt3 (by assumption) (by assumption) (by assumption))); intro t9z k9z))) | (with_reducible ((with_reducible show wpAny _ _ (getMethod (Value.ref _) (PySem.Str.ofString "index") _) _ _ _); k_dflt (refine' kl_method ?N ?m PySem.F.slot_list_index PySem.F.type_list_index ?_; (case N => k_asm); (case m => k_mem)))) | (with_reducible ((with_reducible show wpAny _ _ (newList (List.cons (Value.str _ _) _)) _ _ _); k_dflt (refine' newList_ab ?k0 ?k1 ?k2 ?_ ?k3; (case k0 => first | with_reducible exact rkAre | (with_reducible ((repeat' (first | exact rks_nil | refine' rks_cons ?_)); done))); (case k1 => k_asm); (case k2 => k_asm); (case k3 => (simp only [List.length_cons, List.length_nil, sizeLine_eq]; omega)); k_whole); intro v' s' l9y h9y F9y N9y l9y; (try k_lt l9y); (try k_sweep))) | (with_reducible ((with_reducible show wpAny _ _ (PySem.newList _) _ _ _); (k_dflt (refine' newList_K ?k1 ?k2 ?_ ?k3; (case k1 => k_asm); (case k2 => k_asm); (case k3 => (simp only [List.length_cons, List.length_nil, sizeLine_eq]; omega)); k_whole); intro l9y h9y F9y N9y l9y; (try k_lt l9y); (try k_sweep)))) | (with_reducible ((with_reducible show wpAny _ _ (subscriptTail _ _ (Value.ref _) (Value.int _ _)) _ _ _); k_dflt (refine' rk_itemL ?N ?m ?hs ?h0 ?h1 ?_; (case N => k_asm); (case m => (refine RowStep.sub (by assumption) (by k_mem) ?_; k_ne)); (case hs => first | assumption | exact rkAre); (case h0 => omega); (case h1 => omega)); intro t9z)) | (with_reducible (first | with_reducible refine ite_ff ?_ | with_reducible refine ite_tt ?_)) | ((with_reducible show wpAny _ _ (PySem.execs (List.cons _ _) _) _ _ _); walk1; (try (refine gen_s ?_; intro tkG; (try dsimp only); (try k_fold)))) | (walk1; (try dsimp only)) | (dsimp only; walk1))
      refine perm_loop (T := top [i, j, k]) rfl (by k_asm) (by k_asm) (.head _) ?_ ?_ ?_
      · (repeat' (first | exact List.forall_mem_nil _ | (refine' List.forall_mem_cons.mpr ⟨⟨_, _, _, _, rfl, ?p1, ?p2, ?p3, ?p4⟩, ?_⟩; (case p1 => k_mem); (case p2 => first | assumption | (repeat' (first | exact rks_nil | refine' rks_cons ?_))); (case p3 => (repeat' (first | exact all7_nil | refine all7_cons ?_ ?_ | assumption | exact top_lt2 (by assumption) (by assumption) | exact top_lt3 (by assumption) (by assumption) (by assumption)))); (case p4 => first | exact rfl | exact top_acb _ _ _ | exact top_bac _ _ _ | exact top_bca _ _ _ | exact top_cab _ _ _ | exact top_cba _ _ _ | exact top_abca _ _ _))))
      · intro l lvs is c8 nw8 h8 tk8 I8 it8 E8 hl8 hs8 h78 hT8 F8 N8
        repeat' ((fail_if_success (with_reducible show wpAny _ _ (PySem.exec (PySem.Stmt.While _ _ _ _) _) _ _ _)); (fail_if_success (with_reducible show wpAny _ _ (PySem.exec (PySem.Stmt.For _ _ _ _ _) _) _ _ _)); (fail_if_success (with_reducible show wpAny _ _ (PySem.exec (PySem.Stmt.Assign _ (PySem.Expr.ListComp _ _ _ _) _) _) _ _ _)); (fail_if_success (with_reducible show wpAny _ _ (PySem.eval (PySem.Expr.ListComp _ _ _ _) _) _ _ _)); (fail_if_success (with_reducible show LCg.CompSrc _ _ _ _ _ _ _ _ _ _ _ _ _ _)); (fail_if_success (with_reducible show LCt.CompSrcT _ _ _ _ _ _ _ _ _ _ _ _ _ _ _)); (fail_if_success (with_reducible show LCg.CompEnd _ _ _ _ _ _ _ _ _ _ _ _ _ _)); (fail_if_success (with_reducible show KswEnd _ _ _ _ _ _ _ _ _ _ _ _)); (fail_if_success (with_reducible show UnrEnd _ _ _ _ _ _ _)); (fail_if_success (with_reducible show wpAny _ _ (PySem.call (Value.ref 440) _) _ _ _)); (fail_if_success (with_reducible show wpAny _ _ (PySem.call (Value.ref 447) _) _ _ _)); (fail_if_success (with_reducible show wpAny _ _ (PySem.call (Value.ref 475) _) _ _ _)); (fail_if_success (with_reducible show wpAny _ _ (PySem.call (Value.ref 468) _) _ _ _)); (fail_if_success (with_reducible show wpAny _ _ (PySem.call (Value.ref 454) _) _ _ _)); first | (k_unfold; (try dsimp only)) | (k_end; wrow_close) | ((with_reducible show wpAny _ _ (PySem.call (Value.ref _) _) _ _ _); first | (with_reducible ((with_reducible show wpAny _ _ (PySem.call (Value.ref 339) _) _ _ _); k_dflt (refine' useV (common_kind _ _ _ _ _ _ _ _ ?kq1 ?kq2) ?k1 ?k2 ?k3 ?k4 ?k5 ?kK ?kp ?kd ?ku ?_; (case k1 => k_asm); (case k2 => k_asm); (case k3 => k_asm); (case k4 => k_asm); (case k5 => k_asm); (case kK => first | exact rfl | assumption); (case kp => first | k_mem | exact .tail _ (by assumption)); (case kd => ktr_room); (case ku => ktr_units); (case kq1 => first | assumption | (repeat' (first | exact rks_nil | refine' rks_cons ?_))); (case kq2 => first | assumption | (repeat' (first | exact all7_nil | refine all7_cons ?_ ?_ | assumption | exact top_lt2 (by assumption) (by assumption) | exact top_lt3 (by assumption) (by assumption) (by assumption)))); intro r9z h9z tk9z F9z N9z hr9z; obtain ⟨t9z, hr9z⟩ := hr9z; subst hr9z; (try dsimp only); (try k_sweep)))) | (with_reducible ((with_reducible show wpAny _ _ (PySem.call (Value.ref 461) _) _ _ _); k_dflt (refine' useO (law_part _ _ _ _ _ _ _ ?kq1 ?kq2) ?k1 ?k2 ?k3 ?k4 ?k5 ?kK ?kp ?kd ?ku ?_; (case k1 => k_asm); (case k2 => k_asm); (case k3 => k_asm); (case k4 => k_asm); (case k5 => k_asm); (case kK => first | exact rfl | assumption); (case kp => exact ⟨_, _, _, by k_mem, by assumption, by assumption⟩); (case kd => ktr_room); (case ku => ktr_units); (case kq1 => decide); (case kq2 => decide); intro r9z nw9z h9z tk9z F9z N9z hr9z; obtain ⟨k9z, t9z, hr9z, hk9z, hm9z, hs9z⟩ := hr9z; subst hr9z; have hi9z := hs9z.2; (try dsimp only); (try k_sweep))))) | (with_reducible ((with_reducible show wpAny _ _ (PySem.compareOp PySem.CmpOp.NotIn (PySem.Value.str _ _) (PySem.Value.ref _)) _ _ _); (k_dflt (refine' nin_top ?N ?m ?_; (case N => k_asm); (case m => k_mem))))) | (with_reducible ((with_reducible show wpAny _ _ (PySem.compareOp PySem.CmpOp.Eq (PySem.Value.str _ _) (PySem.Value.str _ _)) _ _ _); ((with_reducible first | refine eq_rn0 ?_ | (refine eq_rn ?e ?_; (case e => (first | assumption | exact top_ab_c _ _ _ | exact top_a_bc _ _ _ | exact top_one _ | exact top_aa _ | (simp only [top_one, top_two, top_three, top_four]; done) | (simp only [top_one, top_two, top_three, top_four]; omega)))))))) | (with_reducible ((with_reducible show wpAny _ _ (PySem.compareOp PySem.CmpOp.NotEq (PySem.Value.str _ _) (PySem.Value.str _ _)) _ _ _); ((with_reducible refine ne_rn ?e ?_); (case e => (first | assumption | exact top_ab_c _ _ _ | exact top_a_bc _ _ _ | exact top_one _ | exact top_aa _ | (simp only [top_one, top_two, top_three, top_four]; done) | (simp only [top_one, top_two, top_three, top_four]; omega)))))) | (with_reducible ((with_reducible show wpAny _ _ (PySem.compareOp PySem.CmpOp.NotEq (PySem.Value.int _ _) (PySem.Value.int _ _)) _ _ _); (k_dflt (refine' ne_max ?a ?b ?_; (case a => assumption); (case b => assumption))))) | (with_reducible ((with_reducible show wpAny _ _ (PySem.compareOp PySem.CmpOp.NotEq (PySem.Value.ref _) (PySem.Value.ref _)) _ _ _); (k_dflt (refine' ne_nil_nil ?N ?a ?b ?hu ?_; (case N => k_asm); (case a => k_mem); (case b => k_mem); (case hu => first | ke_room | ktr_units))))) | ((with_reducible show wpAny _ _ (PySem.eval (PySem.Expr.Call (PySem.Expr.Name _ _) _ _) _) _ _ _); (refine Call_ ?_)) | (with_reducible ((with_reducible show wpAny _ _ (PySem.call (PySem.Value.builtin "list.index") _) _ _ _); (k_dflt (refine' rk_indexL ?N ?m ?hs ?i ?_; (case N => k_asm); (case m => k_mem); (case hs => first | assumption | exact rkAre); (case i => first | assumption | exact top_lt3 (by assumption) (by assumption) (by assumption))); intro t9z k9z))) | (with_reducible ((with_reducible show wpAny _ _ (getMethod (Value.ref _) (PySem.Str.ofString "index") _) _ _ _); k_dflt (refine' kl_method ?N ?m PySem.F.slot_list_index PySem.F.type_list_index ?_; (case N => k_asm); (case m => k_mem)))) | (with_reducible ((with_reducible show wpAny _ _ (newList (List.cons (Value.str _ _) _)) _ _ _); k_dflt (refine' newList_ab ?k0 ?k1 ?k2 ?_ ?k3; (case k0 => first | with_reducible exact rkAre | (with_reducible ((repeat' (first | exact rks_nil | refine' rks_cons ?_)); done))); (case k1 => k_asm); (case k2 => k_asm); (case k3 => (simp only [List.length_cons, List.length_nil, sizeLine_eq]; omega)); k_whole); intro v' s' l9y h9y F9y N9y l9y; (try k_lt l9y); (try k_sweep))) | (with_reducible ((with_reducible show wpAny _ _ (PySem.newList _) _ _ _); (k_dflt (refine' newList_K ?k1 ?k2 ?_ ?k3; (case k1 => k_asm); (case k2 => k_asm); (case k3 => (simp only [List.length_cons, List.length_nil, sizeLine_eq]; omega)); k_whole); intro l9y h9y F9y N9y l9y; (try k_lt l9y); (try k_sweep)))) | (with_reducible ((with_reducible show wpAny _ _ (subscriptTail _ _ (Value.ref _) (Value.int _ _)) _ _ _); k_dflt (refine' rk_itemL ?N ?m ?hs ?h0 ?h1 ?_; (case N => k_asm); (case m => (refine RowStep.sub (by assumption) (by k_mem) ?_; k_ne)); (case hs => first | assumption | exact rkAre); (case h0 => omega); (case h1 => omega)); intro t9z)) | (with_reducible (first | with_reducible refine ite_ff ?_ | with_reducible refine ite_tt ?_)) | ((with_reducible show wpAny _ _ (PySem.execs (List.cons _ _) _) _ _ _); walk1; (try (refine gen_s ?_; intro tkG; (try dsimp only); (try k_fold)))) | (walk1; (try dsimp only)) | (dsimp only; walk1) | (leave1; (try dsimp only)) | fail "no step")
        all_goals first | rfl | k_asm | exact ⟨rfl, _, _, rfl, by k_asm, by k_asm⟩
      · intro u8 h8 tk8 F8 N8
        repeat' ((fail_if_success (with_reducible show wpAny _ _ (PySem.exec (PySem.Stmt.While _ _ _ _) _) _ _ _)); (fail_if_success (with_reducible show wpAny _ _ (PySem.exec (PySem.Stmt.For _ _ _ _ _) _) _ _ _)); (fail_if_success (with_reducible show wpAny _ _ (PySem.exec (PySem.Stmt.Assign _ (PySem.Expr.ListComp _ _ _ _) _) _) _ _ _)); (fail_if_success (with_reducible show wpAny _ _ (PySem.eval (PySem.Expr.ListComp _ _ _ _) _) _ _ _)); (fail_if_success (with_reducible show LCg.CompSrc _ _ _ _ _ _ _ _ _ _ _ _ _ _)); (fail_if_success (with_reducible show LCt.CompSrcT _ _ _ _ _ _ _ _ _ _ _ _ _ _ _)); (fail_if_success (with_reducible show LCg.CompEnd _ _ _ _ _ _ _ _ _ _ _ _ _ _)); (fail_if_success (with_reducible show KswEnd _ _ _ _ _ _ _ _ _ _ _ _)); (fail_if_success (with_reducible show UnrEnd _ _ _ _ _ _ _)); (fail_if_success (with_reducible show wpAny _ _ (PySem.call (Value.ref 440) _) _ _ _)); (fail_if_success (with_reducible show wpAny _ _ (PySem.call (Value.ref 447) _) _ _ _)); (fail_if_success (with_reducible show wpAny _ _ (PySem.call (Value.ref 475) _) _ _ _)); (fail_if_success (with_reducible show wpAny _ _ (PySem.call (Value.ref 468) _) _ _ _)); (fail_if_success (with_reducible show wpAny _ _ (PySem.call (Value.ref 454) _) _ _ _)); first | (k_unfold; (try dsimp only)) | (k_end; wrow_close) | ((with_reducible show wpAny _ _ (PySem.call (Value.ref _) _) _ _ _); first | (with_reducible ((with_reducible show wpAny _ _ (PySem.call (Value.ref 339) _) _ _ _); k_dflt (refine' useV (common_kind _ _ _ _ _ _ _ _ ?kq1 ?kq2) ?k1 ?k2 ?k3 ?k4 ?k5 ?kK ?kp ?kd ?ku ?_; (case k1 => k_asm); (case k2 => k_asm); (case k3 => k_asm); (case k4 => k_asm); (case k5 => k_asm); (case kK => first | exact rfl | assumption); (case kp => first | k_mem | exact .tail _ (by assumption)); (case kd => ktr_room); (case ku => ktr_units); (case kq1 => first | assumption | (repeat' (first | exact rks_nil | refine' rks_cons ?_))); (case kq2 => first | assumption | (repeat' (first | exact all7_nil | refine all7_cons ?_ ?_ | assumption | exact top_lt2 (by assumption) (by assumption) | exact top_lt3 (by assumption) (by assumption) (by assumption)))); intro r9z h9z tk9z F9z N9z hr9z; obtain ⟨t9z, hr9z⟩ := hr9z; subst hr9z; (try dsimp only); (try k_sweep)))) | (with_reducible ((with_reducible show wpAny _ _ (PySem.call (Value.ref 461) _) _ _ _); k_dflt (refine' useO (law_part _ _ _ _ _ _ _ ?kq1 ?kq2) ?k1 ?k2 ?k3 ?k4 ?k5 ?kK ?kp ?kd ?ku ?_; (case k1 => k_asm); (case k2 => k_asm); (case k3 => k_asm); (case k4 => k_asm); (case k5 => k_asm); (case kK => first | exact rfl | assumption); (case kp => exact ⟨_, _, _, by k_mem, by assumption, by assumption⟩); (case kd => ktr_room); (case ku => ktr_units); (case kq1 => decide); (case kq2 => decide); intro r9z nw9z h9z tk9z F9z N9z hr9z; obtain ⟨k9z, t9z, hr9z, hk9z, hm9z, hs9z⟩ := hr9z; subst hr9z; have hi9z := hs9z.2; (try dsimp only); (try k_sweep))))) | (with_reducible ((with_reducible show wpAny _ _ (PySem.compareOp PySem.CmpOp.NotIn (PySem.Value.str _ _) (PySem.Value.ref _)) _ _ _); (k_dflt (refine' nin_top ?N ?m ?_; (case N => k_asm); (case m => k_mem))))) | (with_reducible ((with_reducible show wpAny _ _ (PySem.compareOp PySem.CmpOp.Eq (PySem.Value.str _ _) (PySem.Value.str _ _)) _ _ _); ((with_reducible first | refine eq_rn0 ?_ | (refine eq_rn ?e ?_; (case e => (first | assumption | exact top_ab_c _ _ _ | exact top_a_bc _ _ _ | exact top_one _ | exact top_aa _ | (simp only [top_one, top_two, top_three, top_four]; done) | (simp only [top_one, top_two, top_three, top_four]; omega)))))))) | (with_reducible ((with_reducible show wpAny _ _ (PySem.compareOp PySem.CmpOp.NotEq (PySem.Value.str _ _) (PySem.Value.str _ _)) _ _ _); ((with_reducible refine ne_rn ?e ?_); (case e => (first | assumption | exact top_ab_c _ _ _ | exact top_a_bc _ _ _ | exact top_one _ | exact top_aa _ | (simp only [top_one, top_two, top_three, top_four]; done) | (simp only [top_one, top_two, top_three, top_four]; omega)))))) | (with_reducible ((with_reducible show wpAny _ _ (PySem.compareOp PySem.CmpOp.NotEq (PySem.Value.int _ _) (PySem.Value.int _ _)) _ _ _); (k_dflt (refine' ne_max ?a ?b ?_; (case a => assumption); (case b => assumption))))) | (with_reducible ((with_reducible show wpAny _ _ (PySem.compareOp PySem.CmpOp.NotEq (PySem.Value.ref _) (PySem.Value.ref _)) _ _ _); (k_dflt (refine' ne_nil_nil ?N ?a ?b ?hu ?_; (case N => k_asm); (case a => k_mem); (case b => k_mem); (case hu => first | ke_room | ktr_units))))) | ((with_reducible show wpAny _ _ (PySem.eval (PySem.Expr.Call (PySem.Expr.Name _ _) _ _) _) _ _ _); (refine Call_ ?_)) | (with_reducible ((with_reducible show wpAny _ _ (PySem.call (PySem.Value.builtin "list.index") _) _ _ _); (k_dflt (refine' rk_indexL ?N ?m ?hs ?i ?_; (case N => k_asm); (case m => k_mem); (case hs => first | assumption | exact rkAre); (case i => first | assumption | exact top_lt3 (by assumption) (by assumption) (by assumption))); intro t9z k9z))) | (with_reducible ((with_reducible show wpAny _ _ (getMethod (Value.ref _) (PySem.Str.ofString "index") _) _ _ _); k_dflt (refine' kl_method ?N ?m PySem.F.slot_list_index PySem.F.type_list_index ?_; (case N => k_asm); (case m => k_mem)))) | (with_reducible ((with_reducible show wpAny _ _ (newList (List.cons (Value.str _ _) _)) _ _ _); k_dflt (refine' newList_ab ?k0 ?k1 ?k2 ?_ ?k3; (case k0 => first | with_reducible exact rkAre | (with_reducible ((repeat' (first | exact rks_nil | refine' rks_cons ?_)); done))); (case k1 => k_asm); (case k2 => k_asm); (case k3 => (simp only [List.length_cons, List.length_nil, sizeLine_eq]; omega)); k_whole); intro v' s' l9y h9y F9y N9y l9y; (try k_lt l9y); (try k_sweep))) | (with_reducible ((with_reducible show wpAny _ _ (PySem.newList _) _ _ _); (k_dflt (refine' newList_K ?k1 ?k2 ?_ ?k3; (case k1 => k_asm); (case k2 => k_asm); (case k3 => (simp only [List.length_cons, List.length_nil, sizeLine_eq]; omega)); k_whole); intro l9y h9y F9y N9y l9y; (try k_lt l9y); (try k_sweep)))) | (with_reducible ((with_reducible show wpAny _ _ (subscriptTail _ _ (Value.ref _) (Value.int _ _)) _ _ _); k_dflt (refine' rk_itemL ?N ?m ?hs ?h0 ?h1 ?_; (case N => k_asm); (case m => (refine RowStep.sub (by assumption) (by k_mem) ?_; k_ne)); (case hs => first | assumption | exact rkAre); (case h0 => omega); (case h1 => omega)); intro t9z)) | (with_reducible (first | with_reducible refine ite_ff ?_ | with_reducible refine ite_tt ?_)) | ((with_reducible show wpAny _ _ (PySem.execs (List.cons _ _) _) _ _ _); walk1; (try (refine gen_s ?_; intro tkG; (try dsimp only); (try k_fold)))) | (walk1; (try dsimp only)) | (dsimp only; walk1) | (leave1; (try dsimp only)) | fail "no step")
        exact hret _ _ _ (by k_asm)

end
example : True := by (w_top off; exact True.intro)
def ordK : List Kd := [.L, .I, .D, .C]
theorem ordK_get : ∀ k : Kd, ix k ≤ 3 → (ordK.map kn).getD (ix k) Str.empty = kn k ∧ ∀ i, i < ix k → (ordK.map kn).getD i Str.empty ≠ kn k := by
  intro k hk
  cases k
  · exact ⟨rfl, fun i h => absurd h (Nat.not_lt_zero _)⟩
  · refine ⟨rfl, fun i h => ?_⟩
    match i, h with
    | 0, _ => decide +kernel
  · refine ⟨rfl, fun i h => ?_⟩
    match i, h with
    | 0, _ => decide +kernel
    | 1, _ => decide +kernel
  · refine ⟨rfl, fun i h => ?_⟩
    match i, h with
    | 0, _ => decide +kernel
    | 1, _ => decide +kernel
    | 2, _ => decide +kernel
  · exact absurd hk (by decide)
theorem strs_drop {vs : List Value} {ys : List Str} (h : StrsAre vs ys) (n : Nat) : StrsAre (vs.drop n) (ys.drop n) := by
  induction h generalizing n with
  | nil => simpa using StrsAre.nil
  | cons x t h ih => cases n with
    | zero => exact .cons _ _ h
    | succ n => exact ih n
theorem strs_take {vs : List Value} {ys : List Str} (h : StrsAre vs ys) (n : Nat) : StrsAre (vs.take n) (ys.take n) := by
  induction h generalizing n with
  | nil => simpa using StrsAre.nil
  | cons x t h ih => cases n with
    | zero => exact .nil
    | succ n => exact .cons _ _ (ih n)
theorem ord_item {vs : List Value} {ks : List Kd} (h : StrsAre vs (ks.map kn)) {i : Nat} {v : Value} (hv : vs[i]? = some v) : ∃ k t, k ∈ ks ∧ v = .str (kn k) t := by
  induction ks generalizing vs i with
  | nil => cases h; cases hv
  | cons a r ih =>
    cases h with
    | cons y t h' =>
    cases i with
    | zero => cases hv; exact ⟨a, t, .head _, rfl⟩
    | succ i => obtain ⟨k, t, hk, e⟩ := ih h' (i := i) hv; exact ⟨k, t, .tail _ hk, e⟩
theorem ord_drop {B k : Kd} (h : k ∈ ordK.drop (ix B)) : ix B ≤ ix k ∧ ix k ≤ 3 := by
  cases B <;> simp [ordK, ix] at h <;> rcases h with h <;> (cases k <;> simp_all [ix])
theorem ord_run {B k m : Kd} (h : m ∈ (ordK.drop (ix B)).take (ix k + 1 - ix B)) (hk : ix k ≤ 3) : ix B ≤ ix m ∧ ix m ≤ ix k := by
  cases B <;> cases k <;> simp [ordK, ix] at h hk ⊢ <;> (cases m <;> simp_all [ix])
section
variable {prog : Program} {w : World} {A : Around} {E : Value → Shared → Prop} {s : Shared} {h₀ : Heap} {L D l : Addr} {m : Str → Option Value} {news : Led} {vs : List Value} {n : Nat} {t u u2 : Tok} {k : Kd}
theorem ord_index {Q : Value → Shared → Prop} (N : News h₀ L s.heap news) (hm : (D, listOf vs.toArray n) ∈ news) (hs : StrsAre vs (ordK.map kn)) (hk : ix k ≤ 3) (h : ∀ t k', Q (.int (ix k : Nat) t) { s with toks := k' }) : wpAny (model prog w) A (call (.builtin "list.index") [.ref D, .str (kn k) t]) Q E s :=
  lst_index N hm hs (by show ix k < 4; omega) (ordK_get k hk).1 (ordK_get k hk).2 (by decide) h
theorem ord_from {Q : Value → Shared → Prop} {value slice : PySem.Expr} {i : Nat} {y : Int} (F : Fr h₀ L s.heap m) (N : News h₀ L s.heap news) (hm : (l, listOf vs.toArray n) ∈ news) (hs : StrsAre vs (ordK.map kn)) (hi : i ≤ 4) (hy : y = (i : Nat))
    (h : ∀ D ws h', Fr h₀ L h' m → News h₀ L h' ((D, listOf ws.toArray 0) :: news) → (∀ p ∈ news, p.1 < D) → StrsAre ws ((ordK.drop i).map kn) → Q (.ref D) { s with heap := h' })
    (hs2 : subscripted slice false (.ref l) (.ref s.heap.objs.size) = operate [.ref s.heap.objs.size, .ref l] (getItem (.ref l) (.ref s.heap.objs.size)) := by with_unfolding_all rfl) (ht : ∀ r, letTemporaryGo value (.ref l) r = pure () := by intro _; with_unfolding_all rfl) :
    wpAny (model prog w) A (subscriptTail value slice (.ref l) (.ref s.heap.objs.size)) Q E { s with heap := s.heap.push { cls := .type "slice", data := .fields #[.int y u, .none, .none] } } := by
  subst hy
  have hl : vs.length = 4 := by rw [hs.length]; rfl
  refine kmk_slice F N ⟨_, N.get hm, rfl, _, rfl⟩ (.int _ u) .none (fun D h' F' N' l1 => h D ((vs.drop i).take (4 - i)) h' F' ?_ l1 ?_) hs2 ht (by rw [List.size_toArray, hl, sizeLine_eq]; omega)
  · rw [kmk_pick_nat (a := i) (b := 4)] at N'
    · exact N'
    · rw [List.size_toArray, hl]
      match i, hi with
      | 0, _ => rfl
      | 1, _ => rfl
      | 2, _ => rfl
      | 3, _ => rfl
      | 4, _ => rfl
  · have q := strs_take (strs_drop hs i) (4 - i)
    rw [List.take_of_length_le (l := List.drop i (ordK.map kn)) (by rw [List.length_drop]; show 4 - i ≤ 4 - i; omega), ← List.map_drop] at q
    exact q
theorem ord_slice {Q : Value → Shared → Prop} {value slice : PySem.Expr} {i j : Nat} {y z : Int} (F : Fr h₀ L s.heap m) (N : News h₀ L s.heap news) (hm : (l, listOf vs.toArray n) ∈ news) (hs : StrsAre vs (ordK.map kn)) (hi : i ≤ 4) (hj : j ≤ 4) (hij : i ≤ j) (hy : y = (i : Nat)) (hz : z = (j : Nat))
    (h : ∀ D ws h', Fr h₀ L h' m → News h₀ L h' ((D, listOf ws.toArray 0) :: news) → (∀ p ∈ news, p.1 < D) → StrsAre ws (((ordK.drop i).take (j - i)).map kn) → Q (.ref D) { s with heap := h' })
    (hs2 : subscripted slice false (.ref l) (.ref s.heap.objs.size) = operate [.ref s.heap.objs.size, .ref l] (getItem (.ref l) (.ref s.heap.objs.size)) := by with_unfolding_all rfl) (ht : ∀ r, letTemporaryGo value (.ref l) r = pure () := by intro _; with_unfolding_all rfl) :
    wpAny (model prog w) A (subscriptTail value slice (.ref l) (.ref s.heap.objs.size)) Q E { s with heap := s.heap.push { cls := .type "slice", data := .fields #[.int y u, .int z u2, .none] } } := by
  subst hy hz
  have hl : vs.length = 4 := by rw [hs.length]; rfl
  refine kmk_slice F N ⟨_, N.get hm, rfl, _, rfl⟩ (.int _ u) (.int _ u2) (fun D h' F' N' l1 => h D ((vs.drop i).take (j - i)) h' F' ?_ l1 ?_) hs2 ht (by rw [List.size_toArray, hl, sizeLine_eq]; omega)
  · rw [kmk_pick_nat (a := i) (b := j)] at N'
    · exact N'
    · rw [List.size_toArray, hl]
      unfold sliceBounds
      simp
      omega
  · have q := strs_take (strs_drop hs i) (j - i)
    rw [← List.map_drop, ← List.map_take] at q
    exact q
end

example : True := by (w_top off; exact True.intro)
section
theorem ordAre {t0 t1 t2 t3 : Tok} : StrsAre [.str (Str.ofString "logical") t0, .str (Str.ofString "integer") t1, .str (Str.ofString "double") t2, .str (Str.ofString "character") t3] (ordK.map kn) := .cons _ _ (.cons _ _ (.cons _ _ (.cons _ _ .nil)))
/-- what stands in the ledger at every place of the loop -/
structure Cur (w : World) (L nt od : Addr) (o2 on oo : Obj) (B : Kd) (its : List It) (nm : Option (List (List Nat))) (rv : Value) (base nw : Led) : Prop where
  nt : (nt, on) ∈ nw
  od : (od, oo) ∈ nw
  kc : (L + 1 + 1, o2) ∈ nw
  V : VecIn w nw rv B (its.map (rep B B)) nm
  old : ∀ p ∈ base, p ∈ nw
theorem Cur.mono {w : World} {L nt od : Addr} {o2 on oo : Obj} {B : Kd} {its : List It} {nm : Option (List (List Nat))} {rv : Value} {base nw nw' : Led} (c : Cur w L nt od o2 on oo B its nm rv base nw) (h : ∀ p ∈ nw, p ∈ nw') : Cur w L nt od o2 on oo B its nm rv base nw' :=
  ⟨h _ c.nt, h _ c.od, h _ c.kc, c.V.mono h, fun p hp => h p (c.old p hp)⟩
theorem Cur.rebase {w : World} {L nt od : Addr} {o2 on oo : Obj} {B : Kd} {its : List It} {nm : Option (List (List Nat))} {rv : Value} {base nw : Led} (c : Cur w L nt od o2 on oo B its nm rv base nw) : Cur w L nt od o2 on oo B its nm rv nw nw :=
  ⟨c.nt, c.od, c.kc, c.V, fun _ hp => hp⟩
theorem fr_one {h₀ h : Heap} {L : Addr} {m : Str → Option Value} {x : Str} {v : Value} (F : Fr h₀ L h m) (e : m x = some v) : Fr h₀ L h (kstB m [(x, v)]) := by
  have q : kstB m [(x, v)] = m := by
    funext y
    show (if y = x then some v else m y) = m y
    by_cases h : y = x
    · rw [if_pos h, h, e]
    · rw [if_neg h]
  rw [q]; exact F
theorem LcPre.mk {L row nt : Addr} {vs : List Value} {ns : List Int} {c cn : Nat} {o1 o2 o3 o4 : Obj} {v4 : Option Value} {r : Str → Option Value} (d1 : o1.data = .cell (some (.ref row))) (d4 : o4.data = .cell v4) (hi : IntsAre vs ns) (hr : RowOk ns) (hl1 : @LT.lt Nat _ (L + 1 + 1 + 1 + 1) row) (hl2 : @LT.lt Nat _ row nt) :
    LcPre L (kstB r [(Str.ofString "notes", .ref nt)]) [(nt, W.listOf #[] cn), (row, W.listOf vs.toArray c), (L + 1 + 1 + 1 + 1, o4), (L + 1 + 1 + 1, o3), (L + 1 + 1, o2), (L + 1, o1)] :=
  ⟨row, nt, vs, ns, c, cn, o1, o2, o3, o4, v4, r, rfl, rfl, d1, d4, hi, hr, hl1, hl2⟩
def IfEnd (h₀ : Heap) (L : Addr) (m : Str → Option Value) (s : Shared) (news : Led) (f : Flow) (s' : Shared) : Prop :=
  f = .next ∧ ∃ h' tk' nw', s' = { s with heap := h', toks := tk' } ∧ Fr h₀ L h' m ∧ News h₀ L h' nw' ∧ ∀ p ∈ news, p ∈ nw'
theorem if_next {M : Model} {A : Around} {E : Value → Shared → Prop} {s : Shared} {h₀ : Heap} {L : Addr} {m : Str → Option Value} {news : Led} {t : Sem Flow} {Q : Flow → Shared → Prop} (_F : Fr h₀ L s.heap m) (_N : News h₀ L s.heap news)
    (h1 : wpAny M A t (IfEnd h₀ L m s news) E s)
    (h2 : ∀ h' tk' nw', Fr h₀ L h' m → News h₀ L h' nw' → (∀ p ∈ news, p ∈ nw') → Q .next { s with heap := h', toks := tk' }) : wpAny M A t Q E s :=
  wpAny_mono h1 (fun f s' ⟨e, h', tk', nw', e', F', N', hs⟩ => by subst e e'; exact h2 h' tk' nw' F' N' hs) fun _ _ e => e
def LbPre (w : World) (L : Addr) (m : Str → Option Value) (news : Led) : Prop :=
  ∃ (row : Addr) (vs : List Value) (ns : List Int) (c : Nat) (o1 o2 o3 o4 : Obj) (v4 : Option Value) (r : Str → Option Value) (B : Kd) (its : List It) (nm : Option (List (List Nat))) (rv : Value) (tk : Tok), m = kstB r [(Str.ofString "v", rv)] ∧
    (row, W.listOf vs.toArray c) ∈ news ∧ (L + 1 + 1 + 1 + 1, o4) ∈ news ∧ (L + 1 + 1 + 1, o3) ∈ news ∧ (L + 1 + 1, o2) ∈ news ∧ (L + 1, o1) ∈ news ∧
    o1.data = .cell (some (.ref row)) ∧ o2.data = .cell (some (.str (kn B) tk)) ∧ o4.data = .cell v4 ∧ IntsAre vs ns ∧ RowOk ns ∧ @LT.lt Nat _ (L + 1 + 1 + 1 + 1) row ∧
    VecIn w news rv B (its.map (rep B B)) nm ∧ (∀ a ∈ its, Base B a) ∧ ix B ≤ 2 ∧ its.length ≤ 7 ∧ ∀ ls, nm = some ls → ls.length ≤ 7 ∧ ∀ a ∈ ls.map It.txt, flat a
theorem law_B (w mean mg mb) : LawFrom w mean mg mb 5 (LbPre w) := by
  unfold LawFrom
  k_fill
  intro sts cs hsts hcs dp un gd a ccd outer A₀ base h₀ L m news s Q E Bl F X N T hpre hd hu hE hret
  obtain ⟨row, vs, ns, c, o1, o2, o3, o4, v4, r, B, its, nm, rv, tk, rfl, hrow, hc4, hc3, hc2, hc1, d1, d2, d4, hi, hr, hl1, hV, hb, hB, hz, hls⟩ := hpre
  conv at hsts => lhs; whnf
  conv at hcs => lhs; whnf
  subst hsts hcs
  refine abs_A ?_
  intro A9a
  dsimp only [kstB] at F
  repeat' ((fail_if_success (with_reducible show wpAny _ _ (PySem.exec (PySem.Stmt.While _ _ _ _) _) _ _ _)); (fail_if_success (with_reducible show wpAny _ _ (PySem.exec (PySem.Stmt.For _ _ _ _ _) _) _ _ _)); (fail_if_success (with_reducible show wpAny _ _ (PySem.exec (PySem.Stmt.Assign _ (PySem.Expr.ListComp _ _ _ _) _) _) _ _ _)); (fail_if_success (with_reducible show wpAny _ _ (PySem.eval (PySem.Expr.ListComp _ _ _ _) _) _ _ _)); (fail_if_success (with_reducible show LCg.CompSrc _ _ _ _ _ _ _ _ _ _ _ _ _ _)); (fail_if_success (with_reducible show LCt.CompSrcT _ _ _ _ _ _ _ _ _ _ _ _ _ _ _)); (fail_if_success (with_reducible show LCg.CompEnd _ _ _ _ _ _ _ _ _ _ _ _ _ _)); (fail_if_success (with_reducible show KswEnd _ _ _ _ _ _ _ _ _ _ _ _)); (fail_if_success (with_reducible show UnrEnd _ _ _ _ _ _ _)); (fail_if_success (with_reducible show wpAny _ _ (PySem.call (Value.ref 440) _) _ _ _)); (fail_if_success (with_reducible show wpAny _ _ (PySem.call (Value.ref 447) _) _ _ _)); (fail_if_success (with_reducible show wpAny _ _ (PySem.call (Value.ref 475) _) _ _ _)); (fail_if_success (with_reducible show wpAny _ _ (PySem.call (Value.ref 468) _) _ _ _)); (fail_if_success (with_reducible show wpAny _ _ (PySem.call (Value.ref 454) _) _ _ _)); first | (k_unfold; (try dsimp only)) | (k_end; wrow_close) | (with_reducible ((with_reducible show wpAny _ _ (subscriptTail _ _ (PySem.Value.ref _) (PySem.Value.ref _)) _ _ _); (k_dflt (first | (refine' ord_slice (j := ix _ + 1) ?F ?N ?m ordAre ?a ?b ?c rfl rfl ?_; (case F => k_asm); (case N => k_asm); (case m => first | k_mem | assumption); (case a => omega); (case b => omega); (case c => omega)) | (refine' ord_from ?F ?N ?m ordAre ?a rfl ?_; (case F => k_asm); (case N => k_asm); (case m => first | k_mem | assumption); (case a => omega))); intro D9z ws9z h9z F9z N9z l9z hw9z))) | (with_reducible ((with_reducible show wpAny _ _ (PySem.compareOp PySem.CmpOp.Eq (PySem.Value.str _ _) (PySem.Value.str _ _)) _ _ _); ((with_reducible (refine eq_not ?kn ?_; (case kn => assumption)))))) | (with_reducible ((with_reducible show wpAny _ _ (PySem.compareOp PySem.CmpOp.Eq (PySem.Value.str _ _) (PySem.Value.str _ _)) _ _ _); ((with_reducible first | (refine eq_self ?_) | (refine eq_not ?kn ?_; (case kn => first | assumption | decide +kernel)) | (refine eq_is ?kn ?_; (case kn => first | assumption | decide +kernel)))))) | ((with_reducible show wpAny _ _ (PySem.eval (PySem.Expr.Call (PySem.Expr.Name _ _) _ _) _) _ _ _); (refine Call_ ?_)) | (with_reducible ((with_reducible show wpAny _ _ (PySem.call (PySem.Value.builtin "list.index") _) _ _ _); (k_dflt (refine' ord_index ?N ?m ordAre ?i ?_; (case N => k_asm); (case m => first | k_mem | assumption); (case i => first | assumption | omega)); intro t9z k9z))) | (with_reducible ((with_reducible show wpAny _ _ (getMethod (Value.ref _) (PySem.Str.ofString "index") _) _ _ _); k_dflt (refine' kl_method ?N ?m PySem.F.slot_list_index PySem.F.type_list_index ?_; (case N => k_asm); (case m => first | k_mem | assumption)))) | (with_reducible (first | with_reducible refine ite_ff ?_ | with_reducible refine ite_tt ?_)) | (with_reducible ((with_reducible show LstPost _ _ _ _ _ _ _ _ _ _ _ _); (dsimp only [LstPost]))) | ((with_reducible show wpAny _ _ (PySem.execs (List.cons _ _) _) _ _ _); walk1; (try (refine gen_s ?_; intro tkG; (try dsimp only); (try k_fold)))) | walk1 | (dsimp only; walk1) | (leave1; (try dsimp only)) | fail "no step")
  (rename Fr _ _ _ _ => lF'); (with_unfolding_all refine' For_invVF lF' ?k1 ?k2 ?_ (hE := hE); (case k1 => exact rfl); (case k2 => exact rfl); k_whole)
  repeat' ((fail_if_success (with_reducible show wpAny _ _ (PySem.pyIter _) _ _ _)); first | (with_reducible ((with_reducible show wpAny _ _ (subscriptTail _ _ (PySem.Value.ref _) (PySem.Value.ref _)) _ _ _); (k_dflt (first | (refine' ord_slice (j := ix _ + 1) ?F ?N ?m ordAre ?a ?b ?c rfl rfl ?_; (case F => k_asm); (case N => k_asm); (case m => first | k_mem | assumption); (case a => omega); (case b => omega); (case c => omega)) | (refine' ord_from ?F ?N ?m ordAre ?a rfl ?_; (case F => k_asm); (case N => k_asm); (case m => first | k_mem | assumption); (case a => omega))); intro D9z ws9z h9z F9z N9z l9z hw9z))) | (with_reducible ((with_reducible show wpAny _ _ (PySem.compareOp PySem.CmpOp.Eq (PySem.Value.str _ _) (PySem.Value.str _ _)) _ _ _); ((with_reducible (refine eq_not ?kn ?_; (case kn => assumption)))))) | (with_reducible ((with_reducible show wpAny _ _ (PySem.compareOp PySem.CmpOp.Eq (PySem.Value.str _ _) (PySem.Value.str _ _)) _ _ _); ((with_reducible first | (refine eq_self ?_) | (refine eq_not ?kn ?_; (case kn => first | assumption | decide +kernel)) | (refine eq_is ?kn ?_; (case kn => first | assumption | decide +kernel)))))) | ((with_reducible show wpAny _ _ (PySem.eval (PySem.Expr.Call (PySem.Expr.Name _ _) _ _) _) _ _ _); (refine Call_ ?_)) | (with_reducible ((with_reducible show wpAny _ _ (PySem.call (PySem.Value.builtin "list.index") _) _ _ _); (k_dflt (refine' ord_index ?N ?m ordAre ?i ?_; (case N => k_asm); (case m => first | k_mem | assumption); (case i => first | assumption | omega)); intro t9z k9z))) | (with_reducible ((with_reducible show wpAny _ _ (getMethod (Value.ref _) (PySem.Str.ofString "index") _) _ _ _); k_dflt (refine' kl_method ?N ?m PySem.F.slot_list_index PySem.F.type_list_index ?_; (case N => k_asm); (case m => first | k_mem | assumption)))) | (with_reducible (first | with_reducible refine ite_ff ?_ | with_reducible refine ite_tt ?_)) | (with_reducible ((with_reducible show LstPost _ _ _ _ _ _ _ _ _ _ _ _); (dsimp only [LstPost]))) | ((with_reducible show wpAny _ _ (PySem.execs (List.cons _ _) _) _ _ _); walk1; (try (refine gen_s ?_; intro tkG; (try dsimp only); (try k_fold)))) | walk1 | (dsimp only; walk1))
  rename ∀ p ∈ _, _ < _ => l9
  rename StrsAre _ _ => hw9
  rename News _ _ _ _ => N9
  refine lst_inv (fun _ : Unit => []) [Str.ofString "risen", Str.ofString "between", Str.ofString "listed_v"] (fun _ _ => True) () rfl (by k_asm) (by k_asm) (.head _) (fun _ h => nomatch h) trivial ?_ ?_
  · intro i v c8 u8 h8 tk8 nw8 I8 it8 hv8 _ hg8 hI8 hit8 F8 N8
    obtain ⟨k, tk9, hk8, rfl⟩ := ord_item hw9 hv8
    obtain ⟨hBk, hk3⟩ := ord_drop hk8
    dsimp only [kstB] at F8
    have cur : Cur w L _ _ o2 _ _ B its nm rv ((I8, it8) :: nw8) ((I8, it8) :: nw8) := ⟨.tail _ (hg8.sub _ (.tail _ (.head _))), .tail _ (hg8.sub _ (.tail _ (.tail _ (.head _)))), .tail _ (hg8.sub _ (.tail _ (.tail _ (.tail _ hc2)))), hV.mono fun p hp => .tail _ (hg8.sub _ (.tail _ (.tail _ (.tail _ hp)))), fun _ hp => hp⟩
    have hls7 := fun ls h => (hls ls h).1
    have hlsf := fun ls h => (hls ls h).2
    clear N9 hrow hc4 hc3 hc2 hc1 hg8 hV
    have hnt := cur.nt
    have hod := cur.od
    have hkc := cur.kc
    have hV := cur.V
    have hs := cur.old
    repeat' ((fail_if_success (with_reducible show wpAny _ _ (PySem.exec (PySem.Stmt.While _ _ _ _) _) _ _ _)); (fail_if_success (with_reducible show wpAny _ _ (PySem.exec (PySem.Stmt.For _ _ _ _ _) _) _ _ _)); (fail_if_success (with_reducible show wpAny _ _ (PySem.exec (PySem.Stmt.Assign _ (PySem.Expr.ListComp _ _ _ _) _) _) _ _ _)); (fail_if_success (with_reducible show wpAny _ _ (PySem.eval (PySem.Expr.ListComp _ _ _ _) _) _ _ _)); (fail_if_success (with_reducible show LCg.CompSrc _ _ _ _ _ _ _ _ _ _ _ _ _ _)); (fail_if_success (with_reducible show LCt.CompSrcT _ _ _ _ _ _ _ _ _ _ _ _ _ _ _)); (fail_if_success (with_reducible show LCg.CompEnd _ _ _ _ _ _ _ _ _ _ _ _ _ _)); (fail_if_success (with_reducible show KswEnd _ _ _ _ _ _ _ _ _ _ _ _)); (fail_if_success (with_reducible show UnrEnd _ _ _ _ _ _ _)); (fail_if_success (with_reducible show wpAny _ _ (PySem.call (Value.ref 440) _) _ _ _)); (fail_if_success (with_reducible show wpAny _ _ (PySem.call (Value.ref 447) _) _ _ _)); (fail_if_success (with_reducible show wpAny _ _ (PySem.call (Value.ref 475) _) _ _ _)); (fail_if_success (with_reducible show wpAny _ _ (PySem.call (Value.ref 468) _) _ _ _)); (fail_if_success (with_reducible show wpAny _ _ (PySem.call (Value.ref 454) _) _ _ _)); first | (k_unfold; (try dsimp only)) | (k_end; wrow_close) | (with_reducible ((with_reducible show wpAny _ _ (subscriptTail _ _ (PySem.Value.ref _) (PySem.Value.ref _)) _ _ _); (k_dflt (first | (refine' ord_slice (j := ix _ + 1) ?F ?N ?m ordAre ?a ?b ?c rfl rfl ?_; (case F => k_asm); (case N => k_asm); (case m => first | k_mem | assumption); (case a => omega); (case b => omega); (case c => omega)) | (refine' ord_from ?F ?N ?m ordAre ?a rfl ?_; (case F => k_asm); (case N => k_asm); (case m => first | k_mem | assumption); (case a => omega))); intro D9z ws9z h9z F9z N9z l9z hw9z))) | (with_reducible ((with_reducible show wpAny _ _ (PySem.compareOp PySem.CmpOp.Eq (PySem.Value.str _ _) (PySem.Value.str _ _)) _ _ _); ((with_reducible (refine eq_not ?kn ?_; (case kn => assumption)))))) | (with_reducible ((with_reducible show wpAny _ _ (PySem.compareOp PySem.CmpOp.Eq (PySem.Value.str _ _) (PySem.Value.str _ _)) _ _ _); ((with_reducible first | (refine eq_self ?_) | (refine eq_not ?kn ?_; (case kn => first | assumption | decide +kernel)) | (refine eq_is ?kn ?_; (case kn => first | assumption | decide +kernel)))))) | ((with_reducible show wpAny _ _ (PySem.eval (PySem.Expr.Call (PySem.Expr.Name _ _) _ _) _) _ _ _); (refine Call_ ?_)) | (with_reducible ((with_reducible show wpAny _ _ (PySem.call (PySem.Value.builtin "list.index") _) _ _ _); (k_dflt (refine' ord_index ?N ?m ordAre ?i ?_; (case N => k_asm); (case m => first | k_mem | assumption); (case i => first | assumption | omega)); intro t9z k9z))) | (with_reducible ((with_reducible show wpAny _ _ (getMethod (Value.ref _) (PySem.Str.ofString "index") _) _ _ _); k_dflt (refine' kl_method ?N ?m PySem.F.slot_list_index PySem.F.type_list_index ?_; (case N => k_asm); (case m => first | k_mem | assumption)))) | (with_reducible (first | with_reducible refine ite_ff ?_ | with_reducible refine ite_tt ?_)) | (with_reducible ((with_reducible show LstPost _ _ _ _ _ _ _ _ _ _ _ _); (dsimp only [LstPost]))) | ((with_reducible show wpAny _ _ (PySem.execs (List.cons _ _) _) _ _ _); walk1; (try (refine gen_s ?_; intro tkG; (try dsimp only); (try k_fold)))) | walk1 | (dsimp only; walk1) | (leave1; (try dsimp only)) | fail "no step")
    refine useO (as_kind_all w mean mg mb B k its (rep B B) (rep B k) nm rv _ _ hz hls7 (cv_mid hb (Nat.le_refl _) hBk hk3 (by rintro ⟨rfl, _, h | h⟩ <;> cases h))) (by k_asm) (by k_asm) (by k_asm) (by k_asm) (by k_asm) rfl hV (by ktr_room) (by ktr_units) ?_
    rintro r1 nw1 h1 tk1 F1 N1 ⟨g1, v1⟩
    (try dsimp only); (try k_sweep)
    have cur := cur.mono g1.sub
    have hnt := cur.nt
    have hod := cur.od
    have hkc := cur.kc
    have hV := cur.V
    have hs := cur.old
    repeat' ((fail_if_success (with_reducible show wpAny _ _ (PySem.exec (PySem.Stmt.While _ _ _ _) _) _ _ _)); (fail_if_success (with_reducible show wpAny _ _ (PySem.exec (PySem.Stmt.For _ _ _ _ _) _) _ _ _)); (fail_if_success (with_reducible show wpAny _ _ (PySem.exec (PySem.Stmt.Assign _ (PySem.Expr.ListComp _ _ _ _) _) _) _ _ _)); (fail_if_success (with_reducible show wpAny _ _ (PySem.eval (PySem.Expr.ListComp _ _ _ _) _) _ _ _)); (fail_if_success (with_reducible show LCg.CompSrc _ _ _ _ _ _ _ _ _ _ _ _ _ _)); (fail_if_success (with_reducible show LCt.CompSrcT _ _ _ _ _ _ _ _ _ _ _ _ _ _ _)); (fail_if_success (with_reducible show LCg.CompEnd _ _ _ _ _ _ _ _ _ _ _ _ _ _)); (fail_if_success (with_reducible show KswEnd _ _ _ _ _ _ _ _ _ _ _ _)); (fail_if_success (with_reducible show UnrEnd _ _ _ _ _ _ _)); (fail_if_success (with_reducible show wpAny _ _ (PySem.call (Value.ref 440) _) _ _ _)); (fail_if_success (with_reducible show wpAny _ _ (PySem.call (Value.ref 447) _) _ _ _)); (fail_if_success (with_reducible show wpAny _ _ (PySem.call (Value.ref 475) _) _ _ _)); (fail_if_success (with_reducible show wpAny _ _ (PySem.call (Value.ref 468) _) _ _ _)); (fail_if_success (with_reducible show wpAny _ _ (PySem.call (Value.ref 454) _) _ _ _)); first | (k_unfold; (try dsimp only)) | (k_end; wrow_close) | (with_reducible ((with_reducible show wpAny _ _ (subscriptTail _ _ (PySem.Value.ref _) (PySem.Value.ref _)) _ _ _); (k_dflt (first | (refine' ord_slice (j := ix _ + 1) ?F ?N ?m ordAre ?a ?b ?c rfl rfl ?_; (case F => k_asm); (case N => k_asm); (case m => first | k_mem | assumption); (case a => omega); (case b => omega); (case c => omega)) | (refine' ord_from ?F ?N ?m ordAre ?a rfl ?_; (case F => k_asm); (case N => k_asm); (case m => first | k_mem | assumption); (case a => omega))); intro D9z ws9z h9z F9z N9z l9z hw9z))) | (with_reducible ((with_reducible show wpAny _ _ (PySem.compareOp PySem.CmpOp.Eq (PySem.Value.str _ _) (PySem.Value.str _ _)) _ _ _); ((with_reducible (refine eq_not ?kn ?_; (case kn => assumption)))))) | (with_reducible ((with_reducible show wpAny _ _ (PySem.compareOp PySem.CmpOp.Eq (PySem.Value.str _ _) (PySem.Value.str _ _)) _ _ _); ((with_reducible first | (refine eq_self ?_) | (refine eq_not ?kn ?_; (case kn => first | assumption | decide +kernel)) | (refine eq_is ?kn ?_; (case kn => first | assumption | decide +kernel)))))) | ((with_reducible show wpAny _ _ (PySem.eval (PySem.Expr.Call (PySem.Expr.Name _ _) _ _) _) _ _ _); (refine Call_ ?_)) | (with_reducible ((with_reducible show wpAny _ _ (PySem.call (PySem.Value.builtin "list.index") _) _ _ _); (k_dflt (refine' ord_index ?N ?m ordAre ?i ?_; (case N => k_asm); (case m => first | k_mem | assumption); (case i => first | assumption | omega)); intro t9z k9z))) | (with_reducible ((with_reducible show wpAny _ _ (getMethod (Value.ref _) (PySem.Str.ofString "index") _) _ _ _); k_dflt (refine' kl_method ?N ?m PySem.F.slot_list_index PySem.F.type_list_index ?_; (case N => k_asm); (case m => first | k_mem | assumption)))) | (with_reducible (first | with_reducible refine ite_ff ?_ | with_reducible refine ite_tt ?_)) | (with_reducible ((with_reducible show LstPost _ _ _ _ _ _ _ _ _ _ _ _); (dsimp only [LstPost]))) | ((with_reducible show wpAny _ _ (PySem.execs (List.cons _ _) _) _ _ _); walk1; (try (refine gen_s ?_; intro tkG; (try dsimp only); (try k_fold)))) | walk1 | (dsimp only; walk1) | (leave1; (try dsimp only)) | fail "no step")
    refine useO (as_kind_all w mean mg mb k B its (rep B k) (dn k) nm r1 _ _ hz hls7 (cv_down hb hBk hk3 hB)) (by k_asm) (by k_asm) (by k_asm) (by k_asm) (by k_asm) rfl v1 (by ktr_room) (by ktr_units) ?_
    rintro r2 nw2 h2 tk2 F2 N2 ⟨g2, v2⟩
    (try dsimp only); (try k_sweep)
    have cur := cur.mono g2.sub
    have v1 := v1.mono g2.sub
    have hnt := cur.nt
    have hod := cur.od
    have hkc := cur.kc
    have hV := cur.V
    have hs := cur.old
    repeat' ((fail_if_success (with_reducible show wpAny _ _ (PySem.exec (PySem.Stmt.While _ _ _ _) _) _ _ _)); (fail_if_success (with_reducible show wpAny _ _ (PySem.exec (PySem.Stmt.For _ _ _ _ _) _) _ _ _)); (fail_if_success (with_reducible show wpAny _ _ (PySem.exec (PySem.Stmt.Assign _ (PySem.Expr.ListComp _ _ _ _) _) _) _ _ _)); (fail_if_success (with_reducible show wpAny _ _ (PySem.eval (PySem.Expr.ListComp _ _ _ _) _) _ _ _)); (fail_if_success (with_reducible show LCg.CompSrc _ _ _ _ _ _ _ _ _ _ _ _ _ _)); (fail_if_success (with_reducible show LCt.CompSrcT _ _ _ _ _ _ _ _ _ _ _ _ _ _ _)); (fail_if_success (with_reducible show LCg.CompEnd _ _ _ _ _ _ _ _ _ _ _ _ _ _)); (fail_if_success (with_reducible show KswEnd _ _ _ _ _ _ _ _ _ _ _ _)); (fail_if_success (with_reducible show UnrEnd _ _ _ _ _ _ _)); (fail_if_success (with_reducible show wpAny _ _ (PySem.call (Value.ref 440) _) _ _ _)); (fail_if_success (with_reducible show wpAny _ _ (PySem.call (Value.ref 447) _) _ _ _)); (fail_if_success (with_reducible show wpAny _ _ (PySem.call (Value.ref 475) _) _ _ _)); (fail_if_success (with_reducible show wpAny _ _ (PySem.call (Value.ref 468) _) _ _ _)); (fail_if_success (with_reducible show wpAny _ _ (PySem.call (Value.ref 454) _) _ _ _)); first | (k_unfold; (try dsimp only)) | (k_end; wrow_close) | (with_reducible ((with_reducible show wpAny _ _ (subscriptTail _ _ (PySem.Value.ref _) (PySem.Value.ref _)) _ _ _); (k_dflt (first | (refine' ord_slice (j := ix _ + 1) ?F ?N ?m ordAre ?a ?b ?c rfl rfl ?_; (case F => k_asm); (case N => k_asm); (case m => first | k_mem | assumption); (case a => omega); (case b => omega); (case c => omega)) | (refine' ord_from ?F ?N ?m ordAre ?a rfl ?_; (case F => k_asm); (case N => k_asm); (case m => first | k_mem | assumption); (case a => omega))); intro D9z ws9z h9z F9z N9z l9z hw9z))) | (with_reducible ((with_reducible show wpAny _ _ (PySem.compareOp PySem.CmpOp.Eq (PySem.Value.str _ _) (PySem.Value.str _ _)) _ _ _); ((with_reducible (refine eq_not ?kn ?_; (case kn => assumption)))))) | (with_reducible ((with_reducible show wpAny _ _ (PySem.compareOp PySem.CmpOp.Eq (PySem.Value.str _ _) (PySem.Value.str _ _)) _ _ _); ((with_reducible first | (refine eq_self ?_) | (refine eq_not ?kn ?_; (case kn => first | assumption | decide +kernel)) | (refine eq_is ?kn ?_; (case kn => first | assumption | decide +kernel)))))) | ((with_reducible show wpAny _ _ (PySem.eval (PySem.Expr.Call (PySem.Expr.Name _ _) _ _) _) _ _ _); (refine Call_ ?_)) | (with_reducible ((with_reducible show wpAny _ _ (PySem.call (PySem.Value.builtin "list.index") _) _ _ _); (k_dflt (refine' ord_index ?N ?m ordAre ?i ?_; (case N => k_asm); (case m => first | k_mem | assumption); (case i => first | assumption | omega)); intro t9z k9z))) | (with_reducible ((with_reducible show wpAny _ _ (getMethod (Value.ref _) (PySem.Str.ofString "index") _) _ _ _); k_dflt (refine' kl_method ?N ?m PySem.F.slot_list_index PySem.F.type_list_index ?_; (case N => k_asm); (case m => first | k_mem | assumption)))) | (with_reducible (first | with_reducible refine ite_ff ?_ | with_reducible refine ite_tt ?_)) | (with_reducible ((with_reducible show LstPost _ _ _ _ _ _ _ _ _ _ _ _); (dsimp only [LstPost]))) | ((with_reducible show wpAny _ _ (PySem.execs (List.cons _ _) _) _ _ _); walk1; (try (refine gen_s ?_; intro tkG; (try dsimp only); (try k_fold)))) | walk1 | (dsimp only; walk1) | (leave1; (try dsimp only)) | fail "no step")
    refine useV (law_same_v w mean mg mb B its (dn k) (rep B B) nm r2 rv (fun a ha => (flat_dn (hb a ha)).1) (fun a ha => flat_rep (hb a ha)) (fun a ha => by rw [(flat_dn (hb a ha)).2, (rep_base (hb a ha) hB).1]) hlsf) (by k_asm) (by k_asm) (by k_asm) (by k_asm) (by k_asm) rfl ⟨v2, hV⟩ (by ktr_room) (by ktr_units) ?_
    rintro r3 h3 tk3 F3 N3 rfl
    (try dsimp only); (try k_sweep)
    repeat' ((fail_if_success (with_reducible show wpAny _ _ (PySem.exec (PySem.Stmt.While _ _ _ _) _) _ _ _)); (fail_if_success (with_reducible show wpAny _ _ (PySem.exec (PySem.Stmt.For _ _ _ _ _) _) _ _ _)); (fail_if_success (with_reducible show wpAny _ _ (PySem.exec (PySem.Stmt.Assign _ (PySem.Expr.ListComp _ _ _ _) _) _) _ _ _)); (fail_if_success (with_reducible show wpAny _ _ (PySem.eval (PySem.Expr.ListComp _ _ _ _) _) _ _ _)); (fail_if_success (with_reducible show LCg.CompSrc _ _ _ _ _ _ _ _ _ _ _ _ _ _)); (fail_if_success (with_reducible show LCt.CompSrcT _ _ _ _ _ _ _ _ _ _ _ _ _ _ _)); (fail_if_success (with_reducible show LCg.CompEnd _ _ _ _ _ _ _ _ _ _ _ _ _ _)); (fail_if_success (with_reducible show KswEnd _ _ _ _ _ _ _ _ _ _ _ _)); (fail_if_success (with_reducible show UnrEnd _ _ _ _ _ _ _)); (fail_if_success (with_reducible show wpAny _ _ (PySem.call (Value.ref 440) _) _ _ _)); (fail_if_success (with_reducible show wpAny _ _ (PySem.call (Value.ref 447) _) _ _ _)); (fail_if_success (with_reducible show wpAny _ _ (PySem.call (Value.ref 475) _) _ _ _)); (fail_if_success (with_reducible show wpAny _ _ (PySem.call (Value.ref 468) _) _ _ _)); (fail_if_success (with_reducible show wpAny _ _ (PySem.call (Value.ref 454) _) _ _ _)); first | (k_unfold; (try dsimp only)) | (k_end; wrow_close) | (with_reducible ((with_reducible show wpAny _ _ (subscriptTail _ _ (PySem.Value.ref _) (PySem.Value.ref _)) _ _ _); (k_dflt (first | (refine' ord_slice (j := ix _ + 1) ?F ?N ?m ordAre ?a ?b ?c rfl rfl ?_; (case F => k_asm); (case N => k_asm); (case m => first | k_mem | assumption); (case a => omega); (case b => omega); (case c => omega)) | (refine' ord_from ?F ?N ?m ordAre ?a rfl ?_; (case F => k_asm); (case N => k_asm); (case m => first | k_mem | assumption); (case a => omega))); intro D9z ws9z h9z F9z N9z l9z hw9z))) | (with_reducible ((with_reducible show wpAny _ _ (PySem.compareOp PySem.CmpOp.Eq (PySem.Value.str _ _) (PySem.Value.str _ _)) _ _ _); ((with_reducible (refine eq_not ?kn ?_; (case kn => assumption)))))) | (with_reducible ((with_reducible show wpAny _ _ (PySem.compareOp PySem.CmpOp.Eq (PySem.Value.str _ _) (PySem.Value.str _ _)) _ _ _); ((with_reducible first | (refine eq_self ?_) | (refine eq_not ?kn ?_; (case kn => first | assumption | decide +kernel)) | (refine eq_is ?kn ?_; (case kn => first | assumption | decide +kernel)))))) | ((with_reducible show wpAny _ _ (PySem.eval (PySem.Expr.Call (PySem.Expr.Name _ _) _ _) _) _ _ _); (refine Call_ ?_)) | (with_reducible ((with_reducible show wpAny _ _ (PySem.call (PySem.Value.builtin "list.index") _) _ _ _); (k_dflt (refine' ord_index ?N ?m ordAre ?i ?_; (case N => k_asm); (case m => first | k_mem | assumption); (case i => first | assumption | omega)); intro t9z k9z))) | (with_reducible ((with_reducible show wpAny _ _ (getMethod (Value.ref _) (PySem.Str.ofString "index") _) _ _ _); k_dflt (refine' kl_method ?N ?m PySem.F.slot_list_index PySem.F.type_list_index ?_; (case N => k_asm); (case m => first | k_mem | assumption)))) | (with_reducible (first | with_reducible refine ite_ff ?_ | with_reducible refine ite_tt ?_)) | (with_reducible ((with_reducible show LstPost _ _ _ _ _ _ _ _ _ _ _ _); (dsimp only [LstPost]))) | ((with_reducible show wpAny _ _ (PySem.execs (List.cons _ _) _) _ _ _); walk1; (try (refine gen_s ?_; intro tkG; (try dsimp only); (try k_fold)))) | walk1 | (dsimp only; walk1) | (leave1; (try dsimp only)) | fail "no step")
    (rename Fr _ _ _ _ => lF'); (with_unfolding_all refine' For_invVF lF' ?k1 ?k2 ?_ (hE := by passes_own); (case k1 => exact rfl); (case k2 => exact rfl); k_whole)
    repeat' ((fail_if_success (with_reducible show wpAny _ _ (PySem.pyIter _) _ _ _)); first | (with_reducible ((with_reducible show wpAny _ _ (subscriptTail _ _ (PySem.Value.ref _) (PySem.Value.ref _)) _ _ _); (k_dflt (first | (refine' ord_slice (j := ix _ + 1) ?F ?N ?m ordAre ?a ?b ?c rfl rfl ?_; (case F => k_asm); (case N => k_asm); (case m => first | k_mem | assumption); (case a => omega); (case b => omega); (case c => omega)) | (refine' ord_from ?F ?N ?m ordAre ?a rfl ?_; (case F => k_asm); (case N => k_asm); (case m => first | k_mem | assumption); (case a => omega))); intro D9z ws9z h9z F9z N9z l9z hw9z))) | (with_reducible ((with_reducible show wpAny _ _ (PySem.compareOp PySem.CmpOp.Eq (PySem.Value.str _ _) (PySem.Value.str _ _)) _ _ _); ((with_reducible (refine eq_not ?kn ?_; (case kn => assumption)))))) | (with_reducible ((with_reducible show wpAny _ _ (PySem.compareOp PySem.CmpOp.Eq (PySem.Value.str _ _) (PySem.Value.str _ _)) _ _ _); ((with_reducible first | (refine eq_self ?_) | (refine eq_not ?kn ?_; (case kn => first | assumption | decide +kernel)) | (refine eq_is ?kn ?_; (case kn => first | assumption | decide +kernel)))))) | ((with_reducible show wpAny _ _ (PySem.eval (PySem.Expr.Call (PySem.Expr.Name _ _) _ _) _) _ _ _); (refine Call_ ?_)) | (with_reducible ((with_reducible show wpAny _ _ (PySem.call (PySem.Value.builtin "list.index") _) _ _ _); (k_dflt (refine' ord_index ?N ?m ordAre ?i ?_; (case N => k_asm); (case m => first | k_mem | assumption); (case i => first | assumption | omega)); intro t9z k9z))) | (with_reducible ((with_reducible show wpAny _ _ (getMethod (Value.ref _) (PySem.Str.ofString "index") _) _ _ _); k_dflt (refine' kl_method ?N ?m PySem.F.slot_list_index PySem.F.type_list_index ?_; (case N => k_asm); (case m => first | k_mem | assumption)))) | (with_reducible (first | with_reducible refine ite_ff ?_ | with_reducible refine ite_tt ?_)) | (with_reducible ((with_reducible show LstPost _ _ _ _ _ _ _ _ _ _ _ _); (dsimp only [LstPost]))) | ((with_reducible show wpAny _ _ (PySem.execs (List.cons _ _) _) _ _ _); walk1; (try (refine gen_s ?_; intro tkG; (try dsimp only); (try k_fold)))) | walk1 | (dsimp only; walk1))
    rename StrsAre _ (List.map kn (List.take _ _)) => hw7
    refine lst_inv (fun _ : Unit => []) [] (fun _ _ => True) () rfl (by k_asm) (by k_asm) (.head _) (fun _ h => nomatch h) trivial ?_ ?_
    · intro i7 v7 c7 u7 h7 tk7 nw7 I7 it7 hv7 _ hg7 hI7 hit7 F7 N7
      obtain ⟨m7, tk17, hk7, rfl⟩ := ord_item hw7 hv7
      obtain ⟨hBm, hmk⟩ := ord_run hk7 hk3
      dsimp only [kstB] at F7
      have v1 := v1.mono fun p hp => List.Mem.tail (I7, it7) (hg7.sub p (.tail _ hp))
      have cur := (cur.mono fun p hp => List.Mem.tail (I7, it7) (hg7.sub p (.tail _ hp))).rebase
      clear hnt hod hkc hV hs hg7
      have hnt := cur.nt
      have hod := cur.od
      have hkc := cur.kc
      have hV := cur.V
      by_cases hsk : B = .L ∧ k = .C ∧ (m7 = .I ∨ m7 = .D)
      · obtain ⟨rfl, rfl, rfl | rfl⟩ := hsk
        · repeat' ((fail_if_success (with_reducible show wpAny _ _ (PySem.exec (PySem.Stmt.While _ _ _ _) _) _ _ _)); (fail_if_success (with_reducible show wpAny _ _ (PySem.exec (PySem.Stmt.For _ _ _ _ _) _) _ _ _)); (fail_if_success (with_reducible show wpAny _ _ (PySem.exec (PySem.Stmt.Assign _ (PySem.Expr.ListComp _ _ _ _) _) _) _ _ _)); (fail_if_success (with_reducible show wpAny _ _ (PySem.eval (PySem.Expr.ListComp _ _ _ _) _) _ _ _)); (fail_if_success (with_reducible show LCg.CompSrc _ _ _ _ _ _ _ _ _ _ _ _ _ _)); (fail_if_success (with_reducible show LCt.CompSrcT _ _ _ _ _ _ _ _ _ _ _ _ _ _ _)); (fail_if_success (with_reducible show LCg.CompEnd _ _ _ _ _ _ _ _ _ _ _ _ _ _)); (fail_if_success (with_reducible show KswEnd _ _ _ _ _ _ _ _ _ _ _ _)); (fail_if_success (with_reducible show UnrEnd _ _ _ _ _ _ _)); (fail_if_success (with_reducible show wpAny _ _ (PySem.call (Value.ref 440) _) _ _ _)); (fail_if_success (with_reducible show wpAny _ _ (PySem.call (Value.ref 447) _) _ _ _)); (fail_if_success (with_reducible show wpAny _ _ (PySem.call (Value.ref 475) _) _ _ _)); (fail_if_success (with_reducible show wpAny _ _ (PySem.call (Value.ref 468) _) _ _ _)); (fail_if_success (with_reducible show wpAny _ _ (PySem.call (Value.ref 454) _) _ _ _)); first | (k_unfold; (try dsimp only)) | (k_end; wrow_close) | (with_reducible ((with_reducible show wpAny _ _ (subscriptTail _ _ (PySem.Value.ref _) (PySem.Value.ref _)) _ _ _); (k_dflt (first | (refine' ord_slice (j := ix _ + 1) ?F ?N ?m ordAre ?a ?b ?c rfl rfl ?_; (case F => k_asm); (case N => k_asm); (case m => first | k_mem | assumption); (case a => omega); (case b => omega); (case c => omega)) | (refine' ord_from ?F ?N ?m ordAre ?a rfl ?_; (case F => k_asm); (case N => k_asm); (case m => first | k_mem | assumption); (case a => omega))); intro D9z ws9z h9z F9z N9z l9z hw9z))) | (with_reducible ((with_reducible show wpAny _ _ (PySem.compareOp PySem.CmpOp.Eq (PySem.Value.str _ _) (PySem.Value.str _ _)) _ _ _); ((with_reducible (refine eq_not ?kn ?_; (case kn => assumption)))))) | (with_reducible ((with_reducible show wpAny _ _ (PySem.compareOp PySem.CmpOp.Eq (PySem.Value.str _ _) (PySem.Value.str _ _)) _ _ _); ((with_reducible first | (refine eq_self ?_) | (refine eq_not ?kn ?_; (case kn => first | assumption | decide +kernel)) | (refine eq_is ?kn ?_; (case kn => first | assumption | decide +kernel)))))) | ((with_reducible show wpAny _ _ (PySem.eval (PySem.Expr.Call (PySem.Expr.Name _ _) _ _) _) _ _ _); (refine Call_ ?_)) | (with_reducible ((with_reducible show wpAny _ _ (PySem.call (PySem.Value.builtin "list.index") _) _ _ _); (k_dflt (refine' ord_index ?N ?m ordAre ?i ?_; (case N => k_asm); (case m => first | k_mem | assumption); (case i => first | assumption | omega)); intro t9z k9z))) | (with_reducible ((with_reducible show wpAny _ _ (getMethod (Value.ref _) (PySem.Str.ofString "index") _) _ _ _); k_dflt (refine' kl_method ?N ?m PySem.F.slot_list_index PySem.F.type_list_index ?_; (case N => k_asm); (case m => first | k_mem | assumption)))) | (with_reducible (first | with_reducible refine ite_ff ?_ | with_reducible refine ite_tt ?_)) | (with_reducible ((with_reducible show LstPost _ _ _ _ _ _ _ _ _ _ _ _); (dsimp only [LstPost]))) | ((with_reducible show wpAny _ _ (PySem.execs (List.cons _ _) _) _ _ _); walk1; (try (refine gen_s ?_; intro tkG; (try dsimp only); (try k_fold)))) | walk1 | (dsimp only; walk1) | (leave1; (try dsimp only)) | fail "no step")
          exact LstEnd.intro () (by k_asm) (cb_drop (by k_asm) (by ((intro p hp; repeat' first | assumption | refine List.Mem.tail _ ?_)))) (Grew.refl _) (fun _ h => nomatch h) (by kst_same) trivial
        · repeat' ((fail_if_success (with_reducible show wpAny _ _ (PySem.exec (PySem.Stmt.While _ _ _ _) _) _ _ _)); (fail_if_success (with_reducible show wpAny _ _ (PySem.exec (PySem.Stmt.For _ _ _ _ _) _) _ _ _)); (fail_if_success (with_reducible show wpAny _ _ (PySem.exec (PySem.Stmt.Assign _ (PySem.Expr.ListComp _ _ _ _) _) _) _ _ _)); (fail_if_success (with_reducible show wpAny _ _ (PySem.eval (PySem.Expr.ListComp _ _ _ _) _) _ _ _)); (fail_if_success (with_reducible show LCg.CompSrc _ _ _ _ _ _ _ _ _ _ _ _ _ _)); (fail_if_success (with_reducible show LCt.CompSrcT _ _ _ _ _ _ _ _ _ _ _ _ _ _ _)); (fail_if_success (with_reducible show LCg.CompEnd _ _ _ _ _ _ _ _ _ _ _ _ _ _)); (fail_if_success (with_reducible show KswEnd _ _ _ _ _ _ _ _ _ _ _ _)); (fail_if_success (with_reducible show UnrEnd _ _ _ _ _ _ _)); (fail_if_success (with_reducible show wpAny _ _ (PySem.call (Value.ref 440) _) _ _ _)); (fail_if_success (with_reducible show wpAny _ _ (PySem.call (Value.ref 447) _) _ _ _)); (fail_if_success (with_reducible show wpAny _ _ (PySem.call (Value.ref 475) _) _ _ _)); (fail_if_success (with_reducible show wpAny _ _ (PySem.call (Value.ref 468) _) _ _ _)); (fail_if_success (with_reducible show wpAny _ _ (PySem.call (Value.ref 454) _) _ _ _)); first | (k_unfold; (try dsimp only)) | (k_end; wrow_close) | (with_reducible ((with_reducible show wpAny _ _ (subscriptTail _ _ (PySem.Value.ref _) (PySem.Value.ref _)) _ _ _); (k_dflt (first | (refine' ord_slice (j := ix _ + 1) ?F ?N ?m ordAre ?a ?b ?c rfl rfl ?_; (case F => k_asm); (case N => k_asm); (case m => first | k_mem | assumption); (case a => omega); (case b => omega); (case c => omega)) | (refine' ord_from ?F ?N ?m ordAre ?a rfl ?_; (case F => k_asm); (case N => k_asm); (case m => first | k_mem | assumption); (case a => omega))); intro D9z ws9z h9z F9z N9z l9z hw9z))) | (with_reducible ((with_reducible show wpAny _ _ (PySem.compareOp PySem.CmpOp.Eq (PySem.Value.str _ _) (PySem.Value.str _ _)) _ _ _); ((with_reducible (refine eq_not ?kn ?_; (case kn => assumption)))))) | (with_reducible ((with_reducible show wpAny _ _ (PySem.compareOp PySem.CmpOp.Eq (PySem.Value.str _ _) (PySem.Value.str _ _)) _ _ _); ((with_reducible first | (refine eq_self ?_) | (refine eq_not ?kn ?_; (case kn => first | assumption | decide +kernel)) | (refine eq_is ?kn ?_; (case kn => first | assumption | decide +kernel)))))) | ((with_reducible show wpAny _ _ (PySem.eval (PySem.Expr.Call (PySem.Expr.Name _ _) _ _) _) _ _ _); (refine Call_ ?_)) | (with_reducible ((with_reducible show wpAny _ _ (PySem.call (PySem.Value.builtin "list.index") _) _ _ _); (k_dflt (refine' ord_index ?N ?m ordAre ?i ?_; (case N => k_asm); (case m => first | k_mem | assumption); (case i => first | assumption | omega)); intro t9z k9z))) | (with_reducible ((with_reducible show wpAny _ _ (getMethod (Value.ref _) (PySem.Str.ofString "index") _) _ _ _); k_dflt (refine' kl_method ?N ?m PySem.F.slot_list_index PySem.F.type_list_index ?_; (case N => k_asm); (case m => first | k_mem | assumption)))) | (with_reducible (first | with_reducible refine ite_ff ?_ | with_reducible refine ite_tt ?_)) | (with_reducible ((with_reducible show LstPost _ _ _ _ _ _ _ _ _ _ _ _); (dsimp only [LstPost]))) | ((with_reducible show wpAny _ _ (PySem.execs (List.cons _ _) _) _ _ _); walk1; (try (refine gen_s ?_; intro tkG; (try dsimp only); (try k_fold)))) | walk1 | (dsimp only; walk1) | (leave1; (try dsimp only)) | fail "no step")
          exact LstEnd.intro () (by k_asm) (cb_drop (by k_asm) (by ((intro p hp; repeat' first | assumption | refine List.Mem.tail _ ?_)))) (Grew.refl _) (fun _ h => nomatch h) (by kst_same) trivial
      · (first | (with_reducible ((with_reducible show wpAny _ _ (subscriptTail _ _ (PySem.Value.ref _) (PySem.Value.ref _)) _ _ _); (k_dflt (first | (refine' ord_slice (j := ix _ + 1) ?F ?N ?m ordAre ?a ?b ?c rfl rfl ?_; (case F => k_asm); (case N => k_asm); (case m => first | k_mem | assumption); (case a => omega); (case b => omega); (case c => omega)) | (refine' ord_from ?F ?N ?m ordAre ?a rfl ?_; (case F => k_asm); (case N => k_asm); (case m => first | k_mem | assumption); (case a => omega))); intro D9z ws9z h9z F9z N9z l9z hw9z))) | (with_reducible ((with_reducible show wpAny _ _ (PySem.compareOp PySem.CmpOp.Eq (PySem.Value.str _ _) (PySem.Value.str _ _)) _ _ _); ((with_reducible (refine eq_not ?kn ?_; (case kn => assumption)))))) | (with_reducible ((with_reducible show wpAny _ _ (PySem.compareOp PySem.CmpOp.Eq (PySem.Value.str _ _) (PySem.Value.str _ _)) _ _ _); ((with_reducible first | (refine eq_self ?_) | (refine eq_not ?kn ?_; (case kn => first | assumption | decide +kernel)) | (refine eq_is ?kn ?_; (case kn => first | assumption | decide +kernel)))))) | ((with_reducible show wpAny _ _ (PySem.eval (PySem.Expr.Call (PySem.Expr.Name _ _) _ _) _) _ _ _); (refine Call_ ?_)) | (with_reducible ((with_reducible show wpAny _ _ (PySem.call (PySem.Value.builtin "list.index") _) _ _ _); (k_dflt (refine' ord_index ?N ?m ordAre ?i ?_; (case N => k_asm); (case m => first | k_mem | assumption); (case i => first | assumption | omega)); intro t9z k9z))) | (with_reducible ((with_reducible show wpAny _ _ (getMethod (Value.ref _) (PySem.Str.ofString "index") _) _ _ _); k_dflt (refine' kl_method ?N ?m PySem.F.slot_list_index PySem.F.type_list_index ?_; (case N => k_asm); (case m => first | k_mem | assumption)))) | (with_reducible (first | with_reducible refine ite_ff ?_ | with_reducible refine ite_tt ?_)) | (with_reducible ((with_reducible show LstPost _ _ _ _ _ _ _ _ _ _ _ _); (dsimp only [LstPost]))) | walk1)
        refine if_next (by k_asm) (by k_asm) ?_ ?_
        · by_cases hkC : k = .C
          · by_cases hBL : B = .L
            · have hm7 : m7 = .L ∨ m7 = .C := by
                cases m7
                · exact .inl rfl
                · exact absurd ⟨hBL, hkC, .inl rfl⟩ hsk
                · exact absurd ⟨hBL, hkC, .inr rfl⟩ hsk
                · exact .inr rfl
                · exact absurd hmk (by subst hkC; decide)
              subst hkC hBL
              rcases hm7 with rfl | rfl
              · repeat' ((fail_if_success (with_reducible show wpAny _ _ (PySem.exec (PySem.Stmt.While _ _ _ _) _) _ _ _)); (fail_if_success (with_reducible show wpAny _ _ (PySem.exec (PySem.Stmt.For _ _ _ _ _) _) _ _ _)); (fail_if_success (with_reducible show wpAny _ _ (PySem.exec (PySem.Stmt.Assign _ (PySem.Expr.ListComp _ _ _ _) _) _) _ _ _)); (fail_if_success (with_reducible show wpAny _ _ (PySem.eval (PySem.Expr.ListComp _ _ _ _) _) _ _ _)); (fail_if_success (with_reducible show LCg.CompSrc _ _ _ _ _ _ _ _ _ _ _ _ _ _)); (fail_if_success (with_reducible show LCt.CompSrcT _ _ _ _ _ _ _ _ _ _ _ _ _ _ _)); (fail_if_success (with_reducible show LCg.CompEnd _ _ _ _ _ _ _ _ _ _ _ _ _ _)); (fail_if_success (with_reducible show KswEnd _ _ _ _ _ _ _ _ _ _ _ _)); (fail_if_success (with_reducible show UnrEnd _ _ _ _ _ _ _)); (fail_if_success (with_reducible show wpAny _ _ (PySem.call (Value.ref 440) _) _ _ _)); (fail_if_success (with_reducible show wpAny _ _ (PySem.call (Value.ref 447) _) _ _ _)); (fail_if_success (with_reducible show wpAny _ _ (PySem.call (Value.ref 475) _) _ _ _)); (fail_if_success (with_reducible show wpAny _ _ (PySem.call (Value.ref 468) _) _ _ _)); (fail_if_success (with_reducible show wpAny _ _ (PySem.call (Value.ref 454) _) _ _ _)); first | (k_unfold; (try dsimp only)) | (k_end; wrow_close) | (with_reducible ((with_reducible show wpAny _ _ (subscriptTail _ _ (PySem.Value.ref _) (PySem.Value.ref _)) _ _ _); (k_dflt (first | (refine' ord_slice (j := ix _ + 1) ?F ?N ?m ordAre ?a ?b ?c rfl rfl ?_; (case F => k_asm); (case N => k_asm); (case m => first | k_mem | assumption); (case a => omega); (case b => omega); (case c => omega)) | (refine' ord_from ?F ?N ?m ordAre ?a rfl ?_; (case F => k_asm); (case N => k_asm); (case m => first | k_mem | assumption); (case a => omega))); intro D9z ws9z h9z F9z N9z l9z hw9z))) | (with_reducible ((with_reducible show wpAny _ _ (PySem.compareOp PySem.CmpOp.Eq (PySem.Value.str _ _) (PySem.Value.str _ _)) _ _ _); ((with_reducible (refine eq_not ?kn ?_; (case kn => assumption)))))) | (with_reducible ((with_reducible show wpAny _ _ (PySem.compareOp PySem.CmpOp.Eq (PySem.Value.str _ _) (PySem.Value.str _ _)) _ _ _); ((with_reducible first | (refine eq_self ?_) | (refine eq_not ?kn ?_; (case kn => first | assumption | decide +kernel)) | (refine eq_is ?kn ?_; (case kn => first | assumption | decide +kernel)))))) | ((with_reducible show wpAny _ _ (PySem.eval (PySem.Expr.Call (PySem.Expr.Name _ _) _ _) _) _ _ _); (refine Call_ ?_)) | (with_reducible ((with_reducible show wpAny _ _ (PySem.call (PySem.Value.builtin "list.index") _) _ _ _); (k_dflt (refine' ord_index ?N ?m ordAre ?i ?_; (case N => k_asm); (case m => first | k_mem | assumption); (case i => first | assumption | omega)); intro t9z k9z))) | (with_reducible ((with_reducible show wpAny _ _ (getMethod (Value.ref _) (PySem.Str.ofString "index") _) _ _ _); k_dflt (refine' kl_method ?N ?m PySem.F.slot_list_index PySem.F.type_list_index ?_; (case N => k_asm); (case m => first | k_mem | assumption)))) | (with_reducible (first | with_reducible refine ite_ff ?_ | with_reducible refine ite_tt ?_)) | (with_reducible ((with_reducible show LstPost _ _ _ _ _ _ _ _ _ _ _ _); (dsimp only [LstPost]))) | ((with_reducible show wpAny _ _ (PySem.execs (List.cons _ _) _) _ _ _); walk1; (try (refine gen_s ?_; intro tkG; (try dsimp only); (try k_fold)))) | walk1 | (dsimp only; walk1) | (leave1; (try dsimp only)) | fail "no step")
                exact ⟨rfl, _, _, _, rfl, by k_asm, by k_asm, by ((intro p hp; repeat' first | assumption | refine List.Mem.tail _ ?_))⟩
              · repeat' ((fail_if_success (with_reducible show wpAny _ _ (PySem.exec (PySem.Stmt.While _ _ _ _) _) _ _ _)); (fail_if_success (with_reducible show wpAny _ _ (PySem.exec (PySem.Stmt.For _ _ _ _ _) _) _ _ _)); (fail_if_success (with_reducible show wpAny _ _ (PySem.exec (PySem.Stmt.Assign _ (PySem.Expr.ListComp _ _ _ _) _) _) _ _ _)); (fail_if_success (with_reducible show wpAny _ _ (PySem.eval (PySem.Expr.ListComp _ _ _ _) _) _ _ _)); (fail_if_success (with_reducible show LCg.CompSrc _ _ _ _ _ _ _ _ _ _ _ _ _ _)); (fail_if_success (with_reducible show LCt.CompSrcT _ _ _ _ _ _ _ _ _ _ _ _ _ _ _)); (fail_if_success (with_reducible show LCg.CompEnd _ _ _ _ _ _ _ _ _ _ _ _ _ _)); (fail_if_success (with_reducible show KswEnd _ _ _ _ _ _ _ _ _ _ _ _)); (fail_if_success (with_reducible show UnrEnd _ _ _ _ _ _ _)); (fail_if_success (with_reducible show wpAny _ _ (PySem.call (Value.ref 440) _) _ _ _)); (fail_if_success (with_reducible show wpAny _ _ (PySem.call (Value.ref 447) _) _ _ _)); (fail_if_success (with_reducible show wpAny _ _ (PySem.call (Value.ref 475) _) _ _ _)); (fail_if_success (with_reducible show wpAny _ _ (PySem.call (Value.ref 468) _) _ _ _)); (fail_if_success (with_reducible show wpAny _ _ (PySem.call (Value.ref 454) _) _ _ _)); first | (k_unfold; (try dsimp only)) | (k_end; wrow_close) | (with_reducible ((with_reducible show wpAny _ _ (subscriptTail _ _ (PySem.Value.ref _) (PySem.Value.ref _)) _ _ _); (k_dflt (first | (refine' ord_slice (j := ix _ + 1) ?F ?N ?m ordAre ?a ?b ?c rfl rfl ?_; (case F => k_asm); (case N => k_asm); (case m => first | k_mem | assumption); (case a => omega); (case b => omega); (case c => omega)) | (refine' ord_from ?F ?N ?m ordAre ?a rfl ?_; (case F => k_asm); (case N => k_asm); (case m => first | k_mem | assumption); (case a => omega))); intro D9z ws9z h9z F9z N9z l9z hw9z))) | (with_reducible ((with_reducible show wpAny _ _ (PySem.compareOp PySem.CmpOp.Eq (PySem.Value.str _ _) (PySem.Value.str _ _)) _ _ _); ((with_reducible (refine eq_not ?kn ?_; (case kn => assumption)))))) | (with_reducible ((with_reducible show wpAny _ _ (PySem.compareOp PySem.CmpOp.Eq (PySem.Value.str _ _) (PySem.Value.str _ _)) _ _ _); ((with_reducible first | (refine eq_self ?_) | (refine eq_not ?kn ?_; (case kn => first | assumption | decide +kernel)) | (refine eq_is ?kn ?_; (case kn => first | assumption | decide +kernel)))))) | ((with_reducible show wpAny _ _ (PySem.eval (PySem.Expr.Call (PySem.Expr.Name _ _) _ _) _) _ _ _); (refine Call_ ?_)) | (with_reducible ((with_reducible show wpAny _ _ (PySem.call (PySem.Value.builtin "list.index") _) _ _ _); (k_dflt (refine' ord_index ?N ?m ordAre ?i ?_; (case N => k_asm); (case m => first | k_mem | assumption); (case i => first | assumption | omega)); intro t9z k9z))) | (with_reducible ((with_reducible show wpAny _ _ (getMethod (Value.ref _) (PySem.Str.ofString "index") _) _ _ _); k_dflt (refine' kl_method ?N ?m PySem.F.slot_list_index PySem.F.type_list_index ?_; (case N => k_asm); (case m => first | k_mem | assumption)))) | (with_reducible (first | with_reducible refine ite_ff ?_ | with_reducible refine ite_tt ?_)) | (with_reducible ((with_reducible show LstPost _ _ _ _ _ _ _ _ _ _ _ _); (dsimp only [LstPost]))) | ((with_reducible show wpAny _ _ (PySem.execs (List.cons _ _) _) _ _ _); walk1; (try (refine gen_s ?_; intro tkG; (try dsimp only); (try k_fold)))) | walk1 | (dsimp only; walk1) | (leave1; (try dsimp only)) | fail "no step")
                exact ⟨rfl, _, _, _, rfl, by k_asm, by k_asm, by ((intro p hp; repeat' first | assumption | refine List.Mem.tail _ ?_))⟩
            · have hBn : ¬ kn B = Str.ofString "logical" := by cases B <;> first | exact absurd rfl hBL | decide +kernel
              subst hkC
              repeat' ((fail_if_success (with_reducible show wpAny _ _ (PySem.exec (PySem.Stmt.While _ _ _ _) _) _ _ _)); (fail_if_success (with_reducible show wpAny _ _ (PySem.exec (PySem.Stmt.For _ _ _ _ _) _) _ _ _)); (fail_if_success (with_reducible show wpAny _ _ (PySem.exec (PySem.Stmt.Assign _ (PySem.Expr.ListComp _ _ _ _) _) _) _ _ _)); (fail_if_success (with_reducible show wpAny _ _ (PySem.eval (PySem.Expr.ListComp _ _ _ _) _) _ _ _)); (fail_if_success (with_reducible show LCg.CompSrc _ _ _ _ _ _ _ _ _ _ _ _ _ _)); (fail_if_success (with_reducible show LCt.CompSrcT _ _ _ _ _ _ _ _ _ _ _ _ _ _ _)); (fail_if_success (with_reducible show LCg.CompEnd _ _ _ _ _ _ _ _ _ _ _ _ _ _)); (fail_if_success (with_reducible show KswEnd _ _ _ _ _ _ _ _ _ _ _ _)); (fail_if_success (with_reducible show UnrEnd _ _ _ _ _ _ _)); (fail_if_success (with_reducible show wpAny _ _ (PySem.call (Value.ref 440) _) _ _ _)); (fail_if_success (with_reducible show wpAny _ _ (PySem.call (Value.ref 447) _) _ _ _)); (fail_if_success (with_reducible show wpAny _ _ (PySem.call (Value.ref 475) _) _ _ _)); (fail_if_success (with_reducible show wpAny _ _ (PySem.call (Value.ref 468) _) _ _ _)); (fail_if_success (with_reducible show wpAny _ _ (PySem.call (Value.ref 454) _) _ _ _)); first | (k_unfold; (try dsimp only)) | (k_end; wrow_close) | (with_reducible ((with_reducible show wpAny _ _ (subscriptTail _ _ (PySem.Value.ref _) (PySem.Value.ref _)) _ _ _); (k_dflt (first | (refine' ord_slice (j := ix _ + 1) ?F ?N ?m ordAre ?a ?b ?c rfl rfl ?_; (case F => k_asm); (case N => k_asm); (case m => first | k_mem | assumption); (case a => omega); (case b => omega); (case c => omega)) | (refine' ord_from ?F ?N ?m ordAre ?a rfl ?_; (case F => k_asm); (case N => k_asm); (case m => first | k_mem | assumption); (case a => omega))); intro D9z ws9z h9z F9z N9z l9z hw9z))) | (with_reducible ((with_reducible show wpAny _ _ (PySem.compareOp PySem.CmpOp.Eq (PySem.Value.str _ _) (PySem.Value.str _ _)) _ _ _); ((with_reducible (refine eq_not ?kn ?_; (case kn => assumption)))))) | (with_reducible ((with_reducible show wpAny _ _ (PySem.compareOp PySem.CmpOp.Eq (PySem.Value.str _ _) (PySem.Value.str _ _)) _ _ _); ((with_reducible first | (refine eq_self ?_) | (refine eq_not ?kn ?_; (case kn => first | assumption | decide +kernel)) | (refine eq_is ?kn ?_; (case kn => first | assumption | decide +kernel)))))) | ((with_reducible show wpAny _ _ (PySem.eval (PySem.Expr.Call (PySem.Expr.Name _ _) _ _) _) _ _ _); (refine Call_ ?_)) | (with_reducible ((with_reducible show wpAny _ _ (PySem.call (PySem.Value.builtin "list.index") _) _ _ _); (k_dflt (refine' ord_index ?N ?m ordAre ?i ?_; (case N => k_asm); (case m => first | k_mem | assumption); (case i => first | assumption | omega)); intro t9z k9z))) | (with_reducible ((with_reducible show wpAny _ _ (getMethod (Value.ref _) (PySem.Str.ofString "index") _) _ _ _); k_dflt (refine' kl_method ?N ?m PySem.F.slot_list_index PySem.F.type_list_index ?_; (case N => k_asm); (case m => first | k_mem | assumption)))) | (with_reducible (first | with_reducible refine ite_ff ?_ | with_reducible refine ite_tt ?_)) | (with_reducible ((with_reducible show LstPost _ _ _ _ _ _ _ _ _ _ _ _); (dsimp only [LstPost]))) | ((with_reducible show wpAny _ _ (PySem.execs (List.cons _ _) _) _ _ _); walk1; (try (refine gen_s ?_; intro tkG; (try dsimp only); (try k_fold)))) | walk1 | (dsimp only; walk1) | (leave1; (try dsimp only)) | fail "no step")
              exact ⟨rfl, _, _, _, rfl, by k_asm, by k_asm, by ((intro p hp; repeat' first | assumption | refine List.Mem.tail _ ?_))⟩
          · have hkn : ¬ kn k = Str.ofString "character" := by cases k <;> first | exact absurd rfl hkC | decide +kernel
            repeat' ((fail_if_success (with_reducible show wpAny _ _ (PySem.exec (PySem.Stmt.While _ _ _ _) _) _ _ _)); (fail_if_success (with_reducible show wpAny _ _ (PySem.exec (PySem.Stmt.For _ _ _ _ _) _) _ _ _)); (fail_if_success (with_reducible show wpAny _ _ (PySem.exec (PySem.Stmt.Assign _ (PySem.Expr.ListComp _ _ _ _) _) _) _ _ _)); (fail_if_success (with_reducible show wpAny _ _ (PySem.eval (PySem.Expr.ListComp _ _ _ _) _) _ _ _)); (fail_if_success (with_reducible show LCg.CompSrc _ _ _ _ _ _ _ _ _ _ _ _ _ _)); (fail_if_success (with_reducible show LCt.CompSrcT _ _ _ _ _ _ _ _ _ _ _ _ _ _ _)); (fail_if_success (with_reducible show LCg.CompEnd _ _ _ _ _ _ _ _ _ _ _ _ _ _)); (fail_if_success (with_reducible show KswEnd _ _ _ _ _ _ _ _ _ _ _ _)); (fail_if_success (with_reducible show UnrEnd _ _ _ _ _ _ _)); (fail_if_success (with_reducible show wpAny _ _ (PySem.call (Value.ref 440) _) _ _ _)); (fail_if_success (with_reducible show wpAny _ _ (PySem.call (Value.ref 447) _) _ _ _)); (fail_if_success (with_reducible show wpAny _ _ (PySem.call (Value.ref 475) _) _ _ _)); (fail_if_success (with_reducible show wpAny _ _ (PySem.call (Value.ref 468) _) _ _ _)); (fail_if_success (with_reducible show wpAny _ _ (PySem.call (Value.ref 454) _) _ _ _)); first | (k_unfold; (try dsimp only)) | (k_end; wrow_close) | (with_reducible ((with_reducible show wpAny _ _ (subscriptTail _ _ (PySem.Value.ref _) (PySem.Value.ref _)) _ _ _); (k_dflt (first | (refine' ord_slice (j := ix _ + 1) ?F ?N ?m ordAre ?a ?b ?c rfl rfl ?_; (case F => k_asm); (case N => k_asm); (case m => first | k_mem | assumption); (case a => omega); (case b => omega); (case c => omega)) | (refine' ord_from ?F ?N ?m ordAre ?a rfl ?_; (case F => k_asm); (case N => k_asm); (case m => first | k_mem | assumption); (case a => omega))); intro D9z ws9z h9z F9z N9z l9z hw9z))) | (with_reducible ((with_reducible show wpAny _ _ (PySem.compareOp PySem.CmpOp.Eq (PySem.Value.str _ _) (PySem.Value.str _ _)) _ _ _); ((with_reducible (refine eq_not ?kn ?_; (case kn => assumption)))))) | (with_reducible ((with_reducible show wpAny _ _ (PySem.compareOp PySem.CmpOp.Eq (PySem.Value.str _ _) (PySem.Value.str _ _)) _ _ _); ((with_reducible first | (refine eq_self ?_) | (refine eq_not ?kn ?_; (case kn => first | assumption | decide +kernel)) | (refine eq_is ?kn ?_; (case kn => first | assumption | decide +kernel)))))) | ((with_reducible show wpAny _ _ (PySem.eval (PySem.Expr.Call (PySem.Expr.Name _ _) _ _) _) _ _ _); (refine Call_ ?_)) | (with_reducible ((with_reducible show wpAny _ _ (PySem.call (PySem.Value.builtin "list.index") _) _ _ _); (k_dflt (refine' ord_index ?N ?m ordAre ?i ?_; (case N => k_asm); (case m => first | k_mem | assumption); (case i => first | assumption | omega)); intro t9z k9z))) | (with_reducible ((with_reducible show wpAny _ _ (getMethod (Value.ref _) (PySem.Str.ofString "index") _) _ _ _); k_dflt (refine' kl_method ?N ?m PySem.F.slot_list_index PySem.F.type_list_index ?_; (case N => k_asm); (case m => first | k_mem | assumption)))) | (with_reducible (first | with_reducible refine ite_ff ?_ | with_reducible refine ite_tt ?_)) | (with_reducible ((with_reducible show LstPost _ _ _ _ _ _ _ _ _ _ _ _); (dsimp only [LstPost]))) | ((with_reducible show wpAny _ _ (PySem.execs (List.cons _ _) _) _ _ _); walk1; (try (refine gen_s ?_; intro tkG; (try dsimp only); (try k_fold)))) | walk1 | (dsimp only; walk1) | (leave1; (try dsimp only)) | fail "no step")
            exact ⟨rfl, _, _, _, rfl, by k_asm, by k_asm, by ((intro p hp; repeat' first | assumption | refine List.Mem.tail _ ?_))⟩
        · intro h6 tk6 nw6 F6 N6 hs6
          have cur := cur.mono hs6
          have v1 := v1.mono hs6
          repeat' ((fail_if_success (with_reducible show wpAny _ _ (PySem.exec (PySem.Stmt.While _ _ _ _) _) _ _ _)); (fail_if_success (with_reducible show wpAny _ _ (PySem.exec (PySem.Stmt.For _ _ _ _ _) _) _ _ _)); (fail_if_success (with_reducible show wpAny _ _ (PySem.exec (PySem.Stmt.Assign _ (PySem.Expr.ListComp _ _ _ _) _) _) _ _ _)); (fail_if_success (with_reducible show wpAny _ _ (PySem.eval (PySem.Expr.ListComp _ _ _ _) _) _ _ _)); (fail_if_success (with_reducible show LCg.CompSrc _ _ _ _ _ _ _ _ _ _ _ _ _ _)); (fail_if_success (with_reducible show LCt.CompSrcT _ _ _ _ _ _ _ _ _ _ _ _ _ _ _)); (fail_if_success (with_reducible show LCg.CompEnd _ _ _ _ _ _ _ _ _ _ _ _ _ _)); (fail_if_success (with_reducible show KswEnd _ _ _ _ _ _ _ _ _ _ _ _)); (fail_if_success (with_reducible show UnrEnd _ _ _ _ _ _ _)); (fail_if_success (with_reducible show wpAny _ _ (PySem.call (Value.ref 440) _) _ _ _)); (fail_if_success (with_reducible show wpAny _ _ (PySem.call (Value.ref 447) _) _ _ _)); (fail_if_success (with_reducible show wpAny _ _ (PySem.call (Value.ref 475) _) _ _ _)); (fail_if_success (with_reducible show wpAny _ _ (PySem.call (Value.ref 468) _) _ _ _)); (fail_if_success (with_reducible show wpAny _ _ (PySem.call (Value.ref 454) _) _ _ _)); first | (k_unfold; (try dsimp only)) | (k_end; wrow_close) | (with_reducible ((with_reducible show wpAny _ _ (subscriptTail _ _ (PySem.Value.ref _) (PySem.Value.ref _)) _ _ _); (k_dflt (first | (refine' ord_slice (j := ix _ + 1) ?F ?N ?m ordAre ?a ?b ?c rfl rfl ?_; (case F => k_asm); (case N => k_asm); (case m => first | k_mem | assumption); (case a => omega); (case b => omega); (case c => omega)) | (refine' ord_from ?F ?N ?m ordAre ?a rfl ?_; (case F => k_asm); (case N => k_asm); (case m => first | k_mem | assumption); (case a => omega))); intro D9z ws9z h9z F9z N9z l9z hw9z))) | (with_reducible ((with_reducible show wpAny _ _ (PySem.compareOp PySem.CmpOp.Eq (PySem.Value.str _ _) (PySem.Value.str _ _)) _ _ _); ((with_reducible (refine eq_not ?kn ?_; (case kn => assumption)))))) | (with_reducible ((with_reducible show wpAny _ _ (PySem.compareOp PySem.CmpOp.Eq (PySem.Value.str _ _) (PySem.Value.str _ _)) _ _ _); ((with_reducible first | (refine eq_self ?_) | (refine eq_not ?kn ?_; (case kn => first | assumption | decide +kernel)) | (refine eq_is ?kn ?_; (case kn => first | assumption | decide +kernel)))))) | ((with_reducible show wpAny _ _ (PySem.eval (PySem.Expr.Call (PySem.Expr.Name _ _) _ _) _) _ _ _); (refine Call_ ?_)) | (with_reducible ((with_reducible show wpAny _ _ (PySem.call (PySem.Value.builtin "list.index") _) _ _ _); (k_dflt (refine' ord_index ?N ?m ordAre ?i ?_; (case N => k_asm); (case m => first | k_mem | assumption); (case i => first | assumption | omega)); intro t9z k9z))) | (with_reducible ((with_reducible show wpAny _ _ (getMethod (Value.ref _) (PySem.Str.ofString "index") _) _ _ _); k_dflt (refine' kl_method ?N ?m PySem.F.slot_list_index PySem.F.type_list_index ?_; (case N => k_asm); (case m => first | k_mem | assumption)))) | (with_reducible (first | with_reducible refine ite_ff ?_ | with_reducible refine ite_tt ?_)) | (with_reducible ((with_reducible show LstPost _ _ _ _ _ _ _ _ _ _ _ _); (dsimp only [LstPost]))) | ((with_reducible show wpAny _ _ (PySem.execs (List.cons _ _) _) _ _ _); walk1; (try (refine gen_s ?_; intro tkG; (try dsimp only); (try k_fold)))) | walk1 | (dsimp only; walk1) | (leave1; (try dsimp only)) | fail "no step")
          refine useO (as_kind_all w mean mg mb B m7 its (rep B B) (rep B m7) nm rv _ _ hz hls7 (cv_mid hb (Nat.le_refl _) hBm (by omega) (by rintro ⟨rfl, _, h | h⟩ <;> cases h))) (by k_asm) (by k_asm) (by k_asm) (by k_asm) (by k_asm) rfl cur.V (by ktr_room) (by ktr_units) ?_
          rintro r4 nw4 h4 tk4 F4 N4 ⟨g4, v4⟩
          (try dsimp only); (try k_sweep)
          have cur := cur.mono g4.sub
          have v1 := v1.mono g4.sub
          repeat' ((fail_if_success (with_reducible show wpAny _ _ (PySem.exec (PySem.Stmt.While _ _ _ _) _) _ _ _)); (fail_if_success (with_reducible show wpAny _ _ (PySem.exec (PySem.Stmt.For _ _ _ _ _) _) _ _ _)); (fail_if_success (with_reducible show wpAny _ _ (PySem.exec (PySem.Stmt.Assign _ (PySem.Expr.ListComp _ _ _ _) _) _) _ _ _)); (fail_if_success (with_reducible show wpAny _ _ (PySem.eval (PySem.Expr.ListComp _ _ _ _) _) _ _ _)); (fail_if_success (with_reducible show LCg.CompSrc _ _ _ _ _ _ _ _ _ _ _ _ _ _)); (fail_if_success (with_reducible show LCt.CompSrcT _ _ _ _ _ _ _ _ _ _ _ _ _ _ _)); (fail_if_success (with_reducible show LCg.CompEnd _ _ _ _ _ _ _ _ _ _ _ _ _ _)); (fail_if_success (with_reducible show KswEnd _ _ _ _ _ _ _ _ _ _ _ _)); (fail_if_success (with_reducible show UnrEnd _ _ _ _ _ _ _)); (fail_if_success (with_reducible show wpAny _ _ (PySem.call (Value.ref 440) _) _ _ _)); (fail_if_success (with_reducible show wpAny _ _ (PySem.call (Value.ref 447) _) _ _ _)); (fail_if_success (with_reducible show wpAny _ _ (PySem.call (Value.ref 475) _) _ _ _)); (fail_if_success (with_reducible show wpAny _ _ (PySem.call (Value.ref 468) _) _ _ _)); (fail_if_success (with_reducible show wpAny _ _ (PySem.call (Value.ref 454) _) _ _ _)); first | (k_unfold; (try dsimp only)) | (k_end; wrow_close) | (with_reducible ((with_reducible show wpAny _ _ (subscriptTail _ _ (PySem.Value.ref _) (PySem.Value.ref _)) _ _ _); (k_dflt (first | (refine' ord_slice (j := ix _ + 1) ?F ?N ?m ordAre ?a ?b ?c rfl rfl ?_; (case F => k_asm); (case N => k_asm); (case m => first | k_mem | assumption); (case a => omega); (case b => omega); (case c => omega)) | (refine' ord_from ?F ?N ?m ordAre ?a rfl ?_; (case F => k_asm); (case N => k_asm); (case m => first | k_mem | assumption); (case a => omega))); intro D9z ws9z h9z F9z N9z l9z hw9z))) | (with_reducible ((with_reducible show wpAny _ _ (PySem.compareOp PySem.CmpOp.Eq (PySem.Value.str _ _) (PySem.Value.str _ _)) _ _ _); ((with_reducible (refine eq_not ?kn ?_; (case kn => assumption)))))) | (with_reducible ((with_reducible show wpAny _ _ (PySem.compareOp PySem.CmpOp.Eq (PySem.Value.str _ _) (PySem.Value.str _ _)) _ _ _); ((with_reducible first | (refine eq_self ?_) | (refine eq_not ?kn ?_; (case kn => first | assumption | decide +kernel)) | (refine eq_is ?kn ?_; (case kn => first | assumption | decide +kernel)))))) | ((with_reducible show wpAny _ _ (PySem.eval (PySem.Expr.Call (PySem.Expr.Name _ _) _ _) _) _ _ _); (refine Call_ ?_)) | (with_reducible ((with_reducible show wpAny _ _ (PySem.call (PySem.Value.builtin "list.index") _) _ _ _); (k_dflt (refine' ord_index ?N ?m ordAre ?i ?_; (case N => k_asm); (case m => first | k_mem | assumption); (case i => first | assumption | omega)); intro t9z k9z))) | (with_reducible ((with_reducible show wpAny _ _ (getMethod (Value.ref _) (PySem.Str.ofString "index") _) _ _ _); k_dflt (refine' kl_method ?N ?m PySem.F.slot_list_index PySem.F.type_list_index ?_; (case N => k_asm); (case m => first | k_mem | assumption)))) | (with_reducible (first | with_reducible refine ite_ff ?_ | with_reducible refine ite_tt ?_)) | (with_reducible ((with_reducible show LstPost _ _ _ _ _ _ _ _ _ _ _ _); (dsimp only [LstPost]))) | ((with_reducible show wpAny _ _ (PySem.execs (List.cons _ _) _) _ _ _); walk1; (try (refine gen_s ?_; intro tkG; (try dsimp only); (try k_fold)))) | walk1 | (dsimp only; walk1) | (leave1; (try dsimp only)) | fail "no step")
          refine useO (as_kind_all w mean mg mb m7 k its (rep B m7) (rep B k) nm r4 _ _ hz hls7 (cv_mid hb hBm hmk hk3 hsk)) (by k_asm) (by k_asm) (by k_asm) (by k_asm) (by k_asm) rfl v4 (by ktr_room) (by ktr_units) ?_
          rintro r5 nw5 h5 tk5 F5 N5 ⟨g5, v5⟩
          (try dsimp only); (try k_sweep)
          have cur := cur.mono g5.sub
          have v1 := v1.mono g5.sub
          repeat' ((fail_if_success (with_reducible show wpAny _ _ (PySem.exec (PySem.Stmt.While _ _ _ _) _) _ _ _)); (fail_if_success (with_reducible show wpAny _ _ (PySem.exec (PySem.Stmt.For _ _ _ _ _) _) _ _ _)); (fail_if_success (with_reducible show wpAny _ _ (PySem.exec (PySem.Stmt.Assign _ (PySem.Expr.ListComp _ _ _ _) _) _) _ _ _)); (fail_if_success (with_reducible show wpAny _ _ (PySem.eval (PySem.Expr.ListComp _ _ _ _) _) _ _ _)); (fail_if_success (with_reducible show LCg.CompSrc _ _ _ _ _ _ _ _ _ _ _ _ _ _)); (fail_if_success (with_reducible show LCt.CompSrcT _ _ _ _ _ _ _ _ _ _ _ _ _ _ _)); (fail_if_success (with_reducible show LCg.CompEnd _ _ _ _ _ _ _ _ _ _ _ _ _ _)); (fail_if_success (with_reducible show KswEnd _ _ _ _ _ _ _ _ _ _ _ _)); (fail_if_success (with_reducible show UnrEnd _ _ _ _ _ _ _)); (fail_if_success (with_reducible show wpAny _ _ (PySem.call (Value.ref 440) _) _ _ _)); (fail_if_success (with_reducible show wpAny _ _ (PySem.call (Value.ref 447) _) _ _ _)); (fail_if_success (with_reducible show wpAny _ _ (PySem.call (Value.ref 475) _) _ _ _)); (fail_if_success (with_reducible show wpAny _ _ (PySem.call (Value.ref 468) _) _ _ _)); (fail_if_success (with_reducible show wpAny _ _ (PySem.call (Value.ref 454) _) _ _ _)); first | (k_unfold; (try dsimp only)) | (k_end; wrow_close) | (with_reducible ((with_reducible show wpAny _ _ (subscriptTail _ _ (PySem.Value.ref _) (PySem.Value.ref _)) _ _ _); (k_dflt (first | (refine' ord_slice (j := ix _ + 1) ?F ?N ?m ordAre ?a ?b ?c rfl rfl ?_; (case F => k_asm); (case N => k_asm); (case m => first | k_mem | assumption); (case a => omega); (case b => omega); (case c => omega)) | (refine' ord_from ?F ?N ?m ordAre ?a rfl ?_; (case F => k_asm); (case N => k_asm); (case m => first | k_mem | assumption); (case a => omega))); intro D9z ws9z h9z F9z N9z l9z hw9z))) | (with_reducible ((with_reducible show wpAny _ _ (PySem.compareOp PySem.CmpOp.Eq (PySem.Value.str _ _) (PySem.Value.str _ _)) _ _ _); ((with_reducible (refine eq_not ?kn ?_; (case kn => assumption)))))) | (with_reducible ((with_reducible show wpAny _ _ (PySem.compareOp PySem.CmpOp.Eq (PySem.Value.str _ _) (PySem.Value.str _ _)) _ _ _); ((with_reducible first | (refine eq_self ?_) | (refine eq_not ?kn ?_; (case kn => first | assumption | decide +kernel)) | (refine eq_is ?kn ?_; (case kn => first | assumption | decide +kernel)))))) | ((with_reducible show wpAny _ _ (PySem.eval (PySem.Expr.Call (PySem.Expr.Name _ _) _ _) _) _ _ _); (refine Call_ ?_)) | (with_reducible ((with_reducible show wpAny _ _ (PySem.call (PySem.Value.builtin "list.index") _) _ _ _); (k_dflt (refine' ord_index ?N ?m ordAre ?i ?_; (case N => k_asm); (case m => first | k_mem | assumption); (case i => first | assumption | omega)); intro t9z k9z))) | (with_reducible ((with_reducible show wpAny _ _ (getMethod (Value.ref _) (PySem.Str.ofString "index") _) _ _ _); k_dflt (refine' kl_method ?N ?m PySem.F.slot_list_index PySem.F.type_list_index ?_; (case N => k_asm); (case m => first | k_mem | assumption)))) | (with_reducible (first | with_reducible refine ite_ff ?_ | with_reducible refine ite_tt ?_)) | (with_reducible ((with_reducible show LstPost _ _ _ _ _ _ _ _ _ _ _ _); (dsimp only [LstPost]))) | ((with_reducible show wpAny _ _ (PySem.execs (List.cons _ _) _) _ _ _); walk1; (try (refine gen_s ?_; intro tkG; (try dsimp only); (try k_fold)))) | walk1 | (dsimp only; walk1) | (leave1; (try dsimp only)) | fail "no step")
          refine useV (law_same_v w mean mg mb k its (rep B k) (rep B k) nm r5 r1 (fun a ha => flat_rep (hb a ha)) (fun a ha => flat_rep (hb a ha)) (fun a ha => rfl) hlsf) (by k_asm) (by k_asm) (by k_asm) (by k_asm) (by k_asm) rfl ⟨v5, v1⟩ (by ktr_room) (by ktr_units) ?_
          rintro r6 h6 tk6 F6 N6 rfl
          (try dsimp only); (try k_sweep)
          repeat' ((fail_if_success (with_reducible show wpAny _ _ (PySem.exec (PySem.Stmt.While _ _ _ _) _) _ _ _)); (fail_if_success (with_reducible show wpAny _ _ (PySem.exec (PySem.Stmt.For _ _ _ _ _) _) _ _ _)); (fail_if_success (with_reducible show wpAny _ _ (PySem.exec (PySem.Stmt.Assign _ (PySem.Expr.ListComp _ _ _ _) _) _) _ _ _)); (fail_if_success (with_reducible show wpAny _ _ (PySem.eval (PySem.Expr.ListComp _ _ _ _) _) _ _ _)); (fail_if_success (with_reducible show LCg.CompSrc _ _ _ _ _ _ _ _ _ _ _ _ _ _)); (fail_if_success (with_reducible show LCt.CompSrcT _ _ _ _ _ _ _ _ _ _ _ _ _ _ _)); (fail_if_success (with_reducible show LCg.CompEnd _ _ _ _ _ _ _ _ _ _ _ _ _ _)); (fail_if_success (with_reducible show KswEnd _ _ _ _ _ _ _ _ _ _ _ _)); (fail_if_success (with_reducible show UnrEnd _ _ _ _ _ _ _)); (fail_if_success (with_reducible show wpAny _ _ (PySem.call (Value.ref 440) _) _ _ _)); (fail_if_success (with_reducible show wpAny _ _ (PySem.call (Value.ref 447) _) _ _ _)); (fail_if_success (with_reducible show wpAny _ _ (PySem.call (Value.ref 475) _) _ _ _)); (fail_if_success (with_reducible show wpAny _ _ (PySem.call (Value.ref 468) _) _ _ _)); (fail_if_success (with_reducible show wpAny _ _ (PySem.call (Value.ref 454) _) _ _ _)); first | (k_unfold; (try dsimp only)) | (k_end; wrow_close) | (with_reducible ((with_reducible show wpAny _ _ (subscriptTail _ _ (PySem.Value.ref _) (PySem.Value.ref _)) _ _ _); (k_dflt (first | (refine' ord_slice (j := ix _ + 1) ?F ?N ?m ordAre ?a ?b ?c rfl rfl ?_; (case F => k_asm); (case N => k_asm); (case m => first | k_mem | assumption); (case a => omega); (case b => omega); (case c => omega)) | (refine' ord_from ?F ?N ?m ordAre ?a rfl ?_; (case F => k_asm); (case N => k_asm); (case m => first | k_mem | assumption); (case a => omega))); intro D9z ws9z h9z F9z N9z l9z hw9z))) | (with_reducible ((with_reducible show wpAny _ _ (PySem.compareOp PySem.CmpOp.Eq (PySem.Value.str _ _) (PySem.Value.str _ _)) _ _ _); ((with_reducible (refine eq_not ?kn ?_; (case kn => assumption)))))) | (with_reducible ((with_reducible show wpAny _ _ (PySem.compareOp PySem.CmpOp.Eq (PySem.Value.str _ _) (PySem.Value.str _ _)) _ _ _); ((with_reducible first | (refine eq_self ?_) | (refine eq_not ?kn ?_; (case kn => first | assumption | decide +kernel)) | (refine eq_is ?kn ?_; (case kn => first | assumption | decide +kernel)))))) | ((with_reducible show wpAny _ _ (PySem.eval (PySem.Expr.Call (PySem.Expr.Name _ _) _ _) _) _ _ _); (refine Call_ ?_)) | (with_reducible ((with_reducible show wpAny _ _ (PySem.call (PySem.Value.builtin "list.index") _) _ _ _); (k_dflt (refine' ord_index ?N ?m ordAre ?i ?_; (case N => k_asm); (case m => first | k_mem | assumption); (case i => first | assumption | omega)); intro t9z k9z))) | (with_reducible ((with_reducible show wpAny _ _ (getMethod (Value.ref _) (PySem.Str.ofString "index") _) _ _ _); k_dflt (refine' kl_method ?N ?m PySem.F.slot_list_index PySem.F.type_list_index ?_; (case N => k_asm); (case m => first | k_mem | assumption)))) | (with_reducible (first | with_reducible refine ite_ff ?_ | with_reducible refine ite_tt ?_)) | (with_reducible ((with_reducible show LstPost _ _ _ _ _ _ _ _ _ _ _ _); (dsimp only [LstPost]))) | ((with_reducible show wpAny _ _ (PySem.execs (List.cons _ _) _) _ _ _); walk1; (try (refine gen_s ?_; intro tkG; (try dsimp only); (try k_fold)))) | walk1 | (dsimp only; walk1) | (leave1; (try dsimp only)) | fail "no step")
          have hs := cur.old
          exact LstEnd.intro () (by k_asm) (cb_drop (by k_asm) hs) (Grew.refl _) (fun _ h => nomatch h) (by kst_same) trivial
    · intro c7 u7 h7 tk7 nw7 _ hg7 F7 N7
      dsimp only [kstB] at F7
      have v1 := v1.mono fun p hp => hg7.sub p (.tail _ hp)
      have cur := cur.mono fun p hp => hg7.sub p (.tail _ hp)
      clear hg7
      repeat' ((fail_if_success (with_reducible show wpAny _ _ (PySem.exec (PySem.Stmt.While _ _ _ _) _) _ _ _)); (fail_if_success (with_reducible show wpAny _ _ (PySem.exec (PySem.Stmt.For _ _ _ _ _) _) _ _ _)); (fail_if_success (with_reducible show wpAny _ _ (PySem.exec (PySem.Stmt.Assign _ (PySem.Expr.ListComp _ _ _ _) _) _) _ _ _)); (fail_if_success (with_reducible show wpAny _ _ (PySem.eval (PySem.Expr.ListComp _ _ _ _) _) _ _ _)); (fail_if_success (with_reducible show LCg.CompSrc _ _ _ _ _ _ _ _ _ _ _ _ _ _)); (fail_if_success (with_reducible show LCt.CompSrcT _ _ _ _ _ _ _ _ _ _ _ _ _ _ _)); (fail_if_success (with_reducible show LCg.CompEnd _ _ _ _ _ _ _ _ _ _ _ _ _ _)); (fail_if_success (with_reducible show KswEnd _ _ _ _ _ _ _ _ _ _ _ _)); (fail_if_success (with_reducible show UnrEnd _ _ _ _ _ _ _)); (fail_if_success (with_reducible show wpAny _ _ (PySem.call (Value.ref 440) _) _ _ _)); (fail_if_success (with_reducible show wpAny _ _ (PySem.call (Value.ref 447) _) _ _ _)); (fail_if_success (with_reducible show wpAny _ _ (PySem.call (Value.ref 475) _) _ _ _)); (fail_if_success (with_reducible show wpAny _ _ (PySem.call (Value.ref 468) _) _ _ _)); (fail_if_success (with_reducible show wpAny _ _ (PySem.call (Value.ref 454) _) _ _ _)); first | (k_unfold; (try dsimp only)) | (k_end; wrow_close) | (with_reducible ((with_reducible show wpAny _ _ (subscriptTail _ _ (PySem.Value.ref _) (PySem.Value.ref _)) _ _ _); (k_dflt (first | (refine' ord_slice (j := ix _ + 1) ?F ?N ?m ordAre ?a ?b ?c rfl rfl ?_; (case F => k_asm); (case N => k_asm); (case m => first | k_mem | assumption); (case a => omega); (case b => omega); (case c => omega)) | (refine' ord_from ?F ?N ?m ordAre ?a rfl ?_; (case F => k_asm); (case N => k_asm); (case m => first | k_mem | assumption); (case a => omega))); intro D9z ws9z h9z F9z N9z l9z hw9z))) | (with_reducible ((with_reducible show wpAny _ _ (PySem.compareOp PySem.CmpOp.Eq (PySem.Value.str _ _) (PySem.Value.str _ _)) _ _ _); ((with_reducible (refine eq_not ?kn ?_; (case kn => assumption)))))) | (with_reducible ((with_reducible show wpAny _ _ (PySem.compareOp PySem.CmpOp.Eq (PySem.Value.str _ _) (PySem.Value.str _ _)) _ _ _); ((with_reducible first | (refine eq_self ?_) | (refine eq_not ?kn ?_; (case kn => first | assumption | decide +kernel)) | (refine eq_is ?kn ?_; (case kn => first | assumption | decide +kernel)))))) | ((with_reducible show wpAny _ _ (PySem.eval (PySem.Expr.Call (PySem.Expr.Name _ _) _ _) _) _ _ _); (refine Call_ ?_)) | (with_reducible ((with_reducible show wpAny _ _ (PySem.call (PySem.Value.builtin "list.index") _) _ _ _); (k_dflt (refine' ord_index ?N ?m ordAre ?i ?_; (case N => k_asm); (case m => first | k_mem | assumption); (case i => first | assumption | omega)); intro t9z k9z))) | (with_reducible ((with_reducible show wpAny _ _ (getMethod (Value.ref _) (PySem.Str.ofString "index") _) _ _ _); k_dflt (refine' kl_method ?N ?m PySem.F.slot_list_index PySem.F.type_list_index ?_; (case N => k_asm); (case m => first | k_mem | assumption)))) | (with_reducible (first | with_reducible refine ite_ff ?_ | with_reducible refine ite_tt ?_)) | (with_reducible ((with_reducible show LstPost _ _ _ _ _ _ _ _ _ _ _ _); (dsimp only [LstPost]))) | ((with_reducible show wpAny _ _ (PySem.execs (List.cons _ _) _) _ _ _); walk1; (try (refine gen_s ?_; intro tkG; (try dsimp only); (try k_fold)))) | walk1 | (dsimp only; walk1) | (leave1; (try dsimp only)) | fail "no step")
      refine useO (as_list_v w mean mg mb B its (rep B B) (fun a => .box B (rep B B a)) nm rv hz hls7 (cv_box hB)) (by k_asm) (by k_asm) (by k_asm) (by k_asm) (by k_asm) rfl cur.V (by ktr_room) (by ktr_units) ?_
      rintro r8 nw8 h8 tk8 F8 N8 ⟨g8, v8⟩
      (try dsimp only); (try k_sweep)
      have cur := cur.mono g8.sub
      have v1 := v1.mono g8.sub
      have hV8 := v8
      obtain ⟨x8, la8, vs8, c8, av8, rfl, ⟨dx8, y1, y2, y3, y4, y5, yk, yn, ysh, hx8, hdx8⟩, -, -, -⟩ := hV8
      repeat' ((fail_if_success (with_reducible show wpAny _ _ (PySem.exec (PySem.Stmt.While _ _ _ _) _) _ _ _)); (fail_if_success (with_reducible show wpAny _ _ (PySem.exec (PySem.Stmt.For _ _ _ _ _) _) _ _ _)); (fail_if_success (with_reducible show wpAny _ _ (PySem.exec (PySem.Stmt.Assign _ (PySem.Expr.ListComp _ _ _ _) _) _) _ _ _)); (fail_if_success (with_reducible show wpAny _ _ (PySem.eval (PySem.Expr.ListComp _ _ _ _) _) _ _ _)); (fail_if_success (with_reducible show LCg.CompSrc _ _ _ _ _ _ _ _ _ _ _ _ _ _)); (fail_if_success (with_reducible show LCt.CompSrcT _ _ _ _ _ _ _ _ _ _ _ _ _ _ _)); (fail_if_success (with_reducible show LCg.CompEnd _ _ _ _ _ _ _ _ _ _ _ _ _ _)); (fail_if_success (with_reducible show KswEnd _ _ _ _ _ _ _ _ _ _ _ _)); (fail_if_success (with_reducible show UnrEnd _ _ _ _ _ _ _)); (fail_if_success (with_reducible show wpAny _ _ (PySem.call (Value.ref 440) _) _ _ _)); (fail_if_success (with_reducible show wpAny _ _ (PySem.call (Value.ref 447) _) _ _ _)); (fail_if_success (with_reducible show wpAny _ _ (PySem.call (Value.ref 475) _) _ _ _)); (fail_if_success (with_reducible show wpAny _ _ (PySem.call (Value.ref 468) _) _ _ _)); (fail_if_success (with_reducible show wpAny _ _ (PySem.call (Value.ref 454) _) _ _ _)); first | (k_unfold; (try dsimp only)) | (k_end; wrow_close) | (with_reducible ((with_reducible show wpAny _ _ (subscriptTail _ _ (PySem.Value.ref _) (PySem.Value.ref _)) _ _ _); (k_dflt (first | (refine' ord_slice (j := ix _ + 1) ?F ?N ?m ordAre ?a ?b ?c rfl rfl ?_; (case F => k_asm); (case N => k_asm); (case m => first | k_mem | assumption); (case a => omega); (case b => omega); (case c => omega)) | (refine' ord_from ?F ?N ?m ordAre ?a rfl ?_; (case F => k_asm); (case N => k_asm); (case m => first | k_mem | assumption); (case a => omega))); intro D9z ws9z h9z F9z N9z l9z hw9z))) | (with_reducible ((with_reducible show wpAny _ _ (PySem.compareOp PySem.CmpOp.Eq (PySem.Value.str _ _) (PySem.Value.str _ _)) _ _ _); ((with_reducible (refine eq_not ?kn ?_; (case kn => assumption)))))) | (with_reducible ((with_reducible show wpAny _ _ (PySem.compareOp PySem.CmpOp.Eq (PySem.Value.str _ _) (PySem.Value.str _ _)) _ _ _); ((with_reducible first | (refine eq_self ?_) | (refine eq_not ?kn ?_; (case kn => first | assumption | decide +kernel)) | (refine eq_is ?kn ?_; (case kn => first | assumption | decide +kernel)))))) | ((with_reducible show wpAny _ _ (PySem.eval (PySem.Expr.Call (PySem.Expr.Name _ _) _ _) _) _ _ _); (refine Call_ ?_)) | (with_reducible ((with_reducible show wpAny _ _ (PySem.call (PySem.Value.builtin "list.index") _) _ _ _); (k_dflt (refine' ord_index ?N ?m ordAre ?i ?_; (case N => k_asm); (case m => first | k_mem | assumption); (case i => first | assumption | omega)); intro t9z k9z))) | (with_reducible ((with_reducible show wpAny _ _ (getMethod (Value.ref _) (PySem.Str.ofString "index") _) _ _ _); k_dflt (refine' kl_method ?N ?m PySem.F.slot_list_index PySem.F.type_list_index ?_; (case N => k_asm); (case m => first | k_mem | assumption)))) | (with_reducible (first | with_reducible refine ite_ff ?_ | with_reducible refine ite_tt ?_)) | (with_reducible ((with_reducible show LstPost _ _ _ _ _ _ _ _ _ _ _ _); (dsimp only [LstPost]))) | ((with_reducible show wpAny _ _ (PySem.execs (List.cons _ _) _) _ _ _); walk1; (try (refine gen_s ?_; intro tkG; (try dsimp only); (try k_fold)))) | walk1 | (dsimp only; walk1) | (leave1; (try dsimp only)) | fail "no step")
      refine useO (as_kind_all w mean mg mb .Z k its (fun a => .box B (rep B B a)) (rep B k) nm (.ref x8) _ _ hz hls7 (cv_unbox hb hBk hk3 hB)) (by k_asm) (by k_asm) (by k_asm) (by k_asm) (by k_asm) rfl v8 (by ktr_room) (by ktr_units) ?_
      rintro r9 nw9 h9 tk9 F9 N9 ⟨g9, v9⟩
      (try dsimp only); (try k_sweep)
      have cur := cur.mono g9.sub
      have v1 := v1.mono g9.sub
      repeat' ((fail_if_success (with_reducible show wpAny _ _ (PySem.exec (PySem.Stmt.While _ _ _ _) _) _ _ _)); (fail_if_success (with_reducible show wpAny _ _ (PySem.exec (PySem.Stmt.For _ _ _ _ _) _) _ _ _)); (fail_if_success (with_reducible show wpAny _ _ (PySem.exec (PySem.Stmt.Assign _ (PySem.Expr.ListComp _ _ _ _) _) _) _ _ _)); (fail_if_success (with_reducible show wpAny _ _ (PySem.eval (PySem.Expr.ListComp _ _ _ _) _) _ _ _)); (fail_if_success (with_reducible show LCg.CompSrc _ _ _ _ _ _ _ _ _ _ _ _ _ _)); (fail_if_success (with_reducible show LCt.CompSrcT _ _ _ _ _ _ _ _ _ _ _ _ _ _ _)); (fail_if_success (with_reducible show LCg.CompEnd _ _ _ _ _ _ _ _ _ _ _ _ _ _)); (fail_if_success (with_reducible show KswEnd _ _ _ _ _ _ _ _ _ _ _ _)); (fail_if_success (with_reducible show UnrEnd _ _ _ _ _ _ _)); (fail_if_success (with_reducible show wpAny _ _ (PySem.call (Value.ref 440) _) _ _ _)); (fail_if_success (with_reducible show wpAny _ _ (PySem.call (Value.ref 447) _) _ _ _)); (fail_if_success (with_reducible show wpAny _ _ (PySem.call (Value.ref 475) _) _ _ _)); (fail_if_success (with_reducible show wpAny _ _ (PySem.call (Value.ref 468) _) _ _ _)); (fail_if_success (with_reducible show wpAny _ _ (PySem.call (Value.ref 454) _) _ _ _)); first | (k_unfold; (try dsimp only)) | (k_end; wrow_close) | (with_reducible ((with_reducible show wpAny _ _ (subscriptTail _ _ (PySem.Value.ref _) (PySem.Value.ref _)) _ _ _); (k_dflt (first | (refine' ord_slice (j := ix _ + 1) ?F ?N ?m ordAre ?a ?b ?c rfl rfl ?_; (case F => k_asm); (case N => k_asm); (case m => first | k_mem | assumption); (case a => omega); (case b => omega); (case c => omega)) | (refine' ord_from ?F ?N ?m ordAre ?a rfl ?_; (case F => k_asm); (case N => k_asm); (case m => first | k_mem | assumption); (case a => omega))); intro D9z ws9z h9z F9z N9z l9z hw9z))) | (with_reducible ((with_reducible show wpAny _ _ (PySem.compareOp PySem.CmpOp.Eq (PySem.Value.str _ _) (PySem.Value.str _ _)) _ _ _); ((with_reducible (refine eq_not ?kn ?_; (case kn => assumption)))))) | (with_reducible ((with_reducible show wpAny _ _ (PySem.compareOp PySem.CmpOp.Eq (PySem.Value.str _ _) (PySem.Value.str _ _)) _ _ _); ((with_reducible first | (refine eq_self ?_) | (refine eq_not ?kn ?_; (case kn => first | assumption | decide +kernel)) | (refine eq_is ?kn ?_; (case kn => first | assumption | decide +kernel)))))) | ((with_reducible show wpAny _ _ (PySem.eval (PySem.Expr.Call (PySem.Expr.Name _ _) _ _) _) _ _ _); (refine Call_ ?_)) | (with_reducible ((with_reducible show wpAny _ _ (PySem.call (PySem.Value.builtin "list.index") _) _ _ _); (k_dflt (refine' ord_index ?N ?m ordAre ?i ?_; (case N => k_asm); (case m => first | k_mem | assumption); (case i => first | assumption | omega)); intro t9z k9z))) | (with_reducible ((with_reducible show wpAny _ _ (getMethod (Value.ref _) (PySem.Str.ofString "index") _) _ _ _); k_dflt (refine' kl_method ?N ?m PySem.F.slot_list_index PySem.F.type_list_index ?_; (case N => k_asm); (case m => first | k_mem | assumption)))) | (with_reducible (first | with_reducible refine ite_ff ?_ | with_reducible refine ite_tt ?_)) | (with_reducible ((with_reducible show LstPost _ _ _ _ _ _ _ _ _ _ _ _); (dsimp only [LstPost]))) | ((with_reducible show wpAny _ _ (PySem.execs (List.cons _ _) _) _ _ _); walk1; (try (refine gen_s ?_; intro tkG; (try dsimp only); (try k_fold)))) | walk1 | (dsimp only; walk1) | (leave1; (try dsimp only)) | fail "no step")
      refine useV (law_same_v w mean mg mb k its (rep B k) (rep B k) nm r9 r1 (fun a ha => flat_rep (hb a ha)) (fun a ha => flat_rep (hb a ha)) (fun a ha => rfl) hlsf) (by k_asm) (by k_asm) (by k_asm) (by k_asm) (by k_asm) rfl ⟨v9, v1⟩ (by ktr_room) (by ktr_units) ?_
      rintro r6 h6 tk6 F6 N6 rfl
      (try dsimp only); (try k_sweep)
      repeat' ((fail_if_success (with_reducible show wpAny _ _ (PySem.exec (PySem.Stmt.While _ _ _ _) _) _ _ _)); (fail_if_success (with_reducible show wpAny _ _ (PySem.exec (PySem.Stmt.For _ _ _ _ _) _) _ _ _)); (fail_if_success (with_reducible show wpAny _ _ (PySem.exec (PySem.Stmt.Assign _ (PySem.Expr.ListComp _ _ _ _) _) _) _ _ _)); (fail_if_success (with_reducible show wpAny _ _ (PySem.eval (PySem.Expr.ListComp _ _ _ _) _) _ _ _)); (fail_if_success (with_reducible show LCg.CompSrc _ _ _ _ _ _ _ _ _ _ _ _ _ _)); (fail_if_success (with_reducible show LCt.CompSrcT _ _ _ _ _ _ _ _ _ _ _ _ _ _ _)); (fail_if_success (with_reducible show LCg.CompEnd _ _ _ _ _ _ _ _ _ _ _ _ _ _)); (fail_if_success (with_reducible show KswEnd _ _ _ _ _ _ _ _ _ _ _ _)); (fail_if_success (with_reducible show UnrEnd _ _ _ _ _ _ _)); (fail_if_success (with_reducible show wpAny _ _ (PySem.call (Value.ref 440) _) _ _ _)); (fail_if_success (with_reducible show wpAny _ _ (PySem.call (Value.ref 447) _) _ _ _)); (fail_if_success (with_reducible show wpAny _ _ (PySem.call (Value.ref 475) _) _ _ _)); (fail_if_success (with_reducible show wpAny _ _ (PySem.call (Value.ref 468) _) _ _ _)); (fail_if_success (with_reducible show wpAny _ _ (PySem.call (Value.ref 454) _) _ _ _)); first | (k_unfold; (try dsimp only)) | (k_end; wrow_close) | (with_reducible ((with_reducible show wpAny _ _ (subscriptTail _ _ (PySem.Value.ref _) (PySem.Value.ref _)) _ _ _); (k_dflt (first | (refine' ord_slice (j := ix _ + 1) ?F ?N ?m ordAre ?a ?b ?c rfl rfl ?_; (case F => k_asm); (case N => k_asm); (case m => first | k_mem | assumption); (case a => omega); (case b => omega); (case c => omega)) | (refine' ord_from ?F ?N ?m ordAre ?a rfl ?_; (case F => k_asm); (case N => k_asm); (case m => first | k_mem | assumption); (case a => omega))); intro D9z ws9z h9z F9z N9z l9z hw9z))) | (with_reducible ((with_reducible show wpAny _ _ (PySem.compareOp PySem.CmpOp.Eq (PySem.Value.str _ _) (PySem.Value.str _ _)) _ _ _); ((with_reducible (refine eq_not ?kn ?_; (case kn => assumption)))))) | (with_reducible ((with_reducible show wpAny _ _ (PySem.compareOp PySem.CmpOp.Eq (PySem.Value.str _ _) (PySem.Value.str _ _)) _ _ _); ((with_reducible first | (refine eq_self ?_) | (refine eq_not ?kn ?_; (case kn => first | assumption | decide +kernel)) | (refine eq_is ?kn ?_; (case kn => first | assumption | decide +kernel)))))) | ((with_reducible show wpAny _ _ (PySem.eval (PySem.Expr.Call (PySem.Expr.Name _ _) _ _) _) _ _ _); (refine Call_ ?_)) | (with_reducible ((with_reducible show wpAny _ _ (PySem.call (PySem.Value.builtin "list.index") _) _ _ _); (k_dflt (refine' ord_index ?N ?m ordAre ?i ?_; (case N => k_asm); (case m => first | k_mem | assumption); (case i => first | assumption | omega)); intro t9z k9z))) | (with_reducible ((with_reducible show wpAny _ _ (getMethod (Value.ref _) (PySem.Str.ofString "index") _) _ _ _); k_dflt (refine' kl_method ?N ?m PySem.F.slot_list_index PySem.F.type_list_index ?_; (case N => k_asm); (case m => first | k_mem | assumption)))) | (with_reducible (first | with_reducible refine ite_ff ?_ | with_reducible refine ite_tt ?_)) | (with_reducible ((with_reducible show LstPost _ _ _ _ _ _ _ _ _ _ _ _); (dsimp only [LstPost]))) | ((with_reducible show wpAny _ _ (PySem.execs (List.cons _ _) _) _ _ _); walk1; (try (refine gen_s ?_; intro tkG; (try dsimp only); (try k_fold)))) | walk1 | (dsimp only; walk1) | (leave1; (try dsimp only)) | fail "no step")
      have hs := cur.old
      exact LstEnd.intro () (by k_asm) (cb_drop (by k_asm) hs) (Grew.refl _) (fun _ h => nomatch h) (by kst_same) trivial
  · intro c8 u8 h8 tk8 nw8 _ hg8 F8 N8
    dsimp only [kstB] at F8
    dsimp only
    have hs8 := hg8.sub
    refine' law_C w mean mg mb _ _ (by kernel_rfl) (by kernel_rfl) dp un gd a ccd outer A₀ base h₀ L _ [(_, W.listOf #[] 0), (row, W.listOf vs.toArray c), (L + 1 + 1 + 1 + 1, o4), (L + 1 + 1 + 1, o3), (L + 1 + 1, o2), (L + 1, o1)] _ _ _ (by k_asm) (fr_one (x := Str.ofString "notes") F8 ?e) (by k_asm) (cb_drop N8 ?s) (by k_asm) (LcPre.mk d1 d4 hi hr hl1 ?l) hd hu hE fun h' tk' m' F' => hret h' tk' m' F'
    case e => with_unfolding_all exact rfl
    case s => exact List.forall_mem_cons.mpr ⟨hs8 _ (.tail _ (.head _)), List.forall_mem_cons.mpr ⟨hs8 _ (.tail _ (.tail _ (.tail _ hrow))), List.forall_mem_cons.mpr ⟨hs8 _ (.tail _ (.tail _ (.tail _ hc4))), List.forall_mem_cons.mpr ⟨hs8 _ (.tail _ (.tail _ (.tail _ hc3))), List.forall_mem_cons.mpr ⟨hs8 _ (.tail _ (.tail _ (.tail _ hc2))), List.forall_mem_cons.mpr ⟨hs8 _ (.tail _ (.tail _ (.tail _ hc1))), List.forall_mem_nil _⟩⟩⟩⟩⟩⟩
    case l =>
      rename _ ∧ AllLt _ news => l8
      exact ktn_ltOf l8.2 _ hrow

end
example : True := by (w_top off; exact True.intro)
section
theorem len7 {n : Nat} {k : Int} (h : n = (k - 0).toNat) (h0 : 0 ≤ k) (h8 : k < 8) : n ≤ 7 := by omega
theorem len_sz {k : Int} (h0 : 0 ≤ k) (h8 : k < 8) : (k - 0).toNat ≤ 16777216 := by omega
theorem rng_small {k : Int} (h0 : 0 ≤ k) (h1 : k < 8) : Builtin.Range.small 0 k 1 = true := small_one (by decide) (by decide) (by omega) (by omega)
theorem item_abc {prog : Program} {w : World} {A : Around} {E : Value → Shared → Prop} {s : Shared} {value slice : PySem.Expr} {k : Int} {t u : Tok} {Q : Value → Shared → Prop} (h0 : 0 ≤ k) (h1 : k < 7) (h : ∀ c tk k', c < 1114112 → Q (.str (sO [c]) tk) { s with toks := k' })
    (hs : subscripted slice false (.str (Str.ofString "abcdefg") t) (.int k u) = operate [.str (Str.ofString "abcdefg") t, .int k u] (getItem (.str (Str.ofString "abcdefg") t) (.int k u)) := by with_unfolding_all rfl)
    (ht : ∀ r, letTemporaryGo value (.str (Str.ofString "abcdefg") t) r = pure () := by intro _; with_unfolding_all rfl) :
    wpAny (model prog w) A (subscriptTail value slice (.str (Str.ofString "abcdefg") t) (.int k u)) Q E s := by
  have e : Str.ofString "abcdefg" = sO [97, 98, 99, 100, 101, 102, 103] := by decide +kernel
  rw [e] at hs ht ⊢
  refine item_at h0 (by simp; omega) (by omega) (fun tk k' => h _ tk k' ?_) hs ht
  have q : ∀ i, i < 7 → [97, 98, 99, 100, 101, 102, 103].getD i 0 < 1114112 := by decide
  exact q _ (by omega)
section
variable {prog : Program} {w : World} {A : Around} {h₀ : Heap} {L : Addr} {m : Str → Option Value} {env : Env} {elt : Expr} {x : Str} {scope : Scope} {cl : List (Str × Addr)} {s : Shared} {Fin : List Value → Led → Prop}
def TxQ (h₀ : Heap) (L : Addr) (m : Str → Option Value) (s : Shared) (led : Led) (y : Value) (s' : Shared) : Prop :=
  ∃ h' tk' c t, s' = { s with heap := h', toks := tk' } ∧ Fr h₀ L h' m ∧ News h₀ L h' led ∧ y = .str (sO [c]) t ∧ c < 1114112
theorem comp_txt {K : Led} {n : Nat}
    (turn : ∀ (i : Nat) (t : Tok) ys I oI C oC D m₂ h tk (E' : Value → Shared → Prop), i < n → LCg.NsObj oC m₂ → m₂ x = some (.int ((0 : Int) + (i : Int)) t) → Fr h₀ L h m → News h₀ L h ((I, oI) :: (C, oC) :: (D, LCg.lst ys) :: K) →
      wpAny (model prog w) A (eval elt (compEnvC scope cl C env)) (TxQ h₀ L m s ((I, oI) :: (C, oC) :: (D, LCg.lst ys) :: K)) E' { s with heap := h, toks := tk })
    (fin : ∀ ys (ls : List (List Nat)), ls.length = n → (∀ l ∈ ls, ∀ c ∈ l, c < 1114112) → ItsIn w [] (ls.map .txt) ys → Fin ys K) :
    LCg.CompRest prog w A h₀ L m env elt x scope cl s (fun _ => True) (fun i v => ∃ t, v = .int ((0 : Int) + (i : Int)) t) Fin n 0 [] K := by
  have key : ∀ (j i : Nat) (ys : List Value) (ls : List (List Nat)), i + j = n → ls.length = i → (∀ l ∈ ls, ∀ c ∈ l, c < 1114112) → ItsIn w [] (ls.map .txt) ys →
      LCg.CompRest prog w A h₀ L m env elt x scope cl s (fun _ => True) (fun i v => ∃ t, v = .int ((0 : Int) + (i : Int)) t) Fin j i ys K := by
    intro j
    induction j with
    | zero =>
      intro i ys ls hij hl hb hy
      exact LCg.CompRest.zero (fin ys ls (by omega) hb hy)
    | succ j ih =>
      intro i ys ls hij hl hb hy
      refine LCg.CompRest.succ ?_
      intro v I oI C oC D m₂ h tk E' ⟨t, hv⟩ hC hx F N off ne
      subst hv
      refine wpAny_mono (turn i t ys I oI C oC D m₂ h tk E' (by omega) hC hx F N) (fun y s₂ hq => ?_) fun _ _ e => e
      obtain ⟨h', tk', c, t', rfl, F', N', rfl, hc⟩ := hq
      refine ⟨h', tk', K, rfl, F', N', off, trivial, ih (i + 1) _ (ls ++ [[c]]) (by omega) (by rw [List.length_append, hl]; rfl) (fun l hm => ?_) ?_⟩
      · rcases List.mem_append.mp hm with hm | hm
        · exact hb l hm
        · rw [List.mem_singleton.mp hm]
          intro a ha
          rw [List.mem_singleton.mp ha]; exact hc
      · rw [List.map_append]
        exact hy.snoc ⟨t', rfl⟩
  exact key n 0 [] [] (by omega) rfl (fun _ h => nomatch h) .nil
end
theorem LbPre.mk {w : World} {L row : Addr} {news : Led} {vs : List Value} {ns : List Int} {c : Nat} {o1 o2 o3 o4 : Obj} {v4 : Option Value} {r : Str → Option Value} {B : Kd} {its : List It} {nm : Option (List (List Nat))} {rv : Value} {tk : Tok}
    (hrow : (row, W.listOf vs.toArray c) ∈ news) (h4 : (L + 1 + 1 + 1 + 1, o4) ∈ news) (h3 : (L + 1 + 1 + 1, o3) ∈ news) (h2 : (L + 1 + 1, o2) ∈ news) (h1 : (L + 1, o1) ∈ news)
    (d1 : o1.data = .cell (some (.ref row))) (d2 : o2.data = .cell (some (.str (kn B) tk))) (d4 : o4.data = .cell v4) (hi : IntsAre vs ns) (hr : RowOk ns) (hl1 : @LT.lt Nat _ (L + 1 + 1 + 1 + 1) row)
    (hV : VecIn w news rv B its nm) (hb : ∀ a ∈ its, Base B a) (hB : ix B ≤ 2) (hz : its.length ≤ 7) (hls : ∀ ls, nm = some ls → ls.length ≤ 7 ∧ ∀ a ∈ ls.map It.txt, flat a) : LbPre w L (kstB r [(Str.ofString "v", rv)]) news := by
  have e : its.map (rep B B) = its := by
    conv => rhs; rw [← List.map_id its]
    exact List.map_congr_left fun a ha => (rep_base (hb a ha) hB).1
  exact ⟨row, vs, ns, c, o1, o2, o3, o4, v4, r, B, its, nm, rv, tk, rfl, hrow, h4, h3, h2, h1, d1, d2, d4, hi, hr, hl1, e.symm ▸ hV, hb, hB, hz, hls⟩
def LaPre (L : Addr) (_m : Str → Option Value) (news : Led) : Prop :=
  ∃ (row : Addr) (vs : List Value) (ns : List Int) (c : Nat) (o1 o2 o3 o4 : Obj) (v2 v3 v4 : Option Value),
    news = [(row, W.listOf vs.toArray c), (L + 1 + 1 + 1 + 1, o4), (L + 1 + 1 + 1, o3), (L + 1 + 1, o2), (L + 1, o1)] ∧
    o1.data = .cell (some (.ref row)) ∧ o2.data = .cell v2 ∧ o3.data = .cell v3 ∧ o4.data = .cell v4 ∧ IntsAre vs ns ∧ RowOk ns ∧ @LT.lt Nat _ (L + 1 + 1 + 1 + 1) row
theorem law_A (w mean mg mb) : LawFrom w mean mg mb 1 LaPre := by
  unfold LawFrom
  k_fill
  intro sts cs hsts hcs dp un gd a ccd outer A₀ base h₀ L m news s Q E Bl F X N T hpre hd hu hE hret
  obtain ⟨row, vs, ns, c, o1, o2, o3, o4, v2, v3, v4, rfl, d1, d2, d3, d4, hi, hr, hl1⟩ := hpre
  conv at hsts => lhs; whnf
  conv at hcs => lhs; whnf
  subst hsts hcs
  refine abs_A ?_
  intro A9a
  repeat' ((fail_if_success (with_reducible show wpAny _ _ (PySem.exec (PySem.Stmt.While _ _ _ _) _) _ _ _)); (fail_if_success (with_reducible show wpAny _ _ (PySem.exec (PySem.Stmt.For _ _ _ _ _) _) _ _ _)); (fail_if_success (with_reducible show wpAny _ _ (PySem.exec (PySem.Stmt.Assign _ (PySem.Expr.ListComp _ _ _ _) _) _) _ _ _)); (fail_if_success (with_reducible show wpAny _ _ (PySem.eval (PySem.Expr.ListComp _ _ _ _) _) _ _ _)); (fail_if_success (with_reducible show LCg.CompSrc _ _ _ _ _ _ _ _ _ _ _ _ _ _)); (fail_if_success (with_reducible show LCt.CompSrcT _ _ _ _ _ _ _ _ _ _ _ _ _ _ _)); (fail_if_success (with_reducible show LCg.CompEnd _ _ _ _ _ _ _ _ _ _ _ _ _ _)); (fail_if_success (with_reducible show KswEnd _ _ _ _ _ _ _ _ _ _ _ _)); (fail_if_success (with_reducible show UnrEnd _ _ _ _ _ _ _)); (fail_if_success (with_reducible show wpAny _ _ (PySem.call (Value.ref 440) _) _ _ _)); (fail_if_success (with_reducible show wpAny _ _ (PySem.call (Value.ref 447) _) _ _ _)); (fail_if_success (with_reducible show wpAny _ _ (PySem.call (Value.ref 475) _) _ _ _)); (fail_if_success (with_reducible show wpAny _ _ (PySem.call (Value.ref 468) _) _ _ _)); (fail_if_success (with_reducible show wpAny _ _ (PySem.call (Value.ref 454) _) _ _ _)); first | (k_unfold; (try dsimp only)) | (k_end; wrow_close) | ((with_reducible show wpAny _ _ (PySem.call (Value.ref _) _) _ _ _); first | (with_reducible ((with_reducible show wpAny _ _ (PySem.call (Value.ref 293) _) _ _ _); k_dflt (refine' useO (vector_new _ _ _ _ _ _ _) ?k1 ?k2 ?k3 ?k4 ?k5 ?kK ?kp ?kd ?ku ?_; (case k1 => k_asm); (case k2 => k_asm); (case k3 => k_asm); (case k4 => k_asm); (case k5 => k_asm); (case kK => first | exact rfl | assumption); (case kp => exact True.intro); (case kd => ktr_room); (case ku => ktr_units); intro r9z nw9z h9z tk9z F9z N9z hr9z; obtain ⟨x9z, d9z, u91, u92, u93, u94, u95, uk9z, hr9z, hn9z, l9z, ll9z⟩ := hr9z; subst hr9z; subst hn9z; (try k_lt l9z); (try k_lt2 ll9z); (try dsimp only); (try k_sweep)))) | (with_reducible ((with_reducible show wpAny _ _ (PySem.call (Value.ref 468) _) _ _ _); k_dflt (refine' useO (law_entry _ _ _ _ _ _ ?kq _) ?k1 ?k2 ?k3 ?k4 ?k5 ?kK ?kp ?kd ?ku ?_; (case k1 => k_asm); (case k2 => k_asm); (case k3 => k_asm); (case k4 => k_asm); (case k5 => k_asm); (case kK => first | exact rfl | assumption); (case kp => exact ⟨_, _, _, by k_mem, by assumption, by assumption⟩); (case kd => ktr_room); (case ku => ktr_units); (case kq => assumption); intro r9z nw9z h9z tk9z F9z N9z hr9z; skip; (try dsimp only); (try k_sweep)))) | (with_reducible ((with_reducible show wpAny _ _ (PySem.call (Value.ref 461) _) _ _ _); k_dflt (refine' useO (law_part_U _ _ _ _ _ _ _ _ _ _ _ _ ?uU ?ui ?ur ?h0 ?h1) ?k1 ?k2 ?k3 ?k4 ?k5 ?kK ?kp ?kd ?ku ?_; (case k1 => k_asm); (case k2 => k_asm); (case k3 => k_asm); (case k4 => k_asm); (case k5 => k_asm); (case kK => first | exact rfl | assumption); (case kp => exact rfl); (case uU => (first | exact UpdF.head (by assumption) | (refine' UpdF.head ?uh; (case uh => k_all)) | (refine' UpdF.tail ?uh ?ub; (case uh => k_ne); (case ub => (first | exact UpdF.head (by assumption) | (refine' UpdF.head ?uh; (case uh => k_all)) | (refine' UpdF.tail ?uh ?ub; (case uh => k_ne); (case ub => (first | exact UpdF.head (by assumption) | (refine' UpdF.head ?uh; (case uh => k_all)) | (refine' UpdF.tail ?uh ?ub; (case uh => k_ne); (case ub => (first | exact UpdF.head (by assumption) | (refine' UpdF.head ?uh; (case uh => k_all)) | (refine' UpdF.tail ?uh ?ub; (case uh => k_ne); (case ub => (fail "MY")))))))))))))); (case ui => assumption); (case ur => assumption); (case h0 => decide); (case h1 => decide); (case kd => ktr_room); (case ku => ktr_units); intro r9z nw9z h9z tk9z F9z N9z hr9z; obtain ⟨k9z, t9z, vs9z, ns9z, c9z, hr9z, hk9z, hm9z, hi9z, hq9z, hn9z⟩ := hr9z; subst hr9z; subst hn9z; (try dsimp only at N9z); (try dsimp only); (try k_sweep))))) | ((with_reducible show wpAny _ _ (PySem.eval (PySem.Expr.Call (PySem.Expr.Name _ _) _ _) _) _ _ _); (refine Call_ ?_)) | (with_reducible ((with_reducible show wpAny _ _ (subscriptTail _ _ (Value.str _ _) (Value.int _ _)) _ _ _); k_dflt (refine' item_abc ?h0 ?h1 ?_; (case h0 => exact Int.fmod_nonneg_of_pos _ (by decide)); (case h1 => exact Int.fmod_lt_of_pos _ (by decide))); intro c9z tk9z k9z hc9z)) | (with_reducible ((with_reducible show wpAny _ _ (subscriptTail _ _ (Value.ref _) (Value.int _ _)) _ _ _); k_dflt (refine' item_kind ?N ?m ?h0 ?h1 ?_; (case N => k_asm); (case m => k_mem); (case h0 => assumption); (case h1 => assumption); intro B9z t9z hB9z))) | walk1 | (dsimp only; walk1) | (leave1; (try dsimp only)) | fail "no step")
  rename Kd => B
  rename Int => km
  rename _ ∨ _ ∨ _ => hB3
  have hB : ix B ≤ 2 := by rcases hB3 with rfl | rfl | rfl <;> decide
  rename km < 8 => hm8
  rename 0 ≤ km => hm0
  rename RowOk _ => hr2
  rename IntsAre _ _ => hi2
  k_dflt (refine LCg.ListComp_U (F₀ := by k_asm) (by with_unfolding_all rfl) (by decide) (by rfl) (by decide) (by rfl) ?_)
  repeat' ((fail_if_success (with_reducible show wpAny _ _ (PySem.exec (PySem.Stmt.While _ _ _ _) _) _ _ _)); (fail_if_success (with_reducible show wpAny _ _ (PySem.exec (PySem.Stmt.For _ _ _ _ _) _) _ _ _)); (fail_if_success (with_reducible show wpAny _ _ (PySem.exec (PySem.Stmt.Assign _ (PySem.Expr.ListComp _ _ _ _) _) _) _ _ _)); (fail_if_success (with_reducible show wpAny _ _ (PySem.eval (PySem.Expr.ListComp _ _ _ _) _) _ _ _)); (fail_if_success (with_reducible show LCg.CompSrc _ _ _ _ _ _ _ _ _ _ _ _ _ _)); (fail_if_success (with_reducible show LCt.CompSrcT _ _ _ _ _ _ _ _ _ _ _ _ _ _ _)); (fail_if_success (with_reducible show LCg.CompEnd _ _ _ _ _ _ _ _ _ _ _ _ _ _)); (fail_if_success (with_reducible show KswEnd _ _ _ _ _ _ _ _ _ _ _ _)); (fail_if_success (with_reducible show UnrEnd _ _ _ _ _ _ _)); (fail_if_success (with_reducible show wpAny _ _ (PySem.call (Value.ref 440) _) _ _ _)); (fail_if_success (with_reducible show wpAny _ _ (PySem.call (Value.ref 447) _) _ _ _)); (fail_if_success (with_reducible show wpAny _ _ (PySem.call (Value.ref 475) _) _ _ _)); (fail_if_success (with_reducible show wpAny _ _ (PySem.call (Value.ref 468) _) _ _ _)); (fail_if_success (with_reducible show wpAny _ _ (PySem.call (Value.ref 454) _) _ _ _)); first | (k_unfold; (try dsimp only)) | (k_end; wrow_close) | ((with_reducible show wpAny _ _ (PySem.call (Value.ref _) _) _ _ _); first | (with_reducible ((with_reducible show wpAny _ _ (PySem.call (Value.ref 293) _) _ _ _); k_dflt (refine' useO (vector_new _ _ _ _ _ _ _) ?k1 ?k2 ?k3 ?k4 ?k5 ?kK ?kp ?kd ?ku ?_; (case k1 => k_asm); (case k2 => k_asm); (case k3 => k_asm); (case k4 => k_asm); (case k5 => k_asm); (case kK => first | exact rfl | assumption); (case kp => exact True.intro); (case kd => ktr_room); (case ku => ktr_units); intro r9z nw9z h9z tk9z F9z N9z hr9z; obtain ⟨x9z, d9z, u91, u92, u93, u94, u95, uk9z, hr9z, hn9z, l9z, ll9z⟩ := hr9z; subst hr9z; subst hn9z; (try k_lt l9z); (try k_lt2 ll9z); (try dsimp only); (try k_sweep)))) | (with_reducible ((with_reducible show wpAny _ _ (PySem.call (Value.ref 468) _) _ _ _); k_dflt (refine' useO (law_entry _ _ _ _ _ _ ?kq _) ?k1 ?k2 ?k3 ?k4 ?k5 ?kK ?kp ?kd ?ku ?_; (case k1 => k_asm); (case k2 => k_asm); (case k3 => k_asm); (case k4 => k_asm); (case k5 => k_asm); (case kK => first | exact rfl | assumption); (case kp => exact ⟨_, _, _, by k_mem, by assumption, by assumption⟩); (case kd => ktr_room); (case ku => ktr_units); (case kq => assumption); intro r9z nw9z h9z tk9z F9z N9z hr9z; skip; (try dsimp only); (try k_sweep)))) | (with_reducible ((with_reducible show wpAny _ _ (PySem.call (Value.ref 461) _) _ _ _); k_dflt (refine' useO (law_part_U _ _ _ _ _ _ _ _ _ _ _ _ ?uU ?ui ?ur ?h0 ?h1) ?k1 ?k2 ?k3 ?k4 ?k5 ?kK ?kp ?kd ?ku ?_; (case k1 => k_asm); (case k2 => k_asm); (case k3 => k_asm); (case k4 => k_asm); (case k5 => k_asm); (case kK => first | exact rfl | assumption); (case kp => exact rfl); (case uU => (first | exact UpdF.head (by assumption) | (refine' UpdF.head ?uh; (case uh => k_all)) | (refine' UpdF.tail ?uh ?ub; (case uh => k_ne); (case ub => (first | exact UpdF.head (by assumption) | (refine' UpdF.head ?uh; (case uh => k_all)) | (refine' UpdF.tail ?uh ?ub; (case uh => k_ne); (case ub => (first | exact UpdF.head (by assumption) | (refine' UpdF.head ?uh; (case uh => k_all)) | (refine' UpdF.tail ?uh ?ub; (case uh => k_ne); (case ub => (first | exact UpdF.head (by assumption) | (refine' UpdF.head ?uh; (case uh => k_all)) | (refine' UpdF.tail ?uh ?ub; (case uh => k_ne); (case ub => (fail "MY")))))))))))))); (case ui => assumption); (case ur => assumption); (case h0 => decide); (case h1 => decide); (case kd => ktr_room); (case ku => ktr_units); intro r9z nw9z h9z tk9z F9z N9z hr9z; obtain ⟨k9z, t9z, vs9z, ns9z, c9z, hr9z, hk9z, hm9z, hi9z, hq9z, hn9z⟩ := hr9z; subst hr9z; subst hn9z; (try dsimp only at N9z); (try dsimp only); (try k_sweep))))) | ((with_reducible show wpAny _ _ (PySem.eval (PySem.Expr.Call (PySem.Expr.Name _ _) _ _) _) _ _ _); (refine Call_ ?_)) | (with_reducible ((with_reducible show wpAny _ _ (subscriptTail _ _ (Value.str _ _) (Value.int _ _)) _ _ _); k_dflt (refine' item_abc ?h0 ?h1 ?_; (case h0 => exact Int.fmod_nonneg_of_pos _ (by decide)); (case h1 => exact Int.fmod_lt_of_pos _ (by decide))); intro c9z tk9z k9z hc9z)) | (with_reducible ((with_reducible show wpAny _ _ (subscriptTail _ _ (Value.ref _) (Value.int _ _)) _ _ _); k_dflt (refine' item_kind ?N ?m ?h0 ?h1 ?_; (case N => k_asm); (case m => k_mem); (case h0 => assumption); (case h1 => assumption); intro B9z t9z hB9z))) | walk1 | (dsimp only; walk1) | (leave1; (try dsimp only)) | fail "no step")
  rename IsRange _ _ _ _ _ _ _ _ => hR9
  rename News _ _ _ _ => N9
  refine LCg.CompSrc.range rfl (by k_asm) (cb_drop N9 fun p hp => .tail _ hp) hR9 (rng_small hm0 hm8) (rangeSize_nat _ _) (by rw [sizeLine_eq]; exact len_sz hm0 hm8) (fun g => ?_)
  refine comp_ents (k := B) ?hK hi2 hr2 ?_ ?_
  case hK => k_all
  · intro ys R vs' ns' c' I oI C oC D m₂ h tk E' hsub hi' hr' hC F9 N9
    have e1 := hsub (L + 1, o1) (by k_mem)
    have e2 := hsub (L + 1 + 1, _) (.tail _ (.tail _ (.head _)))
    repeat' ((fail_if_success (with_reducible show wpAny _ _ (PySem.exec (PySem.Stmt.While _ _ _ _) _) _ _ _)); (fail_if_success (with_reducible show wpAny _ _ (PySem.exec (PySem.Stmt.For _ _ _ _ _) _) _ _ _)); (fail_if_success (with_reducible show wpAny _ _ (PySem.exec (PySem.Stmt.Assign _ (PySem.Expr.ListComp _ _ _ _) _) _) _ _ _)); (fail_if_success (with_reducible show wpAny _ _ (PySem.eval (PySem.Expr.ListComp _ _ _ _) _) _ _ _)); (fail_if_success (with_reducible show LCg.CompSrc _ _ _ _ _ _ _ _ _ _ _ _ _ _)); (fail_if_success (with_reducible show LCt.CompSrcT _ _ _ _ _ _ _ _ _ _ _ _ _ _ _)); (fail_if_success (with_reducible show LCg.CompEnd _ _ _ _ _ _ _ _ _ _ _ _ _ _)); (fail_if_success (with_reducible show KswEnd _ _ _ _ _ _ _ _ _ _ _ _)); (fail_if_success (with_reducible show UnrEnd _ _ _ _ _ _ _)); (fail_if_success (with_reducible show wpAny _ _ (PySem.call (Value.ref 440) _) _ _ _)); (fail_if_success (with_reducible show wpAny _ _ (PySem.call (Value.ref 447) _) _ _ _)); (fail_if_success (with_reducible show wpAny _ _ (PySem.call (Value.ref 475) _) _ _ _)); (fail_if_success (with_reducible show wpAny _ _ (PySem.call (Value.ref 454) _) _ _ _)); first | (k_unfold; (try dsimp only)) | (k_end; wrow_close) | ((with_reducible show wpAny _ _ (PySem.call (Value.ref _) _) _ _ _); first | (with_reducible ((with_reducible show wpAny _ _ (PySem.call (Value.ref 293) _) _ _ _); k_dflt (refine' useO (vector_new _ _ _ _ _ _ _) ?k1 ?k2 ?k3 ?k4 ?k5 ?kK ?kp ?kd ?ku ?_; (case k1 => k_asm); (case k2 => k_asm); (case k3 => k_asm); (case k4 => k_asm); (case k5 => k_asm); (case kK => first | exact rfl | assumption); (case kp => exact True.intro); (case kd => ktr_room); (case ku => ktr_units); intro r9z nw9z h9z tk9z F9z N9z hr9z; obtain ⟨x9z, d9z, u91, u92, u93, u94, u95, uk9z, hr9z, hn9z, l9z, ll9z⟩ := hr9z; subst hr9z; subst hn9z; (try k_lt l9z); (try k_lt2 ll9z); (try dsimp only); (try k_sweep)))) | (with_reducible ((with_reducible show wpAny _ _ (PySem.call (Value.ref 468) _) _ _ _); k_dflt (refine' useO (law_entry _ _ _ _ _ _ ?kq _) ?k1 ?k2 ?k3 ?k4 ?k5 ?kK ?kp ?kd ?ku ?_; (case k1 => k_asm); (case k2 => k_asm); (case k3 => k_asm); (case k4 => k_asm); (case k5 => k_asm); (case kK => first | exact rfl | assumption); (case kp => exact ⟨_, _, _, by k_mem, by assumption, by assumption⟩); (case kd => ktr_room); (case ku => ktr_units); (case kq => assumption); intro r9z nw9z h9z tk9z F9z N9z hr9z; skip; (try dsimp only); (try k_sweep)))) | (with_reducible ((with_reducible show wpAny _ _ (PySem.call (Value.ref 461) _) _ _ _); k_dflt (refine' useO (law_part_U _ _ _ _ _ _ _ _ _ _ _ _ ?uU ?ui ?ur ?h0 ?h1) ?k1 ?k2 ?k3 ?k4 ?k5 ?kK ?kp ?kd ?ku ?_; (case k1 => k_asm); (case k2 => k_asm); (case k3 => k_asm); (case k4 => k_asm); (case k5 => k_asm); (case kK => first | exact rfl | assumption); (case kp => exact rfl); (case uU => (first | exact UpdF.head (by assumption) | (refine' UpdF.head ?uh; (case uh => k_all)) | (refine' UpdF.tail ?uh ?ub; (case uh => k_ne); (case ub => (first | exact UpdF.head (by assumption) | (refine' UpdF.head ?uh; (case uh => k_all)) | (refine' UpdF.tail ?uh ?ub; (case uh => k_ne); (case ub => (first | exact UpdF.head (by assumption) | (refine' UpdF.head ?uh; (case uh => k_all)) | (refine' UpdF.tail ?uh ?ub; (case uh => k_ne); (case ub => (first | exact UpdF.head (by assumption) | (refine' UpdF.head ?uh; (case uh => k_all)) | (refine' UpdF.tail ?uh ?ub; (case uh => k_ne); (case ub => (fail "MY")))))))))))))); (case ui => assumption); (case ur => assumption); (case h0 => decide); (case h1 => decide); (case kd => ktr_room); (case ku => ktr_units); intro r9z nw9z h9z tk9z F9z N9z hr9z; obtain ⟨k9z, t9z, vs9z, ns9z, c9z, hr9z, hk9z, hm9z, hi9z, hq9z, hn9z⟩ := hr9z; subst hr9z; subst hn9z; (try dsimp only at N9z); (try dsimp only); (try k_sweep))))) | ((with_reducible show wpAny _ _ (PySem.eval (PySem.Expr.Call (PySem.Expr.Name _ _) _ _) _) _ _ _); (refine Call_ ?_)) | (with_reducible ((with_reducible show wpAny _ _ (subscriptTail _ _ (Value.str _ _) (Value.int _ _)) _ _ _); k_dflt (refine' item_abc ?h0 ?h1 ?_; (case h0 => exact Int.fmod_nonneg_of_pos _ (by decide)); (case h1 => exact Int.fmod_lt_of_pos _ (by decide))); intro c9z tk9z k9z hc9z)) | (with_reducible ((with_reducible show wpAny _ _ (subscriptTail _ _ (Value.ref _) (Value.int _ _)) _ _ _); k_dflt (refine' item_kind ?N ?m ?h0 ?h1 ?_; (case N => k_asm); (case m => k_mem); (case h0 => assumption); (case h1 => assumption); intro B9z t9z hB9z))) | walk1 | (dsimp only; walk1) | (leave1; (try dsimp only)) | fail "no step")
    exact ⟨_, _, _, rfl, by k_asm, by k_asm, by assumption⟩
  · intro ys its R vs' ns' c' hil hb hits hi' hr' hrow hsub
    have e4 := hsub (L + 1 + 1 + 1 + 1, o4) (.head _)
    have e3 := hsub (L + 1 + 1 + 1, _) (.tail _ (.head _))
    have e2 := hsub (L + 1 + 1, _) (.tail _ (.tail _ (.head _)))
    have e1 := hsub (L + 1, o1) (.tail _ (.tail _ (.tail _ (.head _))))
    clear hsub
    intro D h tk F9 N9 o9
    have o91 := o9.1
    repeat' ((fail_if_success (with_reducible show wpAny _ _ (PySem.exec (PySem.Stmt.While _ _ _ _) _) _ _ _)); (fail_if_success (with_reducible show wpAny _ _ (PySem.exec (PySem.Stmt.For _ _ _ _ _) _) _ _ _)); (fail_if_success (with_reducible show wpAny _ _ (PySem.exec (PySem.Stmt.Assign _ (PySem.Expr.ListComp _ _ _ _) _) _) _ _ _)); (fail_if_success (with_reducible show wpAny _ _ (PySem.eval (PySem.Expr.ListComp _ _ _ _) _) _ _ _)); (fail_if_success (with_reducible show LCg.CompSrc _ _ _ _ _ _ _ _ _ _ _ _ _ _)); (fail_if_success (with_reducible show LCt.CompSrcT _ _ _ _ _ _ _ _ _ _ _ _ _ _ _)); (fail_if_success (with_reducible show LCg.CompEnd _ _ _ _ _ _ _ _ _ _ _ _ _ _)); (fail_if_success (with_reducible show KswEnd _ _ _ _ _ _ _ _ _ _ _ _)); (fail_if_success (with_reducible show UnrEnd _ _ _ _ _ _ _)); (fail_if_success (with_reducible show wpAny _ _ (PySem.call (Value.ref 440) _) _ _ _)); (fail_if_success (with_reducible show wpAny _ _ (PySem.call (Value.ref 447) _) _ _ _)); (fail_if_success (with_reducible show wpAny _ _ (PySem.call (Value.ref 475) _) _ _ _)); (fail_if_success (with_reducible show wpAny _ _ (PySem.call (Value.ref 468) _) _ _ _)); (fail_if_success (with_reducible show wpAny _ _ (PySem.call (Value.ref 454) _) _ _ _)); (fail_if_success (with_reducible show wpAny _ _ (PySem.execs (List.cons (PySem.Stmt.Assign [PySem.Expr.Name _ _] (PySem.Expr.List _ _) _) _) _) _ _ _)); first | (k_unfold; (try dsimp only)) | (k_end; wrow_close) | ((with_reducible show wpAny _ _ (PySem.call (Value.ref _) _) _ _ _); first | (with_reducible ((with_reducible show wpAny _ _ (PySem.call (Value.ref 293) _) _ _ _); k_dflt (refine' useO (vector_new _ _ _ _ _ _ _) ?k1 ?k2 ?k3 ?k4 ?k5 ?kK ?kp ?kd ?ku ?_; (case k1 => k_asm); (case k2 => k_asm); (case k3 => k_asm); (case k4 => k_asm); (case k5 => k_asm); (case kK => first | exact rfl | assumption); (case kp => exact True.intro); (case kd => ktr_room); (case ku => ktr_units); intro r9z nw9z h9z tk9z F9z N9z hr9z; obtain ⟨x9z, d9z, u91, u92, u93, u94, u95, uk9z, hr9z, hn9z, l9z, ll9z⟩ := hr9z; subst hr9z; subst hn9z; (try k_lt l9z); (try k_lt2 ll9z); (try dsimp only); (try k_sweep)))) | (with_reducible ((with_reducible show wpAny _ _ (PySem.call (Value.ref 468) _) _ _ _); k_dflt (refine' useO (law_entry _ _ _ _ _ _ ?kq _) ?k1 ?k2 ?k3 ?k4 ?k5 ?kK ?kp ?kd ?ku ?_; (case k1 => k_asm); (case k2 => k_asm); (case k3 => k_asm); (case k4 => k_asm); (case k5 => k_asm); (case kK => first | exact rfl | assumption); (case kp => exact ⟨_, _, _, by k_mem, by assumption, by assumption⟩); (case kd => ktr_room); (case ku => ktr_units); (case kq => assumption); intro r9z nw9z h9z tk9z F9z N9z hr9z; skip; (try dsimp only); (try k_sweep)))) | (with_reducible ((with_reducible show wpAny _ _ (PySem.call (Value.ref 461) _) _ _ _); k_dflt (refine' useO (law_part_U _ _ _ _ _ _ _ _ _ _ _ _ ?uU ?ui ?ur ?h0 ?h1) ?k1 ?k2 ?k3 ?k4 ?k5 ?kK ?kp ?kd ?ku ?_; (case k1 => k_asm); (case k2 => k_asm); (case k3 => k_asm); (case k4 => k_asm); (case k5 => k_asm); (case kK => first | exact rfl | assumption); (case kp => exact rfl); (case uU => (first | exact UpdF.head (by assumption) | (refine' UpdF.head ?uh; (case uh => k_all)) | (refine' UpdF.tail ?uh ?ub; (case uh => k_ne); (case ub => (first | exact UpdF.head (by assumption) | (refine' UpdF.head ?uh; (case uh => k_all)) | (refine' UpdF.tail ?uh ?ub; (case uh => k_ne); (case ub => (first | exact UpdF.head (by assumption) | (refine' UpdF.head ?uh; (case uh => k_all)) | (refine' UpdF.tail ?uh ?ub; (case uh => k_ne); (case ub => (first | exact UpdF.head (by assumption) | (refine' UpdF.head ?uh; (case uh => k_all)) | (refine' UpdF.tail ?uh ?ub; (case uh => k_ne); (case ub => (fail "MY")))))))))))))); (case ui => assumption); (case ur => assumption); (case h0 => decide); (case h1 => decide); (case kd => ktr_room); (case ku => ktr_units); intro r9z nw9z h9z tk9z F9z N9z hr9z; obtain ⟨k9z, t9z, vs9z, ns9z, c9z, hr9z, hk9z, hm9z, hi9z, hq9z, hn9z⟩ := hr9z; subst hr9z; subst hn9z; (try dsimp only at N9z); (try dsimp only); (try k_sweep))))) | ((with_reducible show wpAny _ _ (PySem.eval (PySem.Expr.Call (PySem.Expr.Name _ _) _ _) _) _ _ _); (refine Call_ ?_)) | (with_reducible ((with_reducible show wpAny _ _ (subscriptTail _ _ (Value.str _ _) (Value.int _ _)) _ _ _); k_dflt (refine' item_abc ?h0 ?h1 ?_; (case h0 => exact Int.fmod_nonneg_of_pos _ (by decide)); (case h1 => exact Int.fmod_lt_of_pos _ (by decide))); intro c9z tk9z k9z hc9z)) | (with_reducible ((with_reducible show wpAny _ _ (subscriptTail _ _ (Value.ref _) (Value.int _ _)) _ _ _); k_dflt (refine' item_kind ?N ?m ?h0 ?h1 ?_; (case N => k_asm); (case m => k_mem); (case h0 => assumption); (case h1 => assumption); intro B9z t9z hB9z))) | walk1 | (dsimp only; walk1) | (leave1; (try dsimp only)) | fail "no step")
    · k_dflt (refine LCg.ListComp_U (F₀ := by k_asm) (by with_unfolding_all rfl) (by decide) (by rfl) (by decide) (by rfl) ?_)
      repeat' ((fail_if_success (with_reducible show wpAny _ _ (PySem.exec (PySem.Stmt.While _ _ _ _) _) _ _ _)); (fail_if_success (with_reducible show wpAny _ _ (PySem.exec (PySem.Stmt.For _ _ _ _ _) _) _ _ _)); (fail_if_success (with_reducible show wpAny _ _ (PySem.exec (PySem.Stmt.Assign _ (PySem.Expr.ListComp _ _ _ _) _) _) _ _ _)); (fail_if_success (with_reducible show wpAny _ _ (PySem.eval (PySem.Expr.ListComp _ _ _ _) _) _ _ _)); (fail_if_success (with_reducible show LCg.CompSrc _ _ _ _ _ _ _ _ _ _ _ _ _ _)); (fail_if_success (with_reducible show LCt.CompSrcT _ _ _ _ _ _ _ _ _ _ _ _ _ _ _)); (fail_if_success (with_reducible show LCg.CompEnd _ _ _ _ _ _ _ _ _ _ _ _ _ _)); (fail_if_success (with_reducible show KswEnd _ _ _ _ _ _ _ _ _ _ _ _)); (fail_if_success (with_reducible show UnrEnd _ _ _ _ _ _ _)); (fail_if_success (with_reducible show wpAny _ _ (PySem.call (Value.ref 440) _) _ _ _)); (fail_if_success (with_reducible show wpAny _ _ (PySem.call (Value.ref 447) _) _ _ _)); (fail_if_success (with_reducible show wpAny _ _ (PySem.call (Value.ref 475) _) _ _ _)); (fail_if_success (with_reducible show wpAny _ _ (PySem.call (Value.ref 468) _) _ _ _)); (fail_if_success (with_reducible show wpAny _ _ (PySem.call (Value.ref 454) _) _ _ _)); first | (k_unfold; (try dsimp only)) | (k_end; wrow_close) | ((with_reducible show wpAny _ _ (PySem.call (Value.ref _) _) _ _ _); first | (with_reducible ((with_reducible show wpAny _ _ (PySem.call (Value.ref 293) _) _ _ _); k_dflt (refine' useO (vector_new _ _ _ _ _ _ _) ?k1 ?k2 ?k3 ?k4 ?k5 ?kK ?kp ?kd ?ku ?_; (case k1 => k_asm); (case k2 => k_asm); (case k3 => k_asm); (case k4 => k_asm); (case k5 => k_asm); (case kK => first | exact rfl | assumption); (case kp => exact True.intro); (case kd => ktr_room); (case ku => ktr_units); intro r9z nw9z h9z tk9z F9z N9z hr9z; obtain ⟨x9z, d9z, u91, u92, u93, u94, u95, uk9z, hr9z, hn9z, l9z, ll9z⟩ := hr9z; subst hr9z; subst hn9z; (try k_lt l9z); (try k_lt2 ll9z); (try dsimp only); (try k_sweep)))) | (with_reducible ((with_reducible show wpAny _ _ (PySem.call (Value.ref 468) _) _ _ _); k_dflt (refine' useO (law_entry _ _ _ _ _ _ ?kq _) ?k1 ?k2 ?k3 ?k4 ?k5 ?kK ?kp ?kd ?ku ?_; (case k1 => k_asm); (case k2 => k_asm); (case k3 => k_asm); (case k4 => k_asm); (case k5 => k_asm); (case kK => first | exact rfl | assumption); (case kp => exact ⟨_, _, _, by k_mem, by assumption, by assumption⟩); (case kd => ktr_room); (case ku => ktr_units); (case kq => assumption); intro r9z nw9z h9z tk9z F9z N9z hr9z; skip; (try dsimp only); (try k_sweep)))) | (with_reducible ((with_reducible show wpAny _ _ (PySem.call (Value.ref 461) _) _ _ _); k_dflt (refine' useO (law_part_U _ _ _ _ _ _ _ _ _ _ _ _ ?uU ?ui ?ur ?h0 ?h1) ?k1 ?k2 ?k3 ?k4 ?k5 ?kK ?kp ?kd ?ku ?_; (case k1 => k_asm); (case k2 => k_asm); (case k3 => k_asm); (case k4 => k_asm); (case k5 => k_asm); (case kK => first | exact rfl | assumption); (case kp => exact rfl); (case uU => (first | exact UpdF.head (by assumption) | (refine' UpdF.head ?uh; (case uh => k_all)) | (refine' UpdF.tail ?uh ?ub; (case uh => k_ne); (case ub => (first | exact UpdF.head (by assumption) | (refine' UpdF.head ?uh; (case uh => k_all)) | (refine' UpdF.tail ?uh ?ub; (case uh => k_ne); (case ub => (first | exact UpdF.head (by assumption) | (refine' UpdF.head ?uh; (case uh => k_all)) | (refine' UpdF.tail ?uh ?ub; (case uh => k_ne); (case ub => (first | exact UpdF.head (by assumption) | (refine' UpdF.head ?uh; (case uh => k_all)) | (refine' UpdF.tail ?uh ?ub; (case uh => k_ne); (case ub => (fail "MY")))))))))))))); (case ui => assumption); (case ur => assumption); (case h0 => decide); (case h1 => decide); (case kd => ktr_room); (case ku => ktr_units); intro r9z nw9z h9z tk9z F9z N9z hr9z; obtain ⟨k9z, t9z, vs9z, ns9z, c9z, hr9z, hk9z, hm9z, hi9z, hq9z, hn9z⟩ := hr9z; subst hr9z; subst hn9z; (try dsimp only at N9z); (try dsimp only); (try k_sweep))))) | ((with_reducible show wpAny _ _ (PySem.eval (PySem.Expr.Call (PySem.Expr.Name _ _) _ _) _) _ _ _); (refine Call_ ?_)) | (with_reducible ((with_reducible show wpAny _ _ (subscriptTail _ _ (Value.str _ _) (Value.int _ _)) _ _ _); k_dflt (refine' item_abc ?h0 ?h1 ?_; (case h0 => exact Int.fmod_nonneg_of_pos _ (by decide)); (case h1 => exact Int.fmod_lt_of_pos _ (by decide))); intro c9z tk9z k9z hc9z)) | (with_reducible ((with_reducible show wpAny _ _ (subscriptTail _ _ (Value.ref _) (Value.int _ _)) _ _ _); k_dflt (refine' item_kind ?N ?m ?h0 ?h1 ?_; (case N => k_asm); (case m => k_mem); (case h0 => assumption); (case h1 => assumption); intro B9z t9z hB9z))) | walk1 | (dsimp only; walk1) | (leave1; (try dsimp only)) | fail "no step")
      rename IsRange _ _ _ _ _ _ _ _ => hR8
      rename News _ _ _ _ => N8
      refine LCg.CompSrc.range rfl (by k_asm) N8 hR8 (rng_small hm0 hm8) (rangeSize_nat _ _) (by rw [sizeLine_eq]; exact len_sz hm0 hm8) (fun g => ?_)
      refine comp_txt ?_ ?_
      · intro i t ys I oI C oC D m₂ h tk E' hin hC hx F9 N9
        repeat' ((fail_if_success (with_reducible show wpAny _ _ (PySem.exec (PySem.Stmt.While _ _ _ _) _) _ _ _)); (fail_if_success (with_reducible show wpAny _ _ (PySem.exec (PySem.Stmt.For _ _ _ _ _) _) _ _ _)); (fail_if_success (with_reducible show wpAny _ _ (PySem.exec (PySem.Stmt.Assign _ (PySem.Expr.ListComp _ _ _ _) _) _) _ _ _)); (fail_if_success (with_reducible show wpAny _ _ (PySem.eval (PySem.Expr.ListComp _ _ _ _) _) _ _ _)); (fail_if_success (with_reducible show LCg.CompSrc _ _ _ _ _ _ _ _ _ _ _ _ _ _)); (fail_if_success (with_reducible show LCt.CompSrcT _ _ _ _ _ _ _ _ _ _ _ _ _ _ _)); (fail_if_success (with_reducible show LCg.CompEnd _ _ _ _ _ _ _ _ _ _ _ _ _ _)); (fail_if_success (with_reducible show KswEnd _ _ _ _ _ _ _ _ _ _ _ _)); (fail_if_success (with_reducible show UnrEnd _ _ _ _ _ _ _)); (fail_if_success (with_reducible show wpAny _ _ (PySem.call (Value.ref 440) _) _ _ _)); (fail_if_success (with_reducible show wpAny _ _ (PySem.call (Value.ref 447) _) _ _ _)); (fail_if_success (with_reducible show wpAny _ _ (PySem.call (Value.ref 475) _) _ _ _)); (fail_if_success (with_reducible show wpAny _ _ (PySem.call (Value.ref 468) _) _ _ _)); (fail_if_success (with_reducible show wpAny _ _ (PySem.call (Value.ref 454) _) _ _ _)); first | (k_unfold; (try dsimp only)) | (k_end; wrow_close) | ((with_reducible show wpAny _ _ (PySem.call (Value.ref _) _) _ _ _); first | (with_reducible ((with_reducible show wpAny _ _ (PySem.call (Value.ref 293) _) _ _ _); k_dflt (refine' useO (vector_new _ _ _ _ _ _ _) ?k1 ?k2 ?k3 ?k4 ?k5 ?kK ?kp ?kd ?ku ?_; (case k1 => k_asm); (case k2 => k_asm); (case k3 => k_asm); (case k4 => k_asm); (case k5 => k_asm); (case kK => first | exact rfl | assumption); (case kp => exact True.intro); (case kd => ktr_room); (case ku => ktr_units); intro r9z nw9z h9z tk9z F9z N9z hr9z; obtain ⟨x9z, d9z, u91, u92, u93, u94, u95, uk9z, hr9z, hn9z, l9z, ll9z⟩ := hr9z; subst hr9z; subst hn9z; (try k_lt l9z); (try k_lt2 ll9z); (try dsimp only); (try k_sweep)))) | (with_reducible ((with_reducible show wpAny _ _ (PySem.call (Value.ref 468) _) _ _ _); k_dflt (refine' useO (law_entry _ _ _ _ _ _ ?kq _) ?k1 ?k2 ?k3 ?k4 ?k5 ?kK ?kp ?kd ?ku ?_; (case k1 => k_asm); (case k2 => k_asm); (case k3 => k_asm); (case k4 => k_asm); (case k5 => k_asm); (case kK => first | exact rfl | assumption); (case kp => exact ⟨_, _, _, by k_mem, by assumption, by assumption⟩); (case kd => ktr_room); (case ku => ktr_units); (case kq => assumption); intro r9z nw9z h9z tk9z F9z N9z hr9z; skip; (try dsimp only); (try k_sweep)))) | (with_reducible ((with_reducible show wpAny _ _ (PySem.call (Value.ref 461) _) _ _ _); k_dflt (refine' useO (law_part_U _ _ _ _ _ _ _ _ _ _ _ _ ?uU ?ui ?ur ?h0 ?h1) ?k1 ?k2 ?k3 ?k4 ?k5 ?kK ?kp ?kd ?ku ?_; (case k1 => k_asm); (case k2 => k_asm); (case k3 => k_asm); (case k4 => k_asm); (case k5 => k_asm); (case kK => first | exact rfl | assumption); (case kp => exact rfl); (case uU => (first | exact UpdF.head (by assumption) | (refine' UpdF.head ?uh; (case uh => k_all)) | (refine' UpdF.tail ?uh ?ub; (case uh => k_ne); (case ub => (first | exact UpdF.head (by assumption) | (refine' UpdF.head ?uh; (case uh => k_all)) | (refine' UpdF.tail ?uh ?ub; (case uh => k_ne); (case ub => (first | exact UpdF.head (by assumption) | (refine' UpdF.head ?uh; (case uh => k_all)) | (refine' UpdF.tail ?uh ?ub; (case uh => k_ne); (case ub => (first | exact UpdF.head (by assumption) | (refine' UpdF.head ?uh; (case uh => k_all)) | (refine' UpdF.tail ?uh ?ub; (case uh => k_ne); (case ub => (fail "MY")))))))))))))); (case ui => assumption); (case ur => assumption); (case h0 => decide); (case h1 => decide); (case kd => ktr_room); (case ku => ktr_units); intro r9z nw9z h9z tk9z F9z N9z hr9z; obtain ⟨k9z, t9z, vs9z, ns9z, c9z, hr9z, hk9z, hm9z, hi9z, hq9z, hn9z⟩ := hr9z; subst hr9z; subst hn9z; (try dsimp only at N9z); (try dsimp only); (try k_sweep))))) | ((with_reducible show wpAny _ _ (PySem.eval (PySem.Expr.Call (PySem.Expr.Name _ _) _ _) _) _ _ _); (refine Call_ ?_)) | (with_reducible ((with_reducible show wpAny _ _ (subscriptTail _ _ (Value.str _ _) (Value.int _ _)) _ _ _); k_dflt (refine' item_abc ?h0 ?h1 ?_; (case h0 => exact Int.fmod_nonneg_of_pos _ (by decide)); (case h1 => exact Int.fmod_lt_of_pos _ (by decide))); intro c9z tk9z k9z hc9z)) | (with_reducible ((with_reducible show wpAny _ _ (subscriptTail _ _ (Value.ref _) (Value.int _ _)) _ _ _); k_dflt (refine' item_kind ?N ?m ?h0 ?h1 ?_; (case N => k_asm); (case m => k_mem); (case h0 => assumption); (case h1 => assumption); intro B9z t9z hB9z))) | walk1 | (dsimp only; walk1) | (leave1; (try dsimp only)) | fail "no step")
        exact ⟨_, _, _, _, rfl, by k_asm, by k_asm, rfl, by assumption⟩
      · intro ys2 ls hll hlc hits2
        intro D2 h2 tk2 F9 N9 o92
        simp only [LCg.Off1] at o92
        repeat' ((fail_if_success (with_reducible show wpAny _ _ (PySem.exec (PySem.Stmt.While _ _ _ _) _) _ _ _)); (fail_if_success (with_reducible show wpAny _ _ (PySem.exec (PySem.Stmt.For _ _ _ _ _) _) _ _ _)); (fail_if_success (with_reducible show wpAny _ _ (PySem.exec (PySem.Stmt.Assign _ (PySem.Expr.ListComp _ _ _ _) _) _) _ _ _)); (fail_if_success (with_reducible show wpAny _ _ (PySem.eval (PySem.Expr.ListComp _ _ _ _) _) _ _ _)); (fail_if_success (with_reducible show LCg.CompSrc _ _ _ _ _ _ _ _ _ _ _ _ _ _)); (fail_if_success (with_reducible show LCt.CompSrcT _ _ _ _ _ _ _ _ _ _ _ _ _ _ _)); (fail_if_success (with_reducible show LCg.CompEnd _ _ _ _ _ _ _ _ _ _ _ _ _ _)); (fail_if_success (with_reducible show KswEnd _ _ _ _ _ _ _ _ _ _ _ _)); (fail_if_success (with_reducible show UnrEnd _ _ _ _ _ _ _)); (fail_if_success (with_reducible show wpAny _ _ (PySem.call (Value.ref 440) _) _ _ _)); (fail_if_success (with_reducible show wpAny _ _ (PySem.call (Value.ref 447) _) _ _ _)); (fail_if_success (with_reducible show wpAny _ _ (PySem.call (Value.ref 475) _) _ _ _)); (fail_if_success (with_reducible show wpAny _ _ (PySem.call (Value.ref 468) _) _ _ _)); (fail_if_success (with_reducible show wpAny _ _ (PySem.call (Value.ref 454) _) _ _ _)); (fail_if_success (with_reducible show wpAny _ _ (PySem.execs (List.cons (PySem.Stmt.Assign [PySem.Expr.Name _ _] (PySem.Expr.List _ _) _) _) _) _ _ _)); first | (k_unfold; (try dsimp only)) | (k_end; wrow_close) | ((with_reducible show wpAny _ _ (PySem.call (Value.ref _) _) _ _ _); first | (with_reducible ((with_reducible show wpAny _ _ (PySem.call (Value.ref 293) _) _ _ _); k_dflt (refine' useO (vector_new _ _ _ _ _ _ _) ?k1 ?k2 ?k3 ?k4 ?k5 ?kK ?kp ?kd ?ku ?_; (case k1 => k_asm); (case k2 => k_asm); (case k3 => k_asm); (case k4 => k_asm); (case k5 => k_asm); (case kK => first | exact rfl | assumption); (case kp => exact True.intro); (case kd => ktr_room); (case ku => ktr_units); intro r9z nw9z h9z tk9z F9z N9z hr9z; obtain ⟨x9z, d9z, u91, u92, u93, u94, u95, uk9z, hr9z, hn9z, l9z, ll9z⟩ := hr9z; subst hr9z; subst hn9z; (try k_lt l9z); (try k_lt2 ll9z); (try dsimp only); (try k_sweep)))) | (with_reducible ((with_reducible show wpAny _ _ (PySem.call (Value.ref 468) _) _ _ _); k_dflt (refine' useO (law_entry _ _ _ _ _ _ ?kq _) ?k1 ?k2 ?k3 ?k4 ?k5 ?kK ?kp ?kd ?ku ?_; (case k1 => k_asm); (case k2 => k_asm); (case k3 => k_asm); (case k4 => k_asm); (case k5 => k_asm); (case kK => first | exact rfl | assumption); (case kp => exact ⟨_, _, _, by k_mem, by assumption, by assumption⟩); (case kd => ktr_room); (case ku => ktr_units); (case kq => assumption); intro r9z nw9z h9z tk9z F9z N9z hr9z; skip; (try dsimp only); (try k_sweep)))) | (with_reducible ((with_reducible show wpAny _ _ (PySem.call (Value.ref 461) _) _ _ _); k_dflt (refine' useO (law_part_U _ _ _ _ _ _ _ _ _ _ _ _ ?uU ?ui ?ur ?h0 ?h1) ?k1 ?k2 ?k3 ?k4 ?k5 ?kK ?kp ?kd ?ku ?_; (case k1 => k_asm); (case k2 => k_asm); (case k3 => k_asm); (case k4 => k_asm); (case k5 => k_asm); (case kK => first | exact rfl | assumption); (case kp => exact rfl); (case uU => (first | exact UpdF.head (by assumption) | (refine' UpdF.head ?uh; (case uh => k_all)) | (refine' UpdF.tail ?uh ?ub; (case uh => k_ne); (case ub => (first | exact UpdF.head (by assumption) | (refine' UpdF.head ?uh; (case uh => k_all)) | (refine' UpdF.tail ?uh ?ub; (case uh => k_ne); (case ub => (first | exact UpdF.head (by assumption) | (refine' UpdF.head ?uh; (case uh => k_all)) | (refine' UpdF.tail ?uh ?ub; (case uh => k_ne); (case ub => (first | exact UpdF.head (by assumption) | (refine' UpdF.head ?uh; (case uh => k_all)) | (refine' UpdF.tail ?uh ?ub; (case uh => k_ne); (case ub => (fail "MY")))))))))))))); (case ui => assumption); (case ur => assumption); (case h0 => decide); (case h1 => decide); (case kd => ktr_room); (case ku => ktr_units); intro r9z nw9z h9z tk9z F9z N9z hr9z; obtain ⟨k9z, t9z, vs9z, ns9z, c9z, hr9z, hk9z, hm9z, hi9z, hq9z, hn9z⟩ := hr9z; subst hr9z; subst hn9z; (try dsimp only at N9z); (try dsimp only); (try k_sweep))))) | ((with_reducible show wpAny _ _ (PySem.eval (PySem.Expr.Call (PySem.Expr.Name _ _) _ _) _) _ _ _); (refine Call_ ?_)) | (with_reducible ((with_reducible show wpAny _ _ (subscriptTail _ _ (Value.str _ _) (Value.int _ _)) _ _ _); k_dflt (refine' item_abc ?h0 ?h1 ?_; (case h0 => exact Int.fmod_nonneg_of_pos _ (by decide)); (case h1 => exact Int.fmod_lt_of_pos _ (by decide))); intro c9z tk9z k9z hc9z)) | (with_reducible ((with_reducible show wpAny _ _ (subscriptTail _ _ (Value.ref _) (Value.int _ _)) _ _ _); k_dflt (refine' item_kind ?N ?m ?h0 ?h1 ?_; (case N => k_asm); (case m => k_mem); (case h0 => assumption); (case h1 => assumption); intro B9z t9z hB9z))) | walk1 | (dsimp only; walk1) | (leave1; (try dsimp only)) | fail "no step")
        dsimp only
        rename Obj.IsDictOf _ _ _ => hdo
        refine' law_B w mean mg mb _ _ ?g1 ?g2 dp un gd a ccd outer A₀ base h₀ L _ _ _ _ _ ?gB ?gF ?gX ?gN ?gT ?gP hd hu hE fun h' tk' m' F' => hret h' tk' m' F'
        case g1 => kernel_rfl
        case g2 => kernel_rfl
        case gB => k_asm
        case gF => k_asm
        case gX => k_asm
        case gN => k_asm
        case gT => k_asm
        refine LbPre.mk (L := L) (row := row) (r := m) (B := B) (its := its) (nm := some ls) (rv := _) (o1 := o1) (o4 := o4) (.tail _ (.tail _ (.tail _ (.tail _ (.tail _ (.tail _ (.tail _ (.head _)))))))) (.tail _ (.tail _ (.tail _ (.tail _ (.tail _ (.tail _ (.tail _ (.tail _ (e4))))))))) (.tail _ (.tail _ (.tail _ (.tail _ (.tail _ (.tail _ (.tail _ (.tail _ (e3))))))))) (.tail _ (.tail _ (.tail _ (.tail _ (.tail _ (.tail _ (.tail _ (.tail _ (e2))))))))) (.tail _ (.tail _ (.tail _ (.tail _ (.tail _ (.tail _ (.tail _ (.tail _ (e1))))))))) d1 (by assumption) d4 (by assumption) (by assumption) hl1 ?_ hb hB (len7 hil hm0 hm8) ?_
        · exact ⟨_, _, ys, _, _, rfl, ⟨_, _, _, _, _, _, _, _, _, .tail _ (.tail _ (.tail _ (.tail _ (.head _)))), .tail _ (.tail _ (.tail _ (.tail _ (.tail _ (.head _)))))⟩, .tail _ (.tail _ (.tail _ (.tail _ (.tail _ (.tail _ (.head _)))))), hits.mono fun p hp => .tail _ (.tail _ (.tail _ (.tail _ (.tail _ (.tail _ (.tail _ (.tail _ hp))))))), _, _, _, _, ys2, _, rfl, .tail _ (.tail _ (.tail _ (.head _))), hdo, by assumption, ⟨_, _, _, _, _, _, _, _, _, .head _, .tail _ (.head _)⟩, .tail _ (.tail _ (.head _)), hits2.mono fun p h => (List.not_mem_nil h).elim⟩
        · rintro ls' ⟨⟩
          refine ⟨len7 hll hm0 hm8, fun a ha => ?_⟩
          obtain ⟨l, hl, rfl⟩ := List.mem_map.mp ha
          exact hlc l hl
    · dsimp only
      refine' law_B w mean mg mb _ _ ?mg1 ?mg2 dp un gd a ccd outer A₀ base h₀ L _ _ _ _ _ ?mgB ?mgF ?mgX ?mgN ?mgT ?mgP hd hu hE fun h' tk' m' F' => hret h' tk' m' F'
      case mg1 => kernel_rfl
      case mg2 => kernel_rfl
      case mgB => k_asm
      case mgF => k_asm
      case mgX => k_asm
      case mgN => k_asm
      case mgT => k_asm
      refine LbPre.mk (L := L) (row := row) (r := m) (B := B) (its := its) (nm := none) (rv := _) (o1 := o1) (o4 := o4) (.tail _ (.tail _ (.tail _ (.head _)))) (.tail _ (.tail _ (.tail _ (.tail _ (e4))))) (.tail _ (.tail _ (.tail _ (.tail _ (e3))))) (.tail _ (.tail _ (.tail _ (.tail _ (e2))))) (.tail _ (.tail _ (.tail _ (.tail _ (e1))))) d1 (by assumption) d4 (by assumption) (by assumption) hl1 ?_ hb hB (len7 hil hm0 hm8) ?_
      · exact ⟨_, _, ys, _, _, rfl, ⟨_, _, _, _, _, _, _, _, _, .head _, .tail _ (.head _)⟩, .tail _ (.tail _ (.head _)), hits.mono fun p hp => .tail _ (.tail _ (.tail _ (.tail _ hp))), rfl⟩
      · rintro ls' ⟨⟩

end
example : True := by (w_top off; exact True.intro)
section
local macro_rules | `(tactic| k_qdec) => `(tactic| decide +kernel)
set_option maxRecDepth 1000000 in
theorem main : PySem.Challenge.rw_ov0074_01.Holds := by
  have fill : (fun (P : Params) => (Mine.hd.heap_1 P, PySem.Challenge.rw_ov0074_01.row.prog)) = (fun P => (Mine.hd.heap_1 P, PySem.Challenge.rw_ov0074_01.row.prog)) := by (k_fill; rfl)
  clear fill
  refine holds_law f_said fun said => ?_
  refine holds_open (r := PySem.Challenge.rw_ov0074_01.row) (q := Mine.hd.view_1) (loose := Mine.loose0) (Xt := Mine.xt0) (XP := XL Mine.hd.view_1 []) (Yf := Hook.obs Mine.hk) (Ya := Hook.val Mine.hk) (YP := Hook.says Mine.hk) (N := 5372) Mine.left (Hook.of Mine.hk)
    (Hook.keeps Mine.hk) (fun s e => xl_of s (Bool.and_eq_true_iff.mp e).1) XL.keeps (by rfl) (by rfl) (by rfl) (fun s e => recFacts_of (Bool.and_eq_true_iff.mp e).2) (by rfl) said f_ok f_bare ?hw ?hc
  case hw => exact f_wit
  case hc =>
    clear said
    k_go0
    all_goals try k_fold
    rename Glob _ _ _ _ _ _ _ _ => GL9
    rename LooseAre _ _ _ => V9
    rename Tables _ _ _ _ => B9
    rename TopE _ _ _ _ => TE9
    rename TopW _ _ _ => TW9
    rename BMod _ _ _ _ _ => M9
    rename Ground _ _ _ _ _ _ _ _ _ => G9
    have GLh := PySem.Flt.Hid.mk GL9
    have Vh := PySem.Flt.Hid.mk V9
    have Bh := PySem.Flt.Hid.mk B9
    have TEh := PySem.Flt.Hid.mk TE9
    have TWh := PySem.Flt.Hid.mk TW9
    have Mh := PySem.Flt.Hid.mk M9
    have Gh := PySem.Flt.Hid.mk G9
    clear GL9 V9 B9 TE9 TW9 M9 G9
    repeat' ((fail_if_success (with_reducible show wpAny _ _ (PySem.exec (PySem.Stmt.While _ _ _ _) _) _ _ _)); (fail_if_success (with_reducible show wpAny _ _ (PySem.exec (PySem.Stmt.For _ _ _ _ _) _) _ _ _)); (fail_if_success (with_reducible show wpAny _ _ (PySem.exec (PySem.Stmt.Assign _ (PySem.Expr.ListComp _ _ _ _) _) _) _ _ _)); (fail_if_success (with_reducible show wpAny _ _ (PySem.eval (PySem.Expr.ListComp _ _ _ _) _) _ _ _)); (fail_if_success (with_reducible show LCg.CompSrc _ _ _ _ _ _ _ _ _ _ _ _ _ _)); (fail_if_success (with_reducible show LCt.CompSrcT _ _ _ _ _ _ _ _ _ _ _ _ _ _ _)); (fail_if_success (with_reducible show LCg.CompEnd _ _ _ _ _ _ _ _ _ _ _ _ _ _)); (fail_if_success (with_reducible show KswEnd _ _ _ _ _ _ _ _ _ _ _ _)); (fail_if_success (with_reducible show UnrEnd _ _ _ _ _ _ _)); (fail_if_success (with_reducible show wpAny _ _ (PySem.call (Value.ref 440) _) _ _ _)); (fail_if_success (with_reducible show wpAny _ _ (PySem.call (Value.ref 447) _) _ _ _)); (fail_if_success (with_reducible show wpAny _ _ (PySem.call (Value.ref 475) _) _ _ _)); (fail_if_success (with_reducible show wpAny _ _ (PySem.call (Value.ref 461) _) _ _ _)); (fail_if_success (with_reducible show wpAny _ _ (PySem.call (Value.ref 468) _) _ _ _)); (fail_if_success (with_reducible show wpAny _ _ (PySem.call (Value.ref 454) _) _ _ _)); (fail_if_success (with_reducible show wpAny _ _ (PySem.call (Value.ref 339) _) _ _ _)); first | (k_unfold; (try dsimp only)) | (k_end; wrow_close) | walk1 | (dsimp only; walk1) | (leave1; (try dsimp only)) | fail "no step")
    rename IntsAre _ _ => hI9
    rename Heap.IsList _ _ _ => hl9
    rename ¬ _ < _ => hc9
    refine' law_parts _ _ _ _ _ _ _ hI9 ?uz _ _ _ _ _ _ _ _ _ _ _ _ _ _ _ _ _ _ ?u1 ?u2 ?u3 ?u4 ?u5 ?u6 hl9 ?u7 ?u8 ?_
    case uz => omega
    case u1 => k_asm
    case u2 => k_asm
    case u3 => k_asm
    case u4 => k_asm
    case u5 => k_asm
    case u6 => exact rfl
    case u7 => ktr_room
    case u8 => ktr_units
    intro row h9 tk9 vs9 ns9 c9 F9 N9 l9 hI8 hR8
    (try dsimp only)
    k_lt l9
    walk1
    (try dsimp only)
    refine' law_A _ _ _ _ _ _ ?g1 ?g2 _ _ _ _ _ _ _ _ _ _ _ _ _ _ _ ?gB ?gF ?gX ?gN ?gT ?gP ?gd ?gu ?gE ?gR
    case g1 => kernel_rfl
    case g2 => kernel_rfl
    case gB => k_asm
    case gF => k_asm
    case gX => k_asm
    case gN => k_asm
    case gT => k_asm
    case gP => exact ⟨row, vs9, ns9, c9, _, _, _, _, _, _, _, rfl, by assumption, by assumption, by assumption, by assumption, hI8, hR8, l9.1⟩
    case gd => ktr_room
    case gu => ktr_units
    case gE => with_unfolding_all passes_own
    case gR =>
      intro h9 tk9 m9 F9
      repeat' (first | (k_unfold; (try dsimp only)) | (k_end; wrow_close) | walk1 | (dsimp only; walk1) | (leave1; (try dsimp only)) | fail "no step")
      set_option pp.maxSteps 20000 in
      trace_state

end
end Mine
theorem PySem.Challenge.cw_ov0074_01_holds : PySem.Challenge.rw_ov0074_01.Holds :=
  Mine.main
