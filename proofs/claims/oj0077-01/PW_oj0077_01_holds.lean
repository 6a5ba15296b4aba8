import PyProof.Rows.All
import Wide.All
import OpenK.AllK
import Wide.FinOn
import PySem.Challenge.RW_oj0077_01
open PySem PySem.W PyProof.Rows
set_option compiler.extract_closed false
set_option genSizeOf false
set_option genInjectivity false
set_option linter.unusedVariables false
set_option linter.unusedSimpArgs false
set_option Elab.async false
set_option maxRecDepth 100000
namespace Mine.Internal
/-- what the last look asks of the world behind the top -/
noncomputable def lookAll (p q : Program) (loose : List Str) (Xt : Shared → Bool) {α : Type} (Yf : Shared → α) (h₀ : Heap) (s : Shared) :=
  ((staticsOk (importedModules p.main.body) h₀ s.heap && namesBound p s.heap && gensDone s && laidKept h₀ s.heap), openSeen q loose (importedModules p.main.body) Xt true s, Yf s)
noncomputable def topPick {α β γ δ ε : Type} (look : β → ε) : Option (α × β × γ × δ) → Option (α × γ × ε)
  | some (f, s, c, _) => some (f, c, look s)
  | none => none
theorem run_some {α β γ δ : Type} {o : Option (α × β × γ × δ)} {ε : Type} {look : β → ε} {f : α} {c : γ} {y : ε} (h : topPick look o = some (f, c, y)) :
    ∃ s p, o = some (f, s, c, p) ∧ look s = y := by
  match o, h with
  | some (f', s', c', p'), h =>
    have h := Option.some.inj h
    have e1 := congrArg Prod.fst h
    have e2 := congrArg (fun x => x.2.1) h
    have e3 := congrArg (fun x => x.2.2) h
    clear h
    dsimp only at e1 e2 e3
    subst e1 e2
    exact ⟨s', p', rfl, e3⟩
theorem top_ends {tb : String → Option Builtin} {p : Program} {w : World} {m₀ : Nat} {ann : Option Value} (s : Shared) (c : Code) (pos q : Pos) : topRun tb p w m₀ ann 2 s ⟨doneF .next, c, pos, [topFrame q]⟩ = some s := by
  cases s; rfl
noncomputable def getT (s : SharedT) (a : Addr) : Option Obj := match Nat.blt a s.n with
  | true => match s.tree.get a with
    | some o => alive o
    | none => none
  | false => none
theorem getT_ok {s : SharedT} {a : Addr} {o : Obj} (h : getT s a = some o) : s.abs.heap.get? a = some o := by
  unfold getT at h
  cases h1 : Nat.blt a s.n with
  | false => rw [h1] at h; exact nomatch h
  | true =>
    rw [h1] at h
    cases h2 : s.tree.get a with
    | none => rw [h2] at h; exact nomatch h
    | some o' =>
      rw [h2] at h
      exact (abs_get (t := s.tree) (n := s.n) (life := s.life) (show a < s.n from Nat.le_of_ble_eq_true h1) h2).trans h
theorem mapT_ok {α β γ : Type} {f g : α → Option β} {v : γ → β} (H : ∀ a o, f a = some o → g a = some o) : ∀ (as : List α) (l : List γ), as.map f = l.map (fun p => some (v p)) → as.map g = l.map fun p => some (v p)
  | [], [], _ => rfl
  | [], _ :: _, h => nomatch h
  | _ :: _, [], h => nomatch h
  | a :: as, p :: l, h => by
    have h1 := (List.cons.inj h).1
    have h2 := (List.cons.inj h).2
    exact congr (congrArg List.cons (H _ _ h1)) (mapT_ok H as l h2)
/-- from one run of the whole top to what the head asks; «seg», «tb» and «look» are quick forms of what they stand for -/
theorem left_of {p q : Program} {loose : List Str} {Xt : Shared → Bool} {α : Type} {Yf : Shared → α} {Ya : World → α} {N : Nat} {H₀ : Params → Heap} {gs₀ : Array GenState} {d₀ : Drawn} {k₀ m₀ : Nat} {ann : Option Value} {n1 n2 n3 : Nat} {env : Env} {qp : Pos}
    {Sa : World → OsState → Shared} {St : World → OsState → SharedT} {pa pb : Pos} {seg : (String → Option Builtin) → Program → World → Nat → Option Value → Nat → Nat → SharedT → Thread → Option (Flow × SharedT × Code × Pos)} {tb : String → Option Builtin} {look : Heap → SharedT → Bool × _ × α}
    (hseg : @segRunT = seg) (htb : treeTable = tb) (hlook : ∀ w s, look (H₀ w.params) s = (true, openGood q loose, Ya w) → lookAll p q loose Xt Yf (H₀ w.params) s.abs = (true, openGood q loose, Ya w))
    (open_ : ∀ w : World, (fencedOpening treeTable p w N).map (fun s => (s.heap, s.gens, s.drawn, s.toks)) = some (H₀ w.params, gs₀, d₀, k₀))
    (size : ∀ w : World, ((H₀ w.params).isNs mainGlobals && gs₀.size == 0, (H₀ w.params).objs.size, (H₀ w.params).nsMap mainGlobals "__annotations__") = (true, m₀, ann))
    (pre : ∀ w os, topGo treeTable p w m₀ ann n1 ⟨H₀ w.params, gs₀, d₀, k₀, os⟩ (topStub p) = some (Sa w os, ⟨denote treeTable (.body (behindTheImports p) env), .body (behindTheImports p) env, pa, [topFrame qp]⟩))
    (block : ∀ w os, segRun treeTable p w m₀ ann 1 n2 (Sa w os) (blockOf (behindTheImports p) env (.body (behindTheImports p) env) pa [topFrame qp]) = some (.next, (St w os).abs, .body (behindTheImports p) env, pb))
    (run : ∀ w, (fun os => topPick (look (H₀ w.params)) (seg tb p w m₀ ann 1 n3 (St w os) (piecesOf (behindTheImports p) env (.body (behindTheImports p) env) pb [topFrame qp]))) = fun _ => some (.next, .body (behindTheImports p) env, true, openGood q loose, Ya w))
    (le : Nat.ble (n1 + (n2 + (n3 + 2))) N = true) : LeftO p q loose Xt Yf Ya N := fun w => by
  subst hseg
  subst htb
  obtain ⟨⟨h, gs, d, k, os⟩, e, e'⟩ := Option.map_eq_some_iff.mp (open_ w)
  obtain ⟨rfl, rfl, rfl, rfl⟩ : h = H₀ w.params ∧ gs = gs₀ ∧ d = d₀ ∧ k = k₀ := by simpa using e'
  obtain ⟨z1, z2, z3⟩ : _ ∧ _ ∧ _ := by simpa only [Prod.mk.injEq] using size w
  obtain ⟨s', p', h1, r⟩ := run_some (congrFun (run w) os)
  have h2 := top_ends (tb := treeTable) (p := p) (w := w) (m₀ := m₀) (ann := ann) s'.abs (.body (behindTheImports p) env) p' qp
  have r := hlook w s' r
  have l1 := congrArg Prod.fst r
  have l2 := congrArg (fun x => x.2.1) r
  have l3 := congrArg (fun x => x.2.2) r
  clear r
  dsimp only [lookAll] at l1 l2 l3
  have k4 := piece_nil (env := env) h2
  have k3 := piece_app (l := behindTheImports p) (rest := []) (segRun_of h1) k4
  rw [List.append_nil] at k3
  have k2 := piece_block (block w os) k3
  have k1 := go_top (pre w os) k2
  have r := topRun_mono (N - (n1 + (n2 + (n3 + 2)))) _ _ _ _ k1
  rw [show n1 + (n2 + (n3 + 2)) + (N - (n1 + (n2 + (n3 + 2)))) = N from Nat.add_sub_of_le (Nat.le_of_ble_eq_true le)] at r
  have t : topFrom treeTable p w N ⟨H₀ w.params, gs, d, k, os⟩ = some s'.abs := by
    unfold topFrom
    dsimp only
    rw [z1, z2, z3, r]
    show (match staticsOk (importedModules p.main.body) (H₀ w.params) s'.abs.heap && namesBound p s'.abs.heap && gensDone s'.abs && laidKept (H₀ w.params) s'.abs.heap with | true => _ | false => _) = _
    rw [l1]
  unfold openEnds
  rw [e]
  show (topFrom treeTable p w N _).map _ = _
  rw [t]
  exact congrArg some (Prod.ext l2 l3)
noncomputable abbrev hp : Program := (OpenLaw.row Challenge.rw_oj0077_01).prog
noncomputable def hq : Program := view hp [87]
noncomputable def hloose : List Str := (hp.main.scope.names.map (·.1)).dropLast
noncomputable def o11 : Obj := { cls := .type "tuple", data := .seq #[] }
noncomputable def o12 : Obj := { cls := .none, data := .fields #[] }
noncomputable def o13 : Obj := { cls := .type "code", data := .fields #[.str (Str.ofString "<module>") 182, .str (Str.ofString "<module>") 183, .str (Str.ofString "/claim/cut.py") 184, .int 1 0, .int 0 0, .int 0 0, .int 0 0, .int 0 0, .ref 11, .bool false, .int 181 0, .ref 12, .none, .none, .none, .none, .int 185 0, .int 1 0, .str (Str.ofString "/claim/cut.py") 186] }
noncomputable def o14 : Obj := { cls := .type "frame", slots := #[some (.ref 13), some (.ref 3), some (.ref 3), none, some (.str (Str.ofString "__main__") 164), none, some (.ref 0)] }
noncomputable def heap0 (P : Params) : Heap := { objs := ⟨[boot_o_0 P, boot_o_1 P, boot_o_2 P, boot_o_3 P, boot_o_4 P, boot_o_5 P, boot_o_6 P, boot_o_7 P, boot_o_8 P, boot_o_9 P, boot_o_10 P, o11, o12, o13, o14]⟩ }
noncomputable def tree0 (P : Params) : BT := .node (boot_o_0 P) (.node (boot_o_1 P) (.node (boot_o_3 P) (.node (boot_o_7 P) .nil .nil) (.node o11 .nil .nil)) (.node (boot_o_5 P) (.node (boot_o_9 P) .nil .nil) (.node o13 .nil .nil)))
  (.node (boot_o_2 P) (.node (boot_o_4 P) (.node (boot_o_8 P) .nil .nil) (.node o12 .nil .nil)) (.node (boot_o_6 P) (.node (boot_o_10 P) .nil .nil) (.node o14 .nil .nil)))
noncomputable def env0 : Env := { scope := hp.main.scope, locals := mainNs, globals := mainNs, cells := [], code := .ref 13, frame := some 14 }
noncomputable abbrev pos0 : Pos := ⟨0, 0, 0, 0⟩
noncomputable abbrev code0 : Code := .body (behindTheImports hp) env0
noncomputable def sa (w : World) (os : OsState) : Shared := { heap := heap0 w.params, gens := ⟨[]⟩, drawn := {}, toks := 187, os := os }
noncomputable def st (w : World) (os : OsState) : SharedT := { tree := tree0 w.params, n := 15, life := {}, gens := ⟨[]⟩, drawn := {}, toks := 187, os := os }
theorem hopen : ∀ w : World, (fencedOpening treeTable hp w 10166).map (fun s => (s.heap, s.gens, s.drawn, s.toks)) = some (boot_heap w.params, Array.mk [], boot_drawn, boot_toks) :=
  boot_open (by kernel_rfl) (by kernel_rfl) (fun s => by kernel_rfl)
theorem hsize (w : World) : ((boot_heap w.params).isNs mainGlobals && (Array.mk [] : Array GenState).size == 0, (boot_heap w.params).objs.size, (boot_heap w.params).nsMap mainGlobals "__annotations__") = (true, 11, some (.ref 6)) := by
  rw [PySem.W.Fast.te8920871248978507458]; kernel_rfl
theorem hpre (w : World) (os : OsState) : topGo treeTable hp w 11 (some (.ref 6)) 12 ⟨boot_heap w.params, Array.mk [], boot_drawn, boot_toks, os⟩ (topStub hp) = some (sa w os, ⟨denote treeTable code0, code0, pos0, [topFrame pos0]⟩) := by
  rw [PySem.W.Fast.te15667345088766844465, PySem.W.Fast.te14364793385576792824, PySem.W.Fast.te11892475500146522536]; kernel_rfl
theorem hblock (w : World) (os : OsState) : segRun treeTable hp w 11 (some (.ref 6)) 1 1 (sa w os) (blockOf (behindTheImports hp) env0 code0 pos0 [topFrame pos0]) = some (.next, (st w os).abs, code0, pos0) := by
  rw [PySem.W.Fast.te14374325043358763698, PySem.W.Fast.te14364793385576792824]; kernel_rfl
noncomputable abbrev hXt (s : Shared) : Bool := xlAt hq [] s && recOk (RowW.records (OpenRow.toRowW (OpenLaw.row Challenge.rw_oj0077_01))) s
noncomputable def lookT (as : List Addr) (h : Heap) (s : SharedT) :=
  ((staticsOk (PySem.W.Fast.tw5923862056798008813 hp.main.body) h s.abs.heap && namesBound hp s.abs.heap && gensDone s.abs && laidKept h s.abs.heap),
    PySem.W.Fast.tw4187177175401517315 hq hloose (PySem.W.Fast.tw5923862056798008813 hp.main.body) hXt true s.abs, as.map (getT s))
theorem lookT_ok {K : Params → Frag} {as : List Addr} (w : World) (s : SharedT) (h : lookT as (boot_heap w.params) s = (true, openGood hq hloose, (K w.params).map fun p => some p.2)) :
    lookAll hp hq hloose hXt (fun s => as.map s.heap.get?) (boot_heap w.params) s.abs = (true, openGood hq hloose, (K w.params).map fun p => some p.2) := by
  unfold lookT at h
  rw [← PySem.W.Fast.te5923862056798008813, ← PySem.W.Fast.te4187177175401517315] at h
  have l1 := congrArg Prod.fst h
  have l2 := congrArg (fun x => x.2.1) h
  have l3 := congrArg (fun x => x.2.2) h
  clear h
  dsimp only at l1 l2 l3
  unfold lookAll
  exact Prod.ext l1 (Prod.ext l2 (mapT_ok (fun _ _ => getT_ok) _ _ l3))
theorem left_k {K : Params → Frag} {as : List Addr} {e : ∀ P, as = (K P).map (·.1)} (run : ∀ w, (fun os => topPick (lookT as (boot_heap w.params)) (PySem.W.Fast.tw10110043849684766642 PySem.W.Fast.tw14364793385576792824 hp w 11 (some (.ref 6)) 1 5034 (st w os) (piecesOf (behindTheImports hp) env0 code0 pos0 [topFrame pos0]))) = fun _ => some (.next, code0, true, openGood hq hloose, (K w.params).map fun p => some p.2)) :
    LeftO hp hq hloose hXt (Hook.obs (kHook K as e)) (Hook.val (kHook K as e)) 10166 :=
  left_of (Ya := fun w => (K w.params).map fun p => some p.2) (Yf := fun s => as.map s.heap.get?) PySem.W.Fast.te10110043849684766642 PySem.W.Fast.te14364793385576792824 lookT_ok hopen hsize hpre hblock run (by rfl)
set_option maxHeartbeats 4000000 in
theorem said : OpenLaw.wellSaid Challenge.rw_oj0077_01 = true := by
  unfold OpenLaw.wellSaid OpenRow.wellSaid OpenRow.partSaid looksOpen
  (try rw [PySem.W.Fast.te17119622794617984870]); (try rw [PySem.W.Fast.te9558739934217749035]); (try rw [PySem.W.Fast.te9706382859710513879])
  (try rw [PySem.W.Fast.te12749700546528644094]); (try rw [PySem.W.Fast.te9572597257264208301]); (try rw [PySem.W.Fast.te10792542408131684335])
  (try rw [PySem.W.Fast.te10501279942588096481]); (try rw [PySem.W.Fast.te13582783067957832011]); (try rw [PySem.W.Fast.te18344453789297297638])
  (try rw [PySem.W.Fast.te2357444279172408678]); (try rw [PySem.W.Fast.te16286561074155671207]); (try rw [PySem.W.Fast.te8377067652309620493])
  (try rw [PySem.W.Fast.te9807087744658564304]); (try rw [PySem.W.Fast.te12862048085361865435]); (try rw [PySem.W.Fast.te11788848310118352699])
  (try rw [PySem.W.Fast.te14412699480532031325]); (try rw [PySem.W.Fast.te8326940854005059898]); (try rw [PySem.W.Fast.te17691160309236699985])
  (try rw [PySem.W.Fast.te13343964577679436407]); (try rw [PySem.W.Fast.te12879404354523853263]); (try rw [PySem.W.Fast.te6984425678791042302])
  (try rw [PySem.W.Fast.te482687673346738481]); (try rw [PySem.W.Fast.te8179353310426384613]); (try rw [PySem.W.Fast.te4857012375875476094])
  (try rw [PySem.W.Fast.te5318747976498570220]); (try rw [PySem.W.Fast.te797321630700447069]); (try rw [PySem.W.Fast.te4274047373036748609])
  (try rw [PySem.W.Fast.te17868728402115742887]); (try rw [PySem.W.Fast.te2368527892694137696]); (try rw [PySem.W.Fast.sDec_eq]); (try rw [PySem.W.Fast.named_eq]); (try rw [PySem.W.S.strDecS_eq])
  (try rw [PySem.W.Fast.te5923862056798008813])
  repeat' (with_reducible refine look_both ?_ ?_)
  all_goals decide +kernel
theorem law_of (h : (OpenLaw.row Challenge.rw_oj0077_01).Holds) : OpenLaw.Holds Challenge.rw_oj0077_01 := holds_law said fun _ => h
theorem head_of {K : Params → Frag} {as : List Addr} {e : ∀ P, as = (K P).map (·.1)} {d : DefRec} {kwd : List (Str × Expr)}
    (run : ∀ w, (fun os => topPick (lookT as (boot_heap w.params)) (PySem.W.Fast.tw10110043849684766642 PySem.W.Fast.tw14364793385576792824 hp w 11 (some (.ref 6)) 1 5034 (st w os) (piecesOf (behindTheImports hp) env0 code0 pos0 [topFrame pos0]))) = fun _ => some (.next, code0, true, openGood hq hloose, (K w.params).map fun p => some p.2))
    (hdef : defOf hq (OpenLaw.row Challenge.rw_oj0077_01).name = some (d, kwd)) (ht : (OpenLaw.row Challenge.rw_oj0077_01).prog.theDef (OpenLaw.row Challenge.rw_oj0077_01).name = some (d.params, d.body, d.scope))
    (hk : kwWritten? d.params.kwonlyargs d.params.kw_defaults = some kwd) (hw : (OpenRow.toRowW (OpenLaw.row Challenge.rw_oj0077_01)).promised)
    (call : WalkO hq hloose (XL hq []) (Hook.says (kHook K as e)) (OpenRow.toRowW (OpenLaw.row Challenge.rw_oj0077_01)) d kwd fun f vs => PySem.call f vs) : (OpenLaw.row Challenge.rw_oj0077_01).Holds :=
  holds_open (q := hq) (loose := hloose) (Xt := hXt) (XP := XL hq []) (Yf := Hook.obs (kHook K as e)) (Ya := Hook.val (kHook K as e)) (YP := Hook.says (kHook K as e)) (N := 10166) (left_k run)
    (Hook.of (kHook K as e)) (Hook.keeps (kHook K as e)) (fun s e => xl_of s (Bool.and_eq_true_iff.mp e).1) XL.keeps hdef ht hk (fun s e => recFacts_of (Bool.and_eq_true_iff.mp e).2) rfl (row_said said) (by decide +kernel) ⟨rfl, rfl, rfl, rfl, rfl, by decide +kernel⟩ hw call
open Lean in
local macro_rules
  | `(tactic| o_law) => `(tactic| apply law_of)
  | `(tactic| o_head (kHook $K $a $e)) => `(tactic| refine head_of (K := $K) (as := $a) (e := $e) (fun w => by kernel_rfl) (by rfl) (by rfl) (by rfl) ?$(mkIdent `hw) ?$(mkIdent `hc))
set_option maxHeartbeats 8000000 in
open_top hd for PySem.Challenge.rw_oj0077_01
end Mine.Internal
section
open PySem PySem.W PyProof.Rows
namespace Mine.Internal
set_option genInjectivity true in
/-- values: tuples are trees of values, mutable things are addresses -/
inductive V where
  | none | bool (b : Bool) | int (i : Int) | str (s : Str) | tup (l : List V) | ref (a : Addr) | bi (n : String) | ty (n : String) | slice (lo hi : Option Int) | range (a b c : Int)
/-- a goal's name while facts are taken apart -/
theorem cps {G : Prop} (h : ∀ P : Prop, (G → P) → P) : G := h G id
@[elab_as_elim] theorem opq {α : Sort u} {motive : α → Prop} (a : α) (h : ∀ x, motive x) : motive a := h a
@[elab_as_elim] theorem opqE {α : Sort u} {motive : α → Prop} (a : α) (h : ∀ x, a = x → motive x) : motive a := h a rfl
theorem none_of {α : Type} {o : Option α} (h : ∀ x, o = some x → False) : o = none := by
  cases o with
  | none => rfl
  | some x => exact (h x rfl).elim
mutual
inductive VR (h : Heap) : V → Value → Prop
  | none : VR h .none .none
  | bool (b : Bool) : VR h (.bool b) (.bool b)
  | int (i : Int) (t : Tok) : VR h (.int i) (.int i t)
  | str (s : Str) (t : Tok) : VR h (.str s) (.str s t)
  | ref (a : Addr) : VR h (.ref a) (.ref a)
  | bi (n : String) : VR h (.bi n) (.builtin n)
  | ty (n : String) : VR h (.ty n) (.type n)
  | tup {l : List V} {vs : List Value} {a : Addr} : h.IsTuple a vs.toArray → VRs h l vs → VR h (.tup l) (.ref a)
  | slice {a : Addr} {vl vu : Value} {lo hi : Option Int} : h.IsSliceOf a vl vu .none → IsPart vl lo → IsPart vu hi → VR h (.slice lo hi) (.ref a)
  | range {r : Addr} {a b c : Int} {t u v : Tok} : IsRange h r a b c t u v → VR h (.range a b c) (.ref r)
inductive VRs (h : Heap) : List V → List Value → Prop
  | nil : VRs h [] []
  | cons {v : V} {c : Value} {l : List V} {cs : List Value} : VR h v c → VRs h l cs → VRs h (v :: l) (c :: cs)
end
section
variable {h : Heap} {c : Value} {P : Value → Prop}
@[elab_as_elim] theorem VR.int' {i : Int} (x : VR h (.int i) c) (k : ∀ t, P (.int i t)) : P c := by cases x; exact k _
@[elab_as_elim] theorem VR.str' {i : Str} (x : VR h (.str i) c) (k : ∀ t, P (.str i t)) : P c := by cases x; exact k _
@[elab_as_elim] theorem VR.bool' {i : Bool} (x : VR h (.bool i) c) (k : P (.bool i)) : P c := by cases x; exact k
@[elab_as_elim] theorem VR.none' (x : VR h .none c) (k : P .none) : P c := by cases x; exact k
@[elab_as_elim] theorem VR.ref' {a : Addr} (x : VR h (.ref a) c) (k : P (.ref a)) : P c := by cases x; exact k
@[elab_as_elim] theorem VR.tup' {l : List V} (x : VR h (.tup l) c) (k : ∀ vs a, h.IsTuple a vs.toArray → VRs h l vs → P (.ref a)) : P c := by cases x with | tup t l => exact k _ _ t l
@[elab_as_elim] theorem VR.slice' {lo hi : Option Int} (x : VR h (.slice lo hi) c) (k : ∀ a vl vu, h.IsSliceOf a vl vu .none → IsPart vl lo → IsPart vu hi → P (.ref a)) : P c := by cases x with | slice t p q => exact k _ _ _ t p q
@[elab_as_elim] theorem VRs.nil' {cs : List Value} {P : List Value → Prop} (x : VRs h [] cs) (k : P []) : P cs := by cases x; exact k
@[elab_as_elim] theorem VRs.cons' {v : V} {l : List V} {cs : List Value} {P : List Value → Prop} (x : VRs h (v :: l) cs) (k : ∀ c r, VR h v c → VRs h l r → P (c :: r)) : P cs := by cases x with | cons a b => exact k _ _ a b
@[elab_as_elim] theorem VRs.one' {v : V} {cs : List Value} {P : List Value → Prop} (x : VRs h [v] cs) (k : ∀ c, VR h v c → P [c]) : P cs := x.cons' fun c _ a b => b.nil' (P := fun r => P (c :: r)) (k c a)
@[elab_as_elim] theorem VRs.two' {v u : V} {cs : List Value} {P : List Value → Prop} (x : VRs h [v, u] cs) (k : ∀ c d, VR h v c → VR h u d → P [c, d]) : P cs := x.cons' fun c _ a b => b.one' (P := fun r => P (c :: r)) fun d e => k c d a e
@[elab_as_elim] theorem VRs.three' {v u w : V} {cs : List Value} {P : List Value → Prop} (x : VRs h [v, u, w] cs) (k : ∀ c d e, VR h v c → VR h u d → VR h w e → P [c, d, e]) : P cs := x.cons' fun c _ a b => b.two' (P := fun r => P (c :: r)) fun d e p q => k c d e a p q
end
noncomputable def Frozen (o : Obj) : Prop := (o.cls = .type "tuple" ∨ o.cls = .type "slice" ∨ o.cls = .type "range") ∧ ∀ es n, o.data ≠ .dict es n
noncomputable def TupKeep (h h' : Heap) : Prop := ∀ a o, h.get? a = some o → Frozen o → ∃ sl, h'.get? a = some { o with slots := sl } ∧ ((∃ vs, o.data = .fields vs) → sl = o.slots)
theorem TupKeep.refl (h : Heap) : TupKeep h h := fun _ o e _ => ⟨o.slots, e, fun _ => rfl⟩
theorem TupKeep.trans {a b c : Heap} (x : TupKeep a b) (y : TupKeep b c) : TupKeep a c := fun p o e f =>
  let ⟨sl, e1, g1⟩ := x p o e f
  let ⟨sl', e2, g2⟩ := y p _ e1 f
  ⟨sl', e2, fun q => (g2 q).trans (g1 q)⟩
theorem TupKeep.tup {h h' : Heap} (k : TupKeep h h') (a : Addr) (items : Array Value) : h.IsTuple a items → h'.IsTuple a items := fun ⟨o, e, c, n, r⟩ => let ⟨sl, z, _⟩ := k a o e ⟨.inl c, fun _ _ q => by rw [r] at q; cases q⟩; ⟨_, z, c, n, r⟩
theorem TupKeep.slice {h h' : Heap} (k : TupKeep h h') (a : Addr) (l u st : Value) : h.IsSliceOf a l u st → h'.IsSliceOf a l u st := fun ⟨o, e, c, r⟩ => let ⟨sl, z, _⟩ := k a o e ⟨.inr (.inl c), fun _ _ q => by rw [r] at q; cases q⟩; ⟨_, z, c, r⟩
theorem TupKeep.range {h h' : Heap} (k : TupKeep h h') {r : Addr} {a b c : Int} {t u v : Tok} (e : IsRange h r a b c t u v) : IsRange h' r a b c t u v :=
  let ⟨sl, z, g⟩ := k r _ e ⟨.inr (.inr rfl), fun _ _ q => by cases q⟩
  (show h'.get? r = _ from z).trans (by rw [g ⟨_, rfl⟩])
@[elab_as_elim] theorem VRs.ind {h : Heap} {P : List V → List Value → Prop} {l : List V} {cs : List Value} (x : VRs h l cs) (n : P [] []) (k : ∀ {v c l cs}, VR h v c → VRs h l cs → P l cs → P (v :: l) (c :: cs)) : P l cs :=
  VRs.rec (motive_1 := fun _ _ _ => True) (motive_2 := fun l cs _ => P l cs) trivial (fun _ => trivial) (fun _ _ => trivial) (fun _ _ => trivial) (fun _ => trivial) (fun _ => trivial) (fun _ => trivial) (fun _ _ _ => trivial) (fun _ _ _ => trivial) (fun _ => trivial) n (fun a b _ ih => k a b ih) x
theorem VR.mono {h h' : Heap} (k : TupKeep h h') {v : V} {c : Value} (x : VR h v c) : VR h' v c :=
  VR.rec (motive_1 := fun v c _ => VR h' v c) (motive_2 := fun l cs _ => VRs h' l cs) .none .bool .int .str .ref .bi .ty (fun t _ ih => .tup (k.tup _ _ t) ih) (fun t a b => .slice (k.slice _ _ _ _ t) a b) (fun t => .range (k.range t)) .nil (fun _ _ a b => .cons a b) x
theorem VRs.mono {h h' : Heap} (k : TupKeep h h') {l : List V} {cs : List Value} (x : VRs h l cs) : VRs h' l cs := x.ind .nil fun a _ ih => .cons (a.mono k) ih
theorem VRs.length {h : Heap} {l : List V} {cs : List Value} (x : VRs h l cs) : cs.length = l.length := x.ind rfl fun _ _ ih => congrArg (· + 1) ih
theorem VRs.append {h : Heap} {l m : List V} {cs ds : List Value} (x : VRs h l cs) (y : VRs h m ds) : VRs h (l ++ m) (cs ++ ds) := x.ind (P := fun l cs => VRs h (l ++ m) (cs ++ ds)) y fun a _ ih => .cons a ih
theorem VRs.get {h : Heap} {l : List V} {cs : List Value} (x : VRs h l cs) {i : Nat} {v : V} (e : l[i]? = some v) : ∃ c, cs[i]? = some c ∧ VR h v c := by
  have : ∀ i : Nat, l[i]? = some v → ∃ c, cs[i]? = some c ∧ VR h v c := x.ind (P := fun l cs => ∀ i : Nat, l[i]? = some v → ∃ c, cs[i]? = some c ∧ VR h v c) (fun i e => by cases e) fun a _ ih i e => by
    cases i with
    | zero => exact ⟨_, rfl, Option.some.inj e ▸ a⟩
    | succ i => exact ih i e
  exact this i e
theorem VRs.drop {h : Heap} {l : List V} {cs : List Value} (x : VRs h l cs) (n : Nat) : VRs h (l.drop n) (cs.drop n) := by
  have : ∀ n, VRs h (l.drop n) (cs.drop n) := x.ind (P := fun l cs => ∀ n, VRs h (l.drop n) (cs.drop n)) (fun n => by rw [List.drop_nil, List.drop_nil]; exact .nil) fun a b ih n => by
    cases n with
    | zero => exact .cons a b
    | succ n => exact ih n
  exact this n
theorem VRs.take {h : Heap} {l : List V} {cs : List Value} (x : VRs h l cs) (n : Nat) : VRs h (l.take n) (cs.take n) := by
  have : ∀ n, VRs h (l.take n) (cs.take n) := x.ind (P := fun l cs => ∀ n, VRs h (l.take n) (cs.take n)) (fun n => by rw [List.take_nil, List.take_nil]; exact .nil) fun a b ih n => by
    cases n with
    | zero => exact .nil
    | succ n => exact .cons a (ih n)
  exact this n
theorem VRs.rev {h : Heap} {l : List V} {cs : List Value} (x : VRs h l cs) : VRs h l.reverse cs.reverse := x.ind .nil fun a _ ih => by rw [List.reverse_cons, List.reverse_cons]; exact ih.append (.cons a .nil)
/-- attributes: names in the order of their first store -/
noncomputable abbrev AL := List (Str × V)
noncomputable def getA (x : Str) : AL → Option V
  | [] => none
  | (y, v) :: r => if y = x then some v else getA x r
noncomputable def setA (x : Str) (v : V) : AL → AL
  | [] => [(x, v)]
  | (y, u) :: r => if y = x then (y, v) :: r else (y, u) :: setA x v r
theorem getA_setA (x y : Str) (v : V) : ∀ l : AL, getA y (setA x v l) = if y = x then some v else getA y l
  | [] => by
    by_cases h : y = x
    · subst h; simp [setA, getA]
    · have : ¬ x = y := fun e => h e.symm
      simp [setA, getA, h, this]
  | (z, u) :: r => by
    unfold setA
    by_cases hz : z = x
    · subst hz
      by_cases h : y = z
      · subst h; simp [getA]
      · have : ¬ z = y := fun e => h e.symm
        simp [getA, h, this]
    · rw [if_neg hz]
      unfold getA
      by_cases h : z = y
      · subst h; simp [hz]
      · rw [if_neg h, if_neg h, getA_setA x y v r]
/-- locals: every name of the frame, with its value once it has one -/
noncomputable abbrev Loc := List (Str × Option V)
noncomputable def getL (x : Str) : Loc → Option V
  | [] => none
  | (y, v) :: r => if y = x then v else getL x r
noncomputable def setL (x : Str) (v : V) : Loc → Loc
  | [] => [(x, some v)]
  | (y, u) :: r => if y = x then (y, some v) :: r else (y, u) :: setL x v r
theorem getL_setL (x y : Str) (v : V) : ∀ l : Loc, getL y (setL x v l) = if y = x then some v else getL y l
  | [] => by
    by_cases h : y = x
    · subst h; simp [setL, getL]
    · have : ¬ x = y := fun e => h e.symm
      simp [setL, getL, h, this]
  | (z, u) :: r => by
    unfold setL
    by_cases hz : z = x
    · subst hz
      by_cases h : y = z
      · subst h; simp [getL]
      · have : ¬ z = y := fun e => h e.symm
        simp [getL, h, this]
    · rw [if_neg hz]
      unfold getL
      by_cases h : z = y
      · subst h; simp [hz]
      · rw [if_neg h, if_neg h, getL_setL x y v r]
set_option genInjectivity true in
inductive Cell where
  | list (l : List V)
  | dict (kv : AL)
  | attrs (kv : AL)
  | idict (kv : List (Int × Int))
  | inst (C d : Addr)
  | exc (r : Bool) (C : Addr) (d : Option Addr)
noncomputable abbrev Store := Addr → Option Cell
noncomputable def Store.set (σ : Store) (a : Addr) (c : Cell) : Store := fun b => if b = a then some c else σ b
theorem Store.set_self (σ : Store) (a : Addr) (c : Cell) : σ.set a c a = some c := if_pos rfl
theorem Store.set_ne (σ : Store) {a b : Addr} (c : Cell) (h : b ≠ a) : σ.set a c b = σ b := if_neg h
noncomputable abbrev listObj (vs : List Value) (n : Nat) : Obj := { cls := .type "list", data := .seq vs.toArray n }
/-- entries of an attribute dict -/
inductive Attrs (h : Heap) : AL → List DictEntry → Prop
  | nil : Attrs h [] []
  | cons {x : Str} {v : V} {r : AL} {hs : Int} {t : Tok} {c : Value} {es : List DictEntry} : VR h v c → Attrs h r es → Attrs h ((x, v) :: r) (⟨hs, .str x t, c⟩ :: es)
theorem Attrs.mono {h h' : Heap} (k : TupKeep h h') {l : AL} {es : List DictEntry} (x : Attrs h l es) : Attrs h' l es := by
  induction x with
  | nil => exact .nil
  | cons a _ ih => exact .cons (a.mono k) ih
/-- entries of a dict with string keys -/
inductive KVs (h : Heap) : AL → List (Str × Value) → Prop
  | nil : KVs h [] []
  | cons {x : Str} {v : V} {r : AL} {c : Value} {es : List (Str × Value)} : VR h v c → KVs h r es → KVs h ((x, v) :: r) ((x, c) :: es)
theorem KVs.mono {h h' : Heap} (k : TupKeep h h') {l : AL} {es : List (Str × Value)} (x : KVs h l es) : KVs h' l es := by
  induction x with
  | nil => exact .nil
  | cons a _ ih => exact .cons (a.mono k) ih
theorem KVs.len {h : Heap} {l : AL} {es : List (Str × Value)} (x : KVs h l es) : es.length = l.length := by
  induction x with
  | nil => rfl
  | cons _ _ ih => exact congrArg (· + 1) ih
theorem va_hd {x : Str} {c : Value} {es : List (Str × Value)} : valueAt ((x, c) :: es) x = some c := by
  unfold valueAt
  rw [List.find?_cons_of_pos (by simp)]; rfl
theorem va_tl {x y : Str} {c : Value} {es : List (Str × Value)} (q : ¬ y = x) : valueAt ((y, c) :: es) x = valueAt es x := by
  unfold valueAt
  rw [List.find?_cons_of_neg (by simpa using q)]
theorem KVs.none {h : Heap} (x : Str) {l : AL} {es : List (Str × Value)} (k : KVs h l es) (e : getA x l = none) : valueAt es x = none := by
  induction k with
  | nil => rfl
  | @cons y _ _ _ _ a b ih =>
    unfold getA at e
    by_cases q : y = x
    · rw [if_pos q] at e; cases e
    · rw [if_neg q] at e
      exact (va_tl q).trans (ih e)
theorem KVs.some {h : Heap} (x : Str) {v : V} {l : AL} {es : List (Str × Value)} (k : KVs h l es) (e : getA x l = some v) : ∃ c, valueAt es x = some c ∧ VR h v c := by
  induction k with
  | nil => cases e
  | @cons y _ _ _ _ a b ih =>
    unfold getA at e
    by_cases q : y = x
    · rw [if_pos q] at e
      subst q
      exact ⟨_, va_hd, Option.some.inj e ▸ a⟩
    · rw [if_neg q] at e
      obtain ⟨c, h1, h2⟩ := ih e
      exact ⟨c, (va_tl q).trans h1, h2⟩
theorem KVs.put {h : Heap} (x : Str) {v : V} {c : Value} (hv : VR h v c) {l : AL} {es : List (Str × Value)} (k : KVs h l es) (n : (es.map (·.1)).Nodup) : KVs h (setA x v l) (stored es x c) := by
  induction k with
  | nil => exact .cons hv .nil
  | @cons y u r cc es a b ih =>
    rw [List.map_cons, List.nodup_cons] at n
    unfold setA
    by_cases q : y = x
    · rw [if_pos q]
      subst q
      have e : stored ((y, cc) :: es) y c = (y, c) :: es := by
        unfold stored
        rw [if_pos (by simp), List.map_cons, if_pos rfl, map_store_of_not_mem _ _ _ n.1]
      rw [e]; exact .cons hv b
    · rw [if_neg q]
      have e : stored ((y, cc) :: es) x c = (y, cc) :: stored es x c := by
        unfold stored
        by_cases z : (es.any fun kv => kv.1 = x) = true
        · rw [if_pos (by rw [List.any_cons, z, Bool.or_true]), if_pos z, List.map_cons, if_neg q]
        · rw [if_neg (by rw [List.any_cons]; simp only [Bool.not_eq_true] at z; rw [z]; simpa using q), if_neg z]; rfl
      rw [e]; exact .cons a (ih n.2)
/-- what stands before the call: never changed -/
structure Bs where
  prog : Program
  w : World
  K : Frag
  h₀ : Heap
  p : Program
  loose : List Str
  mg : Str → Option Value
  mb : Str → Option Value
  X : K.In h₀
  T : TopRead p loose mg mb h₀
  gens : Array GenState
  drawn : Drawn
  os : OsState
inductive IKVs : List (Int × Int) → List (Int × Value) → Prop
  | nil : IKVs [] []
  | cons {k n : Int} {t : Tok} {r : List (Int × Int)} {es : List (Int × Value)} : IKVs r es → IKVs ((k, n) :: r) ((k, .int n t) :: es)
noncomputable def CellOK (B : Bs) (h : Heap) (a : Addr) : Cell → Prop
  | .list l => ∃ vs n, h.get? a = some (listObj vs n) ∧ VRs h l vs
  | .dict kv => ∃ kvs, h.DictOf (strKind B.prog B.w) a kvs ∧ KVs h kv kvs ∧ (a == sysModules) = false
  | .attrs kv => ∃ es n, h.get? a = some { cls := .type "dict", data := .dict es.toArray n } ∧ Attrs h kv es
  | .idict kv => ∃ kvs, h.DictOf (intKind B.prog B.w) a kvs ∧ IKVs kv kvs ∧ (a == sysModules) = false
  | .inst C d => h.get? a = some (instObj C d)
  | .exc r C d => ∃ vs sl, h.get? a = some ⟨.ref C, d, .fields vs, sl⟩ ∧ 1 < vs.size ∧ (∃ t0, vs[0]? = some (.ref t0)) ∧ (r = false → vs[1]? = some .none)
theorem CellOK.there {B : Bs} {h : Heap} {a : Addr} {c : Cell} (x : CellOK B h a c) : ∃ o, h.get? a = some o ∧ ¬ Frozen o := by
  cases c with
  | list l => obtain ⟨vs, n, e, _⟩ := x; exact ⟨_, e, by unfold Frozen; simp⟩
  | dict kv => obtain ⟨kvs, ⟨o, es, ep, e, ⟨hc, _⟩, _⟩, _⟩ := x; exact ⟨o, e, by unfold Frozen; rw [hc]; simp⟩
  | idict kv => obtain ⟨kvs, ⟨o, es, ep, e, ⟨hc, _⟩, _⟩, _⟩ := x; exact ⟨o, e, by unfold Frozen; rw [hc]; simp⟩
  | attrs kv => obtain ⟨es, n, e, _⟩ := x; exact ⟨_, e, by unfold Frozen; simp⟩
  | inst C d => exact ⟨_, x, by unfold Frozen; simp⟩
  | exc r C d => obtain ⟨vs, sl, e, _⟩ := x; exact ⟨_, e, by unfold Frozen; simp⟩
theorem CellOK.lt {B : Bs} {h : Heap} {a : Addr} {c : Cell} (x : CellOK B h a c) : a < h.objs.size := let ⟨_, e, _⟩ := x.there; Heap.lt_size e
theorem CellOK.noFz {B : Bs} {h : Heap} {a : Addr} {c : Cell} (x : CellOK B h a c) (o : Obj) (e : h.get? a = some o) : ¬ Frozen o := by
  obtain ⟨o', e', hn⟩ := x.there
  rw [e] at e'; cases e'; exact hn
theorem CellOK.mono {B : Bs} {h h' : Heap} {a : Addr} {c : Cell} (x : CellOK B h a c) (e : h'.get? a = h.get? a) (k : TupKeep h h') : CellOK B h' a c := by
  cases c with
  | list l => obtain ⟨vs, n, e', r⟩ := x; exact ⟨vs, n, e.trans e', r.mono k⟩
  | dict kv =>
    obtain ⟨kvs, ⟨o, es, ep, e', r⟩, q⟩ := x
    exact ⟨kvs, ⟨o, es, ep, e.trans e', r⟩, q.1.mono k, q.2⟩
  | attrs kv => obtain ⟨es, n, e', r⟩ := x; exact ⟨es, n, e.trans e', r.mono k⟩
  | idict kv =>
    obtain ⟨kvs, ⟨o, es, ep, e', r⟩, q⟩ := x
    exact ⟨kvs, ⟨o, es, ep, e.trans e', r⟩, q⟩
  | inst C d => exact e.trans x
  | exc r C d => obtain ⟨vs, sl, e', q⟩ := x; exact ⟨vs, sl, e.trans e', q⟩
structure Ext (σ : Store) (h : Heap) (σ' : Store) (h' : Heap) : Prop where
  fix : ∀ a o vs, h.get? a = some o → o.data = .fields vs → σ a = none → h'.get? a = some o
  live : ∀ a, h'.get? a = none → h.get? a = none
  keep : ∀ a o, h.get? a = some o → σ a = none → ∃ sl, h'.get? a = some { o with slots := sl }
  dom : ∀ a, σ' a ≠ none → σ a ≠ none ∨ h.get? a = none
theorem Ext.refl (σ : Store) (h : Heap) : Ext σ h σ h := ⟨fun _ _ _ e _ _ => e, fun _ e => e, fun _ o e _ => ⟨o.slots, e⟩, fun _ x => .inl x⟩
theorem Ext.trans {σ σ₁ σ₂ : Store} {h h₁ h₂ : Heap} (x : Ext σ h σ₁ h₁) (y : Ext σ₁ h₁ σ₂ h₂) : Ext σ h σ₂ h₂ := by
  refine ⟨fun a o vs e d hs => y.fix a o vs (x.fix a o vs e d hs) d ?_, fun a e => x.live a (y.live a e), fun a o e hs => ?_, fun a ha => ?_⟩
  · cases q : σ₁ a with
    | none => rfl
    | some c => rcases x.dom a (by rw [q]; simp) with z | z
                · exact absurd hs z
                · rw [e] at z; cases z
  · obtain ⟨sl, e1⟩ := x.keep a o e hs
    have : σ₁ a = none := by
      cases q : σ₁ a with
      | none => rfl
      | some c => rcases x.dom a (by rw [q]; simp) with z | z
                  · exact absurd hs z
                  · rw [e] at z; cases z
    obtain ⟨sl', e2⟩ := y.keep a _ e1 this
    exact ⟨sl', e2⟩
  · rcases y.dom a ha with z | z
    · exact x.dom a z
    · exact .inr (x.live a z)
/-- the same, but for the frame's own names at L -/
structure ExtS (L : Addr) (σ : Store) (h : Heap) (σ' : Store) (h' : Heap) : Prop where
  fix : ∀ a o vs, a ≠ L → h.get? a = some o → o.data = .fields vs → σ a = none → h'.get? a = some o
  live : ∀ a, h'.get? a = none → h.get? a = none
  keep : ∀ a o, a ≠ L → h.get? a = some o → σ a = none → ∃ sl, h'.get? a = some { o with slots := sl }
  dom : ∀ a, σ' a ≠ none → σ a ≠ none ∨ h.get? a = none
theorem ExtS.refl (L : Addr) (σ : Store) (h : Heap) : ExtS L σ h σ h := ⟨fun _ _ _ _ e _ _ => e, fun _ e => e, fun _ o _ e _ => ⟨o.slots, e⟩, fun _ x => .inl x⟩
theorem Ext.toS {σ σ' : Store} {h h' : Heap} (x : Ext σ h σ' h') (L : Addr) : ExtS L σ h σ' h' := ⟨fun a o vs _ => x.fix a o vs, x.live, fun a o _ => x.keep a o, x.dom⟩
theorem ExtS.trans {L : Addr} {σ σ₁ σ₂ : Store} {h h₁ h₂ : Heap} (x : ExtS L σ h σ₁ h₁) (y : ExtS L σ₁ h₁ σ₂ h₂) : ExtS L σ h σ₂ h₂ := by
  refine ⟨fun a o vs n e d hs => y.fix a o vs n (x.fix a o vs n e d hs) d ?_, fun a e => x.live a (y.live a e), fun a o n e hs => ?_, fun a ha => ?_⟩
  · cases q : σ₁ a with
    | none => rfl
    | some c => rcases x.dom a (by rw [q]; simp) with z | z
                · exact absurd hs z
                · rw [e] at z; cases z
  · obtain ⟨sl, e1⟩ := x.keep a o n e hs
    have : σ₁ a = none := by
      cases q : σ₁ a with
      | none => rfl
      | some c => rcases x.dom a (by rw [q]; simp) with z | z
                  · exact absurd hs z
                  · rw [e] at z; cases z
    obtain ⟨sl', e2⟩ := y.keep a _ n e1 this
    exact ⟨sl', e2⟩
  · rcases y.dom a ha with z | z
    · exact x.dom a z
    · exact .inr (x.live a z)
structure IsS (B : Bs) (fr : List Env) (σ : Store) (s : Shared) : Prop where
  stays : B.h₀.StaysIn s.heap
  frames : s.heap.FunFrames B.h₀ fr
  off : ∀ env ∈ fr, ∀ L, env.frame = some L → σ L = none
  new : ∀ a, σ a ≠ none → B.h₀.get? a = none
  cells : ∀ a c, σ a = some c → CellOK B s.heap a c
  gens : s.gens = B.gens
  drawn : s.drawn = B.drawn
  os : s.os = B.os
theorem IsS.lt {B : Bs} {fr : List Env} {σ : Store} {s : Shared} (x : IsS B fr σ s) {a : Addr} (h : σ a ≠ none) : a < s.heap.objs.size := by
  cases q : σ a with
  | none => exact absurd q h
  | some c => exact (x.cells a c q).lt
theorem IsS.toks {B : Bs} {fr : List Env} {σ : Store} {s : Shared} (x : IsS B fr σ s) (t : Nat) : IsS B fr σ { s with toks := t } := ⟨x.stays, x.frames, x.off, x.new, x.cells, x.gens, x.drawn, x.os⟩
theorem Ext.tup {B : Bs} {fr : List Env} {σ σ' : Store} {s : Shared} {h' : Heap} (x : IsS B fr σ s) (e : Ext σ s.heap σ' h') : TupKeep s.heap h' := by
  intro a o ho hf
  have hn : σ a = none := by
    cases q : σ a with
    | none => rfl
    | some c => exact absurd hf ((x.cells a c q).noFz o ho)
  by_cases hd : ∃ vs, o.data = .fields vs
  · obtain ⟨vs, hd⟩ := hd
    exact ⟨o.slots, e.fix a o vs ho hd hn, fun _ => rfl⟩
  · obtain ⟨sl, z⟩ := e.keep a o ho hn
    exact ⟨sl, z, fun q => absurd q hd⟩
/-- forgetting cells -/
noncomputable def Store.Le (σ σ' : Store) : Prop := ∀ a c, σ a = some c → σ' a = some c
theorem IsS.weaken {B : Bs} {fr : List Env} {σ σ' : Store} {s : Shared} (x : IsS B fr σ' s) (l : σ.Le σ') : IsS B fr σ s := by
  have up : ∀ a, σ a ≠ none → σ' a ≠ none := fun a h => by
    cases q : σ a with
    | none => exact absurd q h
    | some c => rw [l a c q]; simp
  refine ⟨x.stays, x.frames, fun env he L hL => ?_, fun a h => x.new a (up a h), fun a c e => x.cells a c (l a c e), x.gens, x.drawn, x.os⟩
  cases q : σ L with
  | none => rfl
  | some c => have := x.off env he L hL; rw [l L c q] at this; cases this
theorem Heap.push_keep {h : Heap} (o : Obj) : TupKeep h (h.push o) := fun _ o' e _ => ⟨o'.slots, Heap.get?_push_of_some _ e, fun _ => rfl⟩
/-- a new object that no cell names -/
theorem IsS.push {B : Bs} {fr : List Env} {σ : Store} {s : Shared} (x : IsS B fr σ s) (o : Obj) : IsS B fr σ { s with heap := s.heap.push o } ∧ Ext σ s.heap σ (s.heap.push o) := by
  have k : ∀ b o', s.heap.get? b = some o' → (s.heap.push o).get? b = some o' := fun b o' e => Heap.get?_push_of_some _ e
  refine ⟨⟨fun b o' e => k _ _ (x.stays b o' e), x.frames.of_keeps fun b o' e _ => ⟨o', k _ _ e, rfl⟩, x.off, x.new, fun a c e => ?_, x.gens, x.drawn, x.os⟩, fun a o' _ e _ _ => k _ _ e, fun a e => ?_, fun a o' e _ => ⟨o'.slots, k _ _ e⟩, fun _ h => .inl h⟩
  · have z := x.cells a c e
    obtain ⟨o', ho, _⟩ := z.there
    exact z.mono ((k _ _ ho).trans ho.symm) (Heap.push_keep o)
  · cases q : s.heap.get? a with
    | none => rfl
    | some o' => rw [k _ _ q] at e; cases e
/-- a new cell -/
theorem IsS.alloc {B : Bs} {fr : List Env} {σ : Store} {s : Shared} (x : IsS B fr σ s) (o : Obj) (c : Cell) (hc : CellOK B (s.heap.push o) s.heap.objs.size c) :
    IsS B fr (σ.set s.heap.objs.size c) { s with heap := s.heap.push o } ∧ Ext σ s.heap (σ.set s.heap.objs.size c) (s.heap.push o) ∧ σ s.heap.objs.size = none := by
  obtain ⟨y, e⟩ := x.push o
  have hn : σ s.heap.objs.size = none := by
    cases q : σ s.heap.objs.size with
    | none => rfl
    | some c' => exact absurd (x.lt (a := s.heap.objs.size) (by rw [q]; simp)) (Nat.lt_irrefl _)
  refine ⟨⟨y.stays, y.frames, fun env he L hL => ?_, fun a h => ?_, fun a c' e' => ?_, y.gens, y.drawn, y.os⟩, ⟨e.fix, e.live, e.keep, fun a h => ?_⟩, hn⟩
  · have z := y.off env he L hL
    have hne : L ≠ s.heap.objs.size := by
      have := (x.frames.mem (b := L) (List.mem_filterMap.mpr ⟨env, he, hL⟩)).2
      obtain ⟨o', ho, _⟩ := this
      exact Nat.ne_of_lt (Heap.lt_size ho)
    rw [Store.set_ne _ _ hne]; exact z
  · by_cases q : a = s.heap.objs.size
    · subst q; exact x.stays.fresh
    · rw [Store.set_ne _ _ q] at h; exact x.new a h
  · by_cases q : a = s.heap.objs.size
    · subst q; rw [Store.set_self] at e'; cases e'; exact hc
    · rw [Store.set_ne _ _ q] at e'; exact y.cells a c' e'
  · by_cases q : a = s.heap.objs.size
    · refine .inr ?_
      cases z : s.heap.get? a with
      | none => rfl
      | some o' => exact absurd (Heap.lt_size z) (by rw [q]; exact Nat.lt_irrefl _)
    · rw [Store.set_ne _ _ q] at h; exact .inl h
theorem SameBut.tup {h h' : Heap} {a : Addr} (hs : Heap.SameBut a h h') (hn : ∀ o, h.get? a = some o → ¬ Frozen o) : TupKeep h h' := fun b o e f => by
  have : b ≠ a := fun q => hn o (q ▸ e) f
  exact ⟨o.slots, (hs.2 b this).trans e, fun _ => rfl⟩
/-- a cell is changed -/
theorem IsS.update {B : Bs} {fr : List Env} {σ : Store} {s : Shared} (x : IsS B fr σ s) {a : Addr} {c c' : Cell} {h' : Heap} (ha : σ a = some c) (hs : Heap.SameBut a s.heap h') (hc : TupKeep s.heap h' → CellOK B h' a c') (t : Nat) :
    IsS B fr (σ.set a c') { s with heap := h', toks := t } ∧ Ext σ s.heap (σ.set a c') h' := by
  have ca := x.cells a c ha
  have k := SameBut.tup hs ca.noFz
  have nf : ∀ env ∈ fr, ∀ L, env.frame = some L → L ≠ a := fun env he L hL q => by have := x.off env he L hL; rw [q, ha] at this; cases this
  refine ⟨⟨fun b o e => ?_, ?_, fun env he L hL => ?_, fun b h => ?_, fun b c'' e => ?_, x.gens, x.drawn, x.os⟩, fun b o vs e _ q => (hs.2 b (fun e' => by rw [e', ha] at q; cases q)).trans e, fun b e => ?_, fun b o e q => ?_, fun b h => ?_⟩
  · have : b ≠ a := fun q => by have := x.new a (by rw [ha]; simp); rw [← q, e] at this; cases this
    exact (hs.2 b this).trans (x.stays b o e)
  · have hf := x.frames
    have : ∀ l : List Env, (∀ env ∈ l, ∀ L, env.frame = some L → L ≠ a) → s.heap.FunFrames B.h₀ l → h'.FunFrames B.h₀ l := by
      intro l
      induction l with
      | nil => intro _ _; trivial
      | cons env r ih =>
        intro hn ⟨hk, ⟨L, o, hL, hb, ho, hd⟩, hr⟩
        exact ⟨hk, ⟨L, o, hL, hb, (hs.2 L (hn env (.head _) L hL)).trans ho, hd⟩, ih (fun e he => hn e (.tail _ he)) hr⟩
    exact this fr nf hf
  · rw [Store.set_ne _ _ (nf env he L hL)]; exact x.off env he L hL
  · by_cases q : b = a
    · subst q; exact x.new b (by rw [ha]; simp)
    · rw [Store.set_ne _ _ q] at h; exact x.new b h
  · by_cases q : b = a
    · subst q; rw [Store.set_self] at e; cases e; exact hc k
    · rw [Store.set_ne _ _ q] at e; exact (x.cells b c'' e).mono (hs.2 b q) k
  · by_cases q : b = a
    · obtain ⟨o', z, _⟩ := (hc k).there
      rw [q, z] at e; cases e
    · rw [← hs.2 b q]; exact e
  · have : b ≠ a := fun e' => by rw [e', ha] at q; cases q
    exact ⟨o.slots, (hs.2 b this).trans e⟩
  · by_cases q : b = a
    · subst q; exact .inl (by rw [ha]; simp)
    · rw [Store.set_ne _ _ q] at h; exact .inl h
end Mine.Internal
end
section
open PySem PySem.W PyProof.Rows
namespace Mine.Internal
structure Cx where
  fr : List Env
  hd : Option Value
  dep : Nat
  un : Nat
structure AOk (c : Cx) (A : Around) : Prop where
  fr : A.frames = some c.fr
  hd : A.handled = c.hd
  dep : A.depth ≤ c.dep
  un : A.units ≤ c.un
/-- an exception in flight: made since h₀, its traceback too -/
noncomputable def TB (h₀ : Heap) (σ : Store) (h : Heap) (a : Addr) : Prop :=
  h₀.get? a = none ∧ ∃ o vs, h.get? a = some o ∧ o.data = .fields vs ∧
    (vs[1]? = some .none ∨ ∃ T oT ts, vs[1]? = some (.ref T) ∧ h₀.get? T = none ∧ σ T = none ∧ T ≠ a ∧ h.get? T = some oT ∧ oT.data = .fields ts ∧ 3 < ts.size ∧ oT.cls = .type "traceback")
theorem TB.earlier {h₀ h₁ h : Heap} {σ : Store} {a : Addr} (x : TB h₁ σ h a) (l : ∀ b, h₁.get? b = none → h₀.get? b = none) : TB h₀ σ h a := by
  obtain ⟨l1, o, vs, ho, hd, r⟩ := x
  refine ⟨l _ l1, o, vs, ho, hd, r.imp id ?_⟩
  rintro ⟨T, oT, ts, e, l2, r⟩
  exact ⟨T, oT, ts, e, l _ l2, r⟩
structure IsF (B : Bs) (fr : List Env) (env : Env) (ρ : Loc) (σ : Store) (s : Shared) : Prop where
  S : IsS B fr σ s
  offL : σ env.locals = none
  newL : B.h₀.get? env.locals = none
  loc : ∃ m, s.heap.Ns env.locals m ∧ ∀ x v, getL x ρ = some v → ∃ c, m x = some c ∧ VR s.heap v c
theorem IsF.noFz {B : Bs} {fr : List Env} {env : Env} {ρ : Loc} {σ : Store} {s : Shared} (x : IsF B fr env ρ σ s) {o : Obj} (e : s.heap.get? env.locals = some o) : ¬ Frozen o := by
  obtain ⟨m, ⟨o', es, n, e', d, _⟩, _⟩ := x.loc
  rw [e] at e'; cases e'
  exact fun f => f.2 es n d
inductive EC (B : Bs) (fr : List Env) (σ : Store) (s : Shared) (E : Addr → Store → Prop) (e : Value) (s' : Shared) : Prop
  | mk (a : Addr) (σ' : Store) : e = .ref a → IsS B fr σ' s' → Ext σ s.heap σ' s'.heap → TB s.heap σ' s'.heap a → (∃ C d, σ' a = some (.exc true C d)) → E a σ' → EC B fr σ s E e s'
inductive EF (B : Bs) (fr : List Env) (env : Env) (ρ : Loc) (σ : Store) (s : Shared) (E : Addr → Store → Prop) (e : Value) (s' : Shared) : Prop
  | mk (a : Addr) (σ' : Store) : e = .ref a → IsF B fr env ρ σ' s' → Ext σ s.heap σ' s'.heap → TB s.heap σ' s'.heap a → (∃ C d, σ' a = some (.exc true C d)) → E a σ' → EF B fr env ρ σ s E e s'
inductive ES (B : Bs) (fr : List Env) (env : Env) (σ : Store) (s : Shared) (E : Addr → Loc → Store → Prop) (e : Value) (s' : Shared) : Prop
  | mk (a : Addr) (ρ' : Loc) (σ' : Store) : e = .ref a → IsF B fr env ρ' σ' s' → ExtS env.locals σ s.heap σ' s'.heap → TB s.heap σ' s'.heap a → (∃ C d, σ' a = some (.exc true C d)) → E a ρ' σ' → ES B fr env σ s E e s'
/-- what stands behind a tree -/
inductive BhC {α β : Type} (B : Bs) (fr : List Env) (σ : Store) (h : Heap) (Rel : Heap → β → α → Prop) (Q : β → Store → Prop) (r : α) (s' : Shared) : Prop
  | mk (b : β) (σ' : Store) : Rel s'.heap b r → IsS B fr σ' s' → Ext σ h σ' s'.heap → Q b σ' → BhC B fr σ h Rel Q r s'
inductive BhF {α β : Type} (B : Bs) (fr : List Env) (env : Env) (ρ : Loc) (σ : Store) (h : Heap) (Rel : Heap → β → α → Prop) (Q : β → Store → Prop) (r : α) (s' : Shared) : Prop
  | mk (b : β) (σ' : Store) : Rel s'.heap b r → IsF B fr env ρ σ' s' → Ext σ h σ' s'.heap → Q b σ' → BhF B fr env ρ σ h Rel Q r s'
inductive BhS {α β : Type} (B : Bs) (fr : List Env) (env : Env) (σ : Store) (h : Heap) (Rel : Heap → β → α → Prop) (Q : β → Loc → Store → Prop) (r : α) (s' : Shared) : Prop
  | mk (b : β) (ρ' : Loc) (σ' : Store) : Rel s'.heap b r → IsF B fr env ρ' σ' s' → ExtS env.locals σ h σ' s'.heap → Q b ρ' σ' → BhS B fr env σ h Rel Q r s'
/-- a tree over values, no names -/
noncomputable def CW {α β : Type} (B : Bs) (c : Cx) (t : List Value → Sem α) (vs : List V) (σ : Store) (Rel : Heap → β → α → Prop) (Q : β → Store → Prop) (E : Addr → Store → Prop) : Prop :=
  ∀ A s cvs, AOk c A → IsS B c.fr σ s → VRs s.heap vs cvs →
    wpAny (model B.prog B.w) A (t cvs) (BhC B c.fr σ s.heap Rel Q) (EC B c.fr σ s E) s
/-- an expression's tree: the names stay -/
noncomputable def WE {α β : Type} (B : Bs) (c : Cx) (env : Env) (t : Sem α) (ρ : Loc) (σ : Store) (Rel : Heap → β → α → Prop) (Q : β → Store → Prop) (E : Addr → Store → Prop) : Prop :=
  ∀ A s, AOk c A → IsF B c.fr env ρ σ s →
    wpAny (model B.prog B.w) A t (BhF B c.fr env ρ σ s.heap Rel Q) (EF B c.fr env ρ σ s E) s
/-- a statement's tree -/
noncomputable def WS {α β : Type} (B : Bs) (c : Cx) (env : Env) (t : Sem α) (ρ : Loc) (σ : Store) (Rel : Heap → β → α → Prop) (Q : β → Loc → Store → Prop) (E : Addr → Loc → Store → Prop) : Prop :=
  ∀ A s, AOk c A → IsF B c.fr env ρ σ s →
    wpAny (model B.prog B.w) A t (BhS B c.fr env σ s.heap Rel Q) (ES B c.fr env σ s E) s
noncomputable def REq {α : Type} (_ : Heap) (b : α) (r : α) : Prop := b = r
inductive Fl where
  | next | brk | cont | ret (v : V)
inductive RFl (h : Heap) : Fl → Flow → Prop
  | next : RFl h .next .next
  | brk : RFl h .brk .brk
  | cont : RFl h .cont .cont
  | ret {v : V} {c : Value} : VR h v c → RFl h (.ret v) (.ret c)
theorem IsF.tup {B : Bs} {fr : List Env} {env : Env} {ρ : Loc} {σ σ' : Store} {s : Shared} {h' : Heap} (x : IsF B fr env ρ σ s) (e : Ext σ s.heap σ' h') : TupKeep s.heap h' := Ext.tup x.S e
theorem IsF.to {B : Bs} {fr : List Env} {env : Env} {ρ : Loc} {σ σ' : Store} {s s' : Shared} (x : IsF B fr env ρ σ s) (y : IsS B fr σ' s') (e : Ext σ s.heap σ' s'.heap) : IsF B fr env ρ σ' s' := by
  obtain ⟨m, hn, hm⟩ := x.loc
  obtain ⟨o, es, ep, ho, hd, hk, hf⟩ := hn
  obtain ⟨sl, ho'⟩ := e.keep _ _ ho x.offL
  refine ⟨y, ?_, x.newL, m, ⟨_, es, ep, ho', hd, hk, hf⟩, fun z v hz => ?_⟩
  · cases q : σ' env.locals with
    | none => rfl
    | some c =>
      rcases e.dom _ (show σ' env.locals ≠ none by rw [q]; simp) with z | z
      · exact absurd x.offL z
      · rw [ho] at z; cases z
  · obtain ⟨c, h1, h2⟩ := hm z v hz
    exact ⟨c, h1, h2.mono (x.tup e)⟩
theorem IsF.toks {B : Bs} {fr : List Env} {env : Env} {ρ : Loc} {σ : Store} {s : Shared} (x : IsF B fr env ρ σ s) (t : Nat) : IsF B fr env ρ σ { s with toks := t } := ⟨x.S.toks t, x.offL, x.newL, x.loc⟩
section
variable {α β : Type} {B : Bs} {c : Cx} {env : Env} {ρ : Loc} {σ σ₁ : Store} {s s₁ : Shared} {Rel : Heap → β → α → Prop} {A : Around}
theorem EF.trans {E : Addr → Store → Prop} {e : Value} {s' : Shared} (x : EF B c.fr env ρ σ₁ s₁ E e s') (y : Ext σ s.heap σ₁ s₁.heap) : EF B c.fr env ρ σ s E e s' := by
  obtain ⟨a, σ', h1, h2, h3, h4, h5, h6⟩ := x
  exact ⟨a, σ', h1, h2, y.trans h3, h4.earlier y.live, h5, h6⟩
theorem ES.trans {E : Addr → Loc → Store → Prop} {e : Value} {s' : Shared} (x : ES B c.fr env σ₁ s₁ E e s') (y : ExtS env.locals σ s.heap σ₁ s₁.heap) : ES B c.fr env σ s E e s' := by
  obtain ⟨a, ρ', σ', h1, h2, h3, h4, h5, h6⟩ := x
  exact ⟨a, ρ', σ', h1, h2, y.trans h3, h4.earlier y.live, h5, h6⟩
theorem EF.ofEC {E : Addr → Store → Prop} {e : Value} {s' : Shared} (x : EC B c.fr σ s E e s') (hs : IsF B c.fr env ρ σ s) : EF B c.fr env ρ σ s E e s' := by
  obtain ⟨a, σ', h1, h2, h3, h4, h5, h6⟩ := x
  exact ⟨a, σ', h1, hs.to h2 h3, h3, h4, h5, h6⟩
theorem ES.ofEF {E : Addr → Store → Prop} {E' : Addr → Loc → Store → Prop} {e : Value} {s' : Shared} (x : EF B c.fr env ρ σ s E e s') (h : ∀ a σ', E a σ' → E' a ρ σ') : ES B c.fr env σ s E' e s' := by
  obtain ⟨a, σ', h1, h2, h3, h4, h5, h6⟩ := x
  exact ⟨a, ρ, σ', h1, h2, h3.toS _, h4, h5, h _ _ h6⟩
theorem WE.run {t : Sem α} {Q : β → Store → Prop} {E : Addr → Store → Prop} {Qc : α → Shared → Prop} {Ec : Value → Shared → Prop} (H : WE B c env t ρ σ Rel Q E) (hA : AOk c A) (hs : IsF B c.fr env ρ σ s)
    (k : ∀ r s' b σ', Rel s'.heap b r → IsF B c.fr env ρ σ' s' → Ext σ s.heap σ' s'.heap → Q b σ' → Qc r s') (ke : ∀ e s', EF B c.fr env ρ σ s E e s' → Ec e s') : wpAny (model B.prog B.w) A t Qc Ec s :=
  wpAny_mono (H A s hA hs) (fun r s' ⟨b, σ', h1, h2, h3, h4⟩ => k r s' b σ' h1 h2 h3 h4) ke
theorem WS.run {t : Sem α} {Q : β → Loc → Store → Prop} {E : Addr → Loc → Store → Prop} {Qc : α → Shared → Prop} {Ec : Value → Shared → Prop} (H : WS B c env t ρ σ Rel Q E) (hA : AOk c A) (hs : IsF B c.fr env ρ σ s)
    (k : ∀ r s' b ρ' σ', Rel s'.heap b r → IsF B c.fr env ρ' σ' s' → ExtS env.locals σ s.heap σ' s'.heap → Q b ρ' σ' → Qc r s') (ke : ∀ e s', ES B c.fr env σ s E e s' → Ec e s') : wpAny (model B.prog B.w) A t Qc Ec s :=
  wpAny_mono (H A s hA hs) (fun r s' ⟨b, ρ', σ', h1, h2, h3, h4⟩ => k r s' b ρ' σ' h1 h2 h3 h4) ke
theorem CW.runS {t : List Value → Sem α} {vs : List V} {cvs : List Value} {Q : β → Store → Prop} {E : Addr → Store → Prop} {Qc : α → Shared → Prop} {Ec : Value → Shared → Prop} (H : CW B c t vs σ Rel Q E) (hA : AOk c A) (hs : IsS B c.fr σ s) (hv : VRs s.heap vs cvs)
    (k : ∀ r s' b σ', Rel s'.heap b r → IsS B c.fr σ' s' → Ext σ s.heap σ' s'.heap → Q b σ' → Qc r s') (ke : ∀ e s', EC B c.fr σ s E e s' → Ec e s') : wpAny (model B.prog B.w) A (t cvs) Qc Ec s :=
  wpAny_mono (H A s cvs hA hs hv) (fun r s' ⟨b, σ', h1, h2, h3, h4⟩ => k r s' b σ' h1 h2 h3 h4) ke
theorem CW.run {t : List Value → Sem α} {vs : List V} {cvs : List Value} {Q : β → Store → Prop} {E : Addr → Store → Prop} {Qc : α → Shared → Prop} {Ec : Value → Shared → Prop} (H : CW B c t vs σ Rel Q E) (hA : AOk c A) (hs : IsF B c.fr env ρ σ s) (hv : VRs s.heap vs cvs)
    (k : ∀ r s' b σ', Rel s'.heap b r → IsF B c.fr env ρ σ' s' → Ext σ s.heap σ' s'.heap → Q b σ' → Qc r s') (ke : ∀ e s', EF B c.fr env ρ σ s E e s' → Ec e s') : wpAny (model B.prog B.w) A (t cvs) Qc Ec s :=
  H.runS hA hs.S hv (fun r s' b σ' h1 h2 h3 h4 => k r s' b σ' h1 (hs.to h2 h3) h3 h4) fun e s' h => ke e s' (.ofEC h hs)
theorem WE.mono {t : Sem α} {Q Q' : β → Store → Prop} {E E' : Addr → Store → Prop} (H : WE B c env t ρ σ Rel Q E) (hQ : ∀ b σ', Q b σ' → Q' b σ') (hE : ∀ a σ', E a σ' → E' a σ') : WE B c env t ρ σ Rel Q' E' :=
  fun A s hA hs => H.run hA hs (fun r s' b σ' h1 h2 h3 h4 => ⟨b, σ', h1, h2, h3, hQ _ _ h4⟩) fun e s' ⟨a, σ', h1, h2, h3, h4, h5, h6⟩ => ⟨a, σ', h1, h2, h3, h4, h5, hE _ _ h6⟩
theorem CW.mono {t : List Value → Sem α} {vs : List V} {Q Q' : β → Store → Prop} {E E' : Addr → Store → Prop} (H : CW B c t vs σ Rel Q E) (hQ : ∀ b σ', Q b σ' → Q' b σ') (hE : ∀ a σ', E a σ' → E' a σ') : CW B c t vs σ Rel Q' E' :=
  fun A s cvs hA hs hv => H.runS hA hs hv (fun r s' b σ' h1 h2 h3 h4 => ⟨b, σ', h1, h2, h3, hQ _ _ h4⟩) fun e s' ⟨a, σ', h1, h2, h3, h4, h5, h6⟩ => ⟨a, σ', h1, h2, h3, h4, h5, hE _ _ h6⟩
theorem WS.mono {t : Sem α} {Q Q' : β → Loc → Store → Prop} {E E' : Addr → Loc → Store → Prop} (H : WS B c env t ρ σ Rel Q E) (hQ : ∀ b ρ' σ', Q b ρ' σ' → Q' b ρ' σ') (hE : ∀ a ρ' σ', E a ρ' σ' → E' a ρ' σ') : WS B c env t ρ σ Rel Q' E' :=
  fun A s hA hs => H.run hA hs (fun r s' b ρ' σ' h1 h2 h3 h4 => ⟨b, ρ', σ', h1, h2, h3, hQ _ _ _ h4⟩) fun e s' ⟨a, ρ', σ', h1, h2, h3, h4, h5, h6⟩ => ⟨a, ρ', σ', h1, h2, h3, h4, h5, hE _ _ _ h6⟩
end
/-- two-argument trees over values -/
noncomputable def op1 {α : Type} (g : Value → Sem α) : List Value → Sem α
  | [a] => g a
  | _ => unsupported ""
noncomputable def op2 {α : Type} (g : Value → Value → Sem α) : List Value → Sem α
  | [a, b] => g a b
  | _ => unsupported ""
noncomputable def op3 {α : Type} (g : Value → Value → Value → Sem α) : List Value → Sem α
  | [a, b, d] => g a b d
  | _ => unsupported ""
section
variable {B : Bs} {c : Cx} {env : Env} {ρ : Loc} {σ : Store} {Q : V → Store → Prop} {E : Addr → Store → Prop}
noncomputable abbrev Wx (B : Bs) (c : Cx) (env : Env) (e : Expr) (ρ : Loc) (σ : Store) (Q : V → Store → Prop) (E : Addr → Store → Prop) : Prop := WE B c env (eval e env) ρ σ VR Q E
noncomputable abbrev Wt (B : Bs) (c : Cx) (env : Env) (e : Expr) (ρ : Loc) (σ : Store) (Q : Bool → Store → Prop) (E : Addr → Store → Prop) : Prop := WE B c env (isTrue e env (eval e env)) ρ σ REq Q E
noncomputable abbrev Wl (B : Bs) (c : Cx) (env : Env) (pos : Pos) (es : List Expr) (ρ : Loc) (σ : Store) (Q : List V → Store → Prop) (E : Addr → Store → Prop) : Prop := WE B c env (spliced (backTo pos (starEach es env))) ρ σ VRs Q E
/-- what is still to do, named -/
noncomputable abbrev K1 {α β : Type} (B : Bs) (c : Cx) (g : Value → Sem α) (Rel : Heap → β → α → Prop) (Q : β → Store → Prop) (E : Addr → Store → Prop) : V → Store → Prop := fun a σ₁ => CW B c (op1 g) [a] σ₁ Rel Q E
noncomputable abbrev K2 {α β : Type} (B : Bs) (c : Cx) (g : Value → Value → Sem α) (a : V) (Rel : Heap → β → α → Prop) (Q : β → Store → Prop) (E : Addr → Store → Prop) : V → Store → Prop := fun b σ₂ => CW B c (op2 g) [a, b] σ₂ Rel Q E
noncomputable abbrev Kx2 {α β : Type} (B : Bs) (c : Cx) (env : Env) (r : Expr) (ρ : Loc) (g : Value → Value → Sem α) (Rel : Heap → β → α → Prop) (Q : β → Store → Prop) (E : Addr → Store → Prop) : V → Store → Prop := fun a σ₁ => Wx B c env r ρ σ₁ (K2 B c g a Rel Q E) E
noncomputable abbrev KLc (v : V) (Q : List V → Store → Prop) : List V → Store → Prop := fun vs σ₂ => Q (v :: vs) σ₂
noncomputable abbrev KL (B : Bs) (c : Cx) (env : Env) (pos : Pos) (r : List Expr) (ρ : Loc) (Q : List V → Store → Prop) (E : Addr → Store → Prop) : V → Store → Prop := fun v σ₁ => Wl B c env pos r ρ σ₁ (KLc v Q) E
theorem Wx_none {k pos} (h : Q .none σ) : Wx B c env (.Constant .none k pos) ρ σ Q E := fun _ s _ hs => wpAny_Constant_none ⟨.none, σ, .none, hs, .refl .., h⟩
theorem Wx_bool {b k pos} (h : Q (.bool b) σ) : Wx B c env (.Constant (.bool b) k pos) ρ σ Q E := fun _ s _ hs => wpAny_Constant_bool ⟨.bool b, σ, .bool b, hs, .refl .., h⟩
theorem Wx_int {i k pos} (h : Q (.int i) σ) : Wx B c env (.Constant (.int i) k pos) ρ σ Q E := fun _ s _ hs => wpAny_Constant_int ⟨.int i, σ, .int i _, hs.toks _, .refl .., h⟩
theorem Wx_str {x k pos} (h : Q (.str x) σ) : Wx B c env (.Constant (.str x) k pos) ρ σ Q E := fun _ s _ hs => wpAny_Constant_str ⟨.str x, σ, .str x _, hs.toks _, .refl .., h⟩
theorem Wx_local {x : Str} {pos : Pos} {v : V} (e : getL x ρ = some v) (h : Q v σ) (hk : env.scope.kind = .function) (hl : env.kindOf x = some .local) (hd : (x == ("__debug__" : Str)) = false) :
    Wx B c env (.Name x pos) ρ σ Q E := fun _ s _ hs => by
  obtain ⟨m, hn, hm⟩ := hs.loc
  obtain ⟨cv, h1, h2⟩ := hm x v e
  exact wpAny_Name (wpAny_loadName_local hk hl hn h1 ⟨v, σ, h2, hs, .refl .., h⟩) hd
theorem Wx_global {x : Str} {pos : Pos} {v : V} {cv : Value} (e : nsIn B.K mainGlobals x = some (some cv)) (hv : ∀ h, VR h v cv) (h : Q v σ) (hk : env.scope.kind = .function) (hl : env.kindOf x = some .globalImplicit) (hg : env.globals = mainGlobals) (hd : (x == ("__debug__" : Str)) = false) :
    Wx B c env (.Name x pos) ρ σ Q E := fun _ s _ hs => by
  refine Calls.Name_function_global hk hl (Calls.loadGlobal_global (mg := B.mg) ?_ (mg_of B.X B.T.g e) ⟨v, σ, hv _, hs, .refl .., h⟩) hd
  rw [hg]; exact B.T.g.keeps hs.S.stays
theorem Wx_builtin {x : Str} {pos : Pos} {v : V} {cv : Value} (e : nsIn B.K mainGlobals x = some none) (hb : bootBuiltins x = some cv) (hn : x ≠ "__name__") (hv : ∀ h, VR h v cv) (h : Q v σ) (hk : env.scope.kind = .function) (hl : env.kindOf x = some .globalImplicit) (hg : env.globals = mainGlobals) (hbn : env.builtins = builtinsNs) (hd : (x == ("__debug__" : Str)) = false) :
    Wx B c env (.Name x pos) ρ σ Q E := fun _ s _ hs => by
  refine Calls.Name_function_global hk hl (Calls.loadGlobal_builtin (mg := B.mg) (mb := B.mb) ?_ (mg_none_of B.X B.T.g e) ?_ ((B.T.builtins x hn).trans hb) ⟨v, σ, hv _, hs, .refl .., h⟩) hd
  · rw [hg]; exact B.T.g.keeps hs.S.stays
  · rw [hbn]; exact B.T.b.keeps hs.S.stays
theorem Wx_BinOp {l r : Expr} {op : Operator} {pos : Pos} (h : Wx B c env l ρ σ (Kx2 B c env r ρ (binaryOp op) VR Q E) E) : Wx B c env (.BinOp l op r pos) ρ σ Q E :=
  fun A s hA hs => wpAny_BinOp (h.run hA hs (fun ra s₁ a σ₁ va hs₁ e₁ H => H.run hA hs₁ (fun rb s₂ b σ₂ vb hs₂ e₂ H₂ =>
    H₂.run (cvs := [ra, rb]) hA hs₂ (.cons (va.mono (hs₁.tup e₂)) (.cons vb .nil)) (fun r s₃ v σ₃ hv hs₃ e₃ q => ⟨v, σ₃, hv, hs₃, e₁.trans (e₂.trans e₃), q⟩) fun e s' x => x.trans (e₁.trans e₂)) fun e s' x => x.trans e₁) fun _ _ x => x)
theorem Wx_UnaryOp {x : Expr} {op : UnaryOp} {pos : Pos} (h : Wx B c env x ρ σ (K1 B c (unaryOp op) VR Q E) E) : Wx B c env (.UnaryOp op x pos) ρ σ Q E :=
  fun A s hA hs => wpAny_UnaryOp (h.run hA hs (fun ra s₁ a σ₁ va hs₁ e₁ H => H.run (cvs := [ra]) hA hs₁ (.cons va .nil) (fun r s₃ v σ₃ hv hs₃ e₃ q => ⟨v, σ₃, hv, hs₃, e₁.trans e₃, q⟩) fun e s' x => x.trans e₁) fun _ _ x => x)
theorem Wx_Compare {l r : Expr} {op : CmpOp} {pos : Pos} (h : Wx B c env l ρ σ (Kx2 B c env r ρ (compareOp op) VR Q E) E) (hm : behindInMarks op r = false) : Wx B c env (.Compare l [op] [r] pos) ρ σ Q E :=
  fun A s hA hs => wpAny_Compare1 (h.run hA hs (fun ra s₁ a σ₁ va hs₁ e₁ H => H.run hA hs₁ (fun rb s₂ b σ₂ vb hs₂ e₂ H₂ =>
    H₂.run (cvs := [ra, rb]) hA hs₂ (.cons (va.mono (hs₁.tup e₂)) (.cons vb .nil)) (fun r s₃ v σ₃ hv hs₃ e₃ q => ⟨v, σ₃, hv, hs₃, e₁.trans (e₂.trans e₃), q⟩) fun e s' x => x.trans (e₁.trans e₂)) fun e s' x => x.trans e₁) fun _ _ x => x) hm
theorem Wx_IfExp {t b o : Expr} {pos : Pos} (h : Wt B c env t ρ σ (fun d σ₁ => (d = true → Wx B c env b ρ σ₁ Q E) ∧ (d = false → Wx B c env o ρ σ₁ Q E)) E) : Wx B c env (.IfExp t b o pos) ρ σ Q E :=
  fun A s hA hs => wpAny_IfExp (h.run hA hs (fun ra s₁ d σ₁ va hs₁ e₁ H => by
    have va : d = ra := va
    subst va
    cases d with
    | true => exact (H.1 rfl).run hA hs₁ (fun r s₃ v σ₃ hv hs₃ e₃ q => ⟨v, σ₃, hv, hs₃, e₁.trans e₃, q⟩) fun e s' x => x.trans e₁
    | false => exact (H.2 rfl).run hA hs₁ (fun r s₃ v σ₃ hv hs₃ e₃ q => ⟨v, σ₃, hv, hs₃, e₁.trans e₃, q⟩) fun e s' x => x.trans e₁) fun _ _ x => x)
theorem Wt_plain {e : Expr} {Q : Bool → Store → Prop} (h : Wx B c env e ρ σ (K1 B c truthy REq Q E) E) (he : isTrue e env (eval e env) = (do let v ← eval e env; standAt e.pos; holding [v] (truthy v)) := by rfl) : Wt B c env e ρ σ Q E :=
  fun A s hA hs => wpAny_isTrue_value (h.run hA hs (fun ra s₁ a σ₁ va hs₁ e₁ H => H.run (cvs := [ra]) hA hs₁ (.cons va .nil) (fun r s₃ v σ₃ hv hs₃ e₃ q => ⟨v, σ₃, hv, hs₃, e₁.trans e₃, q⟩) fun e s' x => x.trans e₁) fun _ _ x => x) he
theorem Wt_Not {x : Expr} {pos : Pos} {Q : Bool → Store → Prop} (h : Wt B c env x ρ σ (fun b σ₁ => Q (!b) σ₁) E) : Wt B c env (.UnaryOp .Not x pos) ρ σ Q E :=
  fun A s hA hs => wpAny_isTrue_Not (h.run hA hs (fun ra s₁ a σ₁ va hs₁ e₁ H => ⟨!a, σ₁, congrArg _ va, hs₁, e₁, H⟩) fun _ _ x => x)
theorem Wt_Compare {l r : Expr} {op : CmpOp} {pos : Pos} {Q : Bool → Store → Prop} (h : Wx B c env l ρ σ (Kx2 B c env r ρ (compareOp op) VR (K1 B c truthy REq Q E) E) E) (hm : behindInMarks op r = false) : Wt B c env (.Compare l [op] [r] pos) ρ σ Q E :=
  fun A s hA hs => wpAny_isTrue_Compare1 (h.run hA hs (fun ra s₁ a σ₁ va hs₁ e₁ H => H.run hA hs₁ (fun rb s₂ b σ₂ vb hs₂ e₂ H₂ =>
    H₂.run (cvs := [ra, rb]) hA hs₂ (.cons (va.mono (hs₁.tup e₂)) (.cons vb .nil)) (fun r s₃ v σ₃ hv hs₃ e₃ q => q.run (cvs := [r]) hA hs₃ (.cons hv .nil) (fun r s₄ v σ₄ hv hs₄ e₄ q => ⟨v, σ₄, hv, hs₄, e₁.trans (e₂.trans (e₃.trans e₄)), q⟩)
      fun e s' x => x.trans (e₁.trans (e₂.trans e₃))) fun e s' x => x.trans (e₁.trans e₂)) fun e s' x => x.trans e₁) fun _ _ x => x) hm
theorem Wt_And {x y : Expr} {rest : List Expr} {pos : Pos} {whole : Sem Value} {Q : Bool → Store → Prop} (h : Wt B c env x ρ σ (fun b σ₁ => (b = true → WE B c env (allTrue .And (y :: rest) env) ρ σ₁ REq Q E) ∧ (b = false → Q false σ₁)) E) : WE B c env (isTrue (.BoolOp .And (x :: y :: rest) pos) env whole) ρ σ REq Q E :=
  fun A s hA hs => wpAny_isTrue_BoolOp (wpAny_allTrue_And_cons (h.run hA hs (fun ra s₁ d σ₁ va hs₁ e₁ H => by
    have va : d = ra := va
    subst va
    cases d with
    | true => exact (H.1 rfl).run hA hs₁ (fun r s₃ v σ₃ hv hs₃ e₃ q => ⟨v, σ₃, hv, hs₃, e₁.trans e₃, q⟩) fun e s' x => x.trans e₁
    | false => exact ⟨false, σ₁, rfl, hs₁, e₁, H.2 rfl⟩) fun _ _ x => x))
theorem Wa_And_one {x : Expr} {Q : Bool → Store → Prop} (h : Wt B c env x ρ σ Q E) : WE B c env (allTrue .And [x] env) ρ σ REq Q E :=
  fun A s hA hs => wpAny_allTrue_And_cons (h.run hA hs (fun ra s₁ d σ₁ va hs₁ e₁ H => by
    have va : d = ra := va
    subst va
    cases d with
    | true => exact wpAny_allTrue_And_nil ⟨true, σ₁, rfl, hs₁, e₁, H⟩
    | false => exact ⟨false, σ₁, rfl, hs₁, e₁, H⟩) fun _ _ x => x)
theorem Wt_Or {x y : Expr} {rest : List Expr} {pos : Pos} {whole : Sem Value} {Q : Bool → Store → Prop} (h : Wt B c env x ρ σ (fun b σ₁ => (b = false → WE B c env (allTrue .Or (y :: rest) env) ρ σ₁ REq Q E) ∧ (b = true → Q true σ₁)) E) : WE B c env (isTrue (.BoolOp .Or (x :: y :: rest) pos) env whole) ρ σ REq Q E :=
  fun A s hA hs => wpAny_isTrue_BoolOp (wpAny_allTrue_Or_cons (h.run hA hs (fun ra s₁ d σ₁ va hs₁ e₁ H => by
    have va : d = ra := va
    subst va
    cases d with
    | false => exact (H.1 rfl).run hA hs₁ (fun r s₃ v σ₃ hv hs₃ e₃ q => ⟨v, σ₃, hv, hs₃, e₁.trans e₃, q⟩) fun e s' x => x.trans e₁
    | true => exact ⟨true, σ₁, rfl, hs₁, e₁, H.2 rfl⟩) fun _ _ x => x))
theorem Wa_Or_cons {x y : Expr} {rest : List Expr} {Q : Bool → Store → Prop} (h : Wt B c env x ρ σ (fun b σ₁ => (b = false → WE B c env (allTrue .Or (y :: rest) env) ρ σ₁ REq Q E) ∧ (b = true → Q true σ₁)) E) : WE B c env (allTrue .Or (x :: y :: rest) env) ρ σ REq Q E :=
  fun A s hA hs => wpAny_allTrue_Or_cons (h.run hA hs (fun ra s₁ d σ₁ va hs₁ e₁ H => by
    have va : d = ra := va
    subst va
    cases d with
    | false => exact (H.1 rfl).run hA hs₁ (fun r s₃ v σ₃ hv hs₃ e₃ q => ⟨v, σ₃, hv, hs₃, e₁.trans e₃, q⟩) fun e s' x => x.trans e₁
    | true => exact ⟨true, σ₁, rfl, hs₁, e₁, H.2 rfl⟩) fun _ _ x => x)
theorem Wa_Or_one {x : Expr} {Q : Bool → Store → Prop} (h : Wt B c env x ρ σ Q E) : WE B c env (allTrue .Or [x] env) ρ σ REq Q E :=
  fun A s hA hs => wpAny_allTrue_Or_cons (h.run hA hs (fun ra s₁ d σ₁ va hs₁ e₁ H => by
    have va : d = ra := va
    subst va
    cases d with
    | false => exact wpAny_allTrue_Or_nil ⟨false, σ₁, rfl, hs₁, e₁, H⟩
    | true => exact ⟨true, σ₁, rfl, hs₁, e₁, H⟩) fun _ _ x => x)
theorem Wl_nil {pos : Pos} {Q : List V → Store → Prop} (h : Q [] σ) : Wl B c env pos [] ρ σ Q E := fun _ s _ hs => spliced_none ⟨[], σ, .nil, hs, .refl .., h⟩
theorem Wl_cons {e : Expr} {rest : List Expr} {pos : Pos} {Q : List V → Store → Prop} (h : Wx B c env e ρ σ (KL B c env pos rest ρ Q E) E) (he : starEach (e :: rest) env = (false, eval e env) :: starEach rest env) :
    Wl B c env pos (e :: rest) ρ σ Q E :=
  fun A s hA hs => spliced_more (h.run hA hs (fun ra s₁ a σ₁ va hs₁ e₁ H => H.run hA hs₁ (fun rb s₂ b σ₂ vb hs₂ e₂ H₂ => ⟨a :: b, σ₂, .cons (va.mono (hs₁.tup e₂)) vb, hs₂, e₁.trans e₂, H₂⟩) fun e s' x => x.trans e₁) fun _ _ x => x) he
end
end Mine.Internal
end
section
open PySem PySem.W PyProof.Rows
namespace Mine.Internal
theorem keeps_tup {h h' : Heap} (k : ∀ b o, h.get? b = some o → h'.get? b = some o) : TupKeep h h' := fun _ o e _ => ⟨o.slots, k _ _ e, fun _ => rfl⟩
theorem keeps_ext {h h' : Heap} (k : ∀ b o, h.get? b = some o → h'.get? b = some o) (σ : Store) : Ext σ h σ h' :=
  ⟨fun a o _ e _ _ => k _ _ e, fun a e => by
    cases q : h.get? a with
    | none => rfl
    | some o => (rw [k _ _ q] at e; cases e), fun a o e _ => ⟨o.slots, k _ _ e⟩, fun _ h => .inl h⟩
theorem funFrames_step {h h' base : Heap} (k : ∀ b o, h.get? b = some o → (∀ vs, o.data ≠ .fields vs) → ∃ o', h'.get? b = some o' ∧ ∀ vs, o'.data ≠ .fields vs) : ∀ {l : List Env}, h.FunFrames base l → h'.FunFrames base l
  | [], _ => trivial
  | _ :: _, ⟨hk, ⟨L, o, hf, hn, ho, hd⟩, hr⟩ => let ⟨o', ho', hd'⟩ := k L o ho hd; ⟨hk, ⟨L, o', hf, hn, ho', hd'⟩, funFrames_step k hr⟩
section
variable {B : Bs} {c : Cx} {env : Env} {ρ : Loc} {σ : Store} {Q : V → Store → Prop} {E : Addr → Store → Prop}
/-- a heap that grew: no cell touched -/
theorem IsS.grown {fr : List Env} {s : Shared} {h' : Heap} (x : IsS B fr σ s) (k : ∀ b o, s.heap.get? b = some o → h'.get? b = some o) (t : Nat) : IsS B fr σ { s with heap := h', toks := t } ∧ Ext σ s.heap σ h' :=
  ⟨⟨fun b o e => k _ _ (x.stays b o e), x.frames.of_keeps fun b o e _ => ⟨o, k _ _ e, rfl⟩, x.off, x.new, fun a c e => by
    have z := x.cells a c e
    obtain ⟨o', ho, _⟩ := z.there
    exact z.mono ((k _ _ ho).trans ho.symm) (keeps_tup k), x.gens, x.drawn, x.os⟩, keeps_ext k σ⟩
theorem IsF.grown {fr : List Env} {s : Shared} {h' : Heap} (x : IsF B fr env ρ σ s) (k : ∀ b o, s.heap.get? b = some o → h'.get? b = some o) (t : Nat) : IsF B fr env ρ σ { s with heap := h', toks := t } ∧ Ext σ s.heap σ h' :=
  let ⟨a, b⟩ := x.S.grown k t
  ⟨x.to (s' := { s with heap := h', toks := t }) a b, b⟩
theorem extBut_size {h h' : Heap} (e : Heap.ExtBut h.objs.size h h') : ∀ b o, h.get? b = some o → h'.get? b = some o := fun b o q => e b o (Nat.ne_of_lt (Heap.lt_size q)) q
/-- a name is stored -/
theorem IsF.store {fr : List Env} {s : Shared} (x : IsF B fr env ρ σ s) {y : Str} {v : V} {cv : Value} (hv : VR s.heap v cv) {m : Str → Option Value} (hm : ∀ x v, getL x ρ = some v → ∃ c, m x = some c ∧ VR s.heap v c) (hn0 : s.heap.Ns env.locals m)
    {h' : Heap} (hn : h'.Ns env.locals (fun z => if z = y then some cv else m z)) (hs : Heap.SameBut env.locals s.heap h') (t : Nat) : IsF B fr env (setL y v ρ) σ { s with heap := h', toks := t } ∧ ExtS env.locals σ s.heap σ h' := by
  have hn1 := hn
  obtain ⟨oL, es, ep, hL, hd, hk, hf⟩ := hn0
  obtain ⟨oL', es', ep', hL', hd', hk', hf'⟩ := hn
  have ke : TupKeep s.heap h' := SameBut.tup hs (fun o e => x.noFz e)
  refine ⟨⟨⟨fun b o e => ?_, ?_, x.S.off, x.S.new, fun a c e => ?_, x.S.gens, x.S.drawn, x.S.os⟩, x.offL, x.newL, _, hn1, fun z u hz => ?_⟩, fun a o vs n e _ _ => (hs.2 a n).trans e, fun a e => ?_, fun a o n e _ => ?_, fun _ h => .inl h⟩
  · have : b ≠ env.locals := fun q => by rw [q, x.newL] at e; cases e
    exact (hs.2 b this).trans (x.S.stays b o e)
  · refine funFrames_step (fun b o e hnf => ?_) x.S.frames
    by_cases q : b = env.locals
    · subst q
      exact ⟨oL', hL', fun vs z => by rw [hd'] at z; cases z⟩
    · exact ⟨o, (hs.2 b q).trans e, hnf⟩
  · have z := x.S.cells a c e
    have : a ≠ env.locals := fun q => by rw [q, x.offL] at e; cases e
    exact z.mono (hs.2 a this) ke
  · rw [getL_setL] at hz
    by_cases q : z = y
    · rw [if_pos q] at hz; cases hz; exact ⟨cv, if_pos q, hv.mono ke⟩
    · rw [if_neg q] at hz
      obtain ⟨c, h1, h2⟩ := hm z u hz
      exact ⟨c, (if_neg q).trans h1, h2.mono ke⟩
  · by_cases q : a = env.locals
    · subst q; rw [hL'] at e; cases e
    · rw [← hs.2 a q]; exact e
  · exact ⟨o.slots, (hs.2 a n).trans e⟩
structure EnvOK (env : Env) : Prop where
  kind : env.scope.kind = .function
  glob : env.globals = mainGlobals
  bns : env.builtins = builtinsNs
theorem store_run {A : Around} {s : Shared} {x : Str} {v : V} {cv : Value} {Qc : Unit → Shared → Prop} {Ec : Value → Shared → Prop} {fr : List Env} (ok : EnvOK env) (hs : IsF B fr env ρ σ s) (hv : VR s.heap v cv) (hl : env.kindOf x = some .local)
    (k : ∀ s', IsF B fr env (setL x v ρ) σ s' → ExtS env.locals σ s.heap σ s'.heap → Qc () s') : wpAny (model B.prog B.w) A (storeName env x cv) Qc Ec s := by
  obtain ⟨m, hn, hm⟩ := hs.loc
  refine wpAny_storeName_local hl hn (fun h' hn' hsb => ?_) (by rw [ok.kind]; rfl)
  obtain ⟨a, b⟩ := hs.store hv hm hn hn' hsb (s.toks + 1)
  exact k _ a b
noncomputable abbrev Ws (B : Bs) (c : Cx) (env : Env) (st : Stmt) (ρ : Loc) (σ : Store) (Q : Fl → Loc → Store → Prop) (E : Addr → Loc → Store → Prop) : Prop := WS B c env (exec st env) ρ σ RFl Q E
noncomputable abbrev Wss (B : Bs) (c : Cx) (env : Env) (l : List Stmt) (ρ : Loc) (σ : Store) (Q : Fl → Loc → Store → Prop) (E : Addr → Loc → Store → Prop) : Prop := WS B c env (execs l env) ρ σ RFl Q E
end
section
variable {B : Bs} {c : Cx} {env : Env} {ρ : Loc} {σ : Store} {Q : Fl → Loc → Store → Prop} {E : Addr → Loc → Store → Prop}
noncomputable abbrev EK (E : Addr → Loc → Store → Prop) (ρ : Loc) : Addr → Store → Prop := fun a σ₁ => E a ρ σ₁
noncomputable abbrev KR (Q : Fl → Loc → Store → Prop) (ρ : Loc) : V → Store → Prop := fun v σ₁ => Q (.ret v) ρ σ₁
noncomputable abbrev KX (Q : Fl → Loc → Store → Prop) (ρ : Loc) : V → Store → Prop := fun v σ₁ => Q .next ρ σ₁
noncomputable abbrev KU {α : Type} (Q : Fl → Loc → Store → Prop) (ρ : Loc) : α → Store → Prop := fun _ σ₃ => Q .next ρ σ₃
noncomputable abbrev Kat1 (B : Bs) (c : Cx) (attr : Str) (v : V) (ρ : Loc) (Q : Fl → Loc → Store → Prop) (E : Addr → Loc → Store → Prop) : V → Store → Prop := fun ov σ₂ => CW B c (op2 fun ov v => setAttr ov attr v) [ov, v] σ₂ REq (KU Q ρ) (EK E ρ)
noncomputable abbrev Kat2 (B : Bs) (c : Cx) (env : Env) (o : Expr) (attr : Str) (ρ : Loc) (Q : Fl → Loc → Store → Prop) (E : Addr → Loc → Store → Prop) : V → Store → Prop := fun v σ₁ => Wx B c env o ρ σ₁ (Kat1 B c attr v ρ Q E) (EK E ρ)
noncomputable abbrev Ksb1 (B : Bs) (c : Cx) (ov v : V) (ρ : Loc) (Q : Fl → Loc → Store → Prop) (E : Addr → Loc → Store → Prop) : V → Store → Prop := fun iv σ₃ => CW B c (op3 setItem) [ov, iv, v] σ₃ REq (KU Q ρ) (EK E ρ)
noncomputable abbrev Ksb2 (B : Bs) (c : Cx) (env : Env) (i : Expr) (v : V) (ρ : Loc) (Q : Fl → Loc → Store → Prop) (E : Addr → Loc → Store → Prop) : V → Store → Prop := fun ov σ₂ => Wx B c env i ρ σ₂ (Ksb1 B c ov v ρ Q E) (EK E ρ)
noncomputable abbrev Ksb3 (B : Bs) (c : Cx) (env : Env) (o i : Expr) (ρ : Loc) (Q : Fl → Loc → Store → Prop) (E : Addr → Loc → Store → Prop) : V → Store → Prop := fun v σ₁ => Wx B c env o ρ σ₁ (Ksb2 B c env i v ρ Q E) (EK E ρ)
theorem Wss_nil (h : Q .next ρ σ) : Wss B c env [] ρ σ Q E := fun A s hA hs => wpAny_execs_nil ⟨.next, ρ, σ, .next, hs, .refl .., h⟩
noncomputable def after (B : Bs) (c : Cx) (env : Env) (rest : List Stmt) (Q : Fl → Loc → Store → Prop) (E : Addr → Loc → Store → Prop) : Fl → Loc → Store → Prop
  | .next, ρ, σ => Wss B c env rest ρ σ Q E
  | f, ρ, σ => Q f ρ σ
theorem Wss_cons {st : Stmt} {rest : List Stmt} (h : Ws B c env st ρ σ (after B c env rest Q E) E) : Wss B c env (st :: rest) ρ σ Q E :=
  fun A s hA hs => wpAny_execs_cons (h.run hA hs (fun r s₁ b ρ₁ σ₁ hr hs₁ e₁ q => by
    cases hr with
    | next => exact WS.run (B := B) (c := c) (Rel := RFl) q hA hs₁ (fun r s₂ b ρ₂ σ₂ hr hs₂ e₂ q => ⟨b, ρ₂, σ₂, hr, hs₂, e₁.trans e₂, q⟩) fun e s' x => x.trans e₁
    | brk => exact ⟨_, ρ₁, σ₁, .brk, hs₁, e₁, q⟩
    | cont => exact ⟨_, ρ₁, σ₁, .cont, hs₁, e₁, q⟩
    | ret hv => exact ⟨_, ρ₁, σ₁, .ret hv, hs₁, e₁, q⟩) fun _ _ x => x)
theorem Wss_one {st : Stmt} (h : Ws B c env st ρ σ Q E) : Wss B c env [st] ρ σ Q E :=
  Wss_cons (h.mono (fun b ρ' σ' q => by cases b <;> first | exact Wss_nil q | exact q) fun _ _ _ x => x)
theorem Ws_return {e : Expr} {pos : Pos} (h : Wx B c env e ρ σ (KR Q ρ) (EK E ρ)) : Ws B c env (.Return (some e) pos) ρ σ Q E :=
  fun A s hA hs => wpAny_Return_some (h.run hA hs (fun r s₁ v σ₁ hv hs₁ e₁ q => ⟨.ret v, ρ, σ₁, .ret hv, hs₁, e₁.toS _, q⟩) fun e s' x => .ofEF x fun _ _ y => y)
theorem Ws_assign {x : Str} {value : Expr} {pos' pos : Pos} (ok : EnvOK env) (h : Wx B c env value ρ σ (fun v σ₁ => Q .next (setL x v ρ) σ₁) (fun a σ₁ => E a ρ σ₁)) (hl : env.kindOf x = some .local)
    (hsw : swapsWith value (some (.Name x pos')) pos.line env = pure false) : Ws B c env (.Assign [.Name x pos'] value pos) ρ σ Q E :=
  fun A s hA hs => wpAny_Assign_Name (h.run hA hs (fun r s₁ v σ₁ hv hs₁ e₁ q => store_run ok hs₁ hv hl fun s₂ hs₂ e₂ => ⟨.next, _, σ₁, .next, hs₂, (e₁.toS _).trans e₂, q⟩) fun e s' x => .ofEF x fun _ _ y => y) hsw
theorem Ws_assign_attr {o value : Expr} {attr : Str} {pos' pos : Pos} (h : Wx B c env value ρ σ (Kat2 B c env o attr ρ Q E) (EK E ρ))
    (hsw : swapsWith value (some (.Attribute o attr pos')) pos.line env = pure false) : Ws B c env (.Assign [.Attribute o attr pos'] value pos) ρ σ Q E :=
  fun A s hA hs => plainObj_wpAny_Assign_Attribute (h.run hA hs (fun rv s₁ v σ₁ hv hs₁ e₁ H => H.run hA hs₁ (fun ro s₂ ov σ₂ ho hs₂ e₂ H₂ =>
    H₂.run (cvs := [ro, rv]) hA hs₂ (.cons ho (.cons (hv.mono (hs₁.tup e₂)) .nil)) (fun r s₃ v σ₃ hv hs₃ e₃ q => ⟨.next, ρ, σ₃, .next, hs₃, ((e₁.trans e₂).trans e₃).toS _, q⟩)
      fun e s' x => .ofEF (x.trans (e₁.trans e₂)) fun _ _ y => y) fun e s' x => .ofEF (x.trans e₁) fun _ _ y => y) fun e s' x => .ofEF x fun _ _ y => y) hsw
theorem Ws_assign_sub {o i value : Expr} {pos' pos : Pos} (h : Wx B c env value ρ σ (Ksb3 B c env o i ρ Q E) (EK E ρ))
    (hsw : swapsWith value (some (.Subscript o i pos')) pos.line env = pure false) : Ws B c env (.Assign [.Subscript o i pos'] value pos) ρ σ Q E :=
  fun A s hA hs => wpAny_Assign_Subscript (h.run hA hs (fun rv s₁ v σ₁ hv hs₁ e₁ H => H.run hA hs₁ (fun ro s₂ ov σ₂ ho hs₂ e₂ H₂ => H₂.run hA hs₂ (fun ri s₃ iv σ₃ hi hs₃ e₃ H₃ =>
    H₃.run (cvs := [ro, ri, rv]) hA hs₃ (.cons (ho.mono (hs₂.tup e₃)) (.cons hi (.cons ((hv.mono (hs₁.tup e₂)).mono (hs₂.tup e₃)) .nil))) (fun r s₃ v σ₃ hv hs₃ e₄ q => ⟨.next, ρ, σ₃, .next, hs₃, (((e₁.trans e₂).trans e₃).trans e₄).toS _, q⟩)
      fun e s' x => .ofEF (x.trans ((e₁.trans e₂).trans e₃)) fun _ _ y => y) fun e s' x => .ofEF (x.trans (e₁.trans e₂)) fun _ _ y => y) fun e s' x => .ofEF (x.trans e₁) fun _ _ y => y) fun e s' x => .ofEF x fun _ _ y => y) hsw
/-- the names of a tuple of targets, in order -/
noncomputable def setLs : List Str → List V → Loc → Loc
  | x :: xs, v :: vs, ρ => setLs xs vs (setL x v ρ)
  | _, _, ρ => ρ
theorem ExtS.tup {fr : List Env} {s s' : Shared} {σ' : Store} (hs : IsF B fr env ρ σ s) (e : ExtS env.locals σ s.heap σ' s'.heap) : TupKeep s.heap s'.heap := by
  intro a o ho hf
  have hn : σ a = none := by
    cases q : σ a with
    | none => rfl
    | some c => exact absurd hf ((hs.S.cells a c q).noFz o ho)
  have h2 : a ≠ env.locals := fun q => hs.noFz (q ▸ ho) hf
  by_cases hd : ∃ vs, o.data = .fields vs
  · obtain ⟨vs, hd⟩ := hd
    exact ⟨o.slots, e.fix a o vs h2 ho hd hn, fun _ => rfl⟩
  · obtain ⟨sl, z⟩ := e.keep a o h2 ho hn
    exact ⟨sl, z, fun q => absurd q hd⟩
theorem storeAll_run {fr : List Env} {A : Around} {Qc : Unit → Shared → Prop} {Ec : Value → Shared → Prop} (ok : EnvOK env) {names : List Str} {vs : List V} {cvs : List Value} {ρ : Loc} {s : Shared} (hs : IsF B fr env ρ σ s) (hv : VRs s.heap vs cvs) (hl : ∀ x ∈ names, env.kindOf x = some .local) (hlen : names.length = vs.length)
    (k : ∀ s', IsF B fr env (setLs names vs ρ) σ s' → ExtS env.locals σ s.heap σ s'.heap → Qc () s') : wpAny (model B.prog B.w) A (assignInOrder (names.map fun n => bindName env n) cvs) Qc Ec s := by
  induction names generalizing vs cvs ρ s with
  | nil => 
    obtain rfl := List.length_eq_zero_iff.mp hlen.symm
    exact hv.nil' (wpAny_pure (k s hs (.refl ..)))
  | cons x xs ih =>
    cases vs with
    | nil => cases hlen
    | cons v vs =>
      refine hv.cons' fun c r hv hr => ?_
      refine wpAny_assignInOrder_more ?_
      unfold bindName
      refine wpAny_bind (wpAny_holding (wpAny_point (wpAny_bind (store_run ok hs hv (hl x (.head _)) fun s₁ hs₁ e₁ => wpAny_point ?_))))
      exact ih hs₁ (hr.mono (ExtS.tup hs e₁)) (fun y hy => hl y (.tail _ hy)) (Nat.succ.inj hlen) fun s₂ hs₂ e₂ => k s₂ hs₂ (e₁.trans e₂)
end
end Mine.Internal
end
section
open PySem PySem.W PyProof.Rows
namespace Mine.Internal
section
variable {B : Bs} {fr : List Env} {σ : Store} {s : Shared}
/-- only what is new since h₀ was touched -/
structure Tch (h₀ h h' : Heap) : Prop where
  fix : ∀ a o vs, h₀.get? a ≠ none → h.get? a = some o → o.data = .fields vs → h'.get? a = some o
  live : ∀ a, h'.get? a = none → h.get? a = none
  keep : ∀ a o, h₀.get? a ≠ none → h.get? a = some o → ∃ sl, h'.get? a = some { o with slots := sl }
theorem Tch.trans {h₀ h h₁ h₂ : Heap} (x : Tch h₀ h h₁) (y : Tch h₀ h₁ h₂) : Tch h₀ h h₂ :=
  ⟨fun a o vs n e d => y.fix a o vs n (x.fix a o vs n e d) d, fun a e => x.live a (y.live a e), fun a o n e => let ⟨_, e1⟩ := x.keep a o n e; let ⟨sl, e2⟩ := y.keep a _ n e1; ⟨sl, e2⟩⟩
theorem Ext.tch {σ₀ : Store} {h₀ h h' : Heap} (x : Ext σ₀ h₀ σ h) (y : Tch h₀ h h') : Ext σ₀ h₀ σ h' :=
  ⟨fun a o vs e d n => y.fix a o vs (by rw [e]; simp) (x.fix a o vs e d n) d, fun a e => x.live a (y.live a e), fun a o e n => let ⟨_, e1⟩ := x.keep a o e n; let ⟨sl, e2⟩ := y.keep a _ (by rw [e]; simp) e1; ⟨sl, e2⟩, x.dom⟩
theorem ExtS.tch {L : Addr} {σ₀ : Store} {h₀ h h' : Heap} (x : ExtS L σ₀ h₀ σ h) (y : Tch h₀ h h') : ExtS L σ₀ h₀ σ h' :=
  ⟨fun a o vs l e d n => y.fix a o vs (by rw [e]; simp) (x.fix a o vs l e d n) d, fun a e => x.live a (y.live a e), fun a o l e n => let ⟨_, e1⟩ := x.keep a o l e n; let ⟨sl, e2⟩ := y.keep a _ (by rw [e]; simp) e1; ⟨sl, e2⟩, x.dom⟩
theorem Tch.ofKeeps {h₀ h h' : Heap} (k : ∀ b o, h.get? b = some o → h'.get? b = some o) : Tch h₀ h h' := ⟨fun a o _ _ e _ => k _ _ e, (keeps_ext k fun _ => none).live, fun a o _ e => ⟨o.slots, k _ _ e⟩⟩
theorem Tch.ofBut {h₀ h h' : Heap} {a : Addr} (n : h₀.get? a = none) (hs : Heap.SameBut a h h') (l : h'.get? a ≠ none) : Tch h₀ h h' :=
  ⟨fun b o _ m e _ => (hs.2 b fun q => m (q ▸ n)).trans e, fun b e => (by
    by_cases q : b = a
    · subst q; exact absurd e l
    · rw [← hs.2 b q]; exact e), fun b o m e => by
    have : b ≠ a := fun q => m (q ▸ n)
    exact ⟨o.slots, (hs.2 b this).trans e⟩⟩
theorem Tch.ofSlots {base h₀ h h' : Heap} {l : List Env} (f : h.FunFrames base l) (x : Heap.SlotsOnly (l.filterMap (·.frame)) h h') : Tch h₀ h h' :=
  ⟨fun a o vs _ e d => (x.2.1 a fun hm => by
    obtain ⟨_, o', ho', hnf⟩ := f.mem hm
    rw [e] at ho'; cases ho'; exact hnf vs d).trans e, fun a e => (by
    cases q : h.get? a with
    | none => rfl
    | some o => obtain ⟨sl, z⟩ := x.2.2 a o q; rw [z] at e; cases e), fun a o _ e => x.2.2 a o e⟩
theorem slots_tup {base h h' : Heap} {l : List Env} (f : h.FunFrames base l) (x : Heap.SlotsOnly (l.filterMap (·.frame)) h h') : TupKeep h h' := fun a o e _ => by
  by_cases hd : ∃ vs, o.data = .fields vs
  · obtain ⟨vs, hd⟩ := hd
    refine ⟨o.slots, (x.2.1 a fun hm => ?_).trans e, fun _ => rfl⟩
    obtain ⟨_, o', ho', hnf⟩ := f.mem hm
    rw [e] at ho'; cases ho'; exact hnf vs hd
  · obtain ⟨sl, z⟩ := x.2.2 a o e
    exact ⟨sl, z, fun q => absurd q hd⟩
theorem IsS.slots {h' : Heap} (x : IsS B fr σ s) (y : Heap.SlotsOnly (fr.filterMap (·.frame)) s.heap h') : IsS B fr σ { s with heap := h' } := by
  refine ⟨fun b o e => (y.2.1 b fun hm => ?_).trans (x.stays b o e), x.frames.of_slotsOnly y, x.off, x.new, fun a c e => ?_, x.gens, x.drawn, x.os⟩
  · rw [(x.frames.mem hm).1] at e; cases e
  · refine (x.cells a c e).mono (y.2.1 a fun hm => ?_) (slots_tup x.frames y)
    obtain ⟨env, he, hL⟩ := List.mem_filterMap.mp hm
    rw [x.off env he a hL] at e; cases e
theorem tb_noFz {o : Obj} (h : o.cls = .type "traceback") : ¬ Frozen o := fun ⟨f, _⟩ => by rw [h] at f; rcases f with f | f | f <;> exact absurd f (by decide)
/-- an object that no cell names is changed -/
theorem IsS.free {T : Addr} {oT : Obj} {ts : Array Value} {h' : Heap} (x : IsS B fr σ s) (hn : σ T = none) (hb : B.h₀.get? T = none) (hT : s.heap.get? T = some oT) (hd : oT.data = .fields ts) (hc : oT.cls = .type "traceback")
    (hs : Heap.SameBut T s.heap h') : IsS B fr σ { s with heap := h' } := by
  have k := SameBut.tup hs (fun o e => by rw [hT] at e; cases e; exact tb_noFz hc)
  refine ⟨fun b o e => ?_, ?_, x.off, x.new, fun a c e => ?_, x.gens, x.drawn, x.os⟩
  · have : b ≠ T := fun q => by rw [q, hb] at e; cases e
    exact (hs.2 b this).trans (x.stays b o e)
  · refine x.frames.of_keeps fun b o e hnf => ?_
    have : b ≠ T := fun q => by rw [q, hT] at e; cases e; exact hnf ts hd
    exact ⟨o, (hs.2 b this).trans e, rfl⟩
  · have : a ≠ T := fun q => by rw [q, hn] at e; cases e
    exact (x.cells a c e).mono (hs.2 a this) k
theorem set_same {a : Addr} {c : Cell} (h : σ a = some c) : σ.set a c = σ := by
  funext b
  by_cases q : b = a
  · subst q; rw [Store.set_self, h]
  · rw [Store.set_ne _ _ q]
/-- as TB, with a traceback for sure -/
noncomputable def TBs (h₀ : Heap) (σ : Store) (h : Heap) (a : Addr) : Prop := TB h₀ σ h a ∧ ∃ o vs T, h.get? a = some o ∧ o.data = .fields vs ∧ vs[1]? = some (.ref T)
theorem note_run {h₀ : Heap} {env : Env} {outer : List Env} {L a : Addr} {A : Around} {Qc : Unit → Shared → Prop} {Ec : Value → Shared → Prop} (hfr : A.frames = some (env :: outer)) (hf : env.frame = some L) (x : IsS B (env :: outer) σ s) (hb : B.h₀.StaysIn h₀) (hl : ∀ b, s.heap.get? b = none → h₀.get? b = none)
    (t : TB h₀ σ s.heap a) (n : ∃ C d, σ a = some (.exc true C d))
    (k : ∀ h', IsS B (env :: outer) σ { s with heap := h' } → Tch h₀ s.heap h' → TBs h₀ σ h' a → TupKeep s.heap h' → Qc () { s with heap := h' }) : wpAny (model B.prog B.w) A (noteFrame (.ref a) env) Qc Ec s := by
  obtain ⟨C, d, hc⟩ := n
  have base : ∀ b, h₀.get? b = none → B.h₀.get? b = none := fun b e => by
    cases q : B.h₀.get? b with
    | none => rfl
    | some o => rw [hb b o q] at e; cases e
  -- the new entry
  have fin : ∀ (s₁ : Shared) (oe : Obj) (vs : Array Value) (head : Value) (hadNext : Bool), IsS B (env :: outer) σ s₁ → (∃ h', s₁ = { s with heap := h' }) → Tch h₀ s.heap s₁.heap → TupKeep s.heap s₁.heap → s₁.heap.get? a = some oe → oe.data = .fields vs → 1 < vs.size → h₀.get? a = none →
      wpAny (model B.prog B.w) A (do let a1 ← frameOf env; let pl ← entryPlaceOf L hadNext; let b ← EntryCells.newEntry head a1 .none (rawInt L) .none pl; setField (.ref a) 1 b) Qc Ec s₁ := by
    intro s₁ oe vs head hadNext x₁ hh1 t₁ k₁ ho hd hsz hna
    refine cps fun P0 c0 => ?_
    obtain ⟨h1, rfl⟩ := hh1
    refine c0 ?_
    refine wpAny_bind (wpAny_frameOf_fun hfr x₁.frames hf fun h₂ hs₂ => ?_)
    have x₂ := x₁.slots hs₂
    refine wpAny_bind (wpAny_entryPlaceOf fun pl hpl => ?_)
    unfold EntryCells.newEntry newFields
    refine wpAny_bind (wpAny_newObj_type ?_ (hpl.sizeOk5 _ _ _ _ _))
    have hna' : a ∉ (env :: outer).filterMap (·.frame) := fun hm => by
      obtain ⟨_, o, ho', hnf⟩ := x₁.frames.mem hm
      rw [ho] at ho'; cases ho'; exact hnf vs hd
    have ho₂ : h₂.get? a = some oe := (hs₂.2.1 a hna').trans ho
    have ho₃ := Heap.get?_push_of_some (h := h₂) { cls := .type "traceback", dict := none, data := .fields ([head, .ref L, .none, rawInt L, .none] ++ (if pl.isEmpty then List.replicate 6 Value.none else pl)).toArray } ho₂
    refine wpAny_setField ho₃ hd hsz ?_
    refine cps fun P1 c1 => ?_
    obtain ⟨x₃, _⟩ := x₂.push { cls := .type "traceback", dict := none, data := .fields ([head, .ref L, .none, rawInt L, .none] ++ (if pl.isEmpty then List.replicate 6 Value.none else pl)).toArray }
    have hsb := Heap.SameBut.update (h₂.push { cls := .type "traceback", dict := none, data := .fields ([head, .ref L, .none, rawInt L, .none] ++ (if pl.isEmpty then List.replicate 6 Value.none else pl)).toArray }) a (Obj.mapFields (·.setIfInBounds 1 (Value.ref h₂.objs.size)))
    have hd₄ := Obj.data_mapFields hd (·.setIfInBounds 1 (Value.ref h₂.objs.size))
    have ho₄ := Heap.get?_update_self (Obj.mapFields (·.setIfInBounds 1 (Value.ref h₂.objs.size))) ho₃ (Obj.isFreed_of_fields hd₄)
    have hoe : ∃ sl, oe = ⟨.ref C, d, .fields vs, sl⟩ ∧ ∃ t0, vs[0]? = some (.ref t0) := by
      obtain ⟨vs', sl, e, _, z, _⟩ := x₁.cells a _ hc
      rw [ho] at e; cases e; cases hd; exact ⟨sl, rfl, z⟩
    obtain ⟨sl, rfl, t0, hz0⟩ := hoe
    have hz4 : ∃ t0, (vs.setIfInBounds 1 (Value.ref h₂.objs.size))[0]? = some (.ref t0) := ⟨t0, by rw [Array.getElem?_setIfInBounds_ne (by decide)]; exact hz0⟩
    obtain ⟨x₄, _⟩ := x₃.update (c' := .exc true C d) hc hsb (fun _ => ⟨_, sl, ho₄, by simpa using hsz, hz4, fun q => by cases q⟩) s.toks
    rw [set_same hc] at x₄
    have hTa : h₂.objs.size ≠ a := Nat.ne_of_gt (Heap.lt_size ho₂)
    have hT := (Heap.get?_update_other (h₂.push { cls := .type "traceback", dict := none, data := .fields ([head, .ref L, .none, rawInt L, .none] ++ (if pl.isEmpty then List.replicate 6 Value.none else pl)).toArray })
      (Obj.mapFields (·.setIfInBounds 1 (Value.ref h₂.objs.size))) (Ne.symm hTa)).trans (Heap.get?_push_size h₂ rfl)
    have tc : Tch h₀ s.heap ((h₂.push { cls := .type "traceback", dict := none, data := .fields ([head, .ref L, .none, rawInt L, .none] ++ (if pl.isEmpty then List.replicate 6 Value.none else pl)).toArray }).update a (Obj.mapFields (·.setIfInBounds 1 (Value.ref h₂.objs.size)))) :=
      ((t₁.trans (.ofSlots x₁.frames hs₂)).trans (.ofKeeps fun b o e => Heap.get?_push_of_some _ e)).trans (.ofBut hna hsb (by rw [ho₄]; simp))
    have hTn : h₀.get? h₂.objs.size = none := by
      have : h₂.get? h₂.objs.size = none := by
        cases q : h₂.get? h₂.objs.size with
        | none => rfl
        | some o => exact absurd (Heap.lt_size q) (Nat.lt_irrefl _)
      exact hl _ ((t₁.trans (.ofSlots x₁.frames hs₂)).live _ this)
    have hσT : σ h₂.objs.size = none := by
      cases q : σ h₂.objs.size with
      | none => rfl
      | some c => exact absurd (x₂.lt (a := h₂.objs.size) (by rw [q]; simp)) (Nat.lt_irrefl _)
    have kT : TupKeep s.heap _ := k₁.trans ((slots_tup x₁.frames hs₂).trans ((Heap.push_keep _).trans (SameBut.tup hsb (x₃.cells a _ hc).noFz)))
    refine c1 (k _ x₄ tc ⟨⟨hna, _, _, ho₄, hd₄, .inr ⟨h₂.objs.size, _, _, by simp [hsz], hTn, hσT, hTa, hT, rfl, ?_, rfl⟩⟩, _, _, h₂.objs.size, ho₄, hd₄, by simp [hsz]⟩ kT)
    simp only [List.size_toArray, List.length_append, List.length_cons, List.length_nil]; lia
  unfold noteFrame
  simp only [hf]
  refine cps fun P2 c2 => ?_
  obtain ⟨hna, o, vs, ho, hd, r⟩ := t
  rcases r with h1 | ⟨T, oT, ts, h1, hTn, hσT, hTa, hT, hdT, hsz, hcT⟩
  · refine c2 ?_
    refine wpAny_bind (wpAny_field ho hd h1 ?_)
    rw [if_neg (by decide)]
    exact fin s o vs _ _ x ⟨s.heap, rfl⟩ (.ofKeeps fun _ _ e => e) (.refl _) ho hd (Array.getElem?_eq_some_iff.mp h1).1 hna
  · refine c2 ?_
    refine wpAny_bind (wpAny_field ho hd h1 ?_)
    rw [if_pos (show (Value.ref T != Value.none) = true from by simp)]
    obtain ⟨v3, h3⟩ : ∃ v, ts[3]? = some v := ⟨_, Array.getElem?_eq_getElem hsz⟩
    refine wpAny_bind (wpAny_field hT hdT h3 ?_)
    by_cases q : (v3 == rawInt L) = true
    · rw [if_pos q]
      exact wpAny_pure (k s.heap x (.ofKeeps fun _ _ e => e) ⟨⟨hna, o, vs, ho, hd, .inr ⟨T, oT, ts, h1, hTn, hσT, hTa, hT, hdT, hsz, hcT⟩⟩, o, vs, T, ho, hd, h1⟩ (.refl _))
    · rw [if_neg q]
      have hsb := Heap.SameBut.update s.heap T (Obj.mapFields (·.setIfInBounds 3 Value.none))
      refine wpAny_bind (wpAny_setField hT hdT hsz ?_)
      have x₁ := x.free hσT (base T hTn) hT hdT hcT hsb
      have hT' := Heap.get?_update_self (Obj.mapFields (·.setIfInBounds 3 Value.none)) hT (Obj.isFreed_of_fields (Obj.data_mapFields hdT _))
      have kk : TupKeep s.heap (s.heap.update T (Obj.mapFields (·.setIfInBounds 3 Value.none))) := SameBut.tup hsb (fun o e => by rw [hT] at e; cases e; exact tb_noFz hcT)
      exact fin _ o vs _ _ x₁ ⟨_, rfl⟩ (.ofBut hTn hsb (by rw [hT']; simp)) kk ((hsb.2 a (Ne.symm hTa)).trans ho) hd (Array.getElem?_eq_some_iff.mp h1).1 hna
end
end Mine.Internal
end
section
open PySem PySem.W PyProof.Rows
namespace Mine.Internal
section
variable {B : Bs} {fr : List Env} {σ : Store} {s : Shared}
theorem flight_run {h₀ : Heap} {a : Addr} {A : Around} {f : Option Addr} {Qc : Unit → Shared → Prop} {Ec : Value → Shared → Prop} (x : IsS B fr σ s) (hb : B.h₀.StaysIn h₀)
    (t : TBs h₀ σ s.heap a)
    (k : ∀ h', IsS B fr σ { s with heap := h' } → Tch h₀ s.heap h' → TBs h₀ σ h' a → TupKeep s.heap h' → Qc () { s with heap := h' }) : wpAny (model B.prog B.w) A (setFlight (.ref a) f) Qc Ec s := by
  have base : ∀ b, h₀.get? b = none → B.h₀.get? b = none := fun b e => by
    cases q : B.h₀.get? b with
    | none => rfl
    | some o => rw [hb b o q] at e; cases e
  obtain ⟨⟨hna, o, vs, ho, hd, r⟩, o', vs', T', ho', hd', h1'⟩ := t
  rw [ho] at ho'; cases ho'
  rw [hd] at hd'; cases hd'
  rcases r with h1 | ⟨T, oT, ts, h1, hTn, hσT, hTa, hT, hdT, hsz, hcT⟩
  · rw [h1] at h1'; cases h1'
  unfold setFlight
  refine wpAny_bind (wpAny_field ho hd h1 ?_)
  rw [if_pos (show (Value.ref T != Value.none) = true from by simp)]
  have hsb := Heap.SameBut.update s.heap T (Obj.mapFields (·.setIfInBounds 3 (f.elim Value.none fun f => rawInt f)))
  have hdT' := Obj.data_mapFields hdT (·.setIfInBounds 3 (f.elim Value.none fun f => rawInt f))
  have hT' := Heap.get?_update_self (Obj.mapFields (·.setIfInBounds 3 (f.elim Value.none fun f => rawInt f))) hT (Obj.isFreed_of_fields hdT')
  refine wpAny_setField hT hdT hsz (k _ (x.free hσT (base T hTn) hT hdT hcT hsb) (.ofBut hTn hsb (by rw [hT']; simp)) ⟨⟨hna, o, vs, (hsb.2 a (Ne.symm hTa)).trans ho, hd, .inr ⟨T, _, _, h1, hTn, hσT, hTa, hT', hdT', by simpa using hsz, by rw [Obj.cls_mapFields]; exact hcT⟩⟩, o, vs, T, (hsb.2 a (Ne.symm hTa)).trans ho, hd, h1⟩
    (SameBut.tup hsb (fun o e => by rw [hT] at e; cases e; exact tb_noFz hcT)))
theorem IsF.tch {env : Env} {ρ : Loc} {h₀ h' : Heap} (x : IsF B fr env ρ σ s) (y : IsS B fr σ { s with heap := h' }) (t : Tch h₀ s.heap h') (hL : h₀.get? env.locals ≠ none) (k : TupKeep s.heap h') : IsF B fr env ρ σ { s with heap := h' } := by
  obtain ⟨m, ⟨o, es, ep, ho, hd, r⟩, hm⟩ := x.loc
  obtain ⟨sl, e⟩ := t.keep _ _ hL ho
  exact ⟨y, x.offL, x.newL, m, ⟨_, es, ep, e, hd, r⟩, fun z v hz => let ⟨c, h1, h2⟩ := hm z v hz; ⟨c, h1, h2.mono k⟩⟩
/-- an exception in flight passes the frame's own activations -/
theorem ES_passes {c : Cx} {env : Env} {outer : List Env} {A : Around} {s₀ : Shared} {σ₀ : Store} {ρ₀ : Loc} {E : Addr → Loc → Store → Prop} {e : Value} {s' : Shared} (hc : c.fr = env :: outer) (hf : env.frame = some env.locals) (hA : A.frames = some c.fr) (hs₀ : IsF B c.fr env ρ₀ σ₀ s₀)
    (x : ES B c.fr env σ₀ s₀ E e s') : notedBy (model B.prog B.w) A env (cameBackBy (model B.prog B.w) A env (ES B c.fr env σ₀ s₀ E)) e s' := by
  obtain ⟨a, ρ, σ', rfl, h2, h3, h4, h5, h6⟩ := x
  have hL : s₀.heap.get? env.locals ≠ none := by obtain ⟨m, ⟨o, _, _, ho, _⟩, _⟩ := hs₀.loc; rw [ho]; simp
  have hx := h2.S
  rw [hc] at hx hA
  refine note_run hA hf hx hs₀.S.stays h3.live h4 h5 fun h' y t tb k => ?_
  unfold cameBackBy
  obtain ⟨tb1, o, vs, T, ho, hd, h1⟩ := tb
  refine wpAny_bind (wpAny_field ho hd h1 ?_)
  rw [if_neg (by simp)]
  refine flight_run y hs₀.S.stays ⟨tb1, o, vs, T, ho, hd, h1⟩ fun h'' y' t' tb' k' => ?_
  have F1 := IsF.tch (s := s') (h' := h'') h2 (by rw [hc]; exact y') (t.trans t') hL (k.trans k')
  exact ⟨a, ρ, σ', rfl, F1, h3.tch (t.trans t'), tb'.1, h5, h6⟩
end
section
variable {B : Bs} {c : Cx} {env : Env} {ρ : Loc} {σ : Store} {Q : Fl → Loc → Store → Prop} {E : Addr → Loc → Store → Prop}
structure FrOK (c : Cx) (env : Env) : Prop where
  top : ∃ outer, c.fr = env :: outer
  own : env.frame = some env.locals
noncomputable def loopK (Q : Fl → Loc → Store → Prop) (K : Loc → Store → Prop) : Fl → Loc → Store → Prop
  | .next, ρ, σ => K ρ σ
  | .cont, ρ, σ => K ρ σ
  | .brk, ρ, σ => Q .next ρ σ
  | .ret v, ρ, σ => Q (.ret v) ρ σ
noncomputable def WhileN (B : Bs) (c : Cx) (env : Env) (test : Expr) (body : List Stmt) (Q : Fl → Loc → Store → Prop) (E : Addr → Loc → Store → Prop) : Nat → Loc → Store → Prop
  | 0, _, _ => False
  | n + 1, ρ, σ => Wt B c env test ρ σ (fun b σ₁ => (b = true → Wss B c env body ρ σ₁ (loopK Q (WhileN B c env test body Q E n)) E) ∧ (b = false → Q .next ρ σ₁)) (fun a σ₁ => E a ρ σ₁)
theorem ES.pass {A : Around} {s₀ : Shared} {e : Value} {s' : Shared} (ok : FrOK c env) (hA : AOk c A) (hs₀ : IsF B c.fr env ρ σ s₀) (x : ES B c.fr env σ s₀ E e s') : notedBy (model B.prog B.w) A env (cameBackBy (model B.prog B.w) A env (ES B c.fr env σ s₀ E)) e s' :=
  let ⟨_, h⟩ := ok.top
  ES_passes h ok.own hA.fr hs₀ x
theorem Ws_while {test : Expr} {body : List Stmt} {pos : Pos} (ok : FrOK c env) (h : ∃ n, WhileN B c env test body Q E n ρ σ) : Ws B c env (.While test body [] pos) ρ σ Q E := by
  intro A s hA hs
  obtain ⟨n, hn⟩ := h
  refine wpAny_While (codeAny_whileLoop (I := fun n s₁ => ∃ ρ₁ σ₁, IsF B c.fr env ρ₁ σ₁ s₁ ∧ ExtS env.locals σ s.heap σ₁ s₁.heap ∧ WhileN B c env test body Q E n ρ₁ σ₁) ?_ n ⟨ρ, σ, hs, .refl .., hn⟩)
  rintro n s₁ ⟨ρ₁, σ₁, hs₁, e₁, hw⟩
  cases n with
  | zero => exact hw.elim
  | succ n =>
    have hw' : Wt B c env test ρ₁ σ₁ _ _ := hw
    refine WE.run hw' hA hs₁ (fun r s₂ b σ₂ hb hs₂ e₂ q => ?_) fun e s' x => ES.pass ok hA hs (ES.trans (.ofEF x fun _ _ y => y) e₁)
    have hb : b = r := hb
    subst hb
    cases b with
    | true =>
      refine WS.run (q.1 rfl) hA hs₂ (fun r s₃ f ρ₃ σ₃ hf hs₃ e₃ q₃ => ?_) fun e s' x => ES.pass ok hA hs (ES.trans x (e₁.trans (e₂.toS _)))
      have ee := e₁.trans ((e₂.toS _).trans e₃)
      cases hf with
      | next => exact ⟨n, Nat.lt_succ_self _, ρ₃, σ₃, hs₃, ee, q₃⟩
      | cont => exact ⟨n, Nat.lt_succ_self _, ρ₃, σ₃, hs₃, ee, q₃⟩
      | brk => exact ⟨.next, ρ₃, σ₃, .next, hs₃, ee, q₃⟩
      | ret hv => exact ⟨.ret _, ρ₃, σ₃, .ret hv, hs₃, ee, q₃⟩
    | false => exact wpAny_execs_nil ⟨.next, ρ₁, σ₂, .next, hs₂, e₁.trans (e₂.toS _), q.2 rfl⟩
end
end Mine.Internal
end
section
open PySem PySem.W PyProof.Rows
namespace Mine.Internal
/-- the targets that are names -/
inductive NameT (env : Env) : List (Value → Sem Unit) → List Str → Prop
  | nil : NameT env [] []
  | bind {x : Str} {ts : List (Value → Sem Unit)} {xs : List Str} : NameT env ts xs → NameT env ((fun v => bindName env x v) :: ts) (x :: xs)
  | name {x : Str} {p : Pos} {ts : List (Value → Sem Unit)} {xs : List Str} : NameT env ts xs → NameT env (assign (.Name x p) env :: ts) (x :: xs)
section
variable {B : Bs} {c : Cx} {env : Env} {ρ : Loc} {σ : Store}
theorem bind_run {fr : List Env} {A : Around} {s : Shared} {x : Str} {v : V} {cv : Value} {Qc : Unit → Shared → Prop} {Ec : Value → Shared → Prop} (ok : EnvOK env) (hs : IsF B fr env ρ σ s) (hv : VR s.heap v cv) (hl : env.kindOf x = some .local)
    (k : ∀ s', IsF B fr env (setL x v ρ) σ s' → ExtS env.locals σ s.heap σ s'.heap → Qc () s') : wpAny (model B.prog B.w) A (bindName env x cv) Qc Ec s := by
  unfold bindName
  exact wpAny_bind (wpAny_holding (wpAny_point (wpAny_bind (store_run ok hs hv hl fun s₁ hs₁ e₁ => wpAny_point (k s₁ hs₁ e₁)))))
theorem name_run {fr : List Env} {A : Around} {s : Shared} {x : Str} {p : Pos} {v : V} {cv : Value} {Qc : Unit → Shared → Prop} {Ec : Value → Shared → Prop} (ok : EnvOK env) (hs : IsF B fr env ρ σ s) (hv : VR s.heap v cv) (hl : env.kindOf x = some .local)
    (k : ∀ s', IsF B fr env (setL x v ρ) σ s' → ExtS env.locals σ s.heap σ s'.heap → Qc () s') : wpAny (model B.prog B.w) A (assign (.Name x p) env cv) Qc Ec s := by
  show wpAny (model B.prog B.w) A (do standAt p; bindName env x cv) Qc Ec s
  exact wpAny_bind (wpAny_standAt (bind_run ok hs hv hl k))
theorem targets_run {fr : List Env} {A : Around} {Qc : Unit → Shared → Prop} {Ec : Value → Shared → Prop} (ok : EnvOK env) {names : List Str} {ts : List (Value → Sem Unit)} {vs : List V} {cvs : List Value} {ρ : Loc} {s : Shared} (hn : NameT env ts names) (hs : IsF B fr env ρ σ s) (hv : VRs s.heap vs cvs) (hl : ∀ x ∈ names, env.kindOf x = some .local) (hlen : names.length = vs.length)
    (k : ∀ s', IsF B fr env (setLs names vs ρ) σ s' → ExtS env.locals σ s.heap σ s'.heap → Qc () s') : wpAny (model B.prog B.w) A (assignInOrder ts cvs) Qc Ec s := by
  induction hn generalizing vs cvs ρ s with
  | nil =>
    obtain rfl := List.length_eq_zero_iff.mp hlen.symm
    exact hv.nil' (wpAny_pure (k s hs (.refl ..)))
  | bind hn ih =>
    cases vs with
    | nil => cases hlen
    | cons v vs =>
      refine hv.cons' fun c r hv hr => ?_
      refine wpAny_assignInOrder_more (bind_run ok hs hv (hl _ (.head _)) fun s₁ hs₁ e₁ => ?_)
      exact ih hs₁ (hr.mono (ExtS.tup hs e₁)) (fun y hy => hl y (.tail _ hy)) (Nat.succ.inj hlen) fun s₂ hs₂ e₂ => k s₂ hs₂ (e₁.trans e₂)
  | name hn ih =>
    cases vs with
    | nil => cases hlen
    | cons v vs =>
      refine hv.cons' fun c r hv hr => ?_
      refine wpAny_assignInOrder_more (name_run ok hs hv (hl _ (.head _)) fun s₁ hs₁ e₁ => ?_)
      exact ih hs₁ (hr.mono (ExtS.tup hs e₁)) (fun y hy => hl y (.tail _ hy)) (Nat.succ.inj hlen) fun s₂ hs₂ e₂ => k s₂ hs₂ (e₁.trans e₂)
/-- what a target does with a value -/
inductive TGT (env : Env) : Expr → V → Loc → Loc → Prop
  | name {x : Str} {p : Pos} {v : V} {ρ : Loc} : env.kindOf x = some .local → TGT env (.Name x p) v ρ (setL x v ρ)
  | tup {elts : List Expr} {k : Nat} {p : Pos} {names : List Str} {vs : List V} {ρ : Loc} : NameT env ((assignEach elts env).map (·.2)) names → (∀ x ∈ names, env.kindOf x = some .local) → names.length = vs.length → (assignEach elts env).length = vs.length → (assignEach elts env).findIdx? (·.1) = none → TGT env (.Tuple elts k p) (.tup vs) ρ (setLs names vs ρ)
theorem TGT.run {fr : List Env} {A : Around} {s : Shared} {target : Expr} {v : V} {cv : Value} {ρ' : Loc} {Qc : Unit → Shared → Prop} {Ec : Value → Shared → Prop} (ok : EnvOK env) (hh : A.handled = none) (t : TGT env target v ρ ρ') (hs : IsF B fr env ρ σ s) (hv : VR s.heap v cv)
    (k : ∀ s', IsF B fr env ρ' σ s' → ExtS env.locals σ s.heap σ s'.heap → Qc () s') : wpAny (model B.prog B.w) A (assign target env cv) Qc Ec s := by
  cases t with
  | name hl => exact name_run ok hs hv hl k
  | tup hn hl h1 h2 h3 =>
    cases hv with
    | tup ht hvs =>
      refine wpAny_assign_Tuple hh ht (by rw [h2, List.size_toArray, hvs.length]) h3 fun h' he => ?_
      obtain ⟨hs₁, e₁⟩ := hs.grown (extBut_size he) s.toks
      exact targets_run ok hn hs₁ (hvs.mono (keeps_tup (extBut_size he))) hl h1 fun s₂ hs₂ e₂ => k s₂ hs₂ ((e₁.toS _).trans e₂)
/-- something that is iterated over -/
structure Iter (B : Bs) (it : Addr) (items : List V) (chk : Store → Prop) where
  P : Nat → Heap → Prop
  fields : ∀ {i h}, P i h → ∃ o vs, h.get? it = some o ∧ o.data = .fields vs ∧ ¬ Frozen o
  stable : ∀ {i h h'}, P i h → (∀ o vs, h.get? it = some o → o.data = .fields vs → h'.get? it = some o) → TupKeep h h' → P i h'
  next : ∀ {A : Around} {fr : List Env} {σ : Store} {s : Shared} {i : Nat} {v : V} {Qc : Option Value → Shared → Prop} {Ec : Value → Shared → Prop}, IsS B fr σ s → chk σ → P i s.heap → items[i]? = some v →
    (∀ cv h' tk, VR s.heap v cv → P (i + 1) h' → Heap.SameBut it s.heap h' → Qc (some cv) { s with heap := h', toks := tk }) → wpAny (model B.prog B.w) A (pyNext (.ref it)) Qc Ec s
  stop : ∀ {A : Around} {fr : List Env} {σ : Store} {s : Shared} {i : Nat} {Qc : Option Value → Shared → Prop} {Ec : Value → Shared → Prop}, A.handled = none → IsS B fr σ s → chk σ → P i s.heap → items[i]? = none →
    (∀ h', Heap.ExtBut it s.heap h' → Qc none { s with heap := h' }) → wpAny (model B.prog B.w) A (pyNext (.ref it)) Qc Ec s
theorem IsF.but {fr : List Env} {s : Shared} {it : Addr} {o : Obj} {vs : Array Value} {h' : Heap} (x : IsF B fr env ρ σ s) (hn : σ it = none) (hb : B.h₀.get? it = none) (ho : s.heap.get? it = some o) (hd : o.data = .fields vs) (hc : ¬ Frozen o)
    (k : ∀ b o, b ≠ it → s.heap.get? b = some o → h'.get? b = some o) (t : Nat) : IsF B fr env ρ σ { s with heap := h', toks := t } ∧ TupKeep s.heap h' := by
  have kt : TupKeep s.heap h' := fun b o' e f => ⟨o'.slots, k b o' (fun q => by rw [q, ho] at e; cases e; exact hc f) e, fun _ => rfl⟩
  obtain ⟨m, ⟨oL, es, ep, hL, hdL, r⟩, hm⟩ := x.loc
  have hLi : env.locals ≠ it := fun q => by rw [q, ho] at hL; cases hL; rw [hd] at hdL; cases hdL
  refine ⟨⟨⟨fun b o' e => k b o' (fun q => by rw [q, hb] at e; cases e) (x.S.stays b o' e), x.S.frames.of_keeps fun b o' e hnf => ⟨o', k b o' (fun q => by rw [q, ho] at e; cases e; exact hnf vs hd) e, rfl⟩, x.S.off, x.S.new, fun a c e => ?_, x.S.gens, x.S.drawn, x.S.os⟩, x.offL, x.newL, m, ⟨oL, es, ep, k _ _ hLi hL, hdL, r⟩, fun z v hz => let ⟨c, h1, h2⟩ := hm z v hz; ⟨c, h1, h2.mono kt⟩⟩, kt⟩
  have z := x.S.cells a c e
  obtain ⟨o', ho', _⟩ := z.there
  exact z.mono ((k a o' (fun q => by rw [q, hn] at e; cases e) ho').trans ho'.symm) kt
theorem ExtS.but {L it : Addr} {σ₀ : Store} {h₀ h h' : Heap} (x : ExtS L σ₀ h₀ σ h) (n : h₀.get? it = none) (k : ∀ b o, b ≠ it → h.get? b = some o → h'.get? b = some o) : ExtS L σ₀ h₀ σ h' :=
  ⟨fun a o vs l e d q => k a o (fun z => by rw [z, n] at e; cases e) (x.fix a o vs l e d q), fun a e => (by
    by_cases q : a = it
    · rw [q]; exact n
    · refine x.live a ?_
      cases z : h.get? a with
      | none => rfl
      | some o => rw [k a o q z] at e; cases e), fun a o l e q => let ⟨sl, z⟩ := x.keep a o l e q; ⟨sl, k a _ (fun z => by rw [z, n] at e; cases e) z⟩, x.dom⟩
end
section
variable {B : Bs} {c : Cx} {env : Env} {ρ : Loc} {σ : Store} {Q : Fl → Loc → Store → Prop} {E : Addr → Loc → Store → Prop}
noncomputable def ForL (B : Bs) (c : Cx) (env : Env) (target : Expr) (body : List Stmt) (chk : Store → Prop) (Q : Fl → Loc → Store → Prop) (E : Addr → Loc → Store → Prop) : List V → Loc → Store → Prop
  | [], ρ, σ => chk σ ∧ Q .next ρ σ
  | v :: vs, ρ, σ => chk σ ∧ ∃ ρ', TGT env target v ρ ρ' ∧ Wss B c env body ρ' σ (loopK Q (ForL B c env target body chk Q E vs)) E
theorem for_run {target iter : Expr} {body : List Stmt} {pos : Pos} {A : Around} {s s₀ : Shared} {it : Addr} {items : List V} {chk : Store → Prop} {σ₀ : Store} {ρ₀ : Loc} (ok : EnvOK env) (fk : FrOK c env) (hh : c.hd = none) (hA : AOk c A) (I : Iter B it items chk)
    (hlet : ∀ {v : Value} {A : Around} {s : Shared} {Q : Unit → Shared → Prop} {E : Value → Shared → Prop} {i : Nat}, I.P i s.heap → Q () s → wpAny (model B.prog B.w) A (letOwnedTupleGo target (.ref it) v) Q E s)
    (hs₀ : IsF B c.fr env ρ₀ σ₀ s₀) (hs : IsF B c.fr env ρ σ s) (e : ExtS env.locals σ₀ s₀.heap σ s.heap) (hit : s₀.heap.get? it = none) (hσ : σ it = none) (hP : I.P 0 s.heap) (h : ForL B c env target body chk Q E items ρ σ) :
    codeAny (model B.prog B.w) A (.forLoop target (.ref it) body [] env) (fun r s' => match r with
      | .ok f => BhS B c.fr env σ₀ s₀.heap RFl Q f s'
      | .error e => cameBackBy (model B.prog B.w) A env (ES B c.fr env σ₀ s₀ E) e s') s := by
  have hbit : B.h₀.get? it = none := by
    cases q : B.h₀.get? it with
    | none => rfl
    | some o => rw [hs₀.S.stays it o q] at hit; cases hit
  refine codeAny_forLoop_any (I := fun n s₁ => n ≤ items.length ∧ ∃ ρ₁ σ₁, IsF B c.fr env ρ₁ σ₁ s₁ ∧ ExtS env.locals σ₀ s₀.heap σ₁ s₁.heap ∧ σ₁ it = none ∧ I.P (items.length - n) s₁.heap ∧ ForL B c env target body chk Q E (items.drop (items.length - n)) ρ₁ σ₁) ?_ items.length
    ⟨Nat.le_refl _, ρ, σ, hs, e, hσ, by rw [Nat.sub_self]; exact hP, by rw [Nat.sub_self]; exact h⟩
  intro n s₁ J
  refine cps fun P k0 => ?_
  obtain ⟨hn, ρ₁, σ₁, hs₁, e₁, hσ₁, hP₁, hf⟩ := J
  have hhA : A.handled = none := hA.hd.trans hh
  obtain ⟨o, vs, ho, hd, hc1⟩ := I.fields hP₁
  cases n with
  | zero =>
    rw [Nat.sub_zero, List.drop_length] at hf
    refine k0 ?_
    refine I.stop hhA hs₁.S hf.1 hP₁ (by simp) fun h' he => ?_
    obtain ⟨hs₂, _⟩ := hs₁.but hσ₁ hbit ho hd hc1 (fun b o n e => he b o n e) s₁.toks
    exact wpAny_execs_nil ⟨.next, ρ₁, σ₁, .next, hs₂, e₁.but hit fun b o n e => he b o n e, hf.2⟩
  | succ n =>
    have hlt : items.length - (n + 1) < items.length := Nat.sub_lt (Nat.lt_of_lt_of_le (Nat.succ_pos n) hn) (Nat.succ_pos n)
    have hsu : items.length - (n + 1) + 1 = items.length - n := (Nat.sub_succ _ n).symm ▸ Nat.sub_add_cancel (Nat.le_sub_of_add_le (by rw [Nat.add_comm]; exact hn))
    obtain ⟨v, hv⟩ : ∃ v, items[items.length - (n + 1)]? = some v := ⟨_, List.getElem?_eq_getElem hlt⟩
    have hdrop : items.drop (items.length - (n + 1)) = v :: items.drop (items.length - n) := by
      rw [List.drop_eq_getElem_cons hlt]
      rw [List.getElem?_eq_getElem hlt] at hv
      cases hv
      rw [hsu]
    rw [hdrop] at hf
    obtain ⟨hchk, ρ', ht, hw⟩ := hf
    refine k0 ?_
    refine I.next hs₁.S hchk hP₁ hv fun cv h' tk hcv hP₂ hsb => ?_
    have kb : ∀ b o, b ≠ it → s₁.heap.get? b = some o → h'.get? b = some o := fun b o n e => (hsb.2 b n).trans e
    obtain ⟨hs₂, kt⟩ := hs₁.but hσ₁ hbit ho hd hc1 kb tk
    have e₂ := e₁.but hit kb
    refine hlet (s := { s₁ with heap := h', toks := tk }) hP₂ ?_
    refine ht.run ok hhA hs₂ (hcv.mono kt) fun s₃ hs₃ e₃ => ?_
    refine WS.run hw hA hs₃ (fun r s₄ f ρ₄ σ₄ hf hs₄ e₄ q₄ => ?_) fun e s' x => ES.pass fk hA hs₀ (ES.trans x (e₂.trans e₃))
    have ee := e₂.trans (e₃.trans e₄)
    have nx : ForL B c env target body chk Q E (items.drop (items.length - n)) ρ₄ σ₄ → ∃ m, m < n + 1 ∧ (m ≤ items.length ∧ ∃ ρ₁ σ₁, IsF B c.fr env ρ₁ σ₁ s₄ ∧ ExtS env.locals σ₀ s₀.heap σ₁ s₄.heap ∧ σ₁ it = none ∧ I.P (items.length - m) s₄.heap ∧ ForL B c env target body chk Q E (items.drop (items.length - m)) ρ₁ σ₁) := fun q => by
      obtain ⟨o2, vs2, ho2, hd2, _⟩ := I.fields hP₂
      have hL : it ≠ env.locals := fun q => by
        obtain ⟨m, ⟨oL, es, ep, hL, hdL, r⟩, hm⟩ := hs₁.loc
        rw [← q, ho] at hL; cases hL; rw [hd] at hdL; cases hdL
      have e34 := e₃.trans e₄
      refine ⟨n, Nat.lt_succ_self _, Nat.le_of_succ_le hn, ρ₄, σ₄, hs₄, ee, ?_, I.stable (i := items.length - n) (h := h') (by rw [← hsu]; exact hP₂) (fun o vs e d => e34.fix it o vs hL e d hσ₁) (ExtS.tup hs₂ e34), q⟩
      cases z : σ₄ it with
      | none => rfl
      | some cc => rcases e34.dom it (by rw [z]; simp) with y | y
                   · exact absurd hσ₁ y
                   · have y : h'.get? it = none := y
                     rw [ho2] at y; cases y
    cases hf with
    | next => exact nx q₄
    | cont => exact nx q₄
    | brk => exact ⟨.next, ρ₄, σ₄, .next, hs₄, ee, q₄⟩
    | ret hv => exact ⟨.ret _, ρ₄, σ₄, .ret hv, hs₄, ee, q₄⟩
end
end Mine.Internal
end
section
open PySem PySem.W PyProof.Rows
namespace Mine.Internal
theorem cls_noFz {o : Obj} {n : String} (h : o.cls = .type n) (h1 : n ≠ "tuple") (h2 : n ≠ "slice") (h3 : n ≠ "range") : ¬ Frozen o := fun ⟨f, _⟩ => by
  rw [h] at f
  rcases f with f | f | f <;> (injection f with f) <;> first | exact h1 f | exact h2 f | exact h3 f
noncomputable def iterTup (B : Bs) (it t : Addr) (l : List V) (vs : List Value) : Iter B it l (fun _ => True) where
  P i h := h.IsTupleIter it t i ∧ h.IsTuple t vs.toArray ∧ VRs h l vs
  fields := fun ⟨⟨o, e, c, d⟩, _⟩ => ⟨o, _, e, d, cls_noFz c (by decide) (by decide) (by decide)⟩
  stable := fun ⟨⟨o, e, c, d⟩, t, v⟩ k kt => ⟨⟨o, k o _ e d, c, d⟩, kt.tup _ _ t, v.mono kt⟩
  next := fun hs _ ⟨hi, ht, hv⟩ hx k => by
    obtain ⟨cv, h1, h2⟩ := hv.get hx
    refine wpAny_pyNext_tuple_item hi ht (by simpa using h1) fun h' hi' hsb => k cv h' _ h2 ⟨hi', ?_, ?_⟩ hsb
    · obtain ⟨o, e, c, d⟩ := hi
      exact (SameBut.tup hsb fun o' e' => by rw [e] at e'; cases e'; exact cls_noFz c (by decide) (by decide) (by decide)).tup _ _ ht
    · obtain ⟨o, e, c, d⟩ := hi
      exact hv.mono (SameBut.tup hsb fun o' e' => by rw [e] at e'; cases e'; exact cls_noFz c (by decide) (by decide) (by decide))
  stop := fun hh hs _ ⟨hi, ht, hv⟩ hx k => wpAny_pyNext_tuple_end hh hi ht (by
    have := hv.length
    simp only [List.getElem?_eq_none_iff] at hx
    simp; lia) k
noncomputable def iterList (B : Bs) (it a : Addr) (l : List V) : Iter B it l (fun σ => σ a = some (.list l)) where
  P i h := h.IsListIter it a i
  fields := fun ⟨o, e, c, d⟩ => ⟨o, _, e, d, cls_noFz c (by decide) (by decide) (by decide)⟩
  stable := fun ⟨o, e, c, d⟩ k _ => ⟨o, k o _ e d, c, d⟩
  next := fun hs hc hi hx k => by
    obtain ⟨vs, n, ho, hv⟩ := hs.cells a _ hc
    obtain ⟨cv, h1, h2⟩ := hv.get hx
    exact wpAny_pyNext_list_item hi ⟨_, ho, rfl, n, rfl⟩ (by simpa using h1) fun h' hi' hsb => k cv h' _ h2 hi' hsb
  stop := fun hh hs hc hi hx k => by
    obtain ⟨vs, n, ho, hv⟩ := hs.cells a _ hc
    refine wpAny_pyNext_list_end hh hi ⟨_, ho, rfl, n, rfl⟩ (by
      have := hv.length
      simp only [List.getElem?_eq_none_iff] at hx
      simp; lia) k
noncomputable def signs (x : Str) : List V := x.cps.toList.map fun c => V.str ⟨#[c]⟩
noncomputable def iterStr (B : Bs) (it : Addr) (x : Str) (t : Tok) : Iter B it (signs x) (fun _ => True) where
  P i h := h.IsStrIter it "str_ascii_iterator" x t i
  fields := fun ⟨o, e, c, d⟩ => ⟨o, _, e, d, cls_noFz c (by decide) (by decide) (by decide)⟩
  stable := fun ⟨o, e, c, d⟩ k _ => ⟨o, k o _ e d, c, d⟩
  next := fun hs hc hi hx k => by
    unfold signs at hx
    rw [List.getElem?_map] at hx
    obtain ⟨cp, h1, rfl⟩ := Option.map_eq_some_iff.mp hx
    exact wpAny_pyNext_ascii_item hi (by simpa using h1) fun h' hi' hsb => k _ h' _ (.str _ _) hi' hsb
  stop := fun hh hs hc hi hx k => wpAny_pyNext_ascii_end hh hi (by
    unfold signs at hx
    simpa using hx) k
noncomputable def countUp (a : Int) : Nat → List V
  | 0 => []
  | n + 1 => .int a :: countUp (a + 1) n
theorem countUp_get (a : Int) : ∀ (n i : Nat), (countUp a n)[i]? = if i < n then some (.int (a + i)) else none
  | 0, i => by simp [countUp]
  | n + 1, 0 => by simp [countUp]
  | n + 1, i + 1 => by
    rw [countUp, List.getElem?_cons_succ, countUp_get (a + 1) n i]
    by_cases h : i < n
    · rw [if_pos h, if_pos (by lia)]; congr 2; push_cast; lia
    · rw [if_neg h, if_neg (by lia)]
noncomputable def iterRange (B : Bs) (it : Addr) (a : Int) (n : Nat) : Iter B it (countUp a n) (fun _ => True) where
  P i h := i ≤ n ∧ IsRangeIter h it (a + i) ((n : Int) - i) 1
  fields := fun ⟨_, e⟩ => ⟨_, _, e, rfl, cls_noFz (n := "range_iterator") rfl (by decide) (by decide) (by decide)⟩
  stable := fun ⟨l, e⟩ k _ => ⟨l, k _ _ e rfl⟩
  next := fun {A fr σ s i v Qc Ec} hs hc ⟨l, hi⟩ hx k => by
    rw [countUp_get] at hx
    split at hx
    · rename_i hlt
      cases hx
      refine wpAny_pyNext_range_item hi (by lia) fun h' hi' hsb => k _ h' _ (.int _ _) ⟨by lia, ?_⟩ hsb
      rw [show a + ((i + 1 : Nat) : Int) = a + i + 1 by lia, show (n : Int) - ((i + 1 : Nat) : Int) = n - i - 1 by lia]
      exact hi'
    · cases hx
  stop := fun hh hs hc ⟨l, hi⟩ hx k => by
    rw [countUp_get] at hx
    split at hx
    · cases hx
    · exact wpAny_pyNext_range_end hh hi (by lia) k
section
variable {B : Bs} {c : Cx} {env : Env} {ρ : Loc} {σ : Store} {Q : Fl → Loc → Store → Prop} {E : Addr → Loc → Store → Prop}
noncomputable def isNameT : Expr → Bool
  | .Name .. => true
  | _ => false
theorem let_name {target : Expr} (h : isNameT target = true) (it v : Value) : letOwnedTupleGo target it v = pure () := by
  cases target <;> first | rfl | cases h
/-- what may be iterated over, and its items -/
inductive Itb : V → Store → List V → (Store → Prop) → Prop
  | tup {l : List V} {σ : Store} : Itb (.tup l) σ l (fun _ => True)
  | list {a : Addr} {l : List V} {σ : Store} : σ a = some (.list l) → Itb (.ref a) σ l (fun σ' => σ' a = some (.list l))
  | str {x : Str} {σ : Store} : x.cps.all (· < 128) = true → Itb (.str x) σ (signs x) (fun _ => True)
  | range {a b : Int} {n : Nat} {σ : Store} : Builtin.Range.small a b 1 = true → Builtin.Range.rangeSize a b 1 = n → Itb (.range a b 1) σ (countUp a n) (fun _ => True)
theorem Ws_for {target iter : Expr} {body : List Stmt} {pos : Pos} (ok : EnvOK env) (fk : FrOK c env) (hh : c.hd = none) (ht : isNameT target = true) (hset : ∀ x, foldedSetIterable iter env x = pure x)
    (h : Wx B c env iter ρ σ (fun v σ₁ => ∃ l chk, Itb v σ₁ l chk ∧ ForL B c env target body chk Q E l ρ σ₁) (fun a σ₁ => E a ρ σ₁)) : Ws B c env (.For target iter body [] pos) ρ σ Q E := by
  intro A s hA hs
  refine wpAny_For (h.run hA hs (fun r s₁ v σ₁ hv hs₁ e₁ ⟨l, chk, hi, hf⟩ => ?_) fun e s' x => .ofEF x fun _ _ y => y) hset
  have hnew : s₁.heap.get? s₁.heap.objs.size = none := by
    cases q : s₁.heap.get? s₁.heap.objs.size with
    | none => rfl
    | some o => exact absurd (Heap.lt_size q) (Nat.lt_irrefl _)
  have hσ : σ₁ s₁.heap.objs.size = none := by
    cases q : σ₁ s₁.heap.objs.size with
    | none => rfl
    | some cc => exact absurd (hs₁.S.lt (a := s₁.heap.objs.size) (by rw [q]; simp)) (Nat.lt_irrefl _)
  have hit := e₁.live _ hnew
  cases hi with
  | tup =>
    cases hv with
    | tup t l =>
      refine wpAny_pyIter_tuple t ?_
      obtain ⟨hs₂, e₂⟩ := hs₁.grown (h' := s₁.heap.push { cls := .type "tuple_iterator", data := .fields #[.ref _, .int 0 0] }) (fun b o e => Heap.get?_push_of_some _ e) s₁.toks
      exact for_run (pos := pos) (iter := iter) ok fk hh hA (iterTup B _ _ _ _) (fun _ q => by rw [let_name ht]; exact wpAny_pure q) hs hs₂ ((e₁.trans e₂).toS _) hit hσ ⟨⟨_, Heap.get?_push_size _ rfl, rfl, rfl⟩, (keeps_tup fun b o e => Heap.get?_push_of_some _ e).tup _ _ t, l.mono (keeps_tup fun b o e => Heap.get?_push_of_some _ e)⟩ hf
  | list ha =>
    cases hv
    obtain ⟨vs, n, ho, hv⟩ := hs₁.S.cells _ _ ha
    refine wpAny_pyIter_list ⟨_, ho, rfl, n, rfl⟩ ?_
    obtain ⟨hs₂, e₂⟩ := hs₁.grown (h' := s₁.heap.push { cls := .type "list_iterator", data := .fields #[.ref _, .int 0 0] }) (fun b o e => Heap.get?_push_of_some _ e) s₁.toks
    exact for_run (pos := pos) (iter := iter) ok fk hh hA (iterList B _ _ _) (fun _ q => by rw [let_name ht]; exact wpAny_pure q) hs hs₂ ((e₁.trans e₂).toS _) hit hσ ⟨_, Heap.get?_push_size _ rfl, rfl, rfl⟩ hf
  | str ha =>
    cases hv
    refine wpAny_pyIter_ascii ha ?_
    obtain ⟨hs₂, e₂⟩ := hs₁.grown (h' := s₁.heap.push { cls := .type "str_ascii_iterator", data := .fields #[.str _ _, .int 0 0] }) (fun b o e => Heap.get?_push_of_some _ e) s₁.toks
    exact for_run (pos := pos) (iter := iter) ok fk hh hA (iterStr B _ _ _) (fun _ q => by rw [let_name ht]; exact wpAny_pure q) hs hs₂ ((e₁.trans e₂).toS _) hit hσ ⟨_, Heap.get?_push_size _ rfl, rfl, rfl⟩ hf
  | range h1 h2 =>
    cases hv with
    | range hr =>
      refine wpAny_pyIter_range hr h1 ?_
      rw [h2]
      obtain ⟨hs₂, e₂⟩ := hs₁.grown (h' := s₁.heap.push { cls := .type "range_iterator", data := .fields #[rawInt _, rawInt _, rawInt 1] }) (fun b o e => Heap.get?_push_of_some _ e) s₁.toks
      refine for_run (pos := pos) (iter := iter) ok fk hh hA (iterRange B _ _ _) (fun _ q => by rw [let_name ht]; exact wpAny_pure q) hs hs₂ ((e₁.trans e₂).toS _) hit hσ ⟨Nat.zero_le _, ?_⟩ hf
      refine (Heap.get?_push_size _ rfl).trans ?_
      simp
theorem Ws_for_listT {elts : List Expr} {k : Nat} {p : Pos} {iter : Expr} {body : List Stmt} {pos : Pos} (ok : EnvOK env) (fk : FrOK c env) (hh : c.hd = none) (hset : ∀ x, foldedSetIterable iter env x = pure x)
    (h : Wx B c env iter ρ σ (fun v σ₁ => ∃ a l, v = .ref a ∧ σ₁ a = some (.list l) ∧ (∀ x ∈ l, ∃ t, x = .tup t) ∧ ForL B c env (.Tuple elts k p) body (fun σ' => σ' a = some (.list l)) Q E l ρ σ₁) (fun a σ₁ => E a ρ σ₁)) : Ws B c env (.For (.Tuple elts k p) iter body [] pos) ρ σ Q E := by
  intro A s hA hs
  refine wpAny_For (h.run hA hs (fun r s₁ v σ₁ hv hs₁ e₁ ⟨a, l, hva, ha, htup, hf⟩ => ?_) fun e s' x => .ofEF x fun _ _ y => y) hset
  have hnew : s₁.heap.get? s₁.heap.objs.size = none := by
    cases q : s₁.heap.get? s₁.heap.objs.size with
    | none => rfl
    | some o => exact absurd (Heap.lt_size q) (Nat.lt_irrefl _)
  have hσ : σ₁ s₁.heap.objs.size = none := by
    cases q : σ₁ s₁.heap.objs.size with
    | none => rfl
    | some cc => exact absurd (hs₁.S.lt (a := s₁.heap.objs.size) (by rw [q]; simp)) (Nat.lt_irrefl _)
  have hit := e₁.live _ hnew
  subst hva
  cases hv
  obtain ⟨vs, n, ho, hv⟩ := hs₁.S.cells _ _ ha
  refine wpAny_pyIter_list ⟨_, ho, rfl, n, rfl⟩ ?_
  obtain ⟨hs₂, e₂⟩ := hs₁.grown (h' := s₁.heap.push { cls := .type "list_iterator", data := .fields #[.ref _, .int 0 0] }) (fun b o e => Heap.get?_push_of_some _ e) s₁.toks
  refine for_run (pos := pos) (iter := iter) ok fk hh hA (iterList B _ _ _) (fun hi q => ?_) hs hs₂ ((e₁.trans e₂).toS _) hit hσ ⟨_, Heap.get?_push_size _ rfl, rfl, rfl⟩ hf
  rename_i v _ _ _ _ _
  cases v with
  | ref T => exact wpAny_letOwnedTupleGo_listiter hi q
  | _ => exact wpAny_pure q
end
end Mine.Internal
end
section
open PySem PySem.W PyProof.Rows
namespace Mine.Internal
section
variable {B : Bs} {c : Cx} {env : Env} {ρ : Loc} {σ : Store} {Q : Fl → Loc → Store → Prop} {E : Addr → Loc → Store → Prop}
noncomputable abbrev KIf (B : Bs) (c : Cx) (env : Env) (body orelse : List Stmt) (ρ : Loc) (Q : Fl → Loc → Store → Prop) (E : Addr → Loc → Store → Prop) : Bool → Store → Prop := fun b σ₁ => (b = true → Wss B c env body ρ σ₁ Q E) ∧ (b = false → Wss B c env orelse ρ σ₁ Q E)
theorem Ws_if {test : Expr} {body orelse : List Stmt} {pos : Pos} (h : Wt B c env test ρ σ (KIf B c env body orelse ρ Q E) (EK E ρ)) : Ws B c env (.If test body orelse pos) ρ σ Q E :=
  fun A s hA hs => wpAny_If (h.run hA hs (fun r s₁ d σ₁ va hs₁ e₁ H => by
    have va : d = r := va
    subst va
    cases d with
    | true => exact (H.1 rfl).run hA hs₁ (fun r s₃ v ρ₃ σ₃ hv hs₃ e₃ q => ⟨v, ρ₃, σ₃, hv, hs₃, (e₁.toS _).trans e₃, q⟩) fun e s' x => x.trans (e₁.toS _)
    | false => exact (H.2 rfl).run hA hs₁ (fun r s₃ v ρ₃ σ₃ hv hs₃ e₃ q => ⟨v, ρ₃, σ₃, hv, hs₃, (e₁.toS _).trans e₃, q⟩) fun e s' x => x.trans (e₁.toS _)) fun e s' x => .ofEF x fun _ _ y => y)
theorem Ws_expr {e : Expr} {pos : Pos} (h : Wx B c env e ρ σ (KX Q ρ) (EK E ρ)) (hi : interactive env = false) (hsw : swapsWith e none pos.line env = pure false) : Ws B c env (.Expr e pos) ρ σ Q E :=
  fun A s hA hs => wpAny_Expr_any (h.run hA hs (fun r s₁ v σ₁ hv hs₁ e₁ q => ⟨.next, ρ, σ₁, .next, hs₁, e₁.toS _, q⟩) fun e s' x => .ofEF x fun _ _ y => y) hi hsw
theorem Ws_continue {pos : Pos} (h : Q .cont ρ σ) : Ws B c env (.Continue pos) ρ σ Q E := fun A s hA hs => wpAny_Continue ⟨.cont, ρ, σ, .cont, hs, .refl .., h⟩
theorem Ws_aug {x : Str} {value : Expr} {op : Operator} {pos' pos : Pos} {v : V} (ok : EnvOK env) (e : getL x ρ = some v) (hl : env.kindOf x = some .local)
    (h : Wx B c env value ρ σ (fun u σ₁ => CW B c (op2 (inplaceOp op)) [v, u] σ₁ VR (fun r σ₂ => Q .next (setL x r ρ) σ₂) (fun a σ₁ => E a ρ σ₁)) (fun a σ₁ => E a ρ σ₁)) : Ws B c env (.AugAssign (.Name x pos') op value pos) ρ σ Q E :=
  fun A s hA hs => by
    obtain ⟨m, hn, hm⟩ := hs.loc
    obtain ⟨cv, h1, h2⟩ := hm x v e
    refine wpAny_AugAssign_Name (wpAny_loadName_local ok.kind hl hn h1 ?_)
    refine h.run hA hs (fun r s₁ u σ₁ hu hs₁ e₁ H => ?_) fun e s' x => .ofEF x fun _ _ y => y
    refine H.run (cvs := [cv, r]) hA hs₁ (.cons (h2.mono (hs.tup e₁)) (.cons hu .nil)) (fun r s₂ w σ₂ hw hs₂ e₂ q => ?_) fun e s' x => .ofEF (x.trans e₁) fun _ _ y => y
    exact store_run ok hs₂ hw hl fun s₃ hs₃ e₃ => ⟨.next, _, σ₂, .next, hs₃, ((e₁.trans e₂).toS _).trans e₃, q⟩
theorem Ws_aug_attr {o value : Expr} {attr : Str} {op : Operator} {tpos pos : Pos}
    (h : Wx B c env o ρ σ (fun ov σ₁ => CW B c (op1 fun o => getAttr o attr true) [ov] σ₁ VR (fun old σ₂ => Wx B c env value ρ σ₂ (fun v σ₃ => CW B c (op2 (inplaceOp op)) [old, v] σ₃ VR (fun new σ₄ =>
      CW B c (op2 fun ov v => setAttr ov attr v) [ov, new] σ₄ REq (fun _ σ₅ => Q .next ρ σ₅) (fun a σ₁ => E a ρ σ₁)) (fun a σ₁ => E a ρ σ₁)) (fun a σ₁ => E a ρ σ₁)) (fun a σ₁ => E a ρ σ₁)) (fun a σ₁ => E a ρ σ₁)) :
    Ws B c env (.AugAssign (.Attribute o attr tpos) op value pos) ρ σ Q E :=
  fun A s hA hs => wpAny_AugAssign_AttributeAny (h.run hA hs (fun ro s₁ ov σ₁ ho hs₁ e₁ H => H.run (cvs := [ro]) hA hs₁ (.cons ho .nil) (fun rold s₂ old σ₂ hold hs₂ e₂ H₂ => H₂.run hA hs₂ (fun rv s₃ v σ₃ hv hs₃ e₃ H₃ =>
    H₃.run (cvs := [rold, rv]) hA hs₃ (.cons (hold.mono (hs₂.tup e₃)) (.cons hv .nil)) (fun rn s₄ new σ₄ hn hs₄ e₄ H₄ =>
      H₄.run (cvs := [ro, rn]) hA hs₄ (.cons (((ho.mono (hs₁.tup e₂)).mono (hs₂.tup e₃)).mono (hs₃.tup e₄)) (.cons hn .nil)) (fun _ s₅ _ σ₅ _ hs₅ e₅ q => ⟨.next, ρ, σ₅, .next, hs₅, ((((e₁.trans e₂).trans e₃).trans e₄).trans e₅).toS _, q⟩)
        fun e s' x => .ofEF (x.trans (((e₁.trans e₂).trans e₃).trans e₄)) fun _ _ y => y) fun e s' x => .ofEF (x.trans ((e₁.trans e₂).trans e₃)) fun _ _ y => y) fun e s' x => .ofEF (x.trans (e₁.trans e₂)) fun _ _ y => y) fun e s' x => .ofEF (x.trans e₁) fun _ _ y => y) fun e s' x => .ofEF x fun _ _ y => y)
theorem Ws_tuple {elts : List Expr} {k : Nat} {tpos : Pos} {value : Expr} {pos : Pos} (ok : EnvOK env) (hh : c.hd = none) (h : Wx B c env value ρ σ (fun v σ₁ => ∃ ρ', TGT env (.Tuple elts k tpos) v ρ ρ' ∧ Q .next ρ' σ₁) (fun a σ₁ => E a ρ σ₁))
    (hs1 : swapsWithSole [.Tuple elts k tpos] value pos.line env = pure false) (hw : swappedStores [.Tuple elts k tpos] value env = pure none) : Ws B c env (.Assign [.Tuple elts k tpos] value pos) ρ σ Q E :=
  fun A s hA hs => Assign_Tuple (h.run hA hs (fun r s₁ v σ₁ hv hs₁ e₁ ⟨ρ', ht, q⟩ => ht.run ok (hA.hd.trans hh) hs₁ hv fun s₂ hs₂ e₂ => ⟨.next, ρ', σ₁, .next, hs₂, (e₁.toS _).trans e₂, q⟩) fun e s' x => .ofEF x fun _ _ y => y) hs1 hw
theorem Ws_swapped {elts : List Expr} {k : Nat} {tpos : Pos} {value : Expr} {pos : Pos} {names : List Str} (ok : EnvOK env) (hh : c.hd = none) (h : Wx B c env value ρ σ (fun v σ₁ => ∃ vs, v = .tup vs ∧ vs.length = names.length ∧ Q .next (setLs names.reverse vs.reverse ρ) σ₁) (fun a σ₁ => E a ρ σ₁))
    (hl : ∀ x ∈ names, env.kindOf x = some .local)
    (hs1 : swapsWithSole [.Tuple elts k tpos] value pos.line env = pure false) (hw : swappedStores [.Tuple elts k tpos] value env = pure (some names)) : Ws B c env (.Assign [.Tuple elts k tpos] value pos) ρ σ Q E :=
  fun A s hA hs => Assign_Tuple_swapped (h.run hA hs (fun r s₁ v σ₁ hv hs₁ e₁ ⟨vs, hvs, hlen, q⟩ => by
    subst hvs
    cases hv with
    | @tup _ cvs a t l =>
      have : cvs.toArray.size = names.length := by rw [List.size_toArray, l.length, hlen]
      rw [← this]
      refine wpAny_unpackItems_tuple (hA.hd.trans hh) t fun h' he => ?_
      obtain ⟨hs₂, e₂⟩ := hs₁.grown (extBut_size he) s₁.toks
      have l' := l.mono (keeps_tup (extBut_size he))
      exact storeAll_run (σ := σ₁) ok hs₂ l'.rev (fun x hx => hl x (List.mem_reverse.mp hx)) (by rw [List.length_reverse, List.length_reverse, hlen]) fun s₃ hs₃ e₃ => ⟨.next, _, σ₁, .next, hs₃, ((e₁.trans e₂).toS _).trans e₃, q⟩) fun e s' x => .ofEF x fun _ _ y => y) hs1 hw
end
section
variable {B : Bs} {c : Cx} {env : Env} {ρ : Loc} {σ : Store} {Q : V → Store → Prop} {E : Addr → Store → Prop}
noncomputable abbrev KT (Q : V → Store → Prop) : List V → Store → Prop := fun vs σ₁ => vs.length ≤ sizeLine ∧ Q (.tup vs) σ₁
noncomputable abbrev KLi (Q : V → Store → Prop) : List V → Store → Prop := fun vs σ₁ => vs.length ≤ sizeLine ∧ ∀ a, σ₁ a = none → Q (.ref a) (σ₁.set a (.list vs))
theorem Wx_Tuple {elts : List Expr} {k : Nat} {pos : Pos} (h : Wl B c env pos elts ρ σ (KT Q) E) : Wx B c env (.Tuple elts k pos) ρ σ Q E :=
  fun A s hA hs => wpAny_Tuple_spliced (h.run hA hs (fun r s₁ vs σ₁ hv hs₁ e₁ ⟨hsz, q⟩ => by
    obtain ⟨hs₂, e₂⟩ := hs₁.grown (h' := s₁.heap.push { cls := .type "tuple", data := .seq r.toArray }) (fun b o e => Heap.get?_push_of_some _ e) s₁.toks
    exact ⟨by rw [hv.length]; exact hsz, .tup vs, σ₁, .tup ⟨_, Heap.get?_push_size _ rfl, rfl, _, rfl⟩ (hv.mono (keeps_tup fun b o e => Heap.get?_push_of_some _ e)), hs₂, e₁.trans e₂, q⟩) fun _ _ x => x)
theorem Wx_List {elts : List Expr} {pos : Pos} (h : Wl B c env pos elts ρ σ (KLi Q) E) : Wx B c env (.List elts pos) ρ σ Q E :=
  fun A s hA hs => wpAny_List_spliced (h.run hA hs (fun r s₁ vs σ₁ hv hs₁ e₁ ⟨hsz, q⟩ => by
    obtain ⟨hS, e₂, hn⟩ := hs₁.S.alloc { cls := .type "list", data := .seq r.toArray } (.list vs) ⟨r, _, Heap.get?_push_size _ rfl, hv.mono (Heap.push_keep _)⟩
    exact ⟨by rw [hv.length]; exact hsz, .ref _, _, .ref _, hs₁.to (s' := { s₁ with heap := _ }) hS e₂, e₁.trans e₂, q _ hn⟩) fun _ _ x => x)
theorem Wx_Slice {lower upper : Option Expr} {pos : Pos} (h : WE B c env (evalPart lower env) ρ σ VR (fun l σ₁ => WE B c env (evalPart upper env) ρ σ₁ VR (fun u σ₂ => ∃ lo hi, (l = lo.elim .none .int) ∧ (u = hi.elim .none .int) ∧ Q (.slice lo hi) σ₂) E) E) : Wx B c env (.Slice lower upper none pos) ρ σ Q E :=
  fun A s hA hs => wpAny_Slice (h.run hA hs (fun rl s₁ l σ₁ hl hs₁ e₁ H => H.run hA hs₁ (fun ru s₂ u σ₂ hu hs₂ e₂ ⟨lo, hi, h1, h2, q⟩ => wpAny_evalPart_none (by
    obtain ⟨hs₃, e₃⟩ := hs₂.grown (h' := s₂.heap.push { cls := .type "slice", data := .fields #[rl, ru, .none] }) (fun b o e => Heap.get?_push_of_some _ e) s₂.toks
    refine ⟨.slice lo hi, σ₂, .slice ⟨_, Heap.get?_push_size _ rfl, rfl, rfl⟩ ?_ ?_, hs₃, (e₁.trans e₂).trans e₃, q⟩
    · cases lo <;> subst h1 <;> cases hl <;> constructor
    · cases hi <;> subst h2 <;> cases hu <;> constructor)) fun e s' x => x.trans e₁) fun _ _ x => x)
theorem Wp_none {Q : V → Store → Prop} (h : Q .none σ) : WE B c env (evalPart none env) ρ σ VR Q E := fun A s hA hs => wpAny_evalPart_none ⟨.none, σ, .none, hs, .refl .., h⟩
theorem Wp_some {e : Expr} (h : Wx B c env e ρ σ Q E) : WE B c env (evalPart (some e) env) ρ σ VR Q E := fun A s hA hs => wpAny_evalPart_some (h A s hA hs)
theorem Wx_Sub {value slice : Expr} {pos : Pos} (h : Wx B c env value ρ σ (Kx2 B c env slice ρ (subscriptTail value slice) VR Q E) E) : Wx B c env (.Subscript value slice pos) ρ σ Q E :=
  fun A s hA hs => Subscript_ (h.run hA hs (fun ra s₁ a σ₁ va hs₁ e₁ H => H.run hA hs₁ (fun rb s₂ b σ₂ vb hs₂ e₂ H₂ =>
    H₂.run (cvs := [ra, rb]) hA hs₂ (.cons (va.mono (hs₁.tup e₂)) (.cons vb .nil)) (fun r s₃ v σ₃ hv hs₃ e₃ q => ⟨v, σ₃, hv, hs₃, e₁.trans (e₂.trans e₃), q⟩) fun e s' x => x.trans (e₁.trans e₂)) fun e s' x => x.trans e₁) fun _ _ x => x)
theorem Wx_Attr {value : Expr} {attr : Str} {pos : Pos} (h : Wx B c env value ρ σ (K1 B c (fun o => getAttr o attr true) VR Q E) E)
    (he : eval (.Attribute value attr pos) env = (do let o ← eval value env; standAt pos.atName; let r ← holding [o] (getAttr o attr true); letTemporaryGo value o r; pure r)) : Wx B c env (.Attribute value attr pos) ρ σ Q E :=
  fun A s hA hs => Attribute_any_ (h.run hA hs (fun ra s₁ a σ₁ va hs₁ e₁ H => H.run (cvs := [ra]) hA hs₁ (.cons va .nil) (fun r s₃ v σ₃ hv hs₃ e₃ q => ⟨v, σ₃, hv, hs₃, e₁.trans e₃, q⟩) fun e s' x => x.trans e₁) fun _ _ x => x) he
/-- what is called -/
noncomputable def conc : V → Value
  | .bi n => .builtin n
  | .ty n => .type n
  | .ref a => .ref a
  | _ => .none
noncomputable def Callee (K : Frag) : V → Prop
  | .bi _ => True
  | .ty _ => True
  | .ref a => keepIn K (.ref a) = true
  | _ => False
theorem conc_of {K : Frag} {h : Heap} {f : V} {cf : Value} (c : Callee K f) (v : VR h f cf) : cf = conc f := by
  cases v <;> first | rfl | exact c.elim
noncomputable def callF (f : V) (vs : List Value) : Sem Value := call (conc f) vs
theorem callWith_run {f : V} {pos : Pos} {args : List Expr} {first : List V} {cf : Value} {cfs : List Value} {A : Around} {s : Shared} {Qc : Value → Shared → Prop} {Ec : Value → Shared → Prop} (hc : Callee B.K f) (hv : VR s.heap f cf) (hA : AOk c A) (hs : IsF B c.fr env ρ σ s) (hfs : VRs s.heap first cfs)
    (hplain : ∀ e rest, args = e :: rest → starEach (e :: rest) env = (false, eval e env) :: starEach rest env ∧ (backTo pos (starEach rest env)).any (·.1) = false)
    (h : Wl B c env pos args ρ σ (fun vs σ₁ => CW B c (callF f) (first ++ vs) σ₁ VR Q E) E)
    (k : ∀ r s' b σ', VR s'.heap b r → IsF B c.fr env ρ σ' s' → Ext σ s.heap σ' s'.heap → Q b σ' → Qc r s') (ke : ∀ e s', EF B c.fr env ρ σ s E e s' → Ec e s') :
    wpAny (model B.prog B.w) A (callWith pos cf cfs (backTo pos (starEach args env)) []) Qc Ec s := by
  have := conc_of hc hv
  subst this
  have run1 : ∀ {vs : List Value} {s₁ : Shared} {l : List V} {σ₁ : Store}, VRs s₁.heap l vs → IsF B c.fr env ρ σ₁ s₁ → Ext σ s.heap σ₁ s₁.heap → CW B c (callF f) (first ++ l) σ₁ VR Q E → wpAny (model B.prog B.w) A (call (conc f) (cfs ++ vs)) Qc Ec s₁ := fun hl hs₁ e₁ H =>
    H.run (cvs := cfs ++ _) hA hs₁ ((hfs.mono (hs.tup e₁)).append hl) (fun r s₂ v σ₂ hv hs₂ e₂ q => k r s₂ v σ₂ hv hs₂ (e₁.trans e₂) q) fun e s' x => ke e s' (x.trans e₁)
  cases args with
  | nil =>
    have H := h A s hA hs
    have H := wpAny_mono (Q' := fun r s' => wpAny (model B.prog B.w) A (call (conc f) (cfs ++ r)) Qc Ec s') H (fun r s₁ ⟨l, σ₁, hl, hs₁, e₁, q⟩ => run1 hl hs₁ e₁ q) ke
    have H0 : wpAny (model B.prog B.w) A (call (conc f) (cfs ++ [])) Qc Ec s := fun Γ p hΓ => by
      have z := H Γ p hΓ
      exact z Γ p hΓ
    cases f with
    | bi id => exact callWith_method0 (by simpa [conc] using H0)
    | ty n => exact PySem.callWith_type (args := []) rfl (evalArgs_nil3 (by simpa [conc] using H0))
    | ref a => exact callWith_K0 (K := B.K) (B.X.keeps hs.S.stays) hc H0
    | _ => exact hc.elim
  | cons e rest =>
    obtain ⟨he, hp⟩ := hplain e rest rfl
    have H := h.run (Qc := fun vs s₁ => B.K.In s₁.heap ∧ wpAny (model B.prog B.w) A (call (conc f) (cfs ++ vs)) Qc Ec s₁) hA hs (fun r s₁ l σ₁ hl hs₁ e₁ q => ⟨B.X.keeps hs₁.S.stays, run1 hl hs₁ e₁ q⟩) ke
    cases f with
    | bi id => exact callWith_method1 (wpAny_mono H (fun _ _ x => x.2) fun _ _ x => x) he hp
    | ty n => 
      rw [he] at H ⊢
      exact PySem.callWith_type (by show (false || (backTo pos (starEach rest env)).any (·.1)) = false; rw [hp]; rfl) (Calls.evalArgs_plain (wpAny_mono H (fun _ _ x => x.2) fun _ _ x => x))
    | ref a => exact callWith_K (K := B.K) B.X hc H he hp
    | _ => exact hc.elim
noncomputable def PlainArgs (env : Env) (pos : Pos) (args : List Expr) : Prop := ∀ e rest, args = e :: rest → starEach (e :: rest) env = (false, eval e env) :: starEach rest env ∧ (backTo pos (starEach rest env)).any (·.1) = false
noncomputable abbrev KCf (B : Bs) (c : Cx) (f : V) (first : List V) (Q : V → Store → Prop) (E : Addr → Store → Prop) : List V → Store → Prop := fun vs σ₂ => CW B c (callF f) (first ++ vs) σ₂ VR Q E
noncomputable abbrev KCg (B : Bs) (c : Cx) (f : V) (Q : V → Store → Prop) (E : Addr → Store → Prop) : List V → Store → Prop := fun vs σ₂ => CW B c (callF f) vs σ₂ VR Q E
noncomputable abbrev KCh (B : Bs) (c : Cx) (f a : V) (Q : V → Store → Prop) (E : Addr → Store → Prop) : List V → Store → Prop := fun vs σ₂ => CW B c (callF f) (a :: vs) σ₂ VR Q E
noncomputable abbrev KC (B : Bs) (c : Cx) (env : Env) (pos : Pos) (args : List Expr) (ρ : Loc) (Q : V → Store → Prop) (E : Addr → Store → Prop) : V → Store → Prop := fun f σ₁ => Callee B.K f ∧ Wl B c env pos args ρ σ₁ (KCg B c f Q E) E
theorem Wx_Call {x : Str} {np pos : Pos} {args : List Expr} (hp : PlainArgs env pos args) (h : Wx B c env (.Name x np) ρ σ (KC B c env pos args ρ Q E) E) : Wx B c env (.Call (.Name x np) args [] pos) ρ σ Q E :=
  fun A s hA hs => wpAny_Call_ofName (h.run hA hs (fun rf s₁ f σ₁ hf hs₁ e₁ ⟨hc, H⟩ => callWith_run (first := []) hc hf hA hs₁ .nil hp H (fun r s₂ v σ₂ hv hs₂ e₂ q => ⟨v, σ₂, hv, hs₂, e₁.trans e₂, q⟩) fun e s' x => x.trans e₁) fun _ _ x => x)
noncomputable def RM (h : Heap) (b : V × List V) (r : Value × List Value) : Prop := VR h b.1 r.1 ∧ VRs h b.2 r.2
noncomputable abbrev KM1 (B : Bs) (c : Cx) (env : Env) (pos : Pos) (args : List Expr) (ρ : Loc) (Q : V → Store → Prop) (E : Addr → Store → Prop) : V × List V → Store → Prop := fun fx σ₂ => Callee B.K fx.1 ∧ Wl B c env pos args ρ σ₂ (KCf B c fx.1 fx.2 Q E) E
theorem Wx_Method {o : Expr} {name : Str} {apos pos : Pos} {args : List Expr} (pl : Sem Bool) (hp : PlainArgs env pos args) (h : Wx B c env o ρ σ (K1 B c (fun x => getMethod x name pl) RM (KM1 B c env pos args ρ Q E) E) E)
    (he : eval (.Call (.Attribute o name apos) args [] pos) env = (do let ov ← eval o env; standAt apos.atName; let (f, first) ← holding [ov] (getMethod ov name pl); callWith pos f first (backTo pos (starEach args env)) [])) : Wx B c env (.Call (.Attribute o name apos) args [] pos) ρ σ Q E :=
  fun A s hA hs => MethodCall_ (h.run hA hs (fun ro s₁ ov σ₁ ho hs₁ e₁ H => H.run (cvs := [ro]) hA hs₁ (.cons ho .nil) (fun rf s₂ fx σ₂ hf hs₂ e₂ ⟨hc, H₂⟩ => callWith_run (first := fx.2) hc hf.1 hA hs₂ hf.2 hp H₂ (fun r s₃ v σ₃ hv hs₃ e₃ q => ⟨v, σ₃, hv, hs₃, (e₁.trans e₂).trans e₃, q⟩) fun e s' x => x.trans (e₁.trans e₂)) fun e s' x => x.trans e₁) fun _ _ x => x) he
/-- an f-string's parts -/
noncomputable def JoinW (B : Bs) (c : Cx) (env : Env) (ρ : Loc) (Q : V → Store → Prop) (E : Addr → Store → Prop) : List Expr → Str → Store → Prop
  | [], out, σ => out.length ≤ sizeLine ∧ Q (.str out) σ
  | e :: rest, out, σ => Wx B c env e ρ σ (fun v σ₁ => ∃ y, v = .str y ∧ (out ++ y).length ≤ sizeLine ∧ JoinW B c env ρ Q E rest (out ++ y) σ₁) E
theorem joinW_run {A : Around} : ∀ {es : List Expr} {out : Str} {σ : Store} {s : Shared} {Qc : Value → Shared → Prop} {Ec : Value → Shared → Prop} (hA : AOk c A) (hs : IsF B c.fr env ρ σ s) (h : JoinW B c env ρ Q E es out σ)
    (k : ∀ r s' b σ', VR s'.heap b r → IsF B c.fr env ρ σ' s' → Ext σ s.heap σ' s'.heap → Q b σ' → Qc r s') (ke : ∀ e s', EF B c.fr env ρ σ s E e s' → Ec e s'), wpAny (model B.prog B.w) A (joinParts out (evalEach es env)) Qc Ec s
  | [], out, σ, s, Qc, Ec, hA, hs, h, k, ke => joinParts_nil (k _ _ (.str out) σ (.str _ _) (hs.toks _) (.refl ..) h.2) h.1
  | e :: rest, out, σ, s, Qc, Ec, hA, hs, h, k, ke => joinParts_cons (WE.run h hA hs (fun r s₁ v σ₁ hv hs₁ e₁ ⟨y, hy, hl, H⟩ => by
      subst hy
      cases hv
      exact ⟨hl, joinW_run hA hs₁ H (fun r s' b σ' h1 h2 h3 h4 => k r s' b σ' h1 h2 (e₁.trans h3) h4) fun e s' x => ke e s' (x.trans e₁)⟩) ke)
theorem Wx_Joined {v₁ v₂ : Expr} {rest : List Expr} {pos : Pos} (h : JoinW B c env ρ Q E (v₁ :: v₂ :: rest) Str.empty σ) : Wx B c env (.JoinedStr (v₁ :: v₂ :: rest) pos) ρ σ Q E :=
  fun A s hA hs => JoinedStr_many (joinW_run hA hs h (fun r s' b σ' h1 h2 h3 h4 => ⟨b, σ', h1, h2, h3, h4⟩) fun _ _ x => x)
theorem Wx_Fmt {value : Expr} {pos : Pos} (h : Wx B c env value ρ σ (fun v σ₁ => ∃ y, v = .str y ∧ y.length ≤ sizeLine ∧ Q (.str y) σ₁) E) : Wx B c env (.FormattedValue value (-1) none pos) ρ σ Q E :=
  fun A s hA hs => wpAny_FormattedValue_plain (h.run hA hs (fun r s₁ v σ₁ hv hs₁ e₁ ⟨y, hy, hl, q⟩ => by
    subst hy
    cases hv
    exact wpAny_formatField_str ⟨.str y, σ₁, .str _ _, hs₁, e₁, q⟩ ⟨.str y, σ₁, .str _ _, hs₁.toks _, e₁, q⟩ hl) fun _ _ x => x)
end
end Mine.Internal
end
section
open PySem PySem.W PyProof.Rows
namespace Mine.Internal
theorem lookup_rev {h : Heap} {names : List Str} {vs : List V} {cvs : List Value} (hv : VRs h vs cvs) (hn : names.Nodup) (hl : names.length = vs.length) {x : Str} {v : V} (e : getA x (names.zip vs) = some v) : ∃ c, (names.zip cvs).lookup x = some c ∧ VR h v c := by
  induction names generalizing vs cvs with
  | nil => cases e
  | cons n ns ih =>
    cases vs with
    | nil => cases hl
    | cons u us =>
      refine hv.cons' fun c r a b => ?_
      rw [List.zip_cons_cons, List.lookup_cons]
      have e : (if n = x then some u else getA x (ns.zip us)) = some v := e
      by_cases q : n = x
      · rw [if_pos q] at e
        exact ⟨c, by rw [q]; simp, Option.some.inj e ▸ a⟩
      · rw [if_neg q] at e
        obtain ⟨c', h1, h2⟩ := ih b (List.nodup_cons.mp hn).2 (Nat.succ.inj hl) e
        refine ⟨c', ?_, h2⟩
        have : (x == n) = false := by simp; exact fun z => q z.symm
        rw [this]; exact h1
theorem lookup_last {l : List (Str × Value)} {x : Str} {c : Value} (h : l.lookup x = some c) (hn : (l.map (·.1)).Nodup) : l.reverse.lookup x = some c := by
  induction l with
  | nil => cases h
  | cons p r ih =>
    obtain ⟨y, d⟩ := p
    have ap : ∀ (a b : List (Str × Value)), (a ++ b).lookup x = (match a.lookup x with | some v => some v | none => b.lookup x) := by
      intro a b
      induction a with
      | nil => rfl
      | cons q t iht => obtain ⟨z, w⟩ := q; rw [List.cons_append, List.lookup_cons, List.lookup_cons]; cases x == z <;> simp [iht]
    rw [List.reverse_cons, ap]
    rw [List.lookup_cons] at h
    rw [List.map_cons, List.nodup_cons] at hn
    cases q : x == y with
    | true =>
      rw [q] at h
      simp only [Option.some.injEq] at h
      have hxy : x = y := by simpa using q
      subst hxy
      have none_of : ∀ (l : List (Str × Value)), x ∉ l.map (·.1) → l.lookup x = none := by
        intro l hl
        induction l with
        | nil => rfl
        | cons p t iht =>
          obtain ⟨z, w⟩ := p
          rw [List.map_cons, List.mem_cons, not_or] at hl
          have : (x == z) = false := by simp; exact hl.1
          rw [List.lookup_cons, this]; exact iht hl.2
      rw [none_of r.reverse (by rw [List.map_reverse, List.mem_reverse]; exact hn.1)]
      simp [List.lookup, h]
    | false =>
      rw [q] at h
      rw [ih h hn.2]
noncomputable def startL : List Str → List V → List Str → Loc
  | n :: ns, v :: vs, ex => (n, some v) :: startL ns vs ex
  | _, _, ex => ex.map fun n => (n, none)
theorem startL_get {x : Str} {v : V} : ∀ {names : List Str} {vs : List V} {ex : List Str}, names.length = vs.length → getL x (startL names vs ex) = some v → getA x (names.zip vs) = some v
  | [], [], ex, _, e => by
    have : ∀ ex : List Str, getL x (ex.map fun n => (n, none)) = none := by
      intro ex
      induction ex with
      | nil => rfl
      | cons n r ih => rw [List.map_cons]; unfold getL; split <;> first | rfl | exact ih
    unfold startL at e
    rw [this] at e; cases e
  | n :: ns, u :: us, ex, hl, e => by
    unfold startL getL at e
    rw [List.zip_cons_cons]
    unfold getA
    by_cases q : n = x
    · rw [if_pos q] at e ⊢; exact e
    · rw [if_neg q] at e ⊢; exact startL_get (Nat.succ.inj hl) e
  | [], _ :: _, _, h, _ => by cases h
  | _ :: _, [], _, h, _ => by cases h
noncomputable def retK (Q : V → Store → Prop) : Fl → Loc → Store → Prop
  | .ret v, _, σ => Q v σ
  | _, _, σ => Q .none σ
noncomputable def deepC (c : Cx) (env : Env) : Cx := ⟨env :: c.fr, c.hd, c.dep + 1, c.un + 3⟩
section
variable {B : Bs} {c : Cx} {σ : Store} {Q : V → Store → Prop} {E : Addr → Store → Prop}
theorem codeAny_fn {f : Addr} {name qual : Str} {params : Arguments} {body : List Stmt} {scope : Scope} {dV kV doc pm cdv ct oc : Value} {an od : Option Addr} {osl : Array (Option Value)} {names ex : List Str} {vs ds : List V} {dcs : List Value} {A : Around} {s : Shared} {cvs : List Value} {R : Result → Shared → Prop}
    (ho : B.K.lookup f = some ⟨oc, od, .func (fnOf name qual params body scope dV kV doc pm an cdv ct), osl⟩) (hcd : codeIn B.K cdv qual = true)
    (hbind : ∀ s cvs, B.K.In s.heap → cvs.length = vs.length → BindsTo s (fnOf name qual params body scope dV kV doc pm an cdv ct) ⟨cvs, []⟩ (names.zip (cvs ++ dcs)))
    (hd : ∀ h, B.K.In h → VRs h ds dcs) (hnd : names.Nodup) (hlen : names.length = (vs ++ ds).length) (hloc : ∀ x ∈ names, scope.names.lookup x = some .local)
    (hcell : ∀ x ∈ scope.names, x.2 ≠ .cell) (hco : scope.isCoroutine = false) (hgen : scope.isGenerator = false) (hk : scope.kind = .function)
    (hroom : c.dep < recursionLimit) (hA : AOk c A) (hs : IsS B c.fr σ s) (hv : VRs s.heap vs cvs)
    (h : ∀ L, σ L = none → Wss B (deepC c (envOf qual scope L f cdv)) (envOf qual scope L f cdv) body (startL names (vs ++ ds) ex) σ (retK Q) (fun a _ σ' => E a σ'))
    (k : ∀ r s' b σ', VR s'.heap b r → IsS B c.fr σ' s' → Ext σ s.heap σ' s'.heap → Q b σ' → R (.ok (.ret r)) s') (ke : ∀ e s', EC B c.fr σ s E e s' → R (.error e) s') :
    codeAny (model B.prog B.w) A (.call (.ref f) ⟨cvs, []⟩) R s := by
  have KX := B.X.keeps hs.stays
  have hvd : VRs s.heap (vs ++ ds) (cvs ++ dcs) := hv.append (hd _ KX)
  have hlen' : names.length = (cvs ++ dcs).length := hlen.trans hvd.length.symm
  refine codeAny_call_def (fd := fnOf name qual params body scope dV kV doc pm an cdv ct) (body := body) (binds := names.zip (cvs ++ dcs)) (Nat.lt_of_le_of_lt hA.dep hroom) (KX _ _ ho) rfl (B.T.nolimit.keeps hs.stays) (codeRec_of KX hcd) rfl (hbind s cvs KX hv.length) hcell
    (fun y hy => hloc _ (List.of_mem_zip hy).1) (fun h₁ hns hk₁ => ?_) hco hgen hk
  show wpAny (model B.prog B.w) (A.deeper (envOf qual scope s.heap.objs.size f cdv)) (execs body (envOf qual scope s.heap.objs.size f cdv)) _ _ _
  generalize hL : s.heap.objs.size = L at *
  have hLn : s.heap.get? L = none := by
    cases q : s.heap.get? L with
    | none => rfl
    | some o => exact absurd (Heap.lt_size q) (by rw [hL]; exact Nat.lt_irrefl _)
  have hσL : σ L = none := by
    cases q : σ L with
    | none => rfl
    | some cc => exact absurd (hs.lt (a := L) (by rw [q]; simp)) (by rw [hL]; exact Nat.lt_irrefl _)
  have hbL : B.h₀.get? L = none := by
    cases q : B.h₀.get? L with
    | none => rfl
    | some o => rw [hs.stays L o q] at hLn; cases hLn
  obtain ⟨hs₁, e₁⟩ := hs.grown hk₁ (s.toks + (names.zip (cvs ++ dcs)).length)
  have hs₂ : IsS B (envOf qual scope L f cdv :: c.fr) σ { s with heap := h₁, toks := s.toks + (names.zip (cvs ++ dcs)).length } :=
    ⟨hs₁.stays, .cons (by show scope.kind ≠ .module; rw [hk]; decide) rfl hns hbL hs₁.frames, fun env he L' hL' => by
      cases he with
      | head => cases hL'; exact hσL
      | tail _ he => exact hs₁.off env he L' hL', hs₁.new, hs₁.cells, hs₁.gens, hs₁.drawn, hs₁.os⟩
  have hF : IsF B (deepC c (envOf qual scope L f cdv)).fr (envOf qual scope L f cdv) (startL names (vs ++ ds) ex) σ { s with heap := h₁, toks := s.toks + (names.zip (cvs ++ dcs)).length } := by
    refine ⟨hs₂, hσL, hbL, _, hns, fun x v e => ?_⟩
    obtain ⟨cv, h1, h2⟩ := lookup_rev hvd hnd hlen (startL_get hlen e)
    refine ⟨cv, lookup_last h1 ?_, h2.mono (keeps_tup hk₁)⟩
    rw [List.map_fst_zip (by lia)]; exact hnd
  have hA' : AOk (deepC c (envOf qual scope L f cdv)) (A.deeper (envOf qual scope L f cdv)) :=
    ⟨Around.frames_deeper hA.fr, hA.hd, Nat.succ_le_succ hA.dep, Nat.add_le_add_right hA.un 3⟩
  have out : ∀ {ρ' : Loc} {σ' : Store} {s' : Shared}, IsF B (deepC c (envOf qual scope L f cdv)).fr (envOf qual scope L f cdv) ρ' σ' s' → ExtS L σ h₁ σ' s'.heap → IsS B c.fr σ' s' ∧ Ext σ s.heap σ' s'.heap := fun {ρ' σ' s'} x e => by
    obtain ⟨_, _, hr⟩ := x.S.frames
    refine ⟨⟨x.S.stays, hr, fun env he => x.S.off env (.tail _ he), x.S.new, x.S.cells, x.S.gens, x.S.drawn, x.S.os⟩, fun a o vs' q d n => ?_, fun a q => ?_, fun a o q n => ?_, fun a q => ?_⟩
    · have : a ≠ L := fun z => by rw [z, hLn] at q; cases q
      exact e.fix a o vs' this (hk₁ _ _ q) d n
    · have := e.live a q
      cases z : s.heap.get? a with
      | none => rfl
      | some o => rw [hk₁ _ _ z] at this; cases this
    · have : a ≠ L := fun z => by rw [z, hLn] at q; cases q
      exact e.keep a o this (hk₁ _ _ q) n
    · rcases e.dom a q with z | z
      · exact .inl z
      · refine .inr ?_
        cases y : s.heap.get? a with
        | none => rfl
        | some o => rw [hk₁ _ _ y] at z; cases z
  refine (h L hσL).run hA' hF (fun r s' b ρ' σ' hr hs' e' q => ?_) fun e s' x => ?_
  · obtain ⟨y, z⟩ := out hs' e'
    cases hr with
    | next => exact k _ _ .none σ' .none y z q
    | brk => exact k _ _ .none σ' .none y z q
    | cont => exact k _ _ .none σ' .none y z q
    | ret hv => exact k _ _ _ σ' hv y z q
  · obtain ⟨a, ρ', σ', rfl, h2, h3, h4, h5, h6⟩ := x
    unfold leaving
    have l1 : ∀ b, h₁.get? b = none → s.heap.get? b = none := e₁.live
    have tb : TB s.heap σ' s'.heap a := h4.earlier l1
    obtain ⟨_, z⟩ := out h2 h3
    refine wpAny_bind (note_run (A := A.deeper (envOf qual scope L f cdv)) (Around.frames_deeper hA.fr) rfl h2.S hs.stays z.live tb h5 fun h' y t tb' kt => ?_)
    refine flight_run y hs.stays tb' fun h'' y' t' tb'' kt' => ke _ _ ?_
    obtain ⟨_, _, hr⟩ := y'.frames
    exact ⟨a, σ', rfl, ⟨y'.stays, hr, fun env he => y'.off env (.tail _ he), y'.new, y'.cells, y'.gens, y'.drawn, y'.os⟩, z.tch (t.trans t'), tb''.1, h5, h6⟩
theorem CW_def {f : Addr} {name qual : Str} {params : Arguments} {body : List Stmt} {scope : Scope} {dV kV doc pm cdv ct oc : Value} {an od : Option Addr} {osl : Array (Option Value)} {names ex : List Str} {vs ds : List V} {dcs : List Value}
    (ho : B.K.lookup f = some ⟨oc, od, .func (fnOf name qual params body scope dV kV doc pm an cdv ct), osl⟩) (hcd : codeIn B.K cdv qual = true)
    (hbind : ∀ s cvs, B.K.In s.heap → cvs.length = vs.length → BindsTo s (fnOf name qual params body scope dV kV doc pm an cdv ct) ⟨cvs, []⟩ (names.zip (cvs ++ dcs)))
    (hd : ∀ h, B.K.In h → VRs h ds dcs) (hnd : names.Nodup) (hlen : names.length = (vs ++ ds).length) (hloc : ∀ x ∈ names, scope.names.lookup x = some .local)
    (hcell : ∀ x ∈ scope.names, x.2 ≠ .cell) (hco : scope.isCoroutine = false) (hgen : scope.isGenerator = false) (hk : scope.kind = .function)
    (hroom : c.dep < recursionLimit)
    (h : ∀ L, σ L = none → Wss B (deepC c (envOf qual scope L f cdv)) (envOf qual scope L f cdv) body (startL names (vs ++ ds) ex) σ (retK Q) (fun a _ σ' => E a σ')) :
    CW B c (callF (.ref f)) vs σ VR Q E := fun A s cvs hA hs hv =>
  wpAny_call (codeAny_fn ho hcd hbind hd hnd hlen hloc hcell hco hgen hk hroom hA hs hv h (fun r s' b σ' h1 h2 h3 h4 => ⟨b, σ', h1, h2, h3, h4⟩) fun e s' x => x)
theorem envOf_ok {qual : Str} {scope : Scope} {L f : Addr} {cdv : Value} (hk : scope.kind = .function) : EnvOK (envOf qual scope L f cdv) := ⟨hk, rfl, rfl⟩
theorem envOf_fr {c : Cx} {qual : Str} {scope : Scope} {L f : Addr} {cdv : Value} : FrOK (deepC c (envOf qual scope L f cdv)) (envOf qual scope L f cdv) := ⟨⟨_, rfl⟩, rfl⟩
end
end Mine.Internal
end
section
open PySem PySem.W PyProof.Rows
namespace Mine.Internal
section
variable {α β : Type} {B : Bs} {c : Cx} {σ : Store} {Rel : Heap → β → α → Prop}
theorem CW1 {g : Value → Sem α} {a : V} {Q : β → Store → Prop} {E : Addr → Store → Prop} (H : ∀ A s ca, AOk c A → IsS B c.fr σ s → VR s.heap a ca →
    wpAny (model B.prog B.w) A (g ca) (BhC B c.fr σ s.heap Rel Q) (EC B c.fr σ s E) s) : CW B c (op1 g) [a] σ Rel Q E := by
  intro A s cvs hA hs hv
  exact hv.one' fun _ x => H A s _ hA hs x
theorem CW2 {g : Value → Value → Sem α} {a b : V} {Q : β → Store → Prop} {E : Addr → Store → Prop} (H : ∀ A s ca cb, AOk c A → IsS B c.fr σ s → VR s.heap a ca → VR s.heap b cb →
    wpAny (model B.prog B.w) A (g ca cb) (BhC B c.fr σ s.heap Rel Q) (EC B c.fr σ s E) s) : CW B c (op2 g) [a, b] σ Rel Q E := by
  intro A s cvs hA hs hv
  exact hv.two' fun _ _ x y => H A s _ _ hA hs x y
theorem CW3 {g : Value → Value → Value → Sem α} {a b d : V} {Q : β → Store → Prop} {E : Addr → Store → Prop} (H : ∀ A s ca cb cd, AOk c A → IsS B c.fr σ s → VR s.heap a ca → VR s.heap b cb → VR s.heap d cd →
    wpAny (model B.prog B.w) A (g ca cb cd) (BhC B c.fr σ s.heap Rel Q) (EC B c.fr σ s E) s) : CW B c (op3 g) [a, b, d] σ Rel Q E := by
  intro A s cvs hA hs hv
  exact hv.three' fun _ _ _ x y z => H A s _ _ _ hA hs x y z
theorem CF1 {f a : V} {Q : V → Store → Prop} {E : Addr → Store → Prop} (H : ∀ A s ca, AOk c A → IsS B c.fr σ s → VR s.heap a ca →
    wpAny (model B.prog B.w) A (call (conc f) [ca]) (BhC B c.fr σ s.heap VR Q) (EC B c.fr σ s E) s) : CW B c (callF f) [a] σ VR Q E := by
  intro A s cvs hA hs hv
  exact hv.one' fun _ x => H A s _ hA hs x
theorem CF2 {f a b : V} {Q : V → Store → Prop} {E : Addr → Store → Prop} (H : ∀ A s ca cb, AOk c A → IsS B c.fr σ s → VR s.heap a ca → VR s.heap b cb →
    wpAny (model B.prog B.w) A (call (conc f) [ca, cb]) (BhC B c.fr σ s.heap VR Q) (EC B c.fr σ s E) s) : CW B c (callF f) [a, b] σ VR Q E := by
  intro A s cvs hA hs hv
  exact hv.two' fun _ _ x y => H A s _ _ hA hs x y
theorem CF3 {f a b d : V} {Q : V → Store → Prop} {E : Addr → Store → Prop} (H : ∀ A s ca cb cd, AOk c A → IsS B c.fr σ s → VR s.heap a ca → VR s.heap b cb → VR s.heap d cd →
    wpAny (model B.prog B.w) A (call (conc f) [ca, cb, cd]) (BhC B c.fr σ s.heap VR Q) (EC B c.fr σ s E) s) : CW B c (callF f) [a, b, d] σ VR Q E := by
  intro A s cvs hA hs hv
  exact hv.three' fun _ _ _ x y z => H A s _ _ _ hA hs x y z
end
section
variable {B : Bs} {c : Cx} {σ : Store} {Q : V → Store → Prop} {E : Addr → Store → Prop}
-- ints
theorem O_add {x y : Int} (h : Q (.int (x + y)) σ) : CW B c (op2 (binaryOp .Add)) [.int x, .int y] σ VR Q E :=
  CW2 fun A s _ _ hA hs a b => by refine a.int' fun _ => ?_; refine b.int' fun _ => ?_; with_reducible exact PyProof.Rows.add_int ⟨_, σ, .int _ _, hs.toks _, .refl .., h⟩
theorem O_sub {x y : Int} (h : Q (.int (x - y)) σ) : CW B c (op2 (binaryOp .Sub)) [.int x, .int y] σ VR Q E :=
  CW2 fun A s _ _ hA hs a b => by refine a.int' fun _ => ?_; refine b.int' fun _ => ?_; with_reducible exact PyProof.Rows.sub_int ⟨_, σ, .int _ _, hs.toks _, .refl .., h⟩
theorem O_mul {x y : Int} (hm : IntMulOk x y) (h : Q (.int (x * y)) σ) : CW B c (op2 (binaryOp .Mult)) [.int x, .int y] σ VR Q E :=
  CW2 fun A s _ _ hA hs a b => by refine a.int' fun _ => ?_; refine b.int' fun _ => ?_; with_reducible exact PyProof.Rows.mul_int ⟨_, σ, .int _ _, hs.toks _, .refl .., h⟩ hm
theorem O_fdiv {x y : Int} (hy : y ≠ 0) (hp : Builtin.divisionGoesByPylong x y = false) (h : Q (.int (x.fdiv y)) σ) : CW B c (op2 (binaryOp .FloorDiv)) [.int x, .int y] σ VR Q E :=
  CW2 fun A s _ _ hA hs a b => by refine a.int' fun _ => ?_; refine b.int' fun _ => ?_; with_reducible exact PyProof.Rows.floordiv_int hy ⟨_, σ, .int _ _, hs.toks _, .refl .., h⟩ (.inl hp)
theorem O_mod {x y : Int} (hy : y ≠ 0) (h : Q (.int (x.fmod y)) σ) : CW B c (op2 (binaryOp .Mod)) [.int x, .int y] σ VR Q E :=
  CW2 fun A s _ _ hA hs a b => by refine a.int' fun _ => ?_; refine b.int' fun _ => ?_; with_reducible exact PyProof.Rows.mod_int' hy ⟨_, σ, .int _ _, hs.toks _, .refl .., h⟩
theorem O_and {x y : Int} (h : Q (.int (Builtin.bitAnd x y)) σ) : CW B c (op2 (binaryOp .BitAnd)) [.int x, .int y] σ VR Q E :=
  CW2 fun A s _ _ hA hs a b => by refine a.int' fun _ => ?_; refine b.int' fun _ => ?_; with_reducible exact PyProof.Rows.and_int ⟨_, σ, .int _ _, hs.toks _, .refl .., h⟩
theorem O_pow {x n : Int} (hn : 0 ≤ n) (hsz : (Builtin.Int.intBits x : Int) * n ≤ 2 ^ 27) (h : Q (.int (x ^ n.toNat)) σ) : CW B c (op2 (binaryOp .Pow)) [.int x, .int n] σ VR Q E :=
  CW2 fun A s _ _ hA hs a b => by refine a.int' fun _ => ?_; refine b.int' fun _ => ?_; with_reducible exact PyProof.Rows.pow_int hn hsz ⟨_, σ, .int _ _, hs.toks _, .refl .., h⟩
theorem O_iadd {x y : Int} (h : Q (.int (x + y)) σ) : CW B c (op2 (inplaceOp .Add)) [.int x, .int y] σ VR Q E :=
  CW2 fun A s _ _ hA hs a b => by refine a.int' fun _ => ?_; refine b.int' fun _ => ?_; with_reducible exact PyProof.Rows.iadd_int ⟨_, σ, .int _ _, hs.toks _, .refl .., h⟩
theorem O_isub {x y : Int} (h : Q (.int (x - y)) σ) : CW B c (op2 (inplaceOp .Sub)) [.int x, .int y] σ VR Q E :=
  CW2 fun A s _ _ hA hs a b => by refine a.int' fun _ => ?_; refine b.int' fun _ => ?_; with_reducible exact PyProof.Rows.isub_int ⟨_, σ, .int _ _, hs.toks _, .refl .., h⟩
theorem O_eq {x y : Int} (h : Q (.bool (x == y)) σ) : CW B c (op2 (compareOp .Eq)) [.int x, .int y] σ VR Q E :=
  CW2 fun A s _ _ hA hs a b => by refine a.int' fun _ => ?_; refine b.int' fun _ => ?_; with_reducible exact PyProof.Rows.eq_int ⟨_, σ, .bool _, hs, .refl .., h⟩
theorem O_ne {x y : Int} (h : Q (.bool (x != y)) σ) : CW B c (op2 (compareOp .NotEq)) [.int x, .int y] σ VR Q E :=
  CW2 fun A s _ _ hA hs a b => by refine a.int' fun _ => ?_; refine b.int' fun _ => ?_; with_reducible exact PyProof.Rows.ne_int ⟨_, σ, .bool _, hs, .refl .., h⟩
theorem O_lt {x y : Int} (h : Q (.bool (decide (x < y))) σ) : CW B c (op2 (compareOp .Lt)) [.int x, .int y] σ VR Q E :=
  CW2 fun A s _ _ hA hs a b => by refine a.int' fun _ => ?_; refine b.int' fun _ => ?_; with_reducible exact PyProof.Rows.lt_int ⟨_, σ, .bool _, hs, .refl .., h⟩
theorem O_le {x y : Int} (h : Q (.bool (decide (x ≤ y))) σ) : CW B c (op2 (compareOp .LtE)) [.int x, .int y] σ VR Q E :=
  CW2 fun A s _ _ hA hs a b => by refine a.int' fun _ => ?_; refine b.int' fun _ => ?_; with_reducible exact PyProof.Rows.le_int ⟨_, σ, .bool _, hs, .refl .., h⟩
theorem O_gt {x y : Int} (h : Q (.bool (decide (y < x))) σ) : CW B c (op2 (compareOp .Gt)) [.int x, .int y] σ VR Q E :=
  CW2 fun A s _ _ hA hs a b => by refine a.int' fun _ => ?_; refine b.int' fun _ => ?_; with_reducible exact PyProof.Rows.gt_int ⟨_, σ, .bool _, hs, .refl .., h⟩
theorem O_ge {x y : Int} (h : Q (.bool (decide (y ≤ x))) σ) : CW B c (op2 (compareOp .GtE)) [.int x, .int y] σ VR Q E :=
  CW2 fun A s _ _ hA hs a b => by refine a.int' fun _ => ?_; refine b.int' fun _ => ?_; with_reducible exact PyProof.Rows.ge_int ⟨_, σ, .bool _, hs, .refl .., h⟩
theorem O_neg {x : Int} (h : Q (.int (-x)) σ) : CW B c (op1 (unaryOp .USub)) [.int x] σ VR Q E :=
  CW1 fun A s _ hA hs a => by refine a.int' fun _ => ?_; with_reducible exact PyProof.Rows.neg_int ⟨_, σ, .int _ _, hs.toks _, .refl .., h⟩
-- bools
theorem O_eqb {x y : Bool} (h : Q (.bool (x == y)) σ) : CW B c (op2 (compareOp .Eq)) [.bool x, .bool y] σ VR Q E :=
  CW2 fun A s _ _ hA hs a b => by refine a.bool' ?_; refine b.bool' ?_; with_reducible exact PyProof.Rows.eq_bool ⟨_, σ, .bool _, hs, .refl .., h⟩
theorem O_neb {x y : Bool} (h : Q (.bool (x != y)) σ) : CW B c (op2 (compareOp .NotEq)) [.bool x, .bool y] σ VR Q E :=
  CW2 fun A s _ _ hA hs a b => by refine a.bool' ?_; refine b.bool' ?_; with_reducible exact PyProof.Rows.ne_bool ⟨_, σ, .bool _, hs, .refl .., h⟩
theorem T_bool {x : Bool} {Q : Bool → Store → Prop} (h : Q x σ) : CW B c (op1 truthy) [.bool x] σ REq Q E :=
  CW1 fun A s _ hA hs a => by refine a.bool' ?_; exact wpAny_truthy_bool ⟨_, σ, rfl, hs, .refl .., h⟩
theorem O_not {v : V} (h : CW B c (op1 truthy) [v] σ REq (fun b σ' => Q (.bool (!b)) σ') E) : CW B c (op1 (unaryOp .Not)) [v] σ VR Q E :=
  CW1 fun A s _ hA hs a => PyProof.Rows.not_of (CW.runS (cvs := [_]) h hA hs (.cons a .nil) (fun r s' b σ' h1 h2 h3 h4 => by cases h1; exact ⟨_, σ', .bool _, h2, h3, h4⟩) fun e s' x => x)
-- strs
theorem O_adds {x y : Str} (hsz : x.length + y.length ≤ sizeLine) (h : Q (.str (x ++ y)) σ) : CW B c (op2 (binaryOp .Add)) [.str x, .str y] σ VR Q E :=
  CW2 fun A s _ _ hA hs a b => by refine a.str' fun _ => ?_; refine b.str' fun _ => ?_; with_reducible exact PyProof.Rows.add_str (fun t' tk => ⟨_, σ, .str _ _, hs.toks _, .refl .., h⟩) hsz
theorem O_eqs {x y : Str} (h : Q (.bool (x == y)) σ) : CW B c (op2 (compareOp .Eq)) [.str x, .str y] σ VR Q E :=
  CW2 fun A s _ _ hA hs a b => by refine a.str' fun _ => ?_; refine b.str' fun _ => ?_; with_reducible exact PyProof.Rows.eq_str ⟨_, σ, .bool _, hs, .refl .., h⟩
theorem O_nes {x y : Str} (h : Q (.bool (x != y)) σ) : CW B c (op2 (compareOp .NotEq)) [.str x, .str y] σ VR Q E :=
  CW2 fun A s _ _ hA hs a b => by refine a.str' fun _ => ?_; refine b.str' fun _ => ?_; with_reducible exact PyProof.Rows.ne_str ⟨_, σ, .bool _, hs, .refl .., h⟩
theorem O_lts {x y : Str} (h : Q (.bool (x.cps.toList < y.cps.toList)) σ) : CW B c (op2 (compareOp .Lt)) [.str x, .str y] σ VR Q E :=
  CW2 fun A s _ _ hA hs a b => by refine a.str' fun _ => ?_; refine b.str' fun _ => ?_; with_reducible exact PyProof.Rows.lt_str ⟨_, σ, .bool _, hs, .refl .., h⟩
-- None
noncomputable def VNone : V → Bool
  | .none => true
  | _ => false
theorem vnone_is {h : Heap} {v : V} {cv : Value} (x : VR h v cv) : (cv == Value.none) = VNone v := by cases x <;> rfl
theorem O_is {v : V} (h : Q (.bool (VNone v)) σ) : CW B c (op2 (compareOp .Is)) [v, .none] σ VR Q E :=
  CW2 fun A s _ _ hA hs a b => by refine b.none' ?_; exact is_none (by rw [vnone_is a]; exact ⟨_, σ, .bool _, hs, .refl .., h⟩)
theorem O_isNot {v : V} (h : Q (.bool (!VNone v)) σ) : CW B c (op2 (compareOp .IsNot)) [v, .none] σ VR Q E :=
  CW2 fun A s _ _ hA hs a b => by refine b.none' ?_; exact isNot_none (by rw [vnone_is a]; exact ⟨_, σ, .bool _, hs, .refl .., h⟩)
-- in
theorem strsAre {h : Heap} {ys : List Str} {cs : List Value} (x : VRs h (ys.map V.str) cs) : StrsAre cs ys := by
  induction ys generalizing cs with
  | nil => exact x.nil' .nil
  | cons y ys ih => exact x.cons' fun c r a b => a.str' (P := fun c => StrsAre (c :: r) (y :: ys)) fun t => .cons _ t (ih b)
theorem O_inTup {x : Str} {ys : List Str} {l : List V} (hl : l = ys.map V.str) (h : Q (.bool (ys.any (· == x))) σ) : CW B c (op2 (compareOp .In)) [.str x, .tup l] σ VR Q E :=
  CW2 fun A s _ _ hA hs a b => by
    subst hl
    refine a.str' fun _ => ?_
    refine b.tup' fun vs a t l => ?_
    ·
      have ht : IsTup s.heap a vs.toArray := t
      have hl : StrsAre vs.toArray.toList ys := strsAre l
      with_reducible refine in_tuple_strs ht hl ?_
      exact ⟨_, σ, .bool _, hs, .refl .., h⟩
theorem O_inList {x : Str} {ys : List Str} {a : Addr} (ha : σ a = some (.list (ys.map V.str))) (h : Q (.bool (ys.any (· == x))) σ) : CW B c (op2 (compareOp .In)) [.str x, .ref a] σ VR Q E :=
  CW2 fun A s _ _ hA hs va vb => by
    refine va.str' fun _ => ?_
    refine vb.ref' ?_
    obtain ⟨vs, n, ho, hv⟩ := hs.cells a _ ha
    have hl : s.heap.IsList a vs.toArray := ⟨_, ho, rfl, n, rfl⟩
    with_reducible refine in_list_strs hl (strsAre hv) ?_
    exact ⟨_, σ, .bool _, hs, .refl .., h⟩
-- lists
theorem T_list {a : Addr} {l : List V} {Q : Bool → Store → Prop} (ha : σ a = some (.list l)) (hl : l.length < 2 ^ 62) (h : Q (!l.isEmpty) σ) : CW B c (op1 truthy) [.ref a] σ REq Q E :=
  CW1 fun A s _ hA hs va => by
    refine va.ref' ?_
    obtain ⟨vs, n, ho, hv⟩ := hs.cells a _ ha
    have hlen := hv.length
    refine wpAny_truthy_list (items := vs.toArray) ⟨_, ho, rfl, n, rfl⟩ (by rw [List.size_toArray, hlen]; lia) ⟨_, σ, ?_, hs.toks _, .refl .., h⟩
    cases hv <;> rfl
theorem F_len_str {x : Str} (hx : x.length < 2 ^ 62) (h : Q (.int x.length) σ) : CW B c (callF (.bi "len")) [.str x] σ VR Q E :=
  CF1 fun A s _ hA hs va => by
    refine va.str' fun _ => ?_
    show wpAny _ A (call (.builtin "len") _) _ _ s
    have h1 : ¬ (x.length : Int) ≥ 2 ^ 63 := by lia
    with_reducible refine PyProof.Rows.len_str h1 ?_
    exact ⟨_, σ, .int _ _, hs.toks _, .refl .., h⟩
theorem F_len_list {a : Addr} {l : List V} (ha : σ a = some (.list l)) (hl : l.length < 2 ^ 62) (h : Q (.int l.length) σ) : CW B c (callF (.bi "len")) [.ref a] σ VR Q E :=
  CF1 fun A s _ hA hs va => by
    refine va.ref' ?_
    obtain ⟨vs, n, ho, hv⟩ := hs.cells a _ ha
    have hlen := hv.length
    show wpAny _ A (call (.builtin "len") _) _ _ s
    have h1 : s.heap.IsList a vs.toArray := ⟨_, ho, rfl, n, rfl⟩
    have h2 : (vs.toArray.size : Int) < 2 ^ 63 := by rw [List.size_toArray, hlen]; lia
    with_reducible refine PyProof.Rows.len_list h1 h2 ?_
    exact ⟨_, σ, by rw [List.size_toArray, hlen]; exact .int _ _, hs.toks _, .refl .., h⟩
theorem F_len_tup {l : List V} (hl : l.length < 2 ^ 62) (h : Q (.int l.length) σ) : CW B c (callF (.bi "len")) [.tup l] σ VR Q E :=
  CF1 fun A s _ hA hs va => by
    refine va.tup' fun vs a t hv => ?_
    ·
      show wpAny _ A (call (.builtin "len") _) _ _ s
      have hlen := hv.length
      have h1 : IsTup s.heap a vs.toArray := t
      have h2 : (vs.toArray.size : Int) < 2 ^ 63 := by rw [List.size_toArray, hlen]; lia
      with_reducible refine PyProof.Rows.len_tuple h1 h2 ?_
      exact ⟨_, σ, by rw [List.size_toArray, hlen]; exact .int _ _, hs.toks _, .refl .., h⟩
theorem F_str_int {x : Int} (ha : x.natAbs.log2 < 1920) (h : Q (.str (toString x)) σ) : CW B c (callF (.ty "str")) [.int x] σ VR Q E :=
  CF1 fun A s _ hA hs va => by
    refine va.int' fun _ => ?_
    show wpAny _ A (call (.type "str") _) _ _ s
    with_reducible refine PySem.P.str_of_int ha ?_
    exact ⟨_, σ, .str _ _, hs.toks _, .refl .., h⟩
theorem F_ord {x : Str} (h1 : x.length = 1) (h : Q (.int (x.cps.getD 0 0 : Nat)) σ) : CW B c (callF (.bi "ord")) [.str x] σ VR Q E :=
  CF1 fun A s _ hA hs va => by
    refine va.str' fun _ => ?_
    show wpAny _ A (call (.builtin "ord") _) _ _ s
    with_reducible refine ord_of_one h1 ?_
    exact ⟨_, σ, .int _ _, hs.toks _, .refl .., h⟩
end
end Mine.Internal
end
section
open PySem PySem.W PyProof.Rows
namespace Mine.Internal
/-- locals by the scope's own list of names -/
noncomputable def zs : List (Str × NameKind) → List (Option V) → Loc
  | (x, _) :: r, v :: vs => (x, v) :: zs r vs
  | _, _ => []
inductive NA : List (Str × NameKind) → List (Option V) → Str → V → Prop
  | here {x : Str} {ns : List (Str × NameKind)} {v : V} {l : List (Option V)} : NA ((x, .local) :: ns) (some v :: l) x v
  | there {p : Str × NameKind} {ns : List (Str × NameKind)} {u : Option V} {l : List (Option V)} {x : Str} {v : V} : NA ns l x v → NA (p :: ns) (u :: l) x v
inductive NP : List (Str × NameKind) → List (Option V) → Str → V → List (Option V) → Prop
  | here {x : Str} {ns : List (Str × NameKind)} {v : V} {u : Option V} {l : List (Option V)} : NP ((x, .local) :: ns) (u :: l) x v (some v :: l)
  | there {p : Str × NameKind} {ns : List (Str × NameKind)} {u : Option V} {l l' : List (Option V)} {x : Str} {v : V} : NP ns l x v l' → NP (p :: ns) (u :: l) x v (u :: l')
inductive KAt : List (Str × NameKind) → Str → NameKind → Prop
  | here {x : Str} {k : NameKind} {r : List (Str × NameKind)} : KAt ((x, k) :: r) x k
  | there {p : Str × NameKind} {r : List (Str × NameKind)} {x : Str} {k : NameKind} : KAt r x k → KAt (p :: r) x k
inductive NPs : List (Str × NameKind) → List (Option V) → List Str → List V → List (Option V) → Prop
  | nil {ns : List (Str × NameKind)} {l : List (Option V)} : NPs ns l [] [] l
  | cons {ns : List (Str × NameKind)} {l l' l'' : List (Option V)} {x : Str} {v : V} {xs : List Str} {vs : List V} : NP ns l x v l' → NPs ns l' xs vs l'' → NPs ns l (x :: xs) (v :: vs) l''
theorem KAt.mem {ns : List (Str × NameKind)} {x : Str} {k : NameKind} (a : KAt ns x k) : x ∈ ns.map (·.1) := by
  induction a with
  | here => exact .head _
  | there _ ih => exact .tail _ ih
theorem KAt.look {ns : List (Str × NameKind)} {x : Str} {k : NameKind} (a : KAt ns x k) (n : (ns.map (·.1)).Nodup) : ns.lookup x = some k := by
  induction a with
  | here => rw [List.lookup_cons]; simp
  | @there p r x k h ih =>
    rw [List.map_cons, List.nodup_cons] at n
    have : ¬ x = p.1 := fun e => n.1 (e ▸ h.mem)
    have : (x == p.1) = false := by simpa using this
    rw [List.lookup_cons, this]; exact ih n.2
theorem NA.kat {ns : List (Str × NameKind)} {l : List (Option V)} {x : Str} {v : V} (a : NA ns l x v) : KAt ns x .local := by
  induction a with
  | here => exact .here
  | there _ ih => exact .there ih
theorem NP.kat {ns : List (Str × NameKind)} {l l' : List (Option V)} {x : Str} {v : V} (a : NP ns l x v l') : KAt ns x .local := by
  induction a with
  | here => exact .here
  | there _ ih => exact .there ih
theorem NA.get {ns : List (Str × NameKind)} {l : List (Option V)} {x : Str} {v : V} (a : NA ns l x v) (n : (ns.map (·.1)).Nodup) : getL x (zs ns l) = some v := by
  induction a with
  | here => exact if_pos rfl
  | @there p ns u l x v h ih =>
    rw [List.map_cons, List.nodup_cons] at n
    have : ¬ p.1 = x := fun e => n.1 (e ▸ h.kat.mem)
    show (if p.1 = x then u else getL x (zs ns l)) = _
    rw [if_neg this]; exact ih n.2
theorem NP.set {ns : List (Str × NameKind)} {l l' : List (Option V)} {x : Str} {v : V} (a : NP ns l x v l') (n : (ns.map (·.1)).Nodup) : setL x v (zs ns l) = zs ns l' := by
  induction a with
  | here => exact if_pos rfl
  | @there p ns u l l' x v h ih =>
    rw [List.map_cons, List.nodup_cons] at n
    have : ¬ p.1 = x := fun e => n.1 (e ▸ h.kat.mem)
    show (if p.1 = x then (p.1, some v) :: zs ns l else (p.1, u) :: setL x v (zs ns l)) = _
    rw [if_neg this, ih n.2]; rfl
theorem NPs.set {ns : List (Str × NameKind)} {l l' : List (Option V)} {xs : List Str} {vs : List V} (a : NPs ns l xs vs l') (n : (ns.map (·.1)).Nodup) : setLs xs vs (zs ns l) = zs ns l' := by
  induction a with
  | nil => rfl
  | cons h _ ih => unfold setLs; rw [h.set n]; exact ih
theorem NPs.loc {ns : List (Str × NameKind)} {l l' : List (Option V)} {xs : List Str} {vs : List V} (a : NPs ns l xs vs l') : ∀ x ∈ xs, KAt ns x .local := by
  induction a with
  | nil => intro x h; cases h
  | cons h _ ih => intro x hx; cases hx with
    | head => exact h.kat
    | tail _ hx => exact ih x hx
theorem NPs.len {ns : List (Str × NameKind)} {l l' : List (Option V)} {xs : List Str} {vs : List V} (a : NPs ns l xs vs l') : xs.length = vs.length := by
  induction a with
  | nil => rfl
  | cons h _ ih => rw [List.length_cons, List.length_cons, ih]
structure FnS (sc : Scope) : Prop where
  kind : sc.kind = .function
  nod : (sc.names.map (·.1)).Nodup
  dbg : ∀ x k, KAt sc.names x k → (x == ("__debug__" : Str)) = false
noncomputable def nodupB : List Str → Bool
  | [] => true
  | x :: r => !r.contains x && nodupB r
theorem nodupB_ok : ∀ {l : List Str}, nodupB l = true → l.Nodup
  | [], _ => .nil
  | x :: r, h => by
    unfold nodupB at h
    simp only [Bool.and_eq_true, Bool.not_eq_true', List.contains_eq_mem, decide_eq_false_iff_not] at h
    exact List.nodup_cons.mpr ⟨h.1, nodupB_ok h.2⟩
noncomputable def checkS (sc : Scope) (n : Nat) : Bool :=
  decide (sc.kind = .function) && nodupB (sc.names.map (·.1)) && sc.names.all (fun x => !(x.1 == ("__debug__" : Str)) && decide (x.2 ≠ .cell)) && (sc.names.take n).all (fun x => decide (x.2 = .local)) && !sc.isCoroutine && !sc.isGenerator && decide (n ≤ sc.names.length)
theorem checkS_ok {sc : Scope} {n : Nat} (h : checkS sc n = true) : FnS sc ∧ (∀ x ∈ sc.names, x.2 ≠ .cell) ∧ (∀ x ∈ sc.names.take n, x.2 = .local) ∧ sc.isCoroutine = false ∧ sc.isGenerator = false ∧ n ≤ sc.names.length := by
  unfold checkS at h
  simp only [Bool.and_eq_true, decide_eq_true_eq, Bool.not_eq_true', List.all_eq_true] at h
  obtain ⟨⟨⟨⟨⟨⟨h1, h2⟩, h3⟩, h4⟩, h5⟩, h6⟩, h7⟩ := h
  refine ⟨⟨h1, nodupB_ok h2, fun x k a => ?_⟩, fun x hx => (h3 x hx).2, h4, h5, h6, h7⟩
  obtain ⟨p, hp, rfl⟩ := List.mem_map.mp a.mem
  exact (h3 p hp).1
theorem zs_start : ∀ {ns : List (Str × NameKind)} {l : List V} {n : Nat}, l.length = n → n ≤ ns.length → startL ((ns.take n).map (·.1)) l ((ns.drop n).map (·.1)) = zs ns (l.map some ++ List.replicate (ns.length - n) none)
  | ns, [], n, h, hn => by
    subst h
    simp only [List.length_nil, List.take_zero, List.map_nil, List.drop_zero, List.nil_append, Nat.sub_zero]
    show (ns.map (·.1)).map (fun n => (n, none)) = _
    induction ns with
    | nil => rfl
    | cons p r ih => simp only [List.map_cons, List.length_cons, List.replicate_succ, zs]; rw [ih (Nat.zero_le _)]
  | [], v :: l, n, h, hn => by subst h; simp at hn
  | p :: ns, v :: l, n, h, hn => by
    subst h
    simp only [List.length_cons, List.take_succ_cons, List.map_cons, List.drop_succ_cons, List.cons_append, Nat.add_sub_add_right]
    unfold startL zs
    rw [zs_start rfl (by simpa using hn)]
section
variable {B : Bs} {c : Cx} {σ : Store} {Q : V → Store → Prop} {E : Addr → Store → Prop}
theorem D_bind {fd : FuncData} {names : List Str} {dcs : List Value} {n : Nat} (h : ∀ cvs, cvs.length = n → bindArgs fd ⟨cvs, []⟩ = pure (names.zip (cvs ++ dcs))) : ∀ (s : Shared) cvs, cvs.length = n → B.K.In s.heap → BindsTo s fd ⟨cvs, []⟩ (names.zip (cvs ++ dcs)) :=
  fun _ cvs hl _ => .of_eq (h cvs hl)
theorem len0 {α : Type} {l : List α} (h : l.length = 0) : l = [] := List.length_eq_zero_iff.mp h
theorem len1 {α : Type} {l : List α} (h : l.length = 1) : ∃ a, l = [a] := List.length_eq_one_iff.mp h
theorem lenS {α : Type} {l : List α} {n : Nat} (h : l.length = n + 1) : ∃ a r, l = a :: r ∧ r.length = n := by
  cases l with
  | nil => cases h
  | cons a r => exact ⟨a, r, rfl, Nat.succ.inj h⟩
theorem len2 {α : Type} {l : List α} (h : l.length = 2) : ∃ a b, l = [a, b] := by
  obtain ⟨a, r, rfl, h2⟩ := lenS h
  obtain ⟨b, rfl⟩ := len1 h2
  exact ⟨a, b, rfl⟩
theorem len3 {α : Type} {l : List α} (h : l.length = 3) : ∃ a b d, l = [a, b, d] := by
  obtain ⟨a, r, rfl, h2⟩ := lenS h
  obtain ⟨b, d, rfl⟩ := len2 h2
  exact ⟨a, b, d, rfl⟩
theorem len4 {α : Type} {l : List α} (h : l.length = 4) : ∃ a b d e, l = [a, b, d, e] := by
  obtain ⟨a, r, rfl, h2⟩ := lenS h
  obtain ⟨b, d, e, rfl⟩ := len3 h2
  exact ⟨a, b, d, e, rfl⟩
structure EnvS (c : Cx) (env : Env) (N : List (Str × NameKind)) : Prop where
  ok : EnvOK env
  fr : FrOK c env
  names : env.scope.names = N
  nod : (N.map (·.1)).Nodup
  dbg : ∀ x k, KAt N x k → (x == ("__debug__" : Str)) = false
theorem EnvS.look {env : Env} {N : List (Str × NameKind)} {x : Str} {k : NameKind} (F : EnvS c env N) (a : KAt N x k) : env.kindOf x = some k := by
  unfold Env.kindOf; rw [F.names]; exact a.look F.nod
theorem EnvS.inter {env : Env} {N : List (Str × NameKind)} (F : EnvS c env N) : interactive env = false := by
  unfold interactive; rw [F.ok.kind]; rfl
theorem D_defd {K : Frag} {f : Addr} {name qual : Str} {params : Arguments} {body : List Stmt} {sc : Scope} {dV kV doc pm cdv ct oc : Value} {an od : Option Addr} {osl : Array (Option Value)} {vs ds : List V} {dcs : List Value} {n : Nat}
    (hK : B.K = K) (ho : K.lookup f = some ⟨oc, od, .func (fnOf name qual params body sc dV kV doc pm an cdv ct), osl⟩) (hcd : codeIn K cdv qual = true) (hck : checkS sc n = true)
    (hb : ∀ s cvs, cvs.length = vs.length → B.K.In s.heap → BindsTo s (fnOf name qual params body sc dV kV doc pm an cdv ct) ⟨cvs, []⟩ (((sc.names.take n).map (·.1)).zip (cvs ++ dcs)))
    (hd : ∀ h, B.K.In h → VRs h ds dcs) (hn : (vs ++ ds).length = n) (hroom : c.dep < recursionLimit)
    (h : ∀ env c', EnvS c' env sc.names → c'.hd = c.hd → c'.dep = c.dep + 1 → c'.un = c.un + 3 → Wss B c' env body (zs sc.names ((vs ++ ds).map some ++ List.replicate (sc.names.length - n) none)) σ (retK Q) (fun a _ σ' => E a σ')) :
    CW B c (callF (.ref f)) vs σ VR Q E := by
  subst hK
  obtain ⟨h1, h2, h3, h4, h5, h6⟩ := checkS_ok hck
  have hlen : ((sc.names.take n).map (·.1)).length = (vs ++ ds).length := by rw [List.length_map, List.length_take, hn]; lia
  refine CW_def (ex := (sc.names.drop n).map (·.1)) ho hcd (fun s cvs a b => hb s cvs b a) hd ?_ hlen ?_ h2 h4 h5 h1.kind hroom fun L hL => ?_
  · rw [List.map_take]; exact h1.nod.sublist (List.take_sublist _ _)
  · intro x hx
    obtain ⟨p, hp, rfl⟩ := List.mem_map.mp hx
    have hk := h3 p hp
    have hm := List.mem_of_mem_take hp
    have : KAt sc.names p.1 p.2 := by
      revert hm
      refine opq (sc.names) fun l => ?_
      intro hm
      induction l with
      | nil => cases hm
      | cons q r ih => cases hm with
        | head => exact .here
        | tail _ hm => exact .there (ih hm)
    rw [← hk]; exact this.look h1.nod
  · have e := zs_start (ns := sc.names) hn h6
    rw [← e] at h
    exact h (envOf qual sc L f cdv) (deepC c (envOf qual sc L f cdv)) ⟨envOf_ok h1.kind, envOf_fr, rfl, h1.nod, h1.dbg⟩ rfl rfl rfl
theorem D_def {K : Frag} {f : Addr} {name qual : Str} {params : Arguments} {body : List Stmt} {sc : Scope} {dV kV doc pm cdv ct oc : Value} {an od : Option Addr} {osl : Array (Option Value)} {vs : List V} {n : Nat}
    (hK : B.K = K) (ho : K.lookup f = some ⟨oc, od, .func (fnOf name qual params body sc dV kV doc pm an cdv ct), osl⟩) (hcd : codeIn K cdv qual = true) (hck : checkS sc n = true)
    (hb : ∀ s cvs, cvs.length = n → B.K.In s.heap → BindsTo s (fnOf name qual params body sc dV kV doc pm an cdv ct) ⟨cvs, []⟩ (((sc.names.take n).map (·.1)).zip (cvs ++ [])))
    (hn : vs.length = n) (hroom : c.dep < recursionLimit)
    (h : ∀ env c', EnvS c' env sc.names → c'.hd = c.hd → c'.dep = c.dep + 1 → c'.un = c.un + 3 → Wss B c' env body (zs sc.names (vs.map some ++ List.replicate (sc.names.length - n) none)) σ (retK Q) (fun a _ σ' => E a σ')) :
    CW B c (callF (.ref f)) vs σ VR Q E := by
  subst hn
  refine D_defd (ds := []) (dcs := []) hK ho hcd hck hb (fun _ _ => .nil) (by rw [List.append_nil]) hroom ?_
  rw [List.append_nil]; exact h
end
section
variable {B : Bs} {c : Cx} {env : Env} {N : List (Str × NameKind)} {l : List (Option V)} {σ : Store} {Q : V → Store → Prop} {E : Addr → Store → Prop}
theorem N_loc {x : Str} {pos : Pos} {v : V} (F : EnvS c env N) (a : NA N l x v) (h : Q v σ) : Wx B c env (.Name x pos) (zs N l) σ Q E :=
  Wx_local (a.get F.nod) h F.ok.kind (F.look a.kat) (F.dbg _ _ a.kat)
theorem N_glob {K : Frag} {x : Str} {pos : Pos} {a : Addr} (hK : B.K = K) (F : EnvS c env N) (k : KAt N x .globalImplicit) (e : nsIn K mainGlobals x = some (some (.ref a))) (h : Q (.ref a) σ) : Wx B c env (.Name x pos) (zs N l) σ Q E := by
  subst hK
  exact Wx_global e (fun _ => .ref a) h F.ok.kind (F.look k) F.ok.glob (F.dbg _ _ k)
/-- builtins by name -/
inductive IsBi : Str → V → Prop
  | bi {x : Str} {n : String} : bootBuiltins x = some (.builtin n) → x ≠ "__name__" → IsBi x (.bi n)
  | ty {x : Str} {n : String} : bootBuiltins x = some (.type n) → x ≠ "__name__" → IsBi x (.ty n)
theorem N_bi {K : Frag} {x : Str} {pos : Pos} {v : V} (hK : B.K = K) (F : EnvS c env N) (k : KAt N x .globalImplicit) (i : IsBi x v) (e : nsIn K mainGlobals x = some none) (h : Q v σ) : Wx B c env (.Name x pos) (zs N l) σ Q E := by
  subst hK
  cases i with
  | bi h1 h2 => exact Wx_builtin e h1 h2 (fun _ => .bi _) h F.ok.kind (F.look k) F.ok.glob F.ok.bns (F.dbg _ _ k)
  | ty h1 h2 => exact Wx_builtin e h1 h2 (fun _ => .ty _) h F.ok.kind (F.look k) F.ok.glob F.ok.bns (F.dbg _ _ k)
theorem b_len : IsBi "len" (.bi "len") := .bi (by decide +kernel) (by decide +kernel)
theorem b_str : IsBi "str" (.ty "str") := .ty (by decide +kernel) (by decide +kernel)
theorem b_ord : IsBi "ord" (.bi "ord") := .bi (by decide +kernel) (by decide +kernel)
theorem b_max : IsBi "max" (.bi "max") := .bi (by decide +kernel) (by decide +kernel)
theorem b_min : IsBi "min" (.bi "min") := .bi (by decide +kernel) (by decide +kernel)
theorem b_sum : IsBi "sum" (.bi "sum") := .bi (by decide +kernel) (by decide +kernel)
theorem b_range : IsBi "range" (.ty "range") := .ty (by decide +kernel) (by decide +kernel)
theorem b_tuple : IsBi "tuple" (.ty "tuple") := .ty (by decide +kernel) (by decide +kernel)
theorem b_isinstance : IsBi "isinstance" (.bi "isinstance") := .bi (by decide +kernel) (by decide +kernel)
theorem b_Exception : IsBi "Exception" (.ty "Exception") := .ty (by decide +kernel) (by decide +kernel)
end
section
variable {B : Bs} {c : Cx} {env : Env} {N : List (Str × NameKind)} {l : List (Option V)} {σ : Store} {Q : Fl → Loc → Store → Prop} {E : Addr → Loc → Store → Prop}
inductive KA (N : List (Str × NameKind)) (l : List (Option V)) (x : Str) (Q : Fl → Loc → Store → Prop) (v : V) (σ₁ : Store) : Prop
  | mk (l' : List (Option V)) : NP N l x v l' → Q .next (zs N l') σ₁ → KA N l x Q v σ₁
noncomputable abbrev Kag (B : Bs) (c : Cx) (N : List (Str × NameKind)) (l : List (Option V)) (x : Str) (op : Operator) (v : V) (Q : Fl → Loc → Store → Prop) (E : Addr → Loc → Store → Prop) : V → Store → Prop := fun u σ₁ => CW B c (op2 (inplaceOp op)) [v, u] σ₁ VR (KA N l x Q) (EK E (zs N l))
inductive Kfor (B : Bs) (c : Cx) (env : Env) (target : Expr) (body : List Stmt) (ρ : Loc) (Q : Fl → Loc → Store → Prop) (E : Addr → Loc → Store → Prop) (v : V) (σ₁ : Store) : Prop
  | mk (items : List V) (chk : Store → Prop) : Itb v σ₁ items chk → ForL B c env target body chk Q E items ρ σ₁ → Kfor B c env target body ρ Q E v σ₁
inductive KW (N : List (Str × NameKind)) (I : Nat → List (Option V) → Store → Prop) (n : Nat) (ρ : Loc) (σ₂ : Store) : Prop
  | mk (l' : List (Option V)) (m : Nat) : m < n → ρ = zs N l' → I m l' σ₂ → KW N I n ρ σ₂
noncomputable abbrev KWt (B : Bs) (c : Cx) (env : Env) (body : List Stmt) (N : List (Str × NameKind)) (l : List (Option V)) (I : Nat → List (Option V) → Store → Prop) (n : Nat) (Q : Fl → Loc → Store → Prop) (E : Addr → Loc → Store → Prop) : Bool → Store → Prop := fun b σ₁ => (b = true → Wss B c env body (zs N l) σ₁ (loopK Q (KW N I n)) E) ∧ (b = false → Q .next (zs N l) σ₁)
inductive KF (N : List (Str × NameKind)) (I : List V → List (Option V) → Store → Prop) (items : List V) (ρ : Loc) (σ₂ : Store) : Prop
  | mk (l' : List (Option V)) : ρ = zs N l' → I items l' σ₂ → KF N I items ρ σ₂
theorem S_assign {x : Str} {value : Expr} {pos' pos : Pos} (F : EnvS c env N) (hl : KAt N x .local) (h : Wx B c env value (zs N l) σ (KA N l x Q) (EK E (zs N l)))
    (hsw : swapsWith value (some (.Name x pos')) pos.line env = pure false) : Ws B c env (.Assign [.Name x pos'] value pos) (zs N l) σ Q E :=
  Ws_assign F.ok (WE.mono h (fun v σ₁ ⟨l', a, q⟩ => by rw [a.set F.nod]; exact q) fun _ _ x => x) (F.look hl) hsw
theorem S_aug {x : Str} {value : Expr} {op : Operator} {pos' pos : Pos} {v : V} (F : EnvS c env N) (a : NA N l x v)
    (h : Wx B c env value (zs N l) σ (Kag B c N l x op v Q E) (EK E (zs N l))) :
    Ws B c env (.AugAssign (.Name x pos') op value pos) (zs N l) σ Q E :=
  Ws_aug F.ok (a.get F.nod) (F.look a.kat) (WE.mono h (fun u σ₁ q => CW.mono q (fun r σ₂ ⟨l', a, q⟩ => by rw [a.set F.nod]; exact q) fun _ _ x => x) fun _ _ x => x)
theorem S_expr {e : Expr} {pos : Pos} (F : EnvS c env N) (h : Wx B c env e (zs N l) σ (KX Q (zs N l)) (EK E (zs N l))) (hsw : swapsWith e none pos.line env = pure false) : Ws B c env (.Expr e pos) (zs N l) σ Q E :=
  Ws_expr h F.inter hsw
theorem k_after {rest : List Stmt} {ρ : Loc} (h : Wss B c env rest ρ σ Q E) : after B c env rest Q E .next ρ σ := h
theorem k_after_ret {rest : List Stmt} {ρ : Loc} {v : V} (h : Q (.ret v) ρ σ) : after B c env rest Q E (.ret v) ρ σ := h
theorem k_after_cont {rest : List Stmt} {ρ : Loc} (h : Q .cont ρ σ) : after B c env rest Q E .cont ρ σ := h
theorem k_ret {Q : V → Store → Prop} {ρ : Loc} {v : V} (h : Q v σ) : retK Q (.ret v) ρ σ := h
theorem k_ret_next {Q : V → Store → Prop} {ρ : Loc} (h : Q .none σ) : retK Q .next ρ σ := h
theorem k_set {R : Fl → Loc → Store → Prop} {x : Str} {v : V} {l' : List (Option V)} (a : NP N l x v l') (h : R .next (zs N l') σ) : KA N l x R v σ := ⟨l', a, h⟩
theorem k_loop {P : Loc → Store → Prop} {ρ : Loc} (h : P ρ σ) : loopK Q P .next ρ σ := h
theorem k_loop_cont {P : Loc → Store → Prop} {ρ : Loc} (h : P ρ σ) : loopK Q P .cont ρ σ := h
theorem k_loop_ret {P : Loc → Store → Prop} {ρ : Loc} {v : V} (h : Q (.ret v) ρ σ) : loopK Q P (.ret v) ρ σ := h
end
section
variable {B : Bs} {c : Cx} {env : Env} {N : List (Str × NameKind)} {l : List (Option V)} {σ : Store} {Q : Fl → Loc → Store → Prop} {E : Addr → Loc → Store → Prop}
/-- targets of a for -/
theorem T_name {x : Str} {p : Pos} {v : V} {l' : List (Option V)} {P : Loc → Prop} (F : EnvS c env N) (a : NP N l x v l') (h : P (zs N l')) : ∃ ρ', TGT env (.Name x p) v (zs N l) ρ' ∧ P ρ' :=
  ⟨_, .name (F.look a.kat), by rw [a.set F.nod]; exact h⟩
theorem T_tup {elts : List Expr} {k : Nat} {p : Pos} {xs : List Str} {vs : List V} {l' : List (Option V)} {P : Loc → Prop} (F : EnvS c env N) (hn : NameT env ((assignEach elts env).map (·.2)) xs) (a : NPs N l xs vs l') (h2 : (assignEach elts env).length = vs.length) (h3 : (assignEach elts env).findIdx? (·.1) = none) (h : P (zs N l')) : ∃ ρ', TGT env (.Tuple elts k p) (.tup vs) (zs N l) ρ' ∧ P ρ' :=
  ⟨_, .tup hn (fun x hx => F.look (a.loc x hx)) a.len h2 h3, by rw [a.set F.nod]; exact h⟩
theorem iteE {α : Type} {P : Prop} [Decidable P] {a b d : α} (h1 : a = d) (h : b = d) : (if P then a else b) = d := by split <;> assumption
theorem noSwap2 {x y : Str} {p q tp : Pos} {k : Nat} {v1 v2 : Expr} {m : Nat} {vp : Pos} (F : EnvS c env N) (hf : [v1, v2].all (foldedForSure 8) = true) :
    swappedStores [.Tuple [.Name x p, .Name y q] k tp] (.Tuple [v1, v2] m vp) env = pure none := by
  delta swappedStores
  dsimp only [pure_bind]
  exact iteE rfl (iteE rfl (iteE rfl (if_pos hf)))
theorem swap2 {x y : Str} {p q tp : Pos} {k : Nat} {v1 v2 : Expr} {m : Nat} {vp : Pos} (F : EnvS c env N) (h1 : KAt N x .local) (h2 : KAt N y .local) (hpq : (q.line == p.line) = true) (hxy : (y == x) = false) (hst : ([v1, v2].any fun | .Starred .. => true | _ => false) = false) (hf : [v1, v2].all (foldedForSure 8) = false) (hc : [v1, v2].all (constantsAlone 8) = false) :
    swappedStores [.Tuple [.Name x p, .Name y q] k tp] (.Tuple [v1, v2] m vp) env = pure (some [x, y]) := by
  have a := F.look h1
  have b := F.look h2
  have e : env.blockKind = .function := by have := F.ok.kind; unfold Env.blockKind; rw [this]; rfl
  have nd : [x, y].eraseDups = [x, y] := by
    show (match (y == x || false) with | true => [x] | false => [x, y]) = _
    rw [hxy]; rfl
  delta swappedStores
  dsimp only [pure_bind]
  rw [e, List.filterMap_cons_some (a := Expr.Name x p) (b := x), List.filterMap_cons_some (a := Expr.Name y q) (b := y), List.filterMap_nil, nd]
  · have nb : ∀ {b : Bool}, b = false → ¬(b = true) := fun h e => by rw [h] at e; cases e
    exact (if_neg (nb rfl)).trans ((if_neg (nb hst)).trans ((if_neg (nb rfl)).trans ((if_neg (nb hf)).trans (if_neg (nb hc)))))
  · exact if_pos (show (env.kindOf y == some .local && q.line == p.line) = true by rw [b, hpq]; rfl)
  · exact if_pos (show (env.kindOf x == some .local && p.line == p.line) = true by rw [a, beq_self_eq_true p.line]; rfl)
theorem S_swapped {elts : List Expr} {k : Nat} {tpos : Pos} {value : Expr} {pos : Pos} {names : List Str} (F : EnvS c env N) (hh : c.hd = none) (hl : ∀ x ∈ names, KAt N x .local) (h : Wx B c env value (zs N l) σ (fun v σ₁ => ∃ vs l', v = .tup vs ∧ NPs N l names.reverse vs.reverse l' ∧ Q .next (zs N l') σ₁) (fun a σ₁ => E a (zs N l) σ₁))
    (hs1 : swapsWithSole [.Tuple elts k tpos] value pos.line env = pure false) (hw : swappedStores [.Tuple elts k tpos] value env = pure (some names)) : Ws B c env (.Assign [.Tuple elts k tpos] value pos) (zs N l) σ Q E :=
  Ws_swapped F.ok hh (WE.mono h (fun v σ₁ ⟨vs, l', hv, a, q⟩ => ⟨vs, hv, by have := a.len; rw [List.length_reverse, List.length_reverse] at this; exact this.symm, by rw [a.set F.nod]; exact q⟩) fun _ _ x => x) (fun x hx => F.look (hl x hx)) hs1 hw
theorem S_while {test : Expr} {body : List Stmt} {pos : Pos} (F : EnvS c env N) (h : ∃ n, WhileN B c env test body Q E n (zs N l) σ) : Ws B c env (.While test body [] pos) (zs N l) σ Q E := Ws_while F.fr h
theorem S_for {target iter : Expr} {body : List Stmt} {pos : Pos} (F : EnvS c env N) (hh : c.hd = none)
    (h : Wx B c env iter (zs N l) σ (Kfor B c env target body (zs N l) Q E) (EK E (zs N l))) (ht : isNameT target = true) (hset : ∀ x, foldedSetIterable iter env x = pure x) : Ws B c env (.For target iter body [] pos) (zs N l) σ Q E := Ws_for F.ok F.fr hh ht hset (WE.mono h (fun _ _ ⟨i, c, a, b⟩ => ⟨i, c, a, b⟩) fun _ _ x => x)
/-- a while by an invariant with a measure -/
theorem whileI {test : Expr} {body : List Stmt} (I : Nat → List (Option V) → Store → Prop)
    (hI : ∀ n l σ, I n l σ → Wt B c env test (zs N l) σ (KWt B c env body N l I n Q E) (EK E (zs N l))) {n : Nat} (h : I n l σ) : ∃ k, WhileN B c env test body Q E k (zs N l) σ := by
  have : ∀ k n l σ, n < k → I n l σ → WhileN B c env test body Q E k (zs N l) σ := by
    intro k
    induction k with
    | zero => intro n l σ h _; lia
    | succ k ih =>
      intro n l σ hn hi
      refine WE.mono (hI n l σ hi) (fun b σ₁ ⟨h1, h2⟩ => ⟨fun e => WS.mono (h1 e) (fun f ρ σ₂ q => ?_) fun _ _ _ x => x, h2⟩) fun _ _ x => x
      cases f with
      | next => obtain ⟨l', m, hm, rfl, hi'⟩ := q; exact ih m l' σ₂ (by lia) hi'
      | cont => obtain ⟨l', m, hm, rfl, hi'⟩ := q; exact ih m l' σ₂ (by lia) hi'
      | brk => exact q
      | ret v => exact q
  exact ⟨n + 1, this (n + 1) n l σ (Nat.lt_succ_self _) h⟩
/-- a for by an invariant -/
theorem forI {target : Expr} {body : List Stmt} {chk : Store → Prop} (I : List V → List (Option V) → Store → Prop)
    (h0 : ∀ l σ, I [] l σ → chk σ ∧ Q .next (zs N l) σ)
    (hI : ∀ v items l σ, I (v :: items) l σ → chk σ ∧ ∃ ρ', TGT env target v (zs N l) ρ' ∧ Wss B c env body ρ' σ (loopK Q (KF N I items)) E) : ∀ {items : List V} {l : List (Option V)} {σ : Store}, I items l σ → ForL B c env target body chk Q E items (zs N l) σ
  | [], l, σ, h => h0 l σ h
  | v :: items, l, σ, h => by
    obtain ⟨h1, ρ', h2, h3⟩ := hI v items l σ h
    refine ⟨h1, ρ', h2, WS.mono h3 (fun f ρ σ₂ q => ?_) fun _ _ _ x => x⟩
    cases f with
    | next => obtain ⟨l', rfl, hi'⟩ := q; exact forI I h0 hI hi'
    | cont => obtain ⟨l', rfl, hi'⟩ := q; exact forI I h0 hI hi'
    | brk => exact q
    | ret v => exact q
end
end Mine.Internal
end
section
open PySem PySem.W PyProof.Rows PySem.Builtin PySem.Builtin.Str
namespace Mine.Internal
noncomputable def isSliceE : Expr → Bool
  | .Slice .. => true
  | _ => false
section
variable {B : Bs} {c : Cx} {σ : Store} {Q : V → Store → Prop} {E : Addr → Store → Prop} {value slice : Expr}
theorem sub_item (h : isSliceE slice = false) (o i : Value) : subscripted slice false o i = operate [o, i] (getItem o i) := by
  cases slice <;> first | rfl | cases h
theorem G_tup {l : List V} {k : Int} {v : V} {j : Nat} (hsl : isSliceE slice = false) (hj : seqIndex? k l.length = some j) (hx : l[j]? = some v) (hlo : -(2 ^ 63) ≤ k) (hhi : k < 2 ^ 63) (h : Q v σ) : CW B c (op2 (subscriptTail value slice)) [.tup l, .int k] σ VR Q E :=
  CW2 fun A s _ _ hA hs a b => by
    refine b.int' fun _ => ?_
    refine a.tup' fun vs a t hv => ?_
    ·
      obtain ⟨cv, h1, h2⟩ := hv.get hx
      have t' : IsTup s.heap a vs.toArray := t
      with_reducible exact item_tupleT (l := vs) t' hlo hhi (by rw [hv.length]; exact hj) h1 ⟨v, σ, h2, hs, .refl .., h⟩ (sub_item hsl _ _)
theorem G_list {l : List V} {k : Int} {v : V} {a : Addr} (hsl : isSliceE slice = false) (ha : σ a = some (.list l)) (h0 : 0 ≤ k) (hx : l[k.toNat]? = some v) (hhi : k < 2 ^ 63) (h : Q v σ) : CW B c (op2 (subscriptTail value slice)) [.ref a, .int k] σ VR Q E :=
  CW2 fun A s _ _ hA hs va b => by
    refine b.int' fun _ => ?_
    refine va.ref' ?_
    obtain ⟨vs, n, ho, hv⟩ := hs.cells a _ ha
    obtain ⟨cv, h1, h2⟩ := hv.get hx
    have hl : s.heap.IsList a vs.toArray := ⟨_, ho, rfl, n, rfl⟩
    exact tail_any hl.typeIs slot_list_getitem.lookup (wpAny_getItem_list hl h0 hhi (by simpa using h1) ⟨v, σ, h2, hs, .refl .., h⟩) (sub_item hsl _ _)
theorem G_list_last {l : List V} {v : V} {a : Addr} (hsl : isSliceE slice = false) (ha : σ a = some (.list l)) (hx : l[l.length - 1]? = some v) (h : Q v σ) : CW B c (op2 (subscriptTail value slice)) [.ref a, .int (-1)] σ VR Q E :=
  CW2 fun A s _ _ hA hs va b => by
    refine b.int' fun _ => ?_
    refine va.ref' ?_
    obtain ⟨vs, n, ho, hv⟩ := hs.cells a _ ha
    obtain ⟨cv, h1, h2⟩ := hv.get hx
    have hl : s.heap.IsList a vs.toArray := ⟨_, ho, rfl, n, rfl⟩
    have hlt := (List.getElem?_eq_some_iff.mp h1).1
    have hlen := hv.length
    refine tail_any hl.typeIs slot_list_getitem.lookup (wpAny_getItem_list_neg hl (by decide) ?_ (by decide) (x := cv) ?_ ⟨v, σ, h2, hs, .refl .., h⟩) (sub_item hsl _ _)
    · rw [List.size_toArray]; lia
    · rw [List.size_toArray, show ((-1 : Int) + (vs.length : Int)).toNat = l.length - 1 by lia]; simpa using h1
theorem G_str {x : Str} {k : Int} (hsl : isSliceE slice = false) (h1 : -(x.length : Int) ≤ k) (h2 : k < x.length) (hf : fitsSsize k = true) (h : Q (.str (Txt.item x k)) σ) : CW B c (op2 (subscriptTail value slice)) [.str x, .int k] σ VR Q E :=
  CW2 fun A s _ _ hA hs va b => by
    refine b.int' fun _ => ?_
    refine va.str' fun _ => ?_
    exact tail_any (typeIs_str _ _ _) F.slot_str_getitem.lookup (PySem.SB.getItem hf (charAt_isSome h1 h2) ⟨_, σ, .str _ _, hs.toks _, .refl .., h⟩) (sub_item hsl _ _)
theorem parts_of {vl : Value} {lo : Option Int} (p : IsPart vl lo) : ∃ q : Option (Int × Tok), partValue q = vl ∧ q.map (·.1) = lo := by
  cases p with
  | none => exact ⟨none, rfl, rfl⟩
  | int => exact ⟨some (_, _), rfl, rfl⟩
theorem sub_slice (h : isSliceE slice = true) (o i : Value) : ∃ ops, subscripted slice false o i = operate ops (getItem o i) := by
  cases slice with
  | Slice l u st p => cases st <;> exact ⟨_, rfl⟩
  | _ => cases h
theorem G_slice {x : Str} {lo hi : Option Int} (hsl : isSliceE slice = true) (hsz : x.length ≤ sizeLine) (h : Q (.str (Txt.slice x lo hi)) σ) : CW B c (op2 (subscriptTail value slice)) [.str x, .slice lo hi] σ VR Q E :=
  CW2 fun A s _ _ hA hs va b => by
    refine va.str' fun _ => ?_
    refine b.slice' fun _ _ _ hS pl pu => ?_
    ·
      obtain ⟨ql, rfl, rfl⟩ := parts_of pl
      obtain ⟨qu, rfl, rfl⟩ := parts_of pu
      obtain ⟨ops, ho⟩ := sub_slice hsl _ _
      exact tail_any (typeIs_str _ _ _) F.slot_str_getitem.lookup (wpAny_getItem_str_slice (l := ql) (u := qu) (st := none) hS rfl (post_val_or_str ⟨Nat.le_trans (Txt.slice_le x _ _) hsz, fun t' k => ⟨_, σ, .str _ _, hs.toks _, .refl .., h⟩⟩)) ho
theorem G_list_slice {l l' : List V} {lo hi : Option Int} {a : Addr} (hsl : isSliceE slice = true) (ha : σ a = some (.list l)) (hz : l.length ≤ sizeLine) (hp : ∀ h (vs : List Value), VRs h l vs → VRs h l' (slicePick vs.toArray lo hi none).toList) (h : ∀ b, σ b = none → Q (.ref b) (σ.set b (.list l'))) : CW B c (op2 (subscriptTail value slice)) [.ref a, .slice lo hi] σ VR Q E :=
  CW2 fun A s _ _ hA hs va b => by
    refine va.ref' ?_
    refine b.slice' fun _ _ _ hS pl pu => ?_
    ·
      obtain ⟨vs, n, ho, hv⟩ := hs.cells a _ ha
      have hl : s.heap.IsList a vs.toArray := ⟨_, ho, rfl, n, rfl⟩
      obtain ⟨ops, ho⟩ := sub_slice hsl _ _
      refine tail_any hl.typeIs slot_list_getitem.lookup (wpAny_getItem_list_slice hl hS pl pu .none (by decide) ?_ (by rw [List.size_toArray, hv.length]; exact hz)) ho
      have z := hp _ _ hv
      obtain ⟨hS, e₂, hn⟩ := hs.alloc { cls := .type "list", data := .seq (slicePick vs.toArray lo hi none) } (.list l') ⟨_, 0, by rw [Heap.get?_push_size _ rfl], z.mono (Heap.push_keep _)⟩
      exact ⟨.ref _, _, .ref _, hS, e₂, h _ hn⟩
theorem G_list_from {l : List V} {k : Int} {a : Addr} (hsl : isSliceE slice = true) (ha : σ a = some (.list l)) (hz : l.length ≤ sizeLine) (h0 : 0 ≤ k) (h : ∀ b, σ b = none → Q (.ref b) (σ.set b (.list (l.drop k.toNat)))) : CW B c (op2 (subscriptTail value slice)) [.ref a, .slice (some k) none] σ VR Q E :=
  G_list_slice hsl ha hz (fun h vs hv => by
    obtain ⟨n, rfl⟩ := Int.eq_ofNat_of_zero_le h0
    rw [show ((n : Int)) = ((n : Nat) : Int) from rfl, slicePick_from']; exact hv.drop _) h
theorem G_list_upto {l : List V} {k : Int} {a : Addr} (hsl : isSliceE slice = true) (ha : σ a = some (.list l)) (hz : l.length ≤ sizeLine) (h0 : 0 ≤ k) (h : ∀ b, σ b = none → Q (.ref b) (σ.set b (.list (l.take k.toNat)))) : CW B c (op2 (subscriptTail value slice)) [.ref a, .slice none (some k)] σ VR Q E :=
  G_list_slice hsl ha hz (fun h vs hv => by
    obtain ⟨n, rfl⟩ := Int.eq_ofNat_of_zero_le h0
    rw [show ((n : Int)) = ((n : Nat) : Int) from rfl, slicePick_upto']; exact hv.take _) h
theorem G_tup_from {l : List V} {n : Nat} (hsl : isSliceE slice = true) (hz : l.length ≤ sizeLine) (h1 : 1 ≤ n) (hn : n ≤ l.length) (h : Q (.tup (l.drop n)) σ) : CW B c (op2 (subscriptTail value slice)) [.tup l, .slice (some n) none] σ VR Q E :=
  CW2 fun A s _ _ hA hs va b => by
    refine va.tup' fun vs a t hv => ?_
    refine b.slice' fun _ _ _ hS pl pu => ?_
    ·
      cases pl
      cases pu
      obtain ⟨ops, ho⟩ := sub_slice hsl _ _
      have hlen := hv.length
      have t' : IsTup s.heap a vs.toArray := t
      refine tail_any t'.typeIs slot_tuple_getitem.lookup (getItem_tuple_from t' hS h1 (by rw [List.size_toArray, hlen]; exact hn) ?_ (by rw [List.size_toArray, hlen]; exact hz)) ho
      obtain ⟨hS, e₂⟩ := hs.push { cls := .type "tuple", data := .seq (vs.toArray.toList.drop n).toArray }
      exact ⟨.tup (l.drop n), σ, .tup ⟨_, Heap.get?_push_size _ rfl, rfl, _, rfl⟩ ((hv.drop n).mono (Heap.push_keep _)), hS, e₂, h⟩
end
section
variable {B : Bs} {c : Cx} {env : Env} {ρ : Loc} {σ : Store} {E : Addr → Store → Prop}
/-- the links of a chain, tested -/
noncomputable def TC (B : Bs) (c : Cx) (env : Env) (ρ : Loc) (Q : Bool → Store → Prop) (E : Addr → Store → Prop) (pos : Pos) : V → List CmpOp → List Expr → Store → Prop
  | a, ops, es, σ => ∀ A s ca, AOk c A → IsF B c.fr env ρ σ s → VR s.heap a ca → wpAny (model B.prog B.w) A (testChain pos ca ops (evalEach es env)) (BhF B c.fr env ρ σ s.heap REq Q) (EF B c.fr env ρ σ s E) s
theorem Wt_chain2 {l r₁ r₂ : Expr} {op₁ op₂ : CmpOp} {pos : Pos} {Q : Bool → Store → Prop}
    (h : Wx B c env l ρ σ (fun a σ₁ => Wx B c env r₁ ρ σ₁ (fun b σ₂ => CW B c (op2 (compareOp op₁)) [a, b] σ₂ VR (fun v σ₃ => CW B c (op1 truthy) [v] σ₃ REq (fun t σ₄ => (t = false → Q false σ₄) ∧ (t = true → Wx B c env r₂ ρ σ₄ (fun d σ₅ => CW B c (op2 (compareOp op₂)) [b, d] σ₅ VR (fun v σ₆ => CW B c (op1 truthy) [v] σ₆ REq Q E) E) E)) E) E) E) E)
    (hm : lastMarks [op₁, op₂] [r₁, r₂] = false) : Wt B c env (.Compare l [op₁, op₂] [r₁, r₂] pos) ρ σ Q E := by
  intro A s hA hs
  refine isTrue_chain (WE.run h hA hs (fun ra s₁ a σ₁ va hs₁ e₁ H => ?_) fun _ _ x => x) hm
  refine test_link (WE.run H hA hs₁ (fun rb s₂ b σ₂ vb hs₂ e₂ H₂ => ?_) fun e s' x => x.trans e₁)
  refine H₂.run (cvs := [ra, rb]) hA hs₂ (.cons (va.mono (hs₁.tup e₂)) (.cons vb .nil)) (fun r s₃ v σ₃ hv hs₃ e₃ q => ?_) fun e s' x => x.trans (e₁.trans e₂)
  refine CW.run (cvs := [r]) q hA hs₃ (.cons hv .nil) (fun r s₄ v σ₄ hv' hs₄ e₄ q => ?_) fun e s' x => x.trans ((e₁.trans e₂).trans e₃)
  have ee := ((e₁.trans e₂).trans e₃).trans e₄
  have hv' : v = r := hv'
  subst hv'
  cases v with
  | false => exact ⟨false, σ₄, rfl, hs₄, ee, q.1 rfl⟩
  | true =>
    rw [if_pos rfl]
    refine test_last (WE.run (q.2 rfl) hA hs₄ (fun rd s₅ d σ₅ vd hs₅ e₅ H₅ => ?_) fun e s' x => x.trans ee)
    refine H₅.run (cvs := [rb, rd]) hA hs₅ (.cons (((vb.mono (hs₂.tup e₃)).mono (hs₃.tup e₄)).mono (hs₄.tup e₅)) (.cons vd .nil)) (fun r s₆ v σ₆ hv hs₆ e₆ q => ?_) fun e s' x => x.trans (ee.trans e₅)
    exact CW.run (cvs := [r]) q hA hs₆ (.cons hv .nil) (fun r s₇ v σ₇ hv hs₇ e₇ q => ⟨v, σ₇, hv, hs₇, ((ee.trans e₅).trans e₆).trans e₇, q⟩) fun e s' x => x.trans ((ee.trans e₅).trans e₆)
end
end Mine.Internal
end
section
open PySem PySem.W PyProof.Rows PySem.Builtin PySem.Builtin.Str
namespace Mine.Internal
theorem rm_i {h : Heap} {f : V} {l : List V} {cf : Value} {cl : List Value} (a : VR h f cf) (b : VRs h l cl) : RM h (f, l) (cf, cl) := ⟨a, b⟩
section
variable {B : Bs} {c : Cx} {σ : Store} {Q : V → Store → Prop} {E : Addr → Store → Prop} {Qm : V × List V → Store → Prop} {pl : Sem Bool}
-- methods of strings
theorem M_lower {x : Str} (h : Qm (.bi "str.lower", [.str x]) σ) : CW B c (op1 fun x => getMethod x "lower" pl) [.str x] σ RM Qm E :=
  CW1 fun A s _ hA hs a => by refine a.str' fun _ => ?_; with_reducible exact PySem.GM.lower ⟨(.bi "str.lower", [.str x]), σ, rm_i (.bi _) (.cons (.str _ _) .nil), hs, .refl .., h⟩
theorem M_starts {x : Str} (h : Qm (.bi "str.startswith", [.str x]) σ) : CW B c (op1 fun x => getMethod x "startswith" pl) [.str x] σ RM Qm E :=
  CW1 fun A s _ hA hs a => by refine a.str' fun _ => ?_; with_reducible exact PySem.GM.startswith ⟨(.bi "str.startswith", [.str x]), σ, rm_i (.bi _) (.cons (.str _ _) .nil), hs, .refl .., h⟩
theorem M_join {x : Str} (h : Qm (.bi "str.join", [.str x]) σ) : CW B c (op1 fun x => getMethod x "join" pl) [.str x] σ RM Qm E :=
  CW1 fun A s _ hA hs a => by refine a.str' fun _ => ?_; with_reducible exact PySem.GM.join ⟨(.bi "str.join", [.str x]), σ, rm_i (.bi _) (.cons (.str _ _) .nil), hs, .refl .., h⟩
theorem F_lower {x : Str} (hf : tooLong (Txt.lower x).length = false) (h : Q (.str (Txt.lower x)) σ) : CW B c (callF (.bi "str.lower")) [.str x] σ VR Q E :=
  CF1 fun A s _ hA hs a => by
    refine a.str' fun _ => ?_
    show wpAny _ A (call (.builtin "str.lower") _) _ _ s
    with_reducible exact PySem.SC.lower hf ⟨_, σ, .str _ _, hs.toks _, .refl .., h⟩
theorem F_starts {x y : Str} (h : Q (.bool (Txt.startswith x y)) σ) : CW B c (callF (.bi "str.startswith")) [.str x, .str y] σ VR Q E :=
  CF2 fun A s _ _ hA hs a b => by
    refine a.str' fun _ => ?_; refine b.str' fun _ => ?_
    show wpAny _ A (call (.builtin "str.startswith") _) _ _ s
    with_reducible exact PySem.SC.startswith ⟨_, σ, .bool _, hs, .refl .., h⟩
theorem strVals {h : Heap} {ts : List Str} {vs : List Value} (x : VRs h (ts.map V.str) vs) : ∃ l : List (Str × Tok), vs = strValues l ∧ l.map (·.1) = ts := by
  induction ts generalizing vs with
  | nil => exact x.nil' ⟨[], rfl, rfl⟩
  | cons t ts ih =>
    refine x.cons' fun c r a b => ?_
    refine a.str' (P := fun c => ∃ l : List (Str × Tok), c :: r = strValues l ∧ l.map (·.1) = t :: ts) fun k => ?_
    obtain ⟨l, h1, h2⟩ := ih b
    exact ⟨(t, k) :: l, congrArg (_ :: ·) h1, congrArg (t :: ·) h2⟩
theorem F_join {x : Str} {a : Addr} {ts : List Str} (ha : σ a = some (.list (ts.map V.str))) (hok : JoinOk x ts = true) (h : Q (.str (Txt.join x ts)) σ) : CW B c (callF (.bi "str.join")) [.str x, .ref a] σ VR Q E :=
  CF2 fun A s _ _ hA hs va vb => by
    refine va.str' fun _ => ?_; refine vb.ref' ?_
    obtain ⟨vs, n, ho, hv⟩ := hs.cells a _ ha
    obtain ⟨l, rfl, h2⟩ := strVals hv
    show wpAny _ A (call (.builtin "str.join") _) _ _ s
    have hl : s.heap.IsList a (strValues l).toArray := ⟨_, ho, rfl, n, rfl⟩
    with_reducible refine PySem.SC.join hl h2 hok ?_
    exact fun t' k => ⟨.str _, σ, .str _ _, hs.toks _, .refl .., h⟩
-- methods of lists and dicts
theorem M_append {a : Addr} {l : List V} (ha : σ a = some (.list l)) (h : Qm (.bi "list.append", [.ref a]) σ) : CW B c (op1 fun x => getMethod x "append" pl) [.ref a] σ RM Qm E :=
  CW1 fun A s _ hA hs va => by
    refine va.ref' ?_
    obtain ⟨vs, n, ho, hv⟩ := hs.cells a _ ha
    have h1 : s.TypeIs (.ref a) "list" := ⟨_, ho, rfl⟩
    with_reducible refine getMethod_builtin h1 F.plainAttrs_list F.slot_list_append F.type_list_append ?_ ?_
    · intro b e; cases e; exact ⟨_, ho, rfl⟩
    · exact ⟨(.bi "list.append", [.ref a]), σ, rm_i (.bi _) (.cons (.ref _) .nil), hs, .refl .., h⟩
theorem M_pop {a : Addr} {l : List V} (ha : σ a = some (.list l)) (h : Qm (.bi "list.pop", [.ref a]) σ) : CW B c (op1 fun x => getMethod x "pop" pl) [.ref a] σ RM Qm E :=
  CW1 fun A s _ hA hs va => by
    refine va.ref' ?_
    obtain ⟨vs, n, ho, hv⟩ := hs.cells a _ ha
    have h1 : s.TypeIs (.ref a) "list" := ⟨_, ho, rfl⟩
    with_reducible refine getMethod_builtin h1 F.plainAttrs_list F.slot_list_pop F.type_list_pop ?_ ?_
    · intro b e; cases e; exact ⟨_, ho, rfl⟩
    · exact ⟨(.bi "list.pop", [.ref a]), σ, rm_i (.bi _) (.cons (.ref _) .nil), hs, .refl .., h⟩
theorem exactDict {h : Heap} {a : Addr} {kvs : List (Str × Value)} {prog : Program} {w : World} (d : h.DictOf (strKind prog w) a kvs) : ∃ o, h.get? a = some o ∧ o.cls = .type "dict" ∧ o.dict = none := by
  obtain ⟨o, es, ep, ho, hc, _⟩ := d
  exact ⟨o, ho, hc.1, hc.2.1⟩
theorem M_dget {a : Addr} {kv : AL} (ha : σ a = some (.dict kv)) (h : Qm (.bi "dict.get", [.ref a]) σ) : CW B c (op1 fun x => getMethod x "get" pl) [.ref a] σ RM Qm E :=
  CW1 fun A s _ hA hs va => by
    refine va.ref' ?_
    obtain ⟨kvs, hd, hv, lo⟩ := hs.cells a _ ha
    obtain ⟨o, ho, hc, hdn⟩ := exactDict hd
    have h1 : s.TypeIs (.ref a) "dict" := ⟨_, ho, hc⟩
    with_reducible refine getMethod_builtin h1 F.plainAttrs_dict F.slot_dict_get F.type_dict_get ?_ ?_
    · intro b e; cases e; exact ⟨_, ho, hdn⟩
    · exact ⟨(.bi "dict.get", [.ref a]), σ, rm_i (.bi _) (.cons (.ref _) .nil), hs, .refl .., h⟩
theorem M_dpop {a : Addr} {kv : AL} (ha : σ a = some (.dict kv)) (h : Qm (.bi "dict.pop", [.ref a]) σ) : CW B c (op1 fun x => getMethod x "pop" pl) [.ref a] σ RM Qm E :=
  CW1 fun A s _ hA hs va => by
    refine va.ref' ?_
    obtain ⟨kvs, hd, hv, lo⟩ := hs.cells a _ ha
    obtain ⟨o, ho, hc, hdn⟩ := exactDict hd
    have h1 : s.TypeIs (.ref a) "dict" := ⟨_, ho, hc⟩
    with_reducible refine getMethod_builtin h1 F.plainAttrs_dict F.slot_dict_pop F.type_dict_pop ?_ ?_
    · intro b e; cases e; exact ⟨_, ho, hdn⟩
    · exact ⟨(.bi "dict.pop", [.ref a]), σ, rm_i (.bi _) (.cons (.ref _) .nil), hs, .refl .., h⟩
theorem F_append {a : Addr} {l : List V} {v : V} (ha : σ a = some (.list l)) (hz : l.length ≤ sizeLine) (h : Q .none (σ.set a (.list (l ++ [v])))) : CW B c (callF (.bi "list.append")) [.ref a, v] σ VR Q E :=
  CF2 fun A s _ cv hA hs va vb => by
    cases va
    obtain ⟨vs, n, ho, hv⟩ := hs.cells a _ ha
    have hlen := hv.length
    have h1 : s.TypeIs (.ref a) "list" := ⟨_, ho, rfl⟩
    show wpAny _ A (call (.builtin "list.append") _) _ _ s
    with_reducible refine PySem.call_meets F.slot_list_append h1 F.entry_list_append (F.args_list_append_2 _ _) (list_append a vs.toArray n cv (by rw [List.size_toArray, hlen]; exact hz)) ⟨ho, ?_⟩
    have hsb := Heap.SameBut.update s.heap a (Obj.mapSeq (·.push cv))
    have hd : (listObj vs n).data = .seq vs.toArray n := rfl
    obtain ⟨n', hd'⟩ := Obj.data_mapSeq hd (·.push cv)
    obtain ⟨x₁, e₁⟩ := hs.update (c' := .list (l ++ [v])) ha hsb (fun k => ⟨vs ++ [cv], n + 1, by rw [Heap.get?_update_self _ ho (Obj.isFreed_of_seq hd')]; simp [Obj.mapSeq], (hv.append (.cons vb .nil)).mono k⟩) s.toks
    exact ⟨.none, _, .none, x₁, e₁, h⟩
theorem F_pop {a : Addr} {l : List V} {v : V} (ha : σ a = some (.list (l ++ [v]))) (hz : l.length < sizeLine) (h : Q v (σ.set a (.list l))) : CW B c (callF (.bi "list.pop")) [.ref a] σ VR Q E :=
  CF1 fun A s _ hA hs va => by
    refine va.ref' ?_
    obtain ⟨vs, n, ho, hv⟩ := hs.cells a _ ha
    have hlen := hv.length
    rw [List.length_append, List.length_singleton] at hlen
    obtain ⟨cv, h2, h3⟩ := hv.get (i := l.length) (v := v) (by simp)
    have h1 : s.TypeIs (.ref a) "list" := ⟨_, ho, rfl⟩
    show wpAny _ A (call (.builtin "list.pop") _) _ _ s
    with_reducible refine PySem.call_meets F.slot_list_pop h1 F.entry_list_pop (F.args_list_pop_1 _) (MeetsSeq.list_pop_last a vs.toArray n cv (by rw [List.size_toArray, hlen]; simpa using h2) (by rw [List.size_toArray, hlen]; lia)) ⟨ho, ?_⟩
    have hsb := Heap.SameBut.update s.heap a (Obj.mapSeq fun xs => xs.eraseIdxIfInBounds (vs.toArray.size - 1))
    have hd : (listObj vs n).data = .seq vs.toArray n := rfl
    obtain ⟨n', hd'⟩ := Obj.data_mapSeq hd (fun xs => xs.eraseIdxIfInBounds (vs.toArray.size - 1))
    obtain ⟨m, he⟩ : ∃ m, (Obj.mapSeq (fun xs => xs.eraseIdxIfInBounds (vs.toArray.size - 1)) (listObj vs n)) = listObj (vs.take l.length) m := by
      have : (vs.toArray.eraseIdxIfInBounds (vs.toArray.size - 1)) = (vs.take l.length).toArray := by
        rw [Array.eraseIdxIfInBounds, dif_pos (by rw [List.size_toArray]; lia)]
        apply Array.ext'
        rw [Array.toList_eraseIdx]
        simp only [List.size_toArray]
        rw [hlen, Nat.add_sub_cancel]
        rw [List.eraseIdx_eq_take_drop_succ, List.drop_eq_nil_of_le (by lia), List.append_nil]
      simp only [Obj.mapSeq, listObj, this]
      exact ⟨_, rfl⟩
    obtain ⟨x₁, e₁⟩ := hs.update (c' := .list l) ha hsb (fun k => ⟨vs.take l.length, m, by rw [Heap.get?_update_self _ ho (Obj.isFreed_of_seq hd'), he], by have := (hv.take l.length).mono k; rwa [List.take_left'] at this; rfl⟩) s.toks
    exact ⟨v, _, h3.mono (Ext.tup hs e₁), x₁, e₁, h⟩
end
end Mine.Internal
end
section
open PySem PySem.W PyProof.Rows PySem.Builtin PySem.Builtin.Str
namespace Mine.Internal
section
variable {B : Bs} {c : Cx} {σ : Store} {Q : V → Store → Prop} {E : Addr → Store → Prop} {value slice : Expr}
theorem notMods {fr : List Env} {s : Shared} {a : Addr} {kv : AL} (hs : IsS B fr σ s) (ha : σ a = some (.dict kv)) : (a == sysModules) = false := by
  obtain ⟨_, _, _, lo⟩ := hs.cells a _ ha
  exact lo
theorem notModsI {fr : List Env} {s : Shared} {a : Addr} {kv : List (Int × Int)} (hs : IsS B fr σ s) (ha : σ a = some (.idict kv)) : (a == sysModules) = false := by
  obtain ⟨_, _, _, lo⟩ := hs.cells a _ ha
  exact lo
theorem notModsN {fr : List Env} {s : Shared} (hs : IsS B fr σ s) : (s.heap.objs.size == sysModules) = false :=
  beq_eq_false_iff_ne.mpr (Nat.ne_of_gt (modules_low (B.T.nolimit.keeps hs.stays)))
theorem skey (prog : Program) (w : World) (x : Str) (t : Tok) : (strKind prog w).is x (.str x t) = true := by
  show (x == x) = true
  exact beq_self_eq_true x
theorem G_dict {a : Addr} {kv : AL} {x : Str} {v : V} (hsl : isSliceE slice = false) (ha : σ a = some (.dict kv)) (hx : getA x kv = some v) (h : Q v σ) : CW B c (op2 (subscriptTail value slice)) [.ref a, .str x] σ VR Q E :=
  CW2 fun A s _ _ hA hs va vb => by
    refine va.ref' ?_; refine vb.str' fun _ => ?_
    obtain ⟨kvs, hd, hv, lo⟩ := hs.cells a _ ha
    obtain ⟨cv, h1, h2⟩ := hv.some x hx
    exact tail_any hd.typeIs slot_dict_getitem.lookup (wpAny_getItem_of (skey _ _ _ _) hd.mapOf h1 ⟨v, σ, h2, hs.toks _, .refl .., h⟩) (sub_item hsl _ _)
theorem O_inDict {a : Addr} {kv : AL} {x : Str} (ha : σ a = some (.dict kv)) (h : Q (.bool (getA x kv).isSome) σ) : CW B c (op2 (compareOp .In)) [.str x, .ref a] σ VR Q E :=
  CW2 fun A s _ _ hA hs va vb => by
    refine va.str' fun _ => ?_; refine vb.ref' ?_
    obtain ⟨kvs, hd, hv, lo⟩ := hs.cells a _ ha
    refine wpAny_in_of (skey _ _ _ _) (notMods hs ha) hd.mapOf ⟨_, σ, ?_, hs.toks _, .refl .., h⟩
    cases q : getA x kv with
    | none => rw [hv.none x q]; exact .bool _
    | some v => obtain ⟨cv, h1, h2⟩ := hv.some x q; rw [h1]; exact .bool _
theorem O_notInDict {a : Addr} {kv : AL} {x : Str} (ha : σ a = some (.dict kv)) (h : Q (.bool (!(getA x kv).isSome)) σ) : CW B c (op2 (compareOp .NotIn)) [.str x, .ref a] σ VR Q E :=
  CW2 fun A s _ _ hA hs va vb => by
    refine va.str' fun _ => ?_; refine vb.ref' ?_
    obtain ⟨kvs, hd, hv, lo⟩ := hs.cells a _ ha
    refine wpAny_notIn_of (skey _ _ _ _) (notMods hs ha) hd.mapOf ⟨_, σ, ?_, hs.toks _, .refl .., h⟩
    cases q : getA x kv with
    | none => rw [hv.none x q]; exact .bool _
    | some v => obtain ⟨cv, h1, h2⟩ := hv.some x q; rw [h1]; exact .bool _
theorem dictUpd {fr : List Env} {s : Shared} {a : Addr} {kv : AL} {x : Str} {v : V} {cv : Value} {kvs : List (Str × Value)} {h' : Heap} (hs : IsS B fr σ s) (ha : σ a = some (.dict kv)) (hv : KVs s.heap kv kvs) (hvc : VR s.heap v cv) (hn : (kvs.map (·.1)).Nodup) (hd : h'.DictOf (strKind B.prog B.w) a (stored kvs x cv)) (hsb : Heap.SameBut a s.heap h') (t : Nat) :
    IsS B fr (σ.set a (.dict (setA x v kv))) { s with heap := h', toks := t } ∧ Ext σ s.heap (σ.set a (.dict (setA x v kv))) h' :=
  hs.update (c' := .dict (setA x v kv)) ha hsb (fun k => ⟨_, hd, (hv.mono k).put x (hvc.mono k) hn, notMods hs ha⟩) t
theorem O_setDict {a : Addr} {kv : AL} {x : Str} {v : V} {Qu : Unit → Store → Prop} (ha : σ a = some (.dict kv)) (hz : kv.length ≤ 1000) (h : Qu () (σ.set a (.dict (setA x v kv)))) : CW B c (op3 setItem) [.ref a, .str x, v] σ REq Qu E :=
  CW3 fun A s _ _ cv hA hs va vb vc => by
    cases va; cases vb
    obtain ⟨kvs, hd, hv, lo⟩ := hs.cells a _ ha
    have hn : (kvs.map (·.1)).Nodup := by obtain ⟨_, _, _, _, _, _, _, _, n⟩ := hd; exact n
    refine wpAny_setItem_pairs (skey _ _ _ _) hd (fun h' hd' hsb => ?_) (by rw [hv.len]; exact Nat.le_trans hz (by decide))
    obtain ⟨x₁, e₁⟩ := dictUpd hs ha hv vc hn hd' hsb (s.toks + 1)
    exact ⟨(), _, rfl, x₁, e₁, h⟩
theorem F_dget {a : Addr} {kv : AL} {x : Str} (ha : σ a = some (.dict kv)) (h : Q ((getA x kv).getD .none) σ) : CW B c (callF (.bi "dict.get")) [.ref a, .str x] σ VR Q E :=
  CF2 fun A s _ _ hA hs va vb => by
    refine va.ref' ?_; refine vb.str' fun _ => ?_
    obtain ⟨kvs, hd, hv, lo⟩ := hs.cells a _ ha
    show wpAny _ A (call (.builtin "dict.get") _) _ _ s
    with_reducible refine PySem.call_meetsIn F.slot_dict_get hd.typeIs F.entry_dict_get (F.args_dict_get_2 _ _) (meets_dict_get (PySem.strKind B.prog B.w) a (skey _ _ _ _) (notMods hs ha)) ⟨_, hd.mapOf, ?_⟩
    refine ⟨(getA x kv).getD .none, σ, ?_, hs.toks _, .refl .., h⟩
    cases q : getA x kv with
    | none => rw [hv.none x q]; exact .none
    | some v => obtain ⟨cv, h1, h2⟩ := hv.some x q; rw [h1]; exact h2
theorem F_dget2 {a : Addr} {kv : AL} {x : Str} {d : V} (ha : σ a = some (.dict kv)) (h : Q ((getA x kv).getD d) σ) : CW B c (callF (.bi "dict.get")) [.ref a, .str x, d] σ VR Q E :=
  CF3 fun A s _ _ cd hA hs va vb vd => by
    cases va; cases vb
    obtain ⟨kvs, hd, hv, lo⟩ := hs.cells a _ ha
    show wpAny _ A (call (.builtin "dict.get") _) _ _ s
    with_reducible refine PySem.call_meetsIn F.slot_dict_get hd.typeIs F.entry_dict_get (F.args_dict_get_3 _ _ _) (meets_dict_get_default (PySem.strKind B.prog B.w) a (skey _ _ _ _) (notMods hs ha) _) ⟨_, hd.mapOf, ?_⟩
    refine ⟨(getA x kv).getD d, σ, ?_, hs.toks _, .refl .., h⟩
    cases q : getA x kv with
    | none => rw [hv.none x q]; exact vd
    | some v => obtain ⟨cv, h1, h2⟩ := hv.some x q; rw [h1]; exact h2
theorem F_dpop {a : Addr} {kv : AL} {x : Str} {d : V} (ha : σ a = some (.dict kv)) (hx : getA x kv = none) (h : Q d σ) : CW B c (callF (.bi "dict.pop")) [.ref a, .str x, d] σ VR Q E :=
  CF3 fun A s _ _ cd hA hs va vb vd => by
    cases va; cases vb
    obtain ⟨kvs, hd, hv, lo⟩ := hs.cells a _ ha
    show wpAny _ A (call (.builtin "dict.pop") _) _ _ s
    with_reducible refine PySem.call_meetsIn F.slot_dict_pop hd.typeIs F.entry_dict_pop (F.args_dict_pop_3 _ _ _) (meets_dict_pop_default (PySem.strKind B.prog B.w) a (skey _ _ _ _) (notMods hs ha) rfl _) ⟨_, hd, hv.none x hx, ?_⟩
    exact ⟨d, σ, vd, hs.toks _, .refl .., h⟩
theorem O_addl {a b : Addr} {l m : List V} (ha : σ a = some (.list l)) (hb : σ b = some (.list m)) (hz : l.length + m.length ≤ sizeLine) (h : ∀ d, σ d = none → Q (.ref d) (σ.set d (.list (l ++ m)))) : CW B c (op2 (binaryOp .Add)) [.ref a, .ref b] σ VR Q E :=
  CW2 fun A s _ _ hA hs va vb => by
    refine va.ref' ?_; refine vb.ref' ?_
    obtain ⟨vs, n, ho, hv⟩ := hs.cells a _ ha
    obtain ⟨ws, k, ho', hw⟩ := hs.cells b _ hb
    refine PySem.P.add_list (items := vs.toArray) (items2 := ws.toArray) (n := n) (n2 := k) ho ho' ?_ (by rw [List.size_toArray, List.size_toArray, hv.length, hw.length]; exact hz)
    obtain ⟨hS, e₂, hn⟩ := hs.alloc { cls := .type "list", data := .seq (vs.toArray ++ ws.toArray) } (.list (l ++ m)) ⟨vs ++ ws, 0, by rw [Heap.get?_push_size _ rfl]; simp, (hv.append hw).mono (Heap.push_keep _)⟩
    exact ⟨.ref _, _, .ref _, hS, e₂, h _ hn⟩
theorem O_addt {l m : List V} (h1 : l ≠ []) (hz : l.length + m.length ≤ sizeLine) (h : Q (.tup (l ++ m)) σ) : CW B c (op2 (binaryOp .Add)) [.tup l, .tup m] σ VR Q E :=
  CW2 fun A s _ _ hA hs va vb => by
    refine va.tup' fun vs t ht hv => ?_
    refine vb.tup' fun ws b hb hw => ?_
    have hlv := hv.length
    have hlw := hw.length
    obtain ⟨⟨cls, dd, data, sl⟩, ho, hc, n, hd⟩ := id ht
    obtain ⟨⟨cls2, dd2, data2, sl2⟩, ho2, hc2, n2, hd2⟩ := id hb
    simp only at hc hd hc2 hd2
    subst hc hd hc2 hd2
    have hvne : vs ≠ [] := fun e => h1 (List.length_eq_zero_iff.mp (by rw [← hlv, e]; rfl))
    by_cases hwe : ws = []
    · have : m = [] := List.length_eq_zero_iff.mp (by rw [← hlw, hwe]; rfl)
      subst this
      rw [List.append_nil] at h
      exact concat_meets ⟨_, ho, rfl⟩ ⟨_, ho2, rfl⟩ noFill_tuple_add seq_tuple_add PySem.F.slot_tuple_add PySem.F.entry_tuple_add (PySem.F.args_tuple_add_2 _ _)
        (tuple_addW1 t b vs.toArray ws.toArray n n2 dd dd2 sl sl2 (by simpa using hvne) (by simp [hwe])) ⟨ho, ho2, ⟨.tup l, σ, .tup ht hv, hs, .refl .., h⟩⟩
    · refine concat_meets ⟨_, ho, rfl⟩ ⟨_, ho2, rfl⟩ noFill_tuple_add seq_tuple_add PySem.F.slot_tuple_add PySem.F.entry_tuple_add (PySem.F.args_tuple_add_2 _ _)
        (tuple_addW2 t b vs.toArray ws.toArray n n2 dd dd2 sl sl2 (by simpa using hvne) (by simpa using hwe) (by rw [List.size_toArray, List.size_toArray, hlv, hlw]; exact hz)) ⟨ho, ho2, ?_⟩
      obtain ⟨x₁, e₁⟩ := hs.push { cls := .type "tuple", data := .seq (vs.toArray ++ ws.toArray) }
      exact ⟨.tup (l ++ m), σ, .tup (vs := vs ++ ws) ⟨_, Heap.get?_push_size _ rfl, rfl, 0, by simp⟩ ((hv.append hw).mono (Heap.push_keep _)), x₁, e₁, h⟩
end
end Mine.Internal
end
section
open PySem PySem.W PyProof.Rows PySem.Builtin PySem.Builtin.ObjectAttr
namespace Mine.Internal
theorem Attrs.len {h : Heap} {l : AL} {es : List DictEntry} (x : Attrs h l es) : es.length = l.length := by
  induction x with
  | nil => rfl
  | cons _ _ ih => exact congrArg (· + 1) ih
theorem isStr_eq (x y : Str) (t : Tok) : Value.isStr (.str y t) x = (y == x) := rfl
theorem Attrs.find {h : Heap} (x : Str) {v : V} {l : AL} {es : List DictEntry} (k : Attrs h l es) (e : getA x l = some v) : ∃ e, es.find? (·.key.isStr x) = some e ∧ VR h v e.val := by
  induction k with
  | nil => cases e
  | @cons y _ _ _ _ _ _ a b ih =>
    unfold getA at e
    by_cases q : y = x
    · rw [if_pos q] at e
      exact ⟨_, List.find?_cons_of_pos (by rw [isStr_eq]; simpa using q), Option.some.inj e ▸ a⟩
    · rw [if_neg q] at e
      obtain ⟨en, h1, h2⟩ := ih e
      exact ⟨en, by rw [List.find?_cons_of_neg (by rw [isStr_eq]; simpa using q)]; exact h1, h2⟩
theorem Attrs.findNone {h : Heap} (x : Str) {l : AL} {es : List DictEntry} (k : Attrs h l es) (e : getA x l = none) : es.find? (·.key.isStr x) = none := by
  induction k with
  | nil => rfl
  | @cons y _ _ _ _ _ _ a b ih =>
    unfold getA at e
    by_cases q : y = x
    · rw [if_pos q] at e; cases e
    · rw [if_neg q] at e
      rw [List.find?_cons_of_neg (by rw [isStr_eq]; simpa using q)]; exact ih e
theorem Attrs.noRef {h : Heap} {l : AL} {es : List DictEntry} (x : Attrs h l es) : es.any (·.refKey) = false := by
  induction x with
  | nil => rfl
  | cons a b ih => rw [List.any_cons, ih]; rfl
noncomputable abbrev attrsObj (es : List DictEntry) (n : Nat) : Obj := { cls := .type "dict", data := .dict es.toArray n }
theorem lookIn_some {h : Heap} {x : Str} {v : V} {l : AL} {es : List DictEntry} {n : Nat} (a : Attrs h l es) (e : getA x l = some v) : ∃ cv, lookIn x (attrsObj es n) = some (some cv) ∧ VR h v cv := by
  obtain ⟨en, h1, h2⟩ := a.find x e
  exact ⟨en.val, by simp only [lookIn, attrsObj, h1], h2⟩
theorem lookIn_none {h : Heap} {x : Str} {l : AL} {es : List DictEntry} {n : Nat} (a : Attrs h l es) (e : getA x l = none) : lookIn x (attrsObj es n) = some none := by
  have h1 := a.findNone x e
  have h2 := a.noRef
  simp only [lookIn, attrsObj, h1]
  rw [if_neg (by rw [h2]; decide)]
theorem Attrs.put {h : Heap} (x : Str) {v : V} {cv : Value} {hs : Int} {t : Tok} (hv : VR h v cv) {l : AL} {es : List DictEntry} (k : Attrs h l es) :
    Attrs h (setA x v l) (match es.findIdx? (·.key.isStr x) with | some i => es.modify i fun e => { e with val := cv } | none => es ++ [⟨hs, .str x t, cv⟩]) := by
  induction k with
  | nil => exact .cons hv .nil
  | @cons y u r h1 t1 c1 es a b ih =>
    unfold setA
    rw [List.findIdx?_cons]
    by_cases q : y = x
    · rw [if_pos q, if_pos (by rw [isStr_eq]; simpa using q)]
      exact .cons hv b
    · rw [if_neg q, if_neg (by rw [isStr_eq]; simpa using q)]
      cases z : es.findIdx? (·.key.isStr x) with
      | none => rw [z] at ih; exact .cons a ih
      | some i => rw [z] at ih; exact .cons a ih
theorem setA_len (x : Str) (v : V) : ∀ l : AL, (setA x v l).length ≤ l.length + 1
  | [] => by simp [setA]
  | (y, u) :: r => by
    unfold setA
    split
    · simp
    · have := setA_len x v r; simp only [List.length_cons]; lia
/-- no builtin -/
noncomputable def plainV : V → Bool
  | .bi _ => false
  | _ => true
theorem handed_of {h : Heap} {v : V} {cv : Value} (p : plainV v = true) (x : VR h v cv) : handedIn cv = true := by
  cases x <;> first | rfl | cases p
section
variable {B : Bs} {c : Cx} {σ : Store} {Q : V → Store → Prop} {E : Addr → Store → Prop} {Qm : V × List V → Store → Prop} {pl : Sem Bool} {K : Frag}
theorem instAt {s : Shared} {fr : List Env} {x C d : Addr} {kv : AL} (hs : IsS B fr σ s) (hx : σ x = some (.inst C d)) (hd : σ d = some (.attrs kv)) : ∃ es n, s.heap.get? d = some (attrsObj es n) ∧ Attrs s.heap kv es ∧ InstAt s.heap x (instObj C d) C (some (attrsObj es n)) := by
  obtain ⟨es, n, ho, ha⟩ := hs.cells d _ hd
  have hx' : s.heap.get? x = some (instObj C d) := hs.cells x _ hx
  exact ⟨es, n, ho, ha, hx', rfl, rfl, ho⟩
theorem A_get {x C d : Addr} {kv : AL} {name : Str} {v : V} (hK : B.K = K) (hx : σ x = some (.inst C d)) (hd : σ d = some (.attrs kv)) (hv : getA name kv = some v) (hp : plainV v = true)
    (k1 : findIn K (.ref C) "__getattribute__" = some (some (.builtin "object.__getattribute__"))) (k2 : findIn K (.ref C) name = some none) (k3 : (clsIn K C).any (·.hasDict) = true) (h : Q v σ) :
    CW B c (op1 fun o => getAttr o name true) [.ref x] σ VR Q E := CW1 fun A s _ hA hs va => by
  cases va
  subst hK
  obtain ⟨es, n, ho, ha, I⟩ := instAt hs hx hd
  obtain ⟨cv, h1, h2⟩ := lookIn_some (n := n) ha hv
  obtain ⟨cd, hc, hdt⟩ := any_some k3
  refine get_value (v := cv) (B.X.keeps hs.stays) I k1 ?_ (handed_of hp h2) ⟨v, σ, h2, hs.toks _, .refl .., h⟩
  unfold findObj
  rw [hc, Option.bind_some, k2, Option.bind_some]
  simp only [Option.bind_some]
  unfold W.ownOf
  rw [hdt, if_pos rfl]
  dsimp only
  rw [h1]; rfl
theorem A_method {x C d f : Addr} {kv : AL} {name : Str} (hK : B.K = K) (hx : σ x = some (.inst C d)) (hd : σ d = some (.attrs kv)) (hv : getA name kv = none)
    (k1 : findIn K (.ref C) "__getattribute__" = some (some (.builtin "object.__getattribute__"))) (k2 : findIn K (.ref C) "__getattr__" = some none) (k3 : findIn K (.ref C) name = some (some (.ref f))) (k4 : typeIn K (.ref f) = some (.type "function"))
    (h : Qm (.ref f, [.ref x]) σ) : CW B c (op1 fun o => getMethod o name pl) [.ref x] σ RM Qm E := CW1 fun A s _ hA hs va => by
  refine va.ref' ?_
  subst hK
  obtain ⟨es, n, ho, ha, I⟩ := instAt hs hx hd
  refine method_fn (B.X.keeps hs.stays) I k1 k2 k3 k4 ?_ ⟨(.ref f, [.ref x]), σ, rm_i (.ref _) (.cons (.ref _) .nil), hs, .refl .., h⟩
  unfold shadowIn
  dsimp only
  rw [lookIn_none ha hv]; rfl
theorem A_set {x C d : Addr} {kv : AL} {name : Str} {v : V} {Qu : Unit → Store → Prop} (hK : B.K = K) (hx : σ x = some (.inst C d)) (hd : σ d = some (.attrs kv)) (hz : kv.length ≤ 1000)
    (k1 : findIn K (.ref C) "__setattr__" = some (some (.builtin "object.__setattr__"))) (k2 : plainOver K C = true) (k3 : takerIn K C name = some none) (k4 : (clsIn K C).any (·.hasDict) = true)
    (h : Qu () (σ.set d (.attrs (setA name v kv)))) : CW B c (op2 fun ov v => setAttr ov name v) [.ref x, v] σ REq Qu E := CW2 fun A s _ cv hA hs va vb => by
  cases va
  subst hK
  obtain ⟨es, n, ho, ha, I⟩ := instAt hs hx hd
  obtain ⟨cd, hc, hdt⟩ := any_some k4
  refine set_plain (B.X.keeps hs.stays) I k1 (osa_open (B.X.keeps hs.stays) (s := { s with toks := s.toks + 1 }) I k2 k3 fun b => ?_)
  have hx' : s.heap.get? x = some (instObj C d) := hs.cells x _ hx
  unfold storeInOwnDict
  refine wpAny_bind (wpAny_pure (wpAny_bind (wpAny_bind (wpAny_loadPart hx' (wpAny_bind ((looks_clsIn (B.X.keeps hs.stays) hc).at ?_))))))
  rw [hdt]
  refine wpAny_pure (a := some d) (wpAny_bind (wpAny_pure (wpAny_bind ?_)))
  unfold nsSet
  refine wpAny_bind (wpAny_bind (wpAny_askSetting (wpAny_pure (wpAny_bind (wpAny_mkText (wpAny_bind (wpAny_loadPart ho ?_)))))))
  have hr : (es.toArray.any (·.refKey)) = false := by rw [← Array.any_toList]; exact ha.noRef
  dsimp only
  rw [aRefKeyMayBeTheName_at, hr, Bool.and_false]
  refine wpAny_updatePart ho ?_
  refine opq ((if name.cps.isEmpty = true then (0 : Int) else reduceHash ((model B.prog B.w).w.params.strHash name.cps))) fun hsh => ?_
  refine opqE (Obj.putName name hsh (.str name (s.toks + 1)) cv) fun f hf => ?_
  have hres : ∃ es' m, f (attrsObj es n) = attrsObj es' m ∧ ∀ h', VR h' v cv → Attrs h' kv es → Attrs h' (setA name v kv) es' ∧ es'.length ≤ es.length + 1 := by
    rw [← hf, Obj.putName_eq]
    unfold Obj.putNameByArray
    dsimp only
    have e1 : es.toArray.findIdx? (·.key.isStr name) = es.findIdx? (·.key.isStr name) := by simp
    rw [e1]
    cases z : es.findIdx? (·.key.isStr name) with
    | none =>
      refine ⟨es ++ [⟨hsh, .str name (s.toks + 1), cv⟩], n + 1, by simp [attrsObj], fun h' hv ha' => ?_⟩
      have := ha'.put (hs := hsh) (t := s.toks + 1) name hv
      rw [z] at this
      exact ⟨this, by simp⟩
    | some i =>
      refine ⟨es.modify i fun e => { e with val := cv }, n, by simp [attrsObj], fun h' hv ha' => ?_⟩
      have := ha'.put (hs := hsh) (t := s.toks + 1) name hv
      rw [z] at this
      exact ⟨this, by simp⟩
  obtain ⟨es', m, hfe, hat⟩ := hres
  have hsb := Heap.SameBut.update s.heap d f
  have hd₁ : (f (attrsObj es n)).isFreed = false := by rw [hfe]; rfl
  have hself := Heap.get?_update_self f ho hd₁
  rw [hfe] at hself
  obtain ⟨x₁, e₁⟩ := hs.update (c' := .attrs (setA name v kv)) hd hsb (fun k => ⟨es', m, hself, (hat _ (vb.mono k) (ha.mono k)).1⟩) (s.toks + 2)
  have hle := (hat _ vb ha).2
  refine wpAny_bind (wpAny_lookBehind hself (pastItsLine_dict (by rw [List.size_toArray, sizeLine_eq]; have := ha.len; lia)) ?_)
  exact wpAny_pure ⟨(), _, rfl, x₁, e₁, h⟩
end
end Mine.Internal
end
section
open PySem PySem.W PyProof.Rows PySem.Builtin PySem.Builtin.ObjectAttr
namespace Mine.Internal
section
variable {prog : Program} {w : World} {A : Around} {E : Value → Shared → Prop} {s : Shared} {K : Frag} {x C : Addr} {ox : Obj} {od : Option Obj} {name : Str} {expr : Bool} {Q : Value → Shared → Prop}
theorem get_valueX {v : Value} (X : K.In s.heap) (I : InstAt s.heap x ox C od) (hga : findIn K (.ref C) "__getattribute__" = some (some (.builtin "BaseException.__getattribute__"))) (hgt : findIn K (.ref C) "__getattr__" = some none)
    (hm : mroIn K C (.type "BaseException") = some true)
    (hf : findObj K C od name = some (.value v)) (hh : handedIn v = true) (h : Q v { s with toks := s.toks + 1 }) : wpAny (model prog w) A (getAttr (.ref x) name expr) Q E s := by
  obtain ⟨hh', g, d, t, os⟩ := s
  have L0 := I.type (M := model prog w)
  have L1 := looks_findIn (M := model prog w) X hga
  have L2 := looks_find (M := model prog w) X I hf
  have L3 := looks_findIn (M := model prog w) X hgt
  have L4 : Looks (model prog w) hh' (isInstance (.ref x) (.type "BaseException")) true := L0.andThen (looks_mroIn X hm)
  have f3 := (F.attr_Exception.ga).bind (.ref x)
  unfold getAttr getAttrBy
  refine wpAny_bind (wpAny_mkText (wpAny_holding (wpAny_bind (L0.at (wpAny_bind (L1.at ?_))))))
  have hx0 : (expr && onTheHeap (Value.builtin "BaseException.__getattribute__")) = false := by cases expr <;> rfl
  have hx2 : (Value.builtin "BaseException.__getattribute__" == Value.builtin "object.__getattribute__") = false := by decide +kernel
  dsimp only
  rw [hx2, Bool.and_false, if_neg (by decide)]
  unfold getAttrByItsOwn hookBefore callGetattribute
  rw [if_pos (show onTheHeap (Value.ref C) = true from rfl), hx0, if_neg Bool.false_ne_true]
  refine wpAny_bind (L3.at ?_)
  unfold boundAndCalled
  rw [f3]
  refine wpAny_bind (wpAny_attempt (wpAny_holding (wpAny_bind (wpAny_pure (wpAny_call ?_)))))
  have hk : builtinKind "BaseException.__getattribute__" = some .slot := by decide +kernel
  have hsplit : splitId "BaseException.__getattribute__" = some ("BaseException", "__getattribute__") := by decide +kernel
  refine codeAny_call_builtin F.attr_Exception.ga.plain F.entry_bexc_ga (@check_slot (model prog w) _ _ ⟨hh', g, d, t + 1, os⟩ "BaseException.__getattribute__" "BaseException" "__getattribute__" (.ref x) [.str name t] [] _ hk hsplit L4 (F.args_bexc_ga _ _) ?_)
  unfold Builtin.«object.__getattribute__»
  repeat lk
  show wpAny _ _ (handedOut v) _ _ _
  rw [handedOut_of hh]; exact wpAny_pure h
end
section
variable {B : Bs} {c : Cx} {σ : Store} {Q : V → Store → Prop} {E : Addr → Store → Prop} {Qm : V × List V → Store → Prop} {pl : Sem Bool} {K : Frag}
theorem X_get {x C d : Addr} {r : Bool} {kv : AL} {name : Str} {v : V} (hK : B.K = K) (hx : σ x = some (.exc r C (some d))) (hd : σ d = some (.attrs kv)) (hv : getA name kv = some v) (hp : plainV v = true)
    (k1 : findIn K (.ref C) "__getattribute__" = some (some (.builtin "BaseException.__getattribute__"))) (k0 : findIn K (.ref C) "__getattr__" = some none) (km : mroIn K C (.type "BaseException") = some true) (k2 : findIn K (.ref C) name = some none) (k3 : (clsIn K C).any (·.hasDict) = true) (h : Q v σ) :
    CW B c (op1 fun o => getAttr o name true) [.ref x] σ VR Q E := CW1 fun A s _ hA hs va => by
  cases va
  subst hK
  obtain ⟨es, n, ho, ha⟩ := hs.cells d _ hd
  obtain ⟨vs, sl, hx', hvs⟩ := hs.cells x _ hx
  have I : InstAt s.heap x ⟨.ref C, some d, .fields vs, sl⟩ C (some (attrsObj es n)) := ⟨hx', rfl, rfl, ho⟩
  obtain ⟨cv, h1, h2⟩ := lookIn_some (n := n) ha hv
  obtain ⟨cd, hc, hdt⟩ := any_some k3
  refine get_valueX (v := cv) (B.X.keeps hs.stays) I k1 k0 km ?_ (handed_of hp h2) ⟨v, σ, h2, hs.toks _, .refl .., h⟩
  unfold findObj
  rw [hc, Option.bind_some, k2, Option.bind_some]
  simp only [Option.bind_some]
  unfold W.ownOf
  rw [hdt, if_pos rfl]
  dsimp only
  rw [h1]; rfl
/-- a cell that is new in a heap that grew -/
theorem IsS.fresh {fr : List Env} {s : Shared} {h' : Heap} (x : IsS B fr σ s) (k : ∀ b o, s.heap.get? b = some o → h'.get? b = some o) {a : Addr} (hn : s.heap.get? a = none) (t : Nat) (cc : Cell) (hc : CellOK B h' a cc) :
    IsS B fr (σ.set a cc) { s with heap := h', toks := t } ∧ Ext σ s.heap (σ.set a cc) h' ∧ σ a = none := by
  obtain ⟨y, e⟩ := x.grown k t
  have hσ : σ a = none := by
    cases q : σ a with
    | none => rfl
    | some c' => obtain ⟨o, ho, _⟩ := (x.cells a c' q).there; rw [hn] at ho; cases ho
  refine ⟨⟨y.stays, y.frames, fun env he L hL => ?_, fun b hb => ?_, fun b c' e' => ?_, y.gens, y.drawn, y.os⟩, ⟨e.fix, e.live, e.keep, fun b hb => ?_⟩, hσ⟩
  · have hne : L ≠ a := fun q => by
      have := (x.frames.mem (b := L) (List.mem_filterMap.mpr ⟨env, he, hL⟩)).2
      obtain ⟨o', ho, _⟩ := this
      rw [q, hn] at ho; cases ho
    rw [Store.set_ne _ _ hne]; exact y.off env he L hL
  · by_cases q : b = a
    · subst q
      cases z : B.h₀.get? b with
      | none => rfl
      | some o => rw [x.stays b o z] at hn; cases hn
    · rw [Store.set_ne _ _ q] at hb; exact x.new b hb
  · by_cases q : b = a
    · subst q; rw [Store.set_self] at e'; cases e'; exact hc
    · rw [Store.set_ne _ _ q] at e'; exact y.cells b c' e'
  · by_cases q : b = a
    · subst q; exact .inr hn
    · rw [Store.set_ne _ _ q] at hb; exact .inl hb
end
section
variable {prog : Program} {w : World} {A : Around} {s : Shared} {K : Frag} {x C : Addr} {R : Result → Shared → Prop}
noncomputable def xmro : List Value := [.type "Exception", .type "BaseException", .type "object"]
theorem osa_openX {ox : Obj} {od : Option Obj} {name : Str} {tk : Tok} {v : Value} (X : K.In s.heap) (I : InstAt s.heap x ox C od) (hp : (clsIn K C).any (fun cd => cd.mro == .ref C :: xmro) = true) (ht : takerIn K C name = some none)
    (h : ∀ b, wpAny (model prog w) A.in1 (storeInOwnDict (.ref x) (.ref C) (.str name tk) name v b)
      (fun fin s' => match fin with | .done f => R (.ok f) s' | .again c' => c'.quiet = true ∧ codeAny (model prog w) A c' R s') (fun e s' => R (.error e) s') s) :
    codeAny (model prog w) A (.call (.builtin "object.__setattr__") ⟨[.ref x, .str name tk, v], []⟩) R s := by
  have SF := PySem.F.store_object
  obtain ⟨cd, hc, ho⟩ := any_some hp
  have ho : cd.mro = .ref C :: xmro := eq_of_beq ho
  have ne : cd.mro.isEmpty = false := by rw [ho]; rfl
  have sub : Looks (model prog w) s.heap (isInstance (.ref x) (.type "object")) true := I.type.andThen (looks_mroIn X (by unfold mroIn; rw [hc, Option.bind_some, if_neg (by rw [ne]; decide), ho]; rfl))
  refine codeAny_call_builtin SF.slot.plain SF.entry (@check_slot (model prog w) _ _ s "object.__setattr__" "object" "__setattr__" (.ref x) [.str name tk, v] [] _ SF.kind SF.split sub (SF.args (.ref x) (.str name tk) v) ?_)
  obtain ⟨attr, ha, hr⟩ := Option.bind_eq_some_iff.mp ht
  have hm : Looks (model prog w) s.heap (mroOf (.ref C)) cd.mro := (looks_clsIn X hc).andThen .now
  have L3 : Looks (model prog w) s.heap (storeTaker? attr) none := by
    cases attr with
    | none => cases hr; exact .now
    | some a =>
      obtain ⟨b, hb, e⟩ := Option.map_eq_some_iff.mp hr
      refine (looks_takesIn X hb).andThen ?_
      cases b with
      | true => cases e
      | false => exact .now
  rw [osa_eq, refuse_eq]
  refine wpAny_bind (wpAny_bind (I.type.here (wpAny_bind (hm.here ?_))))
  rw [ho, refuseLoop_ref, show refuseLoop (.ref x) "__setattr__" xmro = pure () from PySem.F.store_Exception.passes (.ref x)]
  refine wpAny_pure (wpAny_bind (I.type.here (wpAny_bind ((looks_findIn X ha).here (wpAny_bind (L3.here ?_))))))
  exact h _
end
section
variable {B : Bs} {c : Cx} {σ : Store} {Q : V → Store → Prop} {E : Addr → Store → Prop} {K : Frag}
theorem putAttrs {h : Heap} {es : List DictEntry} {n : Nat} {kv : AL} {name : Str} {v : V} {cv : Value} (hsh : Int) (tk : Tok) (ha : Attrs h kv es) :
    ∃ es' m, Obj.putName name hsh (.str name tk) cv (attrsObj es n) = attrsObj es' m ∧ es'.length ≤ es.length + 1 ∧ ∀ h', VR h' v cv → Attrs h' kv es → Attrs h' (setA name v kv) es' := by
  rw [Obj.putName_eq]
  unfold Obj.putNameByArray
  dsimp only
  have e1 : es.toArray.findIdx? (·.key.isStr name) = es.findIdx? (·.key.isStr name) := by simp
  rw [e1]
  cases z : es.findIdx? (·.key.isStr name) with
  | none =>
    refine ⟨es ++ [⟨hsh, .str name tk, cv⟩], n + 1, by simp [attrsObj], by simp, fun h' hv ha' => ?_⟩
    have := ha'.put (hs := hsh) (t := tk) name hv
    rw [z] at this
    exact this
  | some i =>
    refine ⟨es.modify i fun e => { e with val := cv }, n, by simp [attrsObj], by simp, fun h' hv ha' => ?_⟩
    have := ha'.put (hs := hsh) (t := tk) name hv
    rw [z] at this
    exact this
theorem X_set {x C d : Addr} {r : Bool} {kv : AL} {name : Str} {v : V} {Qu : Unit → Store → Prop} (hK : B.K = K) (hx : σ x = some (.exc r C (some d))) (hd : σ d = some (.attrs kv)) (hz : kv.length ≤ 1000)
    (k1 : findIn K (.ref C) "__setattr__" = some (some (.builtin "object.__setattr__"))) (k2 : (clsIn K C).any (fun cd => cd.mro == .ref C :: xmro) = true) (k3 : takerIn K C name = some none) (k4 : (clsIn K C).any (·.hasDict) = true)
    (h : Qu () (σ.set d (.attrs (setA name v kv)))) : CW B c (op2 fun ov v => setAttr ov name v) [.ref x, v] σ REq Qu E := CW2 fun A s _ cv hA hs va vb => by
  cases va
  subst hK
  obtain ⟨es, n, ho, ha⟩ := hs.cells d _ hd
  obtain ⟨vs, sl, hx', hvs⟩ := hs.cells x _ hx
  have I : InstAt s.heap x ⟨.ref C, some d, .fields vs, sl⟩ C (some (attrsObj es n)) := ⟨hx', rfl, rfl, ho⟩
  obtain ⟨cd, hc, hdt⟩ := any_some k4
  refine set_plain (B.X.keeps hs.stays) I k1 (osa_openX (B.X.keeps hs.stays) (s := { s with toks := s.toks + 1 }) I k2 k3 fun b => ?_)
  unfold storeInOwnDict
  refine wpAny_bind (wpAny_pure (wpAny_bind (wpAny_bind (wpAny_loadPart hx' (wpAny_bind ((looks_clsIn (B.X.keeps hs.stays) hc).at ?_))))))
  rw [hdt]
  refine wpAny_pure (a := some d) (wpAny_bind (wpAny_pure (wpAny_bind ?_)))
  unfold nsSet
  refine wpAny_bind (wpAny_bind (wpAny_askSetting (wpAny_pure (wpAny_bind (wpAny_mkText (wpAny_bind (wpAny_loadPart ho ?_)))))))
  have hr : (es.toArray.any (·.refKey)) = false := by rw [← Array.any_toList]; exact ha.noRef
  dsimp only
  rw [aRefKeyMayBeTheName_at, hr, Bool.and_false]
  refine wpAny_updatePart ho ?_
  refine opq ((if name.cps.isEmpty = true then (0 : Int) else reduceHash ((model B.prog B.w).w.params.strHash name.cps))) fun hsh => ?_
  obtain ⟨es', m, hfe, hle, hat⟩ := putAttrs (n := n) (name := name) (v := v) (cv := cv) hsh (s.toks + 1) ha
  refine opqE (Obj.putName name hsh (.str name (s.toks + 1)) cv) fun f hf => ?_
  rw [hf] at hfe
  have hsb := Heap.SameBut.update s.heap d f
  have hd₁ : (f (attrsObj es n)).isFreed = false := by rw [hfe]; rfl
  have hself := Heap.get?_update_self f ho hd₁
  rw [hfe] at hself
  obtain ⟨x₁, e₁⟩ := hs.update (c' := .attrs (setA name v kv)) hd hsb (fun k => ⟨es', m, hself, hat _ (vb.mono k) (ha.mono k)⟩) (s.toks + 2)
  refine wpAny_bind (wpAny_lookBehind hself (pastItsLine_dict (by rw [List.size_toArray, sizeLine_eq]; have := ha.len; lia)) ?_)
  exact wpAny_pure ⟨(), _, rfl, x₁, e₁, h⟩
/-- the first attribute of an exception: its dict is made -/
theorem X_set0 {x C : Addr} {r : Bool} {name : Str} {v : V} {Qu : Unit → Store → Prop} (hK : B.K = K) (hx : σ x = some (.exc r C none))
    (k1 : findIn K (.ref C) "__setattr__" = some (some (.builtin "object.__setattr__"))) (k2 : (clsIn K C).any (fun cd => cd.mro == .ref C :: xmro) = true) (k3 : takerIn K C name = some none) (k4 : (clsIn K C).any (·.hasDict) = true)
    (h : ∀ d, σ d = none → d ≠ x → Qu () ((σ.set x (.exc r C (some d))).set d (.attrs [(name, v)]))) : CW B c (op2 fun ov v => setAttr ov name v) [.ref x, v] σ REq Qu E := CW2 fun A s _ cv hA hs va vb => by
  cases va
  subst hK
  obtain ⟨vs, sl, hx', hvs⟩ := hs.cells x _ hx
  have I : InstAt s.heap x ⟨.ref C, none, .fields vs, sl⟩ C none := ⟨hx', rfl, rfl, trivial⟩
  obtain ⟨cd, hc, hdt⟩ := any_some k4
  refine set_plain (B.X.keeps hs.stays) I k1 (osa_openX (B.X.keeps hs.stays) (s := { s with toks := s.toks + 1 }) I k2 k3 fun b => ?_)
  unfold storeInOwnDict
  refine wpAny_bind (wpAny_pure (wpAny_bind (wpAny_bind (wpAny_loadPart hx' (wpAny_bind ((looks_clsIn (B.X.keeps hs.stays) hc).at ?_))))))
  rw [hdt]
  -- the dict is made
  have hxs : x ≠ s.heap.objs.size := Nat.ne_of_lt (Heap.lt_size hx')
  obtain ⟨y₁, e₁, hn₁⟩ := hs.alloc emptyDict (.attrs []) ⟨[], 0, Heap.get?_push_size _ rfl, .nil⟩
  generalize hdd : s.heap.objs.size = d at *
  have hx₁ : (s.heap.push emptyDict).get? x = some ⟨.ref C, none, .fields vs, sl⟩ := Heap.get?_push_of_some _ hx'
  have hu := Heap.get?_update_self (fun o : Obj => { cls := o.cls, dict := some d, data := o.data, slots := o.slots }) hx₁ rfl
  have hsb₁ := Heap.SameBut.update (s.heap.push emptyDict) x (fun o : Obj => { cls := o.cls, dict := some d, data := o.data, slots := o.slots })
  have hx2 : (σ.set d (.attrs [])) x = some (.exc r C none) := by rw [Store.set_ne _ _ hxs]; exact hx
  obtain ⟨y₂, e₂⟩ := y₁.update (c' := .exc r C (some d)) hx2 hsb₁ (fun _ => ⟨vs, sl, hu, hvs⟩) s.toks
  have hd2 : ((σ.set d (.attrs [])).set x (.exc r C (some d))) d = some (.attrs []) := by rw [Store.set_ne _ _ (Ne.symm hxs), Store.set_self]
  obtain ⟨es, n, ho, ha⟩ := y₂.cells d _ hd2
  cases ha
  refine wpAny_bind (wpAny_alloc' ?_)
  refine wpAny_bind (wpAny_update' hx₁ ?_)
  subst hdd
  refine wpAny_pure (a := some s.heap.objs.size) (wpAny_bind (wpAny_pure (wpAny_bind ?_)))
  unfold nsSet
  refine wpAny_bind (wpAny_bind (wpAny_askSetting (wpAny_pure (wpAny_bind (wpAny_mkText (wpAny_bind (wpAny_loadPart ho ?_)))))))
  dsimp only
  rw [aRefKeyMayBeTheName_at]
  rw [if_neg (by simp)]
  refine wpAny_updatePart ho ?_
  refine opq ((if name.cps.isEmpty = true then (0 : Int) else reduceHash ((model B.prog B.w).w.params.strHash name.cps))) fun hsh => ?_
  obtain ⟨es', m, hfe, hle, hat⟩ := putAttrs (n := n) (name := name) (v := v) (cv := cv) hsh (s.toks + 1) (h := s.heap) .nil
  refine opqE (Obj.putName name hsh (.str name (s.toks + 1)) cv) fun f hf => ?_
  rw [hf] at hfe
  have hsb := Heap.SameBut.update ((s.heap.push emptyDict).update x (fun o : Obj => { cls := o.cls, dict := some s.heap.objs.size, data := o.data, slots := o.slots })) s.heap.objs.size f
  have hd₁ : (f (attrsObj [] n)).isFreed = false := by rw [hfe]; rfl
  have hself := Heap.get?_update_self f ho hd₁
  rw [hfe] at hself
  have vb₂ := (vb.mono (Ext.tup hs e₁)).mono (Ext.tup y₁ e₂)
  obtain ⟨x₁, e₃⟩ := y₂.update (c' := .attrs [(name, v)]) hd2 hsb (fun k => ⟨es', m, hself, hat _ (vb₂.mono k) .nil⟩) (s.toks + 2)
  refine wpAny_bind (wpAny_lookBehind hself (pastItsLine_dict (by rw [List.size_toArray, sizeLine_eq]; simp only [List.length_nil] at hle; lia)) ?_)
  have hst : (((σ.set s.heap.objs.size (.attrs [])).set x (.exc r C (some s.heap.objs.size))).set s.heap.objs.size (.attrs [(name, v)])) = ((σ.set x (.exc r C (some s.heap.objs.size))).set s.heap.objs.size (.attrs [(name, v)])) := by
    funext b
    by_cases q : b = s.heap.objs.size
    · subst q; rw [Store.set_self, Store.set_self]
    · rw [Store.set_ne _ _ q, Store.set_ne _ _ q]
      by_cases z : b = x
      · subst z; rw [Store.set_self, Store.set_self]
      · rw [Store.set_ne _ _ z, Store.set_ne _ _ z, Store.set_ne _ _ q]
  rw [hst] at x₁ e₃
  exact wpAny_pure ⟨(), _, rfl, x₁, e₁.trans (e₂.trans e₃), h _ hn₁ (Ne.symm hxs)⟩
end
end Mine.Internal
end
section
open PySem PySem.W PyProof.Rows PySem.Builtin PySem.Builtin.ObjectAttr
namespace Mine.Internal
/-- what a call's code does -/
noncomputable def CC (B : Bs) (c : Cx) (f : V) (vs : List V) (σ : Store) (Q : V → Store → Prop) (E : Addr → Store → Prop) : Prop :=
  ∀ A s cvs, AOk c A → IsS B c.fr σ s → VRs s.heap vs cvs → codeAny (model B.prog B.w) A (.call (conc f) ⟨cvs, []⟩) (fun r s' => match r with
    | .ok (.ret r) => BhC B c.fr σ s.heap VR Q r s'
    | .ok _ => False
    | .error e => EC B c.fr σ s E e s') s
section
variable {B : Bs} {c : Cx} {σ : Store} {Q : V → Store → Prop} {E : Addr → Store → Prop} {K : Frag}
theorem CC.cw {f : V} {vs : List V} (H : CC B c f vs σ Q E) : CW B c (callF f) vs σ VR Q E := fun A s cvs hA hs hv => wpAny_call (H A s cvs hA hs hv)
theorem CC_defd {f : Addr} {name qual : Str} {params : Arguments} {body : List Stmt} {sc : Scope} {dV kV doc pm cdv ct oc : Value} {an od : Option Addr} {osl : Array (Option Value)} {vs ds : List V} {dcs : List Value} {n : Nat}
    (hK : B.K = K) (ho : K.lookup f = some ⟨oc, od, .func (fnOf name qual params body sc dV kV doc pm an cdv ct), osl⟩) (hcd : codeIn K cdv qual = true) (hck : checkS sc n = true)
    (hb : ∀ s cvs, cvs.length = vs.length → B.K.In s.heap → BindsTo s (fnOf name qual params body sc dV kV doc pm an cdv ct) ⟨cvs, []⟩ (((sc.names.take n).map (·.1)).zip (cvs ++ dcs)))
    (hd : ∀ h, B.K.In h → VRs h ds dcs) (hn : (vs ++ ds).length = n) (hroom : c.dep < recursionLimit)
    (h : ∀ env c', EnvS c' env sc.names → c'.hd = c.hd → c'.dep = c.dep + 1 → c'.un = c.un + 3 → Wss B c' env body (zs sc.names ((vs ++ ds).map some ++ List.replicate (sc.names.length - n) none)) σ (retK Q) (fun a _ σ' => E a σ')) :
    CC B c (.ref f) vs σ Q E := fun A s cvs hA hs hv => by
  subst hK
  obtain ⟨h1, h2, h3, h4, h5, h6⟩ := checkS_ok hck
  have hlen : ((sc.names.take n).map (·.1)).length = (vs ++ ds).length := by rw [List.length_map, List.length_take, hn]; lia
  refine codeAny_fn (ex := (sc.names.drop n).map (·.1)) ho hcd (fun s cvs a b => hb s cvs b a) hd ?_ hlen ?_ h2 h4 h5 h1.kind hroom hA hs hv (fun L hL => ?_) (fun r s' b σ' h1 h2 h3 h4 => ⟨b, σ', h1, h2, h3, h4⟩) fun e s' x => x
  · rw [List.map_take]; exact h1.nod.sublist (List.take_sublist _ _)
  · intro x hx
    obtain ⟨p, hp, rfl⟩ := List.mem_map.mp hx
    have hk := h3 p hp
    have hm := List.mem_of_mem_take hp
    have : KAt sc.names p.1 p.2 := by
      revert hm
      refine opq (sc.names) fun l => ?_
      intro hm
      induction l with
      | nil => cases hm
      | cons q r ih => cases hm with
        | head => exact .here
        | tail _ hm => exact .there (ih hm)
    rw [← hk]; exact this.look h1.nod
  · have e := zs_start (ns := sc.names) hn h6
    rw [← e] at h
    exact h (envOf qual sc L f cdv) (deepC c (envOf qual sc L f cdv)) ⟨envOf_ok h1.kind, envOf_fr, rfl, h1.nod, h1.dbg⟩ rfl rfl rfl
noncomputable def underC (c : Cx) : Cx := ⟨c.fr, c.hd, c.dep + 1, c.un + 1⟩
theorem AOk.under {A : Around} {C : Addr} {rest : List Value} (h : AOk c A) : AOk (underC c) (A.under (.builtin "type.__call__" ⟨.ref C :: rest, []⟩)) :=
  ⟨by show pushEnvs [] A.frames = _; exact h.fr, h.hd, Nat.add_le_add_right h.dep 1, Nat.add_le_add_right h.un 1⟩
theorem CC_make {C fI : Addr} {vs : List V} (hK : B.K = K) (hm : makesIn K C = true) (hi : findIn K (.ref C) "__init__" = some (some (.ref fI))) (hf : typeIn K (.ref fI) = some (.type "function"))
    (h : ∀ x d, x ≠ d → σ x = none → σ d = none → CC B (underC c) (.ref fI) (.ref x :: vs) ((σ.set d (.attrs [])).set x (.inst C d)) (fun v σ' => v = .none ∧ Q (.ref x) σ') E) : CC B c (.ref C) vs σ Q E := fun A s cvs hA hs hv => by
  subst hK
  obtain ⟨hh, g, d, t, os⟩ := s
  have X := B.X.keeps hs.stays
  refine make_core (makes_of X hm) (looks_findIn X hi) (fun self => bind_fn X self hf) (.inl rfl) ?_
  obtain ⟨y₁, e₁, n₁⟩ := hs.alloc emptyDict (.attrs []) ⟨[], 0, Heap.get?_push_size _ rfl, .nil⟩
  have hs2 : (hh.push emptyDict).objs.size = hh.objs.size + 1 := Heap.size_push ..
  obtain ⟨y₂, e₂, n₂⟩ := y₁.alloc (instObj C hh.objs.size) (.inst C hh.objs.size) (Heap.get?_push_size _ rfl)
  rw [show (Shared.mk (hh.push emptyDict) g d t os).heap.objs.size = hh.objs.size + 1 from hs2] at y₂ e₂ n₂
  have hne : hh.objs.size + 1 ≠ hh.objs.size := by lia
  have n₃ : σ (hh.objs.size + 1) = none := by rw [← n₂]; exact (Store.set_ne _ _ hne).symm
  have hv₂ : VRs ((hh.push emptyDict).push (instObj C hh.objs.size)) vs cvs := (hv.mono (Heap.push_keep _)).mono (Heap.push_keep _)
  refine codeAny_mono (h (hh.objs.size + 1) hh.objs.size hne n₃ n₁ _ _ (.ref (hh.objs.size + 1) :: cvs) hA.under y₂ (.cons (.ref _) hv₂)) fun r s' z => ?_
  cases r with
  | error e =>
    obtain ⟨a, σ', h1, h2, h3, h4, h5, h6⟩ := z
    exact ⟨a, σ', h1, h2, (e₁.trans e₂).trans h3, h4.earlier (e₁.trans e₂).live, h5, h6⟩
  | ok f =>
    cases f with
    | ret v =>
      obtain ⟨b, σ', h1, h2, h3, h4, h5⟩ := z
      subst h4
      cases h1
      exact ⟨rfl, .ref _, σ', .ref _, h2, (e₁.trans e₂).trans h3, h5⟩
    | _ => exact z.elim
end
end Mine.Internal
end
section
open PySem PySem.W PyProof.Rows PySem.Builtin PySem.Builtin.ObjectAttr
namespace Mine.Internal
section
variable {B : Bs} {c : Cx} {σ : Store} {Q : V → Store → Prop} {E : Addr → Store → Prop} {K : Frag} {Qm : V × List V → Store → Prop} {pl : Sem Bool}
theorem ns_of {h : Heap} {N : Addr} {mg : Str → Option Value} {n : Str} {v : Value} (X : K.In h) (G : h.Ns N mg) (e : nsIn K N n = some (some v)) : mg n = some v := by
  obtain ⟨o, es, ep, ho, hd, _, hf⟩ := G
  unfold nsIn at e
  split at e
  · rename_i c' d' es' n' sl q
    have := X _ _ q
    rw [ho] at this; cases this
    cases hd
    split at e
    · rename_i en he
      cases e
      rw [← hf]
      unfold nsFind findBy
      rw [← Array.find?_toList, he]
      rfl
    · split at e <;> cases e
  · cases e
theorem CW_makeX {C fI N : Addr} {vs : List V} {nm q : Str} {bs : List Value} {hdct : Bool} {sn : List Str} {sub : List Value} {ab : Bool} {col : Option Bool} {dd : Option Addr} {k0 k1 k2 k3 k5 : Option Value} (hK : B.K = K) (hC : K.lookup C = some (excClassObj nm q C N bs xmro hdct sn sub ab col dd k0 k1 k2 k3 k5 "Exception.__new__"))
    (hns : nsOkIn K N = true) (hi : nsIn K N "__init__" = some (some (.ref fI))) (hf : typeIn K (.ref fI) = some (.type "function")) (hz : vs.length ≤ sizeLine)
    (h : ∀ x, σ x = none → CW B (underC c) (callF (.ref fI)) (.ref x :: vs) (σ.set x (.exc false C none)) VR (fun v σ' => v = .none ∧ Q (.ref x) σ') E) : CW B c (callF (.ref C)) vs σ VR Q E := fun A s cvs hA hs hv => by
  subst hK
  have hlen := hv.length
  obtain ⟨hh, g, d, t, os⟩ := s
  have X := B.X.keeps hs.stays
  obtain ⟨oI, hoI, hoc⟩ := Option.map_eq_some_iff.mp hf
  have G := Heap.Ns.of_isNs (isNs_of_in X hns)
  refine wpAny_call_exc_init PySem.F.excBase_Exception (X _ _ hC) G (ns_of X G hi) (X _ _ hoI) hoc (fun h' e hm => ?_) (by rw [hlen]; exact hz)
  obtain ⟨hk, hnew, t0, ho, hnt, ht⟩ := hm
  obtain ⟨y₁, e₁, n₁⟩ := hs.fresh hk hnew t (.exc false C none) ⟨_, #[], ho, by simp, ⟨t0, rfl⟩, fun _ => rfl⟩
  refine CW.runS (h e n₁) hA.under y₁ (.cons (.ref _) (hv.mono (keeps_tup hk))) (fun r s' b σ' h1 h2 h3 h4 => ?_) fun x s' ⟨a, σ', h1, h2, h3, h4, h5, h6⟩ => ⟨a, σ', h1, h2, e₁.trans h3, h4.earlier e₁.live, h5, h6⟩
  obtain ⟨rfl, q⟩ := h4
  cases h1
  exact ⟨rfl, .ref _, σ', .ref _, h2, e₁.trans h3, q⟩
theorem M_excInit (hfc : findCls K (.type "Exception") (.type "type") "__init__" = some (.val (.builtin "Exception.__init__"))) (hK : B.K = K) (h : Qm (.bi "Exception.__init__", []) σ) : CW B c (op1 fun x => getMethod x "__init__" pl) [.ty "Exception"] σ RM Qm E :=
  CW1 fun A s _ hA hs va => by
    cases va
    subst hK
    have X := B.X.keeps hs.stays
    have hstub : opaqueClassAbove (.type "Exception") = pure none := by unfold opaqueClassAbove; dsimp only; rw [show Manifest.isStub "Exception" = false from by decide +kernel]; rfl
    have L0 : Looks (model B.prog B.w) s.heap (typeOf (.type "Exception")) (.type "type") := Looks.of_pure (by kernel_rfl)
    have hg : findIn B.K (.type "type") "__getattribute__" = some (some (.builtin "type.__getattribute__")) := type_tga
    unfold getMethod specialOf
    refine wpAny_bind (wpAny_bind (L0.here ((looks_findIn X hg).here ?_)))
    dsimp only
    rw [if_pos canon_tga]
    refine wpAny_bind (wpAny_mono (Q := fun v s' => v = .builtin "Exception.__init__" ∧ s' = { s with toks := s.toks + 1 }) (E := EC B c.fr σ s E) ?_ (fun v s' ⟨h1, h2⟩ => ?_) fun _ _ z => z)
    · have LO : Looks (model B.prog B.w) s.heap (opaqueClassAbove (.type "Exception")) none := Looks.of_pure hstub
      refine cls_open X LO L0 hg (looks_hook X (r := none) (by rfl)) (by show subIn B.K _ _ = _; rfl) hfc ?_
      exact wpAny_pure (handed_on (by decide +kernel) ⟨rfl, rfl⟩)
    · subst h1 h2
      exact wpAny_pure ⟨(.bi "Exception.__init__", []), σ, rm_i (.bi _) .nil, hs.toks _, .refl .., h⟩
theorem F_excInit {x C : Addr} {d : Option Addr} {r : Bool} {v : V} (hK : B.K = K) (hx : σ x = some (.exc r C d)) (km : mroIn K C (.type "Exception") = some true) (h : Q .none σ) : CW B c (callF (.bi "Exception.__init__")) [.ref x, v] σ VR Q E :=
  CF2 fun A s _ cv hA hs va vb => by
    cases va
    subst hK
    obtain ⟨vs, sl, hx', hsz, ⟨t0, h0⟩, h1⟩ := hs.cells x _ hx
    have X := B.X.keeps hs.stays
    have FE := PySem.F.excBase_Exception
    have L0 : Looks (model B.prog B.w) s.heap (typeOf (.ref x)) (.ref C) := (Looks.ld hx').andThen .now
    have L4 : Looks (model B.prog B.w) s.heap (isInstance (.ref x) (.type "Exception")) true := L0.andThen (looks_mroIn X km)
    show wpAny _ A (call (.builtin "Exception.__init__") _) _ _ s
    refine wpAny_call (codeAny_call_builtin FE.init.plain FE.initEntry ?_)
    simp only [checkBuiltinCall, FE.initKind, FE.initSplit, FE.initRow]
    refine wpAny_bind (L4.here ?_)
    rw [if_neg (by decide)]
    obtain ⟨cd, hcd, _⟩ := Option.bind_eq_some_iff.mp km
    have L5 : Looks (model B.prog B.w) s.heap (typeNameWhole (.ref C)) cd.name.toString := (looks_clsIn X hcd).andThen .now
    generalize hsig : ({ machinery := Manifest.Machinery.positional, full := "*", short := "Exception", receiver := Manifest.Receiver.self, params := [{ name := "args", kind := Manifest.ParamKind.varPos, required := false }] } : Manifest.Signature) = sig
    have LP : Looks (model B.prog B.w) s.heap (Bind.printed "*" true sig (some (.ref x))) cd.name.toString := by
      subst hsig
      show Looks _ _ (typeOf (.ref x) >>= fun t => typeNameWhole t >>= fun tp => pure (if true = true then tp else Bind.lastOf tp)) _
      exact L0.andThen (L5.andThen .now)
    have LC : Looks (model B.prog B.w) s.heap (Bind.checkArgs "Exception.__init__" sig { pos := [Value.ref x, cv] }) () := by
      intro A Q E s k q
      subst hsig
      unfold Bind.checkArgs
      show wpAny _ _ (Bind.printed "*" true _ (some (Value.ref x)) >>= _) _ _ _
      refine wpAny_bind (LP A _ E s k ?_)
      show wpAny _ _ (Bind.printed "Exception" false _ (some (Value.ref x)) >>= _) _ _ _
      refine wpAny_bind (wpAny_pure (wpAny_onRaise ?_))
      rw [show ∀ (a b : String) (n : Nat), Bind.check ⟨.positional, "*", "Exception", .self, [⟨"args", .varPos, false⟩]⟩ a b n (List.map (fun x => x.fst) ({ pos := [Value.ref x, cv] } : Args).kw) = pure () from
        fun a b n => check_star_args _ _ _ _ _ _]
      exact wpAny_pure q
    refine LC.here ?_
    unfold Builtin.«BaseException.__init__»
    dsimp only
    rw [if_neg (by simp)]
    unfold newTuple Builtin.BaseException.bexcPut
    have he₁ := Heap.get?_push_of_some (h := s.heap) { cls := .type "tuple", data := .seq [cv].toArray } hx'
    refine wpAny_bind (wpAny_newObj_type (wpAny_bind (wpAny_bind (wpAny_field he₁ rfl h0 (wpAny_bind (wpAny_setField he₁ rfl (by lia) ?_))))) (show 1 ≤ sizeLine by decide))
    obtain ⟨y₁, e₁⟩ := hs.push { cls := .type "tuple", data := .seq [cv].toArray }
    have hsb := Heap.SameBut.update (s.heap.push { cls := .type "tuple", data := .seq [cv].toArray }) x (Obj.mapFields (·.setIfInBounds 0 (Value.ref s.heap.objs.size)))
    have hu := Heap.get?_update_self (Obj.mapFields (·.setIfInBounds 0 (Value.ref s.heap.objs.size))) he₁ rfl
    obtain ⟨y₂, e₂⟩ := y₁.update (c' := .exc r C d) hx hsb (fun _ => ⟨vs.setIfInBounds 0 (Value.ref s.heap.objs.size), sl, hu, by simpa using hsz, ⟨s.heap.objs.size, Array.getElem?_setIfInBounds_self_of_lt (by lia)⟩, fun q => by rw [Array.getElem?_setIfInBounds_ne (by decide)]; exact h1 q⟩) s.toks
    rw [set_same hx] at y₂ e₂
    exact wpAny_letGo (wpAny_pure ⟨.none, σ, .none, y₂, e₁.trans e₂, h⟩)
end
end Mine.Internal
end
section
open PySem PySem.W PyProof.Rows PySem.Builtin PySem.Builtin.ObjectAttr
namespace Mine.Internal
noncomputable def delL (x : Str) : Loc → Loc
  | [] => []
  | (y, u) :: r => if y = x then (y, none) :: r else (y, u) :: delL x r
theorem getL_delL (x y : Str) : ∀ l : Loc, getL y (delL x l) = if y = x then none else getL y l
  | [] => by simp [delL, getL]
  | (z, u) :: r => by
    unfold delL
    by_cases hz : z = x
    · subst hz
      rw [if_pos rfl]
      by_cases h : y = z
      · subst h; simp [getL]
      · have : ¬ z = y := fun e => h e.symm
        simp [getL, h, this]
    · rw [if_neg hz]
      unfold getL
      by_cases h : z = y
      · subst h; simp [hz]
      · rw [if_neg h, if_neg h, getL_delL x y r]
noncomputable def cH (c : Cx) (a : Addr) : Cx := ⟨c.fr, some (.ref a), c.dep, c.un⟩
theorem AOk.mark {c : Cx} {A : Around} {a : Addr} (h : AOk c A) : AOk (cH c a) (A.mark (some (.ref a))) := ⟨h.fr, rfl, h.dep, h.un⟩
section
variable {B : Bs} {c : Cx} {env : Env} {ρ : Loc} {σ : Store} {K : Frag}
theorem IsF.setLoc {fr : List Env} {s : Shared} {ρ' : Loc} (x : IsF B fr env ρ σ s) {m' : Str → Option Value} {h' : Heap} (hn : h'.Ns env.locals m') (hs : Heap.SameBut env.locals s.heap h') (hm : ∀ z u, getL z ρ' = some u → ∃ cc, m' z = some cc ∧ VR s.heap u cc) (t : Nat) :
    IsF B fr env ρ' σ { s with heap := h', toks := t } ∧ ExtS env.locals σ s.heap σ h' := by
  have hn1 := hn
  obtain ⟨oL', es', ep', hL', hd', hk', hf'⟩ := hn
  have ke : TupKeep s.heap h' := SameBut.tup hs (fun o e => x.noFz e)
  refine ⟨⟨⟨fun b o e => ?_, ?_, x.S.off, x.S.new, fun a c e => ?_, x.S.gens, x.S.drawn, x.S.os⟩, x.offL, x.newL, _, hn1, fun z u hz => let ⟨c, h1, h2⟩ := hm z u hz; ⟨c, h1, h2.mono ke⟩⟩, fun a o vs n e _ _ => (hs.2 a n).trans e, fun a e => ?_, fun a o n e _ => ⟨o.slots, (hs.2 a n).trans e⟩, fun _ h => .inl h⟩
  · have : b ≠ env.locals := fun q => by rw [q, x.newL] at e; cases e
    exact (hs.2 b this).trans (x.S.stays b o e)
  · refine funFrames_step (fun b o e hnf => ?_) x.S.frames
    by_cases q : b = env.locals
    · subst q
      exact ⟨oL', hL', fun vs z => by rw [hd'] at z; cases z⟩
    · exact ⟨o, (hs.2 b q).trans e, hnf⟩
  · have z := x.S.cells a c e
    have : a ≠ env.locals := fun q => by rw [q, x.offL] at e; cases e
    exact z.mono (hs.2 a this) ke
  · by_cases q : a = env.locals
    · subst q; rw [hL'] at e; cases e
    · rw [← hs.2 a q]; exact e
theorem unbind_run {fr : List Env} {A : Around} {s : Shared} {n : Str} {p : Pos} {Qc : Unit → Shared → Prop} {Ec : Value → Shared → Prop} (ok : EnvOK env) (hs : IsF B fr env ρ σ s) (hl : env.kindOf n = some .local)
    (k : ∀ s', IsF B fr env (delL n ρ) σ s' → ExtS env.locals σ s.heap σ s'.heap → Qc () s') : wpAny (model B.prog B.w) A (do bindName env n .none; unbindBehindTheSuite env n p) Qc Ec s := by
  refine wpAny_bind (bind_run ok hs .none hl fun s₁ hs₁ e₁ => ?_)
  obtain ⟨m, hn, hm⟩ := hs₁.loc
  obtain ⟨cv, hv, _⟩ := hm n .none (by rw [getL_setL, if_pos rfl])
  unfold unbindBehindTheSuite
  refine wpAny_onRaise (wpAny_unbindName_local hl hn hv (by rw [ok.kind]; rfl) fun h' u hn' hsb => ?_)
  obtain ⟨y, e⟩ := hs₁.setLoc (ρ' := delL n ρ) hn' hsb (fun z u hz => by
    rw [getL_delL] at hz
    by_cases q : z = n
    · rw [if_pos q] at hz; cases hz
    · rw [if_neg q] at hz
      obtain ⟨c, h1, h2⟩ := hm z u (by rw [getL_setL, if_neg q]; exact hz)
      exact ⟨c, (if_neg q).trans h1, h2⟩) s₁.toks
  exact k _ y (e₁.trans e)
theorem Ws_raise {e : Expr} {pos : Pos} {Q : Fl → Loc → Store → Prop} {E : Addr → Loc → Store → Prop} (hK : B.K = K) (hh : c.hd = none)
    (h : Wx B c env e ρ σ (fun v σ₁ => ∃ a C d, v = .ref a ∧ σ₁ a = some (.exc false C d) ∧ σ a = none ∧ mroIn K C (.type "BaseException") = some true ∧ typeIn K (.ref C) = some (.type "type") ∧ E a ρ (σ₁.set a (.exc true C d))) (fun a σ₁ => E a ρ σ₁)) : Ws B c env (.Raise (some e) none pos) ρ σ Q E := fun A s hA hs => by
  subst hK
  have hhA : A.handled = none := hA.hd.trans hh
  show wpAny _ A (do standAt pos; raiseStmt env (some (do let v ← eval e env; standAt pos; pure v)) none) _ _ s
  refine wpAny_bind (wpAny_standAt ?_)
  unfold raiseStmt
  dsimp only
  refine wpAny_bind (wpAny_bind (h.run hA hs (fun r s₁ v σ₁ hv hs₁ e₁ zz => wpAny_bind (wpAny_standAt (wpAny_pure ?_))) fun e s' x => .ofEF x fun _ _ y => y))
  obtain ⟨a, C, d, hva, ha, han, km, kt, hE⟩ := zz
  subst hva
  refine hv.ref' ?_
  obtain ⟨vs, sl, hx', hsz, h0, h1⟩ := hs₁.S.cells a _ ha
  have X := B.X.keeps hs₁.S.stays
  have L0 : Looks (model B.prog B.w) s₁.heap (typeOf (.ref a)) (.ref C) := (Looks.ld hx').andThen .now
  have L4 : Looks (model B.prog B.w) s₁.heap (isInstance (.ref a) (.type "BaseException")) true := L0.andThen (looks_mroIn X km)
  have hnt : ∀ {Q' : Bool → Shared → Prop} {E' : Value → Shared → Prop}, Q' false s₁ → wpAny (model B.prog B.w) A (isType (.ref a)) Q' E' s₁ := by
    intro Q' E' hq
    simp only [isType, loadHead]
    refine wpAny_bind (wpAny_loadPart hx' ?_)
    exact wpAny_pure hq
  refine wpAny_bind (wpAny_pure ?_)
  dsimp only
  refine wpAny_bind (wpAny_holding ?_)
  unfold excFromValue isExcClass
  refine wpAny_bind (wpAny_bind (hnt ?_))
  simp only [Bool.false_eq_true, if_false]
  refine wpAny_pure ?_
  simp only [Bool.false_eq_true, if_false]
  refine wpAny_bind (L4.here ?_)
  simp only [if_true]
  refine wpAny_pure ?_
  refine wpAny_bind (hnt ?_)
  simp only [Bool.false_eq_true, if_false]
  unfold raisedInstance
  refine wpAny_bind (wpAny_bind (L0.here (wpAny_bind ((looks_typeIn X kt).here ?_))))
  rw [if_pos (by decide)]
  refine wpAny_pure ?_
  unfold setFlight raiseNew
  refine wpAny_bind (wpAny_bind (wpAny_field hx' rfl (h1 rfl) ?_))
  rw [if_neg (by decide)]
  refine wpAny_pure (wpAny_bind (wpAny_handled ?_))
  rw [hhA]
  have hna : s.heap.get? a = none := by
    rcases e₁.dom a (by rw [ha]; simp) with z | z
    · exact absurd han z
    · exact z
  have y₁ : IsS B c.fr (σ₁.set a (.exc true C d)) s₁ ∧ Ext σ₁ s₁.heap (σ₁.set a (.exc true C d)) s₁.heap := by
    have := hs₁.S.update (h' := s₁.heap) (c' := .exc true C d) ha ⟨rfl, fun _ _ => rfl⟩ (fun _ => ⟨vs, sl, hx', hsz, h0, fun q => by cases q⟩) s₁.toks
    exact this
  have hE' : ES B c.fr env σ s E (.ref a) s₁ := ⟨a, ρ, _, rfl, hs₁.to y₁.1 y₁.2, (e₁.trans y₁.2).toS _, ⟨hna, _, vs, hx', rfl, .inl (h1 rfl)⟩, ⟨C, d, Store.set_self ..⟩, hE⟩
  first
    | exact wpAny_throw hE'
    | exact wpAny_bind (wpAny_pure (wpAny_throw hE'))
noncomputable def Store.del (σ : Store) (a : Addr) : Store := fun b => if b = a then none else σ b
theorem del_self (σ : Store) (a : Addr) : σ.del a a = none := if_pos rfl
theorem del_ne (σ : Store) {a b : Addr} (h : b ≠ a) : σ.del a b = σ b := if_neg h
theorem del_none {σ : Store} {a b : Addr} (h : σ b = none) : σ.del a b = none := by
  by_cases z : b = a
  · subst z; exact del_self ..
  · rw [del_ne _ z]; exact h
theorem del_le (σ : Store) (a : Addr) : (σ.del a).Le σ := fun b c e => by
  by_cases q : b = a
  · subst q; rw [del_self] at e; cases e
  · rw [del_ne _ q] at e; exact e
theorem IsS.restore {fr : List Env} {s : Shared} {a : Addr} {cc : Cell} (x : IsS B fr σ s) (hn : σ a = none) (hb : B.h₀.get? a = none) (hc : CellOK B s.heap a cc) (ho : ∀ env ∈ fr, ∀ L, env.frame = some L → L ≠ a) : IsS B fr (σ.set a cc) s :=
  ⟨x.stays, x.frames, fun env he L hL => by rw [Store.set_ne _ _ (ho env he L hL)]; exact x.off env he L hL, fun b h => (by
    by_cases q : b = a
    · subst q; exact hb
    · rw [Store.set_ne _ _ q] at h; exact x.new b h), fun b c e => (by
    by_cases q : b = a
    · subst q; rw [Store.set_self] at e; cases e; exact hc
    · rw [Store.set_ne _ _ q] at e; exact x.cells b c e), x.gens, x.drawn, x.os⟩
theorem Ws_tryFin {body : List Stmt} {f₀ : Stmt} {fs : List Stmt} {pos : Pos} {Q : Fl → Loc → Store → Prop} {E : Addr → Loc → Store → Prop} (fk : FrOK c env)
    (h : Wss B c env body ρ σ (fun f ρ' σ' => Wss B c env (f₀ :: fs) ρ' σ' (fun g ρ'' σ'' => g = .next ∧ Q f ρ'' σ'') (fun _ _ _ => False))
      (fun a ρ' σ' => ∀ C d, σ' a = some (.exc true C d) → Wss B (cH c a) env (f₀ :: fs) ρ' (σ'.del a) (fun g ρ'' σ'' => g = .next ∧ E a ρ'' (σ''.set a (.exc true C d))) (fun _ _ _ => False))) :
    Ws B c env (.Try body [] [] (f₀ :: fs) pos) ρ σ Q E := fun A s hA hs => by
  obtain ⟨outer, htop⟩ := fk.top
  have plain : ∀ {f : Fl} {r : Flow} {s₁ : Shared} {ρ' : Loc} {σ' : Store}, RFl s₁.heap f r → IsF B c.fr env ρ' σ' s₁ → ExtS env.locals σ s.heap σ' s₁.heap → Wss B c env (f₀ :: fs) ρ' σ' (fun g ρ'' σ'' => g = .next ∧ Q f ρ'' σ'') (fun _ _ _ => False) →
      wpAny (model B.prog B.w) A (execs (f₀ :: fs) env) (fun g s' => match g with
        | .next => BhS B c.fr env σ s.heap RFl Q r s'
        | g => BhS B c.fr env σ s.heap RFl Q g s') (notedBy (model B.prog B.w) A env (cameBackBy (model B.prog B.w) A env (ES B c.fr env σ s E))) s₁ := fun {f r s₁ ρ' σ'} hf hs₁ e₁ H =>
    WS.run H hA hs₁ (fun g s₂ b ρ₂ σ₂ hg hs₂ e₂ ⟨hb, q⟩ => by
      subst hb
      cases hg
      refine ⟨f, ρ₂, σ₂, ?_, hs₂, e₁.trans e₂, q⟩
      cases hf with
      | next => exact .next
      | brk => exact .brk
      | cont => exact .cont
      | ret hv => exact .ret (hv.mono (ExtS.tup hs₁ e₂))) fun e s' ⟨_, _, _, _, _, _, _, _, z⟩ => z.elim
  refine wpAny_Try_finally (WS.run h hA hs (fun r s₁ f ρ₁ σ₁ hf hs₁ e₁ H => ?_) fun e s₁ x => ?_)
  · cases hf with
    | next => exact wpAny_execs_nil (plain .next hs₁ e₁ H)
    | brk => exact plain .brk hs₁ e₁ H
    | cont => exact plain .cont hs₁ e₁ H
    | ret hv => exact plain (.ret hv) hs₁ e₁ H
  · refine cps fun P k0 => ?_
    obtain ⟨a, ρ₁, σ₁, rfl, hs₁, e₁, tb, ⟨C, d, hc⟩, H⟩ := x
    have hfr := hA.fr
    rw [htop] at hfr
    have hL : s.heap.get? env.locals ≠ none := by obtain ⟨m, ⟨o, _, _, ho, _⟩, _⟩ := hs.loc; rw [ho]; simp
    have hS := hs₁.S
    rw [htop] at hS
    refine k0 (note_run hfr fk.own hS hs.S.stays e₁.live tb ⟨C, d, hc⟩ fun h₁ y₁ t₁ tb₁ k₁ => ⟨ref_ne_byPass a, ?_⟩)
    refine note_run (s := { s₁ with heap := h₁ }) hfr fk.own y₁ hs.S.stays (fun b q => e₁.live b (t₁.live b q)) tb₁.1 ⟨C, d, hc⟩ fun h₂ y₂ t₂ tb₂ k₂ => ?_
    refine flight_run (s := { s₁ with heap := h₂ }) y₂ hs.S.stays tb₂ fun h₃ y₃ t₃ tb₃ k₃ => ?_
    have tt := (t₁.trans t₂).trans t₃
    have F₃ := IsF.tch (s := s₁) (h' := h₃) hs₁ (by rw [htop]; exact y₃) tt hL ((k₁.trans k₂).trans k₃)
    have e₃ := e₁.tch tt
    refine cps fun P1 k3 => ?_
    obtain ⟨tbb, o, vs, T, ho, hd, h1⟩ := tb₃
    have tbb' := tbb
    obtain ⟨hna, o', vs', ho', hd', r⟩ := tbb
    rw [ho] at ho'; cases ho'
    rw [hd] at hd'; cases hd'
    rcases r with r | ⟨T', oT, ts, r1, hTn, hσT, hTa, hT, hdT, hsz, hcT⟩
    · rw [h1] at r; cases r
    rw [h1] at r1; cases r1
    obtain ⟨vs₀, sl₀, hx₀, hz₀⟩ := F₃.S.cells a _ hc
    have aL : a ≠ env.locals := fun q => by have := F₃.offL; rw [← q, hc] at this; cases this
    have TL : T ≠ env.locals := fun q => by
      obtain ⟨m, ⟨oL, _, _, hoL, hdL, _⟩, _⟩ := F₃.loc
      rw [← q] at hoL
      have : h₃.get? T = some oL := hoL
      rw [hT] at this; cases this; rw [hdT] at hdL; cases hdL
    have F₄ : IsF B (cH c a).fr env ρ₁ (σ₁.del a) { s₁ with heap := h₃ } := ⟨F₃.S.weaken (del_le _ _), by rw [del_ne _ (Ne.symm aL)]; exact F₃.offL, F₃.newL, F₃.loc⟩
    refine k3 (WS.run (H C d hc) hA.mark F₄ (fun g s₄ b ρ₄ σ₄ hg hs₄ e₄ ⟨hb, hE⟩ => ?_) fun e s' ⟨_, _, _, _, _, _, _, _, z⟩ => z.elim)
    refine cps fun P2 k4 => ?_
    subst hb
    cases hg
    have ha₄ : s₄.heap.get? a = some o := e₄.fix a o vs aL ho hd (del_self ..)
    have hT₄ : s₄.heap.get? T = some oT := e₄.fix T oT ts TL hT hdT (by
      by_cases q : T = a
      · exact absurd q hTa
      · rw [del_ne _ q]; exact hσT)
    have hσa : σ₄ a = none := by
      cases q : σ₄ a with
      | none => rfl
      | some cc => rcases e₄.dom a (by rw [q]; simp) with z | z
                   · exact absurd (del_self ..) z
                   · have z : h₃.get? a = none := z
                     rw [ho] at z; cases z
    have hσT₄ : σ₄ T = none := by
      cases q : σ₄ T with
      | none => rfl
      | some cc => rcases e₄.dom T (by rw [q]; simp) with z | z
                   · rw [del_ne _ hTa] at z; exact absurd hσT z
                   · have z : h₃.get? T = none := z
                     rw [hT] at z; cases z
    have hbase : B.h₀.get? a = none := hs₁.S.new a (by rw [hc]; simp)
    have hx₀ : h₃.get? a = some ⟨.ref C, d, .fields vs₀, sl₀⟩ := hx₀
    have hoo : o = ⟨.ref C, d, .fields vs₀, sl₀⟩ := by rw [ho] at hx₀; exact Option.some.inj hx₀
    have hS₄ : IsS B c.fr (σ₄.set a (.exc true C d)) s₄ := hs₄.S.restore hσa hbase ⟨vs₀, sl₀, by rw [ha₄, hoo], hz₀⟩ (fun env' he L hL' => fun q => by
      have := F₃.S.off env' he L hL'
      rw [q, hc] at this; cases this)
    have F₅ : IsF B c.fr env ρ₄ (σ₄.set a (.exc true C d)) s₄ := ⟨hS₄, by rw [Store.set_ne _ _ (Ne.symm aL)]; exact hs₄.offL, hs₄.newL, hs₄.loc⟩
    have e₅ : ExtS env.locals σ s.heap (σ₄.set a (.exc true C d)) s₄.heap := by
      refine e₃.trans ⟨fun b o vs n q dd hb => e₄.fix b o vs n q dd (del_none hb), e₄.live, fun b o n q hb => e₄.keep b o n q (del_none hb), fun b hb => ?_⟩
      by_cases z : b = a
      · subst z; exact .inl (by rw [hc]; simp)
      · rw [Store.set_ne _ _ z] at hb
        rcases e₄.dom b hb with q | q
        · rw [del_ne _ z] at q; exact .inl q
        · exact .inr q
    have tb₅ : TBs s.heap (σ₄.set a (.exc true C d)) s₄.heap a := ⟨⟨hna, o, vs, ha₄, hd, .inr ⟨T, oT, ts, h1, hTn, by rw [Store.set_ne _ _ hTa]; exact hσT₄, hTa, hT₄, hdT, hsz, hcT⟩⟩, o, vs, T, ha₄, hd, h1⟩
    refine k4 ?_
    show wpAny _ _ (PySem.passOn "try.finally" (.ref a) env) _ _ _
    unfold PySem.passOn
    refine wpAny_bind (wpAny_field ha₄ hd h1 ?_)
    rw [if_neg (by simp)]
    refine wpAny_bind (flight_run hS₄ hs.S.stays tb₅ fun h₆ y₆ t₆ tb₆ k₆ => wpAny_throw ?_)
    have F₆ := IsF.tch (s := s₄) (h' := h₆) F₅ y₆ t₆ hL k₆
    exact ⟨a, ρ₄, _, rfl, F₆, e₅.tch t₆, tb₆.1, ⟨C, d, Store.set_self ..⟩, hE⟩
end
end Mine.Internal
end
section
open PySem PySem.W PyProof.Rows PySem.Builtin PySem.Builtin.ObjectAttr
namespace Mine.Internal
section
variable {B : Bs} {c : Cx} {env : Env} {ρ : Loc} {σ : Store} {K : Frag}
theorem Ws_tryAs {body : List Stmt} {t : Expr} {n : Str} {b₀ : Stmt} {suite : List Stmt} {hpos pos : Pos} {Q : Fl → Loc → Store → Prop} {E : Addr → Loc → Store → Prop} {C N : Addr} {nm q : Str} {bs : List Value} {hdct : Bool} {sn : List Str} {sub : List Value} {ab : Bool} {col : Option Bool} {dd : Option Addr} {k0 k1 k2 k3 k5 : Option Value}
    (hK : B.K = K) (ok : EnvOK env) (fk : FrOK c env) (hl : env.kindOf n = some .local) (hC : K.lookup C = some (excClassObj nm q C N bs xmro hdct sn sub ab col dd k0 k1 k2 k3 k5 "Exception.__new__"))
    (h : Wss B c env body ρ σ Q
      (fun a ρ' σ' => ∃ d, σ' a = some (.exc true C d) ∧ Wx B (cH c a) env t ρ' (σ'.del a) (fun v σ'' => v = .ref C ∧ σ'' = σ'.del a) (fun _ _ => False) ∧
        Wss B (cH c a) env (b₀ :: suite) (setL n (.ref a) ρ') σ' (fun f ρ'' σ'' => Q f (delL n ρ'') σ'') (fun _ _ _ => False))) :
    Ws B c env (.Try body [.ExceptHandler (some t) (some n) (b₀ :: suite) hpos] [] [] pos) ρ σ Q E := fun A s hA hs => by
  subst hK
  obtain ⟨outer, htop⟩ := fk.top
  refine wpAny_Try_except (WS.run h hA hs (fun r s₁ f ρ₁ σ₁ hf hs₁ e₁ q => ?_) fun e s₁ x => ?_)
  · cases hf with
    | next => exact wpAny_execs_nil ⟨.next, ρ₁, σ₁, .next, hs₁, e₁, q⟩
    | brk => exact ⟨_, ρ₁, σ₁, .brk, hs₁, e₁, q⟩
    | cont => exact ⟨_, ρ₁, σ₁, .cont, hs₁, e₁, q⟩
    | ret hv => exact ⟨_, ρ₁, σ₁, .ret hv, hs₁, e₁, q⟩
  · refine cps fun P k0 => ?_
    obtain ⟨a, ρ₁, σ₁, rfl, hs₁, e₁, tb, hc0, d, hc, ht, hsuite⟩ := x
    have hfr := hA.fr
    rw [htop] at hfr
    have hL : s.heap.get? env.locals ≠ none := by obtain ⟨m, ⟨o, _, _, ho, _⟩, _⟩ := hs.loc; rw [ho]; simp
    have hS := hs₁.S
    rw [htop] at hS
    refine k0 (note_run hfr fk.own hS hs.S.stays e₁.live tb hc0 fun h₁ y₁ t₁ tb₁ k₁ => ?_)
    refine flight_run (s := { s₁ with heap := h₁ }) y₁ hs.S.stays tb₁ fun h₂ y₂ t₂ tb₂ k₂ => ?_
    have tt := t₁.trans t₂
    have F₂ := IsF.tch (s := s₁) (h' := h₂) hs₁ (by rw [htop]; exact y₂) tt hL (k₁.trans k₂)
    have e₂ := e₁.tch tt
    have hAm : AOk (cH c a) (A.mark (some (.ref a))) := hA.mark
    refine wpAny_handleBy_cons (codeAny_handlers_test ?_) (by intro z; cases z)
    refine cps fun P1 k3 => ?_
    have tb₂' := tb₂
    obtain ⟨⟨hna, o, vs, ho, hd, r⟩, o', vs', T, ho', hd', h1⟩ := tb₂
    rw [ho] at ho'; cases ho'
    rw [hd] at hd'; cases hd'
    rcases r with r | ⟨T', oT, ts, r1, hTn, hσT, hTa, hT, hdT, hsz, hcT⟩
    · rw [h1] at r; cases r
    rw [h1] at r1; cases r1
    obtain ⟨vs₀, sl₀, hx₀, hz₀⟩ := F₂.S.cells a _ hc
    have aL : a ≠ env.locals := fun z => by have := F₂.offL; rw [← z, hc] at this; cases this
    have TL : T ≠ env.locals := fun z => by
      obtain ⟨m, ⟨oL, _, _, hoL, hdL, _⟩, _⟩ := F₂.loc
      rw [← z] at hoL
      have : h₂.get? T = some oL := hoL
      rw [hT] at this; cases this; rw [hdT] at hdL; cases hdL
    have hx₀ : h₂.get? a = some ⟨.ref C, d, .fields vs₀, sl₀⟩ := hx₀
    have hoo : o = ⟨.ref C, d, .fields vs₀, sl₀⟩ := by rw [ho] at hx₀; exact Option.some.inj hx₀
    have F₂' : IsF B (cH c a).fr env ρ₁ (σ₁.del a) { s₁ with heap := h₂ } := ⟨F₂.S.weaken (del_le _ _), by rw [del_ne _ (Ne.symm aL)]; exact F₂.offL, F₂.newL, F₂.loc⟩
    refine k3 (ht.run hAm F₂' (fun rv s₃ v σ₃ hv hs₃ e₃ ⟨hv1, hv2⟩ => ?_) fun e s' ⟨_, _, _, _, _, _, _, z⟩ => z.elim)
    refine cps fun P2 k4 => ?_
    subst hv1 hv2
    revert k4
    refine hv.ref' fun k4 => ?_
    have ha₃ : s₃.heap.get? a = some o := e₃.fix a o vs ho hd (del_self ..)
    have hT₃ : s₃.heap.get? T = some oT := e₃.fix T oT ts hT hdT (del_none hσT)
    have hbase : B.h₀.get? a = none := hs₁.S.new a (by rw [hc]; simp)
    have hset : (σ₁.del a).set a (.exc true C d) = σ₁ := by
      funext b
      by_cases z : b = a
      · subst z; rw [Store.set_self, hc]
      · rw [Store.set_ne _ _ z, del_ne _ z]
    have hS₃ : IsS B c.fr σ₁ s₃ := by
      have := hs₃.S.restore (cc := .exc true C d) (del_self ..) hbase ⟨vs₀, sl₀, by rw [ha₃, hoo], hz₀⟩ (fun env' he L hL' => fun z => by
        have := F₂.S.off env' he L hL'
        rw [z, hc] at this; cases this)
      rwa [hset] at this
    have F₃ : IsF B c.fr env ρ₁ σ₁ s₃ := ⟨hS₃, hs₁.offL, hs₃.newL, hs₃.loc⟩
    have ee₃ : ExtS env.locals σ s.heap σ₁ s₃.heap := by
      refine e₂.trans ⟨fun b o vs n q dd hb => e₃.fix b o vs q dd (del_none hb), e₃.live, fun b o n q hb => e₃.keep b o q (del_none hb), fun b hb => .inl hb⟩
    have tb₃ : TBs s.heap σ₁ s₃.heap a := ⟨⟨hna, o, vs, ha₃, hd, .inr ⟨T, oT, ts, h1, hTn, hσT, hTa, hT₃, hdT, hsz, hcT⟩⟩, o, vs, T, ha₃, hd, h1⟩
    have hx' : s₃.heap.get? a = some ⟨.ref C, d, .fields vs₀, sl₀⟩ := by rw [ha₃, hoo]
    obtain ⟨h3, g3, d3, t3, os3⟩ := s₃
    refine k4 ?_
    refine wpAny_excMatches_sub_self ((B.X.keeps hS₃.stays) _ _ hC) hx' rfl (by decide +kernel) ?_
    refine codeAny_handlers_suite_as ?_
    refine flight_run (s := ⟨h3, g3, d3, t3, os3⟩) hS₃ hs.S.stays tb₃ fun h₄ y₄ t₄ tb₄ k₄ => ?_
    have F₄ := IsF.tch (s := ⟨h3, g3, d3, t3, os3⟩) (h' := h₄) F₃ y₄ t₄ hL k₄
    have e₄ := ee₃.tch t₄
    refine store_run ok F₄ (.ref a) hl fun s₅ F₅ e₅ => ?_
    have F₅' : IsF B (cH c a).fr env (setL n (.ref a) ρ₁) σ₁ s₅ := F₅
    refine WS.run hsuite hAm F₅' (fun rf s₆ f ρ₆ σ₆ hf F₆ e₆ q => ?_) fun e s' ⟨_, _, _, _, _, _, _, _, z⟩ => z.elim
    have F₆' : IsF B c.fr env ρ₆ σ₆ s₆ := F₆
    refine unbind_run ok F₆' hl fun s₇ F₇ e₇ => ?_
    refine ⟨f, _, σ₆, ?_, F₇, ((e₄.trans e₅).trans e₆).trans e₇, q⟩
    cases hf with
    | next => exact .next
    | brk => exact .brk
    | cont => exact .cont
    | ret hv => exact .ret (hv.mono (ExtS.tup F₆' e₇))
end
end Mine.Internal
end
section
open PySem PySem.W PyProof.Rows
namespace Mine.Internal
section
variable {B : Bs} {c : Cx} {env : Env} {ρ : Loc} {σ : Store} {Q : V → Store → Prop} {E : Addr → Store → Prop}
@[elab_as_elim] theorem bnd0 {P : List Value → Prop} (h : P []) (l : List Value) (e : l.length = 0) : P l := by cases len0 e; exact h
@[elab_as_elim] theorem bnd1 {P : List Value → Prop} (h : ∀ a, P [a]) (l : List Value) (e : l.length = 1) : P l := by obtain ⟨a, rfl⟩ := len1 e; exact h a
@[elab_as_elim] theorem bnd2 {P : List Value → Prop} (h : ∀ a b, P [a, b]) (l : List Value) (e : l.length = 2) : P l := by obtain ⟨a, b, rfl⟩ := len2 e; exact h a b
@[elab_as_elim] theorem bnd3 {P : List Value → Prop} (h : ∀ a b d, P [a, b, d]) (l : List Value) (e : l.length = 3) : P l := by obtain ⟨a, b, d, rfl⟩ := len3 e; exact h a b d
theorem len5 {l : List Value} (h : l.length = 5) : ∃ a b d e f, l = [a, b, d, e, f] := by
  obtain ⟨a, r, rfl, h2⟩ := lenS h
  obtain ⟨b, d, e, f, rfl⟩ := len4 h2
  exact ⟨a, b, d, e, f, rfl⟩
@[elab_as_elim] theorem bnd5 {P : List Value → Prop} (h : ∀ a b d f g, P [a, b, d, f, g]) (l : List Value) (e : l.length = 5) : P l := by obtain ⟨a, b, d, f, g, rfl⟩ := len5 e; exact h a b d f g
@[elab_as_elim] theorem bnd4 {P : List Value → Prop} (h : ∀ a b d f, P [a, b, d, f]) (l : List Value) (e : l.length = 4) : P l := by obtain ⟨a, b, d, f, rfl⟩ := len4 e; exact h a b d f
/-- a list of strings -/
inductive SL : List V → List Str → Prop
  | nil : SL [] []
  | cons {x : Str} {l : List V} {ys : List Str} : SL l ys → SL (.str x :: l) (x :: ys)
theorem SL.eq {l : List V} {ys : List Str} (x : SL l ys) : l = ys.map V.str := by
  induction x with
  | nil => rfl
  | cons _ ih => exact congrArg (_ :: ·) ih
theorem O_inT {x : Str} {ys : List Str} {l : List V} (s : SL l ys) (h : Q (.bool (ys.any (· == x))) σ) : CW B c (op2 (compareOp .In)) [.str x, .tup l] σ VR Q E := O_inTup s.eq h
theorem callee_bi {K : Frag} {n : String} {P : Prop} (h : P) : Callee K (.bi n) ∧ P := ⟨trivial, h⟩
theorem callee_ty {K : Frag} {n : String} {P : Prop} (h : P) : Callee K (.ty n) ∧ P := ⟨trivial, h⟩
theorem callee_ref {K' K : Frag} {a : Addr} {P : Prop} (hK : K' = K) (e : keepIn K (.ref a) = true) (h : P) : Callee K' (.ref a) ∧ P := by subst hK; exact ⟨e, h⟩
theorem roomOk {n m : Nat} (h : n + m ≤ 990) : n < recursionLimit := by unfold recursionLimit; lia
end
noncomputable def blank (x : Str) : Bool := [(" " : Str), "\t", "\n", "\x0b", "\x0c", "\x0d"].any (· == x)
/-- the sign's value as a digit -/
noncomputable def cp (x : Str) : Int := (x.cps.getD 0 0 : Nat)
noncomputable def digitOf (x : Str) : Int :=
  if (x.length : Int) = 1 then
    if 48 ≤ cp x ∧ cp x ≤ 57 then cp x - 48 else if 97 ≤ cp x ∧ cp x ≤ 122 then cp x - 87 else if 65 ≤ cp x ∧ cp x ≤ 90 then cp x - 55 else -1
  else -1
noncomputable def baseOf (x : Str) : Int :=
  if ([("x" : Str), "X"].any (· == x)) = true then 16 else if ([("o" : Str), "O"].any (· == x)) = true then 8
  else if ([("b" : Str), "B"].any (· == x)) = true then 2 else if ([("d" : Str), "D"].any (· == x)) = true then 10 else 0
theorem sz_and {vs : List V} {P : Prop} (h : vs.length ≤ sizeLine) (p : P) : vs.length ≤ sizeLine ∧ P := ⟨h, p⟩
theorem O_ord {B : Bs} {c : Cx} {σ : Store} {Q : V → Store → Prop} {E : Addr → Store → Prop} {x : Str} (h1 : (x.length : Int) = 1) (h : Q (.int (cp x)) σ) : CW B c (callF (.bi "ord")) [.str x] σ VR Q E := F_ord (by lia) h
theorem Wt_chainK {B : Bs} {c : Cx} {env : Env} {ρ : Loc} {σ : Store} {E : Addr → Store → Prop} {l r₁ : Expr} {k : Int} {kk : Nat} {p pos : Pos} {Q : Bool → Store → Prop}
    (h : Wx B c env l ρ σ (fun a σ₁ => Wx B c env r₁ ρ σ₁ (fun b σ₂ => ∃ i j, a = .int i ∧ b = .int j ∧ Q (decide (i ≤ j ∧ j ≤ k)) σ₂) E) E) : Wt B c env (.Compare l [.LtE, .LtE] [r₁, .Constant (.int k) kk p] pos) ρ σ Q E := by
  refine Wt_chain2 (WE.mono h (fun a σ₁ H => WE.mono H (fun b σ₂ ⟨i, j, ha, hb, q⟩ => ?_) fun _ _ x => x) fun _ _ x => x) rfl
  subst ha hb
  refine O_le (T_bool ⟨fun e => ?_, fun e => Wx_int (O_le (T_bool ?_))⟩)
  · have : decide (i ≤ j ∧ j ≤ k) = false := by have := of_decide_eq_false e; exact decide_eq_false (fun h => this h.1)
    rw [this] at q; exact q
  · have := of_decide_eq_true e
    have : decide (i ≤ j ∧ j ≤ k) = decide (j ≤ k) := by
      by_cases h : j ≤ k
      · rw [decide_eq_true h, decide_eq_true ⟨this, h⟩]
      · rw [decide_eq_false h, decide_eq_false (fun x => h x.2)]
    rw [this] at q; exact q
theorem ch_int {i j : Int} {P : Int → Int → Prop} (h : P i j) : ∃ i' j', V.int i = .int i' ∧ V.int j = .int j' ∧ P i' j' := ⟨i, j, rfl, rfl, h⟩
theorem if_split {b : Bool} {P R : Prop} (h1 : b = true → P) (h2 : b = false → R) : (b = true → P) ∧ (b = false → R) := ⟨h1, h2⟩
theorem if_dec {p : Prop} [Decidable p] {P R : Prop} (h1 : p → P) (h2 : ¬ p → R) : (decide p = true → P) ∧ (decide p = false → R) := ⟨fun h => h1 (of_decide_eq_true h), fun h => h2 (of_decide_eq_false h)⟩
theorem if_eq {α : Type} [BEq α] [LawfulBEq α] {a b : α} {P R : Prop} (h1 : a = b → P) (h2 : a ≠ b → R) : ((a == b) = true → P) ∧ ((a == b) = false → R) := ⟨fun h => h1 (eq_of_beq h), fun h => h2 (ne_of_beq_false h)⟩
theorem if_ne {α : Type} [BEq α] [LawfulBEq α] {a b : α} {P R : Prop} (h1 : a ≠ b → P) (h2 : a = b → R) : ((a != b) = true → P) ∧ ((a != b) = false → R) :=
  ⟨fun h => h1 (by simpa using h), fun h => h2 (by simpa using h)⟩
theorem if_dec' {p : Prop} [Decidable p] {P R : Prop} (h2 : ¬ p → R) (h1 : p → P) : (decide p = false → R) ∧ (decide p = true → P) := ⟨fun h => h2 (of_decide_eq_false h), fun h => h1 (of_decide_eq_true h)⟩
theorem if_eq' {α : Type} [BEq α] [LawfulBEq α] {a b : α} {P R : Prop} (h2 : a ≠ b → R) (h1 : a = b → P) : ((a == b) = false → R) ∧ ((a == b) = true → P) := ⟨fun h => h2 (ne_of_beq_false h), fun h => h1 (eq_of_beq h)⟩
theorem if_not {b : Bool} {P R : Prop} (h : (b = true → R) ∧ (b = false → P)) : ((!b) = true → P) ∧ ((!b) = false → R) := ⟨fun e => h.2 (by simpa using e), fun e => h.1 (by simpa using e)⟩
theorem if_true {P R : Prop} (h : P) : (true = true → P) ∧ (true = false → R) := ⟨fun _ => h, fun e => absurd e (by decide)⟩
theorem if_false {P R : Prop} (h : R) : (false = true → P) ∧ (false = false → R) := ⟨fun e => absurd e (by decide), fun _ => h⟩
/-- cells that stay as they are -/
noncomputable def Keep (X : List Addr) (σ σ' : Store) : Prop := ∀ b, σ b ≠ none → b ∉ X → σ' b = σ b
theorem Keep.refl (X : List Addr) (σ : Store) : Keep X σ σ := fun _ _ _ => rfl
theorem Keep.new {X : List Addr} {σ σ' : Store} {a : Addr} {cc : Cell} (k : Keep X σ σ') (h : σ a = none) : Keep X σ (σ'.set a cc) := fun b hb hx => by
  have : b ≠ a := fun e => by rw [e, h] at hb; exact hb rfl
  rw [Store.set_ne _ _ this]; exact k b hb hx
theorem Keep.old {X : List Addr} {σ σ' : Store} {a : Addr} {cc : Cell} (k : Keep X σ σ') (h : a ∈ X) : Keep X σ (σ'.set a cc) := fun b hb hx => by
  have : b ≠ a := fun e => hx (e ▸ h)
  rw [Store.set_ne _ _ this]; exact k b hb hx
theorem Keep.trans {X : List Addr} {σ σ₁ σ₂ : Store} (k : Keep X σ σ₁) (l : Keep X σ₁ σ₂) : Keep X σ σ₂ := fun b hb hx => by
  have := k b hb hx
  rw [l b (by rw [this]; exact hb) hx, this]
theorem Keep.mono {X Y : List Addr} {σ σ' : Store} (k : Keep X σ σ') (h : ∀ a ∈ X, a ∈ Y) : Keep Y σ σ' := fun b hb hx => k b hb fun q => hx (h b q)
theorem Keep.at {X : List Addr} {σ σ' : Store} {a : Addr} {cc : Cell} (k : Keep X σ σ') (h : σ a = some cc) (hx : a ∉ X) : σ' a = some cc := (k a (by rw [h]; simp) hx).trans h
theorem Keep.fresh {X : List Addr} {σ σ' : Store} {a : Addr} (k : Keep X σ σ') (h : σ' a = none) (hx : a ∉ X) : σ a = none := by
  cases q : σ a with
  | none => rfl
  | some cc => rw [k.at q hx] at h; cases h
theorem ne_some {σ : Store} {a b : Addr} {cc : Cell} (h : σ a = none) (h2 : σ b = some cc) : a ≠ b := fun e => by rw [e, h2] at h; cases h
theorem set_none {σ : Store} {a b : Addr} {cc : Cell} (h : (σ.set a cc) b = none) : b ≠ a ∧ σ b = none := by
  have : b ≠ a := fun e => by rw [e, Store.set_self] at h; cases h
  exact ⟨this, by rwa [Store.set_ne _ _ this] at h⟩
theorem set_set (σ : Store) (a : Addr) (c c' : Cell) : (σ.set a c).set a c' = σ.set a c' := by
  funext b
  by_cases q : b = a
  · subst q; rw [Store.set_self, Store.set_self]
  · rw [Store.set_ne _ _ q, Store.set_ne _ _ q, Store.set_ne _ _ q]
section
variable {B : Bs} {c : Cx} {env : Env} {ρ : Loc} {σ : Store} {Q : V → Store → Prop} {E : Addr → Store → Prop} {K' K : Frag} {pos : Pos} {args : List Expr}
theorem mth_b0 {n : String} (h : Wl B c env pos args ρ σ (KCg B c (.bi n) Q E) E) : Callee K (V.bi n, ([] : List V)).1 ∧ Wl B c env pos args ρ σ (KCf B c (V.bi n, ([] : List V)).1 (V.bi n, ([] : List V)).2 Q E) E := ⟨trivial, h⟩
theorem mth_b1 {n : String} {a : V} (h : Wl B c env pos args ρ σ (KCh B c (.bi n) a Q E) E) : Callee K (V.bi n, [a]).1 ∧ Wl B c env pos args ρ σ (KCf B c (V.bi n, [a]).1 (V.bi n, [a]).2 Q E) E := ⟨trivial, h⟩
theorem mth_r0 {f : Addr} (hK : K' = K) (e : keepIn K (.ref f) = true) (h : Wl B c env pos args ρ σ (KCg B c (.ref f) Q E) E) : Callee K' (V.ref f, ([] : List V)).1 ∧ Wl B c env pos args ρ σ (KCf B c (V.ref f, ([] : List V)).1 (V.ref f, ([] : List V)).2 Q E) E := by subst hK; exact ⟨e, h⟩
theorem mth_r1 {f : Addr} {a : V} (hK : K' = K) (e : keepIn K (.ref f) = true) (h : Wl B c env pos args ρ σ (KCh B c (.ref f) a Q E) E) : Callee K' (V.ref f, [a]).1 ∧ Wl B c env pos args ρ σ (KCf B c (V.ref f, [a]).1 (V.ref f, [a]).2 Q E) E := by subst hK; exact ⟨e, h⟩
end
/-- what an exception's attributes say -/
structure XAttr (kv : AL) (code : Int) (val : Str) (ec : List V) (lv : Int) : Prop where
  code : getA "code" kv = some (.int code)
  value : getA "value" kv = some (.str val)
  ec : getA "errorcode" kv = some (.tup ec)
  lv : getA "level" kv = some (.int lv)
inductive ErrIs (σ : Store) (r : Bool) (x : Addr) (code : Int) (val : Str) (ec : List V) (lv : Int) : Prop
  | mk (d : Addr) (kv : AL) : σ x = some (.exc r 84 (some d)) → σ d = some (.attrs kv) → XAttr kv code val ec lv → ErrIs σ r x code val ec lv
theorem ErrIs.raised {σ : Store} {x : Addr} {code : Int} {val : Str} {ec : List V} {lv : Int} (h : ErrIs σ false x code val ec lv) : ∃ d, σ x = some (.exc false 84 (some d)) ∧ ErrIs (σ.set x (.exc true 84 (some d))) true x code val ec lv := by
  obtain ⟨d, kv, h1, h2, h3⟩ := h
  have : d ≠ x := fun e => by rw [e, h1] at h2; cases h2
  exact ⟨d, h1, d, kv, Store.set_self .., by rw [Store.set_ne _ _ this]; exact h2, h3⟩
section
variable {B : Bs} {c : Cx} {env : Env} {ρ : Loc} {σ : Store} {E : Addr → Store → Prop}
theorem Wt_cut {t : Expr} (b : Bool) {Q : Bool → Store → Prop} (H : Wt B c env t ρ σ (fun b' σ' => b' = b ∧ σ' = σ) E) (h : Q b σ) : Wt B c env t ρ σ Q E := WE.mono H (fun b' σ' ⟨h1, h2⟩ => by rw [h1, h2]; exact h) fun _ _ x => x
inductive ErrV (σ : Store) (E : Addr → Loc → Store → Prop) (ρ : Loc) (v : V) (σ₁ : Store) : Prop
  | mk (a : Addr) (code : Int) (val : Str) (ec : List V) (lv : Int) : v = .ref a → σ a = none → Keep [] σ σ₁ → ErrIs σ₁ false a code val ec lv → (∀ σ₂, Keep [] σ σ₂ → ErrIs σ₂ true a code val ec lv → E a ρ σ₂) → ErrV σ E ρ v σ₁
theorem S_raise {K : Frag} {e : Expr} {pos : Pos} {Q : Fl → Loc → Store → Prop} {E : Addr → Loc → Store → Prop} (hK : B.K = K) (hh : c.hd = none) (km : mroIn K 84 (.type "BaseException") = some true) (kt : typeIn K (.ref 84) = some (.type "type"))
    (h : Wx B c env e ρ σ (ErrV σ E ρ) (EK E ρ)) : Ws B c env (.Raise (some e) none pos) ρ σ Q E :=
  Ws_raise hK hh (WE.mono h (fun v σ₁ ⟨a, code, val, ec, lv, h1, h2, h3, h4, h5⟩ => by
    obtain ⟨d, h6, h7⟩ := h4.raised
    exact ⟨a, 84, some d, h1, h6, h2, km, kt, h5 _ (h3.new h2) h7⟩) fun _ _ x => x)
theorem erri {ρ : Loc} {E : Addr → Loc → Store → Prop} {a : Addr} {code : Int} {val : Str} {ec : List V} {lv : Int} {σ₁ : Store} (h2 : σ a = none) (h3 : Keep [] σ σ₁) (h4 : ErrIs σ₁ false a code val ec lv) (h5 : ∀ σ₂, Keep [] σ σ₂ → ErrIs σ₂ true a code val ec lv → E a ρ σ₂) : ErrV σ E ρ (V.ref a) σ₁ := ⟨a, code, val, ec, lv, rfl, h2, h3, h4, h5⟩
end
/-- digits from the left -/
noncomputable def dvGo (b : Int) : List Nat → Int → Option Int
  | [], v => some v
  | k :: r, v => if digitOf ⟨#[k]⟩ < 0 then none else if digitOf ⟨#[k]⟩ ≥ b then none else dvGo b r (v * b + digitOf ⟨#[k]⟩)
noncomputable def digitsVal (x : Str) (b : Int) : Option Int := if x = "" then none else dvGo b x.cps.toList 0
noncomputable def optInt : Option Int → V
  | none => .none
  | some i => .int i
noncomputable def signV (k : Nat) : V := .str ⟨#[k]⟩
theorem signs_eq (x : Str) : signs x = x.cps.toList.map signV := rfl
end Mine.Internal
end
section
open PySem PySem.W PyProof.Rows PySem.Builtin
namespace Mine.Internal
section
variable {B : Bs} {c : Cx} {env : Env} {ρ : Loc} {σ : Store} {Q : V → Store → Prop} {E : Addr → Store → Prop} {K : Frag}
/-- the pairs of a dict display with string keys -/
noncomputable def DW (B : Bs) (c : Cx) (env : Env) (ρ : Loc) (E : Addr → Store → Prop) : List (Option Expr) → List Expr → (AL → Store → Prop) → Store → Prop
  | some k :: ks, v :: vs, P, σ => Wx B c env k ρ σ (fun kv σ₁ => ∃ x, kv = .str x ∧ Wx B c env v ρ σ₁ (fun vv σ₂ => DW B c env ρ E ks vs (fun r σ₃ => P ((x, vv) :: r) σ₃) σ₂) E) E
  | [], [], P, σ => P [] σ
  | _, _, _, _ => False
/-- pairs as evaluated -/
inductive DPs (h : Heap) : AL → List (Value × Value) → Prop
  | nil : DPs h [] []
  | cons {x : Str} {t : Tok} {v : V} {cv : Value} {r : AL} {cs : List (Value × Value)} : VR h v cv → DPs h r cs → DPs h ((x, v) :: r) ((.str x t, cv) :: cs)
theorem DPs.strs {h : Heap} {r : AL} {cs : List (Value × Value)} (x : DPs h r cs) : allStrKeys cs = true ∧ (strPairs cs).map (·.1) = r.map (·.1) ∧ ∀ h', (∀ v cv, VR h v cv → VR h' v cv) → KVs h' r (strPairs cs) := by
  induction x with
  | nil => exact ⟨rfl, rfl, fun _ _ => .nil⟩
  | cons a _ ih => exact ⟨ih.1, congrArg (_ :: ·) ih.2.1, fun h' k => .cons (k _ _ a) (ih.2.2 h' k)⟩
theorem dw_run {A : Around} {pos : Pos} : ∀ {ks : List (Option Expr)} {vs : List Expr} {P : AL → Store → Prop} {σ : Store} {s : Shared} {Qc : List (Value × Value) → Shared → Prop} {Ec : Value → Shared → Prop} (hA : AOk c A) (hs : IsF B c.fr env ρ σ s) (h : DW B c env ρ E ks vs P σ)
    (k : ∀ r s' al σ', DPs s'.heap al r → IsF B c.fr env ρ σ' s' → Ext σ s.heap σ' s'.heap → P al σ' → Qc r s') (ke : ∀ e s', EF B c.fr env ρ σ s E e s' → Ec e s'), wpAny (model B.prog B.w) A (evalPairs (pairTrees ks vs env pos)) Qc Ec s
  | [], [], P, σ, s, Qc, Ec, hA, hs, h, k, ke => pairTrees_nil_walk (k [] s [] σ .nil hs (.refl ..) h)
  | some kx :: ks, v :: vs, P, σ, s, Qc, Ec, hA, hs, h, k, ke => pairTrees_cons_walk (WE.run h hA hs (fun rk s₁ kv σ₁ hk hs₁ e₁ ⟨x, hx, H⟩ => by
      subst hx
      cases hk
      exact WE.run H hA hs₁ (fun rv s₂ vv σ₂ hv hs₂ e₂ H₂ => dw_run hA hs₂ H₂ (fun r s₃ al σ₃ hr hs₃ e₃ q => k _ s₃ ((x, vv) :: al) σ₃ (.cons (hv.mono (hs₂.tup e₃)) hr) hs₃ ((e₁.trans e₂).trans e₃) q) fun e s' z => ke e s' (z.trans (e₁.trans e₂))) fun e s' z => ke e s' (z.trans e₁)) ke)
  | none :: _, _, _, _, _, _, _, _, _, h, _, _ => by unfold DW at h; exact h.elim
  | some _ :: _, [], _, _, _, _, _, _, _, h, _, _ => by unfold DW at h; exact h.elim
  | [], _ :: _, _, _, _, _, _, _, _, h, _, _ => by unfold DW at h; exact h.elim
theorem Wx_Dict {keys : List (Option Expr)} {values : List Expr} {pos : Pos} (hall : keys.all (·.isSome) = true) (hl : keys.length = values.length) (h0 : keys ≠ []) (hlen : keys.length ≤ 15)
    (h : ∀ d, σ d = none → DW B c env ρ E keys values (fun al σ' => (al.map (·.1)).Nodup ∧ σ' d = some (.dict []) ∧ Q (.ref d) (σ'.set d (.dict al))) (σ.set d (.dict []))) : Wx B c env (.Dict keys values pos) ρ σ Q E := fun A s hA hs => by
  refine wpAny_Dict_walk (knd := PySem.strKind B.prog B.w) hall hl h0 hlen ?_
  have hg : (s.heap.push { cls := .type "dict", data := .dict #[] }).DictOf (PySem.strKind B.prog B.w) s.heap.objs.size [] := Heap.DictOf.new _
  obtain ⟨y₁, e₁, n₁⟩ := hs.S.alloc { cls := .type "dict", data := .dict #[] } (.dict []) ⟨[], hg, .nil, notModsN hs.S⟩
  have F₁ := hs.to (s' := { s with heap := s.heap.push { cls := .type "dict", data := .dict #[] } }) y₁ e₁
  refine dw_run hA F₁ (h _ n₁) (fun r s₂ al σ₂ hr hs₂ e₂ ⟨hnd, hd, q⟩ => ?_) fun e s' x => x.trans e₁
  obtain ⟨kvs, hdd, hkv, lo⟩ := hs₂.S.cells _ _ hd
  cases hkv
  obtain ⟨h1, h2, h3⟩ := hr.strs
  refine display_done_str h1 (by rw [h2]; exact hnd) hdd fun h' hd' hsb => ?_
  obtain ⟨y₃, e₃⟩ := hs₂.S.update (c' := .dict al) hd hsb (fun k => ⟨_, hd', h3 _ fun v cv z => z.mono k, lo⟩) (s₂.toks + r.length)
  exact ⟨.ref _, _, .ref _, hs₂.to (s' := { s₂ with heap := h', toks := s₂.toks + r.length }) y₃ e₃, (e₁.trans e₂).trans e₃, q⟩
-- ints in a list
theorem intItems_of {h : Heap} {ns : List Int} {vs : List Value} (x : VRs h (ns.map V.int) vs) : ∃ xs : Array (Int × Tok), intItems xs = vs.toArray ∧ xs.toList.map (·.1) = ns := by
  induction ns generalizing vs with
  | nil => exact x.nil' ⟨#[], by simp [intItems], rfl⟩
  | cons n ns ih =>
    refine x.cons' fun c r a b => ?_
    refine a.int' (P := fun c => ∃ xs : Array (Int × Tok), intItems xs = (c :: r).toArray ∧ xs.toList.map (·.1) = n :: ns) fun t => ?_
    obtain ⟨xs, h1, h2⟩ := ih b
    refine ⟨⟨(n, t) :: xs.toList⟩, ?_, by rw [List.map_cons, h2]⟩
    have : (intItems xs).toList = _ := congrArg Array.toList h1
    apply Array.ext'
    simp only [intItems, Array.toList_map, List.map_cons] at this ⊢
    rw [this]
theorem F_max1 {a : Addr} {n : Int} (hh : c.hd = none) (ha : σ a = some (.list [.int n])) (h : Q (.int n) σ) : CW B c (callF (.bi "max")) [.ref a] σ VR Q E :=
  CF1 fun A s _ hA hs va => by
    refine va.ref' ?_
    obtain ⟨vs, k, ho, hv⟩ := hs.cells a _ ha
    cases hv with
    | cons x r => cases r; cases x with
      | int _ t =>
      have hl : s.heap.IsList a (intItems #[(n, t)]) := ⟨_, ho, rfl, k, by simp [intItems, listObj]⟩
      show wpAny _ A (call (.builtin "max") _) _ _ s
      refine max_intList (hA.hd.trans hh) hl (Nat.zero_lt_succ _) fun v h' tk e kk => ?_
      obtain ⟨y, e'⟩ := hs.grown kk tk
      have : v = .int n t := by simpa [intItems, argBest] using e.symm
      subst this
      exact ⟨.int n, σ, .int _ _, y, e', h⟩
theorem F_max2 {a : Addr} {m n : Int} (hh : c.hd = none) (ha : σ a = some (.list [.int m, .int n])) (h : Q (.int (if n > m then n else m)) σ) : CW B c (callF (.bi "max")) [.ref a] σ VR Q E :=
  CF1 fun A s _ hA hs va => by
    refine va.ref' ?_
    obtain ⟨vs, k, ho, hv⟩ := hs.cells a _ ha
    cases hv with
    | cons x r => cases x with
      | int _ t => cases r with
        | cons y r => cases r; cases y with
          | int _ u =>
          have hl : s.heap.IsList a (intItems #[(m, t), (n, u)]) := ⟨_, ho, rfl, k, by simp [intItems, listObj]⟩
          show wpAny _ A (call (.builtin "max") _) _ _ s
          refine max_intList (hA.hd.trans hh) hl (Nat.zero_lt_succ _) fun v h' tk e kk => ?_
          obtain ⟨y, e'⟩ := hs.grown kk tk
          have e1 : argBest (fun i j => decide (numAt #[(m, t), (n, u)] i > numAt #[(m, t), (n, u)] j)) 1 = if n > m then 1 else 0 := by
            show (if decide (n > m) = true then 1 else 0) = _
            by_cases q : n > m <;> simp [q]
          rw [show (#[(m, t), (n, u)] : Array (Int × Tok)).size - 1 = 1 from rfl, e1] at e
          by_cases q : n > m
          · rw [if_pos q] at e h
            have : v = .int n u := by simpa [intItems] using e.symm
            subst this
            exact ⟨.int n, σ, .int _ _, y, e', h⟩
          · rw [if_neg q] at e h
            have : v = .int m t := by simpa [intItems] using e.symm
            subst this
            exact ⟨.int m, σ, .int _ _, y, e', h⟩
theorem F_min1 {a : Addr} {n : Int} (hh : c.hd = none) (ha : σ a = some (.list [.int n])) (h : Q (.int n) σ) : CW B c (callF (.bi "min")) [.ref a] σ VR Q E :=
  CF1 fun A s _ hA hs va => by
    refine va.ref' ?_
    obtain ⟨vs, k, ho, hv⟩ := hs.cells a _ ha
    cases hv with
    | cons x r => cases r; cases x with
      | int _ t =>
      have hl : s.heap.IsList a (intItems #[(n, t)]) := ⟨_, ho, rfl, k, by simp [intItems, listObj]⟩
      show wpAny _ A (call (.builtin "min") _) _ _ s
      refine min_intList (hA.hd.trans hh) hl (Nat.zero_lt_succ _) fun v h' tk e kk => ?_
      obtain ⟨y, e'⟩ := hs.grown kk tk
      have : v = .int n t := by simpa [intItems, argBest] using e.symm
      subst this
      exact ⟨.int n, σ, .int _ _, y, e', h⟩
theorem F_min2 {a : Addr} {m n : Int} (hh : c.hd = none) (ha : σ a = some (.list [.int m, .int n])) (h : Q (.int (if n < m then n else m)) σ) : CW B c (callF (.bi "min")) [.ref a] σ VR Q E :=
  CF1 fun A s _ hA hs va => by
    refine va.ref' ?_
    obtain ⟨vs, k, ho, hv⟩ := hs.cells a _ ha
    cases hv with
    | cons x r => cases x with
      | int _ t => cases r with
        | cons y r => cases r; cases y with
          | int _ u =>
          have hl : s.heap.IsList a (intItems #[(m, t), (n, u)]) := ⟨_, ho, rfl, k, by simp [intItems, listObj]⟩
          show wpAny _ A (call (.builtin "min") _) _ _ s
          refine min_intList (hA.hd.trans hh) hl (Nat.zero_lt_succ _) fun v h' tk e kk => ?_
          obtain ⟨y, e'⟩ := hs.grown kk tk
          have e1 : argBest (fun i j => decide (numAt #[(m, t), (n, u)] i < numAt #[(m, t), (n, u)] j)) 1 = if n < m then 1 else 0 := by
            show (if decide (n < m) = true then 1 else 0) = _
            by_cases q : n < m <;> simp [q]
          rw [show (#[(m, t), (n, u)] : Array (Int × Tok)).size - 1 = 1 from rfl, e1] at e
          by_cases q : n < m
          · rw [if_pos q] at e h
            have : v = .int n u := by simpa [intItems] using e.symm
            subst this
            exact ⟨.int n, σ, .int _ _, y, e', h⟩
          · rw [if_neg q] at e h
            have : v = .int m t := by simpa [intItems] using e.symm
            subst this
            exact ⟨.int m, σ, .int _ _, y, e', h⟩
theorem F_isInst {x : Str} {C : Addr} (hK : B.K = K) (e : isNotIn K "str" C = true) (h : Q (.bool false) σ) : CW B c (callF (.bi "isinstance")) [.str x, .ref C] σ VR Q E :=
  CF2 fun A s _ _ hA hs va vb => by
    refine va.str' fun _ => ?_; refine vb.ref' ?_
    subst hK
    show wpAny _ A (call (.builtin "isinstance") _) _ _ s
    exact isn_call (P := fun _ => True) (B.X.keeps hs.stays) (fun M => Looks.of_pure rfl) e (by intro z; cases z) trivial (fun p q => str_cls p q) ⟨.bool false, σ, .bool _, hs.toks _, .refl .., h⟩
theorem F_tuple {a : Addr} {l : List V} (ha : σ a = some (.list l)) (hz : l.length ≤ sizeLine) (h : Q (.tup l) σ) : CW B c (callF (.ty "tuple")) [.ref a] σ VR Q E :=
  CF1 fun A s _ hA hs va => by
    refine va.ref' ?_
    obtain ⟨vs, k, ho, hv⟩ := hs.cells a _ ha
    have hl : s.heap.IsList a vs.toArray := ⟨_, ho, rfl, k, rfl⟩
    show wpAny _ A (call (.type "tuple") _) _ _ s
    refine call_tuple_list hl (fun h' kk => ?_) (by rw [List.size_toArray, hv.length]; exact hz)
    obtain ⟨y, e'⟩ := hs.grown kk s.toks
    obtain ⟨y₂, e₂⟩ := y.push { cls := .type "tuple", data := .seq vs.toArray }
    exact ⟨.tup l, σ, .tup ⟨_, Heap.get?_push_size _ rfl, rfl, 0, rfl⟩ ((hv.mono (keeps_tup kk)).mono (Heap.push_keep _)), y₂, e'.trans e₂, h⟩
end
end Mine.Internal
end
section
open PySem PySem.W PyProof.Rows PySem.Builtin
namespace Mine.Internal
section
variable {B : Bs} {c : Cx} {env : Env} {ρ : Loc} {σ : Store}
/-- the turns of a list comprehension -/
noncomputable def CompL (B : Bs) (c : Cx) (cenv : Env) (elt : Expr) (x : Str) (D : Addr) (chk : Store → Prop) (Q : List V → Store → Prop) : List V → List V → Store → Prop
  | [], acc, σ => chk σ ∧ σ D = some (.list acc) ∧ Q acc σ
  | v :: vs, acc, σ => chk σ ∧ Wx B c cenv elt [(x, some v)] σ (fun u σ' => σ' D = some (.list acc) ∧ acc.length ≤ sizeLine ∧ CompL B c cenv elt x D chk Q vs (acc ++ [u]) (σ'.set D (.list (acc ++ [u])))) (fun _ _ => False)
theorem compLoop_run {elt iter : Expr} {x : Str} {px : Pos} {scope : Scope} {pos : Pos} {cenv : Env} {D it : Addr} {A : Around} {s s₀ : Shared} {items : List V} {chk : Store → Prop} {σ₀ : Store} {o₀ : Option V} {Q : List V → Store → Prop} {R : Result → Shared → Prop}
    (ok : EnvOK cenv) (hx : cenv.kindOf x = some .local) (hh : c.hd = none) (hA : AOk c A) (I : Iter B it items chk)
    (hs : IsF B c.fr cenv [(x, o₀)] σ s) (e : ExtS cenv.locals σ₀ s₀.heap σ s.heap) (hit : s₀.heap.get? it = none) (hb0 : B.h₀.get? it = none) (hσ : σ it = none) (hP : I.P 0 s.heap) (h : CompL B c cenv elt x D chk Q items [] σ)
    (k : ∀ s' o σ' acc, IsF B c.fr cenv [(x, o)] σ' s' → ExtS cenv.locals σ₀ s₀.heap σ' s'.heap → σ' D = some (.list acc) → Q acc σ' → R (.ok .next) s') :
    codeAny (model B.prog B.w) A (.compLoop (.ListComp elt [⟨.Name x px, iter, [], 0⟩] scope pos) 0 (.ref it) (.ref D) cenv) R s := by
  refine codeAny_compLoop_list (I := fun n s₁ => n ≤ items.length ∧ ∃ o₁ σ₁ acc, IsF B c.fr cenv [(x, o₁)] σ₁ s₁ ∧ ExtS cenv.locals σ₀ s₀.heap σ₁ s₁.heap ∧ σ₁ it = none ∧ I.P (items.length - n) s₁.heap ∧ CompL B c cenv elt x D chk Q (items.drop (items.length - n)) acc σ₁) ?_ items.length
    ⟨Nat.le_refl _, o₀, σ, [], hs, e, hσ, by rw [Nat.sub_self]; exact hP, by rw [Nat.sub_self]; exact h⟩
  rintro n s₁ ⟨hn, o₁, σ₁, acc, hs₁, e₁, hσ₁, hP₁, hf⟩
  have hhA : A.handled = none := hA.hd.trans hh
  obtain ⟨o, vs, ho, hd, hc1⟩ := I.fields hP₁
  cases n with
  | zero =>
    rw [Nat.sub_zero, List.drop_length] at hf
    refine I.stop hhA hs₁.S hf.1 hP₁ (by simp) fun h' he => ?_
    obtain ⟨hs₂, _⟩ := hs₁.but hσ₁ hb0 ho hd hc1 (fun b o n e => he b o n e) s₁.toks
    exact k _ o₁ σ₁ acc hs₂ (e₁.but hit fun b o n e => he b o n e) hf.2.1 hf.2.2
  | succ n =>
    have hlt : items.length - (n + 1) < items.length := by lia
    obtain ⟨v, hv⟩ : ∃ v, items[items.length - (n + 1)]? = some v := ⟨_, List.getElem?_eq_getElem hlt⟩
    have hdrop : items.drop (items.length - (n + 1)) = v :: items.drop (items.length - n) := by
      rw [List.drop_eq_getElem_cons hlt]
      rw [List.getElem?_eq_getElem hlt] at hv
      cases hv
      congr 2
      lia
    rw [hdrop] at hf
    obtain ⟨hchk, hw⟩ := hf
    refine I.next hs₁.S hchk hP₁ hv fun cv h' tk hcv hP₂ hsb => ?_
    have kb : ∀ b o, b ≠ it → s₁.heap.get? b = some o → h'.get? b = some o := fun b o n e => (hsb.2 b n).trans e
    obtain ⟨hs₂, kt⟩ := hs₁.but hσ₁ hb0 ho hd hc1 kb tk
    have e₂ := e₁.but hit kb
    refine wpAny_assign_Name (store_run ok hs₂ (hcv.mono kt) hx fun s₃ hs₃ e₃ => ?_)
    have hset : setL x v [(x, o₁)] = [(x, some v)] := by unfold setL; rw [if_pos rfl]
    rw [hset] at hs₃
    refine WE.run hw hA hs₃ (fun r s₄ u σ₄ hu hs₄ e₄ ⟨hD, hz, q₄⟩ => ?_) fun e s' ⟨_, _, _, _, _, _, _, f⟩ => f.elim
    refine CW.run (c := c) (vs := [.ref D, u]) (cvs := [.ref D, r]) (Rel := VR) (Q := fun _ σ' => σ' = σ₄.set D (.list (acc ++ [u]))) (E := fun _ _ => False) (F_append (B := B) (c := c) hD hz rfl) hA hs₄ (.cons (.ref _) (.cons hu .nil)) (fun r s₅ _ σ₅ _ hs₅ e₅ q₅ => ?_) fun e s' ⟨_, _, _, _, _, _, _, f⟩ => f.elim
    subst q₅
    obtain ⟨o2, vs2, ho2, hd2, _⟩ := I.fields hP₂
    have hL : it ≠ cenv.locals := fun q => by
      obtain ⟨m, ⟨oL, es, ep, hL, hdL, r⟩, hm⟩ := hs₁.loc
      rw [← q, ho] at hL; cases hL; rw [hd] at hdL; cases hdL
    have e45 := e₃.trans ((e₄.trans e₅).toS _)
    refine ⟨n, Nat.lt_succ_self _, by lia, _, _, acc ++ [u], hs₅, e₂.trans e45, ?_, I.stable (i := items.length - n) (h := h') (by rw [show items.length - n = items.length - (n + 1) + 1 by lia]; exact hP₂) (fun o vs e d => e45.fix it o vs hL e d hσ₁) (ExtS.tup hs₂ e45), q₄⟩
    cases z : (σ₄.set D (.list (acc ++ [u]))) it with
    | none => rfl
    | some cc => rcases e45.dom it (by rw [z]; simp) with y | y
                 · exact absurd hσ₁ y
                 · have y : h'.get? it = none := y
                   rw [ho2] at y; cases y
/-- what a comprehension's scope must be -/
structure CompS (scope : Scope) (x : Str) : Prop where
  free : ∀ y ∈ scope.names, y.2 ≠ .free
  cell : ∀ y ∈ scope.names, y.2 ≠ .cell
  kind : scope.kind = .function
  nms : ∀ y ∈ scope.names, y.2 = .local → scope.names.lookup y.1 = some .local
  loc : scope.names.lookup x = some .local
theorem funFrames_same {h h' base : Heap} {C : Addr} (hs : Heap.SameBut C h h') : ∀ {l : List Env}, C ∉ l.filterMap (·.frame) → h.FunFrames base l → h'.FunFrames base l
  | [], _, _ => trivial
  | e :: r, q, ⟨hk, ⟨L, o, hf, hn, ho, hd⟩, hr⟩ => by
    have q1 : L ≠ C := fun z => q (List.mem_filterMap.mpr ⟨e, List.mem_cons_self, by rw [hf, z]⟩)
    have q2 : C ∉ r.filterMap (·.frame) := fun z => q (by obtain ⟨a, h1, h2⟩ := List.mem_filterMap.mp z; exact List.mem_filterMap.mpr ⟨a, List.mem_cons_of_mem _ h1, h2⟩)
    exact ⟨hk, ⟨L, o, hf, hn, (hs.2 L q1).trans ho, hd⟩, funFrames_same hs q2 hr⟩
theorem IsF.outSame {fr : List Env} {s₀ s : Shared} {cenv : Env} {ρ' : Loc} {σ₀ σ : Store} {h' : Heap} (x : IsF B fr cenv ρ' σ s) (e : ExtS cenv.locals σ₀ s₀.heap σ s.heap) (hC : s₀.heap.get? cenv.locals = none) (hs₀ : IsS B fr σ₀ s₀) (hs : Heap.SameBut cenv.locals s.heap h') (t : Nat) :
    IsS B fr σ { s with heap := h', toks := t } ∧ Ext σ₀ s₀.heap σ h' := by
  have ke : TupKeep s.heap h' := SameBut.tup hs (fun o e => x.noFz e)
  refine ⟨⟨fun b o e => ?_, ?_, x.S.off, x.S.new, fun a c e => ?_, x.S.gens, x.S.drawn, x.S.os⟩, fun a o vs q d n => ?_, fun a q => ?_, fun a o q n => ?_, e.dom⟩
  · have : b ≠ cenv.locals := fun q => by rw [q, x.newL] at e; cases e
    exact (hs.2 b this).trans (x.S.stays b o e)
  · refine funFrames_same hs (fun q => ?_) x.S.frames
    obtain ⟨_, o, z, _⟩ := hs₀.frames.mem q
    rw [hC] at z; cases z
  · have z := x.S.cells a c e
    have : a ≠ cenv.locals := fun q => by rw [q, x.offL] at e; cases e
    exact z.mono (hs.2 a this) ke
  · have : a ≠ cenv.locals := fun z => by rw [z, hC] at q; cases q
    exact (hs.2 a this).trans (e.fix a o vs this q d n)
  · by_cases z : a = cenv.locals
    · rw [z]; exact hC
    · exact e.live a ((hs.2 a z).symm.trans q)
  · have : a ≠ cenv.locals := fun z => by rw [z, hC] at q; cases q
    obtain ⟨sl, z⟩ := e.keep a o this q n
    exact ⟨sl, (hs.2 a this).trans z⟩
inductive Itc : V → Store → List V → (Store → Prop) → Prop
  | tup {l : List V} {σ : Store} : Itc (.tup l) σ l (fun _ => True)
  | list {a : Addr} {l : List V} {σ : Store} : σ a = some (.list l) → Itc (.ref a) σ l (fun σ' => σ' a = some (.list l))
theorem compEnv_ok {scope : Scope} {C : Addr} (ok : EnvOK env) (hk : scope.kind = .function) : EnvOK (compEnv scope C env) := ⟨hk, ok.glob, ok.bns⟩
theorem comp_block {elt iter : Expr} {x : Str} {px : Pos} {scope : Scope} {pos : Pos} {A : Around} {s₁ : Shared} {σ₁ : Store} {v : V} {cv : Value} {l : List V} {chk : Store → Prop} {Q : Addr → Store → Prop} {RR : Value → Env → Result → Shared → Prop} {Ec : Value → Shared → Prop}
    (S : CompS scope x) (ok : EnvOK env) (hh : c.hd = none) (hA : AOk c A) (hs₁ : IsS B c.fr σ₁ s₁) (hv : VR s₁.heap v cv) (hi : Itc v σ₁ l chk)
    (hc : ∀ D C, σ₁ D = none → CompL B c (compEnv scope C env) elt x D chk (fun acc σ' => Q D σ') l [] (σ₁.set D (.list [])))
    (k : ∀ D C s' o σ', IsF B c.fr (compEnv scope C env) [(x, o)] σ' s' → ExtS C σ₁ s₁.heap σ' s'.heap → s₁.heap.get? C = none → Q D σ' → RR (.ref D) (compEnv scope C env) (.ok .next) s') :
    wpAny (model B.prog B.w) A (pyIter cv) (fun it s₂ => wpAny (model B.prog B.w) A (newList []) (fun acc s₃ =>
      wpAny (model B.prog B.w) A (newFunctionEnv scope env.globals [] [] env.qual none .none (some env)) (fun cenv s₄ =>
        codeAny (model B.prog B.w) A (.compStart (.ListComp elt [⟨.Name x px, iter, [], 0⟩] scope pos) 0 it acc { cenv with scope := scope }) (RR acc { cenv with scope := scope }) s₄) Ec s₃) Ec s₂) Ec s₁ := by
  have hnew : s₁.heap.get? s₁.heap.objs.size = none := by
    cases q : s₁.heap.get? s₁.heap.objs.size with
    | none => rfl
    | some o => exact absurd (Heap.lt_size q) (Nat.lt_irrefl _)
  have hσ : σ₁ s₁.heap.objs.size = none := by
    cases q : σ₁ s₁.heap.objs.size with
    | none => rfl
    | some cc => exact absurd (hs₁.lt (a := s₁.heap.objs.size) (by rw [q]; simp)) (Nat.lt_irrefl _)
  have hb0 : B.h₀.get? s₁.heap.objs.size = none := hs₁.stays.fresh
  have go : ∀ (oi : Obj) (I : Iter B s₁.heap.objs.size l chk), oi.isFreed = false → (∀ h', TupKeep (s₁.heap.push oi) h' → h'.get? s₁.heap.objs.size = some oi → I.P 0 h') → (∀ D, σ₁ D = none → chk (σ₁.set D (.list []))) →
      (∀ {s' : Shared} {Q' : Value → Shared → Prop} {E' : Value → Shared → Prop}, s'.heap.get? s₁.heap.objs.size = some oi → Q' (.ref s₁.heap.objs.size) s' → wpAny (model B.prog B.w) A (pyIter (.ref s₁.heap.objs.size)) Q' E' s') →
      wpAny (model B.prog B.w) A (newList []) (fun acc s₃ =>
      wpAny (model B.prog B.w) A (newFunctionEnv scope env.globals [] [] env.qual none .none (some env)) (fun cenv s₄ =>
        codeAny (model B.prog B.w) A (.compStart (.ListComp elt [⟨.Name x px, iter, [], 0⟩] scope pos) 0 (.ref s₁.heap.objs.size) acc { cenv with scope := scope }) (RR acc { cenv with scope := scope }) s₄) Ec s₃) Ec { s₁ with heap := s₁.heap.push oi } := by
    intro oi I hfr hP _ hpy
    obtain ⟨hs₂, e₂⟩ := hs₁.push oi
    have hito : (s₁.heap.push oi).get? s₁.heap.objs.size = some oi := Heap.get?_push_size _ hfr
    refine wpAny_newObj_type (hd := by size_fits) ?_
    obtain ⟨hs₃, e₃, hDn⟩ := hs₂.alloc { cls := .type "list", data := .seq ([] : List Value).toArray } (.list []) ⟨[], _, Heap.get?_push_size _ rfl, .nil⟩
    dsimp only at hs₃ e₃ hDn ⊢
    generalize hH1 : s₁.heap.push oi = H1 at hs₂ e₂ hito hs₃ e₃ hDn hP ⊢
    generalize hDD : H1.objs.size = D at hs₃ e₃ hDn ⊢
    generalize hH2 : H1.push { cls := .type "list", data := .seq ([] : List Value).toArray } = H2 at hs₃ e₃ ⊢
    have hH2' : H1.push { cls := .type "list", dict := none, data := .seq ([] : List Value).toArray } = H2 := hH2
    refine wpAny_newFunctionEnv S.cell (by intro y hy; simp at hy) (fun h₁ hns hsb => ?_) S.kind
    dsimp only at hns hsb ⊢
    generalize hCC : H2.objs.size = C at hns hsb ⊢
    have kk : ∀ b o, H2.get? b = some o → h₁.get? b = some o := fun b o e => (hsb.2 b (by rw [← hCC]; exact Nat.ne_of_lt (Heap.lt_size e))).trans (Heap.get?_push_of_some _ e)
    obtain ⟨hs₄, e₄⟩ := hs₃.grown (h' := h₁) kk (s₁.toks + ([] : List (Str × Value)).length)
    have hCn : H2.get? C = none := by
      cases q : H2.get? C with
      | none => rfl
      | some o => exact absurd (Heap.lt_size q) (by rw [hCC]; exact Nat.lt_irrefl _)
    have hσC : (σ₁.set D (.list [])) C = none := by
      cases q : (σ₁.set D (.list [])) C with
      | none => rfl
      | some cc => exact absurd (hs₃.lt (a := C) (by rw [q]; simp)) (by show ¬ C < H2.objs.size; rw [hCC]; exact Nat.lt_irrefl _)
    have hC1 : s₁.heap.get? C = none := (e₂.trans e₃).live _ hCn
    have hbC : B.h₀.get? C = none := by
      cases q : B.h₀.get? C with
      | none => rfl
      | some o => rw [hs₁.stays C o q] at hC1; cases hC1
    have hF : IsF B c.fr (compEnv scope C env) [(x, none)] (σ₁.set D (.list [])) { s₁ with heap := h₁, toks := s₁.toks + ([] : List (Str × Value)).length } :=
      ⟨hs₄, hσC, hbC, _, hns, fun z u hz => by unfold getL at hz; split at hz <;> cases hz⟩
    have hitH : H2.get? s₁.heap.objs.size = some oi := by rw [← hH2]; exact Heap.get?_push_of_some _ hito
    have hit1 : h₁.get? s₁.heap.objs.size = some oi := kk _ _ hitH
    have ee : Ext σ₁ s₁.heap (σ₁.set D (.list [])) h₁ := (e₂.trans e₃).trans e₄
    have hσi : (σ₁.set D (.list [])) s₁.heap.objs.size = none := by
      rw [Store.set_ne _ _ (by rw [← hDD, ← hH1, Heap.size_push]; exact Nat.ne_of_lt (Nat.lt_succ_self _))]; exact hσ
    have tk1 : TupKeep H1 h₁ := fun a o e _ => ⟨o.slots, kk _ _ (by rw [← hH2]; exact Heap.get?_push_of_some _ e), fun _ => rfl⟩
    have loop : codeAny (model B.prog B.w) A (.compLoop (.ListComp elt [⟨.Name x px, iter, [], 0⟩] scope pos) 0 (.ref s₁.heap.objs.size) (.ref D) (compEnv scope C env)) (RR (.ref D) (compEnv scope C env)) { s₁ with heap := h₁, toks := s₁.toks + ([] : List (Str × Value)).length } :=
      compLoop_run (s₀ := s₁) (σ₀ := σ₁) (cenv := compEnv scope C env) (compEnv_ok ok S.kind) S.loc hh hA I hF (ee.toS _) hnew hb0 hσi (hP _ tk1 hit1) (hc D C hDn) fun s' o σ' acc h1 h2 h3 h4 => k D C s' o σ' h1 h2 hC1 h4
    exact codeAny_compStart_list loop (hpy hit1 loop)
  cases hi with
  | tup =>
    cases hv with
    | tup t l =>
      refine wpAny_pyIter_tuple t (go _ (iterTup B _ _ _ _) rfl (fun h' kt ho => ⟨⟨_, ho, rfl, rfl⟩, kt.tup _ _ ((Heap.push_keep _).tup _ _ t), (l.mono (Heap.push_keep _)).mono kt⟩) (fun _ _ => trivial) fun ho q => wpAny_pyIter_tupleiter ⟨_, ho, rfl, rfl⟩ q)
  | list ha =>
    cases hv
    obtain ⟨vs, n, ho, hv⟩ := hs₁.cells _ _ ha
    refine wpAny_pyIter_list ⟨_, ho, rfl, n, rfl⟩ (go _ (iterList B _ _ _) rfl (fun h' kt ho => ⟨_, ho, rfl, rfl⟩) (fun D hD => ?_) fun ho q => wpAny_pyIter_listiter ⟨_, ho, rfl, rfl⟩ q)
    show (σ₁.set D (.list [])) _ = _
    rw [Store.set_ne _ _ (ne_some hD ha).symm]; exact ha
theorem Wx_Comp {elt iter : Expr} {x : Str} {px : Pos} {scope : Scope} {pos : Pos} {Q : V → Store → Prop} {E : Addr → Store → Prop} (S : CompS scope x) (ok : EnvOK env) (hh : c.hd = none) (hset : ∀ x, foldedSetIterable iter env x = pure x)
    (h : Wx B c env iter ρ σ (fun v σ₁ => ∃ l chk, Itc v σ₁ l chk ∧ ∀ D C, σ₁ D = none → CompL B c (compEnv scope C env) elt x D chk (fun acc σ' => Q (.ref D) σ') l [] (σ₁.set D (.list []))) E) :
    Wx B c env (.ListComp elt [⟨.Name x px, iter, [], 0⟩] scope pos) ρ σ Q E := by
  intro A s hA hs
  refine wpAny_ListComp S.free S.kind S.nms (h.run hA hs (fun r s₁ v σ₁ hv hs₁ e₁ ⟨l, chk, hi, hc⟩ => ?_) fun _ _ x => x) hset
  refine comp_block (RR := fun acc cenv r s' => ∃ m, s'.heap.Ns cenv.locals m ∧ ∀ h', Heap.SameBut cenv.locals s'.heap h' → match r with
    | .ok _ => BhF B c.fr env ρ σ s.heap VR Q acc { s' with heap := h' }
    | .error x => wpAny (model B.prog B.w) A (passOn "comprehension.variables-let-go" x cenv) _ _ { s' with heap := h' }) S ok hh hA hs₁.S hv hi hc fun D C s' o σ' h1 h2 h3 h4 => ?_
  obtain ⟨m, hm, _⟩ := h1.loc
  refine ⟨m, hm, fun h' hsb => ?_⟩
  obtain ⟨y, ye⟩ := h1.outSame h2 h3 hs₁.S hsb s'.toks
  exact ⟨.ref D, σ', .ref D, hs₁.to (s' := { s' with heap := h' }) y ye, e₁.trans ye, h4⟩
theorem IsF.sameC {fr : List Env} {s : Shared} {C : Addr} {h' : Heap} (x : IsF B fr env ρ σ s) (hs : Heap.SameBut C s.heap h') (hσ : σ C = none) (hb : B.h₀.get? C = none) (hf : C ∉ fr.filterMap (·.frame)) (hL : env.locals ≠ C) (hz : ∀ o, s.heap.get? C = some o → ¬ Frozen o) (t : Nat) :
    IsF B fr env ρ σ { s with heap := h', toks := t } := by
  have ke : TupKeep s.heap h' := SameBut.tup hs hz
  obtain ⟨m, ⟨o, es, ep, ho, hd, r⟩, hm⟩ := x.loc
  refine ⟨⟨fun b o e => ?_, funFrames_same hs hf x.S.frames, x.S.off, x.S.new, fun a c e => ?_, x.S.gens, x.S.drawn, x.S.os⟩, x.offL, x.newL, m, ⟨o, es, ep, (hs.2 _ hL).trans ho, hd, r⟩, fun z u hz => let ⟨c, h1, h2⟩ := hm z u hz; ⟨c, h1, h2.mono ke⟩⟩
  · have : b ≠ C := fun q => by rw [q, hb] at e; cases e
    exact (hs.2 b this).trans (x.S.stays b o e)
  · have z := x.S.cells a c e
    have : a ≠ C := fun q => by rw [q, hσ] at e; cases e
    exact z.mono (hs.2 a this) ke
theorem Ws_assign_comp {elt iter : Expr} {x y : Str} {px py : Pos} {scope : Scope} {pos spos : Pos} {Q : Fl → Loc → Store → Prop} {E : Addr → Loc → Store → Prop} (S : CompS scope x) (ok : EnvOK env) (hh : c.hd = none) (hset : ∀ x, foldedSetIterable iter env x = pure x)
    (hsw : swapsWith (.ListComp elt [⟨.Name x px, iter, [], 0⟩] scope pos) (some (.Name y py)) spos.line env = pure true) (hy : env.kindOf y = some .local)
    (h : Wx B c env iter ρ σ (fun v σ₁ => ∃ l chk, Itc v σ₁ l chk ∧ ∀ D C, σ₁ D = none → CompL B c (compEnv scope C env) elt x D chk (fun acc σ' => Q .next (setL y (.ref D) ρ) σ') l [] (σ₁.set D (.list []))) (fun a σ₁ => E a ρ σ₁)) :
    Ws B c env (.Assign [.Name y py] (.ListComp elt [⟨.Name x px, iter, [], 0⟩] scope pos) spos) ρ σ Q E := by
  intro A s hA hs
  rw [exec_Assign_Name_used _ _ _ _ hsw]
  refine wpAny_bind (wpAny_standAt (wpAny_bind ?_))
  show wpAny _ A (do let _ ← comprehension (.ListComp elt [⟨.Name x px, iter, [], 0⟩] scope pos) scope env _ (newList []) false (eval iter env) (some (assign (.Name y py) env))) _ _ s
  refine wpAny_bind (wpAny_mono (wpAny_comprehension_use (Q := fun _ s' => BhS B c.fr env σ s.heap RFl Q .next s') rfl hset S.free S.kind S.nms (h.run hA hs (fun r s₁ v σ₁ hv hs₁ e₁ ⟨l, chk, hi, hc⟩ => ?_) fun e s' x => .ofEF x fun _ _ y => y))
    (fun _ s' hq => wpAny_pure (wpAny_pure hq)) fun _ _ e => e)
  refine comp_block (RR := fun acc cenv r s' => match r with
      | .ok _ => wpAny (model B.prog B.w) A (assign (.Name y py) env acc) (fun _ s'' => ∃ m, s''.heap.Ns cenv.locals m ∧ ∀ h', Heap.SameBut cenv.locals s''.heap h' → BhS B c.fr env σ s.heap RFl Q .next { s'' with heap := h' }) _ s'
      | .error x => ∃ m, s'.heap.Ns cenv.locals m ∧ ∀ h', Heap.SameBut cenv.locals s'.heap h' → wpAny (model B.prog B.w) A (passOn "comprehension.variables-let-go" x cenv) _ _ { s' with heap := h' }) S ok hh hA hs₁.S hv hi hc fun D C s' o σ' h1 h2 h3 h4 => ?_
  obtain ⟨y5, e5⟩ := h1.outSame h2 h3 hs₁.S (Heap.SameBut.refl ..) s'.toks
  have hs₅ : IsF B c.fr env ρ σ' s' := hs₁.to (s' := s') y5 e5
  obtain ⟨m, hm, _⟩ := h1.loc
  obtain ⟨oC, es, ep, hoC, hd, r⟩ := id hm
  have hLC : env.locals ≠ C := fun q => by
    obtain ⟨m', ⟨o', _, _, ho', _⟩, _⟩ := hs₁.loc
    rw [q, h3] at ho'; cases ho'
  refine wpAny_assign_Name (store_run ok hs₅ (.ref D) hy fun s'' hs₆ e₆ => ?_)
  obtain ⟨sl, hC'⟩ := e₆.keep C oC (Ne.symm hLC) hoC h1.offL
  refine ⟨m, ⟨_, es, ep, hC', hd, r⟩, fun h' hsb => ?_⟩
  have cel : ∀ o, s''.heap.get? C = some o → ¬ Frozen o := fun o e f => by
    rw [hC'] at e; cases e
    exact f.2 es ep hd
  refine ⟨.next, _, σ', .next, hs₆.sameC hsb h1.offL h1.newL (fun q => ?_) hLC cel s''.toks, ExtS.but (((e₁.trans e5).toS _).trans e₆) (e₁.live C h3) (fun b o n e => (hsb.2 b n).trans e), h4⟩
  obtain ⟨_, o, z, _⟩ := hs₁.S.frames.mem q
  have z : s₁.heap.get? C = some o := z
  rw [h3] at z; cases z
end
end Mine.Internal
end
section
open PySem PySem.W PyProof.Rows PySem.Builtin PySem.SeqAt
namespace Mine.Internal
section
variable {B : Bs} {c : Cx} {env : Env} {ρ : Loc} {σ : Store} {Q : V → Store → Prop} {E : Addr → Store → Prop} {K : Frag}
-- values that are the same data
mutual
inductive SameD (σ : Store) : Nat → V → V → Prop
  | int {n : Nat} (i : Int) : SameD σ n (.int i) (.int i)
  | str {n : Nat} (x : Str) : SameD σ n (.str x) (.str x)
  | tup {n : Nat} {l m : List V} : SameDs σ n l m → SameD σ (n + 1) (.tup l) (.tup m)
  | list {n : Nat} {a b : Addr} {l m : List V} : σ a = some (.list l) → σ b = some (.list m) → SameDs σ n l m → SameD σ (n + 1) (.ref a) (.ref b)
inductive SameDs (σ : Store) : Nat → List V → List V → Prop
  | nil {n : Nat} : SameDs σ n [] []
  | cons {n : Nat} {x y : V} {l m : List V} : SameD σ n x y → SameDs σ n l m → SameDs σ n (x :: l) (y :: m)
end
theorem all_range_true (n : Nat) : (List.range n).all (fun _ => true) = true := by simp
noncomputable def SameP (B : Bs) (σ : Store) (s : Shared) (n : Nat) (x y : V) : Prop := ∀ A cx cy, VR s.heap x cx → VR s.heap y cy → A.units + n < cLine → EqAt A s cx cy true
noncomputable def SamePs (B : Bs) (σ : Store) (s : Shared) (n : Nat) (l m : List V) : Prop := ∀ A cs ds, VRs s.heap l cs → VRs s.heap m ds → A.units + n < cLine → cs.length = ds.length ∧ ∀ j (h1 : j < cs.length) (h2 : j < ds.length), EqAt A s cs[j] ds[j] true
theorem SameP.int {s : Shared} {n : Nat} {i : Int} : SameP B σ s n (.int i) (.int i) := fun A cx cy v w _ => v.int' (P := fun c => EqAt A s c cy true) fun t => w.int' fun u => by have := EqAt.int_int (A := A) (s := s) i t i u; simpa using this
theorem SameP.str {s : Shared} {n : Nat} {i : Str} : SameP B σ s n (.str i) (.str i) := fun A cx cy v w _ => v.str' (P := fun c => EqAt A s c cy true) fun t => w.str' fun u => by have := EqAt.str_str (A := A) (s := s) i t i u; simpa using this
theorem SameP.tup {s : Shared} {n : Nat} {l m : List V} (ih : SamePs B σ s n l m) : SameP B σ s (n + 1) (.tup l) (.tup m) := fun A cx cy v w hu => by
  refine v.tup' (P := fun c => EqAt A s c cy true) fun vs a t1 v1 => ?_
  refine w.tup' fun ws b t2 v2 => ?_
  by_cases hab : a = b
  · subst hab; exact EqAt.same _
  · refine EqAt.of_refs hab ?_
    obtain ⟨hl, hj⟩ := ih A.in1 _ _ v1 v2 (by show A.units + 1 + n < cLine; lia)
    have := RcAt.tuples (A := A) (e := fun _ => true) t1 t2 (by lia) fun j h1 h2 => hj j (by simpa using h1) (by simpa using h2)
    rw [all_range_true, show (vs.toArray.size == ws.toArray.size) = true by simp [hl]] at this
    exact this
theorem SameP.list {fr : List Env} {s : Shared} (hs : IsS B fr σ s) {n : Nat} {a b : Addr} {l m : List V} (h1 : σ a = some (.list l)) (h2 : σ b = some (.list m)) (ih : SamePs B σ s n l m) : SameP B σ s (n + 1) (.ref a) (.ref b) := fun A cx cy v w hu => by
  refine v.ref' (P := fun c => EqAt A s c cy true) ?_
  refine w.ref' ?_
  by_cases hab : a = b
  · subst hab; exact EqAt.same _
  · refine EqAt.of_refs hab ?_
    obtain ⟨vs, k1, ho1, v1⟩ := hs.cells _ _ h1
    obtain ⟨ws, k2, ho2, v2⟩ := hs.cells _ _ h2
    obtain ⟨hl, hj⟩ := ih A.in1 _ _ v1 v2 (by show A.units + 1 + n < cLine; lia)
    have := RcAt.lists (A := A) (s := s) (l := a) (b := b) (items := vs.toArray) (items2 := ws.toArray) (e := fun _ => true) ⟨_, ho1, rfl, k1, rfl⟩ ⟨_, ho2, rfl, k2, rfl⟩ (by simp [hl]) (by lia) fun j h1 h2 => hj j (by simpa using h1) (by simpa using h2)
    rw [all_range_true] at this
    exact this
theorem SamePs.nil {s : Shared} {n : Nat} : SamePs B σ s n [] [] := fun A cs ds v w _ => v.nil' (P := fun cs => cs.length = ds.length ∧ ∀ j (h1 : j < cs.length) (h2 : j < ds.length), EqAt A s cs[j] ds[j] true) (w.nil' (P := fun ds => ([] : List Value).length = ds.length ∧ ∀ j (h1 : j < ([] : List Value).length) (h2 : j < ds.length), EqAt A s ([] : List Value)[j] ds[j] true) ⟨rfl, fun j h1 _ => absurd h1 (Nat.not_lt_zero _)⟩)
theorem SamePs.cons {s : Shared} {n : Nat} {x y : V} {l m : List V} (i1 : SameP B σ s n x y) (i2 : SamePs B σ s n l m) : SamePs B σ s n (x :: l) (y :: m) := fun A cs ds v w hu => by
  refine v.cons' (P := fun cs => cs.length = ds.length ∧ ∀ j (h1 : j < cs.length) (h2 : j < ds.length), EqAt A s cs[j] ds[j] true) fun c r a b => ?_
  refine w.cons' fun d r' a' b' => ?_
  obtain ⟨h1, h2⟩ := i2 A _ _ b b' hu
  refine ⟨congrArg (· + 1) h1, fun j h3 h4 => ?_⟩
  cases j with
  | zero => exact i1 A _ _ a a' hu
  | succ j => exact h2 j (Nat.lt_of_succ_lt_succ h3) (Nat.lt_of_succ_lt_succ h4)
theorem SameDs.eq {fr : List Env} {A : Around} {s : Shared} (hs : IsS B fr σ s) {n : Nat} {l m : List V} {cs ds : List Value} (d : SameDs σ n l m) (v : VRs s.heap l cs) (w : VRs s.heap m ds) (hu : A.units + n < cLine) : cs.length = ds.length ∧ ∀ j (h1 : j < cs.length) (h2 : j < ds.length), EqAt A s cs[j] ds[j] true :=
  SameDs.rec (motive_1 := fun n x y _ => SameP B σ s n x y) (motive_2 := fun n l m _ => SamePs B σ s n l m) (fun _ => .int) (fun _ => .str) (fun _ ih => .tup ih) (fun h1 h2 _ ih => .list hs h1 h2 ih) .nil (fun _ _ i1 i2 => .cons i1 i2) d A cs ds v w hu
theorem O_neSame {n : Nat} {l m : List V} (hd : SameD σ (n + 1) (.tup l) (.tup m)) (hu : c.un + (n + 1) < cLine) (h : Q (.bool false) σ) : CW B c (op2 (compareOp .NotEq)) [.tup l, .tup m] σ VR Q E :=
  CW2 fun A s _ _ hA hs va vb => by
    cases hd with
    | tup d =>
    refine va.tup' fun vs a t1 v1 => ?_
    refine vb.tup' fun ws b t2 v2 => ?_
    ·
      have hun := hA.un
      obtain ⟨hl, hj⟩ := SameDs.eq (A := A.in1) hs d v1 v2 (by show A.units + 1 + n < cLine; lia)
      have := SeqAt.RcNeAt.tuples (A := A) (e := fun _ => true) t1 t2 (by lia) fun j h1 h2 => hj j (by simpa using h1) (by simpa using h2)
      rw [all_range_true] at this
      have e : (vs.toArray.size == ws.toArray.size) = true := by simp [hl]
      rw [e] at this
      exact this _ _ _ _ ⟨.bool false, σ, .bool _, hs, .refl .., h⟩
theorem O_eqNil {a b : Addr} {l : List V} (ha : σ a = some (.list l)) (hb : σ b = some (.list [])) (hu : c.un < cLine) (h : Q (.bool l.isEmpty) σ) : CW B c (op2 (compareOp .Eq)) [.ref a, .ref b] σ VR Q E :=
  CW2 fun A s _ _ hA hs va vb => by
    refine va.ref' ?_; refine vb.ref' ?_
    have hun := hA.un
    obtain ⟨vs, k1, ho1, v1⟩ := hs.cells _ _ ha
    obtain ⟨ws, k2, ho2, v2⟩ := hs.cells _ _ hb
    cases v2
    cases v1 with
    | nil =>
      refine eq_listAt (items := #[]) (items2 := #[]) (e := fun _ => true) ⟨_, ho1, rfl, k1, rfl⟩ ⟨_, ho2, rfl, k2, rfl⟩ rfl (by lia) (fun j h1 _ => absurd h1 (Nat.not_lt_zero _)) ?_
      exact ⟨.bool true, σ, .bool _, hs, .refl .., h⟩
    | @cons x cx l cs d r =>
      refine eq_list_lengthsAt (items := (cx :: cs).toArray) (items2 := #[]) ⟨_, ho1, rfl, k1, rfl⟩ ⟨_, ho2, rfl, k2, rfl⟩ (by simp) (by lia) ?_
      exact ⟨.bool false, σ, .bool _, hs, .refl .., h⟩
-- sums and greatest of ints, unspecified
theorem F_sum {a : Addr} {ns : List Int} (hh : c.hd = none) (ha : σ a = some (.list (ns.map V.int))) (h : ∀ k, Q (.int k) σ) : CW B c (callF (.bi "sum")) [.ref a] σ VR Q E :=
  CF1 fun A s _ hA hs va => by
    refine va.ref' ?_
    obtain ⟨vs, k, ho, hv⟩ := hs.cells a _ ha
    obtain ⟨xs, hx, _⟩ := intItems_of hv
    show wpAny _ A (call (.builtin "sum") _) _ _ s
    refine sum_intListG (xs := xs) (hA.hd.trans hh) (by rw [hx]; exact ⟨_, ho, rfl, k, rfl⟩) fun h' tk t' kk => ?_
    obtain ⟨y, e'⟩ := hs.grown kk tk
    exact ⟨.int _, σ, .int _ _, y, e', h _⟩
theorem F_maxAny {a : Addr} {ns : List Int} (hh : c.hd = none) (ha : σ a = some (.list (ns.map V.int))) (h0 : ns ≠ []) (h : ∀ k, Q (.int k) σ) : CW B c (callF (.bi "max")) [.ref a] σ VR Q E :=
  CF1 fun A s _ hA hs va => by
    refine va.ref' ?_
    obtain ⟨vs, k, ho, hv⟩ := hs.cells a _ ha
    obtain ⟨xs, hx, hn⟩ := intItems_of hv
    show wpAny _ A (call (.builtin "max") _) _ _ s
    refine max_intList (xs := xs) (hA.hd.trans hh) (by rw [hx]; exact ⟨_, ho, rfl, k, rfl⟩) (by
      cases q : xs.size with
      | zero => exact absurd (by rw [← hn, Array.eq_empty_of_size_eq_zero q]; rfl) h0
      | succ n => exact Nat.zero_lt_succ _) fun v h' tk e kk => ?_
    obtain ⟨y, e'⟩ := hs.grown kk tk
    have : ∃ n t, v = .int n t := by
      unfold intItems at e
      rw [Array.getElem?_map] at e
      cases q : xs[argBest (fun i j => decide (numAt xs i > numAt xs j)) (xs.size - 1)]? with
      | none => rw [q] at e; cases e
      | some p => rw [q] at e; exact ⟨_, _, (Option.some.inj e).symm⟩
    obtain ⟨n, t, rfl⟩ := this
    exact ⟨.int n, σ, .int _ _, y, e', h _⟩
theorem F_range {n : Int} (h : Q (.range 0 n 1) σ) : CW B c (callF (.ty "range")) [.int n] σ VR Q E :=
  CF1 fun A s _ hA hs va => by
    cases va with
    | int _ t =>
    show wpAny _ A (call (.type "range") _) _ _ s
    refine call_range_1 ?_
    obtain ⟨y, e⟩ := hs.push { cls := .type "range", data := .fields #[.int 0 s.toks, .int n t, .int 1 (s.toks + 1)] }
    exact ⟨.range 0 n 1, σ, .range (IsRange.new ..), y.toks _, e, h⟩
theorem ints_VR {h : Heap} {vs : List Value} {ns : List Int} (x : IntsAre vs ns) : VRs h (ns.map V.int) vs := by
  induction x with
  | nil => exact .nil
  | cons n t _ ih => exact .cons (.int n t) ih
-- a list of the outer heap
theorem G_h0_slice {a : Addr} {vs : List Value} {ns : List Int} {k : Int} (hsl : isSliceE slice = true) (hl : B.h₀.IsList a vs.toArray) (hi : IntsAre vs ns) (hz : vs.length ≤ k) (hk : k ≤ 1000) (h : ∀ b, σ b = none → Q (.ref b) (σ.set b (.list (ns.map V.int)))) : CW B c (op2 (subscriptTail value slice)) [.ref a, .slice none (some k)] σ VR Q E :=
  CW2 fun A s _ _ hA hs va b => by
    refine va.ref' ?_
    refine b.slice' fun _ _ _ hS pl pu => ?_
    ·
      obtain ⟨o, ho, hc, n, hd⟩ := hl
      have hl : s.heap.IsList a vs.toArray := ⟨o, hs.stays _ _ ho, hc, n, hd⟩
      obtain ⟨ops, ho⟩ := sub_slice hsl _ _
      refine tail_any hl.typeIs slot_list_getitem.lookup (wpAny_getItem_list_slice hl hS pl pu .none (by decide) ?_ (by rw [List.size_toArray]; unfold sizeLine; lia)) ho
      have e : slicePick vs.toArray none (some k) none = vs.toArray := by
        obtain ⟨n, rfl⟩ := Int.eq_ofNat_of_zero_le (show (0 : Int) ≤ k by lia)
        rw [show ((n : Int)) = ((n : Nat) : Int) from rfl]
        have := slicePick_upto' vs.toArray n
        apply Array.ext'
        rw [this]
        exact List.take_of_length_le (by show vs.length ≤ n; lia)
      rw [e]
      have hv : ∀ h : Heap, VRs h (ns.map V.int) vs := fun _ => ints_VR hi
      obtain ⟨hS, e₂, hn⟩ := hs.alloc { cls := .type "list", data := .seq vs.toArray } (.list (ns.map V.int)) ⟨_, 0, by rw [Heap.get?_push_size _ rfl], hv _⟩
      exact ⟨.ref _, _, .ref _, hS, e₂, h _ hn⟩
-- dicts with int keys
noncomputable def IDW (B : Bs) (c : Cx) (env : Env) (ρ : Loc) (E : Addr → Store → Prop) : List (Option Expr) → List Expr → (List (Int × Int) → Store → Prop) → Store → Prop
  | some k :: ks, v :: vs, P, σ => Wx B c env k ρ σ (fun kv σ₁ => ∃ x, kv = .int x ∧ Wx B c env v ρ σ₁ (fun vv σ₂ => ∃ y, vv = .int y ∧ IDW B c env ρ E ks vs (fun r σ₃ => P ((x, y) :: r) σ₃) σ₂) E) E
  | [], [], P, σ => P [] σ
  | _, _, _, _ => False
inductive IDPs : List (Int × Int) → List (Value × Value) → Prop
  | nil : IDPs [] []
  | cons {x y : Int} {t u : Tok} {r : List (Int × Int)} {cs : List (Value × Value)} : IDPs r cs → IDPs ((x, y) :: r) ((.int x t, .int y u) :: cs)
theorem IDPs.ints {r : List (Int × Int)} {cs : List (Value × Value)} (x : IDPs r cs) : allIntKeys cs = true ∧ (intKeyPairs cs).map (·.1) = r.map (·.1) ∧ IKVs r (intKeyPairs cs) := by
  induction x with
  | nil => exact ⟨rfl, rfl, .nil⟩
  | cons _ ih => exact ⟨ih.1, congrArg (_ :: ·) ih.2.1, .cons ih.2.2⟩
theorem idw_run {A : Around} {pos : Pos} : ∀ {ks : List (Option Expr)} {vs : List Expr} {P : List (Int × Int) → Store → Prop} {σ : Store} {s : Shared} {Qc : List (Value × Value) → Shared → Prop} {Ec : Value → Shared → Prop} (hA : AOk c A) (hs : IsF B c.fr env ρ σ s) (h : IDW B c env ρ E ks vs P σ)
    (k : ∀ r s' al σ', IDPs al r → IsF B c.fr env ρ σ' s' → Ext σ s.heap σ' s'.heap → P al σ' → Qc r s') (ke : ∀ e s', EF B c.fr env ρ σ s E e s' → Ec e s'), wpAny (model B.prog B.w) A (evalPairs (pairTrees ks vs env pos)) Qc Ec s
  | [], [], P, σ, s, Qc, Ec, hA, hs, h, k, ke => pairTrees_nil_walk (k [] s [] σ .nil hs (.refl ..) h)
  | some kx :: ks, v :: vs, P, σ, s, Qc, Ec, hA, hs, h, k, ke => pairTrees_cons_walk (WE.run h hA hs (fun rk s₁ kv σ₁ hk hs₁ e₁ ⟨x, hx, H⟩ => by
      subst hx
      cases hk
      exact WE.run H hA hs₁ (fun rv s₂ vv σ₂ hv hs₂ e₂ ⟨y, hy, H₂⟩ => by
        subst hy
        cases hv
        exact idw_run hA hs₂ H₂ (fun r s₃ al σ₃ hr hs₃ e₃ q => k _ s₃ ((x, y) :: al) σ₃ (.cons hr) hs₃ ((e₁.trans e₂).trans e₃) q) fun e s' z => ke e s' (z.trans (e₁.trans e₂))) fun e s' z => ke e s' (z.trans e₁)) ke)
  | none :: _, _, _, _, _, _, _, _, _, h, _, _ => by unfold IDW at h; exact h.elim
  | some _ :: _, [], _, _, _, _, _, _, _, h, _, _ => by unfold IDW at h; exact h.elim
  | [], _ :: _, _, _, _, _, _, _, _, h, _, _ => by unfold IDW at h; exact h.elim
theorem Wx_IDict {keys : List (Option Expr)} {values : List Expr} {pos : Pos} (hall : keys.all (·.isSome) = true) (hl : keys.length = values.length) (h0 : keys ≠ []) (hlen : keys.length ≤ 15)
    (h : ∀ d, σ d = none → IDW B c env ρ E keys values (fun al σ' => (al.map (·.1)).Nodup ∧ σ' d = some (.idict []) ∧ Q (.ref d) (σ'.set d (.idict al))) (σ.set d (.idict []))) : Wx B c env (.Dict keys values pos) ρ σ Q E := fun A s hA hs => by
  refine wpAny_Dict_walk (knd := intKind B.prog B.w) hall hl h0 hlen ?_
  have hg : (s.heap.push { cls := .type "dict", data := .dict #[] }).DictOf (intKind B.prog B.w) s.heap.objs.size [] := Heap.DictOf.new _
  obtain ⟨y₁, e₁, n₁⟩ := hs.S.alloc { cls := .type "dict", data := .dict #[] } (.idict []) ⟨[], hg, .nil, notModsN hs.S⟩
  have F₁ := hs.to (s' := { s with heap := s.heap.push { cls := .type "dict", data := .dict #[] } }) y₁ e₁
  refine idw_run hA F₁ (h _ n₁) (fun r s₂ al σ₂ hr hs₂ e₂ ⟨hnd, hd, q⟩ => ?_) fun e s' x => x.trans e₁
  obtain ⟨kvs, hdd, hkv, lo⟩ := hs₂.S.cells _ _ hd
  cases hkv
  obtain ⟨h1, h2, h3⟩ := hr.ints
  refine display_done_int h1 (by rw [h2]; exact hnd) hdd fun h' hd' hsb => ?_
  obtain ⟨y₃, e₃⟩ := hs₂.S.update (c' := .idict al) hd hsb (fun k => ⟨_, hd', h3, lo⟩) (s₂.toks + r.length)
  exact ⟨.ref _, _, .ref _, hs₂.to (s' := { s₂ with heap := h', toks := s₂.toks + r.length }) y₃ e₃, (e₁.trans e₂).trans e₃, q⟩
theorem M_idget {pl : Sem Bool} {Qm : V × List V → Store → Prop} {a : Addr} {kv : List (Int × Int)} (ha : σ a = some (.idict kv)) (h : Qm (.bi "dict.get", [.ref a]) σ) : CW B c (op1 fun x => getMethod x "get" pl) [.ref a] σ RM Qm E :=
  CW1 fun A s _ hA hs va => by
    refine va.ref' ?_
    obtain ⟨kvs, hd, hv, lo⟩ := hs.cells a _ ha
    obtain ⟨o, es, ep, ho, ⟨hc, hdn, _⟩, _⟩ := id hd
    have h1 : s.TypeIs (.ref a) "dict" := ⟨_, ho, hc⟩
    with_reducible refine getMethod_builtin h1 F.plainAttrs_dict F.slot_dict_get F.type_dict_get ?_ ?_
    · intro b e; cases e; exact ⟨_, ho, hdn⟩
    · exact ⟨(.bi "dict.get", [.ref a]), σ, rm_i (.bi _) (.cons (.ref _) .nil), hs, .refl .., h⟩
noncomputable def getI (i : Int) : List (Int × Int) → Option Int
  | [] => none
  | (k, n) :: r => if k = i then some n else getI i r
theorem F_idget2 {a : Addr} {kv : List (Int × Int)} {i : Int} {d : V} (ha : σ a = some (.idict kv)) (h : Q (match getI i kv with | some n => .int n | none => d) σ) : CW B c (callF (.bi "dict.get")) [.ref a, .int i, d] σ VR Q E :=
  CF3 fun A s _ _ cd hA hs va vb vd => by
    cases va
    cases vb with
    | int _ t =>
    obtain ⟨kvs, hd, hv, lo⟩ := hs.cells a _ ha
    show wpAny _ A (call (.builtin "dict.get") _) _ _ s
    with_reducible refine PySem.call_meetsIn F.slot_dict_get hd.typeIs F.entry_dict_get (F.args_dict_get_3 _ _ _) (meets_dict_get_default (intKind B.prog B.w) a (intKind_is _ _ i t) (notModsI hs ha) _) ⟨_, hd.mapOf, ?_⟩
    have : ∀ {kv : List (Int × Int)} {kvs : List (Int × Value)}, IKVs kv kvs → (getI i kv = none ∧ valueAt kvs i = none) ∨ ∃ n t, getI i kv = some n ∧ valueAt kvs i = some (.int n t) := by
      intro kv kvs hv
      induction hv with
      | nil => exact .inl ⟨rfl, rfl⟩
      | @cons k n t r es _ ih =>
        unfold getI
        by_cases q : k = i
        · refine .inr ⟨n, t, by rw [if_pos q], ?_⟩
          unfold valueAt
          rw [List.find?_cons_of_pos (by simpa using q)]; rfl
        · rw [if_neg q]
          have e : valueAt ((k, Value.int n t) :: es) i = valueAt es i := by
            unfold valueAt
            rw [List.find?_cons_of_neg (by simpa using q)]
          rw [e]; exact ih
    rcases this hv with ⟨h1, h2⟩ | ⟨n, u, h1, h2⟩
    · rw [h2]; rw [h1] at h; exact ⟨d, σ, vd, hs.toks _, .refl .., h⟩
    · rw [h2]; rw [h1] at h; exact ⟨.int n, σ, .int n u, hs.toks _, .refl .., h⟩
end
end Mine.Internal
end
section
open PySem PySem.W PyProof.Rows PySem.Builtin
namespace Mine.Internal
section
variable {B : Bs} {c : Cx} {σ : Store} {E : Addr → Store → Prop} {Qm : V × List V → Store → Prop} {pl : Sem Bool} {K : Frag}
theorem M_cls {C f : Addr} {name : Str} (k1 : typeIn K (.ref C) = some (.type "type")) (k2 : nsIn K cStatics "thirdparty.any" = some none) (hfc : findCls K (.ref C) (.type "type") name = some (.val (.ref f))) (hK : B.K = K) (h : Qm (.ref f, []) σ) : CW B c (op1 fun x => getMethod x name pl) [.ref C] σ RM Qm E :=
  CW1 fun A s _ hA hs va => by
    refine va.ref' ?_
    subst hK
    have X := B.X.keeps hs.stays
    have L0 : Looks (model B.prog B.w) s.heap (typeOf (.ref C)) (.type "type") := looks_typeIn X k1
    have hg : findIn B.K (.type "type") "__getattribute__" = some (some (.builtin "type.__getattribute__")) := type_tga
    unfold getMethod specialOf
    refine wpAny_bind (wpAny_bind (L0.here ((looks_findIn X hg).here ?_)))
    dsimp only
    rw [if_pos canon_tga]
    refine wpAny_bind (wpAny_mono (Q := fun v s' => v = .ref f ∧ s' = { s with toks := s.toks + 1 }) (E := EC B c.fr σ s E) ?_ (fun v s' ⟨h1, h2⟩ => ?_) fun _ _ z => z)
    · refine cls_open X (looks_opaque X k2) L0 hg (looks_hook X (r := none) (by rfl)) (by show subIn B.K _ _ = _; rfl) hfc ?_
      exact wpAny_pure (handed_on rfl ⟨rfl, rfl⟩)
    · subst h1 h2
      exact wpAny_pure ⟨(.ref f, []), σ, rm_i (.ref _) .nil, hs.toks _, .refl .., h⟩
end
end Mine.Internal
end
section
open PySem PySem.W PyProof.Rows PySem.Builtin
namespace Mine.Internal
section
variable {B : Bs} {c : Cx} {env : Env} {ρ : Loc} {σ : Store} {Q : V → Store → Prop} {E : Addr → Store → Prop}
theorem Wx_And2 {x y : Expr} {pos : Pos} (h : Wx B c env x ρ σ (fun v σ₁ => ∃ b, v = .bool b ∧ (b = true → Wx B c env y ρ σ₁ Q E) ∧ (b = false → Q (.bool false) σ₁)) E) : Wx B c env (.BoolOp .And [x, y] pos) ρ σ Q E :=
  fun A s hA hs => wpAny_And2 (h.run hA hs (fun r s₁ v σ₁ hv hs₁ e₁ ⟨b, e, h1, h2⟩ => by
    subst e
    cases hv
    refine wpAny_truthy_bool ?_
    cases b with
    | true => exact (h1 rfl).run hA hs₁ (fun r s₂ u σ₂ hu hs₂ e₂ q => ⟨u, σ₂, hu, hs₂, e₁.trans e₂, q⟩) fun e s' z => z.trans e₁
    | false => exact ⟨_, σ₁, .bool _, hs₁, e₁, h2 rfl⟩) fun _ _ z => z)
theorem Wx_Or2 {x y : Expr} {pos : Pos} (h : Wx B c env x ρ σ (fun v σ₁ => ∃ b, v = .bool b ∧ (b = true → Q (.bool true) σ₁) ∧ (b = false → Wx B c env y ρ σ₁ Q E)) E) : Wx B c env (.BoolOp .Or [x, y] pos) ρ σ Q E :=
  fun A s hA hs => wpAny_Or2 (h.run hA hs (fun r s₁ v σ₁ hv hs₁ e₁ ⟨b, e, h1, h2⟩ => by
    subst e
    cases hv
    refine wpAny_truthy_bool ?_
    cases b with
    | true => exact ⟨_, σ₁, .bool _, hs₁, e₁, h1 rfl⟩
    | false => exact (h2 rfl).run hA hs₁ (fun r s₂ u σ₂ hu hs₂ e₂ q => ⟨u, σ₂, hu, hs₂, e₁.trans e₂, q⟩) fun e s' z => z.trans e₁) fun _ _ z => z)
theorem ex_bool {b : Bool} {P : Bool → Prop} (h : P b) : ∃ b', V.bool b = .bool b' ∧ P b' := ⟨b, rfl, h⟩
inductive IL : List V → List Int → Prop
  | nil : IL [] []
  | cons {n : Int} {l : List V} {ns : List Int} : IL l ns → IL (.int n :: l) (n :: ns)
theorem IL.ints {h : Heap} {l : List V} {ns : List Int} {cs : List Value} (x : IL l ns) (y : VRs h l cs) : IntsAre cs ns := by
  induction x generalizing cs with
  | nil => exact y.nil' .nil
  | @cons n l ns _ ih => exact y.cons' fun c r a b => a.int' (P := fun c => IntsAre (c :: r) (n :: ns)) fun t => .cons n t (ih b)
theorem O_inTi {x : Int} {l : List V} {ns : List Int} (hl : IL l ns) (h : Q (.bool (ns.any (· == x))) σ) : CW B c (op2 (compareOp .In)) [.int x, .tup l] σ VR Q E :=
  CW2 fun A s _ _ hA hs va vb => by
    cases va with
    | int _ t =>
    refine vb.tup' fun vs a ht hv => ?_
    ·
      have ht : IsTup s.heap a vs.toArray := ht
      have hl : IntsAre vs.toArray.toList ns := hl.ints hv
      with_reducible refine in_tuple_ints ht hl ?_
      exact ⟨_, σ, .bool _, hs, .refl .., h⟩
end
end Mine.Internal
end
section
open PySem PySem.W PyProof.Rows PySem.Builtin
namespace Mine.Internal
section
variable {B : Bs} {c : Cx} {env : Env} {ρ : Loc} {σ : Store} {Q : V → Store → Prop} {E : Addr → Store → Prop}
theorem Wx_Dict0 {pos : Pos} (h : ∀ d, σ d = none → Q (.ref d) (σ.set d (.dict []))) : Wx B c env (.Dict [] [] pos) ρ σ Q E := fun A s hA hs => by
  refine wpAny_Dict_empty ?_
  obtain ⟨y, e, n⟩ := hs.S.alloc { cls := .type "dict", data := .dict #[] } (.dict []) ⟨[], Heap.DictOf.new _, .nil, notModsN hs.S⟩
  exact ⟨.ref _, _, .ref _, hs.to (s' := { s with heap := _ }) y e, e, h _ n⟩
end
end Mine.Internal
end
section
open PySem PySem.W PyProof.Rows
namespace Mine.Internal
/-- from the top's facts to the first statement -/
theorem law_top {p : Program} {loose : List Str} {mean : ExcName → Option Value} {mg mb : Str → Option Value} {prog : Program} {w : World} {K : Frag} {s₁ : Shared} {h₁ : Heap} {tk : Nat} {fa a : Addr} {qual : Str} {sc : Scope} {cdv : Value} {body : List Stmt} {Qc : Flow → Shared → Prop} {Ec : Value → Shared → Prop} {x : Str}
    (KX : K.In s₁.heap) (T : Top p loose mean mg mb s₁.heap) (F : Fr s₁.heap s₁.heap.objs.size h₁ (fun y => List.lookup y [(x, Value.ref a)].reverse)) (hck : checkS sc 1 = true) (hx : (sc.names.take 1).map (·.1) = [x])
    (H : ∀ (B : Bs) env c', B.K = K → B.h₀ = s₁.heap → EnvS c' env sc.names → c'.hd = none → c'.dep = 302 → c'.un = 7 → Wss B c' env body (zs sc.names ([some (.ref a)] ++ List.replicate (sc.names.length - 1) none)) (fun _ => none) (retK fun v _ => v = .bool true) (fun _ _ _ => False))
    (hQ : ∀ s', (∀ b o, s₁.heap.get? b = some o → s'.heap.get? b = some o) → s'.gens = s₁.gens → s'.os = s₁.os → Qc (.ret (.bool true)) s') :
    wpAny (model prog w) (callerA.deeper (envOf qual sc s₁.heap.objs.size fa cdv)) (execs body (envOf qual sc s₁.heap.objs.size fa cdv)) Qc Ec { heap := h₁, gens := s₁.gens, drawn := s₁.drawn, toks := tk, os := s₁.os } := by
  obtain ⟨h1, h2, h3, h4, h5, h6⟩ := checkS_ok hck
  let B : Bs := ⟨prog, w, K, s₁.heap, p, loose, mg, mb, KX, topRead_of T, s₁.gens, s₁.drawn, s₁.os⟩
  have hLn : s₁.heap.get? s₁.heap.objs.size = none := by
    cases q : s₁.heap.get? s₁.heap.objs.size with
    | none => rfl
    | some o => exact absurd (Heap.lt_size q) (Nat.lt_irrefl _)
  let env := envOf qual sc s₁.heap.objs.size fa cdv
  let c' : Cx := ⟨[env], none, 302, 7⟩
  have hE : EnvS c' env sc.names := ⟨envOf_ok h1.kind, ⟨⟨_, rfl⟩, rfl⟩, rfl, h1.nod, h1.dbg⟩
  have hS : IsS B [env] (fun _ => none) { heap := h₁, gens := s₁.gens, drawn := s₁.drawn, toks := tk, os := s₁.os } :=
    ⟨F.keep, .cons (by show sc.kind ≠ .module; rw [h1.kind]; decide) rfl F.ns hLn trivial, fun _ _ _ _ => rfl, fun _ h => absurd rfl h, fun _ _ e => (by cases e), rfl, rfl, rfl⟩
  have e := zs_start (ns := sc.names) (l := [V.ref a]) (n := 1) rfl h6
  have hF : IsF B c'.fr env (zs sc.names ([some (.ref a)] ++ List.replicate (sc.names.length - 1) none)) (fun _ => none) { heap := h₁, gens := s₁.gens, drawn := s₁.drawn, toks := tk, os := s₁.os } := by
    refine ⟨hS, rfl, hLn, _, F.ns, fun y v q => ?_⟩
    have e' : zs sc.names ([some (.ref a)] ++ List.replicate (sc.names.length - 1) none) = _ := e.symm
    rw [e', hx] at q
    have q := startL_get (by rfl) q
    unfold List.zip List.zipWith getA at q
    by_cases z : x = y
    · rw [if_pos z] at q
      cases q
      refine ⟨.ref a, ?_, .ref a⟩
      subst z
      simp [List.lookup]
    · rw [if_neg z] at q; simp [getA] at q
  have hA : AOk c' (callerA.deeper env) := ⟨Around.frames_deeper (show callerA.frames = some [] from rfl), rfl, Nat.le_refl _, Nat.le_refl _⟩
  refine WS.run (H B env c' rfl rfl hE rfl rfl rfl) hA hF (fun r s' f ρ' σ' hf hs' e' q => ?_) fun e s' ⟨_, _, _, _, _, _, _, _, f⟩ => f.elim
  cases hf with
  | ret hv =>
    have q : _ = V.bool true := q
    subst q
    cases hv
    exact hQ s' hs'.S.stays hs'.S.gens hs'.S.os
  | next => exact absurd (show V.none = V.bool true from q) (by intro h; cases h)
  | brk => exact absurd (show V.none = V.bool true from q) (by intro h; cases h)
  | cont => exact absurd (show V.none = V.bool true from q) (by intro h; cases h)
end Mine.Internal
end
section
open PySem PySem.W PyProof.Rows
namespace Mine.Internal
theorem script_fact {vs : List Value} {ns : List Int} (hi : IntsAre vs ns) (hn : ¬ ((63 : Nat) : Int) < (ns.length : Int)) : vs.length ≤ 63 ∧ ns.length ≤ 63 := by
  have := hi.length
  lia
theorem law_top2 {p : Program} {loose : List Str} {mean : ExcName → Option Value} {mg mb : Str → Option Value} {prog : Program} {w : World} (KF : World → Frag) {s₁ : Shared} {h₁ : Heap} {tk : Nat} {fa a : Addr} {qual : Str} {sc : Scope} {cdv : Value} {body : List Stmt} {Qc : Flow → Shared → Prop} {Ec : Value → Shared → Prop} {x : Str} {vs : List Value} {ns : List Int}
    (KX : (KF w).In s₁.heap) (T : Top p loose mean mg mb s₁.heap) (F : Fr s₁.heap s₁.heap.objs.size h₁ (fun y => List.lookup y [(x, Value.ref a)].reverse)) (hl : s₁.heap.IsList a vs.toArray) (hi : IntsAre vs ns) (hn : ¬ ((63 : Nat) : Int) < (ns.length : Int)) (hck : checkS sc 1 = true) (hx : (sc.names.take 1).map (·.1) = [x])
    (H : ∀ (w : World) (B : Bs) (env : Env) (c' : Cx) (a : Addr) (vs : List Value) (ns : List Int), B.K = KF w → B.h₀.IsList a vs.toArray → IntsAre vs ns → vs.length ≤ 63 → ns.length ≤ 63 → EnvS c' env sc.names → c'.hd = none → c'.dep = 302 → c'.un = 7 →
      Wss B c' env body (zs sc.names ([some (.ref a)] ++ List.replicate (sc.names.length - 1) none)) (fun _ => none) (retK fun v _ => v = .bool true) (fun _ _ _ => False))
    (hQ : ∀ s', (∀ b o, s₁.heap.get? b = some o → s'.heap.get? b = some o) → s'.gens = s₁.gens → s'.os = s₁.os → Qc (.ret (.bool true)) s') :
    wpAny (model prog w) (callerA.deeper (envOf qual sc s₁.heap.objs.size fa cdv)) (execs body (envOf qual sc s₁.heap.objs.size fa cdv)) Qc Ec { heap := h₁, gens := s₁.gens, drawn := s₁.drawn, toks := tk, os := s₁.os } :=
  law_top (K := KF w) KX T F hck hx (fun B env c' h1 h2 h3 h4 h5 h6 => H w B env c' a vs ns h1 (by rw [h2]; exact hl) hi (script_fact hi hn).1 (script_fact hi hn).2 h3 h4 h5 h6) hQ
end Mine.Internal
end
section
open PySem PySem.W PyProof.Rows
namespace Mine.Internal
/-- the walking words: «word@part» for one part alone -/
def tbl : List (String × String) := [
  ("sz1", "sz100 =r"),
  ("sz", "!a\nsz100 =r"),
  ("lb", "Nat.le_of_ble_eq_true =r"),
  ("eo", "EnvS.ok A"),
  ("gx", "!a\ngetA_self u u u\n!r"),
  ("gy", "!a\n!r"),
  ("er", "!r"),
  ("fo", "fits_of =l =l"),
  ("sr", "of_decide_eq_true =r"),
  ("l", "!ar\nrm A A =r\nrmM A A =mx =r\nrmY A A =mx =r\nnl0 A\nlo0 A\nhi0 A A\nhi1 A A A\nlt62b A\nle1k A\nfmB A =r\nwk A =r\nwk1 A =r\nwkS A =r\nwkT A =r\nmxA =mx =r\nmxA1 =mx =r\nlgT A A\nrmD A A A =r\nrmE A A A =r\nrmF A A A =r\nrmC A A A A =r\nrmG A A =lg\nrm0 A =lg\n!lia"),
  ("lg", "!ar\nsubOne A\nsubOn5 A\nwk A =r\nwk1 A =r\nwkM A =mx =r\nwkS A =r\nmxA =mx =r\nmxA1 =mx =r\nmxA0 =mx"),
  ("mx", "Nat.le_refl.\nmxl =mx\nmxr =mx"),
  ("f", "!fail"),
  ("g", "!m\n!o\n!f"),
  ("gi", "!m\n!o\n!f\n!if"),
  ("of", "!o\n!f"),
  ("nes", "ne_some A A"),
  ("ln", "ln_lit u =dk\nLn_app =ln =ln\n!a"),
  ("ne", "!a\nNe.symm =a\nne_some A A\nNe.symm =nes"),
  ("st", "Store.set_self u u u\nStore.set_tr =ne =st\n!ar"),
  ("kp", "!ar\nKeep.refl u u\nKeep.old =kp =sc\nKeep.new =kp =a"),
  ("sl", "SL.nil\nSL.cons =sl"),
  ("na", "NA.here\nKAt.here\nNA.there =na\nKAt.there =na"),
  ("np", "NP.here\nNP.there =np"),
  ("nas", "NPs.nil\nNPs.cons =np =nas"),
  ("bi", "b_len\nb_str\nb_ord\nb_max\nb_min\nb_sum\nb_range\nb_tuple\nb_isinstance\nb_Exception"),
  ("gl", "gwall.\ngis_blank.\ngdigit.\ngdigits_value.\ngbase_of.\ngwhole_of.\ngbool_of.\ngneed_bool.\ngbraced_element.\ngbare_element.\ngfind_element.\ngsplit_list.\ngoperand_fault.\ngoperand.\ngunary.\ngarithmetic.\ngtext_order.\ngorder_of.\ngrelation.\ngbinary.\ngfunction_rows.\ngneed_number.\ngfunction_value.\ngcall_function.\ngno_variable.\ngvar_in.\ngput_value.\ngact.\ngcall_value.\ngleaf_value.\nglogic_value.\ngreckon.\nglaw_rows.\nglaw_deed.\nglaw_run.\nglaw_twice.\nglaw_leaf.\nglaw_many.\nglaw_node.\nglaw_is_choice.\nglaw_choice.\nglaw_around.\nglaw_bit.\nglaw_turned_bin.\nglaw_turned.\nglaw_told.\ngerror.\ngtext_of_numbers.\ngtext_of_host.\ngRaised.\ngNest.\ngPause.\ngVar.\ngHost.\ngSmallHost."),
  ("gk", "cgwall.\ncgis_blank.\ncgdigit.\ncgdigits_value.\ncgbase_of.\ncgwhole_of.\ncgbool_of.\ncgneed_bool.\ncgbraced_element.\ncgbare_element.\ncgfind_element.\ncgsplit_list.\ncgoperand_fault.\ncgoperand.\ncgunary.\ncgarithmetic.\ncgtext_order.\ncgorder_of.\ncgrelation.\ncgbinary.\ncgfunction_rows.\ncgneed_number.\ncgfunction_value.\ncgcall_function.\ncgno_variable.\ncgvar_in.\ncgput_value.\ncgact.\ncgcall_value.\ncgleaf_value.\ncglogic_value.\ncgreckon.\ncglaw_rows.\ncglaw_deed.\ncglaw_run.\ncglaw_twice.\ncglaw_leaf.\ncglaw_many.\ncglaw_node.\ncglaw_is_choice.\ncglaw_choice.\ncglaw_around.\ncglaw_bit.\ncglaw_turned_bin.\ncglaw_turned.\ncglaw_told.\ncgerror.\ncgtext_of_numbers.\ncgtext_of_host.\ncgRaised.\ncgVar.\ncgSmallHost."),
  ("gb", "blenn.\nbstrn.\nbordn.\nbmaxn.\nbminn.\nbsumn.\nbrangen.\nbtuplen.\nbisinstancen.\nbExceptionn."),
  ("ot", "OT.bool"),
  ("ev", "EV.loc A =na\nEV.str\nEV.int\nEV.bool\nEV.non\nEV.tup =el =sr\nEV.slice =ep =ep"),
  ("ep", "EP.non\nEP.som =ev"),
  ("el", "EL.nil\nEL.cons =ev =el =r"),
  ("et", "ET.cmp =ev =ev =op =r\nET.plain =ev =ot =w"),
  ("m", "Sv_assigns =r A =ev =np =w _\nSv_assign =r A =ev =np =w _\nSv_aug =r A =na =ev =op =np _\nSv_rets =r =ev _\nEV.run =r =ev _\nEL.run =r =el _\nET.run =r =et _\nWx_callG =r A A =na =gl =gk =r =el _\nWx_callB =r A A =na =bi =gb =r =el _\nN_loc =a =na _\nWx_str _\nWx_int _\nWl_cons _ =w\nWl_nil _\nWss_one _\nWss_cons _\nk_after _\nk_after_ret _\nWs_return _\nWs_if _\nk_ret _\nWt_Compare _ =w\nN_bi A =a =na =bi =gb _\nN_glob A =a =na =gl _\nWx_CallP =r _\nmth_b1 _\nmth_b0 _\nmth_r1 A =gk _\nmth_r0 A =gk _\ncallee_bi _\ncallee_ty _\ncallee_ref A =gk _\nWx_Tuple _\nsz_and =sr _\nWx_Sub _\nWx_BinOp _\nS_assign =a =na _ =w\nk_set =np _\nS_aug =a =na _\nS_expr =a _ =w\nWx_Compare _ =w\nWx_bool _\nWx_none _\nWss_nil _\nWt_Not _\nWx_UnaryOp _\nWx_IfExp _\nWx_List _\nWt_And _\nWt_Or _\nWa_And_one _\nWa_And_cons _\nWa_Or_one _\nWa_Or_cons _\nWx_Slice _\nslc_ii _\nslc_in _\nslc_ni _\nWp_none _\nWp_some _\nWt_chainK _\nch_int _\nk_ret_next _\nk_after_cont _\nk_loop _\nk_loop_cont _\nk_loop_ret _\nWs_continue _\nWx_Joined _\nWx_Fmt _\nWx_MethodP u =r _ =w\nWx_Attr _ =w\nWs_assign_attr _ =w\nWs_assign_sub _ =w\nWs_aug_attr _\nWt_plain _ =w"),
  ("o", "T_bool _\nO_eqs _\nO_add _\nO_sub _\nO_eq _\nO_lt _\nO_ge _\nO_gt _\nO_isT _\nO_isB _\nO_isI _\nO_isS _\nO_isU _\nO_isNT _\nO_isNU _\nO_is _\nO_isNot _\nO_inT =sl _\nF_len_str =l _\nG_tup =r =er =er =d =d _\nO_iadd _\nO_isub _\nO_ne _\nO_le _\nO_neg _\nO_nes _\nO_lts _\nO_eqb _\nO_neb _\nO_not _\nO_ord =l _\nF_str_int =a _"),
  ("if", "if_true _\nif_false _\nif_true' _\nif_false' _\nif_not _\nif_dec f f\nif_eq f f\nif_ne f f\nif_dec' f f\nif_eq' f f\nif_split f f"),
  ("hm", "hm_tool.\nhm_spend.\nhm_run.\nhm_call.\nhm_place.\nhm_read_var.\nhm_read.\nhm_write_var.\nhm_write.\nhm_put.\nhm_remove.\nhm_begin."),
  ("ht", "ht_tool.\nht_spend.\nht_run.\nht_call.\nht_place.\nht_read_var.\nht_read.\nht_write_var.\nht_write.\nht_put.\nht_remove.\nht_begin."),
  ("hk", "hk_tool.\nhk_spend.\nhk_run.\nhk_call.\nhk_place.\nhk_read_var.\nhk_read.\nhk_write_var.\nhk_write.\nhk_put.\nhk_remove.\nhk_begin."),
  ("lz", "lz_nil x:=0\nlz_host\nlz_var\nlz_set =lz\n!ar"),
  ("lzz", "!ar\nlz_end =lz =d"),
  ("k1", "SG.\nVG."),
  ("kd", "SD.\nVD."),
  ("ks", "SS.\nVS."),
  ("kq", "SP.\nVP."),
  ("h", "A_get A =st =st =er =r =k1 =k =kd _\nA_set A =st =st =lzz =ks =kq =k =kd _\nA_method A =st =st =er =k1 =SG2. =hm =ht _\nO_notInDict =st _\nO_inDict =st _\nO_setDict =st =lzz _\nG_dict =r =st =gx _\nmth_r1 A =hk _\nG_list =r =st =d =gy =d _\nM_append =st _\nF_append =st =sz _\nWs_tuple =eo =a _ =w =w\nif_eqT =r _\nif_eqF =d _\nif_dT =er _\nif_dF =er _\nT_tup2 A =nas _"),
  ("b", "if_eqF =a _\nif_eqT =a _\nif_neT =a _\nif_bT =d _\nif_bF =d _\nif_bF =er _\nif_bT =er _"),
  ("zl", "leSz =l"),
  ("fl", "PyProof.Rows.fit_lower =l"),
  ("zz", "szl A\nszl =lm"),
  ("lm", "lenMap A"),
  ("l62", "lt62 =r"),
  ("cn", "consNe =r"),
  ("cS", "CompS.mk =d =d =r =d =er"),
  ("xk", "XGc.\nXGv.\nXGe.\nXGl."),
  ("pd", "pyl =d"),
  ("l@29", "!ar\nrmK A =r\nrmL A A =r\nrmL0 A A =r\nrm A A =r\nrmM A A =mx =r\nrmY A A =mx =r\nnl0 A\nlo0 A\nhi0 A A\nhi1 A A A\nlt62b A\nle1k A\nfmB A =r\nwk A =r\nwk1 A =r\nwkS A =r\nwkT A =r\nmxA =mx =r\nmxA1 =mx =r\nlgT A A\nrmD A A A =r\nrmE A A A =r\nrmF A A A =r\nrmC A A A A =r\nrmG A A =lg\nrm0 A =lg\n!omega"),
  ("g1", "*g"),
  ("go", "+gi"),
  ("g0", "*g0s"),
  ("g0s", "-Ws_if ; !g"),
  ("g2", "*g2s"),
  ("g2s", "-Ws_if ; -Wx_IfExp ; !g"),
  ("op", "OP.mk =opx"),
  ("opx", "^Q E h ; !of ; *o ; h"),
  ("enc", "~e_num\n~e_text\n~e_cmd0\n~e_cmd1\n~e_varV\n~e_varW\n~e_un\n~enc_bin\n~enc_and\n~enc_or\n~e_ite\n~e_call1\n~e_call2"),
  ("ir", "^ ; !r"),
  ("roA", "roomOk A"),
  ("def0", "D_fn0 A =k =k =dk =ir =roA _ ; !shd"),
  ("def1", "D_fn1 A =k =k =dk =ir =roA _ ; !shd"),
  ("def2", "D_fn2 A =k =k =dk =ir =roA _ ; !shd"),
  ("def3", "D_fn3 A =k =k =dk =ir =roA _ ; !shd"),
  ("def4", "D_fn4 A =k =k =dk =ir =roA _ ; !shd"),
  ("f@10", "whole_of_k A =a =l =a =a _\ntext_order_k A L _\nrelation_k A L _\ntext_of_k A L _\nif_eqF =a _\nif_eqT =a _\nO_mul =a _\nO_and _"),
  ("f@11", "Wx_Dict =r =r =sc =d _\ndw_cons _\ndw_nil _\nwhole_of_k A =a =l =a =a _\nS_raise A =a R1. R2. _\nj_cons _\nj_nil =ln =d _\nj_put =ln =ln =d _\nj_fmt =ln =d _\nex_str _\nif_eqT =r _\nif_eqF =d _\nF_max1 =a =a _\nF_min1 =a =a _\nF_max2 =a =a _\nF_min2 =a =a _\nG_list =r =st =d =er =d _"),
  ("f@12", "whole_of_k A =a =l =a =a _\ntext_of_k A L _\nS_raise A =a R1. R2. _\nif_eqT =r _\nif_eqF =d _\nG_list =r =st =d =er =d _\nM_dget =st _\nF_dget =st _\nF_len_list =st =l62 _\nM_append =st _\nF_append =st =sz1 _\nS_for =a =a _ =r =fr\nitb_list =st _\nforL_nameK =a =st =np _\nif_dT =er _\nif_dF =er _\nWs_tuple =eo =a _ =w =w\nT_tup2 A =nas _\nforL_nil =st _"),
  ("f@13", "A_get A =st =st =er =r =k1 =k =kd _\nA_set A =st =st =lzz =ks =kq =k =kd _\nWs_assign_sub _ =w\nO_setDict =st =lzz _\nO_notInDict =st _\nO_inDict =st _\nG_dict =r =st =gx _"),
  ("f@14", "!h\nS_raise A =a R1. R2. _"),
  ("f@15", "!h\nS_raise A =a R1. R2. _\nO_addz =ln =ln =d _"),
  ("f@16", "!h\nS_for =a =a _ =r =fr\nitb_tup _\nforL_name =a trivial =np _\nforL_nil trivial _\nM_join _"),
  ("f@17", "!h\nS_for =a =a _ =r =fr\nitb_tup _\nforL_name =a trivial =np _\nforL_nil trivial _\nM_join _"),
  ("f@18", "!h\nS_for =a =a _ =r =fr\nitb_tup _\nforL_name =a trivial =np _\nforL_nil trivial _\nO_addz =ln =ln =d _"),
  ("f@19", "!h"),
  ("f@2", "M_excInit RF. A _\nF_excInit A =st =RE. _\nX_set0 A =st =RS. =RM1. =k =RM2. _\nX_set A =st =st =lb =RS. =RM1. =k =RM2. _"),
  ("f@20", "!h\nM_pop =st _\nF_pop =st =a _"),
  ("f@21", "!h\nO_addt =cn =sz1 _"),
  ("f@22", "!h\n!b\nWx_Dict =r =r =sc =d _\ndw_cons _\ndw_nil _\nex_str _\nM_dget =st _\nF_dget2 =st _"),
  ("f@23", "!h\n!b\nWx_And2 _\nex_bool _\nF_tuple =a =sz1 _\nF_len_tup =l62 _\nG_tup_from1 =r =sz1 =lb _\nWx_Comp =cS =eo =a =fr _"),
  ("f@24", "!h\n!b\nX_get C:=84 A =a =a =a =r XG. XG0. R1. =xk RM2. _"),
  ("il@25", "IL.nil\nIL.cons =il"),
  ("f@25", "!h\nO_mod =d _\nO_fdiv =d =pd _\nO_inTi =il _\nWx_And2 _\nWx_Or2 _\nex_bool _\nWx_IDict =r =r =sc =d _\nidw_cons _\nidw_nil _\nex_int _\nM_idget =st _\nF_idget2 =st _"),
  ("lz@26", "lz_nil x:=0\nlz_host9\nlz_host\nlz_var\nlz_set =lz\n!ar"),
  ("f@26", "!h\nWx_Dict0 _\nM_cls f:=469 HC1. HC2. HC3. A _\nmth_r0 A HC4. _\nM_dpop =st _\nF_dpop =st =r _"),
  ("f@27", "!h\n!b\nO_mod =d _\nO_fdiv =d =pd _\nO_pow =d =d _\nF_tuple =a =sz1 _\nO_addt =cn =sz1 _\nO_inTi =il _"),
  ("f@29", "!h\nWx_Dict0 _\nO_mod =d _\nO_fdiv =d =pd _"),
  ("f@3", "is_blank_k A L _\nbase_of_k A L _\ndigit_k A L A _"),
  ("f@4", "is_blank_k A L _\nbase_of_k A L _\nG_str =r =l =l =fo _\nG_slice =r =zl _"),
  ("f@5", "whole_of_k A =a =l =a =a _\nM_lower _\nM_starts _\nF_lower =fl _\nF_starts _\nS_for =a =a _ =r =fr\nitb_tup _\nforL_name =a trivial =np _\nforL_nil trivial _"),
  ("f@6", "bool_of_k A =a =l =a =a _\nO_addz =ln =ln =d _\nS_raise A =a R1. R2. _"),
  ("f@7", "is_blank_k A L _\nG_str =r =l =l =fo _\nM_append =st _\nF_append =st =zz _\nM_join _\nif_eqF =a _\nif_eqT =a _\nS_raise A =a R1. R2. _"),
  ("f@8", "is_blank_k A L _\nG_str =r =l =l =fo _\nM_append =st _\nF_append =st =zz _\nif_eqF =a _\nif_eqT =a _"),
  ("f@9", "whole_of_k A =a =l =a =a _\nbool_of_k A =a =l =a =a _\nO_addz =ln =ln =d _\nS_raise A =a R1. R2. _\nj_cons _\nj_nil =ln =d _\nj_put =ln =ln =d _\nj_fmt =ln =d _\nif_eqF =a _\nif_eqT =a _")]
open Lean in
/-- the tactic of a word «w», said in part «k» -/
def tacOf (k w : String) : MacroM (TSyntax `tactic) :=
  if w.endsWith "." then (let i := mkIdent (w.dropEnd 1).toString.toName; `(tactic| exact $i _))
  else `(tactic| end_is $(Syntax.mkStrLit (w ++ k)):str)
open Lean in
/-- a lemma and a word for each of its places: «_» stays, «u» is found, «A» is assumed, «L» is arithmetic, «x.» is x of a hole, «=t» is shown by t, «n:=5» names a place -/
def lemOf (k x : String) (ws : List String) : MacroM (Array (TSyntax `tactic)) := do
  let mut args : Array Syntax := #[]
  let mut tacs : Array (TSyntax `tactic) := #[]
  for w in ws do
    match w with
    | "_" => args := args.push (← `(?_))
    | "u" => args := args.push (← `(_))
    | "A" => args := args.push (← `(by assumption))
    | "L" => args := args.push (← `(by end_is $(Syntax.mkStrLit ("l" ++ k)):str))
    | "f" => args := args.push (← `(fun hc => ?_))
    | _ =>
      if w.startsWith "=" then
        let i := mkIdent (← Macro.addMacroScope (.mkSimple s!"h{args.size}"))
        args := args.push (← `(?$i:ident))
        let t ← tacOf k (w.drop 1).toString
        tacs := tacs.push (← `(tactic| case $i:ident => $t:tactic))
      else if w.endsWith "." then
        let i := mkIdent (w.dropEnd 1).toString.toName
        args := args.push (← `($i _))
      else match w.splitOn ":=" with
        | [n, v] => args := args.push (← `(Lean.Parser.Term.namedArgument| ($(mkIdent n.toName) := $(Syntax.mkNumLit v))))
        | _ => args := args.push (mkIdent w.toName)
  let f : Term := ⟨Syntax.mkApp (mkIdent x.toName) (args.map fun a => ⟨a⟩)⟩
  return #[← `(tactic| with_reducible refine' $f)] ++ tacs
open Lean in
/-- one step of a row: «!w» a word, «*w», «+w» a word while it goes, «^x y» names, «-x» not where x fits, «~x» rewriting, else a lemma -/
def stepOf (k s : String) : MacroM (Array (TSyntax `tactic)) := do
  let r := (s.drop 1).toString
  match s.front with
  | '!' => return #[← tacOf k r]
  | '*' => return #[← `(tactic| repeat $(← tacOf k r):tactic)]
  | '+' => return #[← `(tactic| repeat' $(← tacOf k r):tactic)]
  | '^' => if r = "" then return #[← `(tactic| intros)] else return #[← `(tactic| intro $[$(((r.splitOn " ").map fun x => (⟨(mkIdent x.toName).raw⟩ : Term)).toArray)]*)]
  | '-' => return #[← `(tactic| fail_if_success (with_reducible refine $(mkIdent r.toName) ?_))]
  | '~' => return #[← `(tactic| rw [$(mkIdent r.toName):ident])]
  | _ => match s.splitOn " " with
    | [x] =>
      let t : Term ← if x.endsWith "." then `($(mkIdent (x.dropEnd 1).toString.toName) _) else pure ⟨(mkIdent x.toName).raw⟩
      return #[← `(tactic| with_reducible exact $t)]
    | x :: ws => lemOf k x ws
    | [] => return #[]
open Lean in
def rowOf (k s : String) : MacroM (TSyntax ``Lean.Parser.Tactic.tacticSeq) := do
  let all := (← (s.splitOn " ; ").mapM (stepOf k)).toArray.flatten
  `(tacticSeq| $all;*)
open Lean in
def rows (k s : String) : MacroM (TSyntax `tactic) := do
  let ts ← ((s.splitOn "\n").filter (· ≠ "")).mapM (rowOf k)
  `(tactic| first $[| $(ts.toArray)]*)
open Lean in
/-- the plain words -/
def plain (w : String) : MacroM (TSyntax `tactic) :=
  match w with
  | "a" => `(tactic| assumption)
  | "ar" => `(tactic| with_reducible assumption)
  | "r" => `(tactic| rfl)
  | "w" => `(tactic| with_unfolding_all rfl)
  | "d" => `(tactic| decide)
  | "dk" => `(tactic| decide +kernel)
  | "lia" => `(tactic| lia)
  | "omega" => `(tactic| omega)
  | "k" => `(tactic| k_is)
  | "fr" => `(tactic| exact fun _ => rfl)
  | "sc" => `(tactic| (simp; done))
  | "fail" => `(tactic| fail)
  | "sh" => `(tactic| simp only [List.map_cons, List.map_nil, List.cons_append, List.nil_append, List.length_cons, List.length_nil, Nat.zero_add, Nat.reduceAdd, Nat.reduceSub, List.replicate, Nat.sub_self])
  | "shd" => `(tactic| dsimp only [List.length_cons, List.length_nil, Nat.zero_add, Nat.reduceAdd, Nat.reduceSub, List.replicate, Nat.sub_self])
  | _ => Macro.throwUnsupported
open Lean in
def words (s : TSyntax `str) : MacroM (TSyntax `tactic) :=
  let (w, k) := match s.getString.splitOn "@" with
    | [w, k] => (w, "@" ++ k)
    | _ => (s.getString, "")
  match tbl.lookup (w ++ k) with
  | some r => rows k r
  | none => match tbl.lookup w with
    | some r => rows k r
    | none => plain w
theorem leSz {n : Nat} (h : n ≤ 100000) : n ≤ sizeLine := Nat.le_trans h (by decide)
theorem lenMap {α β : Type} {f : α → β} {l : List α} {k : Nat} (h : l.length ≤ k) : (l.map f).length ≤ k := by rw [List.length_map]; exact h
theorem consNe {α : Type} {l : List α} (h : l.isEmpty = false) : l ≠ [] := by intro e; rw [e] at h; cases h
theorem lt62 {n : Nat} (h : Nat.ble n 100 = true) : n < 2 ^ 62 := Nat.lt_of_le_of_lt (Nat.le_of_ble_eq_true h) (by decide)
end Mine.Internal
end
section
open PySem PySem.W PyProof.Rows
namespace Mine.Internal
/-- a tree over values that gives v and changes nothing -/
def OP (B : Bs) (c : Cx) (t : List Value → Sem Value) (vs : List V) (σ : Store) (v : V) : Prop := ∀ (Q : V → Store → Prop) (E : Addr → Store → Prop), Q v σ → CW B c t vs σ VR Q E
def OT (B : Bs) (c : Cx) (v : V) (σ : Store) (b : Bool) : Prop := ∀ (Q : Bool → Store → Prop) (E : Addr → Store → Prop), Q b σ → CW B c (op1 truthy) [v] σ REq Q E
def EV (B : Bs) (c : Cx) (env : Env) (N : List (Str × NameKind)) (l : List (Option V)) (σ : Store) (e : Expr) (v : V) : Prop := ∀ (Q : V → Store → Prop) (E : Addr → Store → Prop), Q v σ → Wx B c env e (zs N l) σ Q E
def ET (B : Bs) (c : Cx) (env : Env) (N : List (Str × NameKind)) (l : List (Option V)) (σ : Store) (e : Expr) (b : Bool) : Prop := ∀ (Q : Bool → Store → Prop) (E : Addr → Store → Prop), Q b σ → Wt B c env e (zs N l) σ Q E
def EL (B : Bs) (c : Cx) (env : Env) (N : List (Str × NameKind)) (l : List (Option V)) (σ : Store) (pos : Pos) (es : List Expr) (vs : List V) : Prop := ∀ (Q : List V → Store → Prop) (E : Addr → Store → Prop), Q vs σ → Wl B c env pos es (zs N l) σ Q E
def EP (B : Bs) (c : Cx) (env : Env) (N : List (Str × NameKind)) (l : List (Option V)) (σ : Store) (e : Option Expr) (i : Option Int) : Prop := ∀ (Q : V → Store → Prop) (E : Addr → Store → Prop), Q (i.elim .none .int) σ → WE B c env (evalPart e env) (zs N l) σ VR Q E
noncomputable def isStarE : Expr → Bool
  | .Starred .. => true
  | _ => false
theorem star_ok {e : Expr} {r : List Expr} {env : Env} (h : isStarE e = false) : starEach (e :: r) env = (false, eval e env) :: starEach r env := by
  cases e <;> first | rfl | cases h
noncomputable def noStars : List Expr → Bool
  | [] => true
  | e :: r => !isStarE e && noStars r
theorem stars_ok {env : Env} {pos : Pos} : ∀ {r : List Expr}, noStars r = true → (backTo pos (starEach r env)).any (·.1) = false
  | [], _ => rfl
  | e :: r, h => by
    unfold noStars at h
    rw [Bool.and_eq_true, Bool.not_eq_true'] at h
    rw [star_ok h.1]
    exact stars_ok (r := r) h.2
theorem plain_ok {env : Env} {pos : Pos} {args : List Expr} (h : noStars args = true) : PlainArgs env pos args := by
  intro e r q
  subst q
  unfold noStars at h
  rw [Bool.and_eq_true, Bool.not_eq_true'] at h
  exact ⟨star_ok h.1, stars_ok h.2⟩
/-- nothing is called or made -/
noncomputable def pureE : Nat → Expr → Bool
  | n + 1, e => match e with
    | .Constant .. => true
    | .Name .. => true
    | .Tuple l _ _ => l.all (pureE n)
    | .BinOp a _ b _ => pureE n a && pureE n b
    | .UnaryOp _ a _ => pureE n a
    | .Compare a _ l _ => pureE n a && l.all (pureE n)
    | .Subscript a b _ => pureE n a && pureE n b
    | .Slice a b _ _ => a.all (pureE n) && b.all (pureE n)
    | .Attribute a _ _ => pureE n a
    | _ => false
  | 0, _ => false
section
variable {B : Bs} {c : Cx} {env : Env} {N : List (Str × NameKind)} {l : List (Option V)} {σ : Store}
theorem OP.mk {t : List Value → Sem Value} {vs : List V} {v : V} (h : ∀ (Q : V → Store → Prop) (E : Addr → Store → Prop), Q v σ → CW B c t vs σ VR Q E) : OP B c t vs σ v := h
theorem EV.loc {x : Str} {pos : Pos} {v : V} (F : EnvS c env N) (a : NA N l x v) : EV B c env N l σ (.Name x pos) v := fun _ _ h => N_loc F a h
theorem EV.str {x : Str} {k pos} : EV B c env N l σ (.Constant (.str x) k pos) (.str x) := fun _ _ h => Wx_str h
theorem EV.int {x : Int} {k pos} : EV B c env N l σ (.Constant (.int x) k pos) (.int x) := fun _ _ h => Wx_int h
theorem EV.bool {x : Bool} {k pos} : EV B c env N l σ (.Constant (.bool x) k pos) (.bool x) := fun _ _ h => Wx_bool h
theorem EV.non {k pos} : EV B c env N l σ (.Constant .none k pos) .none := fun _ _ h => Wx_none h
theorem EL.nil {pos : Pos} : EL B c env N l σ pos [] [] := fun _ _ h => Wl_nil h
theorem EL.cons {pos : Pos} {e : Expr} {r : List Expr} {v : V} {vs : List V} (a : EV B c env N l σ e v) (b : EL B c env N l σ pos r vs) (he : isStarE e = false) : EL B c env N l σ pos (e :: r) (v :: vs) :=
  fun _ _ h => Wl_cons (a _ _ (b _ _ h)) (star_ok he)
theorem EV.tup {elts : List Expr} {k : Nat} {pos : Pos} {vs : List V} (a : EL B c env N l σ pos elts vs) (z : vs.length ≤ sizeLine) : EV B c env N l σ (.Tuple elts k pos) (.tup vs) := fun _ _ h => Wx_Tuple (a _ _ ⟨z, h⟩)
theorem EP.non : EP B c env N l σ Option.none Option.none := fun _ _ h => Wp_none h
theorem EP.som {e : Expr} {i : Int} (a : EV B c env N l σ e (.int i)) : EP B c env N l σ (Option.some e) (Option.some i) := fun _ _ h => Wp_some (a _ _ h)
theorem EV.slice {lo up : Option Expr} {pos : Pos} {i j : Option Int} (a : EP B c env N l σ lo i) (b : EP B c env N l σ up j) : EV B c env N l σ (.Slice lo up Option.none pos) (.slice i j) := fun _ _ h => Wx_Slice (a _ _ (b _ _ ⟨i, j, rfl, rfl, h⟩))
theorem ET.cmp {x y : Expr} {op : CmpOp} {pos : Pos} {u v : V} {b : Bool} (a1 : EV B c env N l σ x u) (a2 : EV B c env N l σ y v) (o : OP B c (op2 (compareOp op)) [u, v] σ (.bool b)) (hm : behindInMarks op y = false) : ET B c env N l σ (.Compare x [op] [y] pos) b := fun _ _ h => Wt_Compare (a1 _ _ (a2 _ _ (o _ _ (T_bool h)))) hm
theorem ET.plain {e : Expr} {v : V} {b : Bool} (a : EV B c env N l σ e v) (o : OT B c v σ b) (he : isTrue e env (eval e env) = (do let v ← eval e env; standAt e.pos; holding [v] (truthy v))) : ET B c env N l σ e b := fun _ _ h => Wt_plain (a _ _ (o _ _ h)) he
theorem OT.bool {b : Bool} : OT B c (.bool b) σ b := fun _ _ h => T_bool h
theorem EV.run {e : Expr} {v : V} {Q : V → Store → Prop} {E : Addr → Store → Prop} (hp : pureE 9 e = true) (a : EV B c env N l σ e v) (h : Q v σ) : Wx B c env e (zs N l) σ Q E := a _ _ h
theorem EL.run {pos : Pos} {e : List Expr} {v : List V} {Q : List V → Store → Prop} {E : Addr → Store → Prop} (hp : e.all (pureE 9) = true) (a : EL B c env N l σ pos e v) (h : Q v σ) : Wl B c env pos e (zs N l) σ Q E := a _ _ h
theorem ET.run {e : Expr} {v : Bool} {Q : Bool → Store → Prop} {E : Addr → Store → Prop} (hp : pureE 9 e = true) (a : ET B c env N l σ e v) (h : Q v σ) : Wt B c env e (zs N l) σ Q E := a _ _ h
theorem Wx_callG {K : Frag} {x : Str} {a : Addr} {np pos : Pos} {args : List Expr} {vs : List V} {Q : V → Store → Prop} {E : Addr → Store → Prop} (hpe : args.all (pureE 9) = true) (hK : B.K = K) (F : EnvS c env N) (k : KAt N x .globalImplicit) (e : nsIn K mainGlobals x = some (some (.ref a))) (ck : keepIn K (.ref a) = true) (hp : noStars args = true) (ha : EL B c env N l σ pos args vs) (o : CW B c (callF (.ref a)) vs σ VR Q E) :
    Wx B c env (.Call (.Name x np) args [] pos) (zs N l) σ Q E := Wx_Call (plain_ok hp) (N_glob hK F k e (callee_ref hK ck (ha _ _ o)))
theorem Wx_callB {K : Frag} {x : Str} {f : V} {np pos : Pos} {args : List Expr} {vs : List V} {Q : V → Store → Prop} {E : Addr → Store → Prop} (hpe : args.all (pureE 9) = true) (hK : B.K = K) (F : EnvS c env N) (k : KAt N x .globalImplicit) (i : IsBi x f) (e : nsIn K mainGlobals x = some none) (hp : noStars args = true) (ha : EL B c env N l σ pos args vs) (o : CW B c (callF f) vs σ VR Q E) :
    Wx B c env (.Call (.Name x np) args [] pos) (zs N l) σ Q E := Wx_Call (plain_ok hp) (N_bi hK F k i e ⟨by cases i <;> trivial, ha _ _ o⟩)
end
section
variable {B : Bs} {c : Cx} {env : Env} {N : List (Str × NameKind)} {l : List (Option V)} {σ : Store} {Q : Fl → Loc → Store → Prop} {E : Addr → Loc → Store → Prop}
theorem Sv_assign {x : Str} {value : Expr} {pos' pos : Pos} {v : V} {l' : List (Option V)} (hpe : pureE 9 value = true) (F : EnvS c env N) (a : EV B c env N l σ value v) (p : NP N l x v l') (hsw : swapsWith value (some (.Name x pos')) pos.line env = pure false) (h : Q .next (zs N l') σ) : Ws B c env (.Assign [.Name x pos'] value pos) (zs N l) σ Q E := S_assign F p.kat (a _ _ ⟨_, p, h⟩) hsw
theorem Sv_assigns {x : Str} {value : Expr} {pos' pos : Pos} {v : V} {l' : List (Option V)} {rest : List Stmt} (hpe : pureE 9 value = true) (F : EnvS c env N) (a : EV B c env N l σ value v) (p : NP N l x v l') (hsw : swapsWith value (some (.Name x pos')) pos.line env = pure false) (h : Wss B c env rest (zs N l') σ Q E) : Wss B c env (.Assign [.Name x pos'] value pos :: rest) (zs N l) σ Q E := Wss_cons (Sv_assign hpe F a p hsw h)
theorem Sv_aug {x : Str} {value : Expr} {op : Operator} {pos' pos : Pos} {v u r : V} {l' : List (Option V)} (hpe : pureE 9 value = true) (F : EnvS c env N) (a : NA N l x v) (b : EV B c env N l σ value u) (o : OP B c (op2 (inplaceOp op)) [v, u] σ r) (p : NP N l x r l') (h : Q .next (zs N l') σ) : Ws B c env (.AugAssign (.Name x pos') op value pos) (zs N l) σ Q E := S_aug F a (b _ _ (o _ _ ⟨_, p, h⟩))
theorem Sv_rets {e : Expr} {pos : Pos} {v : V} {rest : List Stmt} (hpe : pureE 9 e = true) (a : EV B c env N l σ e v) (h : Q (.ret v) (zs N l) σ) : Wss B c env (.Return (some e) pos :: rest) (zs N l) σ Q E := Wss_cons (Ws_return (a _ _ h))
end
section
variable {B : Bs} {c : Cx} {env : Env} {ρ : Loc} {σ : Store} {Q : V → Store → Prop} {E : Addr → Store → Prop}
theorem Wx_CallP {x : Str} {np pos : Pos} {args : List Expr} (hp : noStars args = true) (h : Wx B c env (.Name x np) ρ σ (KC B c env pos args ρ Q E) E) : Wx B c env (.Call (.Name x np) args [] pos) ρ σ Q E := Wx_Call (plain_ok hp) h
theorem Wx_MethodP {o : Expr} {name : Str} {apos pos : Pos} {args : List Expr} (pl : Sem Bool) (hp : noStars args = true) (h : Wx B c env o ρ σ (K1 B c (fun x => getMethod x name pl) RM (KM1 B c env pos args ρ Q E) E) E)
    (he : eval (.Call (.Attribute o name apos) args [] pos) env = (do let ov ← eval o env; standAt apos.atName; let (f, first) ← holding [ov] (getMethod ov name pl); callWith pos f first (backTo pos (starEach args env)) [])) : Wx B c env (.Call (.Attribute o name apos) args [] pos) ρ σ Q E := Wx_Method pl (plain_ok hp) h he
theorem T_tup2 {N : List (Str × NameKind)} {l l' : List (Option V)} {x y : Str} {p q pos : Pos} {k : Nat} {u v : V} {P : Loc → Prop} (F : EnvS c env N) (a : NPs N l [x, y] [u, v] l') (h : P (zs N l')) : ∃ ρ', TGT env (.Tuple [.Name x p, .Name y q] k pos) (.tup [u, v]) (zs N l) ρ' ∧ P ρ' := T_tup F (.name (.name .nil)) a rfl rfl h
theorem rmG {c c' : Cx} {n m : Nat} (h : c'.dep = c.dep + 1) (hr : c.dep + n ≤ 990) (k : m + 1 ≤ n) : c'.dep + m ≤ 990 := by
  rw [h, Nat.add_assoc, Nat.add_comm 1 m]
  exact Nat.le_trans (Nat.add_le_add_left k _) hr
theorem rm {c c' : Cx} {n m : Nat} (h : c'.dep = c.dep + 1) (hr : c.dep + n ≤ 990) (k : Nat.ble (m + 1) n = true) : c'.dep + m ≤ 990 := rmG h hr (Nat.le_of_ble_eq_true k)
theorem mxl {y a b : Nat} (h : y ≤ a) : y ≤ max a b := Nat.le_trans h (Nat.le_max_left a b)
theorem mxr {y a b : Nat} (h : y ≤ b) : y ≤ max a b := Nat.le_trans h (Nat.le_max_right a b)
theorem mxA {x m n M : Nat} (hx : x ≤ M) (r : Nat.ble m n = true) : x + m ≤ M + n := Nat.add_le_add hx (Nat.le_of_ble_eq_true r)
theorem rmM {c c' : Cx} {n y j m : Nat} (h : c'.dep = c.dep + 1) (hr : c.dep + (n + j) ≤ 990) (hy : y ≤ n) (k : Nat.ble (m + 1) j = true) : c'.dep + (y + m) ≤ 990 := rmG h hr (mxA (m := m + 1) hy k)
theorem rmY {c c' : Cx} {n y j : Nat} (h : c'.dep = c.dep + 1) (hr : c.dep + (n + j) ≤ 990) (hy : y ≤ n) (k : Nat.ble 1 j = true) : c'.dep + y ≤ 990 := rmG h hr (mxA (m := 1) hy k)
theorem rmK {c' : Cx} {n m : Nat} (h : c'.dep = n) (r : Nat.ble (n + m) 990 = true) : c'.dep + m ≤ 990 := by rw [h]; exact Nat.le_of_ble_eq_true r
theorem scan1 {L f : Int} {n : Nat} (hc : f < L) (hn : n = (L - f).toNat) : ∃ m, n = m + 1 ∧ m = (L - (f + 1)).toNat := ⟨_, by lia, rfl⟩
theorem scan2 {b f : Int} {n : Nat} (hc : f < b) (hn : n = (b - f).toNat) : ∃ m, n = m + 1 ∧ m = (b - 1 - f).toNat := ⟨_, by lia, rfl⟩
theorem scan3 {L f : Int} {n : Nat} (hc : f < L) (hn : n = (L - f).toNat) : n - 1 < n ∧ n - 1 = (L - (f + 1)).toNat := by
  obtain ⟨m, rfl, h⟩ := scan1 hc hn
  exact ⟨Nat.lt_succ_self m, h⟩
theorem nl0 {n : Nat} {j : Int} (h : 0 ≤ j) : -(n : Int) ≤ j := Int.le_trans (Int.neg_nonpos_of_nonneg (Int.natCast_nonneg n)) h
theorem lo0 {j : Int} (h : 0 ≤ j) : -100001 ≤ j := Int.le_trans (by decide) h
theorem hi0 {n : Nat} {j : Int} (h : j ≤ n) (hn : n ≤ 100000) : j ≤ 100001 := Int.le_trans h (Int.le_trans (Int.ofNat_le.mpr hn) (by decide))
theorem hi1 {n : Nat} {g j : Int} (h' : g ≤ j) (h : j ≤ n) (hn : n ≤ 100000) : g ≤ 100001 := Int.le_trans h' (hi0 h hn)
theorem lt62b {n : Nat} (h : n ≤ 100000) : n < 2 ^ 62 := Nat.lt_of_le_of_lt h (by decide)
theorem le1k {n : Nat} (h : n ≤ 1000) : n ≤ 100000 := Nat.le_trans h (by decide)
theorem fmB {x n M : Int} (h : 0 ≤ x ∧ x < n) (r : decide (n ≤ M) = true) : x < M := Int.lt_of_lt_of_le h.2 (of_decide_eq_true r)
theorem wk {x m n k : Nat} (h : x + n ≤ k) (r : Nat.ble m n = true) : x + m ≤ k := Nat.le_trans (Nat.add_le_add_left (Nat.le_of_ble_eq_true r) x) h
theorem wk1 {x m n k : Nat} (h : x + n ≤ k + 1) (r : Nat.ble (m + 1) n = true) : x + m ≤ k := Nat.le_of_succ_le_succ (wk (m := m + 1) h r)
theorem wkM {x m n k y : Nat} (h : x + n ≤ k + 1) (hx : y ≤ x) (r : Nat.ble (m + 1) n = true) : y + m ≤ k := Nat.le_trans (Nat.add_le_add_right hx m) (wk1 h r)
theorem wkS {x m n k p : Nat} (h : x + n ≤ k) (r : Nat.ble (m + p) n = true) : x + m ≤ k - p := Nat.le_sub_of_add_le (by rw [Nat.add_assoc]; exact wk h r)
theorem wkT {x m n k p q : Nat} (h : x + n ≤ k) (r : Nat.ble (m + q + p) n = true) : x + m ≤ k - p - q := Nat.le_sub_of_add_le (by rw [Nat.add_assoc]; exact wkS h r)
theorem mxA0 {x n M : Nat} (hx : x ≤ M) : x ≤ M + n := Nat.le_trans hx (Nat.le_add_right M n)
theorem mxA1 {x n M : Nat} (hx : x ≤ M) (r : Nat.ble 1 n = true) : x ≤ M + n - 1 := Nat.le_sub_of_add_le (mxA (m := 1) hx r)
theorem subOne {k : Nat} (h : 1 ≤ k) : k - 1 + 1 ≤ k := Nat.le_of_eq (Nat.sub_add_cancel h)
theorem subOn5 {k : Nat} (h : 15 ≤ k) : k - 1 + 1 ≤ k := subOne (Nat.le_trans (Nat.le_of_ble_eq_true rfl) h)
theorem rm0 {d n m : Nat} (hr : d + n ≤ 990) (k : m ≤ n) : d + m ≤ 990 := Nat.le_trans (Nat.add_le_add_left k d) hr
theorem rmC {c c' : Cx} {k x m : Nat} (h : c'.dep = c.dep + 1) (hr : c.dep + k ≤ 990) (hk : x ≤ k + 1) (hb : 15 ≤ x) (r : Nat.ble m 13 = true) : c'.dep + m ≤ 990 :=
  rmG h hr (Nat.le_of_succ_le_succ (Nat.le_trans (Nat.succ_le_succ (Nat.succ_le_succ (Nat.le_of_ble_eq_true r))) (Nat.le_trans hb hk)))
theorem rmD {c c' : Cx} {x m : Nat} (h : c'.dep = c.dep + 1) (hr : c.dep + x ≤ 990) (hb : 15 ≤ x) (r : Nat.ble m 14 = true) : c'.dep + m ≤ 990 := rmG h hr (Nat.le_trans (Nat.succ_le_succ (Nat.le_of_ble_eq_true r)) hb)
theorem rmE {c c' : Cx} {x j m : Nat} (h : c'.dep = c.dep + 1) (hr : c.dep + (x + j) ≤ 990) (hb : 15 ≤ x) (r : Nat.ble m 14 = true) : c'.dep + m ≤ 990 := rmD h (rm0 hr (Nat.le_add_right x j)) hb r
theorem rmF {c c' : Cx} {x y j m : Nat} (h : c'.dep = c.dep + 1) (hr : c.dep + (max x y + j) ≤ 990) (hb : 15 ≤ x) (r : Nat.ble m 14 = true) : c'.dep + m ≤ 990 := rmE h hr (Nat.le_trans hb (Nat.le_max_left x y)) r
theorem lgT {l x y k : Nat} (h : l + x ≤ k) (hb : y ≤ x) : l + y ≤ k := Nat.le_trans (Nat.add_le_add_left hb l) h
theorem p63 {p : Nat} (h : p < 25) : (p : Int) < 2 ^ 63 := Int.lt_trans (Int.ofNat_lt.mpr h) (by decide)
theorem sz100 {n : Nat} (h : Nat.ble n 100 = true) : n ≤ sizeLine := Nat.le_trans (Nat.le_of_ble_eq_true h) (by decide)
theorem Store.set_tr {σ : Store} {a b : Addr} {cc : Cell} {r : Option Cell} (n : b ≠ a) (h : σ b = r) : (σ.set a cc) b = r := (Store.set_ne σ cc n).trans h
variable {K : Frag} {f : Addr} {name qual : Str} {params : Arguments} {body : List Stmt} {sc : Scope} {dV kV doc pm cdv ct oc : Value} {an od : Option Addr} {osl : Array (Option Value)}
theorem D_fn0 (hK : B.K = K) (ho : K.lookup f = some ⟨oc, od, .func (fnOf name qual params body sc dV kV doc pm an cdv ct), osl⟩) (hcd : codeIn K cdv qual = true) (hck : checkS sc 0 = true)
    (hb : bindArgs (fnOf name qual params body sc dV kV doc pm an cdv ct) ⟨[], []⟩ = pure (((sc.names.take 0).map (·.1)).zip ([] ++ []))) (hroom : c.dep < recursionLimit)
    (h : ∀ env c', EnvS c' env sc.names → c'.hd = c.hd → c'.dep = c.dep + 1 → c'.un = c.un + 3 → Wss B c' env body (zs sc.names (List.replicate sc.names.length none)) σ (retK Q) (fun a _ σ' => E a σ')) :
    CW B c (callF (.ref f)) [] σ VR Q E := D_def hK ho hcd hck (D_bind (bnd0 hb)) rfl hroom h
theorem D_fn1 {u : V} (hK : B.K = K) (ho : K.lookup f = some ⟨oc, od, .func (fnOf name qual params body sc dV kV doc pm an cdv ct), osl⟩) (hcd : codeIn K cdv qual = true) (hck : checkS sc 1 = true)
    (hb : ∀ a, bindArgs (fnOf name qual params body sc dV kV doc pm an cdv ct) ⟨[a], []⟩ = pure (((sc.names.take 1).map (·.1)).zip ([a] ++ []))) (hroom : c.dep < recursionLimit)
    (h : ∀ env c', EnvS c' env sc.names → c'.hd = c.hd → c'.dep = c.dep + 1 → c'.un = c.un + 3 → Wss B c' env body (zs sc.names (some u :: List.replicate (sc.names.length - 1) none)) σ (retK Q) (fun a _ σ' => E a σ')) :
    CW B c (callF (.ref f)) [u] σ VR Q E := D_def hK ho hcd hck (D_bind (bnd1 hb)) rfl hroom h
theorem D_fn2 {u v : V} (hK : B.K = K) (ho : K.lookup f = some ⟨oc, od, .func (fnOf name qual params body sc dV kV doc pm an cdv ct), osl⟩) (hcd : codeIn K cdv qual = true) (hck : checkS sc 2 = true)
    (hb : ∀ a b, bindArgs (fnOf name qual params body sc dV kV doc pm an cdv ct) ⟨[a, b], []⟩ = pure (((sc.names.take 2).map (·.1)).zip ([a, b] ++ []))) (hroom : c.dep < recursionLimit)
    (h : ∀ env c', EnvS c' env sc.names → c'.hd = c.hd → c'.dep = c.dep + 1 → c'.un = c.un + 3 → Wss B c' env body (zs sc.names (some u :: some v :: List.replicate (sc.names.length - 2) none)) σ (retK Q) (fun a _ σ' => E a σ')) :
    CW B c (callF (.ref f)) [u, v] σ VR Q E := D_def hK ho hcd hck (D_bind (bnd2 hb)) rfl hroom h
theorem D_fn3 {u v w : V} (hK : B.K = K) (ho : K.lookup f = some ⟨oc, od, .func (fnOf name qual params body sc dV kV doc pm an cdv ct), osl⟩) (hcd : codeIn K cdv qual = true) (hck : checkS sc 3 = true)
    (hb : ∀ a b d, bindArgs (fnOf name qual params body sc dV kV doc pm an cdv ct) ⟨[a, b, d], []⟩ = pure (((sc.names.take 3).map (·.1)).zip ([a, b, d] ++ []))) (hroom : c.dep < recursionLimit)
    (h : ∀ env c', EnvS c' env sc.names → c'.hd = c.hd → c'.dep = c.dep + 1 → c'.un = c.un + 3 → Wss B c' env body (zs sc.names (some u :: some v :: some w :: List.replicate (sc.names.length - 3) none)) σ (retK Q) (fun a _ σ' => E a σ')) :
    CW B c (callF (.ref f)) [u, v, w] σ VR Q E := D_def hK ho hcd hck (D_bind (bnd3 hb)) rfl hroom h
theorem D_fn4 {u v w x : V} (hK : B.K = K) (ho : K.lookup f = some ⟨oc, od, .func (fnOf name qual params body sc dV kV doc pm an cdv ct), osl⟩) (hcd : codeIn K cdv qual = true) (hck : checkS sc 4 = true)
    (hb : ∀ a b d e, bindArgs (fnOf name qual params body sc dV kV doc pm an cdv ct) ⟨[a, b, d, e], []⟩ = pure (((sc.names.take 4).map (·.1)).zip ([a, b, d, e] ++ []))) (hroom : c.dep < recursionLimit)
    (h : ∀ env c', EnvS c' env sc.names → c'.hd = c.hd → c'.dep = c.dep + 1 → c'.un = c.un + 3 → Wss B c' env body (zs sc.names (some u :: some v :: some w :: some x :: List.replicate (sc.names.length - 4) none)) σ (retK Q) (fun a _ σ' => E a σ')) :
    CW B c (callF (.ref f)) [u, v, w, x] σ VR Q E := D_def hK ho hcd hck (D_bind (bnd4 hb)) rfl hroom h
end
end Mine.Internal
end
namespace Mine.Internal
set_option maxHeartbeats 2000000
set_option maxRecDepth 100000
theorem filled : hd.heap_1 = hd.heap_1 ∧ PySem.Challenge.rw_oj0077_01 = PySem.Challenge.rw_oj0077_01 := by k_fill; exact ⟨rfl, rfl⟩
theorem gwall (w : World) : nsIn (hd.heap_1 w.params) mainGlobals "_wall" = some (some (.ref 21)) := by k_is
theorem cgwall (w : World) : keepIn (hd.heap_1 w.params) (.ref 21) = true := by k_is
theorem gis_blank (w : World) : nsIn (hd.heap_1 w.params) mainGlobals "is_blank" = some (some (.ref 174)) := by k_is
theorem cgis_blank (w : World) : keepIn (hd.heap_1 w.params) (.ref 174) = true := by k_is
theorem gdigit (w : World) : nsIn (hd.heap_1 w.params) mainGlobals "digit" = some (some (.ref 181)) := by k_is
theorem cgdigit (w : World) : keepIn (hd.heap_1 w.params) (.ref 181) = true := by k_is
theorem gdigits_value (w : World) : nsIn (hd.heap_1 w.params) mainGlobals "digits_value" = some (some (.ref 188)) := by k_is
theorem cgdigits_value (w : World) : keepIn (hd.heap_1 w.params) (.ref 188) = true := by k_is
theorem gbase_of (w : World) : nsIn (hd.heap_1 w.params) mainGlobals "base_of" = some (some (.ref 195)) := by k_is
theorem cgbase_of (w : World) : keepIn (hd.heap_1 w.params) (.ref 195) = true := by k_is
theorem gwhole_of (w : World) : nsIn (hd.heap_1 w.params) mainGlobals "whole_of" = some (some (.ref 202)) := by k_is
theorem cgwhole_of (w : World) : keepIn (hd.heap_1 w.params) (.ref 202) = true := by k_is
theorem gbool_of (w : World) : nsIn (hd.heap_1 w.params) mainGlobals "bool_of" = some (some (.ref 209)) := by k_is
theorem cgbool_of (w : World) : keepIn (hd.heap_1 w.params) (.ref 209) = true := by k_is
theorem gneed_bool (w : World) : nsIn (hd.heap_1 w.params) mainGlobals "need_bool" = some (some (.ref 216)) := by k_is
theorem cgneed_bool (w : World) : keepIn (hd.heap_1 w.params) (.ref 216) = true := by k_is
theorem gbraced_element (w : World) : nsIn (hd.heap_1 w.params) mainGlobals "braced_element" = some (some (.ref 265)) := by k_is
theorem cgbraced_element (w : World) : keepIn (hd.heap_1 w.params) (.ref 265) = true := by k_is
theorem gbare_element (w : World) : nsIn (hd.heap_1 w.params) mainGlobals "bare_element" = some (some (.ref 279)) := by k_is
theorem cgbare_element (w : World) : keepIn (hd.heap_1 w.params) (.ref 279) = true := by k_is
theorem gfind_element (w : World) : nsIn (hd.heap_1 w.params) mainGlobals "find_element" = some (some (.ref 286)) := by k_is
theorem cgfind_element (w : World) : keepIn (hd.heap_1 w.params) (.ref 286) = true := by k_is
theorem gsplit_list (w : World) : nsIn (hd.heap_1 w.params) mainGlobals "split_list" = some (some (.ref 293)) := by k_is
theorem cgsplit_list (w : World) : keepIn (hd.heap_1 w.params) (.ref 293) = true := by k_is
theorem goperand_fault (w : World) : nsIn (hd.heap_1 w.params) mainGlobals "operand_fault" = some (some (.ref 300)) := by k_is
theorem cgoperand_fault (w : World) : keepIn (hd.heap_1 w.params) (.ref 300) = true := by k_is
theorem goperand (w : World) : nsIn (hd.heap_1 w.params) mainGlobals "operand" = some (some (.ref 307)) := by k_is
theorem cgoperand (w : World) : keepIn (hd.heap_1 w.params) (.ref 307) = true := by k_is
theorem gunary (w : World) : nsIn (hd.heap_1 w.params) mainGlobals "unary" = some (some (.ref 314)) := by k_is
theorem cgunary (w : World) : keepIn (hd.heap_1 w.params) (.ref 314) = true := by k_is
theorem garithmetic (w : World) : nsIn (hd.heap_1 w.params) mainGlobals "arithmetic" = some (some (.ref 356)) := by k_is
theorem cgarithmetic (w : World) : keepIn (hd.heap_1 w.params) (.ref 356) = true := by k_is
theorem gtext_order (w : World) : nsIn (hd.heap_1 w.params) mainGlobals "text_order" = some (some (.ref 363)) := by k_is
theorem cgtext_order (w : World) : keepIn (hd.heap_1 w.params) (.ref 363) = true := by k_is
theorem gorder_of (w : World) : nsIn (hd.heap_1 w.params) mainGlobals "order_of" = some (some (.ref 370)) := by k_is
theorem cgorder_of (w : World) : keepIn (hd.heap_1 w.params) (.ref 370) = true := by k_is
theorem grelation (w : World) : nsIn (hd.heap_1 w.params) mainGlobals "relation" = some (some (.ref 377)) := by k_is
theorem cgrelation (w : World) : keepIn (hd.heap_1 w.params) (.ref 377) = true := by k_is
theorem gbinary (w : World) : nsIn (hd.heap_1 w.params) mainGlobals "binary" = some (some (.ref 384)) := by k_is
theorem cgbinary (w : World) : keepIn (hd.heap_1 w.params) (.ref 384) = true := by k_is
theorem gfunction_rows (w : World) : nsIn (hd.heap_1 w.params) mainGlobals "function_rows" = some (some (.ref 391)) := by k_is
theorem cgfunction_rows (w : World) : keepIn (hd.heap_1 w.params) (.ref 391) = true := by k_is
theorem gneed_number (w : World) : nsIn (hd.heap_1 w.params) mainGlobals "need_number" = some (some (.ref 398)) := by k_is
theorem cgneed_number (w : World) : keepIn (hd.heap_1 w.params) (.ref 398) = true := by k_is
theorem gfunction_value (w : World) : nsIn (hd.heap_1 w.params) mainGlobals "function_value" = some (some (.ref 412)) := by k_is
theorem cgfunction_value (w : World) : keepIn (hd.heap_1 w.params) (.ref 412) = true := by k_is
theorem gcall_function (w : World) : nsIn (hd.heap_1 w.params) mainGlobals "call_function" = some (some (.ref 426)) := by k_is
theorem cgcall_function (w : World) : keepIn (hd.heap_1 w.params) (.ref 426) = true := by k_is
theorem gno_variable (w : World) : nsIn (hd.heap_1 w.params) mainGlobals "no_variable" = some (some (.ref 546)) := by k_is
theorem cgno_variable (w : World) : keepIn (hd.heap_1 w.params) (.ref 546) = true := by k_is
theorem gvar_in (w : World) : nsIn (hd.heap_1 w.params) mainGlobals "var_in" = some (some (.ref 553)) := by k_is
theorem cgvar_in (w : World) : keepIn (hd.heap_1 w.params) (.ref 553) = true := by k_is
theorem gput_value (w : World) : nsIn (hd.heap_1 w.params) mainGlobals "put_value" = some (some (.ref 560)) := by k_is
theorem cgput_value (w : World) : keepIn (hd.heap_1 w.params) (.ref 560) = true := by k_is
theorem gact (w : World) : nsIn (hd.heap_1 w.params) mainGlobals "act" = some (some (.ref 574)) := by k_is
theorem cgact (w : World) : keepIn (hd.heap_1 w.params) (.ref 574) = true := by k_is
theorem gcall_value (w : World) : nsIn (hd.heap_1 w.params) mainGlobals "call_value" = some (some (.ref 700)) := by k_is
theorem cgcall_value (w : World) : keepIn (hd.heap_1 w.params) (.ref 700) = true := by k_is
theorem gleaf_value (w : World) : nsIn (hd.heap_1 w.params) mainGlobals "leaf_value" = some (some (.ref 707)) := by k_is
theorem cgleaf_value (w : World) : keepIn (hd.heap_1 w.params) (.ref 707) = true := by k_is
theorem glogic_value (w : World) : nsIn (hd.heap_1 w.params) mainGlobals "logic_value" = some (some (.ref 714)) := by k_is
theorem cglogic_value (w : World) : keepIn (hd.heap_1 w.params) (.ref 714) = true := by k_is
theorem greckon (w : World) : nsIn (hd.heap_1 w.params) mainGlobals "reckon" = some (some (.ref 721)) := by k_is
theorem cgreckon (w : World) : keepIn (hd.heap_1 w.params) (.ref 721) = true := by k_is
theorem glaw_rows (w : World) : nsIn (hd.heap_1 w.params) mainGlobals "_law_rows" = some (some (.ref 728)) := by k_is
theorem cglaw_rows (w : World) : keepIn (hd.heap_1 w.params) (.ref 728) = true := by k_is
theorem glaw_deed (w : World) : nsIn (hd.heap_1 w.params) mainGlobals "_law_deed" = some (some (.ref 735)) := by k_is
theorem cglaw_deed (w : World) : keepIn (hd.heap_1 w.params) (.ref 735) = true := by k_is
theorem glaw_run (w : World) : nsIn (hd.heap_1 w.params) mainGlobals "_law_run" = some (some (.ref 742)) := by k_is
theorem cglaw_run (w : World) : keepIn (hd.heap_1 w.params) (.ref 742) = true := by k_is
theorem glaw_twice (w : World) : nsIn (hd.heap_1 w.params) mainGlobals "_law_twice" = some (some (.ref 749)) := by k_is
theorem cglaw_twice (w : World) : keepIn (hd.heap_1 w.params) (.ref 749) = true := by k_is
theorem glaw_leaf (w : World) : nsIn (hd.heap_1 w.params) mainGlobals "_law_leaf" = some (some (.ref 756)) := by k_is
theorem cglaw_leaf (w : World) : keepIn (hd.heap_1 w.params) (.ref 756) = true := by k_is
theorem glaw_many (w : World) : nsIn (hd.heap_1 w.params) mainGlobals "_law_many" = some (some (.ref 763)) := by k_is
theorem cglaw_many (w : World) : keepIn (hd.heap_1 w.params) (.ref 763) = true := by k_is
theorem glaw_node (w : World) : nsIn (hd.heap_1 w.params) mainGlobals "_law_node" = some (some (.ref 770)) := by k_is
theorem cglaw_node (w : World) : keepIn (hd.heap_1 w.params) (.ref 770) = true := by k_is
theorem glaw_is_choice (w : World) : nsIn (hd.heap_1 w.params) mainGlobals "_law_is_choice" = some (some (.ref 777)) := by k_is
theorem cglaw_is_choice (w : World) : keepIn (hd.heap_1 w.params) (.ref 777) = true := by k_is
theorem glaw_choice (w : World) : nsIn (hd.heap_1 w.params) mainGlobals "_law_choice" = some (some (.ref 784)) := by k_is
theorem cglaw_choice (w : World) : keepIn (hd.heap_1 w.params) (.ref 784) = true := by k_is
theorem glaw_around (w : World) : nsIn (hd.heap_1 w.params) mainGlobals "_law_around" = some (some (.ref 791)) := by k_is
theorem cglaw_around (w : World) : keepIn (hd.heap_1 w.params) (.ref 791) = true := by k_is
theorem glaw_bit (w : World) : nsIn (hd.heap_1 w.params) mainGlobals "_law_bit" = some (some (.ref 798)) := by k_is
theorem cglaw_bit (w : World) : keepIn (hd.heap_1 w.params) (.ref 798) = true := by k_is
theorem glaw_turned_bin (w : World) : nsIn (hd.heap_1 w.params) mainGlobals "_law_turned_bin" = some (some (.ref 805)) := by k_is
theorem cglaw_turned_bin (w : World) : keepIn (hd.heap_1 w.params) (.ref 805) = true := by k_is
theorem glaw_turned (w : World) : nsIn (hd.heap_1 w.params) mainGlobals "_law_turned" = some (some (.ref 810)) := by k_is
theorem cglaw_turned (w : World) : keepIn (hd.heap_1 w.params) (.ref 810) = true := by k_is
theorem glaw_told (w : World) : nsIn (hd.heap_1 w.params) mainGlobals "_law_told" = some (some (.ref 817)) := by k_is
theorem cglaw_told (w : World) : keepIn (hd.heap_1 w.params) (.ref 817) = true := by k_is
theorem gerror (w : World) : nsIn (hd.heap_1 w.params) mainGlobals "error" = some (some (.ref 139)) := by k_is
theorem cgerror (w : World) : keepIn (hd.heap_1 w.params) (.ref 139) = true := by k_is
theorem gtext_of_numbers (w : World) : nsIn (hd.heap_1 w.params) mainGlobals "text_of_numbers" = some (some (.ref 223)) := by k_is
theorem cgtext_of_numbers (w : World) : keepIn (hd.heap_1 w.params) (.ref 223) = true := by k_is
theorem gtext_of_host (w : World) : nsIn (hd.heap_1 w.params) mainGlobals "text_of_host" = some (some (.ref 454)) := by k_is
theorem cgtext_of_host (w : World) : keepIn (hd.heap_1 w.params) (.ref 454) = true := by k_is
theorem gRaised (w : World) : nsIn (hd.heap_1 w.params) mainGlobals "Raised" = some (some (.ref 84)) := by k_is
theorem cgRaised (w : World) : keepIn (hd.heap_1 w.params) (.ref 84) = true := by k_is
theorem gNest (w : World) : nsIn (hd.heap_1 w.params) mainGlobals "Nest" = some (some (.ref 105)) := by k_is
theorem gPause (w : World) : nsIn (hd.heap_1 w.params) mainGlobals "Pause" = some (some (.ref 126)) := by k_is
theorem gVar (w : World) : nsIn (hd.heap_1 w.params) mainGlobals "Var" = some (some (.ref 443)) := by k_is
theorem cgVar (w : World) : keepIn (hd.heap_1 w.params) (.ref 443) = true := by k_is
theorem gHost (w : World) : nsIn (hd.heap_1 w.params) mainGlobals "Host" = some (some (.ref 535)) := by k_is
theorem gSmallHost (w : World) : nsIn (hd.heap_1 w.params) mainGlobals "SmallHost" = some (some (.ref 691)) := by k_is
theorem cgSmallHost (w : World) : keepIn (hd.heap_1 w.params) (.ref 691) = true := by k_is
theorem blenn (w : World) : nsIn (hd.heap_1 w.params) mainGlobals "len" = some none := by k_is
theorem bstrn (w : World) : nsIn (hd.heap_1 w.params) mainGlobals "str" = some none := by k_is
theorem bordn (w : World) : nsIn (hd.heap_1 w.params) mainGlobals "ord" = some none := by k_is
theorem bmaxn (w : World) : nsIn (hd.heap_1 w.params) mainGlobals "max" = some none := by k_is
theorem bminn (w : World) : nsIn (hd.heap_1 w.params) mainGlobals "min" = some none := by k_is
theorem bsumn (w : World) : nsIn (hd.heap_1 w.params) mainGlobals "sum" = some none := by k_is
theorem brangen (w : World) : nsIn (hd.heap_1 w.params) mainGlobals "range" = some none := by k_is
theorem btuplen (w : World) : nsIn (hd.heap_1 w.params) mainGlobals "tuple" = some none := by k_is
theorem bisinstancen (w : World) : nsIn (hd.heap_1 w.params) mainGlobals "isinstance" = some none := by k_is
theorem bExceptionn (w : World) : nsIn (hd.heap_1 w.params) mainGlobals "Exception" = some none := by k_is
theorem slc_ii {a b : Int} {P : Option Int → Option Int → Prop} (h : P (some a) (some b)) : ∃ lo hi : Option Int, V.int a = lo.elim .none .int ∧ V.int b = hi.elim .none .int ∧ P lo hi := ⟨some a, some b, rfl, rfl, h⟩
theorem slc_in {a : Int} {P : Option Int → Option Int → Prop} (h : P (some a) none) : ∃ lo hi : Option Int, V.int a = lo.elim .none .int ∧ V.none = hi.elim .none .int ∧ P lo hi := ⟨some a, none, rfl, rfl, h⟩
theorem slc_ni {b : Int} {P : Option Int → Option Int → Prop} (h : P none (some b)) : ∃ lo hi : Option Int, V.none = lo.elim .none .int ∧ V.int b = hi.elim .none .int ∧ P lo hi := ⟨none, some b, rfl, rfl, h⟩
theorem Ln_app {x y : Str} {n m : Nat} (a : x.length ≤ n) (b : y.length ≤ m) : (x ++ y).length ≤ n + m := by
  show (x.cps ++ y.cps).size ≤ _
  rw [Array.size_append]; exact Nat.add_le_add a b
theorem ln_lit (s : String) (h : (Str.ofString s).length ≤ 200) : (Str.ofString s).length ≤ 200 := h
section
variable {B : Bs} {c : Cx} {σ : Store} {Q : V → Store → Prop} {E : Addr → Store → Prop}
theorem O_isT (h : Q (.bool true) σ) : CW B c (op2 (compareOp .Is)) [.none, .none] σ VR Q E := O_is h
end
section
variable {B : Bs} {c : Cx} {σ : Store} {Q : V → Store → Prop} {E : Addr → Store → Prop}
theorem O_isB {b : Bool} (h : Q (.bool false) σ) : CW B c (op2 (compareOp .Is)) [.bool b, .none] σ VR Q E := O_is h
end
section
variable {B : Bs} {c : Cx} {σ : Store} {Q : V → Store → Prop} {E : Addr → Store → Prop}
theorem O_isI {b : Int} (h : Q (.bool false) σ) : CW B c (op2 (compareOp .Is)) [.int b, .none] σ VR Q E := O_is h
end
section
variable {B : Bs} {c : Cx} {σ : Store} {Q : V → Store → Prop} {E : Addr → Store → Prop}
theorem O_isS {b : Str} (h : Q (.bool false) σ) : CW B c (op2 (compareOp .Is)) [.str b, .none] σ VR Q E := O_is h
end
section
variable {B : Bs} {c : Cx} {σ : Store} {Q : V → Store → Prop} {E : Addr → Store → Prop}
theorem O_isU {b : List V} (h : Q (.bool false) σ) : CW B c (op2 (compareOp .Is)) [.tup b, .none] σ VR Q E := O_is h
end
section
variable {B : Bs} {c : Cx} {σ : Store} {Q : V → Store → Prop} {E : Addr → Store → Prop}
theorem O_isNT (h : Q (.bool false) σ) : CW B c (op2 (compareOp .IsNot)) [.none, .none] σ VR Q E := O_isNot h
end
section
variable {B : Bs} {c : Cx} {σ : Store} {Q : V → Store → Prop} {E : Addr → Store → Prop}
theorem O_isNU {b : List V} (h : Q (.bool true) σ) : CW B c (op2 (compareOp .IsNot)) [.tup b, .none] σ VR Q E := O_isNot h
end
theorem if_true' {P R : Prop} (h : P) : (true = false → R) ∧ (true = true → P) := ⟨fun e => absurd e (by decide), fun _ => h⟩
theorem if_false' {P R : Prop} (h : R) : (false = false → R) ∧ (false = true → P) := ⟨fun _ => h, fun e => absurd e (by decide)⟩
section
local macro_rules
  | `(tactic| end_is $s:str) => words s
section
section
variable {B : Bs} {c : Cx} {σ : Store} {Q : V → Store → Prop} {E : Addr → Store → Prop}
theorem is_blank_k {w : World} (hK : B.K = hd.heap_1 w.params) (hr : c.dep + 1 ≤ 990) {x : Str} (h : Q (.bool (blank x)) σ) : CW B c (callF (.ref 174)) [.str x] σ VR Q E := by
  end_is "def1"
  intro env c' F hh' hd' hu'
  end_is "go"
  exact h
theorem base_of_k {w : World} (hK : B.K = hd.heap_1 w.params) (hr : c.dep + 1 ≤ 990) {x : Str} (h : Q (.int (baseOf x)) σ) : CW B c (callF (.ref 195)) [.str x] σ VR Q E := by
  end_is "def1"
  intro env c' F hh' hd' hu'
  unfold baseOf at h
  end_is "go"
  all_goals (simp only [*, if_true, if_false, Bool.false_eq_true] at h; exact h)
theorem digit_k {w : World} (hK : B.K = hd.heap_1 w.params) (hr : c.dep + 1 ≤ 990) {x : Str} (hx : x.length < 2 ^ 62) (h : Q (.int (digitOf x)) σ) : CW B c (callF (.ref 181)) [.str x] σ VR Q E := by
  end_is "def1"
  intro env c' F hh' hd' hu'
  unfold digitOf at h
  end_is "go"
  all_goals (((repeat' (split at h)) <;> first | exact h | (exfalso; lia)))
end
end
section
theorem RC (w : World) : (hd.heap_1 w.params).lookup 84 = some (excClassObj "Raised" "Raised" 84 83 [.type "Exception"] xmro true [] [] false none none (some (.ref 66)) none (some (.str "Raised" 257)) (some (.str "Raised" 265)) (some (.bool true)) "Exception.__new__") := by
  have h : ∃ o, (hd.heap_1 w.params).lookup 84 = some o ∧ o = (excClassObj "Raised" "Raised" 84 83 [.type "Exception"] xmro true [] [] false none none (some (.ref 66)) none (some (.str "Raised" 257)) (some (.str "Raised" 265)) (some (.bool true)) "Exception.__new__") := ⟨_, by k_is, rfl⟩
  obtain ⟨o, h1, h2⟩ := h
  rw [h1, h2]
theorem RN (w : World) : nsOkIn (hd.heap_1 w.params) 83 = true := by
  have h : ∃ o, (hd.heap_1 w.params).lookup 83 = some o ∧ nsOkIn [(83, o)] 83 = true := ⟨_, by k_is, by simp [nsOkIn]⟩
  obtain ⟨o, h1, h2⟩ := h
  unfold nsOkIn at h2 ⊢
  rw [h1]; exact h2
theorem RM1 (w : World) : (clsIn (hd.heap_1 w.params) 84).any (fun cd => cd.mro == .ref 84 :: xmro) = true := by
  unfold clsIn; rw [RC]; decide +kernel
theorem RM2 (w : World) : (clsIn (hd.heap_1 w.params) 84).any (·.hasDict) = true := by
  unfold clsIn; rw [RC]; rfl
theorem RS (w : World) : findIn (hd.heap_1 w.params) (.ref 84) "__setattr__" = some (some (.builtin "object.__setattr__")) := by k_is
theorem RE (w : World) : mroIn (hd.heap_1 w.params) 84 (.type "Exception") = some true := by k_is
theorem RF (w : World) : findCls (hd.heap_1 w.params) (.type "Exception") (.type "type") "__init__" = some (.val (.builtin "Exception.__init__")) := by k_is
section
variable {B : Bs} {c : Cx} {σ : Store} {Q : V → Store → Prop} {E : Addr → Store → Prop}
theorem raised_init {w : World} (hK : B.K = hd.heap_1 w.params) (hr : c.dep + 1 ≤ 990) {x : Addr} {code lv : Int} {val : Str} {ec : List V} (hx : σ x = some (.exc false 84 none)) {vs ds : List V} {dcs : List Value}
    (hvd : vs ++ ds = [.ref x, .int code, .str val, .tup ec, .int lv, .int 0])
    (hc : (vs.length = 5 ∧ dcs = [.int 0 271] ∧ ds = [.int 0]) ∨ (vs.length = 4 ∧ dcs = [.int 0 270, .int 0 271] ∧ ds = [.int 0, .int 0]))
    (h : ∀ σ' d kv, σ d = none → d ≠ x → Keep [x] σ σ' → σ' x = some (.exc false 84 (some d)) → σ' d = some (.attrs kv) → XAttr kv code val ec lv → Q .none σ') :
    CW B c (callF (.ref 81)) vs σ VR Q E := by
  refine' CC.cw (CC_defd (n := 6) (ds := ds) (dcs := dcs) (by assumption) ?ho ?hcd ?hck ?hb ?hd (by rw [hvd]; rfl) (roomOk (by assumption)) ?_)
  case ho => k_is
  case hcd => k_is
  case hck => decide +kernel
  case hb =>
    intro s cvs hl X
    rw [hK] at X
    rcases hc with ⟨h1, rfl, rfl⟩ | ⟨h1, rfl, rfl⟩
    · rw [h1] at hl
      exact bnd5 (fun a b d e f => BindsTo.of_defaults rfl (X 74 _ (by k_is)) rfl rfl rfl) cvs hl
    · rw [h1] at hl
      exact bnd4 (fun a b d e => BindsTo.of_defaults rfl (X 74 _ (by k_is)) rfl rfl rfl) cvs hl
  case hd =>
    intro h X
    rcases hc with ⟨h1, rfl, rfl⟩ | ⟨h1, rfl, rfl⟩
    · exact .cons (.int _ _) .nil
    · exact .cons (.int _ _) (.cons (.int _ _) .nil)
  rw [hvd]
  end_is "sh"
  intro env c' F hh' hd' hu'
  end_is "g1@2"
  end_is "g1@2"
  intro d hd hdx
  have hxd := Ne.symm hdx
  end_is "g1@2"
  intro l hl
  simp only [set_set] at hl ⊢
  obtain ⟨hld, hl⟩ := set_none hl
  obtain ⟨hlx, hl⟩ := set_none hl
  end_is "g1@2"
  refine h _ d _ hd hdx ?_ ?_ (Store.set_self _ _ _) ⟨rfl, rfl, rfl, rfl⟩
  · end_is "kp"
  · end_is "st"
theorem raised4 {w : World} (hK : B.K = hd.heap_1 w.params) (hr : c.dep + 2 ≤ 990) {code lv : Int} {val : Str} {ec : List V}
    (h : ∀ σ' x, σ x = none → Keep [] σ σ' → ErrIs σ' false x code val ec lv → Q (.ref x) σ') : CW B c (callF (.ref 84)) [.int code, .str val, .tup ec, .int lv] σ VR Q E :=
  CW_makeX hK (RC w) (RN w) (by k_is) (by k_is) (Nat.le_of_ble_eq_true rfl) fun x hx => raised_init (ds := [.int 0]) (dcs := [.int 0 271]) hK (by show c.dep + 1 + 1 ≤ 990; lia) (Store.set_self _ _ _) rfl (.inl ⟨rfl, rfl, rfl⟩)
    fun σ' d kv hd hdx k h1 h2 h3 => ⟨rfl, h σ' x hx (fun b hb _ => by
      have : b ≠ x := fun e => by rw [e, hx] at hb; exact hb rfl
      rw [k b (by rw [Store.set_ne _ _ this]; exact hb) (by simpa using this), Store.set_ne _ _ this]) ⟨d, kv, h1, h2, h3⟩⟩
theorem raised3 {w : World} (hK : B.K = hd.heap_1 w.params) (hr : c.dep + 2 ≤ 990) {code : Int} {val : Str} {ec : List V}
    (h : ∀ σ' x, σ x = none → Keep [] σ σ' → ErrIs σ' false x code val ec 0 → Q (.ref x) σ') : CW B c (callF (.ref 84)) [.int code, .str val, .tup ec] σ VR Q E :=
  CW_makeX hK (RC w) (RN w) (by k_is) (by k_is) (Nat.le_of_ble_eq_true rfl) fun x hx => raised_init (ds := [.int 0, .int 0]) (dcs := [.int 0 270, .int 0 271]) hK (by show c.dep + 1 + 1 ≤ 990; lia) (Store.set_self _ _ _) rfl (.inr ⟨rfl, rfl, rfl⟩)
    fun σ' d kv hd hdx k h1 h2 h3 => ⟨rfl, h σ' x hx (fun b hb _ => by
      have : b ≠ x := fun e => by rw [e, hx] at hb; exact hb rfl
      rw [k b (by rw [Store.set_ne _ _ this]; exact hb) (by simpa using this), Store.set_ne _ _ this]) ⟨d, kv, h1, h2, h3⟩⟩
theorem error_k {w : World} (hK : B.K = hd.heap_1 w.params) (hr : c.dep + 3 ≤ 990) {val : Str} {ec : List V}
    (h : ∀ σ' x, σ x = none → Keep [] σ σ' → ErrIs σ' false x 1 val ec 0 → Q (.ref x) σ') : CW B c (callF (.ref 139)) [.str val, .tup ec] σ VR Q E := by
  refine' D_def (n := 2) (by assumption) ?ho ?hcd ?hck ?hb rfl (roomOk (by assumption)) ?_
  case ho => k_is
  case hcd => k_is
  case hck => decide +kernel
  case hb =>
    intro s cvs hl X
    rw [hK] at X
    exact bnd2 (fun a b => BindsTo.of_defaults rfl (X 132 _ (by k_is)) rfl rfl rfl) cvs hl
  end_is "sh"
  intro env c' F hh' hd' hu'
  end_is "g1@2"
  refine raised3 hK (by end_is "l") fun σ' x h1 h2 h3 => ?_
  end_is "g1@2"
  exact h σ' x h1 h2 h3
end
end
section
section
variable {B : Bs} {c : Cx} {σ : Store} {Q : V → Store → Prop} {E : Addr → Store → Prop}
theorem mulOk_base {v b : Int} (hb : b = 16 ∨ b = 8 ∨ b = 2 ∨ b = 10) : IntMulOk v b := .of_right (by rcases hb with rfl | rfl | rfl | rfl <;> decide +kernel)
theorem digits_value_k {w : World} (hK : B.K = hd.heap_1 w.params) (hh : c.hd = none) (hr : c.dep + 2 ≤ 990) {x : Str} {b : Int} (hb : b = 16 ∨ b = 8 ∨ b = 2 ∨ b = 10) (ha : x.cps.all (· < 128) = true) (h : Q (optInt (digitsVal x b)) σ) :
    CW B c (callF (.ref 188)) [.str x, .int b] σ VR Q E := by
  end_is "def2"
  intro env c' F hh' hd' hu'
  have hh1 := hh'.trans hh
  unfold digitsVal at h
  end_is "g1@3"
  end_is "if"
  · rename_i hc
    rw [if_pos hc] at h
    end_is "g1@3"
    exact h
  · rename_i hc
    rw [if_neg hc] at h
    end_is "g1@3"
    refine S_for F hh1 ?_ rfl (fun _ => rfl)
    end_is "g1@3"
    refine ⟨_, _, .str ha, ?_⟩
    rw [signs_eq]
    refine forI (I := fun items l σ' => ∃ ks val u v, items = ks.map signV ∧ l = [some (.str x), some (.int b), some (.int val), u, v, none] ∧ σ' = σ ∧ Q (optInt (dvGo b ks val)) σ) ?_ ?_ ⟨x.cps.toList, 0, none, none, rfl, rfl, rfl, h⟩
    · rintro l σ' ⟨ks, val, u, v, h1, rfl, rfl, h2⟩
      cases ks with
      | cons _ _ => cases h1
      | nil =>
        refine ⟨trivial, ?_⟩
        end_is "g1@3"
        exact h2
    · rintro v items l σ' ⟨ks, val, u, v', h1, rfl, rfl, h2⟩
      cases ks with
      | nil => cases h1
      | cons k ks =>
        cases h1
        refine ⟨trivial, ?_⟩
        refine T_name (l' := ?l) F ?a ?_
        case a => end_is "np"
        have hk : (⟨#[k]⟩ : Str).length < 2 ^ 62 := by show 1 < 2 ^ 62; decide
        unfold signV
        unfold dvGo at h2
        end_is "g1@3"
        repeat' first | end_is "m" | end_is "o" | end_is "f@3" | ((with_reducible refine O_mul ?hm ?_); (case hm => exact mulOk_base (by assumption))) | end_is "if" | fail
        all_goals ((repeat' (split at h2)) <;> first | exact h2 | (exfalso; lia) | exact ⟨_, rfl, ks, _, _, _, rfl, rfl, rfl, h2⟩)
end
end
section
/-- signs below 128 -/
noncomputable def Asc (x : Str) : Prop := ∀ k ∈ x.cps.toList, k < 128
theorem Asc.all {x : Str} (h : Asc x) : x.cps.all (· < 128) = true := by
  rw [Array.all_eq_true']
  intro k hk
  exact decide_eq_true (h k (Array.mem_toList_iff.mpr hk))
theorem Asc.slice {x : Str} (h : Asc x) (lo hi : Option Int) : Asc (Txt.slice x lo hi) := by
  unfold Txt.slice
  split
  · exact h
  · intro k hk
    simp only [List.mem_filterMap] at hk
    obtain ⟨i, _, hi⟩ := hk
    exact h k (by rw [Array.mem_toList_iff]; exact Array.mem_of_getElem? hi)
noncomputable def skipF (x : Str) (b : Int) : Nat → Int → Int
  | 0, f => f
  | n + 1, f => if f < b then (if blank (Txt.item x f) = true then skipF x b n (f + 1) else f) else f
noncomputable def skipB (x : Str) (f : Int) : Nat → Int → Int
  | 0, b => b
  | n + 1, b => if f < b then (if blank (Txt.item x (b - 1)) = true then skipB x f n (b - 1) else b) else b
noncomputable def isSign (x : Str) : Bool := [("+" : Str), "-"].any (· == x)
noncomputable def wo4 (m : Bool) : Option Int → Option Int
  | none => none
  | some v => some (if m = true then -v else v)
noncomputable def wo3 (x : Str) (b : Int) (m : Bool) (g bs : Int) : Option Int := wo4 m (if 0 < bs then digitsVal (Txt.slice x (some (g + 2)) (some b)) bs else digitsVal (Txt.slice x (some g) (some b)) 10)
noncomputable def wo2 (x : Str) (b : Int) (m : Bool) (g : Int) : Option Int := wo3 x b m g (if 2 < b - g then (if Txt.item x g = "0" then baseOf (Txt.item x (g + 1)) else 0) else 0)
noncomputable def wo1 (x : Str) (f b : Int) : Option Int := wo2 x b (if f < b then (if isSign (Txt.item x f) = true then Txt.item x f == "-" else false) else false) (if f < b then (if isSign (Txt.item x f) = true then f + 1 else f) else f)
/-- a text as a whole number -/
noncomputable def wholeOf (x : Str) : Option Int :=
  let f := skipF x x.length x.length 0
  let b := skipB x f (x.length - f).toNat x.length
  wo1 x f b
theorem baseOf_cases (x : Str) (h : 0 < baseOf x) : baseOf x = 16 ∨ baseOf x = 8 ∨ baseOf x = 2 ∨ baseOf x = 10 := by
  unfold baseOf at h ⊢
  split
  · exact .inl rfl
  · rename_i h1
    rw [if_neg h1] at h
    split
    · exact .inr (.inl rfl)
    · rename_i h2
      rw [if_neg h2] at h
      split
      · exact .inr (.inr (.inl rfl))
      · rename_i h3
        rw [if_neg h3] at h
        split
        · exact .inr (.inr (.inr rfl))
        · rename_i h4
          rw [if_neg h4] at h
          exact absurd h (by decide)
theorem S_cut {B : Bs} {c : Cx} {env : Env} {N : List (Str × NameKind)} {l : List (Option V)} {σ : Store} {st : Stmt} (l' : List (Option V)) {Q : Fl → Loc → Store → Prop} {E : Addr → Loc → Store → Prop} (H : Ws B c env st (zs N l) σ (fun f ρ σ' => f = .next ∧ ρ = zs N l' ∧ σ' = σ) E) (h : Q .next (zs N l') σ) : Ws B c env st (zs N l) σ Q E :=
  WS.mono H (fun f ρ σ' ⟨h1, h2, h3⟩ => by subst h1 h2 h3; exact h) fun _ _ _ x => x
theorem fits_of {k : Int} (h : -100001 ≤ k) (h2 : k ≤ 100001) : fitsSsize k = true := by
  unfold fitsSsize; rw [decide_eq_false (by lia), decide_eq_false (by lia)]; rfl
noncomputable def AtEnd (N : List (Str × NameKind)) (l : List (Option V)) (σ : Store) : Fl → Loc → Store → Prop := fun f ρ σ' => f = .next ∧ ρ = zs N l ∧ σ' = σ
theorem atEnd {N : List (Str × NameKind)} {l l' : List (Option V)} {σ : Store} (h : l = l') : AtEnd N l' σ .next (zs N l) σ := by subst h; exact ⟨rfl, rfl, rfl⟩
theorem S_cut' {B : Bs} {c : Cx} {env : Env} {N : List (Str × NameKind)} {l : List (Option V)} {σ : Store} {st : Stmt} (l' : List (Option V)) {Q : Fl → Loc → Store → Prop} {E : Addr → Loc → Store → Prop} (H : Ws B c env st (zs N l) σ (AtEnd N l' σ) E) (h : Q .next (zs N l') σ) : Ws B c env st (zs N l) σ Q E := S_cut l' H h
theorem S_swap2 {B : Bs} {c : Cx} {env : Env} {N : List (Str × NameKind)} {l : List (Option V)} {σ : Store} {Q : Fl → Loc → Store → Prop} {E : Addr → Loc → Store → Prop} {x y : Str} {p q tp : Pos} {k : Nat} {v1 v2 : Expr} {m : Nat} {vp pos : Pos} (F : EnvS c env N) (hh : c.hd = none) (h1 : KAt N x .local) (h2 : KAt N y .local)
    (h : Wx B c env (.Tuple [v1, v2] m vp) (zs N l) σ (fun v σ₁ => ∃ a b l1 l2, v = .tup [a, b] ∧ NP N l y b l1 ∧ NP N l1 x a l2 ∧ Q .next (zs N l2) σ₁) (fun a σ₁ => E a (zs N l) σ₁))
    (hpq : (q.line == p.line) = true) (hxy : (y == x) = false) (hst : ([v1, v2].any fun | .Starred .. => true | _ => false) = false) (hf : [v1, v2].all (foldedForSure 8) = false) (hc : [v1, v2].all (constantsAlone 8) = false) (hs1 : swapsWithSole [.Tuple [.Name x p, .Name y q] k tp] (.Tuple [v1, v2] m vp) pos.line env = pure false) :
    Ws B c env (.Assign [.Tuple [.Name x p, .Name y q] k tp] (.Tuple [v1, v2] m vp) pos) (zs N l) σ Q E :=
  S_swapped (names := [x, y]) F hh (fun z hz => (List.mem_cons.mp hz).elim (fun e => e ▸ h1) fun hz => (List.mem_singleton.mp hz) ▸ h2) (WE.mono h (fun v σ₁ ⟨a, b, l1, l2, e, n1, n2, q⟩ => ⟨[a, b], l2, e, .cons n1 (.cons n2 .nil), q⟩) fun _ _ x => x) hs1 (swap2 F h1 h2 hpq hxy hst hf hc)
theorem swp {N : List (Str × NameKind)} {l l1 l2 : List (Option V)} {x y : Str} {a b : V} {P : List (Option V) → Prop} (n1 : NP N l y b l1) (n2 : NP N l1 x a l2) (q : P l2) : ∃ a' b' l1 l2, V.tup [a, b] = .tup [a', b'] ∧ NP N l y b' l1 ∧ NP N l1 x a' l2 ∧ P l2 := ⟨a, b, l1, l2, rfl, n1, n2, q⟩
section
variable {B : Bs} {c : Cx} {σ : Store} {Q : V → Store → Prop} {E : Addr → Store → Prop}
theorem whole_of_k {w : World} (hK : B.K = hd.heap_1 w.params) (hh : c.hd = none) (hr : c.dep + 3 ≤ 990) {x : Str} (ha : Asc x) (hx : x.length ≤ 100000) (h : Q (optInt (wholeOf x)) σ) :
    CW B c (callF (.ref 202)) [.str x] σ VR Q E := by
  end_is "def1"
  intro env c' F hh' hd' hu'
  have hh1 := hh'.trans hh
  end_is "g1@4"
  refine S_swap2 F hh1 ?k1 ?k2 ?_ rfl (by decide) rfl rfl rfl (by with_unfolding_all rfl)
  case k1 => end_is "na"
  case k2 => end_is "na"
  end_is "g1@4"
  refine swp (l1 := ?l1) (l2 := ?l2) ?a ?b ?_
  case a => end_is "np"
  case b => end_is "np"
  end_is "g1@4"
  refine S_while F ?_
  refine whileI (I := fun n l σ' => ∃ f : Int, l = [some (.str x), some (.int f), some (.int x.length), none, none, none, none, none, none, none] ∧ σ' = σ ∧ 0 ≤ f ∧ f ≤ x.length ∧ n = (x.length - f).toNat ∧ skipF x x.length n f = skipF x x.length x.length 0) ?_ (n := x.length) ⟨0, rfl, rfl, Int.le_refl 0, Int.natCast_nonneg _, rfl, rfl⟩
  rintro n l σ' ⟨f, rfl, rfl, h0, h1, hn, h2⟩
  refine Wt_cut (decide (f < x.length) && blank (Txt.item x f)) ?_ ?_
  · end_is "go@4"
    all_goals simp [*]
  · refine ⟨fun hc => ?_, fun hc => ?_⟩
    · rw [Bool.and_eq_true, decide_eq_true_eq] at hc
      obtain ⟨hc1, hc2⟩ := hc
      end_is "g1@4"
      obtain ⟨m, rfl, hm⟩ := scan1 hc1 hn
      refine ⟨_, m, Nat.lt_succ_self _, rfl, f + 1, rfl, rfl, Int.le_add_one h0, hc1, hm, ?_⟩
      rw [← h2]
      conv => rhs; unfold skipF
      rw [if_pos hc1, if_pos hc2]
    · have hf : skipF x x.length x.length 0 = f := by
        rw [← h2]
        unfold skipF
        split
        · rfl
        · by_cases q : f < x.length
          · rw [if_pos q, if_neg (by intro z; rw [decide_eq_true q, z] at hc; cases hc)]
          · rw [if_neg q]
      unfold wholeOf at h
      rw [hf] at h
      dsimp only at h
      clear h2 hf hn
      end_is "g1@4"
      refine S_while F ?_
      refine whileI (I := fun n l σ'' => ∃ b : Int, l = [some (.str x), some (.int f), some (.int b), none, none, none, none, none, none, none] ∧ σ'' = σ' ∧ f ≤ b ∧ b ≤ x.length ∧ n = (b - f).toNat ∧ skipB x f n b = skipB x f (x.length - f).toNat x.length) ?_ (n := (x.length - f).toNat) ⟨x.length, rfl, rfl, h1, Int.le_refl _, rfl, rfl⟩
      clear hc
      rintro n l σ'' ⟨b, rfl, rfl, hb0, hb1, hn, h2⟩
      refine Wt_cut (decide (f < b) && blank (Txt.item x (b - 1))) ?_ ?_
      · end_is "go@4"
        all_goals simp [*]
      · refine ⟨fun hc => ?_, fun hc => ?_⟩
        · rw [Bool.and_eq_true, decide_eq_true_eq] at hc
          obtain ⟨hc1, hc2⟩ := hc
          end_is "g1@4"
          obtain ⟨m, rfl, hm⟩ := scan2 hc1 hn
          refine ⟨_, m, Nat.lt_succ_self _, rfl, b - 1, rfl, rfl, Int.le_sub_one_of_lt hc1, Int.le_trans (Int.sub_le_self b (by decide)) hb1, hm, ?_⟩
          rw [← h2]
          conv => rhs; unfold skipB
          rw [if_pos hc1, if_pos hc2]
        · have hf : skipB x f (x.length - f).toNat x.length = b := by
            rw [← h2]
            unfold skipB
            split
            · rfl
            · by_cases q : f < b
              · rw [if_pos q, if_neg (by intro z; rw [decide_eq_true q, z] at hc; cases hc)]
              · rw [if_neg q]
          rw [hf] at h
          clear h2 hf hn hc
          unfold wo1 at h
          end_is "g0@4"
          refine S_cut' [some (.str x), some (.int (if f < b then (if isSign (Txt.item x f) = true then f + 1 else f) else f)), some (.int b), some (.bool (if f < b then (if isSign (Txt.item x f) = true then Txt.item x f == "-" else false) else false)), none, none, none, none, none, none] ?_ ?_
          · refine Ws_if (Wt_cut (decide (f < b) && isSign (Txt.item x f)) ?_ ?_)
            · end_is "go@4"
              all_goals simp [*, isSign]
            · refine ⟨fun hc => ?_, fun hc => ?_⟩
              · rw [Bool.and_eq_true, decide_eq_true_eq] at hc
                obtain ⟨hc1, hc2⟩ := hc
                rw [if_pos hc1, if_pos hc2, if_pos hc1, if_pos hc2]
                end_is "g1@4"
                exact atEnd rfl
              · end_is "g1@4"
                refine atEnd ?_
                by_cases q : f < b
                · rw [if_pos q, if_pos q, if_neg (by intro z; rw [decide_eq_true q, z] at hc; cases hc), if_neg (by intro z; rw [decide_eq_true q, z] at hc; cases hc)]
                · rw [if_neg q, if_neg q]
          · revert h
            refine opqE ((if f < b then (if isSign (Txt.item x f) = true then Txt.item x f == "-" else false) else false)) fun m hm => ?_
            intro h
            have hg : 0 ≤ (if f < b then (if isSign (Txt.item x f) = true then f + 1 else f) else f) ∧ (if f < b then (if isSign (Txt.item x f) = true then f + 1 else f) else f) ≤ b := by
              by_cases q : f < b
              · rw [if_pos q]; split <;> lia
              · rw [if_neg q]; lia
            revert h hg
            refine opq ((if f < b then (if isSign (Txt.item x f) = true then f + 1 else f) else f)) fun g => ?_
            intro h hg
            obtain ⟨hg0, hg1⟩ := hg
            clear hm
            unfold wo2 at h
            end_is "g0@4"
            refine S_cut' [some (.str x), some (.int g), some (.int b), some (.bool m), some (.int (if 2 < b - g then (if Txt.item x g = "0" then baseOf (Txt.item x (g + 1)) else 0) else 0)), none, none, none, none, none] ?_ ?_
            · refine Ws_if (Wt_cut (decide (2 < b - g) && Txt.item x g == "0") ?_ ?_)
              · end_is "go@4"
                all_goals simp [*]
              · refine ⟨fun hc => ?_, fun hc => ?_⟩
                · rw [Bool.and_eq_true, decide_eq_true_eq, beq_iff_eq] at hc
                  obtain ⟨hc1, hc2⟩ := hc
                  rw [if_pos hc1, if_pos hc2]
                  end_is "g1@4"
                  exact atEnd rfl
                · end_is "g1@4"
                  refine atEnd ?_
                  by_cases q : 2 < b - g
                  · rw [if_pos q, if_neg (by intro z; rw [decide_eq_true q, z] at hc; simp at hc)]
                  · rw [if_neg q]
            · revert h
              refine opqE ((if 2 < b - g then (if Txt.item x g = "0" then baseOf (Txt.item x (g + 1)) else 0) else 0)) fun bs hbs => ?_
              intro h
              have hbs' : 0 < bs → bs = 16 ∨ bs = 8 ∨ bs = 2 ∨ bs = 10 := by
                rw [← hbs]; intro z
                by_cases q : 2 < b - g
                · rw [if_pos q] at z ⊢
                  by_cases q2 : Txt.item x g = "0"
                  · rw [if_pos q2] at z ⊢; exact baseOf_cases _ z
                  · rw [if_neg q2] at z; lia
                · rw [if_neg q] at z; lia
              clear hbs
              unfold wo3 at h
              end_is "g0@4"
              refine S_cut' [some (.str x), some (.int g), some (.int b), some (.bool m), some (.int bs), some (optInt (if 0 < bs then digitsVal (Txt.slice x (some (g + 2)) (some b)) bs else digitsVal (Txt.slice x (some g) (some b)) 10)), none, none, none, none] ?_ ?_
              · refine Ws_if ?_
                end_is "g0@4"
                refine if_dec (fun hc => ?_) (fun hc => ?_)
                · rw [if_pos hc]
                  end_is "g1@4"
                  refine digits_value_k (by assumption) (by assumption) (by end_is "l") (hbs' hc) (ha.slice _ _).all ?_
                  end_is "g1@4"
                  exact atEnd rfl
                · rw [if_neg hc]
                  end_is "g1@4"
                  refine digits_value_k (by assumption) (by assumption) (by end_is "l") (.inr (.inr (.inr rfl))) (ha.slice _ _).all ?_
                  end_is "g1@4"
                  exact atEnd rfl
              · revert h
                refine opq ((if 0 < bs then digitsVal (Txt.slice x (some (g + 2)) (some b)) bs else digitsVal (Txt.slice x (some g) (some b)) 10)) fun v => ?_
                intro h
                cases v with
                | none =>
                  unfold optInt wo4 at *
                  end_is "go@4"
                  all_goals first | exact h | contradiction | trace_state
                | some v =>
                  simp only [optInt, wo4] at h ⊢
                  end_is "go@4"
                  all_goals first | (rw [if_pos (by assumption)] at h; exact h) | (rw [if_neg (by simp [*])] at h; exact h) | (exfalso; simp_all [VNone])
end
end
section
section
variable {B : Bs} {c : Cx} {env : Env} {N : List (Str × NameKind)} {l l' : List (Option V)} {σ : Store} {Q : Fl → Loc → Store → Prop} {E : Addr → Loc → Store → Prop} {body : List Stmt} {chk : Store → Prop}
theorem forL_name {x : Str} {p : Pos} {v : V} {vs : List V} (F : EnvS c env N) (hc : chk σ) (a : NP N l x v l') (h : Wss B c env body (zs N l') σ (loopK Q (ForL B c env (.Name x p) body chk Q E vs)) E) : ForL B c env (.Name x p) body chk Q E (v :: vs) (zs N l) σ :=
  ⟨hc, T_name F a h⟩
theorem forL_nil {target : Expr} {ρ : Loc} (hc : chk σ) (h : Q .next ρ σ) : ForL B c env target body chk Q E [] ρ σ := ⟨hc, h⟩
theorem itb_tup {B : Bs} {c : Cx} {env : Env} {target : Expr} {body : List Stmt} {ρ : Loc} {σ : Store} {Q : Fl → Loc → Store → Prop} {E : Addr → Loc → Store → Prop} {l : List V} (h : ForL B c env target body (fun _ => True) Q E l ρ σ) : Kfor B c env target body ρ Q E (.tup l) σ := ⟨l, _, .tup, h⟩
end
noncomputable def boolOf (x : Str) : Option Bool :=
  match wholeOf x with
  | some v => some (v != 0)
  | none =>
    if ([("" : Str), "o"].any (· == Txt.lower x)) = true then none
    else if Txt.startswith "true" (Txt.lower x) = true then some true else if Txt.startswith "yes" (Txt.lower x) = true then some true else if Txt.startswith "on" (Txt.lower x) = true then some true
    else if Txt.startswith "false" (Txt.lower x) = true then some false else if Txt.startswith "no" (Txt.lower x) = true then some false else if Txt.startswith "off" (Txt.lower x) = true then some false else none
noncomputable def optBool : Option Bool → V
  | none => .none
  | some b => .bool b
noncomputable def bit (b : Bool) : Str := if b then "1" else "0"
section
variable {B : Bs} {c : Cx} {σ : Store} {Q : V → Store → Prop} {E : Addr → Store → Prop}
theorem bool_of_k {w : World} (hK : B.K = hd.heap_1 w.params) (hh : c.hd = none) (hr : c.dep + 4 ≤ 990) {x : Str} (ha : Asc x) (hx : x.length ≤ 100000) (h : Q (optBool (boolOf x)) σ) :
    CW B c (callF (.ref 209)) [.str x] σ VR Q E := by
  end_is "def1"
  intro env c' F hh' hd' hu'
  have hh1 := hh'.trans hh
  unfold boolOf at h
  end_is "g0@5"
  cases hw : wholeOf x with
  | some v =>
    rw [hw] at h
    simp only [optInt, optBool] at h ⊢
    end_is "go@5"
    all_goals first | exact h | (exfalso; simp_all [VNone])
  | none =>
    rw [hw] at h
    simp only [optInt] at h ⊢
    end_is "go@5"
    all_goals first | (exfalso; simp_all [VNone]; done) | (simp only [*, if_true, if_false, Bool.false_eq_true, reduceIte] at h; exact h) | trace_state
theorem text_of_k {w : World} (hK : B.K = hd.heap_1 w.params) (hr : c.dep + 1 ≤ 990) {b : Bool} (h : Q (.str (bit b)) σ) :
    CW B c (callF (.ref 223)) [.bool b] σ VR Q E := by
  end_is "def1"
  intro env c' F hh' hd' hu'
  end_is "go@5"
  all_goals (rename_i hc; subst hc; exact h)
end
end
section
section
variable {B : Bs} {c : Cx} {σ : Store} {Q : V → Store → Prop} {E : Addr → Store → Prop}
theorem O_addz {x y : Str} {n m : Nat} (a : x.length ≤ n) (b : y.length ≤ m) (k : n + m ≤ sizeLine) (h : Q (.str (x ++ y)) σ) : CW B c (op2 (binaryOp .Add)) [.str x, .str y] σ VR Q E := O_adds (Nat.le_trans (Nat.add_le_add a b) k) h
/-- a raised error of code 1 -/
noncomputable def Raises1 (σ : Store) (val : Str) (ec : List V) (E : Addr → Store → Prop) : Prop := ∀ a σ', σ a = none → Keep [] σ σ' → ErrIs σ' true a 1 val ec 0 → E a σ'
end
noncomputable def boolMsg (x : Str) : Str := "expected boolean value but got \"" ++ x ++ "\""
noncomputable def boolEc : List V := [.str "TCL", .str "VALUE", .str "BOOLEAN"]
section
variable {B : Bs} {c : Cx} {σ : Store} {Q : V → Store → Prop} {E : Addr → Store → Prop}
end
theorem R1 (w : World) : mroIn (hd.heap_1 w.params) 84 (.type "BaseException") = some true := by k_is
theorem R2 (w : World) : typeIn (hd.heap_1 w.params) (.ref 84) = some (.type "type") := by k_is
section
variable {B : Bs} {c : Cx} {σ : Store} {Q : V → Store → Prop} {E : Addr → Store → Prop}
theorem need_bool_k {w : World} (hK : B.K = hd.heap_1 w.params) (hh : c.hd = none) (hr : c.dep + 5 ≤ 990) {x : Str} (ha : Asc x) (hx : x.length ≤ 100000) (h : ∀ b, boolOf x = some b → Q (.bool b) σ) (hE : boolOf x = none → Raises1 σ (boolMsg x) boolEc E) :
    CW B c (callF (.ref 216)) [.str x] σ VR Q E := by
  end_is "def1"
  intro env c' F hh' hd' hu'
  have hh1 := hh'.trans hh
  end_is "g0@6"
  cases hw : boolOf x with
  | none =>
    simp only [optBool]
    end_is "go@6"
    · refine error_k (by assumption) (by end_is "l") fun σ' a h1 h2 h3 => ?_
      end_is "g1@6"
      exact erri h1 h2 h3 fun σ₂ k e => hE hw a σ₂ h1 k e
  | some b =>
    simp only [optBool]
    end_is "go@6"
    exact h b hw
end
end
section
noncomputable def Tame (x : Str) : Prop := ∀ k ∈ x.cps.toList, k < 128 ∧ k ≠ 34 ∧ k ≠ 92 ∧ k ≠ 125
theorem Tame.asc {x : Str} (h : Tame x) : Asc x := fun k hk => (h k hk).1
theorem item_mem {x : Str} {i : Int} (h0 : 0 ≤ i) (h1 : i < x.length) : ∃ k ∈ x.cps.toList, Txt.item x i = ⟨#[k]⟩ := by
  have hn : i.toNat < x.cps.size := by have : i < x.cps.size := h1; lia
  refine ⟨x.cps[i.toNat], Array.mem_toList_iff.mpr (Array.getElem_mem hn), ?_⟩
  unfold Txt.item Txt.charAt
  rw [seqIndex_of h0 h1, Option.bind_some, Array.getElem?_eq_getElem hn]; rfl
theorem Tame.item {x : Str} (h : Tame x) {i : Int} (h0 : 0 ≤ i) (h1 : i < x.length) : Txt.item x i ≠ "\\" ∧ Txt.item x i ≠ "\"" ∧ Txt.item x i ≠ "}" := by
  obtain ⟨k, hk, e⟩ := item_mem h0 h1
  obtain ⟨_, a, b, d⟩ := h k hk
  rw [e]
  refine ⟨fun z => b ?_, fun z => a ?_, fun z => d ?_⟩
  · exact (congrArg (fun y : Str => y.cps.getD 0 0) z)
  · exact (congrArg (fun y : Str => y.cps.getD 0 0) z)
  · exact (congrArg (fun y : Str => y.cps.getD 0 0) z)
theorem Raises1.lift {σ σ₁ : Store} {v : Str} {ec : List V} {E : Addr → Store → Prop} (k : Keep [] σ σ₁) (h : Raises1 σ v ec E) : Raises1 σ₁ v ec E := fun a σ' h1 h2 h3 => h a σ' (k.fresh h1 (by simp)) (k.trans h2) h3
noncomputable def braceMsg : Str := "unmatched open brace in list"
noncomputable def braceEc : List V := [.str "TCL", .str "VALUE", .str "LIST", .str "BRACE"]
noncomputable def bareGo (x : Str) : Nat → Int → List Str × Int
  | 0, i => ([], i)
  | n + 1, i => if i < x.length then (if blank (Txt.item x i) = true then ([], i) else (Txt.item x i :: (bareGo x n (i + 1)).1, (bareGo x n (i + 1)).2)) else ([], i)
theorem bareGo_le (x : Str) : ∀ (n : Nat) (i : Int), i ≤ x.length → i ≤ (bareGo x n i).2 ∧ (bareGo x n i).2 ≤ x.length
  | 0, i, h => ⟨Int.le_refl _, h⟩
  | n + 1, i, h => by
    unfold bareGo
    split
    · split
      · exact ⟨Int.le_refl _, h⟩
      · have := bareGo_le x n (i + 1) (by lia)
        exact ⟨by show i ≤ (bareGo x n (i + 1)).2; lia, this.2⟩
    · exact ⟨Int.le_refl _, h⟩
inductive Found where
  | none | brace | some (t : Str) (e : Int)
noncomputable def findAt (x : Str) (i : Int) : Found :=
  let f := skipF x x.length (x.length - i).toNat i
  if (x.length : Int) ≤ f then .none else if Txt.item x f = "{" then .brace else .some (Txt.join "" (bareGo x (x.length - f).toNat f).1) (bareGo x (x.length - f).toNat f).2
noncomputable def splitGo (x : Str) : Nat → Found → List Str → Option (List Str)
  | _, .none, acc => some acc
  | _, .brace, _ => none
  | 0, .some _ _, acc => some acc
  | n + 1, .some t e, acc => splitGo x n (findAt x e) (acc ++ [t])
noncomputable def splitOf (x : Str) : Option (List Str) := splitGo x (x.length + 1) (findAt x 0) []
theorem if_eqF {α : Type} [BEq α] [LawfulBEq α] {a b : α} {P R : Prop} (h : a ≠ b) (h2 : R) : ((a == b) = true → P) ∧ ((a == b) = false → R) := if_eq (fun e => absurd e h) fun _ => h2
theorem if_eqT {α : Type} [BEq α] [LawfulBEq α] {a b : α} {P R : Prop} (h : a = b) (h2 : P) : ((a == b) = true → P) ∧ ((a == b) = false → R) := if_eq (fun _ => h2) fun e => absurd h e
theorem joinOk1 {ts : List Str} (h : ∀ t ∈ ts, t.length = 1) (hn : ts.length ≤ 100000) : JoinOk "" ts = true := by
  have key : ∀ (l : List Str) (n : Nat), (∀ t ∈ l, t.length = 1) → l.foldl (fun a t => a + t.length + (Str.ofString "").length) n = n + l.length := by
    intro l
    induction l with
    | nil => intro n _; rfl
    | cons t r ih =>
      intro n hl
      rw [List.foldl_cons, ih _ fun u hu => hl u (.tail _ hu), hl t (.head _), List.length_cons]
      show n + 1 + 0 + r.length = _
      lia
  unfold JoinOk
  rw [← Array.foldl_toList, List.toList_toArray, key ts 0 h]
  unfold Builtin.Str.tooLong
  rw [decide_eq_false (by show ¬ 0 + ts.length > sizeLine; unfold sizeLine; lia)]; rfl
theorem bareGo_len (x : Str) : ∀ (n : Nat) (i : Int), (∀ t ∈ (bareGo x n i).1, t.length = 1) ∧ (bareGo x n i).1.length ≤ n
  | 0, i => ⟨by simp [bareGo], by simp [bareGo]⟩
  | n + 1, i => by
    unfold bareGo
    split
    · split
      · exact ⟨by simp, by simp⟩
      · have := bareGo_len x n (i + 1)
        refine ⟨fun t ht => ?_, by simp only [List.length_cons]; lia⟩
        cases ht with
        | head => rfl
        | tail _ ht => exact this.1 t ht
    · exact ⟨by simp, by simp⟩
theorem szl {n : Nat} (h : n ≤ 100000) : n ≤ sizeLine := Nat.le_trans h (by decide)
section
variable {B : Bs} {c : Cx} {σ : Store} {Q : V → Store → Prop} {E : Addr → Store → Prop}
theorem braced_k {w : World} (hK : B.K = hd.heap_1 w.params) (hh : c.hd = none) (hr : c.dep + 4 ≤ 990) {x : Str} (ha : Tame x) (hx : x.length ≤ 100000) {i : Int} (h0 : 0 ≤ i) (h1 : i ≤ x.length) (hE : Raises1 σ braceMsg braceEc E) :
    CW B c (callF (.ref 265)) [.str x, .int i] σ VR Q E := by
  end_is "def2"
  intro env c' F hh' hd' hu'
  have hh1 := hh'.trans hh
  end_is "g0@7"
  refine S_swap2 F hh1 ?k1 ?k2 ?_ rfl (by decide) rfl rfl rfl (by with_unfolding_all rfl)
  case k1 => end_is "na"
  case k2 => end_is "na"
  end_is "g1@7"
  refine swp (l1 := ?l1) (l2 := ?l2) ?a ?b ?_
  case a => end_is "np"
  case b => end_is "np"
  end_is "g1@7"
  refine S_while F ?_
  refine whileI (I := fun n l σ' => ∃ (d j : Int) (u : Option V), l = [some (.str x), some (.int i), some (.int d), some (.int j), u, none, none, none] ∧ σ' = σ ∧ 0 < d ∧ 0 ≤ j ∧ j ≤ x.length ∧ n = (x.length - j).toNat) ?_ (n := (x.length - i).toNat) ⟨1, i, none, rfl, rfl, by decide, h0, h1, rfl⟩
  rintro n l σ' ⟨d, j, u, rfl, rfl, hd0, hj0, hj1, hn⟩
  end_is "g1@7"
  refine if_dec (fun hc => ?_) (fun hc => ?_)
  · obtain ⟨t1, t2, t3⟩ := ha.item hj0 hc
    end_is "go@7"
    · exact ⟨_, n - 1, (scan3 hc hn).1, rfl, d + 1, j + 1, _, rfl, rfl, Int.lt_trans hd0 (Int.lt_succ d), Int.le_add_one hj0, hc, (scan3 hc hn).2⟩
    · exact ⟨_, n - 1, (scan3 hc hn).1, rfl, d, j + 1, _, rfl, rfl, hd0, Int.le_add_one hj0, hc, (scan3 hc hn).2⟩
  · end_is "g1@7"
    refine error_k (by assumption) (by end_is "l") fun σ₁ a h1 h2 h3 => ?_
    end_is "g1@7"
    exact erri h1 h2 h3 fun σ₂ k e => hE a σ₂ h1 k e
theorem bare_k {w : World} (hK : B.K = hd.heap_1 w.params) (hh : c.hd = none) (hr : c.dep + 2 ≤ 990) {x : Str} (ha : Tame x) (hx : x.length ≤ 100000) {i : Int} (h0 : 0 ≤ i) (h1 : i ≤ x.length)
    (h : ∀ σ', Keep [] σ σ' → Q (.tup [.str (Txt.join "" (bareGo x (x.length - i).toNat i).1), .int (bareGo x (x.length - i).toNat i).2]) σ') : CW B c (callF (.ref 279)) [.str x, .int i] σ VR Q E := by
  end_is "def2"
  intro env c' F hh' hd' hu'
  have hh1 := hh'.trans hh
  have hlen := bareGo_len x (x.length - i).toNat i
  revert h hlen
  refine opqE (bareGo x (x.length - i).toNat i) fun R hR => ?_
  intro h hlen
  end_is "g1@7"
  intro o ho
  end_is "g1@7"
  refine S_while F ?_
  refine whileI (I := fun n l σ' => ∃ (j : Int) (u : Option V) (acc : List Str), l = [some (.str x), some (.int j), some (.ref o), u, none, none, none] ∧ σ' o = some (.list (acc.map .str)) ∧ Keep [] σ σ' ∧ acc.length ≤ 100000 ∧ 0 ≤ j ∧ j ≤ x.length ∧ n = (x.length - j).toNat ∧ acc ++ (bareGo x n j).1 = R.1 ∧ (bareGo x n j).2 = R.2 ∧ acc.length + n ≤ 100000) ?_ (n := (x.length - i).toNat) ⟨i, none, [], rfl, Store.set_self .., (Keep.refl _ _).new ho, by simp, h0, h1, rfl, by rw [hR]; rfl, by rw [hR], by simp; lia⟩
  rintro n l σ' ⟨j, u, acc, rfl, hso, hk, hacc, hj0, hj1, hn, hb1, hb2, hbn⟩
  refine Wt_cut (decide (j < x.length) && !blank (Txt.item x j)) ?_ ?_
  · end_is "go@7"
    all_goals simp [*]
  · refine ⟨fun hc => ?_, fun hc => ?_⟩
    · rw [Bool.and_eq_true, decide_eq_true_eq, Bool.not_eq_true'] at hc
      obtain ⟨hc, hc2⟩ := hc
      obtain ⟨t1, t2, t3⟩ := ha.item hj0 hc
      end_is "g1@7"
      obtain ⟨m, rfl, hm⟩ := scan1 hc hn
      unfold bareGo at hb1 hb2
      rw [if_pos hc, if_neg (by rw [hc2]; decide)] at hb1 hb2
      refine ⟨_, m, Nat.lt_succ_self _, rfl, j + 1, _, acc ++ [Txt.item x j], rfl, by rw [Store.set_self]; simp, hk.new ho, by simp; lia, Int.le_add_one hj0, hc, hm, ?_, hb2, by simp; lia⟩
      rw [List.append_assoc]; exact hb1
    · have hend : (bareGo x n j) = ([], j) := by
        cases n with
        | zero => rfl
        | succ m =>
          unfold bareGo
          by_cases q : j < x.length
          · rw [if_pos q, if_pos (by cases z : blank (Txt.item x j) with
              | true => rfl
              | false => rw [decide_eq_true q, z] at hc; cases hc)]
          · rw [if_neg q]
      rw [hend] at hb1 hb2
      rw [List.append_nil] at hb1
      end_is "g1@7"
      refine F_join hso ?_ ?_
      · rw [hb1]; exact joinOk1 hlen.1 (Nat.le_trans hlen.2 (by end_is "l"))
      end_is "g1@7"
      have hb2 : j = R.2 := hb2
      rw [hb1, hb2]
      exact h σ' hk
end
end
section
theorem skipF_le (x : Str) (b : Int) : ∀ (n : Nat) (f : Int), f ≤ b → f ≤ skipF x b n f ∧ skipF x b n f ≤ b
  | 0, f, h => ⟨Int.le_refl _, h⟩
  | n + 1, f, h => by
    unfold skipF
    split
    · split
      · have := skipF_le x b n (f + 1) (by lia); exact ⟨by lia, this.2⟩
      · exact ⟨Int.le_refl _, h⟩
    · exact ⟨Int.le_refl _, h⟩
theorem skipF_stop (x : Str) (b : Int) : ∀ (n : Nat) (f : Int), n = (b - f).toNat → skipF x b n f < b → blank (Txt.item x (skipF x b n f)) = false
  | 0, f, hn, h => by unfold skipF at h; lia
  | n + 1, f, hn, h => by
    unfold skipF at h ⊢
    by_cases q : f < b
    · rw [if_pos q] at h ⊢
      by_cases z : blank (Txt.item x f) = true
      · rw [if_pos z] at h ⊢; exact skipF_stop x b n (f + 1) (by lia) h
      · rw [if_neg z] at h ⊢; simpa using z
    · rw [if_neg q] at h; lia
theorem findAt_end {x : Str} {i : Int} (h : i ≤ x.length) {t : Str} {e : Int} (hf : findAt x i = .some t e) : i < e ∧ e ≤ x.length := by
  unfold findAt at hf
  dsimp only at hf
  have hl := skipF_le x x.length (x.length - i).toNat i h
  have hs := skipF_stop x x.length (x.length - i).toNat i rfl
  revert hf hl hs
  refine opq (skipF x x.length (x.length - i).toNat i) fun f => ?_
  intro hf hl hs
  split at hf
  · cases hf
  · rename_i q
    split at hf
    · cases hf
    · cases hf
      have hb := hs (by lia)
      obtain ⟨m, hm⟩ : ∃ m, (x.length - f).toNat = m + 1 := ⟨(x.length - f).toNat - 1, by lia⟩
      rw [hm]
      unfold bareGo
      rw [if_pos (by lia), if_neg (by rw [hb]; decide)]
      have := bareGo_le x m (f + 1) (by lia)
      exact ⟨by show i < (bareGo x m (f + 1)).2; lia, this.2⟩
noncomputable def foundV : Found → V
  | .none => .none
  | .brace => .none
  | .some t e => .tup [.str t, .int e]
noncomputable def fdM (x : Str) : Found → Nat
  | .some _ e => (x.length - e).toNat + 1
  | _ => 0
section
variable {B : Bs} {c : Cx} {σ : Store} {Q : V → Store → Prop} {E : Addr → Store → Prop}
theorem find_k {w : World} (hK : B.K = hd.heap_1 w.params) (hh : c.hd = none) (hr : c.dep + 5 ≤ 990) {x : Str} (ha : Tame x) (hx : x.length ≤ 100000) {i : Int} (h0 : 0 ≤ i) (h1 : i ≤ x.length)
    (h : findAt x i ≠ .brace → ∀ σ', Keep [] σ σ' → Q (foundV (findAt x i)) σ') (hE : findAt x i = .brace → Raises1 σ braceMsg braceEc E) : CW B c (callF (.ref 286)) [.str x, .int i] σ VR Q E := by
  end_is "def2"
  intro env c' F hh' hd' hu'
  have hh1 := hh'.trans hh
  unfold findAt at h hE
  dsimp only at h hE
  have hl := skipF_le x x.length (x.length - i).toNat i h1
  revert h hE hl
  refine opqE (skipF x x.length (x.length - i).toNat i) fun f hfin => ?_
  intro h hE hl
  end_is "g1@8"
  refine S_while F ?_
  refine whileI (I := fun n l σ' => ∃ j : Int, l = [some (.str x), some (.int j), none, none, none, none, none] ∧ σ' = σ ∧ 0 ≤ j ∧ j ≤ x.length ∧ n = (x.length - j).toNat ∧ skipF x x.length n j = f) ?_ (n := (x.length - i).toNat) ⟨i, rfl, rfl, h0, h1, rfl, hfin⟩
  rintro n l σ' ⟨j, rfl, rfl, hj0, hj1, hn, hj2⟩
  refine Wt_cut (decide (j < x.length) && blank (Txt.item x j)) ?_ ?_
  · end_is "go@8"
    all_goals simp [*]
  · refine ⟨fun hc => ?_, fun hc => ?_⟩
    · rw [Bool.and_eq_true, decide_eq_true_eq] at hc
      obtain ⟨hc1, hc2⟩ := hc
      end_is "g1@8"
      obtain ⟨m, rfl, hm⟩ := scan1 hc1 hn
      refine ⟨_, m, Nat.lt_succ_self _, rfl, j + 1, rfl, rfl, Int.le_add_one hj0, hc1, hm, ?_⟩
      rw [← hj2]
      conv => rhs; unfold skipF
      rw [if_pos hc1, if_pos hc2]
    · have hf : j = f := by
        rw [← hj2]
        unfold skipF
        split
        · rfl
        · by_cases q : j < x.length
          · rw [if_pos q, if_neg (by intro z; rw [decide_eq_true q, z] at hc; cases hc)]
          · rw [if_neg q]
      subst hf
      clear hc hj2 hn hfin
      end_is "g1@8"
      refine if_dec (fun hc => ?_) (fun hc => ?_)
      · rw [if_pos hc] at h hE
        end_is "g1@8"
        exact h (by intro z; cases z) σ' (Keep.refl _ _)
      · rw [if_neg hc] at h hE
        obtain ⟨t1, t2, t3⟩ := ha.item hj0 (by end_is "l")
        end_is "g1@8"
        refine if_eq (fun hb => ?_) (fun hb => ?_)
        · rw [if_pos hb] at h hE
          end_is "g1@8"
          exact braced_k hK hh1 (by end_is "l") ha hx (by end_is "l") (by end_is "l") (hE rfl)
        · rw [if_neg hb] at h hE
          end_is "g1@8"
          refine bare_k hK hh1 (by end_is "l") ha hx hj0 hj1 fun σ₁ k => ?_
          end_is "g1@8"
          exact h (by intro z; cases z) σ₁ k
theorem split_k {w : World} (hK : B.K = hd.heap_1 w.params) (hh : c.hd = none) (hr : c.dep + 6 ≤ 990) {x : Str} (ha : Tame x) (hx : x.length ≤ 100000)
    (h : ∀ ts, splitOf x = some ts → ∀ σ' a, σ a = none → Keep [] σ σ' → σ' a = some (.list (ts.map V.str)) → Q (.ref a) σ') (hE : splitOf x = none → Raises1 σ braceMsg braceEc E) : CW B c (callF (.ref 293)) [.str x] σ VR Q E := by
  end_is "def1"
  intro env c' F hh' hd' hu'
  have hh1 := hh'.trans hh
  revert h hE
  refine opqE (splitOf x) fun S hS => ?_
  intro h hE
  unfold splitOf at hS
  end_is "g1@8"
  intro o ho
  end_is "g1@8"
  refine find_k hK hh1 (by end_is "l") ha hx (by end_is "l") (by end_is "l") (fun hb σ₁ k => ?_) (fun hb => ?_)
  · end_is "g1@8"
    refine S_while F ?_
    refine whileI (I := fun n l σ' => ∃ (fd : Found) (acc : List Str) (k : Nat), l = [some (.str x), some (.ref o), some (foundV fd), none] ∧ σ' o = some (.list (acc.map .str)) ∧ Keep [] σ σ' ∧ fd ≠ .brace ∧ (∀ t e, fd = .some t e → 0 ≤ e ∧ e ≤ x.length) ∧ splitGo x k fd acc = S ∧ fdM x fd ≤ k ∧ n = k ∧ acc.length + k ≤ 100001) ?_ (n := x.length + 1) ⟨findAt x 0, [], x.length + 1, rfl, k.at (Store.set_self ..) (by simp), ((Keep.refl [] σ).new ho).trans k, hb, fun t e q => ⟨by have := findAt_end (by end_is "l") q; lia, (findAt_end (by end_is "l") q).2⟩, hS, ?_, rfl, by simp; lia⟩
    · rintro n l σ' ⟨fd, acc, k, rfl, hso, hk, hb, hpos, hgo, hm, rfl, hacc⟩
      cases fd with
      | brace => exact absurd rfl hb
      | none =>
        have hgo : some acc = S := by unfold splitGo at hgo; exact hgo
        simp only [foundV]
        end_is "go@8"
        exact h acc hgo.symm σ' o ho hk hso
      | some t e =>
        obtain ⟨he0, he1⟩ := hpos t e rfl
        have hm : (x.length - e).toNat + 1 ≤ n := hm
        obtain ⟨m, rfl⟩ : ∃ m, n = m + 1 := ⟨n - 1, by lia⟩
        unfold splitGo at hgo
        simp only [foundV]
        have hal : acc.length ≤ 100000 := by lia
        end_is "go@8"
        refine find_k hK hh1 (by end_is "l") ha hx he0 he1 (fun hb σ₂ k₂ => ?_) (fun hb => ?_)
        · end_is "g1@8"
          refine ⟨_, m, Nat.lt_succ_self _, rfl, findAt x e, acc ++ [t], m, rfl, ?_, ?_, hb, fun t' e' q => ?_, hgo, ?_, rfl, by simp; lia⟩
          · rw [k₂.at (Store.set_self ..) (by simp)]; simp
          · exact (hk.new ho).trans k₂
          · have := findAt_end he1 q; exact ⟨by lia, this.2⟩
          · cases q : findAt x e with
            | none => exact Nat.zero_le _
            | brace => exact Nat.zero_le _
            | some t' e' => have := findAt_end he1 q; show (x.length - e').toNat + 1 ≤ m; lia
        · rw [hb] at hgo
          have hgo : none = S := by cases m <;> exact hgo
          exact (hE hgo.symm).lift (hk.new ho)
    · cases q : findAt x 0 with
      | none => exact Nat.zero_le _
      | brace => exact Nat.zero_le _
      | some t' e' => have := findAt_end (x := x) (i := 0) (by end_is "l") q; show (x.length - e').toNat + 1 ≤ x.length + 1; lia
  · rw [hb] at hS
    have hS : none = S := hS
    exact (hE hS.symm).lift ((Keep.refl [] σ).new ho)
end
end
section
inductive Out where
  | val (x : Str)
  | err (code : Int) (val : Str) (ec : List V) (lv : Int)
  | over
noncomputable def Post (X : List Addr) (σ : Store) (Q : V → Store → Prop) (E : Addr → Store → Prop) : Out → Prop
  | .val x => ∀ σ', Keep X σ σ' → Q (.str x) σ'
  | .err c v ec lv => ∀ a σ', σ a = none → Keep X σ σ' → ErrIs σ' true a c v ec lv → E a σ'
  | .over => False
noncomputable def opShown (x : Str) : Str := if x = "" then "empty string" else Str.empty ++ "non-numeric string \"" ++ x ++ "\""
noncomputable def opMsg (op x : Str) : Str := Str.empty ++ "can't use " ++ opShown x ++ " as operand of \"" ++ op ++ "\""
noncomputable def opEc (x : Str) : List V := [.str "ARITH", .str "DOMAIN", .str (if x = "" then "empty string" else "non-numeric string")]
noncomputable def opFault (op x : Str) : Out := .err 1 (opMsg op x) (opEc x) 0
noncomputable def numTxt (n : Int) : Out := if n.natAbs.log2 < 1920 then .val (toString n : String) else .over
noncomputable def unaryOf (op a : Str) : Out :=
  if op = "!" then (match boolOf a with | none => opFault op a | some b => .val (bit (!b)))
  else match wholeOf a with | none => opFault op a | some n => if op = "-" then numTxt (-n) else numTxt n
theorem ln_empty : Str.empty.length ≤ 0 := Nat.le_refl _
section
variable {B : Bs} {c : Cx} {env : Env} {ρ : Loc} {σ : Store} {Q : V → Store → Prop} {E : Addr → Store → Prop}
theorem j_cons {e : Expr} {rest : List Expr} {out : Str} (h : Wx B c env e ρ σ (fun v σ₁ => ∃ y, v = .str y ∧ (out ++ y).length ≤ sizeLine ∧ JoinW B c env ρ Q E rest (out ++ y) σ₁) E) : JoinW B c env ρ Q E (e :: rest) out σ := h
theorem j_nil {out : Str} {n : Nat} (a : out.length ≤ n) (k : n ≤ sizeLine) (h : Q (.str out) σ) : JoinW B c env ρ Q E [] out σ := ⟨Nat.le_trans a k, h⟩
theorem j_put {out y : Str} {n m : Nat} {P : Str → Prop} (a : out.length ≤ n) (b : y.length ≤ m) (k : n + m ≤ sizeLine) (h : P y) : ∃ y', V.str y = .str y' ∧ (out ++ y').length ≤ sizeLine ∧ P y' := ⟨y, rfl, Nat.le_trans (Ln_app a b) k, h⟩
theorem j_fmt {y : Str} {m : Nat} {P : Str → Prop} (b : y.length ≤ m) (k : m ≤ sizeLine) (h : P y) : ∃ y', V.str y = .str y' ∧ y'.length ≤ sizeLine ∧ P y' := ⟨y, rfl, Nat.le_trans b k, h⟩
end
theorem opShown_len {x : Str} (hx : x.length ≤ 100000) : (opShown x).length ≤ 100500 := by
  unfold opShown
  split
  · decide +kernel
  · exact Nat.le_trans (Ln_app (Ln_app (Ln_app ln_empty (ln_lit _ (by decide +kernel))) hx) (ln_lit _ (by decide +kernel))) (by decide)
theorem post_num {X : List Addr} {σ : Store} {Q : V → Store → Prop} {E : Addr → Store → Prop} {n : Int} (h : Post X σ Q E (numTxt n)) : n.natAbs.log2 < 1920 ∧ ∀ σ', Keep X σ σ' → Q (.str (toString n : String)) σ' := by
  unfold numTxt at h
  by_cases q : n.natAbs.log2 < 1920
  · rw [if_pos q] at h; exact ⟨q, h⟩
  · rw [if_neg q] at h; exact h.elim
noncomputable def arithOf (op : Str) (l r : Int) : Int := if op = "+" then l + r else if op = "-" then l - r else if op = "*" then l * r else Builtin.bitAnd l r
noncomputable def textOrder (a b : Str) : Int := if a = b then 0 else if a.cps.toList < b.cps.toList then -1 else 1
noncomputable def orderOf (a b : Str) : Int := match wholeOf a, wholeOf b with
  | some l, some r => l - r
  | _, _ => textOrder a b
noncomputable def relOf (op : Str) (o : Int) : Bool :=
  if op = "==" ∨ op = "eq" then (o == 0) else if op = "!=" ∨ op = "ne" then (o != 0) else if op = "<" ∨ op = "lt" then decide (o < 0)
  else if op = "<=" ∨ op = "le" then decide (o ≤ 0) else if op = ">" ∨ op = "gt" then decide (0 < o) else decide (0 ≤ o)
noncomputable def numRel (op : Str) : Bool := [("==" : Str), "!=", "<", "<=", ">", ">="].any (· == op)
noncomputable def txtRel (op : Str) : Bool := [("eq" : Str), "ne", "lt", "le", "gt", "ge"].any (· == op)
noncomputable def inRel (op : Str) : Bool := [("in" : Str), "ni"].any (· == op)
noncomputable def binaryOf (op a b : Str) : Out :=
  if numRel op = true then .val (bit (relOf op (orderOf a b)))
  else if txtRel op = true then .val (bit (relOf op (textOrder a b)))
  else if inRel op = true then (match splitOf b with | none => .err 1 braceMsg braceEc 0 | some ts => .val (bit (ts.any (· == a) == (op == "in"))))
  else match wholeOf a with
    | none => opFault op a
    | some l => match wholeOf b with
      | none => opFault op b
      | some r => numTxt (arithOf op l r)
section
variable {B : Bs} {c : Cx} {σ : Store} {Q : V → Store → Prop} {E : Addr → Store → Prop}
theorem operand_fault_k {w : World} (hK : B.K = hd.heap_1 w.params) (hh : c.hd = none) (hr : c.dep + 4 ≤ 990) {op x : Str} (ho : op.length ≤ 10) (hx : x.length ≤ 100000)
    (h : ∀ σ' a, σ a = none → Keep [] σ σ' → ErrIs σ' false a 1 (opMsg op x) (opEc x) 0 → Q (.ref a) σ') : CW B c (callF (.ref 300)) [.str op, .str x] σ VR Q E := by
  end_is "def2"
  intro env c' F hh' hd' hu'
  have hh1 := hh'.trans hh
  have he : Str.empty.length ≤ 0 := ln_empty
  have hs := opShown_len hx
  end_is "g0@9"
  refine S_swap2 F hh1 ?k1 ?k2 ?_ rfl (by decide) rfl rfl rfl (by with_unfolding_all rfl)
  case k1 => end_is "na"
  case k2 => end_is "na"
  end_is "g1@9"
  refine swp (l1 := ?l1) (l2 := ?l2) ?a ?b ?_
  case a => end_is "np"
  case b => end_is "np"
  end_is "g0@9"
  refine S_cut' [some (.str op), some (.str x), some (.str (if x = "" then "empty string" else "non-numeric string")), some (.str (opShown x)), none] ?_ ?_
  · end_is "g1@9"
    refine if_eq (fun hc => ?_) (fun hc => ?_)
    · end_is "g1@9"
      refine Ws_tuple F.ok hh1 ?_ (by with_unfolding_all rfl) (noSwap2 F (by with_unfolding_all rfl))
      end_is "g1@9"
      refine T_tup (l' := ?l') F (.name (.name .nil)) ?a rfl rfl ?_
      case a => end_is "nas"
      refine atEnd ?_
      unfold opShown
      rw [if_pos hc, if_pos hc]
    · end_is "g1@9"
      refine atEnd ?_
      unfold opShown
      rw [if_neg hc, if_neg hc]
  · end_is "g1@9"
    refine error_k (by assumption) (by end_is "l") fun σ₁ a h1 h2 h3 => ?_
    end_is "g1@9"
    exact h σ₁ a h1 h2 h3
theorem operand_k {w : World} (hK : B.K = hd.heap_1 w.params) (hh : c.hd = none) (hr : c.dep + 5 ≤ 990) {op x : Str} (ho : op.length ≤ 10) (ha : Asc x) (hx : x.length ≤ 100000)
    (h : ∀ n, wholeOf x = some n → Q (.int n) σ) (hE : wholeOf x = none → ∀ a σ', σ a = none → Keep [] σ σ' → ErrIs σ' true a 1 (opMsg op x) (opEc x) 0 → E a σ') : CW B c (callF (.ref 307)) [.str op, .str x] σ VR Q E := by
  end_is "def2"
  intro env c' F hh' hd' hu'
  have hh1 := hh'.trans hh
  end_is "g0@9"
  cases hw : wholeOf x with
  | none =>
    simp only [optInt]
    end_is "go@9"
    refine operand_fault_k (by assumption) hh1 (by end_is "l") ho hx fun σ₁ a h1 h2 h3 => ?_
    end_is "g1@9"
    exact erri h1 h2 h3 fun σ₂ k e => hE hw a σ₂ h1 k e
  | some n =>
    simp only [optInt]
    end_is "go@9"
    exact h n hw
theorem unary_k {w : World} (hK : B.K = hd.heap_1 w.params) (hh : c.hd = none) (hr : c.dep + 6 ≤ 990) {op x : Str} (hop : op = "!" ∨ op = "-" ∨ op = "+") (ha : Asc x) (hx : x.length ≤ 100000)
    (h : Post [] σ Q E (unaryOf op x)) : CW B c (callF (.ref 314)) [.str op, .str x] σ VR Q E := by
  have ho : op.length ≤ 10 := by rcases hop with rfl | rfl | rfl <;> decide +kernel
  end_is "def2"
  intro env c' F hh' hd' hu'
  have hh1 := hh'.trans hh
  unfold unaryOf at h
  end_is "g1@9"
  refine if_eq (fun hc => ?_) (fun hc => ?_)
  · rw [if_pos hc] at h
    end_is "g0@9"
    cases hw : boolOf x with
    | none =>
      rw [hw] at h
      simp only [optBool]
      end_is "go@9"
      refine operand_fault_k (by assumption) hh1 (by end_is "l") ho hx fun σ₁ a h1 h2 h3 => ?_
      end_is "g1@9"
      exact erri h1 h2 h3 fun σ₂ k e => h a σ₂ h1 k e
    | some b =>
      rw [hw] at h
      simp only [optBool]
      end_is "go@9"
      refine text_of_k (by assumption) (by end_is "l") ?_
      end_is "g1@9"
      exact h σ (Keep.refl _ _)
  · rw [if_neg hc] at h
    have h1 : op ≠ "~" := by rcases hop with rfl | rfl | rfl <;> decide
    end_is "g1@9"
    refine operand_k (by assumption) hh1 (by end_is "l") ho ha hx (fun n hn => ?_) (fun hn => ?_)
    · rw [hn] at h
      end_is "g1@9"
      refine if_eq (fun hc2 => ?_) (fun hc2 => ?_)
      · have h : Post [] σ Q E (if op = "-" then numTxt (-n) else numTxt n) := h
        rw [if_pos hc2] at h
        obtain ⟨hs, h⟩ := post_num h
        end_is "g1@9"
        exact h σ (Keep.refl _ _)
      · have h : Post [] σ Q E (if op = "-" then numTxt (-n) else numTxt n) := h
        rw [if_neg hc2] at h
        obtain ⟨hs, h⟩ := post_num h
        have h2 : op = "+" := hop.elim (fun e => absurd e hc) fun e => e.elim (fun e => absurd e hc2) id
        end_is "go@9"
        exact h σ (Keep.refl _ _)
    · rw [hn] at h
      exact h
theorem text_order_k {w : World} (hK : B.K = hd.heap_1 w.params) (hr : c.dep + 1 ≤ 990) {a b : Str} (h : Q (.int (textOrder a b)) σ) : CW B c (callF (.ref 363)) [.str a, .str b] σ VR Q E := by
  end_is "def2"
  intro env c' F hh' hd' hu'
  unfold textOrder at h
  end_is "go@9"
  all_goals ((repeat' (split at h)) <;> first | exact h | (exfalso; simp_all; done))
theorem relation_k {w : World} (hK : B.K = hd.heap_1 w.params) (hr : c.dep + 1 ≤ 990) {op : Str} {o : Int} (h : Q (.bool (relOf op o)) σ) : CW B c (callF (.ref 377)) [.str op, .int o] σ VR Q E := by
  end_is "def2"
  intro env c' F hh' hd' hu'
  unfold relOf at h
  end_is "go@9"
  all_goals first | exact h | (simp only [*, if_true, if_false, or_true, true_or, or_self, reduceIte] at h; exact h) | trace_state
end
end
section
noncomputable def arith4 (op : Str) : Prop := op = "+" ∨ op = "-" ∨ op = "*" ∨ op = "&"
section
variable {B : Bs} {c : Cx} {σ : Store} {Q : V → Store → Prop} {E : Addr → Store → Prop}
theorem arithmetic_k {w : World} (hK : B.K = hd.heap_1 w.params) (hr : c.dep + 1 ≤ 990) {op : Str} {l r : Int} (hop : arith4 op) (hm : IntMulOk l r) (h : Q (.int (arithOf op l r)) σ) : CW B c (callF (.ref 356)) [.str op, .int l, .int r] σ VR Q E := by
  have h1 : op ≠ "/" := by rcases hop with rfl | rfl | rfl | rfl <;> decide
  have h2 : op ≠ "%" := by rcases hop with rfl | rfl | rfl | rfl <;> decide
  have h3 : op ≠ "**" := by rcases hop with rfl | rfl | rfl | rfl <;> decide
  have h4 : op ≠ "<<" := by rcases hop with rfl | rfl | rfl | rfl <;> decide
  have h5 : op ≠ ">>" := by rcases hop with rfl | rfl | rfl | rfl <;> decide
  end_is "def3"
  intro env c' F hh' hd' hu'
  unfold arithOf at h
  end_is "g1@10"
  refine if_eq (fun hc => ?_) (fun hc => ?_)
  · rw [if_pos hc] at h
    end_is "g1@10"
    exact h
  · rw [if_neg hc] at h
    end_is "g1@10"
    refine if_eq (fun hc2 => ?_) (fun hc2 => ?_)
    · rw [if_pos hc2] at h
      end_is "g1@10"
      exact h
    · rw [if_neg hc2] at h
      end_is "g1@10"
      refine if_eq (fun hc3 => ?_) (fun hc3 => ?_)
      · rw [if_pos hc3] at h
        end_is "g1@10"
        exact h
      · rw [if_neg hc3] at h
        have hc4 : op = "&" := hop.elim (fun e => absurd e hc) fun e => e.elim (fun e => absurd e hc2) fun e => e.elim (fun e => absurd e hc3) id
        end_is "g1@10"
        exact h
theorem order_of_k {w : World} (hK : B.K = hd.heap_1 w.params) (hh : c.hd = none) (hr : c.dep + 4 ≤ 990) {a b : Str} (ha : Asc a) (hx : a.length ≤ 100000) (hb : Asc b) (hy : b.length ≤ 100000) (h : Q (.int (orderOf a b)) σ) : CW B c (callF (.ref 370)) [.str a, .str b] σ VR Q E := by
  end_is "def2"
  intro env c' F hh' hd' hu'
  have hh1 := hh'.trans hh
  unfold orderOf at h
  end_is "g0@10"
  cases h1 : wholeOf a with
  | none =>
    rw [h1] at h
    have h : Q (.int (textOrder a b)) σ := by cases q : wholeOf b <;> (rw [q] at h; exact h)
    simp only [optInt]
    end_is "go@10"
    all_goals exact h
  | some l =>
    cases h2 : wholeOf b with
    | none =>
      rw [h1, h2] at h
      simp only [optInt]
      end_is "go@10"
      exact h
    | some r =>
      rw [h1, h2] at h
      simp only [optInt]
      end_is "go@10"
      exact h
theorem binary_k {w : World} (hK : B.K = hd.heap_1 w.params) (hh : c.hd = none) (hr : c.dep + 8 ≤ 990) {op a b : Str} (hop : numRel op = true ∨ txtRel op = true ∨ inRel op = true ∨ arith4 op) (hol : op.length ≤ 10) (ha : Tame a) (hx : a.length ≤ 100000) (hb : Tame b) (hy : b.length ≤ 100000)
    (hm : ∀ l r, wholeOf a = some l → wholeOf b = some r → IntMulOk l r) (h : Post [] σ Q E (binaryOf op a b)) : CW B c (callF (.ref 384)) [.str op, .str a, .str b] σ VR Q E := by
  have ha' := ha.asc
  have hb' := hb.asc
  end_is "def3"
  intro env c' F hh' hd' hu'
  have hh1 := hh'.trans hh
  unfold binaryOf at h
  end_is "g1@10"
  refine if_split (fun hc => ?_) (fun hc => ?_)
  · have hc : numRel op = true := hc
    rw [if_pos hc] at h
    end_is "g1@10"
    refine order_of_k (by assumption) hh1 (by end_is "l") ha' hx hb' hy ?_
    end_is "g1@10"
    exact h σ (Keep.refl _ _)
  · have hc : numRel op = false := hc
    rw [if_neg (by rw [hc]; decide)] at h
    end_is "g1@10"
    refine if_split (fun hc2 => ?_) (fun hc2 => ?_)
    · have hc2 : txtRel op = true := hc2
      rw [if_pos hc2] at h
      end_is "g1@10"
      exact h σ (Keep.refl _ _)
    · have hc2 : txtRel op = false := hc2
      rw [if_neg (by rw [hc2]; decide)] at h
      end_is "g1@10"
      refine if_split (fun hc3 => ?_) (fun hc3 => ?_)
      · have hc3 : inRel op = true := hc3
        rw [if_pos hc3] at h
        end_is "g1@10"
        refine split_k (by assumption) hh1 (by end_is "l") hb hy (fun ts hts σ₁ o ho k hso => ?_) (fun hts => ?_)
        · rw [hts] at h
          refine O_inList hso ?_
          end_is "g1@10"
          exact h σ₁ k
        · rw [hts] at h
          exact h
      · have hc3 : inRel op = false := hc3
        rw [if_neg (by rw [hc3]; decide)] at h
        have ho : arith4 op := by rcases hop with e | e | e | e <;> first | exact e | (rw [e] at hc; cases hc; done) | (rw [e] at hc2; cases hc2; done) | (rw [e] at hc3; cases hc3; done)
        end_is "g1@10"
        refine operand_k (by assumption) hh1 (by end_is "l") hol ha' hx (fun l hl => ?_) (fun hl => ?_)
        · rw [hl] at h
          end_is "g1@10"
          refine operand_k (by assumption) hh1 (by end_is "l") hol hb' hy (fun r hr2 => ?_) (fun hr2 => ?_)
          · rw [hr2] at h
            have h : Post [] σ Q E (numTxt (arithOf op l r)) := h
            obtain ⟨hs, h⟩ := post_num h
            end_is "g1@10"
            refine arithmetic_k (by assumption) (by end_is "l") ho (hm l r hl hr2) ?_
            end_is "g1@10"
            exact h σ (Keep.refl _ _)
          · rw [hr2] at h
            exact h
        · rw [hl] at h
          exact h
end
end
section
noncomputable def numMsg (x : Str) : Str := Str.empty ++ "expected number but got \"" ++ x ++ "\""
noncomputable def numEc : List V := [.str "TCL", .str "VALUE", .str "NUMBER"]
noncomputable def numErr (x : Str) : Out := .err 1 (numMsg x) numEc 0
noncomputable def fnRows : AL := [("abs", .tup [.int 1, .int 1]), ("bool", .tup [.int 1, .int 1]), ("entier", .tup [.int 1, .int 1]), ("int", .tup [.int 1, .int 1]), ("isqrt", .tup [.int 1, .int 1]), ("max", .tup [.int 1, .int (-1)]), ("min", .tup [.int 1, .int (-1)]), ("wide", .tup [.int 1, .int 1])]
noncomputable def fnVal (name : Str) : List Int → Int
  | [n] => n
  | [m, n] => if name = "max" then (if n > m then n else m) else if name = "min" then (if n < m then n else m) else m
  | _ => 0
section
variable {B : Bs} {c : Cx} {env : Env} {ρ : Loc} {σ : Store} {Q : V → Store → Prop} {E : Addr → Store → Prop}
theorem dw_cons {k : Expr} {ks : List (Option Expr)} {v : Expr} {vs : List Expr} {P : AL → Store → Prop} (h : Wx B c env k ρ σ (fun kv σ₁ => ∃ x, kv = .str x ∧ Wx B c env v ρ σ₁ (fun vv σ₂ => DW B c env ρ E ks vs (fun r σ₃ => P ((x, vv) :: r) σ₃) σ₂) E) E) : DW B c env ρ E (some k :: ks) (v :: vs) P σ := h
theorem dw_nil {P : AL → Store → Prop} (h : P [] σ) : DW B c env ρ E [] [] P σ := h
theorem ex_str {x : Str} {P : Str → Prop} (h : P x) : ∃ y, V.str x = .str y ∧ P y := ⟨x, rfl, h⟩
theorem dict_done {al : AL} {d : Addr} {P : Prop} (h1 : (al.map (·.1)).Nodup) (h2 : σ d = some (.dict [])) (h3 : P) : (al.map (·.1)).Nodup ∧ σ d = some (.dict []) ∧ P := ⟨h1, h2, h3⟩
end
noncomputable def call1Of (name x : Str) : Out := if name = "bool" then (match boolOf x with | none => .err 1 (boolMsg x) boolEc 0 | some b => .val (bit b)) else match wholeOf x with | none => numErr x | some n => numTxt n
noncomputable def call2Of (name x y : Str) : Out := match wholeOf x with | none => numErr x | some m => match wholeOf y with | none => numErr y | some n => numTxt (fnVal name [m, n])
section
variable {B : Bs} {c : Cx} {σ : Store} {Q : V → Store → Prop} {E : Addr → Store → Prop}
theorem function_rows_k {w : World} (hK : B.K = hd.heap_1 w.params) (hr : c.dep + 1 ≤ 990) (h : ∀ d, σ d = none → Q (.ref d) (σ.set d (.dict fnRows))) : CW B c (callF (.ref 391)) [] σ VR Q E := by
  end_is "def0"
  intro env c' F hh' hd' hu'
  end_is "g1@11"
  intro d hd
  end_is "g1@11"
  refine dict_done (by decide) (Store.set_self _ _ _) ?_
  rw [set_set]
  exact h d hd
theorem need_number_k {w : World} (hK : B.K = hd.heap_1 w.params) (hh : c.hd = none) (hr : c.dep + 5 ≤ 990) {x : Str} (ha : Asc x) (hx : x.length ≤ 100000) (h : ∀ n, wholeOf x = some n → Q (.int n) σ) (hE : wholeOf x = none → Raises1 σ (numMsg x) numEc E) : CW B c (callF (.ref 398)) [.str x] σ VR Q E := by
  end_is "def1"
  intro env c' F hh' hd' hu'
  have hh1 := hh'.trans hh
  have he : Str.empty.length ≤ 0 := ln_empty
  end_is "g0@11"
  cases hw : wholeOf x with
  | none =>
    simp only [optInt]
    end_is "go@11"
    refine error_k (by assumption) (by end_is "l") fun σ' a h1 h2 h3 => ?_
    end_is "g1@11"
    exact erri h1 h2 h3 fun σ₂ k e => hE hw a σ₂ h1 k e
  | some n =>
    simp only [optInt]
    end_is "go@11"
    exact h n hw
theorem function_value1_k {w : World} (hK : B.K = hd.heap_1 w.params) (hh : c.hd = none) (hr : c.dep + 1 ≤ 990) {name : Str} (hn : name = "max" ∨ name = "min" ∨ name = "entier" ∨ name = "int") {a : Addr} {n : Int} (ha : σ a = some (.list [.int n])) (h : Q (.int n) σ) : CW B c (callF (.ref 412)) [.str name, .ref a] σ VR Q E := by
  end_is "def2"
  intro env c' F hh' hd' hu'
  have hh1 := hh'.trans hh
  rcases hn with rfl | rfl | rfl | rfl <;> (end_is "go@11"; exact h)
theorem function_value2_k {w : World} (hK : B.K = hd.heap_1 w.params) (hh : c.hd = none) (hr : c.dep + 1 ≤ 990) {name : Str} (hn : name = "max" ∨ name = "min") {a : Addr} {m n : Int} (ha : σ a = some (.list [.int m, .int n])) (h : Q (.int (fnVal name [m, n])) σ) : CW B c (callF (.ref 412)) [.str name, .ref a] σ VR Q E := by
  end_is "def2"
  intro env c' F hh' hd' hu'
  have hh1 := hh'.trans hh
  rcases hn with rfl | rfl <;> (end_is "go@11"; exact h)
end
end
section
theorem forL_nameK {B : Bs} {c : Cx} {env : Env} {N : List (Str × NameKind)} {l : List (Option V)} {σ : Store} {Q : Fl → Loc → Store → Prop} {E : Addr → Loc → Store → Prop} {x : Str} {p : Pos} {body : List Stmt} {chk : Store → Prop} {v : V} {vs : List V} {l' : List (Option V)} (F : EnvS c env N) (hc : chk σ) (a : NP N l x v l') (h : Wss B c env body (zs N l') σ (loopK Q (ForL B c env (.Name x p) body chk Q E vs)) E) : ForL B c env (.Name x p) body chk Q E (v :: vs) (zs N l) σ := ⟨hc, T_name F a h⟩
theorem itb_list {a : Addr} {l : List V} {σ : Store} {B : Bs} {c : Cx} {env : Env} {target : Expr} {body : List Stmt} {ρ : Loc} {Q : Fl → Loc → Store → Prop} {E : Addr → Loc → Store → Prop} (ha : σ a = some (.list l)) (h : ForL B c env target body (fun σ' => σ' a = some (.list l)) Q E l ρ σ) : Kfor B c env target body ρ Q E (.ref a) σ := ⟨l, _, .list ha, h⟩
theorem row_tw : (getA "twice" fnRows).getD V.none = V.none := by rfl
theorem row_no : (getA "nope" fnRows).getD V.none = V.none := by rfl
theorem row_bo : (getA "bool" fnRows).getD V.none = .tup [.int 1, .int 1] := by rfl
theorem row_en : (getA "entier" fnRows).getD V.none = .tup [.int 1, .int 1] := by rfl
theorem row_in : (getA "int" fnRows).getD V.none = .tup [.int 1, .int 1] := by rfl
theorem row_ma : (getA "max" fnRows).getD V.none = .tup [.int 1, .int (-1)] := by rfl
theorem row_mi : (getA "min" fnRows).getD V.none = .tup [.int 1, .int (-1)] := by rfl
theorem if_dT {p : Prop} [Decidable p] {P R : Prop} (e : decide p = true) (h : P) : (decide p = true → P) ∧ (decide p = false → R) := ⟨fun _ => h, fun z => (by rw [e] at z; cases z)⟩
theorem if_dF {p : Prop} [Decidable p] {P R : Prop} (e : decide p = false) (h : R) : (decide p = true → P) ∧ (decide p = false → R) := ⟨fun z => (by rw [e] at z; cases z), fun _ => h⟩
section
variable {B : Bs} {c : Cx} {σ : Store} {Q : V → Store → Prop} {E : Addr → Store → Prop}
theorem callN_k {w : World} (hK : B.K = hd.heap_1 w.params) (hr : c.dep + 2 ≤ 990) {name : Str} (hn : name = "twice" ∨ name = "nope") {a : Addr} (h : ∀ σ', Keep [] σ σ' → Q .none σ') : CW B c (callF (.ref 426)) [.str name, .ref a] σ VR Q E := by
  end_is "def2"
  intro env c' F hh' hd' hu'
  end_is "g1@12"
  refine function_rows_k (by assumption) (by end_is "l") fun d hd => ?_
  rcases hn with rfl | rfl
  · end_is "g0@12"
    rw [row_tw]
    end_is "go@12"
    exact h _ (Keep.new (Keep.refl _ _) hd)
  · end_is "g0@12"
    rw [row_no]
    end_is "go@12"
    exact h _ (Keep.new (Keep.refl _ _) hd)
theorem call1_k {w : World} (hK : B.K = hd.heap_1 w.params) (hh : c.hd = none) (hr : c.dep + 8 ≤ 990) {name : Str} (hn : name = "bool" ∨ name = "max" ∨ name = "min" ∨ name = "entier" ∨ name = "int") {a : Addr} {x : Str} (hx : Asc x) (hl : x.length ≤ 100000) (ha : σ a = some (.list [.str x])) (h : Post [] σ Q E (call1Of name x)) : CW B c (callF (.ref 426)) [.str name, .ref a] σ VR Q E := by
  end_is "def2"
  intro env c' F hh' hd' hu'
  have hh1 := hh'.trans hh
  end_is "g1@12"
  refine function_rows_k (by assumption) (by end_is "l") fun d hd => ?_
  unfold call1Of at h
  rcases hn with rfl | rfl | rfl | rfl | rfl
  · end_is "g0@12"
    rw [row_bo]
    end_is "go@12"
    refine need_bool_k (by assumption) hh1 (by end_is "l") hx hl (fun b hb => ?_) (fun hb => ?_)
    · rw [if_pos rfl, hb] at h
      end_is "go@12"
      exact h _ (Keep.new (Keep.refl _ _) hd)
    · rw [if_pos rfl, hb] at h
      exact Raises1.lift (Keep.new (Keep.refl _ _) hd) h
  all_goals
    rw [if_neg (by decide)] at h
    end_is "g0@12"
    first | rw [row_ma] | rw [row_mi] | rw [row_en] | rw [row_in]
    end_is "go@12"
    intro v hv
    obtain ⟨hvd, hv⟩ := set_none hv
    have hav := (ne_some hv ha).symm
    have had := (ne_some hd ha).symm
    end_is "go@12"
    refine need_number_k (by assumption) hh1 (by end_is "l") hx hl (fun n hn => ?_) (fun hn => ?_)
    · rw [hn] at h
      obtain ⟨hs, h⟩ := post_num h
      end_is "go@12"
      refine function_value1_k (n := n) (by assumption) hh1 (by end_is "l") (by simp) ?_ ?_
      · simp only [set_set, List.nil_append]; end_is "st"
      · end_is "go@12"
        simp only [set_set]
        exact h _ (Keep.new (Keep.new (Keep.refl _ _) hd) hv)
    · rw [hn] at h
      exact Raises1.lift (Keep.new (Keep.new (Keep.refl _ _) hd) hv) h
theorem call2_k {w : World} (hK : B.K = hd.heap_1 w.params) (hh : c.hd = none) (hr : c.dep + 8 ≤ 990) {name : Str} (hn : name = "max" ∨ name = "min") {a : Addr} {x y : Str} (hx : Asc x) (hl : x.length ≤ 100000) (hy : Asc y) (hl2 : y.length ≤ 100000) (ha : σ a = some (.list [.str x, .str y])) (h : Post [] σ Q E (call2Of name x y)) : CW B c (callF (.ref 426)) [.str name, .ref a] σ VR Q E := by
  end_is "def2"
  intro env c' F hh' hd' hu'
  have hh1 := hh'.trans hh
  end_is "g1@12"
  refine function_rows_k (by assumption) (by end_is "l") fun d hd => ?_
  unfold call2Of at h
  rcases hn with rfl | rfl
  all_goals
    end_is "g0@12"
    first | rw [row_ma] | rw [row_mi]
    end_is "go@12"
    intro v hv
    obtain ⟨hvd, hv⟩ := set_none hv
    have hav := (ne_some hv ha).symm
    have had := (ne_some hd ha).symm
    end_is "go@12"
    refine need_number_k (by assumption) hh1 (by end_is "l") hx hl (fun m hm => ?_) (fun hm => ?_)
    · rw [hm] at h
      end_is "go@12"
      simp only [set_set, List.nil_append]
      end_is "go@12"
      refine need_number_k (by assumption) hh1 (by end_is "l") hy hl2 (fun n hn => ?_) (fun hn => ?_)
      · have h : Post [] σ Q E (match wholeOf y with | none => numErr y | some n => _) := h
        rw [hn] at h
        obtain ⟨hs, h⟩ := post_num h
        end_is "go@12"
        refine function_value2_k (m := m) (n := n) (by assumption) hh1 (by end_is "l") (by simp) ?_ ?_
        · simp only [set_set, List.nil_append, List.cons_append]; end_is "st"
        · end_is "go@12"
          simp only [set_set]
          exact h _ (Keep.new (Keep.new (Keep.refl _ _) hd) hv)
      · have h : Post [] σ Q E (match wholeOf y with | none => numErr y | some n => _) := h
        rw [hn] at h
        exact Raises1.lift (Keep.new (Keep.new (Keep.refl _ _) hd) hv) h
    · rw [hm] at h
      exact Raises1.lift (Keep.new (Keep.new (Keep.refl _ _) hd) hv) h
end
end
section
noncomputable def hostKV (T I VB CB FB : Addr) (dep n : Int) : AL := [("tools", .ref T), ("inline", .ref I), ("limit", .int 40), ("fuel", .none), ("depth", .int dep), ("spent", .int n), ("epoch", .int 0), ("frame", .none), ("coroutine", .none), ("vars", .ref VB), ("commands", .ref CB), ("firsts", .ref FB)]
noncomputable def varKV (k v : Str) (TR : Addr) (n : Int) : AL := [("kind", .str k), ("value", .str v), ("traces", .ref TR), ("is_busy", .bool false), ("is_element", .bool false), ("writes", .int n)]
theorem SG (w : World) : findIn (hd.heap_1 w.params) (.ref 691) "__getattribute__" = some (some (.builtin "object.__getattribute__")) := by k_is
theorem SG2 (w : World) : findIn (hd.heap_1 w.params) (.ref 691) "__getattr__" = some none := by k_is
theorem SS (w : World) : findIn (hd.heap_1 w.params) (.ref 691) "__setattr__" = some (some (.builtin "object.__setattr__")) := by k_is
theorem SP (w : World) : plainOver (hd.heap_1 w.params) 691 = true := by k_is
theorem SD (w : World) : (clsIn (hd.heap_1 w.params) 691).any (·.hasDict) = true := by
  have h : hasDictIn (hd.heap_1 w.params) 691 = true := by k_is
  exact h
theorem VG (w : World) : findIn (hd.heap_1 w.params) (.ref 443) "__getattribute__" = some (some (.builtin "object.__getattribute__")) := by k_is
theorem VS (w : World) : findIn (hd.heap_1 w.params) (.ref 443) "__setattr__" = some (some (.builtin "object.__setattr__")) := by k_is
theorem VP (w : World) : plainOver (hd.heap_1 w.params) 443 = true := by k_is
theorem VD (w : World) : (clsIn (hd.heap_1 w.params) 443).any (·.hasDict) = true := by
  have h : hasDictIn (hd.heap_1 w.params) 443 = true := by k_is
  exact h
theorem lz_nil {x : Nat} : ([] : AL).length ≤ 1 := Nat.zero_le _
theorem lz_set {x : Str} {v : V} {kv : AL} {n : Nat} (h : kv.length ≤ n) : (setA x v kv).length ≤ n + 1 := Nat.le_trans (setA_len x v kv) (Nat.succ_le_succ h)
theorem lz_host {T I VB CB FB : Addr} {dep n : Int} : (hostKV T I VB CB FB dep n).length ≤ 12 := Nat.le_refl _
theorem lz_var {k v : Str} {TR : Addr} {n : Int} : (varKV k v TR n).length ≤ 6 := Nat.le_refl _
theorem lz_end {kv : AL} {n : Nat} (h : kv.length ≤ n) (k : n ≤ 1000) : kv.length ≤ 1000 := Nat.le_trans h k
theorem ne_some' {σ : Store} {a b : Addr} {cc : Cell} (h2 : σ a = some cc) (h : σ b = none) : a ≠ b := (ne_some h h2).symm
theorem bn_some {o : Option V} {v : V} (h : o = some v) : (!o.isSome) = false := by rw [h]; rfl
theorem bn_none {o : Option V} (h : o = none) : (!o.isSome) = true := by rw [h]; rfl
theorem getA_self (x : Str) (v : V) (kv : AL) : getA x (setA x v kv) = some v := by rw [getA_setA, if_pos rfl]
section
variable {B : Bs} {c : Cx} {σ : Store} {Q : V → Store → Prop} {E : Addr → Store → Prop}
theorem var_make {w : World} (hK : B.K = hd.heap_1 w.params) (hr : c.dep + 2 ≤ 990) (h : ∀ x d t σ', σ x = none → σ d = none → x ≠ d → Keep [] σ σ' → σ' x = some (.inst 443 d) → σ' d = some (.attrs (varKV "none" "" t 0)) → Q (.ref x) σ') : CW B c (callF (.ref 443)) [] σ VR Q E := by
  refine CC.cw (CC_make (fI := 440) hK (by k_is) (by k_is) (by k_is) fun x d hxd hx hd => ?_)
  refine' CC_defd (n := 1) (ds := []) (dcs := []) (by assumption) ?ho ?hcd ?hck ?hb ?hd rfl (roomOk (m := 0) (by show c.dep + 1 + 0 ≤ 990; lia)) ?_
  case ho => k_is
  case hcd => k_is
  case hck => decide +kernel
  case hb => exact D_bind (bnd1 (by intros; rfl))
  case hd => exact fun _ _ => .nil
  end_is "sh"
  intro env c' F hh' hd' hu'
  have hdx := Ne.symm hxd
  end_is "g1@13"
  intro t ht
  simp only [set_set] at ht ⊢
  obtain ⟨htd, ht⟩ := set_none ht
  obtain ⟨htx, ht⟩ := set_none ht
  obtain ⟨_, ht⟩ := set_none ht
  end_is "g1@13"
  simp only [set_set]
  refine ⟨trivial, h x d t _ hx hd hxd ?_ ?_ (Store.set_self _ _ _)⟩
  · end_is "kp"
  · end_is "st"
theorem put_value_k {w : World} (hK : B.K = hd.heap_1 w.params) (hr : c.dep + 1 ≤ 990) {x d t : Addr} {k v k2 v2 : Str} {n : Int} (hx : σ x = some (.inst 443 d)) (hd : σ d = some (.attrs (varKV k v t n))) (hxd : x ≠ d) (h : Q (.str v2) (σ.set d (.attrs (varKV k2 v2 t (n + 1))))) : CW B c (callF (.ref 560)) [.ref x, .str k2, .str v2] σ VR Q E := by
  end_is "def3"
  intro env c' F hh' hd' hu'
  end_is "g1@13"
  simp only [set_set]
  exact h
theorem var_in_k {w : World} (hK : B.K = hd.heap_1 w.params) (hr : c.dep + 3 ≤ 990) {b : Addr} {kv : AL} {x : Str} (hb : σ b = some (.dict kv)) (hz : kv.length ≤ 1000)
    (h1 : ∀ V1, getA x kv = some (.ref V1) → Q (.ref V1) σ)
    (h2 : getA x kv = none → ∀ y d t σ', σ y = none → σ d = none → Keep [b] σ σ' → σ' y = some (.inst 443 d) → σ' d = some (.attrs (varKV "none" "" t 0)) → σ' b = some (.dict (setA x (.ref y) kv)) → Q (.ref y) σ') 
    (h3 : ∃ V1, getA x kv = some (.ref V1) ∨ getA x kv = none) : CW B c (callF (.ref 553)) [.ref b, .str x] σ VR Q E := by
  end_is "def2"
  intro env c' F hh' hd' hu'
  obtain ⟨V1, hV | hV⟩ := h3
  · end_is "g1@13"
    rw [bn_some hV]
    end_is "go@13"
    exact h1 V1 hV
  · end_is "g1@13"
    rw [bn_none hV]
    end_is "go@13"
    refine var_make (by assumption) (by end_is "l") fun y d t σ' hy hd hyd k e1 e2 => ?_
    have hb' := k.at hb (by simp)
    have hby : b ≠ y := ne_some' hb hy
    have hbd : b ≠ d := ne_some' hb hd
    end_is "go@13"
    refine h2 hV y d t _ hy hd ?_ ?_ ?_ (Store.set_self _ _ _)
    · exact Keep.old (k.mono (by simp)) (by simp)
    · exact (Store.set_ne _ _ hby.symm).trans e1
    · exact (Store.set_ne _ _ hbd.symm).trans e2
end
end
structure HA where
  (h d T I VB CB FB V1 dv TR D L : Addr)
noncomputable def HA.X (H : HA) : List Addr := [H.d, H.L, H.VB]
theorem ne_cell {σ : Store} {a b : Addr} {c1 c2 : Cell} (h1 : σ a = some c1) (h2 : σ b = some c2) (h : c1 ≠ c2) : a ≠ b := fun e => h (by rw [e, h2] at h1; exact (Option.some.inj h1).symm)
structure HostS (H : HA) (dk : AL) (σ : Store) (logs : List Str) (dep : Int) : Prop where
  hh : σ H.h = some (.inst 691 H.d)
  hd : ∃ n, σ H.d = some (.attrs (hostKV H.T H.I H.VB H.CB H.FB dep n))
  hT : ∃ tk, σ H.T = some (.dict tk) ∧ getA "run" tk = some (.ref 742) ∧ getA "deeds" tk = some (.ref H.D) ∧ getA "log" tk = some (.ref H.L) ∧ tk.length ≤ 10
  hD : σ H.D = some (.dict dk)
  hL : σ H.L = some (.list (logs.map V.str))
  hV : ∃ wk, σ H.VB = some (.dict (("v", .ref H.V1) :: wk)) ∧ (wk = [] ∨ ∃ W dw t, wk = ([("w", .ref W)] : AL) ∧ σ W = some (.inst 443 dw) ∧ σ dw = some (.attrs (varKV "none" "" t 0)))
  hC : σ H.CB = some (.dict [("tcl::mathfunc::twice", .tup [.ref 749, .none])])
  hv1 : σ H.V1 = some (.inst 443 H.dv)
  hv2 : σ H.dv = some (.attrs (varKV "scalar" "1" H.TR 1))
  nT : H.T ≠ H.VB
  nD : H.D ≠ H.VB
  nC : H.CB ≠ H.VB
theorem var_ne_host {k v : Str} {TR T I VB CB FB : Addr} {n dep m : Int} : (Cell.attrs (varKV k v TR n)) ≠ .attrs (hostKV T I VB CB FB dep m) := fun h => by
  have h := Cell.attrs.inj h
  have := congrArg List.length h
  simp [varKV, hostKV] at this
theorem HostS.moved {H : HA} {dk : AL} {σ σ' : Store} {logs logs' : List Str} {dep dep' : Int} (x : HostS H dk σ logs dep) (k : ∀ b cc, σ b = some cc → b ≠ H.d → b ≠ H.L → σ' b = some cc) (hd : ∃ n, σ' H.d = some (.attrs (hostKV H.T H.I H.VB H.CB H.FB dep' n))) (hL : σ' H.L = some (.list (logs'.map V.str))) : HostS H dk σ' logs' dep' := by
  obtain ⟨n, x2⟩ := x.hd
  obtain ⟨tk, x3, r3⟩ := x.hT
  obtain ⟨wk, x4, r4⟩ := x.hV
  have kk : ∀ b cc, σ b = some cc → cc ≠ .attrs (hostKV H.T H.I H.VB H.CB H.FB dep n) → cc ≠ .list (logs.map V.str) → σ' b = some cc := fun b cc e h1 h2 => k b cc e (ne_cell e x2 h1) (ne_cell e x.hL h2)
  refine ⟨kk _ _ x.hh (by intro h; cases h) (by intro h; cases h), hd, ⟨tk, kk _ _ x3 (by intro h; cases h) (by intro h; cases h), r3⟩, kk _ _ x.hD (by intro h; cases h) (by intro h; cases h), hL, ⟨wk, kk _ _ x4 (by intro h; cases h) (by intro h; cases h), ?_⟩, kk _ _ x.hC (by intro h; cases h) (by intro h; cases h), kk _ _ x.hv1 (by intro h; cases h) (by intro h; cases h), kk _ _ x.hv2 var_ne_host (by intro h; cases h), x.nT, x.nD, x.nC⟩
  rcases r4 with h | ⟨W, dw, t, h1, h2, h3⟩
  · exact .inl h
  · exact .inr ⟨W, dw, t, h1, kk _ _ h2 (by intro h; cases h) (by intro h; cases h), kk _ _ h3 var_ne_host (by intro h; cases h)⟩
theorem HostS.keep {H : HA} {dk : AL} {σ σ' : Store} {logs : List Str} {dep : Int} (x : HostS H dk σ logs dep) (k : Keep [] σ σ') : HostS H dk σ' logs dep :=
  let ⟨n, x2⟩ := x.hd
  x.moved (fun b cc e _ _ => k.at e (by simp)) ⟨n, k.at x2 (by simp)⟩ (k.at x.hL (by simp))
theorem HostS.setL {H : HA} {dk : AL} {σ : Store} {logs : List Str} {dep : Int} (x : HostS H dk σ logs dep) (logs' : List Str) : HostS H dk (σ.set H.L (.list (logs'.map V.str))) logs' dep :=
  let ⟨n, x2⟩ := x.hd
  x.moved (fun b cc e _ n => (Store.set_ne _ _ n).trans e) ⟨n, (Store.set_ne _ _ (ne_cell x2 x.hL (by intro h; cases h))).trans x2⟩ (Store.set_self _ _ _)
theorem HostS.setD {H : HA} {dk : AL} {σ : Store} {logs : List Str} {dep dep' n' : Int} (x : HostS H dk σ logs dep) : HostS H dk (σ.set H.d (.attrs (hostKV H.T H.I H.VB H.CB H.FB dep' n'))) logs dep' :=
  let ⟨n, x2⟩ := x.hd
  x.moved (fun b cc e n _ => (Store.set_ne _ _ n).trans e) ⟨n', Store.set_self _ _ _⟩ ((Store.set_ne _ _ (ne_cell x.hL x2 (by intro h; cases h))).trans x.hL)
theorem ErrIs.keepSet {σ : Store} {r : Bool} {x a : Addr} {code lv : Int} {val : Str} {ec : List V} {c1 c2 : Cell} (h : ErrIs σ r x code val ec lv) (ha : σ a = some c1) (h1 : ∀ C d, c1 ≠ .exc r C d) (h2 : ∀ kv, c1 = .attrs kv → getA "code" kv = none) : ErrIs (σ.set a c2) r x code val ec lv := by
  obtain ⟨d, kv, e1, e2, e3⟩ := h
  refine ⟨d, kv, (Store.set_ne _ _ (ne_cell e1 ha fun q => h1 _ _ q.symm)).trans e1, (Store.set_ne _ _ (ne_cell e2 ha fun q => ?_)).trans e2, e3⟩
  have := h2 _ q.symm
  rw [e3.code] at this
  cases this
theorem hm_tool (w : World) : findIn (hd.heap_1 w.params) (.ref 691) "tool" = some (some (.ref 476)) := by k_is
theorem ht_tool (w : World) : typeIn (hd.heap_1 w.params) (.ref 476) = some (.type "function") := by k_is
theorem hk_tool (w : World) : keepIn (hd.heap_1 w.params) (.ref 476) = true := by k_is
theorem hm_spend (w : World) : findIn (hd.heap_1 w.params) (.ref 691) "spend" = some (some (.ref 483)) := by k_is
theorem ht_spend (w : World) : typeIn (hd.heap_1 w.params) (.ref 483) = some (.type "function") := by k_is
theorem hk_spend (w : World) : keepIn (hd.heap_1 w.params) (.ref 483) = true := by k_is
theorem hm_run (w : World) : findIn (hd.heap_1 w.params) (.ref 691) "run" = some (some (.ref 497)) := by k_is
theorem ht_run (w : World) : typeIn (hd.heap_1 w.params) (.ref 497) = some (.type "function") := by k_is
theorem hk_run (w : World) : keepIn (hd.heap_1 w.params) (.ref 497) = true := by k_is
theorem hm_call (w : World) : findIn (hd.heap_1 w.params) (.ref 691) "call" = some (some (.ref 511)) := by k_is
theorem ht_call (w : World) : typeIn (hd.heap_1 w.params) (.ref 511) = some (.type "function") := by k_is
theorem hk_call (w : World) : keepIn (hd.heap_1 w.params) (.ref 511) = true := by k_is
theorem hm_place (w : World) : findIn (hd.heap_1 w.params) (.ref 691) "place" = some (some (.ref 603)) := by k_is
theorem ht_place (w : World) : typeIn (hd.heap_1 w.params) (.ref 603) = some (.type "function") := by k_is
theorem hk_place (w : World) : keepIn (hd.heap_1 w.params) (.ref 603) = true := by k_is
theorem hm_read_var (w : World) : findIn (hd.heap_1 w.params) (.ref 691) "read_var" = some (some (.ref 610)) := by k_is
theorem ht_read_var (w : World) : typeIn (hd.heap_1 w.params) (.ref 610) = some (.type "function") := by k_is
theorem hk_read_var (w : World) : keepIn (hd.heap_1 w.params) (.ref 610) = true := by k_is
theorem hm_read (w : World) : findIn (hd.heap_1 w.params) (.ref 691) "read" = some (some (.ref 624)) := by k_is
theorem ht_read (w : World) : typeIn (hd.heap_1 w.params) (.ref 624) = some (.type "function") := by k_is
theorem hk_read (w : World) : keepIn (hd.heap_1 w.params) (.ref 624) = true := by k_is
theorem hm_write_var (w : World) : findIn (hd.heap_1 w.params) (.ref 691) "write_var" = some (some (.ref 617)) := by k_is
theorem ht_write_var (w : World) : typeIn (hd.heap_1 w.params) (.ref 617) = some (.type "function") := by k_is
theorem hk_write_var (w : World) : keepIn (hd.heap_1 w.params) (.ref 617) = true := by k_is
theorem hm_write (w : World) : findIn (hd.heap_1 w.params) (.ref 691) "write" = some (some (.ref 631)) := by k_is
theorem ht_write (w : World) : typeIn (hd.heap_1 w.params) (.ref 631) = some (.type "function") := by k_is
theorem hk_write (w : World) : keepIn (hd.heap_1 w.params) (.ref 631) = true := by k_is
theorem hm_put (w : World) : findIn (hd.heap_1 w.params) (.ref 691) "put" = some (some (.ref 660)) := by k_is
theorem ht_put (w : World) : typeIn (hd.heap_1 w.params) (.ref 660) = some (.type "function") := by k_is
theorem hk_put (w : World) : keepIn (hd.heap_1 w.params) (.ref 660) = true := by k_is
theorem hm_remove (w : World) : findIn (hd.heap_1 w.params) (.ref 691) "remove" = some (some (.ref 667)) := by k_is
theorem ht_remove (w : World) : typeIn (hd.heap_1 w.params) (.ref 667) = some (.type "function") := by k_is
theorem hk_remove (w : World) : keepIn (hd.heap_1 w.params) (.ref 667) = true := by k_is
theorem hm_begin (w : World) : findIn (hd.heap_1 w.params) (.ref 691) "begin" = some (some (.ref 688)) := by k_is
theorem ht_begin (w : World) : typeIn (hd.heap_1 w.params) (.ref 688) = some (.type "function") := by k_is
theorem hk_begin (w : World) : keepIn (hd.heap_1 w.params) (.ref 688) = true := by k_is
theorem host_depth {T I VB CB FB : Addr} {dep n m : Int} : setA "depth" (.int m) (hostKV T I VB CB FB dep n) = hostKV T I VB CB FB m n := rfl
theorem host_spent {T I VB CB FB : Addr} {dep n m : Int} : setA "spent" (.int m) (hostKV T I VB CB FB dep n) = hostKV T I VB CB FB dep m := rfl
theorem EnvS.cH {c : Cx} {env : Env} {N : List (Str × NameKind)} {a : Addr} (F : EnvS c env N) : EnvS (cH c a) env N := ⟨F.ok, ⟨F.fr.top, F.fr.own⟩, F.names, F.nod, F.dbg⟩
theorem del_back {σ : Store} {a d : Addr} {cc X : Cell} (h : σ a = some cc) (n : d ≠ a) : ((σ.del a).set d X).set a cc = σ.set d X := by
  funext b
  by_cases q : b = a
  · subst q; rw [Store.set_self, Store.set_ne _ _ n.symm, h]
  · rw [Store.set_ne _ _ q]
    by_cases r : b = d
    · subst r; rw [Store.set_self, Store.set_self]
    · rw [Store.set_ne _ _ r, Store.set_ne _ _ r, del_ne _ q]
section
section
section
variable {B : Bs} {c : Cx} {σ : Store} {Q : V → Store → Prop} {E : Addr → Store → Prop}
theorem law_run_k {w : World} (hK : B.K = hd.heap_1 w.params) (hh : c.hd = none) (hr : c.dep + 4 ≤ 990) {H : HA} {dk : AL} {logs : List Str} {dep : Int} (x : HostS H dk σ logs dep) (hlg : logs.length ≤ 100000) {script val : Str} {code : Int} (hs : getA script dk = some (.tup [.int code, .str val]))
    (h0 : code = 0 → Q (.str val) (σ.set H.L (.list ((logs ++ [script]).map V.str))))
    (h1 : code ≠ 0 → ∀ a σ', σ a = none → Keep [] (σ.set H.L (.list ((logs ++ [script]).map V.str))) σ' → ErrIs σ' true a code val [.str "LAW", .str script] (if code = 2 then 1 else 0) → E a σ') : CW B c (callF (.ref 742)) [.ref H.h, .str script] σ VR Q E := by
  obtain ⟨n, hd⟩ := x.hd
  obtain ⟨tk, hT, t1, t2, t3, t4⟩ := x.hT
  have hhh := x.hh
  have hL := x.hL
  have hD := x.hD
  have hz : (logs.map V.str).length ≤ sizeLine := by rw [List.length_map]; unfold sizeLine; lia
  have nD : H.D ≠ H.L := ne_cell hD hL (by intro h; cases h)
  have nT : H.T ≠ H.L := ne_cell hT hL (by intro h; cases h)
  have nh : H.h ≠ H.L := ne_cell hhh hL (by intro h; cases h)
  have nd : H.d ≠ H.L := ne_cell hd hL (by intro h; cases h)
  end_is "def2"
  intro env c' F hh' hd' hu'
  have hh1 := hh'.trans hh
  simp only [List.map_append, List.map_cons, List.map_nil] at h0 h1
  end_is "go@14"
  · rename_i hc _
    refine raised4 (by assumption) (by end_is "l") fun σ' a h2 h3 h4 => ⟨a, code, val, _, _, rfl, h2, h3, h4, fun σ₂ k e => h1 hc a σ₂ (set_none h2).2 k ?_⟩
    rw [if_pos (by assumption)]
    exact e
  · rename_i hc _
    refine raised4 (by assumption) (by end_is "l") fun σ' a h2 h3 h4 => ⟨a, code, val, _, _, rfl, h2, h3, h4, fun σ₂ k e => h1 hc a σ₂ (set_none h2).2 k ?_⟩
    rw [if_neg (by assumption)]
    exact e
  · rename_i hc
    exact h0 hc
theorem tool_k {w : World} (hK : B.K = hd.heap_1 w.params) (hr : c.dep + 1 ≤ 990) {H : HA} {dk : AL} {logs : List Str} {dep : Int} (x : HostS H dk σ logs dep) (h : Q (.ref 742) σ) : CW B c (callF (.ref 476)) [.ref H.h, .str "run"] σ VR Q E := by
  obtain ⟨n, hd⟩ := x.hd
  obtain ⟨tk, hT, t1, t2, t3, t4⟩ := x.hT
  have hhh := x.hh
  end_is "def2"
  intro env c' F hh' hd' hu'
  end_is "g1@14"
  rw [bn_some t1]
  end_is "go@14"
  exact h
theorem run_k {w : World} (hK : B.K = hd.heap_1 w.params) (hh : c.hd = none) (hr : c.dep + 6 ≤ 990) {H : HA} {dk : AL} {logs : List Str} (x : HostS H dk σ logs 0) (hlg : logs.length ≤ 100000) {script val : Str} {code : Int} (hs : getA script dk = some (.tup [.int code, .str val]))
    (h0 : code = 0 → ∀ σ', HostS H dk σ' (logs ++ [script]) 0 → Keep H.X σ σ' → Q (.str val) σ')
    (h1 : code ≠ 0 → ∀ a σ', σ a = none → HostS H dk σ' (logs ++ [script]) 0 → Keep H.X σ σ' → ErrIs σ' true a code val [.str "LAW", .str script] (if code = 2 then 1 else 0) → E a σ') : CW B c (callF (.ref 497)) [.ref H.h, .str script] σ VR Q E := by
  obtain ⟨n, hd⟩ := x.hd
  have hhh := x.hh
  end_is "def2"
  intro env c' F hh' hd' hu'
  have hh1 := hh'.trans hh
  end_is "go@14"
  refine tool_k (by assumption) (by end_is "l") x ?_
  end_is "g1@14"
  rw [host_depth]
  refine Ws_tryFin F.fr ?_
  end_is "g1@14"
  have x1 := x.setD (dep' := 0 + 1) (n' := n)
  have hd1 := x1.hd
  refine law_run_k (by assumption) hh1 (by end_is "l") x1 hlg hs (fun e => ?_) (fun e a σ' h2 h3 h4 => ?_)
  · have x2 := x1.setL (logs ++ [script])
    obtain ⟨n2, hd2⟩ := x2.hd
    have hh2 := x2.hh
    end_is "g1@14"
    rw [host_depth, show (0 + 1 - 1 : Int) = 0 from rfl]
    refine ⟨rfl, h0 e _ (x2.setD (dep' := 0) (n' := n2)) ?_⟩
    exact Keep.old (Keep.old (Keep.old (Keep.refl _ _) (by simp [HA.X])) (by simp [HA.X])) (by simp [HA.X])
  · have x2 := (x1.setL (logs ++ [script])).keep h3
    obtain ⟨n2, hd2⟩ := x2.hd
    have hh2 := x2.hh
    intro C d hC
    obtain ⟨h5, h6⟩ := set_none h2
    have n1 : H.d ≠ a := ne_some' hd h6
    have n3 : H.h ≠ a := ne_some' hhh h6
    have hd3 : (σ'.del a) H.d = some (.attrs (hostKV H.T H.I H.VB H.CB H.FB (0 + 1) n2)) := (del_ne _ n1).trans hd2
    have hh3 : (σ'.del a) H.h = some (.inst 691 H.d) := (del_ne _ n3).trans hh2
    have F2 := EnvS.cH (a := a) F
    clear F
    end_is "g1@14"
    rw [host_depth, show (0 + 1 - 1 : Int) = 0 from rfl]
    refine ⟨rfl, ?_⟩
    rw [del_back hC n1]
    refine h1 e a _ h6 (x2.setD (dep' := 0) (n' := n2)) ?_ (h4.keepSet hd2 (by intro C d h; cases h) fun kv q => ?_)
    · refine Keep.old (Keep.trans (Keep.old (Keep.old (Keep.refl _ _) (by simp [HA.X])) (by simp [HA.X])) (h3.mono (by simp))) (by simp [HA.X])
    · cases q; rfl
end
end
section
noncomputable def wMsg : Str := (("can't " ++ ("read" : Str)) ++ " \"" ++ "w") ++ "\": no such variable"
noncomputable def wEc : List V := [.str "TCL", .str "LOOKUP", .str "VARNAME", .str "w"]
noncomputable def noMsg : Str := "invalid command name \"" ++ ("tcl::mathfunc::nope" : Str) ++ "\""
noncomputable def noEc : List V := [.str "TCL", .str "LOOKUP", .str "COMMAND", .str "tcl::mathfunc::nope"]
theorem HostS.withW {H : HA} {dk : AL} {σ σ' : Store} {logs : List Str} {W dw t : Addr} (x : HostS H dk σ logs 0) (hv : σ H.VB = some (.dict [("v", .ref H.V1)])) (k : Keep [H.VB] σ σ') (h1 : σ' W = some (.inst 443 dw)) (h2 : σ' dw = some (.attrs (varKV "none" "" t 0))) (h3 : σ' H.VB = some (.dict [("v", .ref H.V1), ("w", .ref W)])) : HostS H dk σ' logs 0 := by
  obtain ⟨n, x2⟩ := x.hd
  obtain ⟨tk, x3, r3⟩ := x.hT
  have kk : ∀ b cc, σ b = some cc → b ≠ H.VB → σ' b = some cc := fun b cc e h => k.at e (by simpa using h)
  have k2 : ∀ b cc, σ b = some cc → (∀ kv, cc ≠ .dict kv) → σ' b = some cc := fun b cc e h => kk b cc e (ne_cell e hv (h _))
  exact ⟨k2 _ _ x.hh (by intro _ h; cases h), ⟨n, k2 _ _ x2 (by intro _ h; cases h)⟩, ⟨tk, kk _ _ x3 x.nT, r3⟩, kk _ _ x.hD x.nD, k2 _ _ x.hL (by intro _ h; cases h), ⟨_, h3, .inr ⟨W, dw, t, rfl, h1, h2⟩⟩, kk _ _ x.hC x.nC, k2 _ _ x.hv1 (by intro _ h; cases h), k2 _ _ x.hv2 (by intro _ h; cases h), x.nT, x.nD, x.nC⟩
noncomputable def twName : Str := "tcl::mathfunc::twice"
noncomputable def noName : Str := "tcl::mathfunc::nope"
theorem join_ok {ts : List Str} (h : ts.length ≤ 3) (hl : ∀ t ∈ ts, t.length ≤ 100000) : JoinOk " " ts = true := by
  have h1 : (" " : Str).length = 1 := rfl
  unfold JoinOk Builtin.Str.tooLong
  match ts, h with
  | [], _ => rfl
  | [a], _ => have := hl a (by simp); simp; unfold sizeLine; lia
  | [a, b], _ => have := hl a (by simp); have := hl b (by simp); simp; unfold sizeLine; lia
  | [a, b, c], _ => have := hl a (by simp); have := hl b (by simp); have := hl c (by simp); simp; unfold sizeLine; lia
noncomputable def twVal (a b : Str) : Str := Txt.slice a none (some 9) ++ Txt.slice b none (some 9)
theorem HostS.alive {H : HA} {dk : AL} {σ : Store} {logs : List Str} {dep : Int} (x : HostS H dk σ logs dep) : ∀ b ∈ H.X, σ b ≠ none := fun b hb => by
  obtain ⟨n, x2⟩ := x.hd
  obtain ⟨wk, x3, _⟩ := x.hV
  simp only [HA.X, List.mem_cons, List.not_mem_nil, or_false] at hb
  rcases hb with rfl | rfl | rfl
  · rw [x2]; simp
  · rw [x.hL]; simp
  · rw [x3]; simp
theorem Keep.freshX {X : List Addr} {σ σ' : Store} {a : Addr} (k : Keep X σ σ') (h : σ' a = none) (hx : ∀ b ∈ X, σ' b ≠ none) : σ a = none := k.fresh h fun m => hx a m h
theorem idx9_le (n : Nat) : (Builtin.Str.strSliceIndices none (some 9) 1 n).length ≤ 9 := by
  unfold Builtin.Str.strSliceIndices sliceRange
  simp only [show (1 : Int) > 0 by decide, if_true, List.length_map, List.length_range]
  (split <;> (try split) <;> (try split) <;> (try simp only [Int.ediv_one]) <;> lia)
theorem slice9_len (x : Str) : (Txt.slice x none (some 9)).length ≤ 9 := by
  unfold Txt.slice
  split
  · rename_i h
    have h : (Builtin.Str.strSliceIndices none (some 9) 1 x.length).length = x.length := by simpa using h
    rw [← h]; exact idx9_le _
  · show (List.filterMap _ (Builtin.Str.strSliceIndices none (some 9) 1 x.length)).toArray.size ≤ 9
    rw [List.size_toArray]
    exact Nat.le_trans (List.length_filterMap_le _ _) (idx9_le _)
section
variable {B : Bs} {c : Cx} {σ : Store} {Q : V → Store → Prop} {E : Addr → Store → Prop}
theorem place_v {w : World} (hK : B.K = hd.heap_1 w.params) (hr : c.dep + 5 ≤ 990) {H : HA} {dk : AL} {logs : List Str} (x : HostS H dk σ logs 0) (h : Q (.ref H.V1) σ) : CW B c (callF (.ref 603)) [.ref H.h, .str "v"] σ VR Q E := by
  obtain ⟨n, hd⟩ := x.hd
  have hhh := x.hh
  obtain ⟨wk, hV, hw⟩ := x.hV
  end_is "def2"
  intro env c' F hh' hd' hu'
  end_is "g1@15"
  have e : getA "v" (("v", V.ref H.V1) :: wk) = some (.ref H.V1) := rfl
  refine var_in_k (by assumption) (by end_is "l") hV (by rcases hw with rfl | ⟨W, dw, t, rfl, _⟩ <;> exact Nat.le_of_ble_eq_true rfl) (fun V1 h1 => ?_) (fun h1 => ?_) ⟨_, .inl e⟩
  · rw [e] at h1; cases h1; end_is "g1@15"; exact h
  · rw [e] at h1; cases h1
theorem place_w {w : World} (hK : B.K = hd.heap_1 w.params) (hr : c.dep + 5 ≤ 990) {H : HA} {dk : AL} {logs : List Str} (x : HostS H dk σ logs 0) (h : ∀ σ' W dw t, HostS H dk σ' logs 0 → Keep [H.VB] σ σ' → σ' W = some (.inst 443 dw) → σ' dw = some (.attrs (varKV "none" "" t 0)) → Q (.ref W) σ') : CW B c (callF (.ref 603)) [.ref H.h, .str "w"] σ VR Q E := by
  obtain ⟨n, hd⟩ := x.hd
  have hhh := x.hh
  obtain ⟨wk, hV, hw⟩ := x.hV
  end_is "def2"
  intro env c' F hh' hd' hu'
  end_is "g1@15"
  rcases hw with rfl | ⟨W, dw, t, rfl, h1, h2⟩
  · have e : getA "w" [("v", V.ref H.V1)] = none := rfl
    refine var_in_k (by assumption) (by end_is "l") hV (Nat.le_of_ble_eq_true rfl) (fun V1 h1 => ?_) (fun _ y d t σ' h1 h2 h3 h4 h5 h6 => ?_) ⟨0, .inr e⟩
    · rw [e] at h1; cases h1
    · end_is "g1@15"
      exact h σ' y d t (x.withW hV h3 h4 h5 h6) h3 h4 h5
  · have e : getA "w" [("v", V.ref H.V1), ("w", V.ref W)] = some (.ref W) := rfl
    refine var_in_k (by assumption) (by end_is "l") hV (Nat.le_of_ble_eq_true rfl) (fun V1 h3 => ?_) (fun h3 => ?_) ⟨_, .inl e⟩
    · rw [e] at h3; cases h3; end_is "g1@15"; exact h σ W dw t x (Keep.refl _ _) h1 h2
    · rw [e] at h3; cases h3
theorem read_v {w : World} (hK : B.K = hd.heap_1 w.params) (hh : c.hd = none) (hr : c.dep + 6 ≤ 990) {H : HA} {dk : AL} {logs : List Str} (x : HostS H dk σ logs 0) (h : Q (.str "1") σ) : CW B c (callF (.ref 624)) [.ref H.h, .str "v"] σ VR Q E := by
  obtain ⟨n, hd⟩ := x.hd
  have hhh := x.hh
  have h1 := x.hv1
  have h2 := x.hv2
  end_is "def2"
  intro env c' F hh' hd' hu'
  have hh1 := hh'.trans hh
  end_is "g1@15"
  refine place_v (by assumption) (by end_is "l") x ?_
  end_is "g1@15"
  have hr1 : c'.dep + 5 ≤ 990 := by lia
  end_is "def3"
  intro env c2 F hh2 hd2 hu2
  have hh3 := hh2.trans hh1
  end_is "go@15"
  exact h
theorem read_w {w : World} (hK : B.K = hd.heap_1 w.params) (hh : c.hd = none) (hr : c.dep + 6 ≤ 990) {H : HA} {dk : AL} {logs : List Str} (x : HostS H dk σ logs 0) (h : ∀ a σ', σ a = none → HostS H dk σ' logs 0 → Keep H.X σ σ' → ErrIs σ' true a 1 wMsg wEc 0 → E a σ') : CW B c (callF (.ref 624)) [.ref H.h, .str "w"] σ VR Q E := by
  obtain ⟨n, hd⟩ := x.hd
  have hhh := x.hh
  end_is "def2"
  intro env c' F hh' hd' hu'
  have hh1 := hh'.trans hh
  end_is "g1@15"
  refine place_w (by assumption) (by end_is "l") x fun σ' W dw t x' k h1 h2 => ?_
  end_is "g1@15"
  have hr1 : c'.dep + 5 ≤ 990 := by lia
  end_is "def3"
  intro env c2 F hh2 hd2 hu2
  have hh3 := hh2.trans hh1
  end_is "go@15"
  have hr2 : c2.dep + 4 ≤ 990 := by lia
  end_is "def2"
  intro env c3 F hh4 hd4 hu4
  have hh5 := hh4.trans hh3
  end_is "go@15"
  refine error_k (by assumption) (by end_is "l") fun σ₁ a h3 h4 h5 => ?_
  end_is "g1@15"
  refine erri h3 h4 h5 fun σ₂ k2 e => h a σ₂ ((k.mono (by simp [HA.X])).freshX h3 x'.alive) (x'.keep k2) (Keep.trans (k.mono (by simp [HA.X])) (k2.mono (by simp))) e
theorem law_twice_k {w : World} (hK : B.K = hd.heap_1 w.params) (hh : c.hd = none) (hr : c.dep + 1 ≤ 990) {H : HA} {dk : AL} {logs : List Str} (x : HostS H dk σ logs 0) (hlg : logs.length ≤ 100000) {wa : Addr} {ys : List Str} {y0 yl : Str} (hw : σ wa = some (.list ((twName :: ys).map V.str))) (hy : (ys = [y0] ∧ yl = y0) ∨ ys = [y0, yl]) (hl : ∀ y ∈ ys, y.length ≤ 100000)
    (h : Q (.str (twVal y0 yl)) (σ.set H.L (.list ((logs ++ [Txt.join " " (twName :: ys)]).map V.str)))) (hne : wa ≠ H.L) : CW B c (callF (.ref 749)) [.ref H.h, .ref wa] σ VR Q E := by
  obtain ⟨n, hd⟩ := x.hd
  obtain ⟨tk, hT, t1, t2, t3, t4⟩ := x.hT
  have hhh := x.hh
  have hL := x.hL
  have hz : (logs.map V.str).length ≤ sizeLine := by rw [List.length_map]; unfold sizeLine; lia
  have hj : JoinOk " " (twName :: ys) = true := by
    refine join_ok ?_ ?_
    · rcases hy with ⟨rfl, _⟩ | rfl <;> simp
    · intro t ht
      cases ht with
      | head => decide +kernel
      | tail _ ht => exact hl t ht
  have hl0 : y0.length ≤ sizeLine := Nat.le_trans (hl y0 (by rcases hy with ⟨rfl, _⟩ | rfl <;> simp)) (by decide)
  have hll : yl.length ≤ sizeLine := Nat.le_trans (hl yl (by rcases hy with ⟨rfl, rfl⟩ | rfl <;> simp)) (by decide)
  simp only [List.map_append, List.map_cons, List.map_nil] at h
  end_is "def2"
  intro env c' F hh' hd' hu'
  have hh1 := hh'.trans hh
  end_is "go@15"
  refine M_join ?_
  end_is "go@15"
  refine F_join hw hj ?_
  end_is "go@15"
  have hw' : (σ.set H.L (.list (List.map V.str logs ++ [V.str (Txt.join " " (twName :: ys))]))) wa = some (.list ((twName :: ys).map V.str)) := (Store.set_ne _ _ hne).trans hw
  refine G_list (v := .str y0) rfl hw' (by decide) (by rcases hy with ⟨rfl, rfl⟩ | rfl <;> rfl) (by decide) ?_
  end_is "go@15"
  refine G_slice rfl hl0 ?_
  end_is "go@15"
  refine G_list_last (v := .str yl) rfl hw' (by rcases hy with ⟨rfl, rfl⟩ | rfl <;> rfl) ?_
  end_is "go@15"
  refine G_slice rfl hll ?_
  end_is "go@15"
  refine O_adds ?_ ?_
  · exact Nat.le_trans (Nat.add_le_add (slice9_len _) (slice9_len _)) (by decide)
  end_is "go@15"
  exact h
theorem HostS.setSpent {H : HA} {dk : AL} {σ : Store} {logs : List Str} {n' : Int} (x : HostS H dk σ logs 0) : HostS H dk (σ.set H.d (.attrs (hostKV H.T H.I H.VB H.CB H.FB 0 n'))) logs 0 := x.setD
theorem begin_tw {w : World} (hK : B.K = hd.heap_1 w.params) (hh : c.hd = none) (hr : c.dep + 4 ≤ 990) {H : HA} {dk : AL} {logs : List Str} (x : HostS H dk σ logs 0) (hlg : logs.length ≤ 100000) {wa : Addr} {ys : List Str} {y0 yl : Str} (hw : σ wa = some (.list ((twName :: ys).map V.str))) (hy : (ys = [y0] ∧ yl = y0) ∨ ys = [y0, yl]) (hl : ∀ y ∈ ys, y.length ≤ 100000)
    (h : ∀ σ', HostS H dk σ' (logs ++ [Txt.join " " (twName :: ys)]) 0 → Keep H.X σ σ' → Q (.str (twVal y0 yl)) σ') (hne : wa ≠ H.L) : CW B c (callF (.ref 688)) [.ref H.h, .ref wa] σ VR Q E := by
  obtain ⟨n, hd⟩ := x.hd
  have hhh := x.hh
  have hC := x.hC
  have hdh : H.h ≠ H.d := ne_cell hhh hd (by intro h; cases h)
  have hdC : H.CB ≠ H.d := ne_cell hC hd (by intro h; cases h)
  have hdw : wa ≠ H.d := ne_cell hw hd (by intro h; cases h)
  have g0 : ((twName :: ys).map V.str)[(0 : Int).toNat]? = some (V.str twName) := rfl
  end_is "def2"
  intro env c' F hh' hd' hu'
  have hh1 := hh'.trans hh
  have gT : getA twName [("tcl::mathfunc::twice", V.tup [.ref 749, .none])] = some (.tup [.ref 749, .none]) := rfl
  end_is "g1@15"
  rw [bn_some gT]
  end_is "go@15"
  have hr1 : c'.dep + 3 ≤ 990 := by lia
  end_is "def1"
  intro env2 c2 F2 hh2 hd2 hu2
  have hh3 := hh2.trans hh1
  end_is "go@15"
  rw [host_spent]
  clear F2
  have x1 := x.setSpent (n' := n + 1)
  have hw1 : (σ.set H.d (.attrs (hostKV H.T H.I H.VB H.CB H.FB 0 (n + 1)))) wa = some (.list ((twName :: ys).map V.str)) := (Store.set_ne _ _ hdw).trans hw
  end_is "def4"
  intro env3 c3 F3 hh4 hd4 hu4
  have hh5 := hh4.trans hh1
  end_is "go@15"
  refine law_twice_k (by assumption) hh5 (by end_is "l") x1 hlg hw1 hy hl ?_ hne
  end_is "go@15"
  exact h _ (x1.setL _) (Keep.old (Keep.old (Keep.refl _ _) (by simp [HA.X])) (by simp [HA.X]))
theorem call_tw {w : World} (hK : B.K = hd.heap_1 w.params) (hh : c.hd = none) (hr : c.dep + 5 ≤ 990) {H : HA} {dk : AL} {logs : List Str} (x : HostS H dk σ logs 0) (hlg : logs.length ≤ 100000) {wa : Addr} {ys : List Str} {y0 yl : Str} (hw : σ wa = some (.list ((twName :: ys).map V.str))) (hy : (ys = [y0] ∧ yl = y0) ∨ ys = [y0, yl]) (hl : ∀ y ∈ ys, y.length ≤ 100000)
    (h : ∀ σ', HostS H dk σ' (logs ++ [Txt.join " " (twName :: ys)]) 0 → Keep H.X σ σ' → Q (.str (twVal y0 yl)) σ') (hne : wa ≠ H.L) : CW B c (callF (.ref 511)) [.ref H.h, .ref wa] σ VR Q E := by
  obtain ⟨n, hd⟩ := x.hd
  have hhh := x.hh
  have hlen : (twName :: ys).length ≤ 3 := by rcases hy with ⟨rfl, _⟩ | rfl <;> simp
  end_is "def2"
  intro env c' F hh' hd' hu'
  have hh1 := hh'.trans hh
  end_is "g1@15"
  refine T_list hw (by rw [List.length_map]; lia) ?_
  rw [show (List.map V.str (twName :: ys)).isEmpty = false from rfl]
  end_is "go@15"
  refine begin_tw (by assumption) hh1 (by end_is "l") x hlg hw hy hl (fun σ' x' k => ?_) hne
  end_is "go@15"
  refine F_isInst (by assumption) (by k_not) ?_
  end_is "go@15"
  refine F_isInst (by assumption) (by k_not) ?_
  end_is "go@15"
  exact h σ' x' k
theorem call_no {w : World} (hK : B.K = hd.heap_1 w.params) (hh : c.hd = none) (hr : c.dep + 5 ≤ 990) {H : HA} {dk : AL} {logs : List Str} (x : HostS H dk σ logs 0) {wa : Addr} {ys : List Str} (hw : σ wa = some (.list ((noName :: ys).map V.str))) (hl : ys.length ≤ 3)
    (h : Raises1 σ noMsg noEc E) : CW B c (callF (.ref 511)) [.ref H.h, .ref wa] σ VR Q E := by
  obtain ⟨n, hd⟩ := x.hd
  have hhh := x.hh
  have hC := x.hC
  have g0 : ((noName :: ys).map V.str)[(0 : Int).toNat]? = some (V.str noName) := rfl
  end_is "def2"
  intro env c' F hh' hd' hu'
  have hh1 := hh'.trans hh
  end_is "g1@15"
  refine T_list hw (by rw [List.length_map, List.length_cons]; lia) ?_
  rw [show (List.map V.str (noName :: ys)).isEmpty = false from rfl]
  end_is "go@15"
  have hr1 : c'.dep + 4 ≤ 990 := by lia
  end_is "def2"
  intro env2 c2 F2 hh2 hd2 hu2
  have hh3 := hh2.trans hh1
  have gT : getA noName [("tcl::mathfunc::twice", V.tup [.ref 749, .none])] = none := rfl
  end_is "g1@15"
  rw [bn_none gT]
  have hnl : noName.length ≤ 200 := by decide +kernel
  end_is "go@15"
  refine error_k (by assumption) (by end_is "l") fun σ₁ a h3 h4 h5 => ?_
  end_is "g1@15"
  exact erri h3 h4 h5 fun σ₂ k2 e => h a σ₂ h3 k2 e
end
end
section
/-- the trees of the law -/
inductive Tr where
  | num (n : Int) | text (x : Str) | cmd (pre : Bool) (name : Str) (code : Int) (val : Str) | varV | varW
  | un (op : Str) (t : Tr) | bin (op : Str) (a b : Tr) | and_ (a b : Tr) | or_ (a b : Tr) | ite (a b c : Tr) | call1 (f : Str) (a : Tr) | call2 (f : Str) (a b : Tr)
noncomputable def cmdV (name : Str) : V := .tup [.str "cmd", .str name]
noncomputable def partsV (l : List V) : V := .tup [.str "parts", .tup l]
noncomputable def Tr.enc : Tr → V
  | .num n => .tup [.str "num", .int n]
  | .text x => .tup [.str "text", .str x]
  | .cmd false name _ _ => partsV [cmdV name]
  | .cmd true name _ _ => partsV [.tup [.str "text", .str "1"], cmdV name]
  | .varV => partsV [.tup [.str "var", .str "v", .none]]
  | .varW => partsV [.tup [.str "var", .str "w", .none]]
  | .un op t => .tup [.str "un", .str op, t.enc]
  | .bin op a b => .tup [.str "bin", .str op, a.enc, b.enc]
  | .and_ a b => .tup [.str "and", a.enc, b.enc]
  | .or_ a b => .tup [.str "or", a.enc, b.enc]
  | .ite a b c => .tup [.str "if", a.enc, b.enc, c.enc]
  | .call1 f a => .tup [.str "call", .str f, .tup [a.enc]]
  | .call2 f a b => .tup [.str "call", .str f, .tup [a.enc, b.enc]]
noncomputable abbrev Res := List Str × Out
noncomputable def bindR : Res → (Str → Res) → Res
  | (l, .val x), f => (l ++ (f x).1, (f x).2)
  | (l, .err a b c d), _ => (l, .err a b c d)
  | (l, .over), _ => (l, .over)
noncomputable def retR (x : Str) : Res := ([], .val x)
theorem bindR_ret (r : Res) : bindR r retR = r := by
  obtain ⟨l, o⟩ := r
  cases o <;> simp [bindR, retR]
theorem ret_bindR (x : Str) (f : Str → Res) : bindR (retR x) f = f x := by simp [bindR, retR]
theorem bindR_assoc (r : Res) (f g : Str → Res) : bindR (bindR r f) g = bindR r fun x => bindR (f x) g := by
  obtain ⟨l, o⟩ := r
  cases o with
  | val x =>
    show bindR (l ++ (f x).1, (f x).2) g = (l ++ (bindR (f x) g).1, (bindR (f x) g).2)
    refine opq (f x) fun y => ?_
    obtain ⟨m, p⟩ := y
    cases p <;> simp [bindR]
  | err => rfl
  | over => rfl
theorem bindR_len (r : Res) (f : Str → Res) : r.1.length ≤ (bindR r f).1.length := by
  obtain ⟨l, o⟩ := r
  cases o <;> simp [bindR]
noncomputable def okB (x : Str) : Bool := x.cps.toList.all (fun k => decide (k < 128) && decide (k ≠ 34) && decide (k ≠ 92) && decide (k ≠ 125)) && decide (x.length ≤ 1000)
theorem okB_ok {x : Str} (h : okB x = true) : Tame x ∧ x.length ≤ 1000 := by
  unfold okB at h
  rw [Bool.and_eq_true] at h
  refine ⟨fun k hk => ?_, of_decide_eq_true h.2⟩
  have := List.all_eq_true.mp h.1 k hk
  simp only [Bool.and_eq_true, decide_eq_true_eq] at this
  exact ⟨this.1.1.1, this.1.1.2, this.1.2, this.2⟩
noncomputable def mulB (l r : Int) : Bool := !((decide (Builtin.Int.intBits l > shortFactorBits) && decide (Builtin.Int.intBits r > shortFactorBits) && Builtin.Int.intTooBig (Builtin.Int.intBits l + Builtin.Int.intBits r)))
theorem mulB_ok {l r : Int} (h : mulB l r = true) : IntMulOk l r := by
  unfold mulB at h
  unfold IntMulOk
  intro q
  rw [q] at h
  cases h
noncomputable def mulT (x y : Str) : Bool := match wholeOf x, wholeOf y with
  | some l, some r => mulB l r
  | _, _ => true
noncomputable def chkUn (op x : Str) : Out := if okB x = true then unaryOf op x else .over
noncomputable def chkBin (op x y : Str) : Out := if (okB x && okB y && mulT x y) = true then binaryOf op x y else .over
noncomputable def needR (x : Str) (k : Bool → Res) : Res := if okB x = true then (match boolOf x with | none => ([], .err 1 (boolMsg x) boolEc 0) | some b => k b) else ([], .over)
noncomputable def logicOf (isOr : Bool) (rb : Res) (x : Str) : Res := needR x fun s => if s = isOr then retR (bit s) else bindR rb fun y => needR y fun t => retR (bit t)
noncomputable def call1F (f x : Str) : Res :=
  if f = "bool" then needR x fun b => retR (bit b)
  else if okB x = true then
    if f = "twice" then ([Txt.join " " [twName, x]], .val (twVal x x))
    else if f = "nope" then ([], .err 1 noMsg noEc 0)
    else ([], call1Of f x)
  else ([], .over)
noncomputable def call2F (f x y : Str) : Res :=
  if (okB x && okB y) = true then
    if f = "twice" then ([Txt.join " " [twName, x, y]], .val (twVal x y))
    else if f = "nope" then ([], .err 1 noMsg noEc 0)
    else ([], call2Of f x y)
  else ([], .over)
noncomputable def cmdTexts (pre : Bool) (val : Str) : List Str := if pre then ["1", val] else [val]
noncomputable def ev : Tr → Res
  | .num n => ([], numTxt n)
  | .text x => retR x
  | .cmd pre name code val => ([name], if code = 0 then (if okB val = true then .val (Txt.join "" (cmdTexts pre val)) else .over) else .err code val [.str "LAW", .str name] (if code = 2 then 1 else 0))
  | .varV => retR "1"
  | .varW => ([], .err 1 wMsg wEc 0)
  | .un op t => bindR (ev t) fun x => ([], chkUn op x)
  | .bin op a b => bindR (ev a) fun x => bindR (ev b) fun y => ([], chkBin op x y)
  | .and_ a b => bindR (ev a) fun x => logicOf false (ev b) x
  | .or_ a b => bindR (ev a) fun x => logicOf true (ev b) x
  | .ite a b c => bindR (ev a) fun x => needR x fun s => if s then ev b else ev c
  | .call1 f a => bindR (ev a) fun x => call1F f x
  | .call2 f a b => bindR (ev a) fun x => bindR (ev b) fun y => call2F f x y
noncomputable def unOp (op : Str) : Prop := op = "!" ∨ op = "-" ∨ op = "+"
noncomputable def binOp (op : Str) : Prop := numRel op = true ∨ txtRel op = true ∨ inRel op = true ∨ arith4 op
noncomputable def fn1 (f : Str) : Prop := (f = "bool" ∨ f = "max" ∨ f = "min" ∨ f = "entier" ∨ f = "int") ∨ (f = "twice" ∨ f = "nope")
noncomputable def fn2 (f : Str) : Prop := (f = "max" ∨ f = "min") ∨ (f = "twice" ∨ f = "nope")
/-- the shapes, the deeds of a book -/
noncomputable def Tr.ok (dk : AL) : Tr → Prop
  | .num _ => True
  | .text _ => True
  | .cmd _ name code val => getA name dk = some (.tup [.int code, .str val])
  | .varV => True
  | .varW => True
  | .un op t => unOp op ∧ t.ok dk
  | .bin op a b => (binOp op ∧ op.length ≤ 10) ∧ a.ok dk ∧ b.ok dk
  | .and_ a b => a.ok dk ∧ b.ok dk
  | .or_ a b => a.ok dk ∧ b.ok dk
  | .ite a b c => a.ok dk ∧ b.ok dk ∧ c.ok dk
  | .call1 f a => fn1 f ∧ a.ok dk
  | .call2 f a b => fn2 f ∧ a.ok dk ∧ b.ok dk
noncomputable def Tr.cost : Tr → Nat
  | .un _ t => t.cost + 3
  | .bin _ a b => max a.cost b.cost + 3
  | .and_ a b => max a.cost b.cost + 3
  | .or_ a b => max a.cost b.cost + 3
  | .ite a b c => max a.cost (max b.cost c.cost) + 3
  | .call1 _ a => a.cost + 3
  | .call2 _ a b => max a.cost b.cost + 3
  | _ => 15
noncomputable def Tr.sz : Tr → Nat
  | .un _ t => t.sz + 1
  | .bin _ a b => a.sz + b.sz + 1
  | .and_ a b => a.sz + b.sz + 1
  | .or_ a b => a.sz + b.sz + 1
  | .ite a b c => a.sz + b.sz + c.sz + 1
  | .call1 _ a => a.sz + 1
  | .call2 _ a b => a.sz + b.sz + 1
  | _ => 1
theorem Tr.cost15 : ∀ t : Tr, 15 ≤ t.cost := by
  intro t
  induction t with
  | un _ _ h => exact Nat.le_add_right_of_le h
  | call1 _ _ h => exact Nat.le_add_right_of_le h
  | bin _ _ _ h => exact Nat.le_add_right_of_le (Nat.le_trans h (Nat.le_max_left ..))
  | and_ _ _ h => exact Nat.le_add_right_of_le (Nat.le_trans h (Nat.le_max_left ..))
  | or_ _ _ h => exact Nat.le_add_right_of_le (Nat.le_trans h (Nat.le_max_left ..))
  | call2 _ _ _ h => exact Nat.le_add_right_of_le (Nat.le_trans h (Nat.le_max_left ..))
  | ite _ _ _ h => exact Nat.le_add_right_of_le (Nat.le_trans h (Nat.le_max_left ..))
  | _ => exact Nat.le_refl 15
theorem Tr.sz1 : ∀ t : Tr, 1 ≤ t.sz := by intro t; cases t <;> exact Nat.le_add_left 1 _
theorem szL {a b : Nat} : a < a + b + 1 := Nat.lt_succ_of_le (Nat.le_add_right _ _)
theorem szR {a b : Nat} : b < a + b + 1 := Nat.lt_succ_of_le (Nat.le_add_left _ _)
theorem sz3L {a b c : Nat} : a < a + b + c + 1 := Nat.lt_of_lt_of_le szL (Nat.succ_le_succ (Nat.le_add_right _ c))
theorem sz3M {a b c : Nat} : b < a + b + c + 1 := Nat.lt_of_lt_of_le szR (Nat.succ_le_succ (Nat.le_add_right _ c))
/-- above a first operand -/
noncomputable def above : Tr → Str → Res
  | .bin op _ b, x => bindR (ev b) fun y => ([], chkBin op x y)
  | .and_ _ b, x => logicOf false (ev b) x
  | .or_ _ b, x => logicOf true (ev b) x
  | _, x => retR x
noncomputable def evStk : List Tr → Str → Res
  | [], x => retR x
  | t :: r, x => bindR (above t x) (evStk r)
noncomputable def PostR (H : HA) (dk : AL) (logs : List Str) (σ : Store) (Q : V → Store → Prop) (E : Addr → Store → Prop) : Res → Prop
  | (l, .val x) => ∀ σ', HostS H dk σ' (logs ++ l) 0 → Keep H.X σ σ' → Q (.str x) σ'
  | (l, .err c v ec lv) => ∀ a σ', σ a = none → HostS H dk σ' (logs ++ l) 0 → Keep H.X σ σ' → ErrIs σ' true a c v ec lv → E a σ'
  | (_, .over) => False
theorem PostR.bind {H : HA} {dk : AL} {logs : List Str} {σ : Store} {Q : V → Store → Prop} {E : Addr → Store → Prop} {r : Res} {f : Str → Res} (h : PostR H dk logs σ Q E (bindR r f)) :
    PostR H dk logs σ (fun v σ₁ => ∃ x, v = .str x ∧ HostS H dk σ₁ (logs ++ r.1) 0 ∧ Keep H.X σ σ₁ ∧ (logs ++ r.1).length + (f x).1.length ≤ logs.length + (bindR r f).1.length ∧ PostR H dk (logs ++ r.1) σ₁ Q E (f x)) E r := by
  obtain ⟨l, o⟩ := r
  cases o with
  | val x =>
    intro σ₁ h1 h2
    refine ⟨x, rfl, h1, h2, by simp [bindR]; lia, ?_⟩
    have h : PostR H dk logs σ Q E (l ++ (f x).1, (f x).2) := h
    revert h
    refine opq (f x) fun y => ?_
    intro h
    obtain ⟨m, p⟩ := y
    cases p with
    | val y => exact fun σ₂ h3 h4 => h σ₂ (by rw [← List.append_assoc]; exact h3) (h2.trans h4)
    | err => exact fun a σ₂ h5 h3 h4 h6 => h a σ₂ (h2.freshX h5 h1.alive) (by rw [← List.append_assoc]; exact h3) (h2.trans h4) h6
    | over => exact h
  | err => exact h
  | over => exact h
theorem PostR.weaken {H : HA} {dk : AL} {logs : List Str} {σ σ₁ : Store} {Q : V → Store → Prop} {E : Addr → Store → Prop} {r : Res} (k : Keep H.X σ σ₁) (al : ∀ b ∈ H.X, σ₁ b ≠ none) (h : PostR H dk logs σ Q E r) : PostR H dk logs σ₁ Q E r := by
  obtain ⟨l, o⟩ := r
  cases o with
  | val x => exact fun σ₂ h3 h4 => h σ₂ h3 (k.trans h4)
  | err => exact fun a σ₂ h5 h3 h4 h6 => h a σ₂ (k.freshX h5 al) h3 (k.trans h4) h6
  | over => exact h
theorem PostR.post {H : HA} {dk : AL} {logs : List Str} {σ : Store} {Q : V → Store → Prop} {E : Addr → Store → Prop} {o : Out} (x : HostS H dk σ logs 0) (h : PostR H dk logs σ Q E ([], o)) : Post [] σ (fun v σ' => HostS H dk σ' logs 0 → Keep H.X σ σ' → Q v σ') E o := by
  cases o with
  | val y => exact fun σ' k h1 h2 => h σ' (by rw [List.append_nil]; exact h1) h2
  | err => exact fun a σ' h1 k h2 => h a σ' h1 (by rw [List.append_nil]; exact x.keep k) (k.mono (by simp)) h2
  | over => exact h
end
section
theorem HostS.aneL {H : HA} {dk : AL} {σ : Store} {logs : List Str} {dep : Int} (x : HostS H dk σ logs dep) {a : Addr} (h : σ a = none) : a ∉ H.X := fun m => x.alive a m h
theorem join0 {ts : List Str} (h : ts.length ≤ 2) (hl : ∀ t ∈ ts, t.length ≤ 100000) : JoinOk "" ts = true := by
  have h1 : ("" : Str).length = 0 := rfl
  unfold JoinOk Builtin.Str.tooLong
  match ts, h with
  | [], _ => rfl
  | [a], _ => have := hl a (by simp); simp; unfold sizeLine; lia
  | [a, b], _ => have := hl a (by simp); have := hl b (by simp); simp; unfold sizeLine; lia
noncomputable def itb_tup' := @itb_tup
theorem cmd_post {H : HA} {dk : AL} {logs : List Str} {σ : Store} {Q : V → Store → Prop} {E : Addr → Store → Prop} {pre : Bool} {name val : Str} {code : Int} (h : PostR H dk logs σ Q E (ev (.cmd pre name code val))) :
    (code = 0 → okB val = true ∧ ∀ σ', HostS H dk σ' (logs ++ [name]) 0 → Keep H.X σ σ' → Q (.str (Txt.join "" (cmdTexts pre val))) σ') ∧
    (code ≠ 0 → ∀ a σ', σ a = none → HostS H dk σ' (logs ++ [name]) 0 → Keep H.X σ σ' → ErrIs σ' true a code val [.str "LAW", .str name] (if code = 2 then 1 else 0) → E a σ') := by
  unfold ev at h
  constructor
  · intro e
    rw [if_pos e] at h
    by_cases q : okB val = true
    · rw [if_pos q] at h; exact ⟨q, h⟩
    · rw [if_neg q] at h; exact h.elim
  · intro e
    rw [if_neg e] at h; exact h
theorem HostS.keep2 {H : HA} {dk : AL} {σ : Store} {logs : List Str} {m : Addr} {l : List V} {cc : Cell} (x : HostS H dk σ logs 0) (hm : m ∉ H.X) (h : σ m = some (.list l)) : HostS H dk (σ.set m cc) logs 0 := by
  obtain ⟨n, x2⟩ := x.hd
  have hml : m ≠ H.L := fun e => hm (by rw [e]; simp [HA.X])
  have key : ∀ b c1, σ b = some c1 → (∀ l, c1 ≠ .list l) → (σ.set m cc) b = some c1 := fun b c1 e1 h2 => (Store.set_ne _ _ (ne_cell e1 h (h2 l))).trans e1
  obtain ⟨tk, x3, r3⟩ := x.hT
  obtain ⟨wk, x4, r4⟩ := x.hV
  refine ⟨key _ _ x.hh (by intro _ h; cases h), ⟨n, key _ _ x2 (by intro _ h; cases h)⟩, ⟨tk, key _ _ x3 (by intro _ h; cases h), r3⟩, key _ _ x.hD (by intro _ h; cases h), (Store.set_ne _ _ hml.symm).trans x.hL, ⟨wk, key _ _ x4 (by intro _ h; cases h), ?_⟩, key _ _ x.hC (by intro _ h; cases h), key _ _ x.hv1 (by intro _ h; cases h), key _ _ x.hv2 (by intro _ h; cases h), x.nT, x.nD, x.nC⟩
  rcases r4 with h | ⟨W, dw, t, h1, h2, h3⟩
  · exact .inl h
  · exact .inr ⟨W, dw, t, h1, key _ _ h2 (by intro _ h; cases h), key _ _ h3 (by intro _ h; cases h)⟩
theorem Keep.set2 {X : List Addr} {σ σ' : Store} {m : Addr} {cc : Cell} (k : Keep X σ σ') (hm : σ m = none) : Keep X σ (σ'.set m cc) := k.new hm
section
variable {B : Bs} {c : Cx} {σ : Store} {Q : V → Store → Prop} {E : Addr → Store → Prop}
theorem parts_cmd0 {w : World} (hK : B.K = hd.heap_1 w.params) (hh : c.hd = none) (hr : c.dep + 8 ≤ 990) {H : HA} {dk : AL} {logs : List Str} (x : HostS H dk σ logs 0) {name val : Str} {code : Int} (hs : getA name dk = some (.tup [.int code, .str val]))
    (hlg : logs.length + 1 ≤ 100000) (h : PostR H dk logs σ Q E (ev (.cmd false name code val))) : CW B c (callF (.ref 454)) [.ref H.h, .tup [cmdV name]] σ VR Q E := by
  obtain ⟨n, hd⟩ := x.hd
  have hhh := x.hh
  end_is "def2"
  intro env c' F hh' hd' hu'
  have hh1 := hh'.trans hh
  end_is "g1@16"
  intro m hm
  have hne := ne_some' hhh hm
  have hne2 := ne_some' hd hm
  have hmx := x.aneL hm
  unfold cmdV
  end_is "go@16"
  have k1 := Keep.new (cc := Cell.list []) (Keep.refl H.X σ) hm
  have al : ∀ b ∈ H.X, (σ.set m (.list [])) b ≠ none := (x.keep (Keep.new (Keep.refl _ _) hm)).alive
  obtain ⟨p0, p1⟩ := cmd_post h
  refine run_k (by assumption) hh1 (by end_is "l") (x.keep (Keep.new (Keep.refl _ _) hm)) (by end_is "l") hs (fun e σ' x' k => ?_) (fun e a σ' h1 x' k h2 => p1 e a σ' (k1.freshX h1 al) x' (k1.trans k) h2)
  obtain ⟨hv, p2⟩ := p0 e
  have hm' := k.at (Store.set_self _ _ _) hmx
  end_is "go@16"
  refine F_join (ts := [val]) (Store.set_self _ _ _) (join0 (by simp) (fun t ht => ?_)) ?_
  · simp only [List.mem_cons, List.not_mem_nil, or_false] at ht
    have := (okB_ok hv).2
    subst ht; lia
  · end_is "go@16"
    refine p2 _ (x'.keep2 hmx hm') ((k1.trans k).set2 hm)
theorem parts_cmd1 {w : World} (hK : B.K = hd.heap_1 w.params) (hh : c.hd = none) (hr : c.dep + 8 ≤ 990) {H : HA} {dk : AL} {logs : List Str} (x : HostS H dk σ logs 0) {name val : Str} {code : Int} (hs : getA name dk = some (.tup [.int code, .str val]))
    (hlg : logs.length + 1 ≤ 100000) (h : PostR H dk logs σ Q E (ev (.cmd true name code val))) : CW B c (callF (.ref 454)) [.ref H.h, .tup [.tup [.str "text", .str "1"], cmdV name]] σ VR Q E := by
  obtain ⟨n, hd⟩ := x.hd
  have hhh := x.hh
  end_is "def2"
  intro env c' F hh' hd' hu'
  have hh1 := hh'.trans hh
  end_is "g1@16"
  intro m hm
  have hne := ne_some' hhh hm
  have hne2 := ne_some' hd hm
  have hmx := x.aneL hm
  unfold cmdV
  end_is "go@16"
  simp only [set_set, List.nil_append]
  end_is "go@16"
  have k1 := Keep.new (cc := Cell.list [.str "1"]) (Keep.refl H.X σ) hm
  have al : ∀ b ∈ H.X, (σ.set m (.list [.str "1"])) b ≠ none := (x.keep (Keep.new (Keep.refl _ _) hm)).alive
  obtain ⟨p0, p1⟩ := cmd_post h
  refine run_k (by assumption) hh1 (by end_is "l") (x.keep (Keep.new (Keep.refl _ _) hm)) (by end_is "l") hs (fun e σ' x' k => ?_) (fun e a σ' h1 x' k h2 => p1 e a σ' (k1.freshX h1 al) x' (k1.trans k) h2)
  obtain ⟨hv, p2⟩ := p0 e
  have hm' := k.at (Store.set_self _ _ _) hmx
  end_is "go@16"
  refine F_join (ts := ["1", val]) (Store.set_self _ _ _) (join0 (by simp) (fun t ht => ?_)) ?_
  · simp only [List.mem_cons, List.not_mem_nil, or_false] at ht
    have := (okB_ok hv).2
    rcases ht with rfl | rfl; exact Nat.le_trans (show ("1" : Str).length ≤ 1 from Nat.le_refl _) (by decide); lia
  · end_is "go@16"
    refine p2 _ (x'.keep2 hmx hm') ((k1.trans k).set2 hm)
end
end
section
noncomputable def reckonP (t : Tr) : Prop := ∀ {B : Bs} {c : Cx} {σ : Store} {Q : V → Store → Prop} {E : Addr → Store → Prop} {w : World}, B.K = hd.heap_1 w.params → c.hd = none → c.dep + t.cost ≤ 990 → ∀ {H : HA} {dk : AL} {logs : List Str}, HostS H dk σ logs 0 → t.ok dk →
  logs.length + (ev t).1.length ≤ 100000 → PostR H dk logs σ Q E (ev t) → CW B c (callF (.ref 721)) [.ref H.h, t.enc] σ VR Q E
theorem needR_post {H : HA} {dk : AL} {logs : List Str} {σ : Store} {Q : V → Store → Prop} {E : Addr → Store → Prop} {y : Str} {k : Bool → Res} (x : HostS H dk σ logs 0) (h : PostR H dk logs σ Q E (needR y k)) :
    Tame y ∧ y.length ≤ 1000 ∧ (∀ s, boolOf y = some s → PostR H dk logs σ Q E (k s) ∧ needR y k = k s) ∧ (boolOf y = none → Raises1 σ (boolMsg y) boolEc E) := by
  unfold needR at h ⊢
  have q : okB y = true := by
    by_cases q : okB y = true
    · exact q
    · rw [if_neg q] at h; exact h.elim
  rw [if_pos q] at h ⊢
  obtain ⟨ty, ly⟩ := okB_ok q
  refine ⟨ty, ly, fun s hs => ?_, fun hs => ?_⟩
  · rw [hs] at h ⊢; exact ⟨h, rfl⟩
  · rw [hs] at h
    exact fun a σ' h1 k h2 => h a σ' h1 (by rw [List.append_nil]; exact x.keep k) (k.mono (by simp)) h2
theorem PostR.ret {H : HA} {dk : AL} {logs : List Str} {σ : Store} {Q : V → Store → Prop} {E : Addr → Store → Prop} {y : Str} (x : HostS H dk σ logs 0) (h : PostR H dk logs σ Q E (retR y)) : Q (.str y) σ := h σ (by rw [List.append_nil]; exact x) (Keep.refl _ _)
section
variable {B : Bs} {c : Cx} {σ : Store} {Q : V → Store → Prop} {E : Addr → Store → Prop}
theorem parts_v {w : World} (hK : B.K = hd.heap_1 w.params) (hh : c.hd = none) (hr : c.dep + 8 ≤ 990) {H : HA} {dk : AL} {logs : List Str} (x : HostS H dk σ logs 0) (h : PostR H dk logs σ Q E (ev .varV)) : CW B c (callF (.ref 454)) [.ref H.h, .tup [.tup [.str "var", .str "v", .none]]] σ VR Q E := by
  obtain ⟨n, hd⟩ := x.hd
  have hhh := x.hh
  end_is "def2"
  intro env c' F hh' hd' hu'
  have hh1 := hh'.trans hh
  end_is "g1@17"
  intro m hm
  have hne := ne_some' hhh hm
  have hne2 := ne_some' hd hm
  have x1 := x.keep (Keep.new (cc := .list []) (Keep.refl [] σ) hm)
  end_is "go@17"
  refine read_v (by assumption) hh1 (by end_is "l") x1 ?_
  end_is "go@17"
  refine F_join (ts := ["1"]) (Store.set_self _ _ _) rfl ?_
  end_is "go@17"
  simp only [set_set]
  exact h _ (by rw [List.append_nil]; exact x.keep (Keep.new (Keep.refl [] σ) hm)) (Keep.new (Keep.refl _ σ) hm)
theorem parts_w {w : World} (hK : B.K = hd.heap_1 w.params) (hh : c.hd = none) (hr : c.dep + 8 ≤ 990) {H : HA} {dk : AL} {logs : List Str} (x : HostS H dk σ logs 0) (h : PostR H dk logs σ Q E (ev .varW)) : CW B c (callF (.ref 454)) [.ref H.h, .tup [.tup [.str "var", .str "w", .none]]] σ VR Q E := by
  obtain ⟨n, hd⟩ := x.hd
  have hhh := x.hh
  end_is "def2"
  intro env c' F hh' hd' hu'
  have hh1 := hh'.trans hh
  end_is "g1@17"
  intro m hm
  have hne := ne_some' hhh hm
  have hne2 := ne_some' hd hm
  have x1 := x.keep (Keep.new (cc := .list []) (Keep.refl [] σ) hm)
  end_is "go@17"
  have h : PostR H dk logs (σ.set m (.list [])) Q E (ev .varW) := h.weaken (Keep.new (Keep.refl _ σ) hm) x1.alive
  refine read_w (by assumption) hh1 (by end_is "l") x1 fun a σ' h1 x' k e => h a σ' h1 (by rw [List.append_nil]; exact x') k e
theorem logic_value_k {w : World} (hK : B.K = hd.heap_1 w.params) (hh : c.hd = none) {isOr : Bool} {a b : Tr} (hr : c.dep + (b.cost + 1) ≤ 990) {nm : Str} (hnm : (nm == "or") = isOr) {H : HA} {dk : AL} {logs : List Str} (x : HostS H dk σ logs 0) (IH : reckonP b) (hok : b.ok dk) {y : Str}
    (hlg : logs.length + (logicOf isOr (ev b) y).1.length ≤ 100000) (h : PostR H dk logs σ Q E (logicOf isOr (ev b) y)) : CW B c (callF (.ref 714)) [.ref H.h, .tup [.str nm, a.enc, b.enc], .str y] σ VR Q E := by
  have hb := b.cost15
  end_is "def3"
  intro env c' F hh' hd' hu'
  have hh1 := hh'.trans hh
  unfold logicOf at h hlg
  obtain ⟨ty, ly, n1, n2⟩ := needR_post x h
  end_is "g0@17"
  rw [hnm]
  end_is "g1@17"
  refine need_bool_k (by assumption) hh1 (by end_is "l") ty.asc (by end_is "l") (fun s hs => ?_) n2
  obtain ⟨h, he⟩ := n1 s hs
  rw [he] at hlg
  by_cases e : s = isOr
  · rw [if_pos e] at h
    have h := PostR.ret x h
    have e2 : (s != isOr) = false := by rw [e]; simp
    end_is "g1@17"
    rw [e2]
    end_is "g1@17"
    cases s <;> (end_is "go@17"; exact h)
  · rw [if_neg e] at h hlg
    have e2 : (s != isOr) = true := by cases s <;> cases isOr <;> simp_all
    have hl := bindR_len (ev b) fun y => needR y fun t => retR (bit t)
    end_is "g1@17"
    rw [e2]
    end_is "go@17"
    refine CW.mono (IH (by assumption) hh1 (by end_is "l") x hok (by end_is "l") h.bind) (fun v σ₁ zz => ?_) fun _ _ x => x
    refine cps fun PP kk => ?_
    obtain ⟨y2, e, x1, k1, hl1, p1⟩ := zz
    subst e
    refine kk ?_
    obtain ⟨ty2, ly2, n3, n4⟩ := needR_post x1 p1
    end_is "g1@17"
    refine need_bool_k (by assumption) hh1 (by end_is "l") ty2.asc (by end_is "l") (fun t ht => ?_) n4
    have p2 := PostR.ret x1 (n3 t ht).1
    cases t <;> (end_is "go@17"; exact p2)
end
end
section
theorem call1F_known {H : HA} {dk : AL} {logs : List Str} {σ : Store} {Q : V → Store → Prop} {E : Addr → Store → Prop} {f x : Str} (hx : HostS H dk σ logs 0) (hf : f = "bool" ∨ f = "max" ∨ f = "min" ∨ f = "entier" ∨ f = "int") (h : PostR H dk logs σ Q E (call1F f x)) :
    okB x = true ∧ PostR H dk logs σ Q E ([], call1Of f x) := by
  unfold call1F at h
  by_cases e : f = "bool"
  · rw [if_pos e] at h
    unfold needR at h
    by_cases q : okB x = true
    · rw [if_pos q] at h
      refine ⟨q, ?_⟩
      unfold call1Of
      rw [if_pos e]
      cases hb : boolOf x with
      | none => rw [hb] at h; exact h
      | some b => rw [hb] at h; exact h
    · rw [if_neg q] at h; exact h.elim
  · rw [if_neg e] at h
    by_cases q : okB x = true
    · rw [if_pos q, if_neg (by rcases hf with rfl | rfl | rfl | rfl | rfl <;> decide), if_neg (by rcases hf with rfl | rfl | rfl | rfl | rfl <;> decide)] at h
      exact ⟨q, h⟩
    · rw [if_neg q] at h; exact h.elim
theorem call1F_tw {f x : Str} (hf : f = "twice") (H' : call1F f x ≠ ([], .over)) : okB x = true ∧ call1F f x = ([Txt.join " " [twName, x]], .val (twVal x x)) := by
  subst hf
  unfold call1F at H' ⊢
  rw [if_neg (by decide)] at H' ⊢
  by_cases q : okB x = true
  · rw [if_pos q, if_pos rfl]; exact ⟨q, rfl⟩
  · rw [if_neg q] at H'; exact absurd rfl H'
theorem call1F_no {f x : Str} (hf : f = "nope") (H' : call1F f x ≠ ([], .over)) : okB x = true ∧ call1F f x = ([], .err 1 noMsg noEc 0) := by
  subst hf
  unfold call1F at H' ⊢
  rw [if_neg (by decide)] at H' ⊢
  by_cases q : okB x = true
  · rw [if_pos q, if_neg (by decide), if_pos rfl]; exact ⟨q, rfl⟩
  · rw [if_neg q] at H'; exact absurd rfl H'
theorem call2F_known {f x y : Str} (hf : f = "max" ∨ f = "min") (H' : call2F f x y ≠ ([], .over)) : okB x = true ∧ okB y = true ∧ call2F f x y = ([], call2Of f x y) := by
  unfold call2F at H' ⊢
  by_cases q : (okB x && okB y) = true
  · rw [if_pos q, if_neg (by rcases hf with rfl | rfl <;> decide), if_neg (by rcases hf with rfl | rfl <;> decide)]
    rw [Bool.and_eq_true] at q
    exact ⟨q.1, q.2, rfl⟩
  · rw [if_neg q] at H'; exact absurd rfl H'
theorem call2F_tw {f x y : Str} (hf : f = "twice") (H' : call2F f x y ≠ ([], .over)) : okB x = true ∧ okB y = true ∧ call2F f x y = ([Txt.join " " [twName, x, y]], .val (twVal x y)) := by
  subst hf
  unfold call2F at H' ⊢
  by_cases q : (okB x && okB y) = true
  · rw [if_pos q, if_pos rfl]
    rw [Bool.and_eq_true] at q
    exact ⟨q.1, q.2, rfl⟩
  · rw [if_neg q] at H'; exact absurd rfl H'
theorem call2F_no {f x y : Str} (hf : f = "nope") (H' : call2F f x y ≠ ([], .over)) : okB x = true ∧ okB y = true ∧ call2F f x y = ([], .err 1 noMsg noEc 0) := by
  subst hf
  unfold call2F at H' ⊢
  by_cases q : (okB x && okB y) = true
  · rw [if_pos q, if_neg (by decide), if_pos rfl]
    rw [Bool.and_eq_true] at q
    exact ⟨q.1, q.2, rfl⟩
  · rw [if_neg q] at H'; exact absurd rfl H'
theorem PostR.no {H : HA} {dk : AL} {logs : List Str} {σ : Store} {Q : V → Store → Prop} {E : Addr → Store → Prop} {r : Res} (h : PostR H dk logs σ Q E r) : r ≠ ([], .over) := fun e => by rw [e] at h; exact h
theorem tw_app : ("tcl::mathfunc::" : Str) ++ "twice" = twName := by decide +kernel
theorem no_app : ("tcl::mathfunc::" : Str) ++ "nope" = noName := by decide +kernel
inductive BP (H : HA) (dk : AL) (logs : List Str) (σ σ0 : Store) (Q : V → Store → Prop) (E : Addr → Store → Prop) (r : Res) (f : Str → Res) (v : V) (σ₁ : Store) : Prop
  | mk (x : Str) : v = .str x → HostS H dk σ₁ (logs ++ r.1) 0 → Keep H.X σ0 σ₁ → (logs ++ r.1).length + (f x).1.length ≤ logs.length + (bindR r f).1.length → (∀ σ₂, Keep H.X σ σ₂ → (∀ b ∈ H.X, σ₂ b ≠ none) → PostR H dk (logs ++ r.1) σ₂ Q E (f x)) → BP H dk logs σ σ0 Q E r f v σ₁
theorem PostR.bind2 {H : HA} {dk : AL} {logs : List Str} {σ σ0 : Store} {Q : V → Store → Prop} {E : Addr → Store → Prop} {r : Res} {f : Str → Res} (k : Keep H.X σ σ0) (al : ∀ b ∈ H.X, σ0 b ≠ none) (h : PostR H dk logs σ Q E (bindR r f)) :
    PostR H dk logs σ0 (BP H dk logs σ σ0 Q E r f) E r := by
  obtain ⟨l, o⟩ := r
  cases o with
  | val x =>
    intro σ₁ h1 h2
    refine ⟨x, rfl, h1, h2, by simp [bindR]; lia, fun σ₂ k2 al2 => ?_⟩
    have h : PostR H dk logs σ Q E (l ++ (f x).1, (f x).2) := h
    revert h
    refine opq (f x) fun y => ?_
    intro h
    obtain ⟨m, p⟩ := y
    cases p with
    | val y => exact fun σ₃ h3 h4 => h σ₃ (by rw [← List.append_assoc]; exact h3) (k2.trans h4)
    | err => exact fun a σ₃ h5 h3 h4 h6 => h a σ₃ (k2.freshX h5 al2) (by rw [← List.append_assoc]; exact h3) (k2.trans h4) h6
    | over => exact h
  | err => exact fun a σ₃ h5 h3 h4 h6 => h a σ₃ (k.freshX h5 al) h3 (k.trans h4) h6
  | over => exact h
theorem Post.run {X : List Addr} {σ : Store} {Q1 Q2 : V → Store → Prop} {E : Addr → Store → Prop} {o : Out} (h : Post X σ Q1 E o) (k : ∀ y σ', Keep X σ σ' → Q1 (.str y) σ' → Q2 (.str y) σ') : Post X σ Q2 E o := by
  cases o with
  | val x => exact fun σ' h1 => k x σ' h1 (h σ' h1)
  | err => exact h
  | over => exact h
section
variable {B : Bs} {c : Cx} {σ : Store} {Q : V → Store → Prop} {E : Addr → Store → Prop}
theorem call_value1_k {w : World} (hK : B.K = hd.heap_1 w.params) (hh : c.hd = none) {f : Str} {a : Tr} (hr : c.dep + (a.cost + 1) ≤ 990) {H : HA} {dk : AL} {logs : List Str} (x : HostS H dk σ logs 0) (IH : reckonP a) (hf : fn1 f) (hok : a.ok dk)
    (hlg : logs.length + (ev (.call1 f a)).1.length ≤ 100000) (h : PostR H dk logs σ Q E (ev (.call1 f a))) : CW B c (callF (.ref 700)) [.ref H.h, .str f, .tup [a.enc]] σ VR Q E := by
  have hb := a.cost15
  unfold ev at h hlg
  have hbl := bindR_len (ev a) fun x => call1F f x
  end_is "def3"
  intro env c' F hh' hd' hu'
  have hh1 := hh'.trans hh
  end_is "g1@18"
  intro m hm
  have hmx := x.aneL hm
  have k1 := Keep.new (cc := Cell.list []) (Keep.refl H.X σ) hm
  have x0 := x.keep (Keep.new (cc := Cell.list []) (Keep.refl [] σ) hm)
  end_is "go@18"
  refine CW.mono (IH (by assumption) hh1 (by end_is "l") x0 hok (by end_is "l") (h.bind2 k1 x0.alive)) (fun v σ₁ zz => ?_) fun _ _ x => x
  refine cps fun PP kk => ?_
  obtain ⟨y, e, x1, k2, hl1, p1⟩ := zz
  subst e
  refine kk ?_
  have hm1 := k2.at (Store.set_self _ _ _) hmx
  end_is "go@18"
  simp only [List.nil_append]
  have hm2 : (σ₁.set m (.list [V.str y])) m = some (.list [.str y]) := Store.set_self _ _ _
  have x2 : HostS H dk (σ₁.set m (.list [V.str y])) (logs ++ (ev a).1) 0 := x1.keep2 hmx hm1
  have p2 := p1 (σ₁.set m (.list [V.str y])) ((k1.trans k2).set2 hm) x2.alive
  revert hm2 x2 p2
  refine opqE (σ₁.set m (.list [V.str y])) fun σ₂ hS => ?_
  intro hm2 x2 p2
  rcases hf with hf | rfl | rfl
  · obtain ⟨hq, p3⟩ := call1F_known x2 hf p2
    obtain ⟨ty, ly⟩ := okB_ok hq
    refine call1_k (by assumption) hh1 (by end_is "l") hf ty.asc (by end_is "l") hm2 ?_
    refine Post.run (p3.post x2) fun z σ' k q => ?_
    end_is "go@18"
    exact q (x2.keep k) (k.mono (by simp))
  · obtain ⟨hq, e⟩ := call1F_tw rfl p2.no
    obtain ⟨ty, ly⟩ := okB_ok hq
    rw [e] at p2 hl1
    refine callN_k (by assumption) (by end_is "l") (.inl rfl) fun σ₃ k3 => ?_
    have x3 := x2.keep k3
    have hm3 := k3.at hm2 (by simp)
    obtain ⟨n, hd⟩ := x3.hd
    have hhh := x3.hh
    end_is "go@18"
    rw [tw_app]
    intro m2 hn2
    have q1 := ne_some' hm3 hn2
    end_is "g1@18"
    refine O_addl (m := [V.str y]) (Store.set_self _ _ _) (by end_is "st") (show 2 ≤ sizeLine by decide) fun m3 hn3 => ?_
    obtain ⟨q2, hn4⟩ := set_none hn3
    have x4 : HostS H dk ((σ₃.set m2 (.list [V.str twName])).set m3 (.list ([V.str twName] ++ [V.str y]))) (logs ++ (ev a).1) 0 := x3.keep (Keep.new (Keep.new (Keep.refl _ _) hn2) hn4)
    have q3 := x3.aneL hn4
    end_is "go@18"
    refine call_tw (by assumption) hh1 (by end_is "l") x4 (by end_is "l") (ys := [y]) (y0 := y) (yl := y) (Store.set_self _ _ _) (.inl ⟨rfl, rfl⟩) (fun t ht => ?_) (fun σ' x' k' => ?_) (fun e => q3 (by rw [e]; simp [HA.X]))
    · simp only [List.mem_cons, List.not_mem_nil, or_false] at ht; subst ht; lia
    · end_is "go@18"
      exact p2 σ' x' (Keep.trans ((Keep.new (Keep.new k3 (k3.fresh hn2 (by simp))) (k3.fresh hn4 (by simp))).mono (by simp)) k')
  · obtain ⟨hq, e⟩ := call1F_no rfl p2.no
    rw [e] at p2 hl1
    refine callN_k (by assumption) (by end_is "l") (.inr rfl) fun σ₃ k3 => ?_
    have x3 := x2.keep k3
    have hm3 := k3.at hm2 (by simp)
    obtain ⟨n, hd⟩ := x3.hd
    have hhh := x3.hh
    end_is "go@18"
    rw [no_app]
    intro m2 hn2
    have q1 := ne_some' hm3 hn2
    end_is "g1@18"
    refine O_addl (m := [V.str y]) (Store.set_self _ _ _) (by end_is "st") (show 2 ≤ sizeLine by decide) fun m3 hn3 => ?_
    obtain ⟨q2, hn4⟩ := set_none hn3
    have k4 := Keep.new (cc := .list ([V.str noName] ++ [V.str y])) (Keep.new (cc := .list [V.str noName]) (Keep.refl [] σ₃) hn2) hn4
    have x4 := x3.keep k4
    end_is "go@18"
    refine call_no (by assumption) hh1 (by end_is "l") x4 (ys := [y]) (Store.set_self _ _ _) (Nat.le_of_ble_eq_true rfl) ?_
    exact fun a' σ' h1 k h2 => p2 a' σ' (k3.fresh (k4.fresh h1 (by simp)) (by simp)) (by rw [List.append_nil]; exact x4.keep k) (((k3.trans k4).trans k).mono (by simp)) h2
theorem call_value2_k {w : World} (hK : B.K = hd.heap_1 w.params) (hh : c.hd = none) {f : Str} {a b : Tr} (hr : c.dep + (max a.cost b.cost + 1) ≤ 990) {H : HA} {dk : AL} {logs : List Str} (x : HostS H dk σ logs 0) (IH : reckonP a) (IH2 : reckonP b) (hf : fn2 f) (hok : a.ok dk) (hok2 : b.ok dk)
    (hlg : logs.length + (ev (.call2 f a b)).1.length ≤ 100000) (h : PostR H dk logs σ Q E (ev (.call2 f a b))) : CW B c (callF (.ref 700)) [.ref H.h, .str f, .tup [a.enc, b.enc]] σ VR Q E := by
  have hb := a.cost15
  unfold ev at h hlg
  have hbl := bindR_len (ev a) fun x => bindR (ev b) fun y => call2F f x y
  end_is "def3"
  intro env c' F hh' hd' hu'
  have hh1 := hh'.trans hh
  end_is "g1@18"
  intro m hm
  have hmx := x.aneL hm
  have k1 := Keep.new (cc := Cell.list []) (Keep.refl H.X σ) hm
  have x0 := x.keep (Keep.new (cc := Cell.list []) (Keep.refl [] σ) hm)
  end_is "go@18"
  refine CW.mono (IH (by assumption) hh1 (by end_is "l") x0 hok (by end_is "l") (h.bind2 k1 x0.alive)) (fun v σ₁ zz => ?_) fun _ _ x => x
  refine cps fun PP kk => ?_
  obtain ⟨y, e, x1, k2, hl1, p1⟩ := zz
  subst e
  refine kk ?_
  have hm1 := k2.at (Store.set_self _ _ _) hmx
  end_is "go@18"
  simp only [List.nil_append]
  have hm2' : (σ₁.set m (.list [V.str y])) m = some (.list [.str y]) := Store.set_self _ _ _
  have x2' : HostS H dk (σ₁.set m (.list [V.str y])) (logs ++ (ev a).1) 0 := x1.keep2 hmx hm1
  have h2 := p1 σ (Keep.refl _ _) x.alive
  have hbl2 := bindR_len (ev b) fun z => call2F f y z
  end_is "go@18"
  refine CW.mono (IH2 (by assumption) hh1 (by end_is "l") x2' hok2 (by end_is "l") (h2.bind2 ((k1.trans k2).set2 hm) x2'.alive)) (fun v σ₂ zz => ?_) fun _ _ x => x
  refine cps fun PP kk => ?_
  obtain ⟨z, e, x3, k3, hl2, p2⟩ := zz
  subst e
  refine kk ?_
  have hm3' := k3.at hm2' hmx
  end_is "go@18"
  simp only [List.cons_append, List.nil_append]
  have hm2 : (σ₂.set m (.list [V.str y, V.str z])) m = some (.list [.str y, .str z]) := Store.set_self _ _ _
  have x2 : HostS H dk (σ₂.set m (.list [V.str y, V.str z])) ((logs ++ (ev a).1) ++ (ev b).1) 0 := x3.keep2 hmx hm3'
  have p2 := p2 (σ₂.set m (.list [V.str y, V.str z])) ((((k1.trans k2).set2 hm).trans k3).set2 hm) x2.alive
  have hl1 := Nat.le_trans hl2 hl1
  revert hm2 x2 p2
  refine opqE (σ₂.set m (.list [V.str y, V.str z])) fun σ₂ hS => ?_
  intro hm2 x2 p2
  rcases hf with hf | rfl | rfl
  · obtain ⟨hq, hq2, e⟩ := call2F_known hf p2.no
    obtain ⟨ty, ly⟩ := okB_ok hq
    obtain ⟨ty2, ly2⟩ := okB_ok hq2
    rw [e] at p2
    refine call2_k (by assumption) hh1 (by end_is "l") hf ty.asc (by end_is "l") ty2.asc (by end_is "l") hm2 ?_
    refine Post.run (p2.post x2) fun z σ' k q => ?_
    end_is "go@18"
    exact q (x2.keep k) (k.mono (by simp))
  · obtain ⟨hq, hq2, e⟩ := call2F_tw rfl p2.no
    obtain ⟨ty, ly⟩ := okB_ok hq
    obtain ⟨ty2, ly2⟩ := okB_ok hq2
    rw [e] at p2 hl1
    refine callN_k (by assumption) (by end_is "l") (.inl rfl) fun σ₃ k3 => ?_
    have x3 := x2.keep k3
    have hm3 := k3.at hm2 (by simp)
    obtain ⟨n, hd⟩ := x3.hd
    have hhh := x3.hh
    end_is "go@18"
    rw [tw_app]
    intro m2 hn2
    have q1 := ne_some' hm3 hn2
    end_is "g1@18"
    refine O_addl (m := [V.str y, V.str z]) (Store.set_self _ _ _) (by end_is "st") (show 3 ≤ sizeLine by decide) fun m3 hn3 => ?_
    obtain ⟨q2, hn4⟩ := set_none hn3
    have x4 : HostS H dk ((σ₃.set m2 (.list [V.str twName])).set m3 (.list ([V.str twName] ++ [V.str y, V.str z]))) ((logs ++ (ev a).1) ++ (ev b).1) 0 := x3.keep (Keep.new (Keep.new (Keep.refl _ _) hn2) hn4)
    have q3 := x3.aneL hn4
    end_is "go@18"
    refine call_tw (by assumption) hh1 (by end_is "l") x4 (by end_is "l") (ys := [y, z]) (y0 := y) (yl := z) (Store.set_self _ _ _) (.inr rfl) (fun t ht => ?_) (fun σ' x' k' => ?_) (fun e => q3 (by rw [e]; simp [HA.X]))
    · simp only [List.mem_cons, List.not_mem_nil, or_false] at ht; rcases ht with rfl | rfl <;> lia
    · end_is "go@18"
      exact p2 σ' x' (Keep.trans ((Keep.new (Keep.new k3 (k3.fresh hn2 (by simp))) (k3.fresh hn4 (by simp))).mono (by simp)) k')
  · obtain ⟨hq, hq2, e⟩ := call2F_no rfl p2.no
    rw [e] at p2 hl1
    refine callN_k (by assumption) (by end_is "l") (.inr rfl) fun σ₃ k3 => ?_
    have x3 := x2.keep k3
    have hm3 := k3.at hm2 (by simp)
    obtain ⟨n, hd⟩ := x3.hd
    have hhh := x3.hh
    end_is "go@18"
    rw [no_app]
    intro m2 hn2
    have q1 := ne_some' hm3 hn2
    end_is "g1@18"
    refine O_addl (m := [V.str y, V.str z]) (Store.set_self _ _ _) (by end_is "st") (show 3 ≤ sizeLine by decide) fun m3 hn3 => ?_
    obtain ⟨q2, hn4⟩ := set_none hn3
    have k4 := Keep.new (cc := .list ([V.str noName] ++ [V.str y, V.str z])) (Keep.new (cc := .list [V.str noName]) (Keep.refl [] σ₃) hn2) hn4
    have x4 := x3.keep k4
    end_is "go@18"
    refine call_no (by assumption) hh1 (by end_is "l") x4 (ys := [y, z]) (Store.set_self _ _ _) (Nat.le_of_ble_eq_true rfl) ?_
    exact fun a' σ' h1 k h2 => p2 a' σ' (k3.fresh (k4.fresh h1 (by simp)) (by simp)) (by rw [List.append_nil]; exact x4.keep k) (((k3.trans k4).trans k).mono (by simp)) h2
end
end
section
noncomputable def Tr.leafy : Tr → Prop
  | .bin _ _ _ => False
  | .and_ _ _ => False
  | .or_ _ _ => False
  | _ => True
theorem chkUn_post {H : HA} {dk : AL} {logs : List Str} {σ : Store} {Q : V → Store → Prop} {E : Addr → Store → Prop} {op x : Str} (h : PostR H dk logs σ Q E ([], chkUn op x)) : Tame x ∧ x.length ≤ 1000 ∧ PostR H dk logs σ Q E ([], unaryOf op x) := by
  unfold chkUn at h
  by_cases q : okB x = true
  · rw [if_pos q] at h; exact ⟨(okB_ok q).1, (okB_ok q).2, h⟩
  · rw [if_neg q] at h; exact h.elim
theorem chkBin_post {H : HA} {dk : AL} {logs : List Str} {σ : Store} {Q : V → Store → Prop} {E : Addr → Store → Prop} {op x y : Str} (h : PostR H dk logs σ Q E ([], chkBin op x y)) : Tame x ∧ x.length ≤ 1000 ∧ Tame y ∧ y.length ≤ 1000 ∧ (∀ l r, wholeOf x = some l → wholeOf y = some r → IntMulOk l r) ∧ PostR H dk logs σ Q E ([], binaryOf op x y) := by
  unfold chkBin at h
  by_cases q : (okB x && okB y && mulT x y) = true
  · rw [if_pos q] at h
    rw [Bool.and_eq_true, Bool.and_eq_true] at q
    refine ⟨(okB_ok q.1.1).1, (okB_ok q.1.1).2, (okB_ok q.1.2).1, (okB_ok q.1.2).2, fun l r h1 h2 => ?_, h⟩
    have z := q.2
    unfold mulT at z
    rw [h1, h2] at z
    exact mulB_ok z
  · rw [if_neg q] at h; exact h.elim
theorem num_post {H : HA} {dk : AL} {logs : List Str} {σ : Store} {Q : V → Store → Prop} {E : Addr → Store → Prop} {n : Int} (x : HostS H dk σ logs 0) (h : PostR H dk logs σ Q E ([], numTxt n)) : n.natAbs.log2 < 1920 ∧ Q (.str (toString n : String)) σ := by
  unfold numTxt at h
  by_cases q : n.natAbs.log2 < 1920
  · rw [if_pos q] at h; exact ⟨q, PostR.ret x h⟩
  · rw [if_neg q] at h; exact h.elim
section
variable {B : Bs} {c : Cx} {σ : Store} {Q : V → Store → Prop} {E : Addr → Store → Prop}
theorem leaf_value_k {w : World} (hK : B.K = hd.heap_1 w.params) (hh : c.hd = none) {t : Tr} {k : Nat} (hr : c.dep + k ≤ 990) (hk : t.cost ≤ k + 1) {H : HA} {dk : AL} {logs : List Str} (x : HostS H dk σ logs 0) (lf : t.leafy) (IH : ∀ s : Tr, s.sz < t.sz → reckonP s) (hok : t.ok dk)
    (hlg : logs.length + (ev t).1.length ≤ 100000) (h : PostR H dk logs σ Q E (ev t)) : CW B c (callF (.ref 707)) [.ref H.h, t.enc] σ VR Q E := by
  have hb := t.cost15
  have hk1 : 1 ≤ k := by lia
  end_is "def2"
  intro env c' F hh' hd' hu'
  have hh1 := hh'.trans hh
  cases t with
  | num n =>
    obtain ⟨h1, h2⟩ := num_post x h
    unfold Tr.enc
    end_is "go@19"
    exact h2
  | text y =>
    have h2 := PostR.ret x h
    unfold Tr.enc
    end_is "go@19"
    exact h2
  | cmd pre name code val =>
    cases pre
    · unfold Tr.enc partsV
      end_is "go@19"
      refine CW.mono (parts_cmd0 (by assumption) hh1 (by end_is "l") x hok hlg h) (fun v σ₁ q => ?_) fun _ _ x => x
      end_is "go@19"
      exact q
    · unfold Tr.enc partsV
      end_is "go@19"
      refine CW.mono (parts_cmd1 (by assumption) hh1 (by end_is "l") x hok hlg h) (fun v σ₁ q => ?_) fun _ _ x => x
      end_is "go@19"
      exact q
  | varV =>
    unfold Tr.enc partsV
    end_is "go@19"
    refine CW.mono (parts_v (by assumption) hh1 (by end_is "l") x h) (fun v σ₁ q => ?_) fun _ _ x => x
    end_is "go@19"
    exact q
  | varW =>
    unfold Tr.enc partsV
    end_is "go@19"
    refine CW.mono (parts_w (by assumption) hh1 (by end_is "l") x h) (fun v σ₁ q => ?_) fun _ _ x => x
    end_is "go@19"
    exact q
  | un op s =>
    have hc := s.cost15
    have hk : s.cost + 3 ≤ k + 1 := hk
    unfold Tr.enc
    unfold ev at h hlg
    have hbl := bindR_len (ev s) fun x => ([], chkUn op x)
    end_is "go@19"
    refine CW.mono (IH s (Nat.lt_succ_self _) (by assumption) hh1 (by end_is "l") x hok.2 (by end_is "l") h.bind) (fun v σ₁ zz => ?_) fun _ _ x => x
    refine cps fun PP kk => ?_
    obtain ⟨y, e, x1, k1, hl1, p1⟩ := zz
    subst e
    refine kk ?_
    obtain ⟨ty, ly, p2⟩ := chkUn_post p1
    end_is "go@19"
    refine unary_k (by assumption) hh1 (by end_is "l") hok.1 ty.asc (by end_is "l") ?_
    refine Post.run (p2.post x1) fun z σ' k q => ?_
    end_is "go@19"
    exact q (x1.keep k) (k.mono (by simp))
  | bin => exact lf.elim
  | and_ => exact lf.elim
  | or_ => exact lf.elim
  | ite a b d =>
    have ha := a.cost15
    have hk : max a.cost (max b.cost d.cost) + 3 ≤ k + 1 := hk
    unfold Tr.enc
    unfold ev at h hlg
    have hbl := bindR_len (ev a) fun x => needR x fun s => if s then ev b else ev d
    end_is "go@19"
    refine CW.mono (IH a sz3L (by assumption) hh1 (by end_is "l") x hok.1 (by end_is "l") h.bind) (fun v σ₁ zz => ?_) fun _ _ x => x
    refine cps fun PP kk => ?_
    obtain ⟨y, e, x1, k1, hl1, p1⟩ := zz
    subst e
    refine kk ?_
    obtain ⟨ty, ly, n1, n2⟩ := needR_post x1 p1
    end_is "go@19"
    refine need_bool_k (by assumption) hh1 (by end_is "l") ty.asc (by end_is "l") (fun s hs => ?_) n2
    obtain ⟨p2, he⟩ := n1 s hs
    rw [he] at hl1
    cases s
    · end_is "go@19"
      have p2 : PostR H dk (logs ++ (ev a).1) σ₁ Q E (ev d) := p2
      have hl1 : (logs ++ (ev a).1).length + (ev d).1.length ≤ logs.length + (bindR (ev a) fun x => needR x fun s => if s then ev b else ev d).1.length := hl1
      refine CW.mono (IH d szR (by assumption) hh1 (by end_is "l") x1 hok.2.2 (by end_is "l") p2) (fun v σ₁ q => ?_) fun _ _ x => x
      end_is "go@19"
      exact q
    · end_is "go@19"
      have p2 : PostR H dk (logs ++ (ev a).1) σ₁ Q E (ev b) := p2
      have hl1 : (logs ++ (ev a).1).length + (ev b).1.length ≤ logs.length + (bindR (ev a) fun x => needR x fun s => if s then ev b else ev d).1.length := hl1
      refine CW.mono (IH b sz3M (by assumption) hh1 (by end_is "l") x1 hok.2.1 (by end_is "l") p2) (fun v σ₁ q => ?_) fun _ _ x => x
      end_is "go@19"
      exact q
  | call1 f a =>
    have ha := a.cost15
    have hk : a.cost + 3 ≤ k + 1 := hk
    unfold Tr.enc
    end_is "go@19"
    refine CW.mono (call_value1_k (by assumption) hh1 (by end_is "l") x (IH a (Nat.lt_succ_self _)) hok.1 hok.2 hlg h) (fun v σ₁ q => ?_) fun _ _ x => x
    end_is "go@19"
    exact q
  | call2 f a b =>
    have ha := a.cost15
    have hk : max a.cost b.cost + 3 ≤ k + 1 := hk
    unfold Tr.enc
    end_is "go@19"
    refine CW.mono (call_value2_k (by assumption) hh1 (by end_is "l") x (IH a szL) (IH b szR) hok.1 hok.2.1 hok.2.2 hlg h) (fun v σ₁ q => ?_) fun _ _ x => x
    end_is "go@19"
    exact q
end
end
section
theorem evStk_len (t : Tr) (st : List Tr) (x : Str) : (above t x).1.length ≤ (evStk (t :: st) x).1.length := bindR_len _ _
noncomputable def Tr.first : Tr → Tr
  | .bin _ a _ => a
  | .and_ a _ => a
  | .or_ a _ => a
  | t => t
noncomputable def Tr.isSp : Tr → Bool
  | .bin _ _ _ => true
  | .and_ _ _ => true
  | .or_ _ _ => true
  | _ => false
theorem Tr.leafy_of {t : Tr} (h : t.isSp = false) : t.leafy := by cases t <;> first | trivial | cases h
theorem sp_ev {t : Tr} (h : t.isSp = true) (st : List Tr) : bindR (ev t) (evStk st) = bindR (ev t.first) (evStk (t :: st)) := by
  cases t <;> first | exact bindR_assoc _ _ _ | cases h
theorem encMap (st : List Tr) (t : Tr) : (st.reverse.map Tr.enc) ++ [t.enc] = (t :: st).reverse.map Tr.enc := by simp
theorem Tr.first_sz {t : Tr} (h : t.isSp = true) : t.first.sz < t.sz := by cases t <;> first | exact szL | cases h
theorem Tr.first_cost {t : Tr} (h : t.isSp = true) : t.first.cost + 3 ≤ t.cost := by cases t <;> first | exact Nat.add_le_add_right (Nat.le_max_left ..) 3 | cases h
theorem Tr.first_ok {t : Tr} {dk : AL} (h : t.isSp = true) (k : t.ok dk) : t.first.ok dk := by
  cases t <;> first | exact k.2.1 | exact k.1 | cases h
theorem enc_bin (op : Str) (a b : Tr) : (Tr.bin op a b).enc = .tup [.str "bin", .str op, a.enc, b.enc] := rfl
theorem enc_and (a b : Tr) : (Tr.and_ a b).enc = .tup [.str "and", a.enc, b.enc] := rfl
theorem enc_or (a b : Tr) : (Tr.or_ a b).enc = .tup [.str "or", a.enc, b.enc] := rfl
inductive RI (H : HA) (dk : AL) (σ : Store) (m : Addr) (t : Tr) (n : Nat) (l : List (Option V)) (σ' : Store) : Prop
  | intro (s : Tr) (st : List Tr) : (l = [some (.ref H.h), some s.enc, some (.ref m), none, none, none, none, none, none]) → (σ' = σ.set m (.list (st.reverse.map Tr.enc))) → (n = s.sz) → (bindR (ev s) (evStk st) = ev t) → (s.sz ≤ t.sz) → (s.cost + 3 * st.length ≤ t.cost) → (s.ok dk) → ((∀ u ∈ st, u.isSp = true ∧ u.sz ≤ t.sz ∧ u.cost ≤ t.cost ∧ u.ok dk)) → RI H dk σ m t n l σ'
theorem RI.step {H : HA} {dk : AL} {σ : Store} {m : Addr} {t s : Tr} {st : List Tr} {σ₁ : Store} (hsp : s.isSp = true) (hS : σ.set m (.list (st.reverse.map Tr.enc)) = σ₁) (hev : bindR (ev s) (evStk st) = ev t) (hsz : s.sz ≤ t.sz) (hco : s.cost + 3 * st.length ≤ t.cost) (hso : s.ok dk) (hst : ∀ u ∈ st, u.isSp = true ∧ u.sz ≤ t.sz ∧ u.cost ≤ t.cost ∧ u.ok dk) :
    ∃ l' k, k < s.sz ∧ ([some (.ref H.h), some s.first.enc, some (.ref m), none, none, none, none, none, none] : List (Option V)) = l' ∧ RI H dk σ m t k l' (σ₁.set m (.list (st.reverse.map Tr.enc ++ [s.enc]))) := by
  have h1 := Tr.first_cost hsp
  refine ⟨_, s.first.sz, Tr.first_sz hsp, rfl, s.first, s :: st, rfl, ?_, rfl, (sp_ev hsp st).symm.trans hev, Nat.le_trans (Nat.le_of_lt (Tr.first_sz hsp)) hsz, by rw [List.length_cons]; lia, Tr.first_ok hsp hso, fun u hu => ?_⟩
  · rw [← hS, set_set, ← encMap]
  · cases hu with
    | head => exact ⟨hsp, hsz, by lia, hso⟩
    | tail _ hu => exact hst u hu
theorem RI.out {H : HA} {dk : AL} {σ : Store} {m : Addr} {t : Tr} {n : Nat} {N : List (Str × NameKind)} {l : List (Option V)} {σ₁ : Store} (h : ∃ l' k, k < n ∧ l = l' ∧ RI H dk σ m t k l' σ₁) : KW N (RI H dk σ m t) n (zs N l) σ₁ := by
  obtain ⟨l', k, h1, h2, h3⟩ := h
  exact ⟨l', k, h1, by rw [h2], h3⟩
inductive RJ (H : HA) (dk : AL) (σ : Store) (m : Addr) (t s : Tr) (Q : V → Store → Prop) (E : Addr → Store → Prop) (n : Nat) (l : List (Option V)) (σ' : Store) : Prop
  | intro (st : List Tr) (y : Str) (o : Option V) (logs' : List Str) : (l = [some (.ref H.h), some s.enc, some (.ref m), some (.str y), o, none, none, none, none]) → (σ' m = some (.list (st.reverse.map Tr.enc))) → (n = st.length) → (HostS H dk σ' logs' 0) → (Keep H.X σ σ') → (logs'.length + (evStk st y).1.length ≤ 100000) → ((∀ σ₂, Keep H.X σ σ₂ → (∀ b ∈ H.X, σ₂ b ≠ none) → PostR H dk logs' σ₂ Q E (evStk st y))) → (3 * st.length ≤ t.cost) → ((∀ u ∈ st, u.isSp = true ∧ u.sz ≤ t.sz ∧ u.cost ≤ t.cost ∧ u.ok dk)) → RJ H dk σ m t s Q E n l σ'
theorem RJ.mk {H : HA} {dk : AL} {σ : Store} {m : Addr} {t s : Tr} {Q : V → Store → Prop} {E : Addr → Store → Prop} {N : List (Str × NameKind)} {k : Nat} {σ' : Store} (st : List Tr) (y : Str) (o : Option V) (logs' : List Str) (hk : k = st.length + 1) (h1 : σ' m = some (.list (st.reverse.map Tr.enc))) (h2 : HostS H dk σ' logs' 0) (h3 : Keep H.X σ σ') (h4 : logs'.length + (evStk st y).1.length ≤ 100000) (h5 : ∀ σ₂, Keep H.X σ σ₂ → (∀ b ∈ H.X, σ₂ b ≠ none) → PostR H dk logs' σ₂ Q E (evStk st y)) (h6 : 3 * st.length ≤ t.cost) (h7 : ∀ u ∈ st, u.isSp = true ∧ u.sz ≤ t.sz ∧ u.cost ≤ t.cost ∧ u.ok dk) :
    KW N (RJ H dk σ m t s Q E) k (zs N [some (.ref H.h), some s.enc, some (.ref m), some (.str y), o, none, none, none, none]) σ' := ⟨_, st.length, by lia, rfl, st, y, o, logs', rfl, h1, rfl, h2, h3, h4, h5, h6, h7⟩
theorem revMap (u : Tr) (st : List Tr) : (u :: st).reverse.map Tr.enc = st.reverse.map Tr.enc ++ [u.enc] := by simp
section
variable {B : Bs} {c : Cx} {σ : Store} {Q : V → Store → Prop} {E : Addr → Store → Prop}
theorem reckon_step {t : Tr} (IH : ∀ s : Tr, s.sz < t.sz → reckonP s) : reckonP t := by
  intro B c σ Q E w hK hh hr H dk logs x hok hlg h
  have hb := t.cost15
  end_is "def2"
  intro env c' F hh' hd' hu'
  have hh1 := hh'.trans hh
  end_is "g1@20"
  intro m hm
  have hmx := x.aneL hm
  have k1 := Keep.new (cc := Cell.list []) (Keep.refl H.X σ) hm
  have x0 := x.keep (Keep.new (cc := Cell.list []) (Keep.refl [] σ) hm)
  end_is "g1@20"
  refine S_while F ?_
  refine whileI (I := RI H dk σ m t) ?_ (n := t.sz) ⟨t, [], rfl, rfl, rfl, bindR_ret _, Nat.le_refl _, Nat.le_refl _, hok, (fun _ h => by cases h)⟩
  rintro n l σ' ⟨s, st, rfl, rfl, rfl, hev, hsz, hco, hso, hst⟩
  have hm1 : (σ.set m (.list (st.reverse.map Tr.enc))) m = some (.list (st.reverse.map Tr.enc)) := Store.set_self _ _ _
  have x1 : HostS H dk (σ.set m (.list (st.reverse.map Tr.enc))) logs 0 := x.keep (Keep.new (Keep.refl _ _) hm)
  revert hm1 x1
  refine opqE (σ.set m (.list (st.reverse.map Tr.enc))) fun σ₁ hS => ?_
  intro hm1 x1
  refine Wt_cut s.isSp ?_ ⟨fun hsp => ?_, fun hsp => ?_⟩
  · cases s with
    | cmd pre =>
      cases pre <;> (unfold Tr.enc partsV; end_is "g1@20"; exact ⟨rfl, rfl⟩)
    | _ => unfold Tr.enc; first | (end_is "g1@20"; exact ⟨rfl, rfl⟩) | (unfold partsV; end_is "g1@20"; exact ⟨rfl, rfl⟩)
  · have hz : (st.reverse.map Tr.enc).length ≤ sizeLine := by rw [List.length_map, List.length_reverse]; unfold sizeLine; lia
    have fin := RI.step (H := H) hsp hS hev hsz hco hso hst
    cases s with
    | bin op a b => rw [enc_bin]; end_is "go@20"; exact RI.out fin
    | and_ a b => rw [enc_and]; end_is "go@20"; exact RI.out fin
    | or_ a b => rw [enc_or]; end_is "go@20"; exact RI.out fin
    | _ => simp [Tr.isSp] at hsp
  · have lf := Tr.leafy_of hsp
    have h' : PostR H dk logs σ Q E (bindR (ev s) (evStk st)) := by rw [hev]; exact h
    have hl0 := bindR_len (ev s) (evStk st)
    rw [hev] at hl0
    have k1' : Keep H.X σ σ₁ := by rw [← hS]; exact Keep.new (Keep.refl _ _) hm
    end_is "g1@20"
    refine CW.mono (leaf_value_k (k := t.cost - 1) (by assumption) hh1 (by end_is "l") (by end_is "l") x1 lf (fun u hu => IH u (by end_is "l")) hso (by end_is "l") (h'.bind2 k1' x1.alive)) (fun v σ₂ zz => ?_) fun _ _ x => x
    refine cps fun PP kk => ?_
    obtain ⟨y, e, x2, k2, hl2, p2⟩ := zz
    subst e
    refine kk ?_
    rw [hev] at hl2
    have hm2 := k2.at hm1 hmx
    end_is "g1@20"
    refine S_while F ?_
    refine whileI (I := RJ H dk σ m t s Q E) ?_ (n := st.length) ⟨st, y, none, _, rfl, hm2, rfl, x2, k1'.trans k2, by lia, p2, by lia, hst⟩
    clear hm2 x2 k2 hl2 p2 hS hm1 x1 k1' hev hco hst
    rintro n l σ₃ ⟨st, y, o, lg, rfl, hm3, rfl, x3, k3, hl3, p3, hc3, hst⟩
    have hz : (st.reverse.map Tr.enc).length < sizeLine := by rw [List.length_map, List.length_reverse]; unfold sizeLine; lia
    end_is "g1@20"
    refine T_list hm3 (by unfold sizeLine at hz; lia) ?_
    cases st with
    | nil =>
      rw [show (List.map Tr.enc ([] : List Tr).reverse).isEmpty = true from rfl]
      end_is "go@20"
      exact PostR.ret x3 (p3 σ₃ k3 x3.alive)
    | cons u st =>
      rw [revMap] at hm3 hz ⊢
      rw [List.length_append] at hz
      rw [show (List.map Tr.enc st.reverse ++ [u.enc]).isEmpty = false from by simp]
      have hz1 : (List.map Tr.enc st.reverse).length < sizeLine := by lia
      obtain ⟨usp, usz, uco, uok⟩ := hst u (List.mem_cons_self ..)
      have hst2 : ∀ v ∈ st, v.isSp = true ∧ v.sz ≤ t.sz ∧ v.cost ≤ t.cost ∧ v.ok dk := fun v hv => hst v (List.mem_cons_of_mem _ hv)
      have hc4 : 3 * st.length ≤ t.cost := by rw [List.length_cons] at hc3; lia
      have x4 : HostS H dk (σ₃.set m (.list (List.map Tr.enc st.reverse))) lg 0 := x3.keep2 hmx hm3
      have k4 : Keep H.X σ (σ₃.set m (.list (List.map Tr.enc st.reverse))) := k3.set2 hm
      have hm4 : (σ₃.set m (.list (List.map Tr.enc st.reverse))) m = some (.list (List.map Tr.enc st.reverse)) := Store.set_self _ _ _
      have hel := evStk_len u st y
      repeat end_is "if"
      end_is "g0@20"
      revert x4 k4 hm4
      refine opqE (σ₃.set m (.list (List.map Tr.enc st.reverse))) fun σ₄ hS4 => ?_
      intro x4 k4 hm4
      cases u with
      | bin op a b =>
        rw [enc_bin]
        have hE : evStk (.bin op a b :: st) y = bindR (ev b) fun z => bindR ([], chkBin op y z) (evStk st) := bindR_assoc (ev b) _ _
        simp only [hE] at hl3 p3
        have hbl := bindR_len (ev b) fun z => bindR ([], chkBin op y z) (evStk st)
        replace usz : b.sz < t.sz := Nat.lt_of_lt_of_le szR usz
        replace uco : b.cost + 3 ≤ t.cost := Nat.le_trans (Nat.add_le_add_right (Nat.le_max_right ..) 3) uco
        end_is "go@20"
        refine CW.mono (IH b (by end_is "l") (by assumption) hh1 (by end_is "l") x4 uok.2.2 (by end_is "l") ((p3 σ (Keep.refl _ _) x.alive).bind2 k4 x4.alive)) (fun v σ₅ zz => ?_) fun _ _ x => x
        refine cps fun PP kk => ?_
        obtain ⟨z, e, x5, k5, hl5, p5⟩ := zz
        subst e
        refine kk ?_
        have hm5 := k5.at hm4 hmx
        have q := (p5 σ (Keep.refl _ _) x.alive).bind2 (k4.trans k5) x5.alive
        obtain ⟨ty, ly, tz, lz, hmu, q2⟩ := chkBin_post q
        end_is "g1@20"
        refine binary_k (by assumption) hh1 (by end_is "l") uok.1.1 uok.1.2 ty (by end_is "l") tz (by end_is "l") hmu ?_
        refine Post.run (q2.post x5) fun z2 σ' k q3 => ?_
        obtain ⟨w', e, x6, k6, hl6, p6⟩ := q3 (x5.keep k) (k.mono (by simp))
        cases e
        end_is "g1@20"
        exact RJ.mk st z2 _ _ rfl (k.at hm5 (by simp)) x6 ((k4.trans k5).trans k6) (by end_is "l") p6 hc4 hst2
      | and_ a b =>
        rw [enc_and]
        have hE : evStk (.and_ a b :: st) y = bindR (logicOf false (ev b) y) (evStk st) := rfl
        simp only [hE] at hl3 p3
        have hbl := bindR_len (logicOf false (ev b) y) (evStk st)
        replace usz : b.sz < t.sz := Nat.lt_of_lt_of_le szR usz
        replace uco : b.cost + 3 ≤ t.cost := Nat.le_trans (Nat.add_le_add_right (Nat.le_max_right ..) 3) uco
        end_is "go@20"
        refine CW.mono (logic_value_k (by assumption) hh1 (by end_is "l") (isOr := false) (by rfl) x4 (IH b (by end_is "l")) uok.2 (by end_is "l") ((p3 σ (Keep.refl _ _) x.alive).bind2 k4 x4.alive)) (fun v σ₅ zz => ?_) fun _ _ x => x
        refine cps fun PP kk => ?_
        obtain ⟨z, e, x5, k5, hl5, p5⟩ := zz
        subst e
        refine kk ?_
        have hm5 := k5.at hm4 hmx
        end_is "g1@20"
        exact RJ.mk st z _ _ rfl hm5 x5 (k4.trans k5) (by end_is "l") p5 hc4 hst2
      | or_ a b =>
        rw [enc_or]
        have hE : evStk (.or_ a b :: st) y = bindR (logicOf true (ev b) y) (evStk st) := rfl
        simp only [hE] at hl3 p3
        have hbl := bindR_len (logicOf true (ev b) y) (evStk st)
        replace usz : b.sz < t.sz := Nat.lt_of_lt_of_le szR usz
        replace uco : b.cost + 3 ≤ t.cost := Nat.le_trans (Nat.add_le_add_right (Nat.le_max_right ..) 3) uco
        end_is "go@20"
        refine CW.mono (logic_value_k (by assumption) hh1 (by end_is "l") (isOr := true) (by rfl) x4 (IH b (by end_is "l")) uok.2 (by end_is "l") ((p3 σ (Keep.refl _ _) x.alive).bind2 k4 x4.alive)) (fun v σ₅ zz => ?_) fun _ _ x => x
        refine cps fun PP kk => ?_
        obtain ⟨z, e, x5, k5, hl5, p5⟩ := zz
        subst e
        refine kk ?_
        have hm5 := k5.at hm4 hmx
        end_is "g1@20"
        exact RJ.mk st z _ _ rfl hm5 x5 (k4.trans k5) (by end_is "l") p5 hc4 hst2
      | _ => simp [Tr.isSp] at usp
theorem reckon_k (t : Tr) : reckonP t := by
  have key : ∀ n, ∀ t : Tr, t.sz < n → reckonP t := by
    intro n
    induction n with
    | zero => intro t h; lia
    | succ n ih => intro t h; exact reckon_step fun s hs => @ih s (by end_is "l")
  exact @key (t.sz + 1) t (Nat.lt_succ_self _)
end
end
section
noncomputable def oppOf (op : Str) : Option Str :=
  if op = "!=" then some "==" else if op = "ne" then some "eq" else if op = ">=" then some "<" else if op = "<=" then some ">" else if op = "ge" then some "lt" else if op = "le" then some "gt" else if op = "ni" then some "in" else none
inductive Ctx where
  | unC (op : Str) | binL (op : Str) (b : Tr) | binR (op : Str) (a : Tr) | c1 (f : Str) | c2 (f : Str) (b : Tr)
noncomputable def Ctx.plug : Ctx → Tr → Tr
  | .unC op, t => .un op t
  | .binL op b, t => .bin op t b
  | .binR op a, t => .bin op a t
  | .c1 f, t => .call1 f t
  | .c2 f b, t => .call2 f t b
noncomputable def Ctx.ahead : Ctx → V
  | .unC op => .tup [.str "un", .str op]
  | .binL op _ => .tup [.str "bin", .str op]
  | .binR op a => .tup [.str "bin", .str op, a.enc]
  | .c1 f => .tup [.str "call", .str f]
  | .c2 f _ => .tup [.str "call", .str f]
noncomputable def Ctx.behind : Ctx → V
  | .binL _ b => .tup [b.enc]
  | .c2 _ b => .tup [b.enc]
  | _ => .tup []
noncomputable def around (C : Ctx) : Tr → Tr
  | .ite a b c => .ite a (around C b) (around C c)
  | t => C.plug t
noncomputable def choice : Tr → Tr → Tr → Tr
  | .ite a b c, f, s => .ite a (choice b f s) (choice c f s)
  | t, f, s => .ite t f s
noncomputable def bitT (t : Tr) : Tr := choice t (.text "1") (.text "0")
noncomputable def Tr.isConst : Tr → Bool
  | .num _ => true
  | .text _ => true
  | _ => false
noncomputable def turnB (op : Str) (a b : Tr) : Tr := if a.isConst then around (.binR op a) b else around (.binL op b) a
noncomputable def turnBin (op : Str) (a b : Tr) : Tr := match oppOf op with
  | some o => around (.unC "!") (turnB o a b)
  | none => turnB op a b
noncomputable def fn1Of (f : Str) : Str := if f = "max" ∨ f = "min" ∨ f = "entier" then "int" else f
noncomputable def turn : Tr → Tr
  | .un op t => if op = "!" then around (.unC "!") (turn t) else turnBin op (.text "0") (turn t)
  | .bin op a b => turnBin op (turn a) (turn b)
  | .and_ a b => choice (turn a) (bitT (turn b)) (.text "0")
  | .or_ a b => choice (turn a) (.text "1") (bitT (turn b))
  | .ite a b c => choice (turn a) (turn b) (turn c)
  | .call1 f a => if f = "bool" then bitT (turn a) else around (.c1 (fn1Of f)) (turn a)
  | .call2 f a b => around (.c2 f (turn b)) (turn a)
  | t => t
noncomputable def Tr.ifd : Tr → Nat
  | .ite _ b c => max b.ifd c.ifd + 1
  | _ => 0
/-- frames that turning needs -/
noncomputable def tcost : Tr → Nat
  | .un _ t => max (tcost t) ((turn t).ifd) + 8
  | .bin _ a b => max (tcost a) (max (tcost b) (max (turn a).ifd (turn b).ifd)) + 8
  | .and_ a b => max (tcost a) (max (tcost b) (max (turn a).ifd (turn b).ifd)) + 8
  | .or_ a b => max (tcost a) (max (tcost b) (max (turn a).ifd (turn b).ifd)) + 8
  | .ite a b c => max (tcost a) (max (tcost b) (max (tcost c) (turn a).ifd)) + 8
  | .call1 _ a => max (tcost a) (turn a).ifd + 8
  | .call2 _ a b => max (tcost a) (max (tcost b) (turn a).ifd) + 8
  | _ => 8
end
theorem e_num (n : Int) : (Tr.num n).enc = .tup [.str "num", .int n] := rfl
theorem e_text (x : Str) : (Tr.text x).enc = .tup [.str "text", .str x] := rfl
theorem e_cmd0 (n : Str) (c : Int) (v : Str) : (Tr.cmd false n c v).enc = .tup [.str "parts", .tup [cmdV n]] := rfl
theorem e_cmd1 (n : Str) (c : Int) (v : Str) : (Tr.cmd true n c v).enc = .tup [.str "parts", .tup [.tup [.str "text", .str "1"], cmdV n]] := rfl
theorem e_varV : Tr.varV.enc = .tup [.str "parts", .tup [.tup [.str "var", .str "v", .none]]] := rfl
theorem e_varW : Tr.varW.enc = .tup [.str "parts", .tup [.tup [.str "var", .str "w", .none]]] := rfl
theorem e_un (op : Str) (a : Tr) : (Tr.un op a).enc = .tup [.str "un", .str op, a.enc] := rfl
theorem e_ite (a b c : Tr) : (Tr.ite a b c).enc = .tup [.str "if", a.enc, b.enc, c.enc] := rfl
theorem e_call1 (f : Str) (a : Tr) : (Tr.call1 f a).enc = .tup [.str "call", .str f, .tup [a.enc]] := rfl
theorem e_call2 (f : Str) (a b : Tr) : (Tr.call2 f a b).enc = .tup [.str "call", .str f, .tup [a.enc, b.enc]] := rfl
noncomputable def Tr.isIte : Tr → Bool
  | .ite _ _ _ => true
  | _ => false
theorem if_bT {b : Bool} {P R : Prop} (e : b = true) (h : P) : (b = true → P) ∧ (b = false → R) := ⟨fun _ => h, fun z => (by rw [e] at z; cases z)⟩
theorem if_bF {b : Bool} {P R : Prop} (e : b = false) (h : R) : (b = true → P) ∧ (b = false → R) := ⟨fun z => (by rw [e] at z; cases z), fun _ => h⟩
theorem if_neT {α : Type} [BEq α] [LawfulBEq α] {a b : α} {P R : Prop} (e : a ≠ b) (h : P) : ((a != b) = true → P) ∧ ((a != b) = false → R) := if_ne (fun _ => h) fun z => absurd z e
section
section
section
variable {B : Bs} {c : Cx} {σ : Store} {Q : V → Store → Prop} {E : Addr → Store → Prop}
theorem law_choice_k {w : World} (hK : B.K = hd.heap_1 w.params) : ∀ (p f s : Tr) {c : Cx} {Q : V → Store → Prop} (hr : c.dep + (p.ifd + 1) ≤ 990) (h : Q (choice p f s).enc σ), CW B c (callF (.ref 784)) [p.enc, f.enc, s.enc] σ VR Q E := by
  intro p
  induction p with
  | ite a b d iha ihb ihd =>
    intro f s c Q hr h
    have hr0 : b.ifd + 1 ≤ (Tr.ite a b d).ifd ∧ d.ifd + 1 ≤ (Tr.ite a b d).ifd := ⟨Nat.succ_le_succ (Nat.le_max_left ..), Nat.succ_le_succ (Nat.le_max_right ..)⟩
    end_is "def3"
    intro env c' F hh' hd' hu'
    rw [e_ite]
    end_is "go@21"
    refine ihb f s (by end_is "l") ?_
    end_is "go@21"
    refine ihd f s (by end_is "l") ?_
    end_is "go@21"
    exact h
  | cmd pre n k v =>
    intro f s c Q hr h
    cases pre <;> (end_is "def3"; intro env c' F hh' hd' hu'; end_is "enc"; end_is "go@21"; exact h)
  | _ => intro f s c Q hr h; (end_is "def3"; intro env c' F hh' hd' hu'; end_is "enc"; end_is "go@21"; exact h)
theorem law_bit_k {w : World} (hK : B.K = hd.heap_1 w.params) (p : Tr) (hr : c.dep + (p.ifd + 2) ≤ 990) (h : Q (bitT p).enc σ) : CW B c (callF (.ref 798)) [p.enc] σ VR Q E := by
  end_is "def1"
  intro env c' F hh' hd' hu'
  end_is "go@21"
  refine law_choice_k (by assumption) p (.text "1") (.text "0") (by end_is "l") ?_
  end_is "go@21"
  exact h
theorem law_around_pl {w : World} (hK : B.K = hd.heap_1 w.params) (C : Ctx) (p : Tr) (hp : p.isIte = false) (hr : c.dep + 1 ≤ 990) (h : Q (C.plug p).enc σ) : CW B c (callF (.ref 791)) [p.enc, C.ahead, C.behind] σ VR Q E := by
  end_is "def3"
  intro env c' F hh' hd' hu'
  end_is "g0@21"
  refine Ws_if (Wt_cut false ?_ ⟨fun e => (by cases e), fun _ => ?_⟩)
  · cases p with
    | ite => cases hp
    | cmd pre n k v => cases pre <;> (end_is "enc"; end_is "go@21"; exact ⟨rfl, rfl⟩)
    | _ => end_is "enc"; end_is "go@21"; exact ⟨rfl, rfl⟩
  · cases C <;> (unfold Ctx.ahead Ctx.behind; end_is "go@21"; exact h)
theorem law_around_k {w : World} (hK : B.K = hd.heap_1 w.params) (C : Ctx) : ∀ (p : Tr) {c : Cx} {Q : V → Store → Prop} (hr : c.dep + (p.ifd + 1) ≤ 990) (h : Q (around C p).enc σ), CW B c (callF (.ref 791)) [p.enc, C.ahead, C.behind] σ VR Q E := by
  intro p
  induction p with
  | ite a b d iha ihb ihd =>
    intro c Q hr h
    have hr0 : b.ifd + 1 ≤ (Tr.ite a b d).ifd ∧ d.ifd + 1 ≤ (Tr.ite a b d).ifd := ⟨Nat.succ_le_succ (Nat.le_max_left ..), Nat.succ_le_succ (Nat.le_max_right ..)⟩
    end_is "def3"
    intro env c' F hh' hd' hu'
    rw [e_ite]
    end_is "go@21"
    refine ihb (by end_is "l") ?_
    end_is "go@21"
    refine ihd (by end_is "l") ?_
    end_is "go@21"
    exact h
  | _ => intro c Q hr h; exact law_around_pl hK C _ rfl (by end_is "l") h
end
end
section
noncomputable def oppAL : AL := [("!=", .str "=="), ("ne", .str "eq"), (">=", .str "<"), ("<=", .str ">"), ("ge", .str "lt"), ("le", .str "gt"), ("ni", .str "in")]
theorem oppAL_get (op : Str) : (getA op oppAL).getD (.str "") = .str ((oppOf op).getD "") := by
  unfold oppAL oppOf
  simp only [getA]
  by_cases h1 : op = "!="
  · rw [if_pos h1.symm, if_pos h1]; rfl
  rw [if_neg (Ne.symm h1), if_neg h1]
  by_cases h2 : op = "ne"
  · rw [if_pos h2.symm, if_pos h2]; rfl
  rw [if_neg (Ne.symm h2), if_neg h2]
  by_cases h3 : op = ">="
  · rw [if_pos h3.symm, if_pos h3]; rfl
  rw [if_neg (Ne.symm h3), if_neg h3]
  by_cases h4 : op = "<="
  · rw [if_pos h4.symm, if_pos h4]; rfl
  rw [if_neg (Ne.symm h4), if_neg h4]
  by_cases h5 : op = "ge"
  · rw [if_pos h5.symm, if_pos h5]; rfl
  rw [if_neg (Ne.symm h5), if_neg h5]
  by_cases h6 : op = "le"
  · rw [if_pos h6.symm, if_pos h6]; rfl
  rw [if_neg (Ne.symm h6), if_neg h6]
  by_cases h7 : op = "ni"
  · rw [if_pos h7.symm, if_pos h7]; rfl
  rw [if_neg (Ne.symm h7), if_neg h7]
  rfl
theorem oppOf_some {op o : Str} (h : oppOf op = some o) : oppOf o = none ∧ o ≠ "" := by
  have key : o = "==" ∨ o = "eq" ∨ o = "<" ∨ o = ">" ∨ o = "lt" ∨ o = "gt" ∨ o = "in" := by
    unfold oppOf at h
    (repeat' (split at h)) <;> first | (cases h; simp; done) | cases h
  rcases key with rfl | rfl | rfl | rfl | rfl | rfl | rfl <;> decide
theorem ifd_plug (C : Ctx) (p : Tr) : (C.plug p).ifd = 0 := by cases C <;> rfl
theorem ifd_around (C : Ctx) : ∀ p : Tr, (around C p).ifd = p.ifd := by
  intro p
  induction p with
  | ite a b c _ hb hc =>
    show max (around C b).ifd (around C c).ifd + 1 = max b.ifd c.ifd + 1
    rw [hb, hc]
  | _ => exact ifd_plug _ _
noncomputable def turnedP (t : Tr) : Prop := ∀ {B : Bs} {c : Cx} {σ : Store} {Q : V → Store → Prop} {E : Addr → Store → Prop} {w : World}, B.K = hd.heap_1 w.params → c.hd = none → c.dep + tcost t ≤ 990 → (∀ σ', Keep [] σ σ' → Q (turn t).enc σ') → CW B c (callF (.ref 810)) [t.enc] σ VR Q E
section
variable {B : Bs} {c : Cx} {σ : Store} {Q : V → Store → Prop} {E : Addr → Store → Prop}
theorem turned_bin0 {w : World} (hK : B.K = hd.heap_1 w.params) (hh : c.hd = none) {op : Str} {a b : Tr} {k : Nat} (hr : c.dep + k ≤ 990) (ho : oppOf op = none) (ha : turnedP a) (hb : turnedP b) (k1 : tcost a + 1 ≤ k) (k2 : tcost b + 1 ≤ k) (k3 : (turn a).ifd + 2 ≤ k) (k4 : (turn b).ifd + 2 ≤ k)
    (h : ∀ σ', Keep [] σ σ' → Q (turnB op (turn a) (turn b)).enc σ') : CW B c (callF (.ref 805)) [(Tr.bin op a b).enc] σ VR Q E := by
  have hk0 : 1 ≤ k := by lia
  end_is "def1"
  intro env c' F hh' hd' hu'
  have hh1 := hh'.trans hh
  rw [enc_bin]
  end_is "g1@22"
  intro d hd
  end_is "g1@22"
  refine dict_done (by decide) (Store.set_self _ _ _) ?_
  rw [set_set]
  end_is "g1@22"
  have e := oppAL_get op
  unfold oppAL at e
  rw [e, ho, show (none : Option Str).getD "" = "" from rfl]
  end_is "g1@22"
  refine S_swap2 F hh1 ?kk1 ?kk2 ?_ rfl (by decide) rfl rfl rfl (by with_unfolding_all rfl)
  case kk1 => end_is "na"
  case kk2 => end_is "na"
  end_is "g1@22"
  refine ha (by assumption) hh1 (by end_is "l") fun σ₁ s1 => ?_
  end_is "g1@22"
  refine hb (by assumption) hh1 (by end_is "l") fun σ₂ s2 => ?_
  end_is "g1@22"
  refine swp (l1 := ?l1) (l2 := ?l2) ?np1 ?np2 ?_
  case np1 => end_is "np"
  case np2 => end_is "np"
  have kk : Keep [] σ σ₂ := (Keep.new (Keep.refl _ _) hd |>.trans s1).trans s2
  end_is "g0@22"
  unfold turnB at h
  refine Ws_if (Wt_cut (turn a).isConst ?_ ⟨fun e => ?_, fun e => ?_⟩)
  · refine opq (turn a) fun p => ?_
    cases p with
    | cmd pre n k v => cases pre <;> (end_is "enc"; end_is "g1@22"; exact ⟨rfl, rfl⟩)
    | _ => end_is "enc"; end_is "g1@22"; exact ⟨rfl, rfl⟩
  · rw [if_pos e] at h
    end_is "g1@22"
    refine law_around_k (by assumption) (.binR op (turn a)) (turn b) (by end_is "l") ?_
    end_is "g1@22"
    exact h σ₂ kk
  · rw [if_neg (by rw [e]; decide)] at h
    end_is "g1@22"
    refine law_around_k (by assumption) (.binL op (turn b)) (turn a) (by end_is "l") ?_
    end_is "g1@22"
    exact h σ₂ kk
theorem turned_bang {w : World} (hK : B.K = hd.heap_1 w.params) (hh : c.hd = none) {p : Tr} {sv : V} {k : Nat} (hr : c.dep + k ≤ 990) (hk : p.ifd + 2 ≤ k)
    (hs : ∀ {c : Cx} {Q : V → Store → Prop}, c.hd = none → c.dep + (k - 1) ≤ 990 → (∀ σ', Keep [] σ σ' → Q p.enc σ') → CW B c (callF (.ref 810)) [sv] σ VR Q E) (h : ∀ σ', Keep [] σ σ' → Q (around (.unC "!") p).enc σ') : CW B c (callF (.ref 810)) [.tup [.str "un", .str "!", sv]] σ VR Q E := by
  have hk0 : 1 ≤ k := by lia
  end_is "def1"
  intro env c' F hh' hd' hu'
  have hh1 := hh'.trans hh
  end_is "go@22"
  refine hs hh1 (by end_is "l") fun σ₁ s1 => ?_
  end_is "go@22"
  refine law_around_k (by assumption) (.unC "!") p (by end_is "l") ?_
  end_is "go@22"
  exact h σ₁ s1
theorem turned_binN {w : World} (hK : B.K = hd.heap_1 w.params) (hh : c.hd = none) {op : Str} {a b : Tr} {k : Nat} (hr : c.dep + k ≤ 990) (ho : oppOf op = none) (ha : turnedP a) (hb : turnedP b) (k1 : tcost a + 2 ≤ k) (k2 : tcost b + 2 ≤ k) (k3 : (turn a).ifd + 3 ≤ k) (k4 : (turn b).ifd + 3 ≤ k)
    (h : ∀ σ', Keep [] σ σ' → Q (turnB op (turn a) (turn b)).enc σ') : CW B c (callF (.ref 810)) [(Tr.bin op a b).enc] σ VR Q E := by
  have hk0 : 1 ≤ k := by lia
  end_is "def1"
  intro env c' F hh' hd' hu'
  have hh1 := hh'.trans hh
  rw [enc_bin]
  end_is "go@22"
  rw [← enc_bin]
  refine turned_bin0 (by assumption) hh1 (k := k - 1) (by end_is "l") ho ha hb (by end_is "l") (by end_is "l") (by end_is "l") (by end_is "l") fun σ₁ s1 => ?_
  end_is "go@22"
  exact h σ₁ s1
theorem turned_binP {w : World} (hK : B.K = hd.heap_1 w.params) (hh : c.hd = none) {op : Str} {a b : Tr} {k : Nat} (hr : c.dep + k ≤ 990) (ha : turnedP a) (hb : turnedP b) (k1 : tcost a + 6 ≤ k) (k2 : tcost b + 6 ≤ k) (k3 : (turn a).ifd + 7 ≤ k) (k4 : (turn b).ifd + 7 ≤ k)
    (h : ∀ σ', Keep [] σ σ' → Q (turnBin op (turn a) (turn b)).enc σ') : CW B c (callF (.ref 810)) [(Tr.bin op a b).enc] σ VR Q E := by
  cases ho : oppOf op with
  | none =>
    unfold turnBin at h
    rw [ho] at h
    exact turned_binN hK hh hr ho ha hb (by end_is "l") (by end_is "l") (by end_is "l") (by end_is "l") h
  | some o =>
    unfold turnBin at h
    rw [ho] at h
    obtain ⟨o1, o2⟩ := oppOf_some ho
    have hk0 : 1 ≤ k := by lia
    end_is "def1"
    intro env c' F hh' hd' hu'
    have hh1 := hh'.trans hh
    rw [enc_bin]
    end_is "go@22"
    have hr1 : c'.dep + (k - 1) ≤ 990 := by lia
    have hk1 : 1 ≤ k - 1 := by lia
    end_is "def1"
    intro env2 c2 F2 hh2 hd2 hu2
    have hh3 := hh2.trans hh1
    end_is "g1@22"
    intro d hd
    end_is "g1@22"
    refine dict_done (by decide) (Store.set_self _ _ _) ?_
    rw [set_set]
    end_is "g1@22"
    have e := oppAL_get op
    unfold oppAL at e
    rw [e, ho, show (some o : Option Str).getD "" = o from rfl]
    end_is "g1@22"
    have hif : (turnB o (turn a) (turn b)).ifd + 4 ≤ k := by
      unfold turnB
      split <;> rw [ifd_around] <;> lia
    rw [← enc_bin]
    refine turned_bang (by assumption) hh3 (k := k - 2) (p := turnB o (turn a) (turn b)) (by end_is "l") (by end_is "l") (fun {c3 Q3} h3 h4 h5 => ?_) fun σ₁ s1 => ?_
    · exact turned_binN hK h3 (k := k - 2 - 1) h4 o1 ha hb (by end_is "l") (by end_is "l") (by end_is "l") (by end_is "l") h5
    · end_is "go@22"
      exact h σ₁ ((Keep.new (Keep.refl _ _) hd).trans s1)
end
end
section
noncomputable def turnElt (p1 p2 pos : Pos) : Expr := .Call (.Name "_law_turned" p1) [.Name "part" p2] [] pos
section
variable {B : Bs} {c : Cx} {σ : Store}
theorem elt_turned {w : World} (hK : B.K = hd.heap_1 w.params) (hh : c.hd = none) {cenv : Env} (ok : EnvOK cenv) (hk : cenv.kindOf "part" = some .local) (hg : cenv.kindOf "_law_turned" = some .globalImplicit) {p1 p2 pos : Pos} {t : Tr} (ht : turnedP t) (hr : c.dep + tcost t ≤ 990) {P : V → Store → Prop} (h : ∀ σ', Keep [] σ σ' → P (turn t).enc σ') :
    Wx B c cenv (turnElt p1 p2 pos) [("part", some t.enc)] σ P (fun _ _ => False) := by
  refine Wx_Call (fun e r h => by cases h; exact ⟨by with_unfolding_all rfl, by with_unfolding_all rfl⟩) ?_
  have e : nsIn B.K mainGlobals "_law_turned" = some (some (.ref 810)) := by rw [hK]; exact glaw_turned w
  refine Wx_global e (fun _ => .ref 810) ?_ ok.kind hg ok.glob (by decide)
  refine callee_ref hK (cglaw_turned w) ?_
  refine Wl_cons ?_ (by with_unfolding_all rfl)
  refine Wx_local (v := t.enc) (by unfold getL; rw [if_pos rfl]) ?_ ok.kind hk (by decide)
  refine Wl_nil ?_
  exact ht hK hh hr h
theorem compL_turned {w : World} (hK : B.K = hd.heap_1 w.params) (hh : c.hd = none) {cenv : Env} (ok : EnvOK cenv) (hk : cenv.kindOf "part" = some .local) (hg : cenv.kindOf "_law_turned" = some .globalImplicit) {p1 p2 pos : Pos} {D : Addr} {Q : List V → Store → Prop} : ∀ {ts : List Tr} {acc : List V} {σ : Store}, (∀ t ∈ ts, turnedP t ∧ c.dep + tcost t ≤ 990) → acc.length + ts.length ≤ 100 → σ D = some (.list acc) →
    (∀ σ', Keep [D] σ σ' → σ' D = some (.list (acc ++ ts.map fun t => (turn t).enc)) → Q (acc ++ ts.map fun t => (turn t).enc) σ') → CompL B c cenv (turnElt p1 p2 pos) "part" D (fun _ => True) Q (ts.map Tr.enc) acc σ := by
  intro ts
  induction ts with
  | nil =>
    intro acc σ _ _ hD h
    have := h σ (Keep.refl _ _) (by rw [List.map_nil, List.append_nil]; exact hD)
    rw [List.map_nil, List.append_nil] at this
    exact ⟨trivial, hD, this⟩
  | cons t r ih =>
    intro acc σ ht hl hD h
    rw [List.length_cons] at hl
    refine ⟨trivial, elt_turned hK hh ok hk hg (ht t (List.mem_cons_self ..)).1 (ht t (List.mem_cons_self ..)).2 fun σ₁ k => ⟨k.at hD (by simp), ?_, ?_⟩⟩
    · unfold sizeLine; lia
    · refine ih (fun u hu => ht u (List.mem_cons_of_mem _ hu)) (by rw [List.length_append, List.length_cons, List.length_nil]; lia) (Store.set_self _ _ _) fun σ' k' h' => ?_
      have := h σ' (Keep.trans (Keep.old (k.mono (by simp)) (by simp)) k') (by rw [List.append_assoc] at h'; exact h')
      rw [List.append_assoc]
      exact this
end
theorem G_tup_from1 {B : Bs} {c : Cx} {σ : Store} {Q : V → Store → Prop} {E : Addr → Store → Prop} {value slice : Expr} {l : List V} (hsl : isSliceE slice = true) (hz : l.length ≤ sizeLine) (hn : 1 ≤ l.length) (h : Q (.tup (l.drop 1)) σ) : CW B c (op2 (subscriptTail value slice)) [.tup l, .slice (some 1) none] σ VR Q E := G_tup_from (n := 1) hsl hz (Nat.le_refl _) hn h
theorem fn1Of_t {f : Str} (h : ([("max" : Str), "min", "entier"].any (· == f)) = true) : fn1Of f = "int" := by
  unfold fn1Of
  simp only [List.any_cons, List.any_nil, Bool.or_false, Bool.or_eq_true, beq_iff_eq] at h
  rw [if_pos]
  rcases h with h | h | h
  · exact .inl h.symm
  · exact .inr (.inl h.symm)
  · exact .inr (.inr h.symm)
theorem fn1Of_f {f : Str} (h : ([("max" : Str), "min", "entier"].any (· == f)) = false) : fn1Of f = f := by
  unfold fn1Of
  rw [if_neg]
  rintro (e | e | e) <;> (rw [e] at h; revert h; decide)
theorem swaps_comp {c : Cx} {env : Env} {N : List (Str × NameKind)} {elt : Expr} {gens : List Comprehension} {scope : Scope} {pos py : Pos} {y : Str} {l : Nat} (F : EnvS c env N) (ky : KAt N y .local) (hline : (py.line == pos.line) = true) (hn : (!(scope.names.any fun x => x.1 == y && (x.2 == .local || x.2 == .cell))) = true) : swapsWith (.ListComp elt gens scope pos) (some (.Name y py)) l env = pure true := by
  have hb : env.blockKind = .function := by
    unfold Env.blockKind; rw [F.ok.kind]; rfl
  unfold swapsWith
  show pure (env.blockKind == .function && env.kindOf y == some .local && py.line == (Expr.ListComp elt gens scope pos).pos.line && !(scope.names.any fun x => x.1 == y && (x.2 == .local || x.2 == .cell))) = pure true
  rw [hb, F.look ky, show (Expr.ListComp elt gens scope pos).pos.line = pos.line from rfl, hline, hn]
  rfl
theorem CompL.mono {B : Bs} {c : Cx} {cenv : Env} {elt : Expr} {x : Str} {D : Addr} {chk : Store → Prop} {Q Q' : List V → Store → Prop} (k : ∀ acc σ, Q acc σ → Q' acc σ) : ∀ {vs acc : List V} {σ : Store}, CompL B c cenv elt x D chk Q vs acc σ → CompL B c cenv elt x D chk Q' vs acc σ
  | [], _, _, ⟨h1, h2, h3⟩ => ⟨h1, h2, k _ _ h3⟩
  | _ :: _, _, _, ⟨h1, h2⟩ => ⟨h1, WE.mono h2 (fun _ _ ⟨a, b, d⟩ => ⟨a, b, d.mono k⟩) fun _ _ x => x⟩
theorem S_assign_comp {B : Bs} {c : Cx} {env : Env} {N : List (Str × NameKind)} {l : List (Option V)} {σ : Store} {elt iter : Expr} {x y : Str} {px py : Pos} {scope : Scope} {pos spos : Pos} {Q : Fl → Loc → Store → Prop} {E : Addr → Loc → Store → Prop} (S : CompS scope x) (F : EnvS c env N) (hh : c.hd = none) (hset : ∀ x, foldedSetIterable iter env x = pure x)
    (ky : KAt N y .local) (hline : (py.line == pos.line) = true) (hn : (!(scope.names.any fun x => x.1 == y && (x.2 == .local || x.2 == .cell))) = true)
    (h : Wx B c env iter (zs N l) σ (fun v σ₁ => ∃ it chk, Itc v σ₁ it chk ∧ ∀ D C, σ₁ D = none → CompL B c (compEnv scope C env) elt x D chk (fun acc σ' => KA N l y Q (.ref D) σ') it [] (σ₁.set D (.list []))) (fun a σ₁ => E a (zs N l) σ₁)) :
    Ws B c env (.Assign [.Name y py] (.ListComp elt [⟨.Name x px, iter, [], 0⟩] scope pos) spos) (zs N l) σ Q E :=
  Ws_assign_comp S F.ok hh hset (swaps_comp F ky hline hn) (F.look ky) (WE.mono h (fun v σ₁ ⟨it, chk, h1, h2⟩ => ⟨it, chk, h1, fun D C hD => (h2 D C hD).mono fun acc σ' ⟨l', n, q⟩ => (by rw [n.set F.nod]; exact q)⟩) fun _ _ x => x)
section
variable {B : Bs} {c : Cx} {σ : Store} {Q : V → Store → Prop} {E : Addr → Store → Prop}
theorem turned_leaf {t : Tr} (h : turn t = t) (hk : (∃ n, t = .num n) ∨ (∃ x, t = .text x) ∨ (∃ a b d e, t = .cmd a b d e) ∨ t = .varV ∨ t = .varW) : turnedP t := by
  intro B c σ Q E w hK hh hr hQ
  have hq := hQ σ (Keep.refl _ _)
  rw [h] at hq
  have hr1 : c.dep + 1 ≤ 990 := by
    have : 1 ≤ tcost t := by rcases hk with ⟨n, rfl⟩ | ⟨x, rfl⟩ | ⟨a, b, d, e, rfl⟩ | rfl | rfl <;> exact (show 1 ≤ 8 by decide)
    exact rm0 hr this
  rcases hk with ⟨n, rfl⟩ | ⟨x, rfl⟩ | ⟨a, b, d, e, rfl⟩ | rfl | rfl
  · end_is "def1"; intro env c' F hh' hd' hu'; end_is "enc"; end_is "go@23"; exact hq
  · end_is "def1"; intro env c' F hh' hd' hu'; end_is "enc"; end_is "go@23"; exact hq
  · cases a <;> (end_is "def1"; intro env c' F hh' hd' hu'; end_is "enc"; end_is "go@23"; exact hq)
  · end_is "def1"; intro env c' F hh' hd' hu'; end_is "enc"; end_is "go@23"; exact hq
  · end_is "def1"; intro env c' F hh' hd' hu'; end_is "enc"; end_is "go@23"; exact hq
theorem turned_un {op : Str} {t : Tr} (ih : turnedP t) : turnedP (.un op t) := by
  intro B c σ Q E w hK hh hr h
  have hr : c.dep + (max (tcost t) ((turn t).ifd) + 8) ≤ 990 := hr
  by_cases e : op = "!"
  · subst e
    have h : ∀ σ', Keep [] σ σ' → Q (around (.unC "!") (turn t)).enc σ' := h
    rw [e_un]
    exact turned_bang hK hh (k := max (tcost t) ((turn t).ifd) + 8) hr (by end_is "l") (fun {c2 Q2} h1 h2 h3 => ih hK h1 (by end_is "l") h3) h
  · have h : ∀ σ', Keep [] σ σ' → Q (turnBin op (.text "0") (turn t)).enc σ' := fun σ' k => by
      have h1 : Q (if op = "!" then around (.unC "!") (turn t) else turnBin op (.text "0") (turn t)).enc σ' := h σ' k
      rw [if_neg e] at h1
      exact h1
    end_is "def1"
    intro env c' F hh' hd' hu'
    have hh1 := hh'.trans hh
    rw [e_un]
    end_is "go@23"
    have hbase : turnedP (.text "0") := turned_leaf rfl (.inr (.inl ⟨_, rfl⟩))
    refine turned_binP (a := .text "0") (b := t) (by assumption) hh1 (k := max (tcost t) ((turn t).ifd) + 7) (by end_is "l") hbase ih ?_ (by end_is "l") ?_ (by end_is "l") fun σ₁ s1 => ?_
    · have : 8 ≤ tcost t := by cases t <;> exact Nat.le_add_left 8 _
      exact (Nat.add_le_add_right (Nat.le_trans (Nat.le_trans (by decide) this) (Nat.le_max_left _ _)) 7 : 7 + 7 ≤ max (tcost t) (turn t).ifd + 7)
    · exact (Nat.le_add_left 7 _ : 7 ≤ max (tcost t) (turn t).ifd + 7)
    · end_is "go@23"
      exact h σ₁ s1
theorem turned_call1 {f : Str} {t : Tr} (ih : turnedP t) : turnedP (.call1 f t) := by
  intro B c σ Q E w hK hh hr h
  have hr : c.dep + (max (tcost t) ((turn t).ifd) + 8) ≤ 990 := hr
  end_is "def1"
  intro env c' F hh' hd' hu'
  have hh1 := hh'.trans hh
  rw [e_call1]
  end_is "go@23"
  refine ⟨_, _, .tup, fun D C hD => compL_turned (ts := [t]) (by assumption) hh1 (compEnv_ok F.ok rfl) rfl rfl (fun u hu => ?_) (Nat.le_of_ble_eq_true rfl) (Store.set_self _ _ _) (fun σ' k h' => ?_)⟩
  · rw [List.mem_singleton] at hu; subst hu; exact ⟨@ih, by end_is "l"⟩
  have h2 : σ' D = some (.list [(turn t).enc]) := h'
  have kk : Keep [] σ σ' := fun b hb _ => by
    have hbD : b ≠ D := fun e => hb (by rw [e]; exact hD)
    rw [k b (by rw [Store.set_ne _ _ hbD]; exact hb) (by simpa using hbD), Store.set_ne _ _ hbD]
  have h : ∀ σ', Keep [] σ σ' → Q (if f = "bool" then bitT (turn t) else around (.c1 (fn1Of f)) (turn t)).enc σ' := h
  by_cases e : f = "bool"
  · rw [if_pos e] at h
    subst e
    end_is "go@23"
    refine law_bit_k (by assumption) (turn t) (by end_is "l") ?_
    end_is "go@23"
    exact h σ' kk
  · rw [if_neg e] at h
    end_is "go@23"
    · rename_i hc
      rw [fn1Of_t hc] at h
      refine law_around_k (by assumption) (.c1 "int") (turn t) (by end_is "l") ?_
      end_is "go@23"
      exact h σ' kk
    · rename_i hc
      rw [fn1Of_f hc] at h
      refine law_around_k (by assumption) (.c1 f) (turn t) (by end_is "l") ?_
      end_is "go@23"
      exact h σ' kk
theorem turned_call2 {f : Str} {a b : Tr} (hf : f ≠ "bool") (ih : turnedP a) (ih2 : turnedP b) : turnedP (.call2 f a b) := by
  intro B c σ Q E w hK hh hr h
  have hr : c.dep + (max (tcost a) (max (tcost b) (turn a).ifd) + 8) ≤ 990 := hr
  end_is "def1"
  intro env c' F hh' hd' hu'
  have hh1 := hh'.trans hh
  rw [e_call2]
  end_is "go@23"
  have hall : ∀ t ∈ [a, b], turnedP t ∧ c'.dep + tcost t ≤ 990 := fun u hu => by
    simp only [List.mem_cons, List.not_mem_nil, or_false] at hu
    rcases hu with rfl | rfl
    · exact ⟨@ih, by end_is "l"⟩
    · exact ⟨@ih2, by end_is "l"⟩
  refine ⟨_, _, .tup, fun D C hD => compL_turned (ts := [a, b]) (by assumption) hh1 (compEnv_ok F.ok rfl) rfl rfl hall (Nat.le_of_ble_eq_true rfl) (Store.set_self _ _ _) (fun σ' k h' => ?_)⟩
  have h2 : σ' D = some (.list [(turn a).enc, (turn b).enc]) := h'
  have kk : Keep [] σ σ' := fun b hb _ => by
    have hbD : b ≠ D := fun e => hb (by rw [e]; exact hD)
    rw [k b (by rw [Store.set_ne _ _ hbD]; exact hb) (by simpa using hbD), Store.set_ne _ _ hbD]
  have h : ∀ σ', Keep [] σ σ' → Q (around (.c2 f (turn b)) (turn a)).enc σ' := h
  end_is "go@23"
  refine law_around_k (c := c') (by assumption) (.c2 f (turn b)) (turn a) (by end_is "l") ?_
  end_is "go@23"
  exact h σ' kk
theorem turned_ite {a b d : Tr} (ih : turnedP a) (ih2 : turnedP b) (ih3 : turnedP d) : turnedP (.ite a b d) := by
  intro B c σ Q E w hK hh hr h
  have hr : c.dep + (max (tcost a) (max (tcost b) (max (tcost d) (turn a).ifd)) + 8) ≤ 990 := hr
  end_is "def1"
  intro env c' F hh' hd' hu'
  have hh1 := hh'.trans hh
  rw [e_ite]
  end_is "go@23"
  have hall : ∀ t ∈ [a, b, d], turnedP t ∧ c'.dep + tcost t ≤ 990 := fun u hu => by
    simp only [List.mem_cons, List.not_mem_nil, or_false] at hu
    rcases hu with rfl | rfl | rfl
    · exact ⟨@ih, by end_is "l"⟩
    · exact ⟨@ih2, by end_is "l"⟩
    · exact ⟨@ih3, by end_is "l"⟩
  refine S_assign_comp (x := "part") ⟨by decide, by decide, rfl, by decide, by rfl⟩ F hh1 (fun _ => rfl) (by end_is "na") (by rfl) (by decide) ?_
  end_is "go@23"
  refine ⟨_, _, .tup, fun D C hD => compL_turned (ts := [a, b, d]) (by assumption) hh1 (compEnv_ok F.ok rfl) rfl rfl hall (Nat.le_of_ble_eq_true rfl) (Store.set_self _ _ _) (fun σ' k h' => ?_)⟩
  have h2 : σ' D = some (.list [(turn a).enc, (turn b).enc, (turn d).enc]) := h'
  have kk : Keep [] σ σ' := fun b hb _ => by
    have hbD : b ≠ D := fun e => hb (by rw [e]; exact hD)
    rw [k b (by rw [Store.set_ne _ _ hbD]; exact hb) (by simpa using hbD), Store.set_ne _ _ hbD]
  have h : ∀ σ', Keep [] σ σ' → Q (choice (turn a) (turn b) (turn d)).enc σ' := h
  end_is "go@23"
  refine law_choice_k (c := c') (by assumption) (turn a) (turn b) (turn d) (by end_is "l") ?_
  end_is "go@23"
  exact h σ' kk
theorem turned_and {a b : Tr} (ih : turnedP a) (ih2 : turnedP b) : turnedP (.and_ a b) := by
  intro B c σ Q E w hK hh hr h
  have hr : c.dep + (max (tcost a) (max (tcost b) (max (turn a).ifd (turn b).ifd)) + 8) ≤ 990 := hr
  end_is "def1"
  intro env c' F hh' hd' hu'
  have hh1 := hh'.trans hh
  rw [enc_and]
  end_is "go@23"
  have hall : ∀ t ∈ [a, b], turnedP t ∧ c'.dep + tcost t ≤ 990 := fun u hu => by
    simp only [List.mem_cons, List.not_mem_nil, or_false] at hu
    rcases hu with rfl | rfl
    · exact ⟨@ih, by end_is "l"⟩
    · exact ⟨@ih2, by end_is "l"⟩
  refine S_assign_comp (x := "part") ⟨by decide, by decide, rfl, by decide, by rfl⟩ F hh1 (fun _ => rfl) (by end_is "na") (by rfl) (by decide) ?_
  end_is "go@23"
  refine ⟨_, _, .tup, fun D C hD => compL_turned (ts := [a, b]) (by assumption) hh1 (compEnv_ok F.ok rfl) rfl rfl hall (Nat.le_of_ble_eq_true rfl) (Store.set_self _ _ _) (fun σ' k h' => ?_)⟩
  have h2 : σ' D = some (.list [(turn a).enc, (turn b).enc]) := h'
  have kk : Keep [] σ σ' := fun b hb _ => by
    have hbD : b ≠ D := fun e => hb (by rw [e]; exact hD)
    rw [k b (by rw [Store.set_ne _ _ hbD]; exact hb) (by simpa using hbD), Store.set_ne _ _ hbD]
  have h : ∀ σ', Keep [] σ σ' → Q (choice (turn a) (bitT (turn b)) (.text "0")).enc σ' := h
  end_is "go@23"
  refine law_bit_k (c := c') (by assumption) (turn b) (by end_is "l") ?_
  end_is "go@23"
  refine law_choice_k (c := c') (by assumption) (turn a) (bitT (turn b)) (.text "0") (by end_is "l") ?_
  end_is "go@23"
  exact h σ' kk
theorem turned_or {a b : Tr} (ih : turnedP a) (ih2 : turnedP b) : turnedP (.or_ a b) := by
  intro B c σ Q E w hK hh hr h
  have hr : c.dep + (max (tcost a) (max (tcost b) (max (turn a).ifd (turn b).ifd)) + 8) ≤ 990 := hr
  end_is "def1"
  intro env c' F hh' hd' hu'
  have hh1 := hh'.trans hh
  rw [enc_or]
  end_is "go@23"
  have hall : ∀ t ∈ [a, b], turnedP t ∧ c'.dep + tcost t ≤ 990 := fun u hu => by
    simp only [List.mem_cons, List.not_mem_nil, or_false] at hu
    rcases hu with rfl | rfl
    · exact ⟨@ih, by end_is "l"⟩
    · exact ⟨@ih2, by end_is "l"⟩
  refine S_assign_comp (x := "part") ⟨by decide, by decide, rfl, by decide, by rfl⟩ F hh1 (fun _ => rfl) (by end_is "na") (by rfl) (by decide) ?_
  end_is "go@23"
  refine ⟨_, _, .tup, fun D C hD => compL_turned (ts := [a, b]) (by assumption) hh1 (compEnv_ok F.ok rfl) rfl rfl hall (Nat.le_of_ble_eq_true rfl) (Store.set_self _ _ _) (fun σ' k h' => ?_)⟩
  have h2 : σ' D = some (.list [(turn a).enc, (turn b).enc]) := h'
  have kk : Keep [] σ σ' := fun b hb _ => by
    have hbD : b ≠ D := fun e => hb (by rw [e]; exact hD)
    rw [k b (by rw [Store.set_ne _ _ hbD]; exact hb) (by simpa using hbD), Store.set_ne _ _ hbD]
  have h : ∀ σ', Keep [] σ σ' → Q (choice (turn a) (.text "1") (bitT (turn b))).enc σ' := h
  end_is "go@23"
  refine law_bit_k (c := c') (by assumption) (turn b) (by end_is "l") ?_
  end_is "go@23"
  refine law_choice_k (c := c') (by assumption) (turn a) (.text "1") (bitT (turn b)) (by end_is "l") ?_
  end_is "go@23"
  exact h σ' kk
theorem turned_bin {op : Str} {a b : Tr} (ih : turnedP a) (ih2 : turnedP b) : turnedP (.bin op a b) := by
  intro B c σ Q E w hK hh hr h
  have hr : c.dep + (max (tcost a) (max (tcost b) (max (turn a).ifd (turn b).ifd)) + 8) ≤ 990 := hr
  exact turned_binP hK hh hr ih ih2 (by end_is "l") (by end_is "l") (by end_is "l") (by end_is "l") h
theorem turned_k : ∀ (t : Tr) {dk : AL}, t.ok dk → turnedP t := by
  intro t dk
  induction t with
  | num n => intro _; exact turned_leaf rfl (.inl ⟨_, rfl⟩)
  | text x => intro _; exact turned_leaf rfl (.inr (.inl ⟨_, rfl⟩))
  | cmd a b d e => intro _; exact turned_leaf rfl (.inr (.inr (.inl ⟨_, _, _, _, rfl⟩)))
  | varV => intro _; exact turned_leaf rfl (.inr (.inr (.inr (.inl rfl))))
  | varW => intro _; exact turned_leaf rfl (.inr (.inr (.inr (.inr rfl))))
  | un op t ih => intro h; exact turned_un (ih h.2)
  | bin op a b ih ih2 => intro h; exact turned_bin (ih h.2.1) (ih2 h.2.2)
  | and_ a b ih ih2 => intro h; exact turned_and (ih h.1) (ih2 h.2)
  | or_ a b ih ih2 => intro h; exact turned_or (ih h.1) (ih2 h.2)
  | ite a b d ih ih2 ih3 => intro h; exact turned_ite (ih h.1) (ih2 h.2.1) (ih3 h.2.2)
  | call1 f a ih => intro h; exact turned_call1 (ih h.2)
  | call2 f a b ih ih2 => intro h; exact turned_call2 (by rcases h.1 with (rfl | rfl) | rfl | rfl <;> decide) (ih h.2.1) (ih2 h.2.2)
end
end
section
noncomputable def delZ : List (Str × NameKind) → List (Option V) → Str → List (Option V)
  | (y, _) :: ns, u :: l, x => if y = x then none :: l else u :: delZ ns l x
  | _, l, _ => l
theorem delL_zs (x : Str) : ∀ (ns : List (Str × NameKind)) (l : List (Option V)), delL x (zs ns l) = zs ns (delZ ns l x)
  | [], _ => by simp [zs, delL]
  | (y, k) :: ns, [] => by simp [zs, delL, delZ]
  | (y, k) :: ns, u :: l => by
    unfold zs delL delZ
    by_cases q : y = x
    · rw [if_pos q, if_pos q]
    · rw [if_neg q, if_neg q, delL_zs x ns l]
theorem XG (w : World) : findIn (hd.heap_1 w.params) (.ref 84) "__getattribute__" = some (some (.builtin "BaseException.__getattribute__")) := by k_is
theorem XG0 (w : World) : findIn (hd.heap_1 w.params) (.ref 84) "__getattr__" = some none := by k_is
theorem XGc (w : World) : findIn (hd.heap_1 w.params) (.ref 84) "code" = some none := by k_is
theorem XGv (w : World) : findIn (hd.heap_1 w.params) (.ref 84) "value" = some none := by k_is
theorem XGe (w : World) : findIn (hd.heap_1 w.params) (.ref 84) "errorcode" = some none := by k_is
theorem XGl (w : World) : findIn (hd.heap_1 w.params) (.ref 84) "level" = some none := by k_is
noncomputable def dueV : Out → V
  | .val x => .tup [.str "value", .str x]
  | .err c v ec lv => .tup [.int c, .str v, .tup ec, .int lv]
  | .over => .none
noncomputable def tools3 (D L : Addr) : AL := [("run", .ref 742), ("deeds", .ref D), ("log", .ref L)]
structure BaseS (H : HA) (dk : AL) (σ : Store) : Prop where
  hh : σ H.h = some (.inst 691 H.d)
  hd : ∃ n, σ H.d = some (.attrs (hostKV H.T H.I H.VB H.CB H.FB 0 n))
  hT : ∃ tl, σ H.T = some (.dict (("run", .ref 742) :: ("deeds", .ref H.D) :: tl)) ∧ (tl = [] ∨ ∃ L, tl = ([("log", .ref L)] : AL))
  hD : σ H.D = some (.dict dk)
  hV : ∃ wk, σ H.VB = some (.dict (("v", .ref H.V1) :: wk)) ∧ (wk = [] ∨ ∃ W dw t, wk = ([("w", .ref W)] : AL) ∧ σ W = some (.inst 443 dw) ∧ σ dw = some (.attrs (varKV "none" "" t 0)))
  hC : σ H.CB = some (.dict [("tcl::mathfunc::twice", .tup [.ref 749, .none])])
  hv1 : σ H.V1 = some (.inst 443 H.dv)
  hv2 : σ H.dv = some (.attrs (varKV "scalar" "1" H.TR 1))
  nT : H.T ≠ H.VB
  nD : H.D ≠ H.VB
  nC : H.CB ≠ H.VB
  mT : H.D ≠ H.T
  mC : H.CB ≠ H.T
theorem BaseS.host {H : HA} {dk : AL} {σ : Store} (x : BaseS H dk σ) {L : Addr} {tk : AL} (hL : σ L = none) (ht : getA "run" tk = some (.ref 742) ∧ getA "deeds" tk = some (.ref H.D) ∧ getA "log" tk = some (.ref L) ∧ tk.length ≤ 10) : HostS { H with L := L } dk ((σ.set L (.list [])).set H.T (.dict tk)) [] 0 := by
  obtain ⟨n, x2⟩ := x.hd
  obtain ⟨tl, x3, r3⟩ := x.hT
  obtain ⟨wk, x4, r4⟩ := x.hV
  have key : ∀ b cc, σ b = some cc → b ≠ H.T → ((σ.set L (.list [])).set H.T (.dict tk)) b = some cc := fun b cc e n => by
    rw [Store.set_ne _ _ n, Store.set_ne _ _ (ne_some' e hL)]; exact e
  have k2 : ∀ b cc, σ b = some cc → (∀ kv, cc ≠ .dict kv) → ((σ.set L (.list [])).set H.T (.dict tk)) b = some cc := fun b cc e h => key b cc e (ne_cell e x3 (h _))
  refine ⟨k2 _ _ x.hh (by intro _ h; cases h), ⟨n, k2 _ _ x2 (by intro _ h; cases h)⟩, ⟨tk, Store.set_self _ _ _, ht⟩, key _ _ x.hD x.mT, ?_, ⟨wk, key _ _ x4 x.nT.symm, ?_⟩, key _ _ x.hC x.mC, k2 _ _ x.hv1 (by intro _ h; cases h), k2 _ _ x.hv2 (by intro _ h; cases h), x.nT, x.nD, x.nC⟩
  · rw [Store.set_ne _ _ (fun e => by have e : L = H.T := e; rw [e, x3] at hL; cases hL)]
    exact Store.set_self _ _ _
  · rcases r4 with h | ⟨W, dw, t, h1, h2, h3⟩
    · exact .inl h
    · exact .inr ⟨W, dw, t, h1, k2 _ _ h2 (by intro _ h; cases h), k2 _ _ h3 (by intro _ h; cases h)⟩
theorem HostS.base {H : HA} {dk : AL} {σ : Store} {logs : List Str} {L : Addr} (x : HostS { H with L := L } dk σ logs 0) (ht : σ H.T = some (.dict (tools3 H.D L))) (mT : H.D ≠ H.T) (mC : H.CB ≠ H.T) : BaseS H dk σ :=
  ⟨x.hh, x.hd, ⟨_, ht, .inr ⟨L, rfl⟩⟩, x.hD, x.hV, x.hC, x.hv1, x.hv2, x.nT, x.nD, x.nC, mT, mC⟩
section
variable {B : Bs} {c : Cx} {env : Env} {N : List (Str × NameKind)} {l : List (Option V)} {σ : Store}
theorem S_tryAs {w : World} {body : List Stmt} {t : Expr} {n : Str} {b₀ : Stmt} {suite : List Stmt} {hpos pos : Pos} {Q : Fl → Loc → Store → Prop} {E : Addr → Loc → Store → Prop} (hK : B.K = hd.heap_1 w.params) (F : EnvS c env N) (hl : KAt N n .local)
    (h : Wss B c env body (zs N l) σ Q (fun a ρ' σ' => ∃ l1 l2 d, ρ' = zs N l1 ∧ σ' a = some (.exc true 84 d) ∧ NP N l1 n (.ref a) l2 ∧ Wx B (cH c a) env t (zs N l1) (σ'.del a) (fun v σ'' => v = .ref 84 ∧ σ'' = σ'.del a) (fun _ _ => False) ∧ Wss B (cH c a) env (b₀ :: suite) (zs N l2) σ' (fun f ρ'' σ'' => ∃ l3, ρ'' = zs N l3 ∧ Q f (zs N (delZ N l3 n)) σ'') (fun _ _ _ => False))) :
    Ws B c env (.Try body [.ExceptHandler (some t) (some n) (b₀ :: suite) hpos] [] [] pos) (zs N l) σ Q E :=
  Ws_tryAs hK F.ok F.fr (F.look hl) (RC w) (WS.mono h (fun _ _ _ x => x) fun a ρ' σ' ⟨l1, l2, d, h1, h2, h3, h4, h5⟩ => by
    subst h1
    refine ⟨d, h2, h4, ?_⟩
    rw [h3.set F.nod]
    exact WS.mono h5 (fun f ρ'' σ'' ⟨l3, e, q⟩ => by rw [e, delL_zs]; exact q) fun _ _ _ x => x)
end
section
variable {B : Bs} {c : Cx} {σ : Store} {Q : V → Store → Prop} {E : Addr → Store → Prop}
theorem told_k {w : World} (hK : B.K = hd.heap_1 w.params) (hh : c.hd = none) {t : Tr} (hr : c.dep + (t.cost + 1) ≤ 990) {H : HA} {dk : AL} (x : BaseS H dk σ) (hok : t.ok dk) (hlg : (ev t).1.length ≤ 100000) (hov : (ev t).2 ≠ .over)
    (h : ∀ L σ', BaseS H dk σ' → Keep [H.d, H.VB, H.T] σ σ' → σ L = none → σ' L = some (.list ((ev t).1.map V.str)) → Q (.tup [dueV (ev t).2, .ref L, .int 0]) σ') : CW B c (callF (.ref 817)) [.ref H.h, t.enc] σ VR Q E := by
  obtain ⟨n, hd⟩ := x.hd
  obtain ⟨tl, hT, r3⟩ := x.hT
  have hhh := x.hh
  have htl : ((("run", V.ref 742) :: ("deeds", V.ref H.D) :: tl) : AL).length ≤ 1000 := by rcases r3 with rfl | ⟨L, rfl⟩ <;> exact Nat.le_of_ble_eq_true rfl
  end_is "def2"
  intro env c' F hh' hd' hu'
  have hh1 := hh'.trans hh
  end_is "g1@24"
  intro L hL
  have hne := ne_some' hhh hL
  have hne2 := ne_some' hd hL
  have hne3 := ne_some' hT hL
  end_is "g1@24"
  have hset : setA "log" (.ref L) (("run", V.ref 742) :: ("deeds", V.ref H.D) :: tl) = tools3 H.D L := by
    rcases r3 with rfl | ⟨L0, rfl⟩ <;> rfl
  rw [hset]
  have x1 := x.host hL (tk := tools3 H.D L) ⟨rfl, rfl, rfl, Nat.le_of_ble_eq_true rfl⟩
  have hT1 : ((σ.set L (.list [])).set H.T (.dict (tools3 H.D L))) H.T = some (.dict (tools3 H.D L)) := Store.set_self _ _ _
  have hL1 : ((σ.set L (.list [])).set H.T (.dict (tools3 H.D L))) L = some (.list []) := (Store.set_ne _ _ hne3.symm).trans (Store.set_self _ _ _)
  have kk1 : Keep [H.d, H.VB, H.T] σ ((σ.set L (.list [])).set H.T (.dict (tools3 H.D L))) := Keep.old (Keep.new (Keep.refl _ _) hL) (by simp)
  revert x1 hT1 hL1 kk1
  refine opqE ((σ.set L (.list [])).set H.T (.dict (tools3 H.D L))) fun σ₁ hS => ?_
  intro x1 hT1 hL1 kk1
  have hTX : H.T ∉ ({ H with L := L } : HA).X := by
    obtain ⟨n', hd1⟩ := x1.hd
    simp only [HA.X, List.mem_cons, List.not_mem_nil, or_false, not_or]
    exact ⟨ne_cell hT1 hd1 (by intro h; cases h), ne_cell hT1 hL1 (by intro h; cases h), x.nT⟩
  -- what holds at the end
  have fin : ∀ (lg : List Str) σ₂, HostS { H with L := L } dk σ₂ lg 0 → Keep ({ H with L := L } : HA).X σ₁ σ₂ → BaseS H dk σ₂ ∧ Keep [H.d, H.VB, H.T] σ σ₂ := by
    intro lg σ₂ x2 k2
    refine ⟨x2.base (k2.at hT1 hTX) x.mT x.mC, fun b hb hx => ?_⟩
    have hbL : b ≠ L := fun e => hb (by rw [e]; exact hL)
    simp only [List.mem_cons, List.not_mem_nil, or_false, not_or] at hx
    rw [k2 b (by rw [kk1 b hb (by simp only [List.mem_cons, List.not_mem_nil, or_false, not_or]; exact hx)]; exact hb) (by simp only [HA.X, List.mem_cons, List.not_mem_nil, or_false, not_or]; exact ⟨hx.1, hbL, hx.2.1⟩), kk1 b hb (by simp only [List.mem_cons, List.not_mem_nil, or_false, not_or]; exact hx)]
  end_is "g1@24"
  refine S_tryAs (by assumption) F (by end_is "na") ?_
  end_is "g1@24"
  refine reckon_k t (H := { H with L := L }) (by assumption) hh1 (by end_is "l") x1 hok (by simpa using hlg) ?_
  revert h hov
  refine opqE (ev t) fun r hev => ?_
  intro hov h
  obtain ⟨lg, o⟩ := r
  cases o with
  | over => exact absurd rfl hov
  | val y =>
    intro σ₂ x2 k2
    obtain ⟨b2, kk⟩ := fin _ σ₂ x2 k2
    obtain ⟨n2, hd2⟩ := x2.hd
    have hh2 := x2.hh
    have hT2 := k2.at hT1 hTX
    have hL2 : σ₂ L = some (.list (lg.map V.str)) := x2.hL
    end_is "g1@24"
    exact h L σ₂ b2 kk hL hL2
  | err cd v ec lv =>
    intro a σ₂ ha x2 k2 he
    obtain ⟨b2, kk⟩ := fin _ σ₂ x2 k2
    obtain ⟨n2, hd2⟩ := x2.hd
    have hh2 := x2.hh
    have hT2 := k2.at hT1 hTX
    have hL2 : σ₂ L = some (.list (lg.map V.str)) := x2.hL
    obtain ⟨d2, kv, e1, e2, e3, e4, e5, e6⟩ := he
    have F2 := EnvS.cH (a := a) F
    refine ⟨_, [some (.ref H.h), some t.enc, none, some (.ref a), none, none], _, rfl, e1, .there (.there (.there .here)), ?_, ?_⟩
    · clear F
      end_is "g1@24"
      exact ⟨rfl, rfl⟩
    · end_is "g1@24"
      refine ⟨_, rfl, ?_⟩
      change after B c' env _ (retK Q) _ Fl.next (zs _ [some (.ref H.h), some t.enc, some (.tup [.int cd, .str v, .tup ec, .int lv]), none, none, none]) σ₂
      end_is "g1@24"
      exact h L σ₂ b2 kk hL hL2
end
end
section
/-- constants within bounds -/
noncomputable def Tr.nice : Tr → Prop
  | .num n => n.natAbs.log2 < 1920
  | .un _ t => t.nice
  | .bin _ a b => a.nice ∧ b.nice
  | .and_ a b => a.nice ∧ b.nice
  | .or_ a b => a.nice ∧ b.nice
  | .ite a b c => a.nice ∧ b.nice ∧ c.nice
  | .call1 _ a => a.nice
  | .call2 _ a b => a.nice ∧ b.nice
  | _ => True
theorem needR_bind (x : Str) (k : Bool → Res) (f : Str → Res) : bindR (needR x k) f = needR x fun s => bindR (k s) f := by
  unfold needR
  split
  · split <;> rfl
  · rfl
noncomputable def plugF : Ctx → Str → Res
  | .unC op, x => ([], chkUn op x)
  | .binL op b, x => bindR (ev b) fun y => ([], chkBin op x y)
  | .binR op a, x => bindR (ev a) fun y => ([], chkBin op y x)
  | .c1 f, x => call1F f x
  | .c2 f b, x => bindR (ev b) fun y => call2F f x y
noncomputable def Ctx.const : Ctx → Prop
  | .binR _ a => ∃ y, ev a = retR y
  | _ => True
theorem ev_plug {C : Ctx} (hC : C.const) (p : Tr) : ev (C.plug p) = bindR (ev p) (plugF C) := by
  cases C with
  | unC op => rfl
  | binL op b => rfl
  | binR op a =>
    obtain ⟨y, hy⟩ := hC
    show bindR (ev a) (fun z => bindR (ev p) fun x => ([], chkBin op z x)) = bindR (ev p) fun x => bindR (ev a) fun z => ([], chkBin op z x)
    rw [hy, ret_bindR]
    congr 1
  | c1 f => rfl
  | c2 f b => rfl
theorem ev_around {C : Ctx} (hC : C.const) : ∀ p : Tr, ev (around C p) = bindR (ev p) (plugF C) := by
  intro p
  induction p with
  | ite a b c _ hb hc =>
    show bindR (ev a) (fun x => needR x fun s => if s then ev (around C b) else ev (around C c)) = bindR (bindR (ev a) fun x => needR x fun s => if s then ev b else ev c) (plugF C)
    rw [bindR_assoc]
    congr 1
    funext x
    rw [needR_bind]
    congr 1
    funext s
    cases s
    · exact hc
    · exact hb
  | _ => exact ev_plug hC _
theorem ev_choice (f s : Tr) : ∀ p : Tr, ev (choice p f s) = bindR (ev p) fun x => needR x fun b => if b then ev f else ev s := by
  intro p
  induction p with
  | ite a b c _ hb hc =>
    show bindR (ev a) (fun x => needR x fun q => if q then ev (choice b f s) else ev (choice c f s)) = bindR (bindR (ev a) fun x => needR x fun q => if q then ev b else ev c) _
    rw [bindR_assoc]
    congr 1
    funext x
    rw [needR_bind]
    congr 1
    funext q
    cases q
    · exact hc
    · exact hb
  | _ => rfl
theorem ev_bit (p : Tr) : ev (bitT p) = bindR (ev p) fun x => needR x fun b => retR (bit b) := by
  unfold bitT
  rw [ev_choice]
  congr 1
  funext x
  congr 1
  funext b
  cases b <;> rfl
theorem mulB0 (r : Int) : mulB 0 r = true := by
  unfold mulB
  have : decide (Builtin.Int.intBits 0 > shortFactorBits) = false := by decide
  rw [this]; rfl
theorem whole0 : wholeOf "0" = some 0 := by decide +kernel
theorem chk_un {op : Str} (h : op = "-" ∨ op = "+") (x : Str) : chkBin op "0" x = chkUn op x := by
  unfold chkBin chkUn
  have h1 : okB "0" = true := by decide +kernel
  have h2 : mulT "0" x = true := by
    unfold mulT
    rw [whole0]
    cases wholeOf x with
    | none => rfl
    | some r => exact mulB0 r
  rw [h1, h2, Bool.true_and, Bool.and_true]
  by_cases q : okB x = true
  · rw [if_pos q, if_pos q]
    unfold binaryOf unaryOf
    rcases h with rfl | rfl
    · rw [if_neg (by decide), if_neg (by decide), if_neg (by decide), if_neg (by decide), whole0]
      show (match wholeOf x with | none => opFault "-" x | some r => numTxt (arithOf "-" 0 r)) = _
      cases wholeOf x with
      | none => rfl
      | some r =>
        show numTxt (arithOf "-" 0 r) = (if ("-" : Str) = "-" then numTxt (-r) else numTxt r)
        rw [if_pos rfl]
        unfold arithOf
        rw [if_neg (by decide), if_pos rfl]
        rw [Int.zero_sub]
    · rw [if_neg (by decide), if_neg (by decide), if_neg (by decide), if_neg (by decide), whole0]
      show (match wholeOf x with | none => opFault "+" x | some r => numTxt (arithOf "+" 0 r)) = _
      cases wholeOf x with
      | none => rfl
      | some r =>
        show numTxt (arithOf "+" 0 r) = (if ("+" : Str) = "-" then numTxt (-r) else numTxt r)
        rw [if_neg (by decide)]
        unfold arithOf
        rw [if_pos rfl, Int.zero_add]
  · rw [if_neg q, if_neg q]
theorem un_bit (b : Bool) : chkUn "!" (bit b) = .val (bit (!b)) := by
  cases b <;> (unfold chkUn; rw [if_pos (by decide +kernel)]; unfold unaryOf; rw [if_pos rfl])
  · rw [show boolOf (bit false) = some false by decide +kernel]
  · rw [show boolOf (bit true) = some true by decide +kernel]
theorem rel_ne (n : Int) : relOf "!=" n = !relOf "==" n := by
  show (n != 0) = !(n == 0)
  rfl
theorem rel_ne' (n : Int) : relOf "ne" n = !relOf "eq" n := by
  show (n != 0) = !(n == 0)
  rfl
theorem rel_ge (n : Int) : relOf ">=" n = !relOf "<" n := by
  show decide (0 ≤ n) = !decide (n < 0)
  by_cases h : n < 0
  · rw [decide_eq_true h, decide_eq_false (by lia)]; rfl
  · rw [decide_eq_false h, decide_eq_true (by lia)]; rfl
theorem rel_ge' (n : Int) : relOf "ge" n = !relOf "lt" n := rel_ge n
theorem rel_le (n : Int) : relOf "<=" n = !relOf ">" n := by
  show decide (n ≤ 0) = !decide (0 < n)
  by_cases h : 0 < n
  · rw [decide_eq_true h, decide_eq_false (by lia)]; rfl
  · rw [decide_eq_false h, decide_eq_true (by lia)]; rfl
theorem rel_le' (n : Int) : relOf "le" n = !relOf "gt" n := rel_le n
theorem bin_num {op x y : Str} (h : numRel op = true) : binaryOf op x y = .val (bit (relOf op (orderOf x y))) := by unfold binaryOf; rw [if_pos h]
theorem bin_txt {op x y : Str} (h0 : numRel op = false) (h : txtRel op = true) : binaryOf op x y = .val (bit (relOf op (textOrder x y))) := by unfold binaryOf; rw [if_neg (by rw [h0]; decide), if_pos h]
theorem bin_in {op x y : Str} (h0 : numRel op = false) (h1 : txtRel op = false) (h : inRel op = true) : binaryOf op x y = (match splitOf y with | none => .err 1 braceMsg braceEc 0 | some ts => .val (bit (ts.any (· == x) == (op == "in")))) := by unfold binaryOf; rw [if_neg (by rw [h0]; decide), if_neg (by rw [h1]; decide), if_pos h] <;> rfl
theorem opp_cases {op o : Str} (h : oppOf op = some o) : (op = "!=" ∧ o = "==") ∨ (op = "ne" ∧ o = "eq") ∨ (op = ">=" ∧ o = "<") ∨ (op = "<=" ∧ o = ">") ∨ (op = "ge" ∧ o = "lt") ∨ (op = "le" ∧ o = "gt") ∨ (op = "ni" ∧ o = "in") := by
  unfold oppOf at h
  (repeat' (split at h)) <;> first | (cases h; done) | (rename_i e; cases h; simp [e]; done)
theorem chk_opp {op o : Str} (h : oppOf op = some o) (x y : Str) : bindR ([], chkBin o x y) (fun z => ([], chkUn "!" z)) = ([], chkBin op x y) := by
  unfold chkBin
  by_cases q : (okB x && okB y && mulT x y) = true
  · rw [if_pos q, if_pos q]
    have rel : ∀ {r1 r2 : Bool}, r2 = (!r1) → bindR ([], .val (bit r1)) (fun z => (([], chkUn "!" z) : Res)) = ([], .val (bit r2)) := fun {r1 r2} e => by
      show (([] ++ [], chkUn "!" (bit r1)) : Res) = _
      rw [un_bit, e]; rfl
    rcases opp_cases h with ⟨rfl, rfl⟩ | ⟨rfl, rfl⟩ | ⟨rfl, rfl⟩ | ⟨rfl, rfl⟩ | ⟨rfl, rfl⟩ | ⟨rfl, rfl⟩ | ⟨rfl, rfl⟩
    · rw [bin_num (by decide), bin_num (by decide)]; exact rel (rel_ne _)
    · rw [bin_txt (by decide) (by decide), bin_txt (by decide) (by decide)]; exact rel (rel_ne' _)
    · rw [bin_num (by decide), bin_num (by decide)]; exact rel (rel_ge _)
    · rw [bin_num (by decide), bin_num (by decide)]; exact rel (rel_le _)
    · rw [bin_txt (by decide) (by decide), bin_txt (by decide) (by decide)]; exact rel (rel_ge' _)
    · rw [bin_txt (by decide) (by decide), bin_txt (by decide) (by decide)]; exact rel (rel_le' _)
    · rw [bin_in (by decide) (by decide) (by decide), bin_in (by decide) (by decide) (by decide)]
      cases splitOf y with
      | none => rfl
      | some ts =>
        refine rel ?_
        rw [show (("ni" : Str) == "in") = false by decide, show (("in" : Str) == "in") = true by decide]
        cases ts.any (· == x) <;> rfl
  · rw [if_neg q, if_neg q]; rfl
theorem const_ret {t : Tr} (h : t.isConst = true) (hn : t.nice) : ∃ y, ev t = retR y := by
  cases t with
  | num n => exact ⟨_, by show (([], numTxt n) : Res) = _; unfold numTxt; rw [if_pos (show n.natAbs.log2 < 1920 from hn)]; rfl⟩
  | text x => exact ⟨x, rfl⟩
  | _ => cases h
theorem ev_turnB (op : Str) {a b a' b' : Tr} (ha : ev a' = ev a) (hb : ev b' = ev b) (hn : a'.nice) : ev (turnB op a' b') = ev (.bin op a b) := by
  unfold turnB
  by_cases q : a'.isConst = true
  · rw [if_pos q]
    obtain ⟨y, hy⟩ := const_ret q hn
    rw [ev_around (C := .binR op a') ⟨y, hy⟩, hb]
    show bindR (ev b) (fun x => bindR (ev a') fun z => ([], chkBin op z x)) = bindR (ev a) fun x => bindR (ev b) fun z => ([], chkBin op x z)
    rw [← ha, hy, ret_bindR]
    congr 1
  · rw [if_neg q, ev_around (C := .binL op b') trivial, ha]
    show bindR (ev a) (fun x => bindR (ev b') fun z => ([], chkBin op x z)) = bindR (ev a) fun x => bindR (ev b) fun z => ([], chkBin op x z)
    rw [hb]
theorem ev_turnBin (op : Str) {a b a' b' : Tr} (ha : ev a' = ev a) (hb : ev b' = ev b) (hn : a'.nice) : ev (turnBin op a' b') = ev (.bin op a b) := by
  unfold turnBin
  cases ho : oppOf op with
  | none => exact ev_turnB op ha hb hn
  | some o =>
    show ev (around (.unC "!") (turnB o a' b')) = _
    rw [ev_around (C := .unC "!") trivial, ev_turnB o ha hb hn]
    show bindR (bindR (ev a) fun x => bindR (ev b) fun z => ([], chkBin o x z)) (fun z => ([], chkUn "!" z)) = bindR (ev a) fun x => bindR (ev b) fun z => ([], chkBin op x z)
    rw [bindR_assoc]
    congr 1
    funext x
    rw [bindR_assoc]
    congr 1
    funext y
    exact chk_opp ho x y
theorem nice_plug {C : Ctx} (h : ∀ t : Tr, t.nice → (C.plug t).nice) : ∀ p : Tr, p.nice → (around C p).nice := by
  intro p
  induction p with
  | ite a b c _ hb hc => exact fun hp => ⟨hp.1, hb hp.2.1, hc hp.2.2⟩
  | _ => exact fun hp => h _ hp
theorem nice_choice {f s : Tr} (hf : f.nice) (hs : s.nice) : ∀ p : Tr, p.nice → (choice p f s).nice := by
  intro p
  induction p with
  | ite a b c _ hb hc => exact fun hp => ⟨hp.1, hb hp.2.1, hc hp.2.2⟩
  | _ => exact fun hp => ⟨hp, hf, hs⟩
theorem nice_turnB {op : Str} {a b : Tr} (ha : a.nice) (hb : b.nice) : (turnB op a b).nice := by
  unfold turnB
  split
  · exact nice_plug (C := .binR op a) (fun t ht => ⟨ha, ht⟩) b hb
  · exact nice_plug (C := .binL op b) (fun t ht => ⟨ht, hb⟩) a ha
theorem nice_turnBin {op : Str} {a b : Tr} (ha : a.nice) (hb : b.nice) : (turnBin op a b).nice := by
  unfold turnBin
  split
  · exact nice_plug (C := .unC "!") (fun t ht => ht) _ (nice_turnB ha hb)
  · exact nice_turnB ha hb
theorem nice_turn : ∀ t : Tr, t.nice → (turn t).nice := by
  intro t
  induction t with
  | un op t ih =>
    intro h
    show (if op = "!" then around (.unC "!") (turn t) else turnBin op (.text "0") (turn t)).nice
    split
    · exact nice_plug (C := .unC "!") (fun t ht => ht) _ (ih h)
    · exact nice_turnBin trivial (ih h)
  | bin op a b ha hb => exact fun h => nice_turnBin (ha h.1) (hb h.2)
  | and_ a b ha hb => exact fun h => nice_choice (s := .text "0") (nice_choice (f := .text "1") (s := .text "0") trivial trivial _ (hb h.2)) trivial _ (ha h.1)
  | or_ a b ha hb => exact fun h => nice_choice (f := .text "1") trivial (nice_choice (f := .text "1") (s := .text "0") trivial trivial _ (hb h.2)) _ (ha h.1)
  | ite a b c ha hb hc => exact fun h => nice_choice (hb h.2.1) (hc h.2.2) _ (ha h.1)
  | call1 f a ha =>
    intro h
    show (if f = "bool" then bitT (turn a) else around (.c1 (fn1Of f)) (turn a)).nice
    split
    · exact nice_choice (f := .text "1") (s := .text "0") trivial trivial _ (ha h)
    · exact nice_plug (C := .c1 (fn1Of f)) (fun t ht => ht) _ (ha h)
  | call2 f a b ha hb => exact fun h => nice_plug (C := .c2 f (turn b)) (fun t ht => ⟨ht, hb h.2⟩) _ (ha h.1)
  | _ => exact fun h => h
theorem call1_fn {f : Str} (hf : f ≠ "bool") (x : Str) : call1F (fn1Of f) x = call1F f x := by
  unfold fn1Of
  by_cases q : f = "max" ∨ f = "min" ∨ f = "entier"
  · rw [if_pos q]
    unfold call1F
    rw [if_neg (by decide), if_neg hf]
    have n1 : f ≠ "twice" := by rcases q with rfl | rfl | rfl <;> decide
    have n2 : f ≠ "nope" := by rcases q with rfl | rfl | rfl <;> decide
    rw [if_neg n1, if_neg n2]
    unfold call1Of
    rw [if_neg hf]
    rfl
  · rw [if_neg q]
/-- the law, over the trees -/
theorem ev_turn : ∀ {dk : AL} (t : Tr), t.ok dk → t.nice → ev (turn t) = ev t := by
  intro dk t
  induction t with
  | un op t ih =>
    intro h hn
    have ih := ih h.2 hn
    show ev (if op = "!" then around (.unC "!") (turn t) else turnBin op (.text "0") (turn t)) = bindR (ev t) fun x => ([], chkUn op x)
    by_cases e : op = "!"
    · rw [if_pos e, ev_around (C := .unC "!") trivial, ih, e]
      rfl
    · rw [if_neg e, ev_turnBin op (a := .text "0") (b := t) rfl ih trivial]
      show bindR (retR "0") (fun y => bindR (ev t) fun x => ([], chkBin op y x)) = _
      rw [ret_bindR]
      congr 1
      funext x
      rw [chk_un (h.1.resolve_left e)]
  | bin op a b ha hb => exact fun h hn => ev_turnBin op (ha h.2.1 hn.1) (hb h.2.2 hn.2) (nice_turn a hn.1)
  | and_ a b ha hb =>
    intro h hn
    show ev (choice (turn a) (bitT (turn b)) (.text "0")) = bindR (ev a) fun x => logicOf false (ev b) x
    rw [ev_choice, ha h.1 hn.1, ev_bit, hb h.2 hn.2]
    congr 1
    funext x
    unfold logicOf
    congr 1
    funext s
    cases s <;> rfl
  | or_ a b ha hb =>
    intro h hn
    show ev (choice (turn a) (.text "1") (bitT (turn b))) = bindR (ev a) fun x => logicOf true (ev b) x
    rw [ev_choice, ha h.1 hn.1, ev_bit, hb h.2 hn.2]
    congr 1
    funext x
    unfold logicOf
    congr 1
    funext s
    cases s <;> rfl
  | ite a b c ha hb hc =>
    intro h hn
    show ev (choice (turn a) (turn b) (turn c)) = bindR (ev a) fun x => needR x fun s => if s then ev b else ev c
    rw [ev_choice, ha h.1 hn.1, hb h.2.1 hn.2.1, hc h.2.2 hn.2.2]
  | call1 f a ha =>
    intro h hn
    show ev (if f = "bool" then bitT (turn a) else around (.c1 (fn1Of f)) (turn a)) = bindR (ev a) fun x => call1F f x
    by_cases e : f = "bool"
    · rw [if_pos e, ev_bit, ha h.2 hn]
      congr 1
      funext x
      unfold call1F
      rw [if_pos e]
    · rw [if_neg e, ev_around (C := .c1 (fn1Of f)) trivial, ha h.2 hn]
      congr 1
      funext x
      exact call1_fn e x
  | call2 f a b ha hb =>
    intro h hn
    show ev (around (.c2 f (turn b)) (turn a)) = bindR (ev a) fun x => bindR (ev b) fun y => call2F f x y
    rw [ev_around (C := .c2 f (turn b)) trivial, ha h.2.1 hn.1]
    show bindR (ev a) (fun x => bindR (ev (turn b)) fun y => call2F f x y) = _
    rw [hb h.2.2 hn.2]
  | _ => exact fun _ _ => rfl
end
section
noncomputable def Dec (x : Str) : Prop := ∀ k ∈ x.cps.toList, k = 45 ∨ (48 ≤ k ∧ k ≤ 57)
theorem dig_dec (m : Nat) : ∀ k ∈ (Nat.toDigits 10 m).map Char.toNat, 48 ≤ k ∧ k ≤ 57 := by
  intro k hk
  obtain ⟨ch, hc, rfl⟩ := List.mem_map.mp hk
  have := Nat.isDigit_of_mem_toDigits (by decide) (by decide) hc
  unfold Char.isDigit at this
  simp only [Bool.and_eq_true, decide_eq_true_eq, ge_iff_le] at this
  exact ⟨this.1, this.2⟩
theorem text_int (n : Int) : ((toString n : String) : Str).cps.toList = (if n < 0 then [45] else []) ++ (Nat.toDigits 10 n.natAbs).map Char.toNat := by
  cases n with
  | ofNat m =>
    have : ((toString (Int.ofNat m) : String) : Str) = ⟨((Nat.toDigits 10 m).map Char.toNat).toArray⟩ := text_ofNat m
    rw [this]
    simp
  | negSucc m =>
    have e : (toString (Int.negSucc m) : String) = "-" ++ Nat.repr (m + 1) := rfl
    show (Str.ofString (toString (Int.negSucc m))).cps.toList = _
    rw [e, Str.ofString_eq_toList]
    simp [String.toList_append, Nat.toList_repr]
theorem int_dec (n : Int) : Dec ((toString n : String) : Str) := by
  intro k hk
  rw [text_int, List.mem_append] at hk
  rcases hk with h | h
  · split at h
    · exact .inl (List.mem_singleton.mp h)
    · cases h
  · exact .inr (dig_dec _ k h)
theorem int_len {n : Int} {k : Nat} (h1 : 1 ≤ k) (h : n.natAbs < 10 ^ k) : ((toString n : String) : Str).length ≤ k + 1 := by
  show ((toString n : String) : Str).cps.size ≤ k + 1
  rw [← Array.length_toList, text_int, List.length_append, List.length_map]
  have := digits10_le h1 h
  split <;> simp <;> lia
-- what a text may be as a number
theorem dvGo_lt {b : Int} (hb : 0 < b) : ∀ {cs : List Nat} {v n : Int}, 0 ≤ v → dvGo b cs v = some n → 0 ≤ n ∧ n < (v + 1) * b ^ cs.length
  | [], v, n, hv, h => by
    unfold dvGo at h
    cases h
    simp
    lia
  | k :: r, v, n, hv, h => by
    unfold dvGo at h
    by_cases h1 : digitOf ⟨#[k]⟩ < 0
    · rw [if_pos h1] at h; cases h
    rw [if_neg h1] at h
    by_cases h2 : digitOf ⟨#[k]⟩ ≥ b
    · rw [if_pos h2] at h; cases h
    rw [if_neg h2] at h
    have hv2 : 0 ≤ v * b := Int.mul_nonneg hv (by lia)
    obtain ⟨h3, h4⟩ := dvGo_lt hb (cs := r) (by lia) h
    refine ⟨h3, Int.lt_of_lt_of_le h4 ?_⟩
    rw [List.length_cons, Int.pow_succ, Int.mul_comm (b ^ r.length) b, ← Int.mul_assoc]
    refine Int.mul_le_mul_of_nonneg_right ?_ (Int.le_of_lt (Int.pow_pos hb))
    have : (v + 1) * b = v * b + b := by rw [Int.add_mul, Int.one_mul]
    lia
theorem digitsVal_lt {b : Int} {B L : Nat} (hb : 0 < b) (hB : b ≤ B) {s : Str} {n : Int} (hl : s.length ≤ L) (h : digitsVal s b = some n) : 0 ≤ n ∧ n.natAbs < B ^ L := by
  unfold digitsVal at h
  split at h
  · cases h
  · obtain ⟨h1, h2⟩ := dvGo_lt hb (by decide) h
    refine ⟨h1, ?_⟩
    have hlen : s.cps.toList.length ≤ L := by rw [Array.length_toList]; exact hl
    have hB1 : 1 ≤ B := by lia
    obtain ⟨b', rfl⟩ := Int.eq_ofNat_of_zero_le (show 0 ≤ b by lia)
    obtain ⟨m, rfl⟩ := Int.eq_ofNat_of_zero_le h1
    have h3 : (m : Int) < ((b' ^ s.cps.toList.length : Nat) : Int) := by
      have : (0 + 1 : Int) * (b' : Int) ^ s.cps.toList.length = ((b' ^ s.cps.toList.length : Nat) : Int) := by rw [Int.zero_add, Int.one_mul, Int.natCast_pow]
      rw [this] at h2; exact h2
    have h4 : m < b' ^ s.cps.toList.length := by exact_mod_cast h3
    have h5 : b' ≤ B := by lia
    calc m < b' ^ s.cps.toList.length := h4
      _ ≤ B ^ s.cps.toList.length := Nat.pow_le_pow_left h5 _
      _ ≤ B ^ L := Nat.pow_le_pow_right hB1 hlen
theorem whole_lt {x : Str} {B L : Nat} (hB : 10 ≤ B) (hb : ∀ i, 0 < baseOf (Txt.item x i) → baseOf (Txt.item x i) ≤ B) (hl : x.length ≤ L) {n : Int} (h : wholeOf x = some n) : n.natAbs < B ^ L := by
  unfold wholeOf wo1 wo2 wo3 at h
  simp only at h
  revert h
  refine opq (skipF x x.length x.length 0) fun f0 => ?_
  intro h
  revert h
  refine opq (skipB x f0 (x.length - f0).toNat x.length) fun b0 => ?_
  intro h
  revert h
  refine opq ((if f0 < b0 then (if isSign (Txt.item x f0) = true then Txt.item x f0 == "-" else false) else false)) fun m => ?_
  intro h
  revert h
  refine opq ((if f0 < b0 then (if isSign (Txt.item x f0) = true then f0 + 1 else f0) else f0)) fun f => ?_
  intro h
  have key : ∀ {o : Option Int}, (∀ v, o = some v → v.natAbs < B ^ L) → wo4 m o = some n → n.natAbs < B ^ L := fun {o} ho h => by
    cases o with
    | none => cases h
    | some v =>
      unfold wo4 at h
      cases h
      have := ho v rfl
      split
      · rw [Int.natAbs_neg]; exact this
      · exact this
  refine key (fun v hv => ?_) h
  have sl : ∀ lo hi, (Txt.slice x lo hi).length ≤ L := fun lo hi => Nat.le_trans (Txt.slice_le x lo hi) hl
  have hbb : (if 2 < b0 - f then (if Txt.item x f = "0" then baseOf (Txt.item x (f + 1)) else 0) else 0) ≤ (B : Int) := by
    split
    · split
      · by_cases q : 0 < baseOf (Txt.item x (f + 1))
        · exact hb _ q
        · lia
      · lia
    · lia
  revert hv hbb
  refine opq ((if 2 < b0 - f then (if Txt.item x f = "0" then baseOf (Txt.item x (f + 1)) else 0) else 0)) fun bs => ?_
  intro hv hbb
  by_cases hpos : 0 < bs
  · rw [if_pos hpos] at hv
    exact (digitsVal_lt hpos hbb (sl _ _) hv).2
  · rw [if_neg hpos] at hv
    exact (digitsVal_lt (by decide) (by lia) (sl _ _) hv).2
theorem whole16 {x : Str} {L : Nat} (hl : x.length ≤ L) {n : Int} (h : wholeOf x = some n) : n.natAbs < 16 ^ L :=
  whole_lt (by decide) (fun i hi => by rcases baseOf_cases _ hi with h | h | h | h <;> rw [h] <;> decide) hl h
theorem item_cases (x : Str) (i : Int) : ∃ k, Txt.item x i = ⟨#[k]⟩ ∧ (k = 0 ∨ k ∈ x.cps.toList) := by
  unfold Txt.item Txt.charAt
  cases q : (seqIndex? i x.length).bind (x.cps[·]?) with
  | none => exact ⟨0, rfl, .inl rfl⟩
  | some k =>
    refine ⟨k, rfl, .inr ?_⟩
    obtain ⟨j, _, hj⟩ := Option.bind_eq_some_iff.mp q
    exact Array.mem_toList_iff.mpr (Array.mem_of_getElem? hj)
theorem whole10 {x : Str} {L : Nat} (hd : Dec x) (hl : x.length ≤ L) {n : Int} (h : wholeOf x = some n) : n.natAbs < 10 ^ L := by
  refine whole_lt (by decide) (fun i hi => ?_) hl h
  exfalso
  obtain ⟨k, hk, hc⟩ := item_cases x i
  rw [hk] at hi
  have hz : baseOf ⟨#[k]⟩ = 0 := by
    have ne : ∀ c : Nat, k ≠ c → ((⟨#[c]⟩ : Str) == ⟨#[k]⟩) = false := fun c hc => by
      apply beq_false_of_ne
      intro e
      have := congrArg (fun s : Str => s.cps.toList) e
      simp at this
      exact hc this.symm
    have hk2 : k = 0 ∨ k = 45 ∨ (48 ≤ k ∧ k ≤ 57) := hc.elim (fun e => .inl e) fun e => .inr (hd k e)
    unfold baseOf
    rw [show (("x" : Str)) = ⟨#[120]⟩ from by decide +kernel, show (("X" : Str)) = ⟨#[88]⟩ from by decide +kernel, show (("o" : Str)) = ⟨#[111]⟩ from by decide +kernel, show (("O" : Str)) = ⟨#[79]⟩ from by decide +kernel, show (("b" : Str)) = ⟨#[98]⟩ from by decide +kernel, show (("B" : Str)) = ⟨#[66]⟩ from by decide +kernel, show (("d" : Str)) = ⟨#[100]⟩ from by decide +kernel, show (("D" : Str)) = ⟨#[68]⟩ from by decide +kernel]
    simp only [List.any_cons, List.any_nil, Bool.or_false]
    rw [ne 120 (by lia), ne 88 (by lia), ne 111 (by lia), ne 79 (by lia), ne 98 (by lia), ne 66 (by lia), ne 100 (by lia), ne 68 (by lia)]
    rfl
  rw [hz] at hi
  exact absurd hi (by decide)
end
section
noncomputable def inv (x : Str) (k : Nat) : Prop := okB x = true ∧ (x.length ≤ 18 ∨ (Dec x ∧ x.length ≤ k))
noncomputable def OutOK (k : Nat) : Out → Prop
  | .val y => inv y k
  | .err _ _ _ _ => True
  | .over => False
noncomputable def ResOK (k : Nat) (r : Res) : Prop := OutOK k r.2
theorem inv.mono {x : Str} {k m : Nat} (h : inv x k) (hk : k ≤ m) : inv x m := ⟨h.1, h.2.imp id fun ⟨a, b⟩ => ⟨a, Nat.le_trans b hk⟩⟩
theorem OutOK.mono {k m : Nat} {o : Out} (h : OutOK k o) (hk : k ≤ m) : OutOK m o := by
  cases o with
  | val => exact inv.mono h hk
  | err => trivial
  | over => exact h
theorem bindR_ok {k m : Nat} {r : Res} {f : Str → Res} (h : ResOK k r) (hf : ∀ x, inv x k → ResOK m (f x)) : ResOK m (bindR r f) := by
  obtain ⟨l, o⟩ := r
  cases o with
  | val x => exact hf x h
  | err => trivial
  | over => exact h
theorem inv_whole {x : Str} {k : Nat} (hk : 22 ≤ k) (h : inv x k) {n : Int} (hn : wholeOf x = some n) : n.natAbs < 10 ^ k := by
  rcases h.2 with h1 | ⟨h1, h2⟩
  · exact Nat.lt_of_lt_of_le (whole16 h1 hn) (Nat.le_trans (show 16 ^ 18 ≤ 10 ^ 22 by decide) (Nat.pow_le_pow_right (by decide) hk))
  · exact whole10 h1 h2 hn
set_option exponentiation.threshold 3000 in
theorem log_lt {n : Nat} {k : Nat} (hk : k ≤ 570) (h : n < 10 ^ k) : n.log2 < 1920 := by
  by_cases q : n = 0
  · subst q; decide
  · rw [Nat.log2_lt q]
    exact Nat.lt_of_lt_of_le h (Nat.le_trans (Nat.pow_le_pow_right (by decide) hk) (by decide))
theorem dec_ok {x : Str} (h : Dec x) (hl : x.length ≤ 1000) : okB x = true := by
  unfold okB
  rw [Bool.and_eq_true]
  refine ⟨List.all_eq_true.mpr fun k hk => ?_, decide_eq_true hl⟩
  have := h k hk
  simp only [Bool.and_eq_true, decide_eq_true_eq]
  lia
theorem num_ok {n : Int} {k : Nat} (h1 : 1 ≤ k) (hk : k ≤ 570) (h : n.natAbs < 10 ^ k) : OutOK (k + 1) (numTxt n) := by
  unfold numTxt
  rw [if_pos (log_lt hk h)]
  have hl := int_len h1 h
  exact ⟨dec_ok (int_dec n) (by lia), .inr ⟨int_dec n, hl⟩⟩
theorem bit_ok (b : Bool) (k : Nat) : inv (bit b) k := by cases b <;> exact ⟨by decide +kernel, .inl (by decide +kernel)⟩
theorem chkUn_ok {op x : Str} {k : Nat} (hk : 22 ≤ k) (hk2 : k ≤ 560) (h : inv x k) : OutOK (k + 1) (chkUn op x) := by
  unfold chkUn
  rw [if_pos h.1]
  unfold unaryOf
  split
  · cases boolOf x with
    | none => trivial
    | some b => exact bit_ok _ _
  · cases hw : wholeOf x with
    | none => trivial
    | some n =>
      have := inv_whole hk h hw
      show OutOK _ (if op = "-" then numTxt (-n) else numTxt n)
      split
      · exact num_ok (by lia) (by lia) (by rw [Int.natAbs_neg]; exact this)
      · exact num_ok (by lia) (by lia) this
theorem mxa {p f : Nat} : max p f ≤ p + f := Nat.max_le.mpr ⟨Nat.le_add_right .., Nat.le_add_left ..⟩
theorem mxb {a b x y k : Nat} (h1 : a ≤ k * x) (h2 : b ≤ k * y) : max a b ≤ k * (x + y) := by
  rw [Nat.mul_add]; exact Nat.le_trans mxa (Nat.add_le_add h1 h2)
theorem mxc {a b c x y z k : Nat} (h1 : a ≤ k * x) (h2 : b ≤ k * y) (h3 : c ≤ k * z) : max a (max b c) ≤ k * (x + y + z) := by
  rw [Nat.add_assoc]; exact mxb h1 (mxb h2 h3)
theorem stp {a x k j : Nat} (h : a ≤ k * x) (hj : j ≤ k) : a + j ≤ k * (x + 1) := by
  rw [Nat.mul_add, Nat.mul_one]; exact Nat.add_le_add h hj
theorem mx1 {a b k : Nat} (h : max a b ≤ k) : a ≤ k := Nat.le_trans (Nat.le_max_left a b) h
theorem mx9 {a b k : Nat} (h : max a b ≤ k) : b ≤ k := Nat.le_trans (Nat.le_max_right a b) h
theorem or_bound (u v : Nat) : u ||| v ≤ 2 * max u v := by
  have hu : u ≤ max u v := Nat.le_max_left ..
  have hv : v ≤ max u v := Nat.le_max_right ..
  generalize max u v = m at *
  by_cases q : m = 0
  · subst q
    obtain rfl := Nat.le_zero.mp hu
    obtain rfl := Nat.le_zero.mp hv
    decide
  · have hlt : m < 2 ^ (m.log2 + 1) := Nat.lt_log2_self
    have h := Nat.or_lt_two_pow (x := u) (y := v) (n := m.log2 + 1) (Nat.lt_of_le_of_lt hu hlt) (Nat.lt_of_le_of_lt hv hlt)
    rw [Nat.pow_succ, Nat.mul_comm] at h
    exact Nat.le_trans (Nat.le_of_lt h) (Nat.mul_le_mul_left 2 (Nat.log2_self_le q))
theorem tl {x a b : Nat} (h : x ≤ 2 * a) : x ≤ 2 * max a b := Nat.le_trans h (Nat.mul_le_mul_left 2 (Nat.le_max_left ..))
theorem tr {x a b : Nat} (h : x ≤ 2 * b) : x ≤ 2 * max a b := Nat.le_trans h (Nat.mul_le_mul_left 2 (Nat.le_max_right ..))
theorem ab1 {l : Int} {u : Nat} (h : u ≤ l.toNat) : (u : Int).natAbs ≤ 2 * l.natAbs := by
  cases l with
  | ofNat j => exact Nat.le_trans h (Nat.le_mul_of_pos_left j (by decide))
  | negSucc j => exact Nat.le_trans h (Nat.zero_le _)
theorem ab2 {l : Int} {u : Nat} (h0 : 0 ≤ l) (h : u ≤ l.toNat) : (l - (u : Int)).natAbs ≤ 2 * l.natAbs := by
  obtain ⟨j, rfl⟩ := Int.eq_ofNat_of_zero_le h0
  have h : u ≤ j := h
  rw [← Int.ofNat_sub h]
  exact Nat.le_trans (Nat.sub_le j u) (Nat.le_mul_of_pos_left j (by decide))
theorem ab3 {l : Int} (h : ¬ 0 ≤ l) : (-l - 1).toNat + 1 ≤ l.natAbs := by
  cases l with
  | ofNat j => exact absurd (Int.natCast_nonneg j) h
  | negSucc j =>
    rw [Int.neg_negSucc, show ((j + 1 : Nat) : Int) - 1 = j from Int.add_sub_cancel (j : Int) 1]
    exact Nat.le_refl _
theorem ab4 {w m k : Nat} (h : w ≤ 2 * m) (h2 : m + 1 ≤ k) : (-(w : Int) - 1).natAbs ≤ 2 * k := by omega
theorem and_bound (l r : Int) : (Builtin.bitAnd l r).natAbs ≤ 2 * max l.natAbs r.natAbs := by
  unfold Builtin.bitAnd
  by_cases h1 : 0 ≤ l
  · by_cases h2 : 0 ≤ r
    · rw [decide_eq_true h1, decide_eq_true h2]
      exact tl (ab1 (Nat.and_le_left (n := l.toNat) (m := r.toNat)))
    · rw [decide_eq_true h1, decide_eq_false h2]
      exact tl (ab2 h1 (Nat.and_le_left (n := l.toNat) (m := (Builtin.bitNot r).toNat)))
  · by_cases h2 : 0 ≤ r
    · rw [decide_eq_false h1, decide_eq_true h2]
      exact tr (ab2 h2 (Nat.and_le_left (n := r.toNat) (m := (Builtin.bitNot l).toNat)))
    · rw [decide_eq_false h1, decide_eq_false h2]
      refine ab4 (or_bound (Builtin.bitNot l).toNat (Builtin.bitNot r).toNat) ?_
      rw [← Nat.add_max_add_right]
      exact Nat.max_le.mpr ⟨mxl (ab3 h1), mxr (ab3 h2)⟩
theorem ab5 {l p P : Nat} (h : l < p) (hp : p * 10 ≤ P) : l * 10 < P := Nat.lt_of_lt_of_le (Nat.mul_lt_mul_of_pos_right h (by decide)) hp
theorem ab6 {w m P : Nat} (h : w ≤ 2 * m) (hm : m * 10 < P) : w < P := Nat.lt_of_le_of_lt (Nat.le_trans h (by rw [Nat.mul_comm]; exact Nat.mul_le_mul_left m (by decide))) hm
theorem arith_bound {op : Str} (ho : arith4 op) {l r : Int} {a b : Nat} (ha : 1 ≤ a) (hb : 1 ≤ b) (hl : l.natAbs < 10 ^ a) (hr : r.natAbs < 10 ^ b) : (arithOf op l r).natAbs < 10 ^ (a + b) := by
  have h1 : 10 ^ a * 10 ≤ 10 ^ (a + b) := by
    rw [← Nat.pow_succ]; exact Nat.pow_le_pow_right (by decide) (by lia)
  have h2 : 10 ^ b * 10 ≤ 10 ^ (a + b) := by
    rw [← Nat.pow_succ]; exact Nat.pow_le_pow_right (by decide) (by lia)
  unfold arithOf
  split
  · have := Int.natAbs_add_le l r; lia
  · split
    · have := Int.natAbs_sub_le l r; lia
    · split
      · rw [Int.natAbs_mul, Nat.pow_add]
        exact Nat.mul_lt_mul_of_lt_of_lt hl hr
      · refine ab6 (and_bound l r) ?_
        rcases Nat.le_total l.natAbs r.natAbs with h | h
        · rw [Nat.max_eq_right h]; exact ab5 hr h2
        · rw [Nat.max_eq_left h]; exact ab5 hl h1
theorem mul_small {l r : Int} {a b : Nat} (ha : a ≤ 570) (hb : b ≤ 570) (hl : l.natAbs < 10 ^ a) (hr : r.natAbs < 10 ^ b) : mulB l r = true := by
  have h1 := log_lt ha hl
  have h2 := log_lt hb hr
  unfold mulB
  have : Builtin.Int.intTooBig (Builtin.Int.intBits l + Builtin.Int.intBits r) = false := by
    unfold Builtin.Int.intTooBig Builtin.Int.intBits
    rw [decide_eq_false_iff_not]
    split <;> split <;> unfold bitsLine <;> simp <;> lia
  rw [this, Bool.and_false]; rfl
theorem chkBin_ok {op x y : Str} {a b : Nat} (ho : binOp op) (ha : 22 ≤ a) (hb : 22 ≤ b) (hab : a + b ≤ 560) (hx : inv x a) (hy : inv y b) : OutOK (a + b + 1) (chkBin op x y) := by
  unfold chkBin
  have hm : mulT x y = true := by
    unfold mulT
    cases h1 : wholeOf x with
    | none => rfl
    | some l =>
      cases h2 : wholeOf y with
      | none => rfl
      | some r => exact mul_small (a := a) (b := b) (by lia) (by lia) (inv_whole ha hx h1) (inv_whole hb hy h2)
  rw [hx.1, hy.1, hm, if_pos (show (true && true && true) = true from rfl)]
  unfold binaryOf
  split
  · exact bit_ok _ _
  · split
    · exact bit_ok _ _
    · split
      · cases splitOf y with
        | none => trivial
        | some ts => exact bit_ok _ _
      · rename_i h1 h2 h3
        have ho4 : arith4 op := by
          rcases ho with h | h | h | h
          · exact absurd h h1
          · exact absurd h h2
          · exact absurd h h3
          · exact h
        cases h4 : wholeOf x with
        | none => trivial
        | some l =>
          cases h5 : wholeOf y with
          | none => trivial
          | some r => exact num_ok (by lia) (by lia) (arith_bound ho4 (by lia) (by lia) (inv_whole ha hx h4) (inv_whole hb hy h5))
theorem needR_ok {x : Str} {k m : Nat} {f : Bool → Res} (h : inv x k) (hf : ∀ b, ResOK m (f b)) : ResOK m (needR x f) := by
  unfold needR
  rw [if_pos h.1]
  cases boolOf x with
  | none => trivial
  | some b => exact hf b
theorem retbit_ok (b : Bool) (k : Nat) : ResOK k (retR (bit b)) := bit_ok b k
theorem tame_slice {x : Str} (h : Tame x) (lo hi : Option Int) : Tame (Txt.slice x lo hi) := by
  unfold Txt.slice
  split
  · exact h
  · intro k hk
    simp only [List.mem_filterMap] at hk
    obtain ⟨i, _, hi⟩ := hk
    exact h k (by rw [Array.mem_toList_iff]; exact Array.mem_of_getElem? hi)
theorem tame_ok {x : Str} (h : Tame x) (hl : x.length ≤ 1000) : okB x = true := by
  unfold okB
  rw [Bool.and_eq_true]
  refine ⟨List.all_eq_true.mpr fun k hk => ?_, decide_eq_true hl⟩
  have := h k hk
  simp only [Bool.and_eq_true, decide_eq_true_eq]
  exact ⟨⟨⟨this.1, this.2.1⟩, this.2.2.1⟩, this.2.2.2⟩
theorem tw_ok {x y : Str} (hx : okB x = true) (hy : okB y = true) (k : Nat) : inv (twVal x y) k := by
  have hl : (twVal x y).length ≤ 9 + 9 := Ln_app (slice9_len x) (slice9_len y)
  have ht : Tame (twVal x y) := by
    intro k hk
    have hk : k ∈ ((Txt.slice x none (some 9)).cps ++ (Txt.slice y none (some 9)).cps).toList := hk
    rw [Array.toList_append, List.mem_append] at hk
    rcases hk with h | h
    · exact tame_slice (okB_ok hx).1 _ _ k h
    · exact tame_slice (okB_ok hy).1 _ _ k h
  exact ⟨tame_ok ht (by lia), .inl hl⟩
theorem call1_ok {f x : Str} {k : Nat} (hf : fn1 f) (hk : 22 ≤ k) (hk2 : k ≤ 560) (h : inv x k) : ResOK (k + 1) (call1F f x) := by
  unfold call1F
  split
  · exact needR_ok h fun b => retbit_ok b _
  · rename_i e
    rw [if_pos h.1]
    split
    · exact tw_ok h.1 h.1 _
    · split
      · trivial
      · show OutOK _ (call1Of f x)
        unfold call1Of
        rw [if_neg e]
        cases hw : wholeOf x with
        | none => trivial
        | some n => exact num_ok (by lia) (by lia) (inv_whole hk h hw)
theorem call2_ok {f x y : Str} {a b : Nat} (ha : 22 ≤ a) (hb : 22 ≤ b) (ha2 : a ≤ 560) (hb2 : b ≤ 560) (hx : inv x a) (hy : inv y b) : ResOK (max a b + 1) (call2F f x y) := by
  unfold call2F
  rw [hx.1, hy.1, if_pos (show (true && true) = true from rfl)]
  split
  · exact tw_ok hx.1 hy.1 _
  · split
    · trivial
    · show OutOK _ (call2Of f x y)
      unfold call2Of
      cases h1 : wholeOf x with
      | none => trivial
      | some m =>
        cases h2 : wholeOf y with
        | none => trivial
        | some n =>
          have hm := Nat.lt_of_lt_of_le (inv_whole ha hx h1) (Nat.pow_le_pow_right (show 0 < 10 by decide) (Nat.le_max_left a b))
          have hn := Nat.lt_of_lt_of_le (inv_whole hb hy h2) (Nat.pow_le_pow_right (show 0 < 10 by decide) (Nat.le_max_right a b))
          refine num_ok (by lia) (by lia) ?_
          show (if f = "max" then (if n > m then n else m) else if f = "min" then (if n < m then n else m) else m).natAbs < _
          split
          · split <;> assumption
          · split
            · split <;> assumption
            · exact hm
noncomputable def Tr.leafOk : Tr → Prop
  | .num n => n.natAbs < 10 ^ 21
  | .text x => okB x = true ∧ x.length ≤ 18
  | .cmd pre _ _ val => okB val = true ∧ okB (Txt.join "" (cmdTexts pre val)) = true ∧ (Txt.join "" (cmdTexts pre val)).length ≤ 18
  | .varV => True
  | .varW => True
  | .un _ t => t.leafOk
  | .bin _ a b => a.leafOk ∧ b.leafOk
  | .and_ a b => a.leafOk ∧ b.leafOk
  | .or_ a b => a.leafOk ∧ b.leafOk
  | .ite a b c => a.leafOk ∧ b.leafOk ∧ c.leafOk
  | .call1 _ a => a.leafOk
  | .call2 _ a b => a.leafOk ∧ b.leafOk
noncomputable def beta : Tr → Nat
  | .un _ t => beta t + 1
  | .bin _ a b => beta a + beta b + 1
  | .and_ a b => max (beta a) (beta b)
  | .or_ a b => max (beta a) (beta b)
  | .ite a b c => max (beta a) (max (beta b) (beta c))
  | .call1 _ a => beta a + 1
  | .call2 _ a b => max (beta a) (beta b) + 1
  | _ => 22
theorem beta22 : ∀ t : Tr, 22 ≤ beta t := by
  intro t
  induction t with
  | un _ _ h => exact Nat.le_succ_of_le h
  | bin _ _ _ h _ => exact Nat.le_succ_of_le (Nat.le_trans h (Nat.le_add_right ..))
  | and_ _ _ h _ => exact mxl h
  | or_ _ _ h _ => exact mxl h
  | ite _ _ _ h _ _ => exact mxl h
  | call1 _ _ h => exact Nat.le_succ_of_le h
  | call2 _ _ _ h _ => exact Nat.le_succ_of_le (mxl h)
  | _ => exact Nat.le_refl 22
theorem beta_sz : ∀ t : Tr, beta t ≤ 22 * t.sz := by
  intro t
  induction t with
  | un _ _ h => exact stp h (by decide)
  | bin _ _ _ h1 h2 => exact stp (j := 1) (by rw [Nat.mul_add]; exact Nat.add_le_add h1 h2) (by decide)
  | and_ _ _ h1 h2 => exact stp (j := 0) (mxb h1 h2) (by decide)
  | or_ _ _ h1 h2 => exact stp (j := 0) (mxb h1 h2) (by decide)
  | ite _ _ _ h1 h2 h3 => exact stp (j := 0) (mxc h1 h2 h3) (by decide)
  | call1 _ _ h => exact stp h (by decide)
  | call2 _ _ _ h1 h2 => exact stp (mxb h1 h2) (by decide)
  | _ => exact Nat.le_refl 22
theorem ev_ok {dk : AL} : ∀ t : Tr, t.ok dk → t.leafOk → beta t ≤ 560 → ResOK (beta t) (ev t) := by
  intro t
  induction t with
  | num n =>
    intro _ h _
    have := num_ok (k := 21) (by decide) (by decide) h
    exact this
  | text x => exact fun _ h _ => ⟨h.1, .inl h.2⟩
  | cmd pre name code val =>
    intro _ h _
    show OutOK 22 (if code = 0 then (if okB val = true then .val (Txt.join "" (cmdTexts pre val)) else .over) else .err code val [.str "LAW", .str name] (if code = 2 then 1 else 0))
    split
    · rw [if_pos h.1]; exact ⟨h.2.1, .inl h.2.2⟩
    · trivial
  | varV => exact fun _ _ _ => ⟨by decide +kernel, .inl (by decide +kernel)⟩
  | varW => exact fun _ _ _ => trivial
  | un op t ih =>
    intro h1 h2 h3
    have hb := beta22 t
    have h3 : beta t + 1 ≤ 560 := h3
    exact bindR_ok (ih h1.2 h2 (by lia)) fun x hx => chkUn_ok hb (by lia) hx
  | bin op a b ha hb =>
    intro h1 h2 h3
    have h3 : beta a + beta b + 1 ≤ 560 := h3
    have h4 := beta22 a
    have h5 := beta22 b
    exact bindR_ok (ha h1.2.1 h2.1 (by lia)) fun x hx => bindR_ok (hb h1.2.2 h2.2 (by lia)) fun y hy => chkBin_ok h1.1.1 h4 h5 (by lia) hx hy
  | and_ a b ha hb =>
    intro h1 h2 h3
    have h3 : max (beta a) (beta b) ≤ 560 := h3
    refine bindR_ok (ha h1.1 h2.1 (mx1 h3)) fun x hx => needR_ok hx fun s => ?_
    split
    · exact retbit_ok _ _
    · exact bindR_ok (hb h1.2 h2.2 (mx9 h3)) fun y hy => needR_ok hy fun t => retbit_ok _ _
  | or_ a b ha hb =>
    intro h1 h2 h3
    have h3 : max (beta a) (beta b) ≤ 560 := h3
    refine bindR_ok (ha h1.1 h2.1 (mx1 h3)) fun x hx => needR_ok hx fun s => ?_
    split
    · exact retbit_ok _ _
    · exact bindR_ok (hb h1.2 h2.2 (mx9 h3)) fun y hy => needR_ok hy fun t => retbit_ok _ _
  | ite a b c ha hb hc =>
    intro h1 h2 h3
    have h3 : max (beta a) (max (beta b) (beta c)) ≤ 560 := h3
    refine bindR_ok (ha h1.1 h2.1 (mx1 h3)) fun x hx => needR_ok hx fun s => ?_
    cases s
    · exact OutOK.mono (hc h1.2.2 h2.2.2 (mx9 (mx9 h3))) (mxr (mxr (Nat.le_refl _)))
    · exact OutOK.mono (hb h1.2.1 h2.2.1 (mx1 (mx9 h3))) (mxr (mxl (Nat.le_refl _)))
  | call1 f a ha =>
    intro h1 h2 h3
    have h3 : beta a + 1 ≤ 560 := h3
    exact bindR_ok (ha h1.2 h2 (by lia)) fun x hx => call1_ok h1.1 (beta22 a) (by lia) hx
  | call2 f a b ha hb =>
    intro h1 h2 h3
    have h3 : max (beta a) (beta b) + 1 ≤ 560 := h3
    exact bindR_ok (ha h1.2.1 h2.1 (mx1 (Nat.le_of_succ_le h3))) fun x hx => bindR_ok (hb h1.2.2 h2.2 (mx9 (Nat.le_of_succ_le h3))) fun y hy => call2_ok (beta22 a) (beta22 b) (by lia) (by lia) hx hy
theorem nice_of_leaf : ∀ t : Tr, t.leafOk → t.nice := by
  intro t
  induction t with
  | num n => exact fun h => log_lt (k := 21) (by decide) h
  | un op t ih => exact ih
  | bin op a b ha hb => exact fun h => ⟨ha h.1, hb h.2⟩
  | and_ a b ha hb => exact fun h => ⟨ha h.1, hb h.2⟩
  | or_ a b ha hb => exact fun h => ⟨ha h.1, hb h.2⟩
  | ite a b c ha hb hc => exact fun h => ⟨ha h.1, hb h.2.1, hc h.2.2⟩
  | call1 f a ha => exact ha
  | call2 f a b ha hb => exact fun h => ⟨ha h.1, hb h.2⟩
  | _ => exact fun _ => trivial
end
section
theorem bindR_le {r : Res} {f : Str → Res} {m k : Nat} (h : r.1.length ≤ m) (hf : ∀ x, (f x).1.length ≤ k) : (bindR r f).1.length ≤ m + k := by
  obtain ⟨l, o⟩ := r
  cases o with
  | val x =>
    show (l ++ (f x).1).length ≤ _
    rw [List.length_append]
    have := hf x
    have h : l.length ≤ m := h
    lia
  | err => exact Nat.le_trans h (Nat.le_add_right _ _)
  | over => exact Nat.le_trans h (Nat.le_add_right _ _)
theorem needR_le {x : Str} {f : Bool → Res} {k : Nat} (hf : ∀ b, (f b).1.length ≤ k) : (needR x f).1.length ≤ k := by
  unfold needR
  split
  · cases boolOf x with
    | none => exact Nat.zero_le _
    | some b => exact hf b
  · exact Nat.zero_le _
theorem logic_le {isOr : Bool} {r : Res} {x : Str} {k : Nat} (h : r.1.length ≤ k) : (logicOf isOr r x).1.length ≤ k := by
  unfold logicOf
  refine needR_le fun s => ?_
  split
  · exact Nat.zero_le _
  · exact bindR_le (k := 0) h fun y => needR_le fun t => Nat.zero_le _
theorem call1_le (f x : Str) : (call1F f x).1.length ≤ 1 := by
  unfold call1F
  split
  · exact Nat.le_trans (needR_le (k := 0) fun b => Nat.zero_le _) (Nat.zero_le _)
  · split
    · split
      · exact Nat.le_refl _
      · split <;> exact Nat.zero_le _
    · exact Nat.zero_le _
theorem call2_le (f x y : Str) : (call2F f x y).1.length ≤ 1 := by
  unfold call2F
  split
  · split
    · exact Nat.le_refl _
    · split <;> exact Nat.zero_le _
  · exact Nat.zero_le _
theorem ev_le : ∀ t : Tr, (ev t).1.length ≤ t.sz := by
  intro t
  induction t with
  | un op t ih => exact bindR_le (k := 1) ih fun x => Nat.zero_le _
  | bin op a b ha hb => exact Nat.le_trans (bindR_le ha fun x => bindR_le (k := 0) hb fun y => Nat.zero_le _) (Nat.le_succ _)
  | and_ a b ha hb => exact Nat.le_trans (bindR_le ha fun x => logic_le hb) (Nat.le_succ _)
  | or_ a b ha hb => exact Nat.le_trans (bindR_le ha fun x => logic_le hb) (Nat.le_succ _)
  | ite a b c ha hb hc =>
    refine Nat.le_trans (bindR_le (k := b.sz + c.sz) ha fun x => needR_le fun s => ?_) (by show _ ≤ a.sz + b.sz + c.sz + 1; lia)
    cases s
    · exact Nat.le_trans hc (Nat.le_add_left _ _)
    · exact Nat.le_trans hb (Nat.le_add_right _ _)
  | call1 f a ha => exact bindR_le ha fun x => call1_le f x
  | call2 f a b ha hb => exact Nat.le_trans (bindR_le ha fun x => bindR_le hb fun y => call2_le f x y) (Nat.le_of_eq (Nat.add_assoc ..).symm)
  | num => exact Nat.zero_le _
  | text => exact Nat.zero_le _
  | cmd => exact Nat.le_refl _
  | varV => exact Nat.zero_le _
  | varW => exact Nat.zero_le _
theorem mx2 {x y b c k : Nat} (h1 : x ≤ b + k) (h2 : y ≤ c + k) : max x y ≤ max b c + k :=
  Nat.max_le.mpr ⟨Nat.le_trans h1 (Nat.add_le_add_right (Nat.le_max_left ..) k), Nat.le_trans h2 (Nat.add_le_add_right (Nat.le_max_right ..) k)⟩
theorem mx3 {a x y b c k : Nat} (h1 : x ≤ b + k) (h2 : y ≤ c + k) : max a (max x y) ≤ max a (max b c) + k := mx2 (Nat.le_add_right ..) (mx2 h1 h2)
theorem ar1 {m M E : Nat} (h : m ≤ M + (E + 3)) : m + 3 ≤ M + 3 + E + 3 := by rw [Nat.add_right_comm M 3 E]; exact Nat.add_le_add_right h 3
theorem ar2 {m M E : Nat} (h : m ≤ M + (E + 1)) : m + 1 ≤ M + 1 + E + 1 := by rw [Nat.add_right_comm M 1 E]; exact Nat.succ_le_succ h
theorem cost_sz : ∀ t : Tr, t.cost ≤ 15 * t.sz := by
  intro t
  induction t with
  | un _ _ h => exact stp h (by decide)
  | bin _ _ _ h1 h2 => exact stp (mxb h1 h2) (by decide)
  | and_ _ _ h1 h2 => exact stp (mxb h1 h2) (by decide)
  | or_ _ _ h1 h2 => exact stp (mxb h1 h2) (by decide)
  | ite _ _ _ h1 h2 h3 => exact stp (mxc h1 h2 h3) (by decide)
  | call1 _ _ h => exact stp h (by decide)
  | call2 _ _ _ h1 h2 => exact stp (mxb h1 h2) (by decide)
  | _ => exact Nat.le_refl 15
noncomputable def Ctx.extra : Ctx → Nat
  | .binL _ b => b.cost
  | .binR _ a => a.cost
  | .c2 _ b => b.cost
  | _ => 0
theorem cost_plug (C : Ctx) (p : Tr) : (C.plug p).cost ≤ p.cost + C.extra + 3 := by
  cases C with
  | binL _ b => exact Nat.add_le_add_right mxa 3
  | binR _ a => exact Nat.add_le_add_right (Nat.le_trans mxa (Nat.le_of_eq (Nat.add_comm ..))) 3
  | c2 _ b => exact Nat.add_le_add_right mxa 3
  | _ => exact Nat.le_refl _
theorem cost_around (C : Ctx) : ∀ p : Tr, (around C p).cost ≤ p.cost + C.extra + 3 := by
  intro p
  induction p with
  | ite a b c _ hb hc => exact ar1 (mx3 hb hc)
  | _ => exact cost_plug C _
theorem cost_choice (f s : Tr) : ∀ p : Tr, (choice p f s).cost ≤ p.cost + max f.cost s.cost + 3 := by
  intro p
  induction p with
  | ite a b c _ hb hc => exact ar1 (mx3 hb hc)
  | _ => exact Nat.add_le_add_right mxa 3
theorem cost_turnB (op : Str) (a b : Tr) : (turnB op a b).cost ≤ a.cost + b.cost + 3 := by
  unfold turnB
  split
  · have : (around (.binR op a) b).cost ≤ b.cost + a.cost + 3 := cost_around _ _
    lia
  · exact cost_around _ _
theorem cost_turnBin (op : Str) (a b : Tr) : (turnBin op a b).cost ≤ a.cost + b.cost + 6 := by
  unfold turnBin
  have h := cost_turnB op a b
  split
  · rename_i o _
    have h1 : (around (.unC "!") (turnB o a b)).cost ≤ (turnB o a b).cost + 0 + 3 := cost_around _ _
    have h2 := cost_turnB o a b
    lia
  · lia
theorem cost_bit (a : Tr) : (bitT a).cost ≤ a.cost + 18 := cost_choice (.text "1") (.text "0") a
theorem ar3 {p m x y : Nat} (h1 : p ≤ 21 * x) (h2 : m ≤ 21 * y + 18) : p + m + 3 ≤ 21 * (x + y + 1) := by rw [Nat.mul_add, Nat.mul_add]; exact Nat.add_le_add_right (Nat.add_le_add h1 h2) 3
theorem ar4 {p m x y z : Nat} (h1 : p ≤ 21 * x) (h2 : m ≤ 21 * (y + z)) : p + m + 3 ≤ 21 * (x + y + z + 1) := by rw [Nat.add_assoc x y z, Nat.mul_add 21 _ 1, Nat.mul_add]; exact Nat.add_le_add (Nat.add_le_add h1 h2) (by decide)
theorem cost_turn : ∀ t : Tr, (turn t).cost ≤ 21 * t.sz := by
  intro t
  induction t with
  | un op t ih =>
    show (if op = "!" then around (.unC "!") (turn t) else turnBin op (.text "0") (turn t)).cost ≤ 21 * (t.sz + 1)
    split
    · have : (around (.unC "!") (turn t)).cost ≤ (turn t).cost + 0 + 3 := cost_around _ _
      lia
    · have : (turnBin op (.text "0") (turn t)).cost ≤ 15 + (turn t).cost + 6 := cost_turnBin _ _ _
      lia
  | bin op a b ha hb =>
    have := cost_turnBin op (turn a) (turn b)
    show (turnBin op (turn a) (turn b)).cost ≤ 21 * (a.sz + b.sz + 1)
    lia
  | and_ a b ha hb =>
    exact Nat.le_trans (cost_choice (bitT (turn b)) (.text "0") (turn a)) (ar3 ha (Nat.max_le.mpr ⟨Nat.le_trans (cost_bit (turn b)) (Nat.add_le_add_right hb 18), Nat.le_trans (show 15 ≤ 18 by decide) (Nat.le_add_left ..)⟩))
  | or_ a b ha hb =>
    exact Nat.le_trans (cost_choice (.text "1") (bitT (turn b)) (turn a)) (ar3 ha (Nat.max_le.mpr ⟨Nat.le_trans (show 15 ≤ 18 by decide) (Nat.le_add_left ..), Nat.le_trans (cost_bit (turn b)) (Nat.add_le_add_right hb 18)⟩))
  | ite a b c ha hb hc =>
    exact Nat.le_trans (cost_choice (turn b) (turn c) (turn a)) (ar4 ha (mxb hb hc))
  | call1 f a ha =>
    show (if f = "bool" then bitT (turn a) else around (.c1 (fn1Of f)) (turn a)).cost ≤ 21 * (a.sz + 1)
    split
    · have := cost_bit (turn a); lia
    · have : (around (.c1 (fn1Of f)) (turn a)).cost ≤ (turn a).cost + 0 + 3 := cost_around _ _
      lia
  | call2 f a b ha hb =>
    have : (around (.c2 f (turn b)) (turn a)).cost ≤ (turn a).cost + (turn b).cost + 3 := cost_around _ _
    show (around (.c2 f (turn b)) (turn a)).cost ≤ 21 * (a.sz + b.sz + 1)
    lia
  | _ => show (15 : Nat) ≤ 21 * 1; decide
theorem ifd_choice (f s : Tr) : ∀ p : Tr, (choice p f s).ifd ≤ p.ifd + max f.ifd s.ifd + 1 := by
  intro p
  induction p with
  | ite a b c _ hb hc => exact ar2 (mx2 hb hc)
  | _ => exact Nat.add_le_add_right (Nat.le_add_left ..) 1
theorem ifd_turnB (op : Str) (a b : Tr) : (turnB op a b).ifd ≤ max a.ifd b.ifd := by
  unfold turnB
  split <;> rw [ifd_around]
  · exact Nat.le_max_right ..
  · exact Nat.le_max_left ..
theorem ifd_turnBin (op : Str) (a b : Tr) : (turnBin op a b).ifd ≤ max a.ifd b.ifd := by
  unfold turnBin
  split
  · rw [ifd_around]; exact ifd_turnB _ a b
  · exact ifd_turnB _ a b
theorem ifd_bit (a : Tr) : (bitT a).ifd ≤ a.ifd + 1 := ifd_choice (.text "1") (.text "0") a
theorem ar5 {p m x y : Nat} (h1 : p ≤ 2 * x) (h2 : m ≤ 2 * y + 1) : p + m + 1 ≤ 2 * (x + y + 1) := by rw [Nat.mul_add, Nat.mul_add]; exact Nat.add_le_add_right (Nat.add_le_add h1 h2) 1
theorem ar6 {p m x y z : Nat} (h1 : p ≤ 2 * x) (h2 : m ≤ 2 * (y + z)) : p + m + 1 ≤ 2 * (x + y + z + 1) := by rw [Nat.add_assoc x y z, Nat.mul_add 2 _ 1, Nat.mul_add]; exact Nat.add_le_add (Nat.add_le_add h1 h2) (by decide)
theorem ifd_turn : ∀ t : Tr, (turn t).ifd ≤ 2 * t.sz := by
  intro t
  induction t with
  | un op t ih =>
    show (if op = "!" then around (.unC "!") (turn t) else turnBin op (.text "0") (turn t)).ifd ≤ 2 * (t.sz + 1)
    split
    · rw [ifd_around]; lia
    · have : (turnBin op (.text "0") (turn t)).ifd ≤ max 0 (turn t).ifd := ifd_turnBin _ _ _
      lia
  | bin op a b ha hb =>
    have := ifd_turnBin op (turn a) (turn b)
    show (turnBin op (turn a) (turn b)).ifd ≤ 2 * (a.sz + b.sz + 1)
    lia
  | and_ a b ha hb =>
    exact Nat.le_trans (ifd_choice (bitT (turn b)) (.text "0") (turn a)) (ar5 ha (Nat.max_le.mpr ⟨Nat.le_trans (ifd_bit (turn b)) (Nat.add_le_add_right hb 1), Nat.zero_le _⟩))
  | or_ a b ha hb =>
    exact Nat.le_trans (ifd_choice (.text "1") (bitT (turn b)) (turn a)) (ar5 ha (Nat.max_le.mpr ⟨Nat.zero_le _, Nat.le_trans (ifd_bit (turn b)) (Nat.add_le_add_right hb 1)⟩))
  | ite a b c ha hb hc =>
    exact Nat.le_trans (ifd_choice (turn b) (turn c) (turn a)) (ar6 ha (mxb hb hc))
  | call1 f a ha =>
    show (if f = "bool" then bitT (turn a) else around (.c1 (fn1Of f)) (turn a)).ifd ≤ 2 * (a.sz + 1)
    split
    · have := ifd_bit (turn a); lia
    · rw [ifd_around]; lia
  | call2 f a b ha hb =>
    show (around (.c2 f (turn b)) (turn a)).ifd ≤ 2 * (a.sz + b.sz + 1)
    rw [ifd_around]; lia
  | _ => exact Nat.zero_le _
theorem tcost_sz : ∀ t : Tr, tcost t ≤ 8 * t.sz := by
  intro t
  induction t with
  | un op t ih => have h := ifd_turn t; exact Nat.add_le_add_right (m := 8 * t.sz) (Nat.max_le.mpr ⟨ih, by lia⟩) 8
  | bin op a b ha hb => have h := ifd_turn a; have h2 := ifd_turn b; exact Nat.add_le_add_right (m := 8 * (a.sz + b.sz)) (Nat.max_le.mpr ⟨by lia, Nat.max_le.mpr ⟨by lia, Nat.max_le.mpr ⟨by lia, by lia⟩⟩⟩) 8
  | and_ a b ha hb => have h := ifd_turn a; have h2 := ifd_turn b; exact Nat.add_le_add_right (m := 8 * (a.sz + b.sz)) (Nat.max_le.mpr ⟨by lia, Nat.max_le.mpr ⟨by lia, Nat.max_le.mpr ⟨by lia, by lia⟩⟩⟩) 8
  | or_ a b ha hb => have h := ifd_turn a; have h2 := ifd_turn b; exact Nat.add_le_add_right (m := 8 * (a.sz + b.sz)) (Nat.max_le.mpr ⟨by lia, Nat.max_le.mpr ⟨by lia, Nat.max_le.mpr ⟨by lia, by lia⟩⟩⟩) 8
  | ite a b c ha hb hc => have h := ifd_turn a; exact Nat.add_le_add_right (m := 8 * (a.sz + b.sz + c.sz)) (Nat.max_le.mpr ⟨by lia, Nat.max_le.mpr ⟨by lia, Nat.max_le.mpr ⟨by lia, by lia⟩⟩⟩) 8
  | call1 f a ha => have h := ifd_turn a; exact Nat.add_le_add_right (m := 8 * a.sz) (Nat.max_le.mpr ⟨ha, by lia⟩) 8
  | call2 f a b ha hb => have h := ifd_turn a; exact Nat.add_le_add_right (m := 8 * (a.sz + b.sz)) (Nat.max_le.mpr ⟨by lia, Nat.max_le.mpr ⟨by lia, by lia⟩⟩) 8
  | _ => show (8 : Nat) ≤ 8 * 1; decide
-- the turned trees' shapes
theorem ok_around {dk : AL} {C : Ctx} (h : ∀ t : Tr, t.ok dk → (C.plug t).ok dk) : ∀ p : Tr, p.ok dk → (around C p).ok dk := by
  intro p
  induction p with
  | ite a b c _ hb hc => exact fun hp => ⟨hp.1, hb hp.2.1, hc hp.2.2⟩
  | _ => exact fun hp => h _ hp
theorem ok_choice {dk : AL} {f s : Tr} (hf : f.ok dk) (hs : s.ok dk) : ∀ p : Tr, p.ok dk → (choice p f s).ok dk := by
  intro p
  induction p with
  | ite a b c _ hb hc => exact fun hp => ⟨hp.1, hb hp.2.1, hc hp.2.2⟩
  | _ => exact fun hp => ⟨hp, hf, hs⟩
theorem ok_turnB {dk : AL} {op : Str} {a b : Tr} (ho : binOp op ∧ op.length ≤ 10) (ha : a.ok dk) (hb : b.ok dk) : (turnB op a b).ok dk := by
  unfold turnB
  split
  · exact ok_around (C := .binR op a) (fun t ht => ⟨ho, ha, ht⟩) b hb
  · exact ok_around (C := .binL op b) (fun t ht => ⟨ho, ht, hb⟩) a ha
theorem opp_ok {op o : Str} (h : oppOf op = some o) : binOp o ∧ o.length ≤ 10 := by
  rcases opp_cases h with ⟨_, rfl⟩ | ⟨_, rfl⟩ | ⟨_, rfl⟩ | ⟨_, rfl⟩ | ⟨_, rfl⟩ | ⟨_, rfl⟩ | ⟨_, rfl⟩
  · exact ⟨.inl (by decide), by decide +kernel⟩
  · exact ⟨.inr (.inl (by decide)), by decide +kernel⟩
  · exact ⟨.inl (by decide), by decide +kernel⟩
  · exact ⟨.inl (by decide), by decide +kernel⟩
  · exact ⟨.inr (.inl (by decide)), by decide +kernel⟩
  · exact ⟨.inr (.inl (by decide)), by decide +kernel⟩
  · exact ⟨.inr (.inr (.inl (by decide))), by decide +kernel⟩
theorem ok_turnBin {dk : AL} {op : Str} {a b : Tr} (ho : binOp op ∧ op.length ≤ 10) (ha : a.ok dk) (hb : b.ok dk) : (turnBin op a b).ok dk := by
  unfold turnBin
  cases q : oppOf op with
  | none => exact ok_turnB ho ha hb
  | some o => exact ok_around (C := .unC "!") (fun t ht => ⟨.inl rfl, ht⟩) _ (ok_turnB (opp_ok q) ha hb)
theorem ok_turn {dk : AL} : ∀ t : Tr, t.ok dk → (turn t).ok dk := by
  intro t
  induction t with
  | un op t ih =>
    intro h
    show (if op = "!" then around (.unC "!") (turn t) else turnBin op (.text "0") (turn t)).ok dk
    split
    · exact ok_around (C := .unC "!") (fun t ht => ⟨.inl rfl, ht⟩) _ (ih h.2)
    · rename_i e
      refine ok_turnBin ?_ trivial (ih h.2)
      rcases h.1.resolve_left e with rfl | rfl
      · exact ⟨.inr (.inr (.inr (.inr (.inl rfl)))), by decide +kernel⟩
      · exact ⟨.inr (.inr (.inr (.inl rfl))), by decide +kernel⟩
  | bin op a b ha hb => exact fun h => ok_turnBin h.1 (ha h.2.1) (hb h.2.2)
  | and_ a b ha hb => exact fun h => ok_choice (s := .text "0") (ok_choice (f := .text "1") (s := .text "0") trivial trivial _ (hb h.2)) trivial _ (ha h.1)
  | or_ a b ha hb => exact fun h => ok_choice (f := .text "1") trivial (ok_choice (f := .text "1") (s := .text "0") trivial trivial _ (hb h.2)) _ (ha h.1)
  | ite a b c ha hb hc => exact fun h => ok_choice (hb h.2.1) (hc h.2.2) _ (ha h.1)
  | call1 f a ha =>
    intro h
    show (if f = "bool" then bitT (turn a) else around (.c1 (fn1Of f)) (turn a)).ok dk
    split
    · exact ok_choice (f := .text "1") (s := .text "0") trivial trivial _ (ha h.2)
    · refine ok_around (C := .c1 (fn1Of f)) (fun t ht => ⟨?_, ht⟩) _ (ha h.2)
      unfold fn1Of
      split
      · exact .inl (.inr (.inr (.inr (.inr rfl))))
      · exact h.1
  | call2 f a b ha hb => exact fun h => ok_around (C := .c2 f (turn b)) (fun t ht => ⟨h.1, ht, hb h.2.2⟩) _ (ha h.2.1)
  | _ => exact fun h => h
end
section
-- the law's tables
noncomputable def rowsL : List Int := [0, 16, 13, 10, 60, 24, 48, 11, 21, 6, 18, 72, 140, 7, 56, 8, 102, 44, 88, 13, 2, 64, 12, 80, 3]
noncomputable def nameOf (p : Nat) : Str := ("s" : Str) ++ (((toString (p : Int)) : String) : Str)
theorem nameOf_ne : ∀ i, i < 25 → ∀ j, j < 25 → i ≠ j → nameOf i ≠ nameOf j := by decide +kernel
theorem nameOf_ln : ∀ i : Nat, i < 25 → ((((toString (i : Int)) : String) : Str)).length ≤ 10 := by decide +kernel
noncomputable def deedT : List (Int × Str) := [(0, "0"), (0, "1"), (0, "7"), (0, "yes"), (0, "oFF"), (0, " 0x0 "), (0, "-3"), (0, "maybe"), (0, ""), (0, "a b"), (0, "{"), (1, "bad thing"), (3, ""), (4, "on"), (2, "5"), (7, "odd")]
noncomputable def deedV (x : Int × Str) : V := .tup [.int x.1, .str x.2]
noncomputable def deedB (v : Str) : Bool := okB v && ((okB (Txt.join "" (cmdTexts true v)) && decide ((Txt.join "" (cmdTexts true v)).length ≤ 18)) && (okB (Txt.join "" (cmdTexts false v)) && decide ((Txt.join "" (cmdTexts false v)).length ≤ 18)))
theorem deedB_ok {v : Str} (h : deedB v = true) (pre : Bool) : okB v = true ∧ okB (Txt.join "" (cmdTexts pre v)) = true ∧ (Txt.join "" (cmdTexts pre v)).length ≤ 18 := by
  unfold deedB at h
  simp only [Bool.and_eq_true, decide_eq_true_eq] at h
  cases pre
  · exact ⟨h.1, h.2.2⟩
  · exact ⟨h.1, h.2.1⟩
theorem deedT_ok : ∀ x ∈ deedT, deedB x.2 = true := by decide +kernel
theorem pick {α : Type} (l : List α) (k : Int) (h0 : 0 ≤ k) (h1 : k < l.length) : ∃ x, x ∈ l ∧ l[k.toNat]? = some x :=
  ⟨l[k.toNat]'(by lia), List.getElem_mem _, List.getElem?_eq_getElem _⟩
theorem pickV {α : Type} (f : α → V) (l : List α) (k : Int) (h0 : 0 ≤ k) (h1 : k < l.length) : ∃ x, x ∈ l ∧ (l.map f)[k.toNat]? = some (f x) := by
  obtain ⟨x, h2, h3⟩ := pick l k h0 h1
  exact ⟨x, h2, by rw [List.getElem?_map, h3]; rfl⟩
theorem fm (a : Int) {b : Int} (hb : 0 < b) : 0 ≤ a.fmod b ∧ a.fmod b < b := ⟨Int.fmod_nonneg_of_pos a hb, Int.fmod_lt_of_pos a hb⟩
theorem deed_pick (q : Int) : ∃ cd v, (deedT.map deedV)[(q.fmod 16).toNat]? = some (.tup [.int cd, .str v]) ∧ deedB v = true := by
  obtain ⟨h0, h1⟩ := fm q (b := 16) (by decide)
  obtain ⟨x, h2, h3⟩ := pickV deedV deedT (q.fmod 16) h0 (by show q.fmod 16 < 16; exact h1)
  exact ⟨x.1, x.2, h3, deedT_ok x h2⟩
noncomputable def leafT : List Tr := [.num 0, .num 1, .text "no", .text "maybe", .text "", .varV, .varW, .num (10 ^ (20 : Int).toNat)]
theorem leafT_ok {dk : AL} : ∀ t ∈ leafT, t.ok dk ∧ t.leafOk ∧ t.sz = 1 := by
  intro t ht
  simp only [leafT, List.mem_cons, List.not_mem_nil, or_false] at ht
  have tx : ∀ x : Str, okB x = true → x.length ≤ 18 → (Tr.text x).ok dk ∧ (Tr.text x).leafOk ∧ (Tr.text x).sz = 1 := fun x h1 h2 => ⟨trivial, ⟨h1, h2⟩, rfl⟩
  rcases ht with rfl | rfl | rfl | rfl | rfl | rfl | rfl | rfl
  · exact ⟨trivial, by show (0 : Int).natAbs < 10 ^ 21; decide, rfl⟩
  · exact ⟨trivial, by show (1 : Int).natAbs < 10 ^ 21; decide, rfl⟩
  · exact tx _ (by decide +kernel) (by decide +kernel)
  · exact tx _ (by decide +kernel) (by decide +kernel)
  · exact tx _ (by decide +kernel) (by decide +kernel)
  · exact ⟨trivial, trivial, rfl⟩
  · exact ⟨trivial, trivial, rfl⟩
  · exact ⟨trivial, by show (10 ^ (20 : Int).toNat : Int).natAbs < 10 ^ 21; decide, rfl⟩
theorem leaf_pick {dk : AL} (q : Int) : ∃ t : Tr, (leafT.map Tr.enc)[(q.fmod 8).toNat]? = some t.enc ∧ t.ok dk ∧ t.leafOk ∧ t.sz = 1 := by
  obtain ⟨h0, h1⟩ := fm q (b := 8) (by decide)
  obtain ⟨x, h2, h3⟩ := pickV Tr.enc leafT (q.fmod 8) h0 (by show q.fmod 8 < 8; exact h1)
  exact ⟨x, h3, leafT_ok x h2⟩
noncomputable def opT : List Str := ["+", "-", "*", "&", "<", "==", "eq", "!=", "ne", ">", "lt", "gt", ">=", "<=", "ge", "le", "in", "ni"]
noncomputable def opB (o : Str) : Bool := (numRel o || (txtRel o || (inRel o || ([("+" : Str), "-", "*", "&"].any (· == o))))) && decide (o.length ≤ 10)
theorem opT_all : ∀ o ∈ opT, opB o = true := by decide +kernel
theorem opT_ok : ∀ o ∈ opT, binOp o ∧ o.length ≤ 10 := by
  intro o ho
  have h := opT_all o ho
  unfold opB at h
  simp only [Bool.and_eq_true, Bool.or_eq_true, decide_eq_true_eq] at h
  refine ⟨?_, h.2⟩
  rcases h.1 with h | h | h | h
  · exact .inl h
  · exact .inr (.inl h)
  · exact .inr (.inr (.inl h))
  · refine .inr (.inr (.inr ?_))
    simp only [List.any_cons, List.any_nil, Bool.or_false, Bool.or_eq_true, beq_iff_eq] at h
    rcases h with h | h | h | h
    · exact .inl h.symm
    · exact .inr (.inl h.symm)
    · exact .inr (.inr (.inl h.symm))
    · exact .inr (.inr (.inr h.symm))
theorem op_pick (q : Int) : ∃ o : Str, (opT.map V.str)[(q.fmod 18).toNat]? = some (.str o) ∧ binOp o ∧ o.length ≤ 10 := by
  obtain ⟨h0, h1⟩ := fm q (b := 18) (by decide)
  obtain ⟨x, h2, h3⟩ := pickV V.str opT (q.fmod 18) h0 (by show q.fmod 18 < 18; exact h1)
  exact ⟨x, h3, opT_ok x h2⟩
/-- how many operands a draw asks for -/
noncomputable def manyOf (kind q : Int) : Int :=
  if kind < 3 then 0 else if kind = 6 then (if ([(0 : Int), 3, 4].any (· == q.fmod 7)) = true then 1 else 1 + (q.fdiv 7).fmod 2)
  else if kind = 3 then 1 else if kind = 4 then 2 else (if q.fmod 3 = 2 then 3 else 2)
theorem manyOf_ge {kind q : Int} : 0 ≤ manyOf kind q := by
  unfold manyOf
  have := (fm (q.fdiv 7) (b := 2) (by decide)).1
  (repeat' split) <;> lia
theorem manyOf_le {kind q : Int} : manyOf kind q ≤ 3 := by
  unfold manyOf
  have := (fm (q.fdiv 7) (b := 2) (by decide)).2
  (repeat' split) <;> lia
theorem Tr.ok_mono {dk dk' : AL} (h : ∀ n v, getA n dk = some v → getA n dk' = some v) : ∀ t : Tr, t.ok dk → t.ok dk' := by
  intro t
  induction t with
  | num | text | varV | varW => exact fun _ => trivial
  | cmd pre name code val => exact fun h1 => h _ _ h1
  | un op t ih => exact fun h1 => ⟨h1.1, ih h1.2⟩
  | bin op a b iha ihb => exact fun h1 => ⟨h1.1, iha h1.2.1, ihb h1.2.2⟩
  | and_ a b iha ihb => exact fun h1 => ⟨iha h1.1, ihb h1.2⟩
  | or_ a b iha ihb => exact fun h1 => ⟨iha h1.1, ihb h1.2⟩
  | ite a b c iha ihb ihc => exact fun h1 => ⟨iha h1.1, ihb h1.2.1, ihc h1.2.2⟩
  | call1 f a iha => exact fun h1 => ⟨h1.1, iha h1.2⟩
  | call2 f a b iha ihb => exact fun h1 => ⟨h1.1, iha h1.2.1, ihb h1.2.2⟩
theorem getA_new {n : Str} {x : V} {dk : AL} (h : getA n dk = none) : ∀ m v, getA m dk = some v → getA m (setA n x dk) = some v := fun m v e => by
  rw [getA_setA]
  by_cases q : m = n
  · rw [q, h] at e; cases e
  · rw [if_neg q]; exact e
-- error codes are texts
noncomputable def EcOk : Out → Prop
  | .err _ _ ec _ => ∀ x ∈ ec, ∃ s, x = V.str s
  | _ => True
theorem bindR_ec {r : Res} {f : Str → Res} (h : EcOk r.2) (hf : ∀ x, EcOk (f x).2) : EcOk (bindR r f).2 := by
  obtain ⟨l, o⟩ := r
  cases o with
  | val x => exact hf x
  | err => exact h
  | over => trivial
theorem strs2 {a b : Str} : ∀ x ∈ [V.str a, .str b], ∃ s, x = V.str s := by simp
theorem strs3 {a b c : Str} : ∀ x ∈ [V.str a, .str b, .str c], ∃ s, x = V.str s := by simp
theorem strs4 {a b c d : Str} : ∀ x ∈ [V.str a, .str b, .str c, .str d], ∃ s, x = V.str s := by simp
theorem numTxt_ec (n : Int) : EcOk (numTxt n) := by unfold numTxt; split <;> trivial
theorem needR_ec {x : Str} {k : Bool → Res} (h : ∀ b, EcOk (k b).2) : EcOk (needR x k).2 := by
  unfold needR
  split
  · cases boolOf x with
    | none => exact strs3
    | some b => exact h b
  · trivial
theorem logic_ec {isOr : Bool} {r : Res} {x : Str} (h : EcOk r.2) : EcOk (logicOf isOr r x).2 := by
  unfold logicOf
  refine needR_ec fun s => ?_
  split
  · trivial
  · exact bindR_ec h fun y => needR_ec fun t => trivial
theorem fault_ec (op x : Str) : EcOk (opFault op x) := strs3
theorem un_ec (op x : Str) : EcOk (chkUn op x) := by
  unfold chkUn
  split
  · unfold unaryOf
    split
    · cases boolOf x with
      | none => exact fault_ec _ _
      | some b => trivial
    · cases wholeOf x with
      | none => exact fault_ec _ _
      | some n => show EcOk (if op = "-" then numTxt (-n) else numTxt n); split <;> exact numTxt_ec _
  · trivial
theorem bin_ec (op x y : Str) : EcOk (chkBin op x y) := by
  unfold chkBin
  split
  · unfold binaryOf
    split
    · trivial
    · split
      · trivial
      · split
        · cases splitOf y with
          | none => exact strs4
          | some ts => trivial
        · cases wholeOf x with
          | none => exact fault_ec _ _
          | some l =>
            cases wholeOf y with
            | none => exact fault_ec _ _
            | some r => exact numTxt_ec _
  · trivial
theorem call1_ec (f x : Str) : EcOk (call1F f x).2 := by
  unfold call1F
  split
  · exact needR_ec fun b => trivial
  · rename_i e
    split
    · split
      · trivial
      · split
        · exact strs4
        · show EcOk (call1Of f x)
          unfold call1Of
          rw [if_neg e]
          cases wholeOf x with
          | none => exact strs3
          | some n => exact numTxt_ec _
    · trivial
theorem call2_ec (f x y : Str) : EcOk (call2F f x y).2 := by
  unfold call2F
  split
  · split
    · trivial
    · split
      · exact strs4
      · show EcOk (call2Of f x y)
        unfold call2Of
        cases wholeOf x with
        | none => exact strs3
        | some n =>
          cases wholeOf y with
          | none => exact strs3
          | some m => exact numTxt_ec _
  · trivial
theorem ev_ec : ∀ t : Tr, EcOk (ev t).2 := by
  intro t
  induction t with
  | num n => exact numTxt_ec n
  | text x => trivial
  | cmd pre name code val =>
    show EcOk (if code = 0 then (if okB val = true then .val (Txt.join "" (cmdTexts pre val)) else .over) else .err code val [.str "LAW", .str name] (if code = 2 then 1 else 0))
    split
    · split <;> trivial
    · exact strs2
  | varV => trivial
  | varW => exact strs4
  | un op t ih => exact bindR_ec ih fun x => un_ec op x
  | bin op a b ha hb => exact bindR_ec ha fun x => bindR_ec hb fun y => bin_ec op x y
  | and_ a b ha hb => exact bindR_ec ha fun x => logic_ec hb
  | or_ a b ha hb => exact bindR_ec ha fun x => logic_ec hb
  | ite a b c ha hb hc =>
    refine bindR_ec ha fun x => needR_ec fun s => ?_
    cases s
    · exact hc
    · exact hb
  | call1 f a ha => exact bindR_ec ha fun x => call1_ec f x
  | call2 f a b ha hb => exact bindR_ec ha fun x => bindR_ec hb fun y => call2_ec f x y
/-- what the law needs of one of its trees -/
theorem tree_fine {dk : AL} {t : Tr} (hok : t.ok dk) (hl : t.leafOk) (hs : t.sz ≤ 25) :
    ((ev t).1.length ≤ 100000 ∧ (ev t).2 ≠ .over) ∧ ev (turn t) = ev t ∧ (turn t).ok dk ∧ t.cost ≤ 525 ∧ (turn t).cost ≤ 525 ∧ tcost t ≤ 525 := by
  have h1 := ev_le t
  have h2 := cost_sz t
  have h3 := cost_turn t
  have h4 := tcost_sz t
  have h5 := beta_sz t
  have h6 := ev_ok t hok hl (by lia)
  refine ⟨⟨by lia, fun e => ?_⟩, ev_turn t hok (nice_of_leaf t hl), ok_turn t hok, by lia, by lia, by lia⟩
  unfold ResOK at h6
  rw [e] at h6
  exact h6
end
section
theorem G_tupN {B : Bs} {c : Cx} {σ : Store} {Q : V → Store → Prop} {E : Addr → Store → Prop} {value slice : Expr} {l : List V} {k : Int} {v : V} (hsl : isSliceE slice = false) (h0 : 0 ≤ k) (hx : l[k.toNat]? = some v) (hhi : k < 2 ^ 63) (h : Q v σ) : CW B c (op2 (subscriptTail value slice)) [.tup l, .int k] σ VR Q E := by
  have hlt := (List.getElem?_eq_some_iff.mp hx).1
  refine G_tup (j := k.toNat) hsl ?_ hx (by lia) hhi h
  unfold seqIndex?
  simp only
  rw [show (if k < 0 then k + (l.length : Int) else k) = k from if_neg (by lia), if_pos (by rw [Bool.and_eq_true, decide_eq_true_eq, decide_eq_true_eq]; lia)]
theorem pyl {x y : Int} (h : y.natAbs.log2 < 9000) : Builtin.divisionGoesByPylong x y = false := by
  unfold Builtin.divisionGoesByPylong
  simp only
  rw [Bool.and_eq_false_iff]
  left
  rw [decide_eq_false_iff_not]
  split <;> lia
/-- cells that are no lists stay -/
noncomputable def KNL (σ σ' : Store) : Prop := ∀ b cc, σ b = some cc → (∀ l, cc ≠ .list l) → σ' b = some cc
theorem KNL.keep {σ σ' : Store} (k : Keep [] σ σ') : KNL σ σ' := fun b cc e _ => k.at e (by simp)
theorem KNL.new {σ : Store} {a : Addr} {cc : Cell} (h : σ a = none) : KNL σ (σ.set a cc) := fun b c1 e _ => (Store.set_ne _ _ (ne_some' e h)).trans e
theorem KNL.lst {σ : Store} {a : Addr} {cc : Cell} {l : List V} (h : σ a = some (.list l)) : KNL σ (σ.set a cc) := fun b c1 e hn => (Store.set_ne _ _ (ne_cell e h (hn l))).trans e
theorem BaseS.moved {H : HA} {dk : AL} {σ σ' : Store} (x : BaseS H dk σ) (k : KNL σ σ') : BaseS H dk σ' := by
  obtain ⟨n, x2⟩ := x.hd
  obtain ⟨tl, x3, r3⟩ := x.hT
  obtain ⟨wk, x4, r4⟩ := x.hV
  refine ⟨k _ _ x.hh (by intro _ h; cases h), ⟨n, k _ _ x2 (by intro _ h; cases h)⟩, ⟨tl, k _ _ x3 (by intro _ h; cases h), r3⟩, k _ _ x.hD (by intro _ h; cases h), ⟨wk, k _ _ x4 (by intro _ h; cases h), ?_⟩, k _ _ x.hC (by intro _ h; cases h), k _ _ x.hv1 (by intro _ h; cases h), k _ _ x.hv2 (by intro _ h; cases h), x.nT, x.nD, x.nC, x.mT, x.mC⟩
  rcases r4 with h | ⟨W, dw, t, h1, h2, h3⟩
  · exact .inl h
  · exact .inr ⟨W, dw, t, h1, k _ _ h2 (by intro _ h; cases h), k _ _ h3 (by intro _ h; cases h)⟩
theorem BaseS.deed {H : HA} {dk dk' : AL} {σ : Store} (x : BaseS H dk σ) (hDC : H.D ≠ H.CB) : BaseS H dk' (σ.set H.D (.dict dk')) := by
  obtain ⟨n, x2⟩ := x.hd
  obtain ⟨tl, x3, r3⟩ := x.hT
  obtain ⟨wk, x4, r4⟩ := x.hV
  have k1 : ∀ b cc, σ b = some cc → (∀ kv, cc ≠ .dict kv) → (σ.set H.D (.dict dk')) b = some cc := fun b cc e h => (Store.set_ne _ _ (ne_cell e x.hD (h _))).trans e
  have k2 : ∀ b cc, σ b = some cc → b ≠ H.D → (σ.set H.D (.dict dk')) b = some cc := fun b cc e h => (Store.set_ne _ _ h).trans e
  refine ⟨k1 _ _ x.hh (by intro _ h; cases h), ⟨n, k1 _ _ x2 (by intro _ h; cases h)⟩, ⟨tl, k2 _ _ x3 x.mT.symm, r3⟩, Store.set_self _ _ _, ⟨wk, k2 _ _ x4 x.nD.symm, ?_⟩, k2 _ _ x.hC hDC.symm, k1 _ _ x.hv1 (by intro _ h; cases h), k1 _ _ x.hv2 (by intro _ h; cases h), x.nT, x.nD, x.nC, x.mT, x.mC⟩
  rcases r4 with h | ⟨W, dw, t, h1, h2, h3⟩
  · exact .inl h
  · exact .inr ⟨W, dw, t, h1, k1 _ _ h2 (by intro _ h; cases h), k1 _ _ h3 (by intro _ h; cases h)⟩
theorem idw_cons {B : Bs} {c : Cx} {env : Env} {ρ : Loc} {σ : Store} {E : Addr → Store → Prop} {k : Expr} {ks : List (Option Expr)} {v : Expr} {vs : List Expr} {P : List (Int × Int) → Store → Prop} (h : Wx B c env k ρ σ (fun kv σ₁ => ∃ x, kv = .int x ∧ Wx B c env v ρ σ₁ (fun vv σ₂ => ∃ y, vv = .int y ∧ IDW B c env ρ E ks vs (fun r σ₃ => P ((x, y) :: r) σ₃) σ₂) E) E) : IDW B c env ρ E (some k :: ks) (v :: vs) P σ := h
theorem idw_nil {B : Bs} {c : Cx} {env : Env} {ρ : Loc} {σ : Store} {E : Addr → Store → Prop} {P : List (Int × Int) → Store → Prop} (h : P [] σ) : IDW B c env ρ E [] [] P σ := h
theorem ex_int {x : Int} {P : Int → Prop} (h : P x) : ∃ y, V.int x = .int y ∧ P y := ⟨x, rfl, h⟩
theorem idict_done {al : List (Int × Int)} {d : Addr} {σ : Store} {P : Prop} (h1 : (al.map (·.1)).Nodup) (h2 : σ d = some (.idict [])) (h3 : P) : (al.map (·.1)).Nodup ∧ σ d = some (.idict []) ∧ P := ⟨h1, h2, h3⟩
noncomputable def sumSz (ts : List Tr) : Nat := (ts.map Tr.sz).sum
section
variable {B : Bs} {c : Cx} {σ : Store} {Q : V → Store → Prop} {E : Addr → Store → Prop}
theorem rows_k {w : World} (hK : B.K = hd.heap_1 w.params) (hr : c.dep + 1 ≤ 990) (h : ∀ a σ', σ a = none → Keep [] σ σ' → σ' a = some (.list (rowsL.map V.int)) → Q (.ref a) σ') : CW B c (callF (.ref 728)) [] σ VR Q E := by
  end_is "def0"
  intro env c' F hh' hd' hu'
  end_is "g1@25"
  intro r hr1
  end_is "g1@25"
  intro m hm
  obtain ⟨hm1, hm2⟩ := set_none hm
  end_is "g1@25"
  refine O_addl ((Store.set_ne _ _ hm1.symm).trans (Store.set_self _ _ _)) (Store.set_self _ _ _) (show 25 ≤ sizeLine by decide) fun d hd3 => ?_
  obtain ⟨h1, h2⟩ := set_none hd3
  obtain ⟨h3, h4⟩ := set_none h2
  end_is "g1@25"
  exact h d _ h4 (Keep.new (Keep.new (Keep.new (Keep.refl _ _) hr1) hm2) h4) (Store.set_self _ _ _)
theorem deed_k {w : World} (hK : B.K = hd.heap_1 w.params) (hr : c.dep + 1 ≤ 990) {q : Int} (h : ∀ cd v, deedB v = true → Q (.tup [.int cd, .str v]) σ) : CW B c (callF (.ref 735)) [.int q] σ VR Q E := by
  end_is "def1"
  intro env c' F hh' hd' hu'
  obtain ⟨cd, v, h1, h2⟩ := deed_pick q
  have h3 := fm q (b := 16) (by decide)
  end_is "g1@25"
  refine G_tupN rfl h3.1 h1 (by end_is "l") ?_
  end_is "g1@25"
  exact h cd v h2
theorem is_choice_k {w : World} (hK : B.K = hd.heap_1 w.params) (hr : c.dep + 1 ≤ 990) {kind q : Int} (h : ∀ b, Q (.bool b) σ) : CW B c (callF (.ref 777)) [.int kind, .int q] σ VR Q E := by
  end_is "def2"
  intro env c' F hh' hd' hu'
  end_is "go@25"
  all_goals exact h _
theorem many_k {w : World} (hK : B.K = hd.heap_1 w.params) (hr : c.dep + 1 ≤ 990) {kind q : Int} (h : ∀ σ', Keep [] σ σ' → Q (.int (manyOf kind q)) σ') : CW B c (callF (.ref 763)) [.int kind, .int q] σ VR Q E := by
  end_is "def2"
  intro env c' F hh' hd' hu'
  unfold manyOf at h
  end_is "go@25"
  · rename_i h1
    rw [if_pos h1] at h
    exact h σ (Keep.refl _ _)
  · rename_i h1 h2 h3
    rw [if_neg h1, if_pos h2, if_pos h3] at h
    exact h σ (Keep.refl _ _)
  · rename_i h1 h2 h3
    rw [if_neg h1, if_pos h2, if_neg (by rw [h3]; decide)] at h
    exact h σ (Keep.refl _ _)
  · rename_i h1 h2
    rw [if_neg h1, if_neg h2] at h
    intro d hd
    end_is "g1@25"
    refine idict_done (by decide) (Store.set_self _ _ _) ?_
    rw [set_set]
    have key : ∀ n : Int, (n = if q.fmod 3 = 2 then 3 else 2) → Q (match getI kind [((3 : Int), (1 : Int)), (4, 2)] with | some n => .int n | none => .int n) (σ.set d (.idict [(3, 1), (4, 2)])) := by
      intro n hn
      have h3 := h _ (Keep.new (cc := .idict [(3, 1), (4, 2)]) (Keep.refl [] σ) hd)
      unfold getI
      by_cases q3 : kind = 3
      · rw [if_pos q3] at h3; rw [if_pos q3.symm]; exact h3
      · rw [if_neg q3] at h3; rw [if_neg (Ne.symm q3)]
        unfold getI
        by_cases q4 : kind = 4
        · rw [if_pos q4] at h3; rw [if_pos q4.symm]; exact h3
        · rw [if_neg q4] at h3; rw [if_neg (Ne.symm q4)]
          unfold getI
          rw [hn]; exact h3
    clear h
    end_is "go@25"
    · rename_i h3
      exact key 3 (by rw [if_pos h3])
    · rename_i h3
      exact key 2 (by rw [if_neg h3])
end
end
section
theorem HC1 (w : World) : typeIn (hd.heap_1 w.params) (.ref 535) = some (.type "type") := by k_is
theorem HC2 (w : World) : nsIn (hd.heap_1 w.params) cStatics "thirdparty.any" = some none := by k_is
theorem HC3 (w : World) : findCls (hd.heap_1 w.params) (.ref 535) (.type "type") "__init__" = some (.val (.ref 469)) := by k_is
theorem HC4 (w : World) : keepIn (hd.heap_1 w.params) (.ref 469) = true := by k_is
noncomputable def hostKV9 (T I : Addr) : AL := [("tools", .ref T), ("inline", .ref I), ("limit", .int 40), ("fuel", .none), ("depth", .int 0), ("spent", .int 0), ("epoch", .int 0), ("frame", .none), ("coroutine", .none)]
theorem lz_host9 {T I : Addr} : (hostKV9 T I).length ≤ 9 := Nat.le_refl _
section
variable {B : Bs} {c : Cx} {σ : Store} {Q : V → Store → Prop} {E : Addr → Store → Prop}
theorem host_init {w : World} (hK : B.K = hd.heap_1 w.params) (hr : c.dep + 1 ≤ 990) {x d : Addr} (hx : σ x = some (.inst 691 d)) (hd : σ d = some (.attrs []))
    (h : ∀ T I σ', σ T = none → σ I = none → T ≠ I → Keep [d] σ σ' → σ' T = some (.dict []) → σ' I = some (.dict []) → σ' d = some (.attrs (hostKV9 T I)) → Q .none σ') : CW B c (callF (.ref 469)) [.ref x, .int 40, .none] σ VR Q E := by
  have hxd : x ≠ d := ne_cell hx hd (by intro h; cases h)
  refine' D_def (n := 3) (by assumption) ?ho ?hcd ?hck ?hb rfl (roomOk (by assumption)) ?_
  case ho => k_is
  case hcd => k_is
  case hck => decide +kernel
  case hb =>
    intro s cvs hl X
    rw [hK] at X
    exact bnd3 (fun a b e => BindsTo.of_defaults rfl (X 462 _ (by k_is)) rfl rfl rfl) cvs hl
  end_is "sh"
  intro env c' F hh' hd' hu'
  end_is "g1@26"
  intro T hT
  have n1 := ne_some' hx hT
  have n2 := ne_some' hd hT
  end_is "g1@26"
  intro I hI
  obtain ⟨m1, hI⟩ := set_none hI
  obtain ⟨m2, hI⟩ := set_none hI
  have n3 := ne_some' hx hI
  have n4 := ne_some' hd hI
  end_is "g1@26"
  simp only [set_set]
  refine h T I _ hT hI m2.symm ?_ ?_ ?_ (Store.set_self _ _ _)
  · end_is "kp"
  · end_is "st"
  · end_is "st"
theorem host_make {w : World} (hK : B.K = hd.heap_1 w.params) (hr : c.dep + 3 ≤ 990)
    (h : ∀ x d T I VB CB FB σ', Keep [] σ σ' → T ≠ VB ∧ T ≠ CB ∧ VB ≠ CB ∧ CB ≠ FB ∧ CB ≠ I ∧ T ≠ I ∧ T ≠ FB → σ' x = some (.inst 691 d) → σ' d = some (.attrs (hostKV T I VB CB FB 0 0)) → σ' T = some (.dict []) → σ' I = some (.dict []) → σ' VB = some (.dict []) → σ' CB = some (.dict []) → σ' FB = some (.dict []) → Q (.ref x) σ') : CW B c (callF (.ref 691)) [] σ VR Q E := by
  refine CC.cw (CC_make (fI := 589) hK (by k_is) (by k_is) (by k_is) fun x d hxd hx hd => ?_)
  refine' CC_defd (n := 3) (ds := [.int 40, .none]) (dcs := [.int 40 977, .none]) (by assumption) ?ho ?hcd ?hck ?hb ?hd rfl (roomOk (m := 1) (by show c.dep + 1 + 1 ≤ 990; lia)) ?_
  case ho => k_is
  case hcd => k_is
  case hck => decide +kernel
  case hb =>
    intro s cvs hl X
    rw [hK] at X
    exact bnd1 (fun a => BindsTo.of_defaults rfl (X 582 _ (by k_is)) rfl rfl rfl) cvs hl
  case hd => exact fun _ _ => .cons (.int _ _) (.cons .none .nil)
  end_is "sh"
  intro env c' F hh' hd' hu'
  have hd2 : c'.dep = c.dep + 1 + 1 := hd'
  have hx1 : ((σ.set d (.attrs [])).set x (.inst 691 d)) x = some (.inst 691 d) := Store.set_self _ _ _
  have hd1 : ((σ.set d (.attrs [])).set x (.inst 691 d)) d = some (.attrs []) := (Store.set_ne _ _ hxd.symm).trans (Store.set_self _ _ _)
  have k1 : Keep [] σ ((σ.set d (.attrs [])).set x (.inst 691 d)) := Keep.new (Keep.new (Keep.refl _ _) hd) hx
  revert hx1 hd1 k1
  refine opqE ((σ.set d (.attrs [])).set x (.inst 691 d)) fun σ₁ hS => ?_
  intro hx1 hd1 k1
  end_is "g1@26"
  refine host_init (by assumption) (by end_is "l") hx1 hd1 fun T I σ₂ hT hI hTI k2 e1 e2 e3 => ?_
  have hx2 := k2.at hx1 (by simpa using hxd)
  end_is "g1@26"
  intro VB hVB
  have a1 := ne_some' hx2 hVB
  have a2 := ne_some' e3 hVB
  have a3 := ne_some' e1 hVB
  have a4 := ne_some' e2 hVB
  end_is "g1@26"
  intro CB hCB
  obtain ⟨b1, hCB⟩ := set_none hCB
  obtain ⟨b2, hCB⟩ := set_none hCB
  have b3 := ne_some' hx2 hCB
  have b5 := ne_some' e1 hCB
  have b6 := ne_some' e2 hCB
  end_is "g1@26"
  intro FB hFB
  obtain ⟨c1, hFB⟩ := set_none hFB
  obtain ⟨c2, hFB⟩ := set_none hFB
  obtain ⟨_, hFB⟩ := set_none hFB
  obtain ⟨c3, hFB⟩ := set_none hFB
  have c4 := ne_some' hx2 hFB
  have c5 := ne_some' e1 hFB
  have c6 := ne_some' e2 hFB
  end_is "g1@26"
  have dx : d ≠ x := hxd.symm
  have dT : T ≠ d := fun e => by rw [e, e3] at e1; cases e1
  have dI : I ≠ d := fun e => by rw [e, e3] at e2; cases e2
  refine ⟨rfl, h x d T I VB CB FB _ ?_ ⟨a3, b5, b2.symm, c2.symm, b6.symm, hTI, c5⟩ ?_ (Store.set_self _ _ _) ?_ ?_ ?_ ?_ ?_⟩
  · have f1 := k2.fresh hVB (by simpa using a2.symm)
    have f2 := k2.fresh hCB (by simpa using b1)
    have f3 := k2.fresh hFB (by simpa using c1)
    have kk : Keep [d] σ₁ _ := Keep.old (cc := .attrs (hostKV T I VB CB FB 0 0)) (Keep.new (cc := .dict []) (Keep.old (cc := .attrs (setA "commands" (.ref CB) (setA "vars" (.ref VB) (hostKV9 T I)))) (Keep.new (cc := .dict []) (Keep.old (cc := .attrs (setA "vars" (.ref VB) (hostKV9 T I))) (Keep.new (cc := .dict []) k2 f1) (List.mem_singleton.mpr rfl)) f2) (List.mem_singleton.mpr rfl)) f3) (List.mem_singleton.mpr rfl)
    intro b hb _
    have hbd : b ≠ d := fun e => hb (by rw [e]; exact hd)
    have e1 := k1 b hb (by simp)
    exact (kk b (by rw [e1]; exact hb) (by simpa using hbd)).trans e1
  · end_is "st"
  · end_is "st"
  · end_is "st"
  · end_is "st"
  · end_is "st"
  · end_is "st"
theorem put_k {w : World} (hK : B.K = hd.heap_1 w.params) (hr : c.dep + 2 ≤ 990) {x d T I VB CB FB : Addr} (hx : σ x = some (.inst 691 d)) (hd : σ d = some (.attrs (hostKV T I VB CB FB 0 0))) (hI : σ I = some (.dict [])) (hC : σ CB = some (.dict [])) (hF : σ FB = some (.dict []))
    (h : Q .none (σ.set CB (.dict [("tcl::mathfunc::twice", .tup [.ref 749, .none])]))) : CW B c (callF (.ref 660)) [.ref x, .str "tcl::mathfunc::twice", .ref 749] σ VR Q E := by
  refine' D_defd (n := 4) (ds := [.none]) (dcs := [.none]) (by assumption) ?ho ?hcd ?hck ?hb ?hd rfl (roomOk (by assumption)) ?_
  case ho => k_is
  case hcd => k_is
  case hck => decide +kernel
  case hb =>
    intro s cvs hl X
    rw [hK] at X
    exact bnd3 (fun a b e => BindsTo.of_defaults rfl (X 653 _ (by k_is)) rfl rfl rfl) cvs hl
  case hd => exact fun _ _ => .cons .none .nil
  end_is "sh"
  intro env c' F hh' hd' hu'
  have hr1 : c'.dep + 1 ≤ 990 := by lia
  end_is "g1@26"
  end_is "def2"
  intro env2 c2 F2 hh2 hd2 hu2
  end_is "g1@26"
  refine if_bF rfl ?_
  end_is "g1@26"
  exact h
theorem write_k {w : World} (hK : B.K = hd.heap_1 w.params) (hr : c.dep + 5 ≤ 990) {x d T I VB CB FB : Addr} (hx : σ x = some (.inst 691 d)) (hd : σ d = some (.attrs (hostKV T I VB CB FB 0 0))) (hV : σ VB = some (.dict []))
    (h : ∀ y dv t σ', Keep [VB] σ σ' → σ' VB = some (.dict [("v", .ref y)]) → σ' y = some (.inst 443 dv) → σ' dv = some (.attrs (varKV "scalar" "1" t 1)) → Q (.str "1") σ') : CW B c (callF (.ref 631)) [.ref x, .str "v", .str "1"] σ VR Q E := by
  end_is "def3"
  intro env c' F hh' hd' hu'
  end_is "g1@26"
  have hr1 : c'.dep + 4 ≤ 990 := by lia
  end_is "def2"
  intro env2 c2 F2 hh2 hd2 hu2
  end_is "g1@26"
  have e : getA "v" ([] : AL) = none := rfl
  refine var_in_k (by assumption) (by end_is "l") hV (Nat.zero_le _) (fun V1 h1 => ?_) (fun _ y dv t σ₁ hy hdv k1 h1 h2 h3 => ?_) ⟨0, .inr e⟩
  · rw [e] at h1; cases h1
  · clear F2
    have nx : x ≠ VB := ne_cell hx hV (by intro h; cases h)
    have nd : d ≠ VB := ne_cell hd hV (by intro h; cases h)
    have hx1 := k1.at hx (by simpa using nx)
    have hd1 := k1.at hd (by simpa using nd)
    have hyd : y ≠ dv := ne_cell h1 h2 (by intro h; cases h)
    have hVd : VB ≠ dv := ne_cell h3 h2 (by intro h; cases h)
    end_is "g1@26"
    end_is "def4"
    intro env3 c3 F3 hh3 hd3 hu3
    end_is "g1@26"
    refine put_value_k (by assumption) (by end_is "l") h1 h2 hyd ?_
    end_is "g1@26"
    refine h y dv t _ (Keep.new k1 hdv) ?_ ?_ (Store.set_self _ _ _)
    · exact (Store.set_ne _ _ hVd).trans h3
    · exact (Store.set_ne _ _ hyd).trans h1
end
end
section
theorem many3 (q : Int) : manyOf 3 q = 1 := by simp [manyOf]
theorem many4 (q : Int) : manyOf 4 q = 2 := by simp [manyOf]
theorem many5 (q : Int) : manyOf 5 q = if q.fmod 3 = 2 then 3 else 2 := by simp [manyOf]
theorem many7 (q : Int) : manyOf 7 q = if q.fmod 3 = 2 then 3 else 2 := by simp [manyOf]
theorem many6 (q : Int) : manyOf 6 q = if ([(0 : Int), 3, 4].any (· == q.fmod 7)) = true then 1 else 1 + (q.fdiv 7).fmod 2 := by
  unfold manyOf
  rw [if_neg (by decide), if_pos rfl]
noncomputable def fnT : List Str := ["bool", "max", "min", "entier", "int", "twice", "nope"]
theorem fn1_all : ∀ f ∈ fnT, fn1 f := by
  intro f h
  simp only [fnT, List.mem_cons, List.not_mem_nil, or_false] at h
  unfold fn1
  rcases h with h | h | h | h | h | h | h
  · exact .inl (.inl h)
  · exact .inl (.inr (.inl h))
  · exact .inl (.inr (.inr (.inl h)))
  · exact .inl (.inr (.inr (.inr (.inl h))))
  · exact .inl (.inr (.inr (.inr (.inr h))))
  · exact .inr (.inl h)
  · exact .inr (.inr h)
theorem fn_pick (q : Int) : ∃ f : Str, (fnT.map V.str)[(q.fmod 7).toNat]? = some (.str f) ∧ fn1 f ∧ (([(0 : Int), 3, 4].any (· == q.fmod 7)) = false → fn2 f) := by
  obtain ⟨h0, h1⟩ := fm q (b := 7) (by decide)
  obtain ⟨x, h2, h3⟩ := pickV V.str fnT (q.fmod 7) h0 (by show q.fmod 7 < 7; exact h1)
  refine ⟨x, h3, fn1_all x h2, fun hn => ?_⟩
  have hc : q.fmod 7 = 0 ∨ q.fmod 7 = 1 ∨ q.fmod 7 = 2 ∨ q.fmod 7 = 3 ∨ q.fmod 7 = 4 ∨ q.fmod 7 = 5 ∨ q.fmod 7 = 6 := by lia
  unfold fn2
  rcases hc with e | e | e | e | e | e | e <;> rw [e] at hn h3
  · exact absurd hn (by decide)
  · cases h3; exact .inl (.inl rfl)
  · cases h3; exact .inl (.inr rfl)
  · exact absurd hn (by decide)
  · exact absurd hn (by decide)
  · cases h3; exact .inr (.inl rfl)
  · cases h3; exact .inr (.inr rfl)
theorem sum1 (a : Tr) : sumSz [a] = a.sz := by simp [sumSz]
theorem sum2 (a b : Tr) : sumSz [a, b] = a.sz + b.sz := by simp [sumSz]
theorem sum3 (a b c : Tr) : sumSz [a, b, c] = a.sz + b.sz + c.sz := by simp [sumSz]; lia
theorem encM (ts : List Tr) : ∀ t : Tr, (t :: ts).map Tr.enc = t.enc :: ts.map Tr.enc := fun _ => rfl
section
variable {B : Bs} {c : Cx} {σ : Store} {Q : V → Store → Prop} {E : Addr → Store → Prop}
theorem node_choice {w : World} (hK : B.K = hd.heap_1 w.params) (hr : c.dep + 1 ≤ 990) {dk : AL} {kind q : Int} {ts : List Tr} {a : Addr} (hk : kind = 5 ∨ kind = 7) (hlen : (ts.length : Int) = if q.fmod 3 = 2 then 3 else 2)
    (ha : σ a = some (.list (ts.map Tr.enc))) (hok : ∀ t ∈ ts, t.ok dk ∧ t.leafOk) (h : ∀ t : Tr, t.ok dk → t.leafOk → t.sz = sumSz ts + 1 → Q t.enc σ) : CW B c (callF (.ref 770)) [.int kind, .int q, .ref a] σ VR Q E := by
  have h3 : kind ≠ 3 := by lia
  have h4 : kind ≠ 4 := by lia
  have h6 : kind ≠ 6 := by lia
  have hq := fm q (b := 3) (by decide)
  have hc : q.fmod 3 = 0 ∨ q.fmod 3 = 1 ∨ q.fmod 3 = 2 := by lia
  end_is "def3"
  intro env c' F hh' hd' hu'
  rcases hc with e | e | e
  · rw [e, if_neg (by decide)] at hlen
    obtain ⟨t1, t2, rfl⟩ := len2 (show ts.length = 2 by lia)
    have o1 := hok t1 (by simp)
    have o2 := hok t2 (by simp)
    rw [sum2] at h
    simp only [encM, List.map_nil] at ha
    end_is "go@27"
    rw [e]
    end_is "go@27"
    exact h (.and_ t1 t2) ⟨o1.1, o2.1⟩ ⟨o1.2, o2.2⟩ rfl
  · rw [e, if_neg (by decide)] at hlen
    obtain ⟨t1, t2, rfl⟩ := len2 (show ts.length = 2 by lia)
    have o1 := hok t1 (by simp)
    have o2 := hok t2 (by simp)
    rw [sum2] at h
    simp only [encM, List.map_nil] at ha
    end_is "go@27"
    rw [e]
    end_is "go@27"
    exact h (.or_ t1 t2) ⟨o1.1, o2.1⟩ ⟨o1.2, o2.2⟩ rfl
  · rw [e, if_pos rfl] at hlen
    obtain ⟨t1, t2, t3, rfl⟩ := len3 (show ts.length = 3 by lia)
    have o1 := hok t1 (by simp)
    have o2 := hok t2 (by simp)
    have o3 := hok t3 (by simp)
    rw [sum3] at h
    simp only [encM, List.map_nil] at ha
    end_is "go@27"
    rw [e]
    end_is "go@27"
    exact h (.ite t1 t2 t3) ⟨o1.1, o2.1, o3.1⟩ ⟨o1.2, o2.2, o3.2⟩ rfl
theorem node_one {w : World} (hK : B.K = hd.heap_1 w.params) (hr : c.dep + 1 ≤ 990) {dk : AL} {q : Int} {ts : List Tr} {a : Addr} (hlen : (ts.length : Int) = 1)
    (ha : σ a = some (.list (ts.map Tr.enc))) (hok : ∀ t ∈ ts, t.ok dk ∧ t.leafOk) (h : ∀ t : Tr, t.ok dk → t.leafOk → t.sz = sumSz ts + 1 → Q t.enc σ) : CW B c (callF (.ref 770)) [.int 3, .int q, .ref a] σ VR Q E := by
  obtain ⟨t1, rfl⟩ := len1 (show ts.length = 1 by lia)
  have o1 := hok t1 (by simp)
  rw [sum1] at h
  simp only [encM, List.map_nil] at ha
  have hq := fm q (b := 3) (by decide)
  have hc : q.fmod 3 = 0 ∨ q.fmod 3 = 1 ∨ q.fmod 3 = 2 := by lia
  end_is "def3"
  intro env c' F hh' hd' hu'
  end_is "go@27"
  rcases hc with e | e | e <;> rw [e] <;> end_is "go@27"
  · exact h (.un "!" t1) ⟨.inl rfl, o1.1⟩ o1.2 rfl
  · exact h (.un "-" t1) ⟨.inr (.inl rfl), o1.1⟩ o1.2 rfl
  · exact h (.un "+" t1) ⟨.inr (.inr rfl), o1.1⟩ o1.2 rfl
theorem node_bin {w : World} (hK : B.K = hd.heap_1 w.params) (hr : c.dep + 1 ≤ 990) {dk : AL} {q : Int} {ts : List Tr} {a : Addr} (hlen : (ts.length : Int) = 2)
    (ha : σ a = some (.list (ts.map Tr.enc))) (hok : ∀ t ∈ ts, t.ok dk ∧ t.leafOk) (h : ∀ t : Tr, t.ok dk → t.leafOk → t.sz = sumSz ts + 1 → Q t.enc σ) : CW B c (callF (.ref 770)) [.int 4, .int q, .ref a] σ VR Q E := by
  obtain ⟨t1, t2, rfl⟩ := len2 (show ts.length = 2 by lia)
  have o1 := hok t1 (by simp)
  have o2 := hok t2 (by simp)
  rw [sum2] at h
  simp only [encM, List.map_nil] at ha
  have hq := fm q (b := 18) (by decide)
  obtain ⟨op, h1, h2⟩ := op_pick q
  end_is "def3"
  intro env c' F hh' hd' hu'
  end_is "go@27"
  refine G_tupN rfl hq.1 h1 (by end_is "l") ?_
  end_is "go@27"
  exact h (.bin op t1 t2) ⟨h2, o1.1, o2.1⟩ ⟨o1.2, o2.2⟩ rfl
theorem node_call {w : World} (hK : B.K = hd.heap_1 w.params) (hr : c.dep + 1 ≤ 990) {dk : AL} {q : Int} {ts : List Tr} {a : Addr} (hlen : (ts.length : Int) = if ([(0 : Int), 3, 4].any (· == q.fmod 7)) = true then 1 else 1 + (q.fdiv 7).fmod 2)
    (ha : σ a = some (.list (ts.map Tr.enc))) (hok : ∀ t ∈ ts, t.ok dk ∧ t.leafOk) (h : ∀ t : Tr, t.ok dk → t.leafOk → t.sz = sumSz ts + 1 → Q t.enc σ) : CW B c (callF (.ref 770)) [.int 6, .int q, .ref a] σ VR Q E := by
  have hq := fm q (b := 7) (by decide)
  have hq2 := fm (q.fdiv 7) (b := 2) (by decide)
  obtain ⟨f, h1, h2, h3⟩ := fn_pick q
  have key : (∃ t1, ts = [t1]) ∨ (fn2 f ∧ ∃ t1 t2, ts = [t1, t2]) := by
    cases e : ([(0 : Int), 3, 4].any (· == q.fmod 7)) with
    | true => rw [e, if_pos rfl] at hlen; exact .inl (len1 (show ts.length = 1 by lia))
    | false =>
      rw [e, if_neg (by decide)] at hlen
      by_cases z : ts.length = 1
      · exact .inl (len1 z)
      · exact .inr ⟨h3 e, len2 (show ts.length = 2 by lia)⟩
  end_is "def3"
  intro env c' F hh' hd' hu'
  rcases key with ⟨t1, rfl⟩ | ⟨hf, t1, t2, rfl⟩
  · have o1 := hok t1 (by simp)
    rw [sum1] at h
    simp only [encM, List.map_nil] at ha
    end_is "go@27"
    refine G_tupN rfl hq.1 h1 (by end_is "l") ?_
    end_is "go@27"
    exact h (.call1 f t1) ⟨h2, o1.1⟩ o1.2 rfl
  · have o1 := hok t1 (by simp)
    have o2 := hok t2 (by simp)
    rw [sum2] at h
    simp only [encM, List.map_nil] at ha
    end_is "go@27"
    refine G_tupN rfl hq.1 h1 (by end_is "l") ?_
    end_is "go@27"
    exact h (.call2 f t1 t2) ⟨hf, o1.1, o2.1⟩ ⟨o1.2, o2.2⟩ rfl
theorem node_k {w : World} (hK : B.K = hd.heap_1 w.params) (hr : c.dep + 1 ≤ 990) {dk : AL} {kind q : Int} {ts : List Tr} {a : Addr} (hk3 : 3 ≤ kind) (hk8 : kind < 8) (hlen : (ts.length : Int) = manyOf kind q)
    (ha : σ a = some (.list (ts.map Tr.enc))) (hok : ∀ t ∈ ts, t.ok dk ∧ t.leafOk) (h : ∀ t : Tr, t.ok dk → t.leafOk → t.sz = sumSz ts + 1 → Q t.enc σ) : CW B c (callF (.ref 770)) [.int kind, .int q, .ref a] σ VR Q E := by
  have hc : kind = 3 ∨ kind = 4 ∨ kind = 5 ∨ kind = 6 ∨ kind = 7 := by lia
  rcases hc with rfl | rfl | rfl | rfl | rfl
  · rw [many3] at hlen; exact node_one hK hr hlen ha hok h
  · rw [many4] at hlen; exact node_bin hK hr hlen ha hok h
  · rw [many5] at hlen; exact node_choice hK hr (.inl rfl) hlen ha hok h
  · rw [many6] at hlen; exact node_call hK hr hlen ha hok h
  · rw [many7] at hlen; exact node_choice hK hr (.inr rfl) hlen ha hok h
theorem leaf_k {w : World} (hK : B.K = hd.heap_1 w.params) (hr : c.dep + 2 ≤ 990) {H : HA} {dk : AL} (x : BaseS H dk σ) {kind q : Int} {name : Str} (hn : getA name dk = none) (hz : dk.length ≤ 1000)
    (h1 : ∀ t : Tr, t.ok dk → t.leafOk → t.sz = 1 → Q t.enc σ) (h2 : ∀ (t : Tr) v, t.ok (setA name v dk) → t.leafOk → t.sz = 1 → Q t.enc (σ.set H.D (.dict (setA name v dk)))) : CW B c (callF (.ref 756)) [.ref H.h, .int kind, .int q, .str name] σ VR Q E := by
  obtain ⟨n, hd⟩ := x.hd
  obtain ⟨tl, hT, r3⟩ := x.hT
  have hhh := x.hh
  have hD := x.hD
  have gD : getA "deeds" (("run", V.ref 742) :: ("deeds", V.ref H.D) :: tl) = some (.ref H.D) := rfl
  have hq := fm q (b := 8) (by decide)
  end_is "def4"
  intro env c' F hh' hd' hu'
  end_is "g0@27"
  refine Ws_if ?_
  end_is "g1@27"
  end_is "if"
  · obtain ⟨t, e1, e2, e3, e4⟩ := leaf_pick (dk := dk) q
    end_is "g1@27"
    refine G_tupN rfl hq.1 e1 (by end_is "l") ?_
    end_is "g1@27"
    exact h1 t e2 e3 e4
  · end_is "g1@27"
    refine deed_k (by assumption) (by end_is "l") fun cd v hv => ?_
    end_is "g1@27"
    have hg : getA name (setA name (V.tup [.int cd, .str v]) dk) = some (.tup [.int cd, .str v]) := getA_self _ _ _
    end_is "go@27"
    · exact h2 (.cmd true name cd v) _ hg (deedB_ok hv true) rfl
    · exact h2 (.cmd false name cd v) _ hg (deedB_ok hv false) rfl
end
end
section
noncomputable def entV (e : Tr × Int × Int) : V := .tup [e.1.enc, .int e.2.1, .int e.2.2]
noncomputable def szs (es : List (Tr × Int × Int)) : Nat := (es.map fun e => e.1.sz).sum
theorem szs_len : ∀ es : List (Tr × Int × Int), es.length ≤ szs es
  | [] => Nat.le_refl _
  | e :: es => by
    have h1 := szs_len es
    have h2 := e.1.sz1
    unfold szs at h1 ⊢
    rw [List.map_cons, List.sum_cons, List.length_cons]
    lia
theorem szs_app (es fs : List (Tr × Int × Int)) : szs (es ++ fs) = szs es + szs fs := by
  unfold szs; rw [List.map_append, List.sum_append]
theorem szs_mem : ∀ {es : List (Tr × Int × Int)} {e : Tr × Int × Int}, e ∈ es → e.1.sz ≤ szs es
  | f :: es, e, h => by
    unfold szs
    rw [List.map_cons, List.sum_cons]
    cases h with
    | head => lia
    | tail _ h => have := szs_mem h; unfold szs at this; lia
theorem szs_sum (es : List (Tr × Int × Int)) : szs es = sumSz (es.map (·.1)) := by
  unfold szs sumSz; rw [List.map_map]; rfl
theorem szs_one (t : Tr) (a b : Int) : szs [(t, a, b)] = t.sz := by simp [szs]
theorem szs_split (n : Nat) (es : List (Tr × Int × Int)) : szs (es.take n) + szs (es.drop n) = szs es := by
  rw [← szs_app, List.take_append_drop]
/-- what holds between the draws -/
structure LI (H : HA) (rw sc S : Addr) (ns : List Int) (p : Nat) (es : List (Tr × Int × Int)) (dk : AL) (σ : Store) : Prop where
  base : BaseS H dk σ
  nDC : H.D ≠ H.CB
  rows : σ rw = some (.list (rowsL.map V.int))
  scr : σ sc = some (.list (ns.map V.int))
  stk : σ S = some (.list (es.map entV))
  nS1 : S ≠ rw
  nS2 : S ≠ sc
  ok : ∀ e ∈ es, e.1.ok dk ∧ e.1.leafOk
  sz : szs es ≤ p
  new : ∀ j, p ≤ j → j < 25 → getA (nameOf j) dk = none
  dkl : dk.length ≤ p
theorem LI.keep {H : HA} {rw sc S : Addr} {ns : List Int} {p : Nat} {es : List (Tr × Int × Int)} {dk : AL} {σ σ' : Store} (x : LI H rw sc S ns p es dk σ) (k : Keep [] σ σ') : LI H rw sc S ns p es dk σ' :=
  ⟨x.base.moved (.keep k), x.nDC, k.at x.rows (by simp), k.at x.scr (by simp), k.at x.stk (by simp), x.nS1, x.nS2, x.ok, x.sz, x.new, x.dkl⟩
theorem LI.len {H : HA} {rw sc S : Addr} {ns : List Int} {p : Nat} {es : List (Tr × Int × Int)} {dk : AL} {σ : Store} (x : LI H rw sc S ns p es dk σ) : es.length ≤ p := Nat.le_trans (szs_len es) x.sz
/-- a leaf is pushed -/
theorem LI.leaf {H : HA} {rw sc S : Addr} {ns : List Int} {p : Nat} {es : List (Tr × Int × Int)} {dk : AL} {σ : Store} (x : LI H rw sc S ns p es dk σ) {t : Tr} {a b : Int} (h1 : t.ok dk) (h2 : t.leafOk) (h3 : t.sz = 1) : LI H rw sc S ns (p + 1) (es ++ [(t, a, b)]) dk (σ.set S (.list (es.map entV ++ [.tup [t.enc, .int a, .int b]]))) :=
  ⟨x.base.moved (.lst x.stk), x.nDC, (Store.set_ne _ _ x.nS1.symm).trans x.rows, (Store.set_ne _ _ x.nS2.symm).trans x.scr, by rw [List.map_append]; exact Store.set_self _ _ _, x.nS1, x.nS2,
    fun e he => by
      rcases List.mem_append.mp he with h | h
      · exact x.ok e h
      · rw [List.mem_singleton] at h; subst h; exact ⟨h1, h2⟩,
    by rw [szs_app, szs_one, h3]; have := x.sz; lia, fun j hj hj2 => x.new j (by lia) hj2, Nat.le_succ_of_le x.dkl⟩
theorem LI.deed {H : HA} {rw sc S : Addr} {ns : List Int} {p : Nat} {es : List (Tr × Int × Int)} {dk : AL} {σ : Store} (x : LI H rw sc S ns p es dk σ) (hp : p < 25) {v : V} : (∀ j, p + 1 ≤ j → j < 25 → getA (nameOf j) (setA (nameOf p) v dk) = none) ∧ (setA (nameOf p) v dk).length ≤ p + 1 ∧ (∀ e ∈ es, e.1.ok (setA (nameOf p) v dk) ∧ e.1.leafOk) ∧ BaseS H (setA (nameOf p) v dk) (σ.set H.D (.dict (setA (nameOf p) v dk))) ∧
    (σ.set H.D (.dict (setA (nameOf p) v dk))) rw = some (.list (rowsL.map V.int)) ∧ (σ.set H.D (.dict (setA (nameOf p) v dk))) sc = some (.list (ns.map V.int)) ∧ (σ.set H.D (.dict (setA (nameOf p) v dk))) S = some (.list (es.map entV)) := by
  have hn := x.new p (Nat.le_refl _) hp
  have hl := setA_len (nameOf p) v dk
  have hd := x.dkl
  have nl : ∀ b l, σ b = some (.list l) → b ≠ H.D := fun b l e => ne_cell e x.base.hD (by intro h; cases h)
  refine ⟨fun j h1 h2 => ?_, by lia, fun e he => ⟨Tr.ok_mono (getA_new hn) _ (x.ok e he).1, (x.ok e he).2⟩, x.base.deed x.nDC, (Store.set_ne _ _ (nl _ _ x.rows)).trans x.rows, (Store.set_ne _ _ (nl _ _ x.scr)).trans x.scr, (Store.set_ne _ _ (nl _ _ x.stk)).trans x.stk⟩
  rw [getA_setA, if_neg (nameOf_ne j h2 p hp (by lia))]
  exact x.new j (by lia) h2
theorem LI.leaf2 {H : HA} {rw sc S : Addr} {ns : List Int} {p : Nat} {es : List (Tr × Int × Int)} {dk : AL} {σ : Store} (x : LI H rw sc S ns p es dk σ) (hp : p < 25) {v : V} {t : Tr} {a b : Int} (h1 : t.ok (setA (nameOf p) v dk)) (h2 : t.leafOk) (h3 : t.sz = 1) : LI H rw sc S ns (p + 1) (es ++ [(t, a, b)]) (setA (nameOf p) v dk) ((σ.set H.D (.dict (setA (nameOf p) v dk))).set S (.list (es.map entV ++ [.tup [t.enc, .int a, .int b]]))) := by
  obtain ⟨g1, g2, g3, g4, g5, g6, g7⟩ := x.deed hp (v := v)
  refine ⟨g4.moved (.lst g7), x.nDC, (Store.set_ne _ _ x.nS1.symm).trans g5, (Store.set_ne _ _ x.nS2.symm).trans g6, by rw [List.map_append]; exact Store.set_self _ _ _, x.nS1, x.nS2, fun e he => ?_, ?_, g1, g2⟩
  · rcases List.mem_append.mp he with h | h
    · exact g3 e h
    · rw [List.mem_singleton] at h; subst h; exact ⟨h1, h2⟩
  · rw [szs_app, szs_one, h3]; have := x.sz; lia
/-- a node is pushed -/
theorem LI.node {H : HA} {rw sc S S2 : Addr} {ns : List Int} {p n : Nat} {es : List (Tr × Int × Int)} {dk : AL} {σ : Store} (x : LI H rw sc S ns p es dk σ) (h0 : σ S2 = some (.list ((es.take n).map entV))) (n1 : S2 ≠ rw) (n2 : S2 ≠ sc) {t : Tr} {a b : Int} (h1 : t.ok dk) (h2 : t.leafOk) (h3 : t.sz = sumSz ((es.drop n).map (·.1)) + 1) :
    LI H rw sc S2 ns (p + 1) (es.take n ++ [(t, a, b)]) dk (σ.set S2 (.list ((es.take n).map entV ++ [.tup [t.enc, .int a, .int b]]))) := by
  refine ⟨x.base.moved (.lst h0), x.nDC, (Store.set_ne _ _ n1.symm).trans x.rows, (Store.set_ne _ _ n2.symm).trans x.scr, by rw [List.map_append]; exact Store.set_self _ _ _, n1, n2, fun e he => ?_, ?_, fun j hj hj2 => x.new j (by lia) hj2, Nat.le_succ_of_le x.dkl⟩
  · rcases List.mem_append.mp he with h | h
    · exact x.ok e (List.mem_of_mem_take h)
    · rw [List.mem_singleton] at h; subst h; exact ⟨h1, h2⟩
  · rw [szs_app, szs_one, h3, ← szs_sum]
    have := szs_split n es
    have := x.sz
    lia
section
variable {B : Bs} {c : Cx} {env : Env} {N : List (Str × NameKind)} {l : List (Option V)} {σ : Store}
theorem Wx_cutI {e : Expr} {ρ : Loc} {Q : V → Store → Prop} {E : Addr → Store → Prop} (H : Wx B c env e ρ σ (fun v σ' => (∃ k, v = .int k) ∧ Keep [] σ σ') (fun _ _ => False)) (h : ∀ k σ', Keep [] σ σ' → Q (.int k) σ') : Wx B c env e ρ σ Q E :=
  WE.mono H (fun v σ' ⟨⟨k, e⟩, hk⟩ => by subst e; exact h k σ' hk) fun _ _ x => x.elim
theorem Wx_cut {e : Expr} {ρ : Loc} {Q : V → Store → Prop} {E : Addr → Store → Prop} (P : V → Store → Prop) (H : Wx B c env e ρ σ P (fun _ _ => False)) (h : ∀ v σ', P v σ' → Q v σ') : Wx B c env e ρ σ Q E := WE.mono H h fun _ _ x => x.elim
theorem Wt_cutP {e : Expr} {ρ : Loc} {Q : Bool → Store → Prop} {E : Addr → Store → Prop} (P : Bool → Store → Prop) (H : Wt B c env e ρ σ P (fun _ _ => False)) (h : ∀ v σ', P v σ' → Q v σ') : Wt B c env e ρ σ Q E := WE.mono H h fun _ _ x => x.elim
theorem elt_ent {cenv : Env} (ok : EnvOK cenv) (hk : cenv.kindOf "entry" = some .local) {p1 p2 pos : Pos} {kk : Nat} {j : Int} {i : Nat} {e : Tr × Int × Int} {u : V} (hi : seqIndex? j 3 = some i) (hu : ([e.1.enc, .int e.2.1, .int e.2.2] : List V)[i]? = some u) (hlo : -(2 ^ 63) ≤ j) (hhi : j < 2 ^ 63) {P : V → Store → Prop} (h : P u σ) :
    Wx B c cenv (.Subscript (.Name "entry" p1) (.Constant (.int j) kk p2) pos) [("entry", some (entV e))] σ P (fun _ _ => False) := by
  refine Wx_Sub (Wx_local (v := entV e) (by unfold getL; rw [if_pos rfl]) ?_ ok.kind hk (by decide))
  refine Wx_int ?_
  exact G_tup rfl hi hu hlo hhi h
theorem compL_ent {cenv : Env} (ok : EnvOK cenv) (hk : cenv.kindOf "entry" = some .local) {p1 p2 pos : Pos} {kk : Nat} {j : Int} {i : Nat} {f : Tr × Int × Int → V} (hi : seqIndex? j 3 = some i) (hf : ∀ e : Tr × Int × Int, ([e.1.enc, .int e.2.1, .int e.2.2] : List V)[i]? = some (f e)) (hlo : -(2 ^ 63) ≤ j) (hhi : j < 2 ^ 63) {D M : Addr} {L : List V} (hMD : M ≠ D) {Q : List V → Store → Prop} : ∀ {es : List (Tr × Int × Int)} {acc : List V} {σ : Store}, acc.length + es.length ≤ 100 → σ D = some (.list acc) → σ M = some (.list L) →
    (∀ σ', Keep [D] σ σ' → σ' D = some (.list (acc ++ es.map f)) → Q (acc ++ es.map f) σ') → CompL B c cenv (.Subscript (.Name "entry" p1) (.Constant (.int j) kk p2) pos) "entry" D (fun σ' => σ' M = some (.list L)) Q (es.map entV) acc σ := by
  intro es
  induction es with
  | nil =>
    intro acc σ _ hD hM h
    have := h σ (Keep.refl _ _) (by rw [List.map_nil, List.append_nil]; exact hD)
    rw [List.map_nil, List.append_nil] at this
    exact ⟨hM, hD, this⟩
  | cons e r ih =>
    intro acc σ hl hD hM h
    rw [List.length_cons] at hl
    refine ⟨hM, elt_ent ok hk hi (hf e) hlo hhi ⟨hD, ?_, ?_⟩⟩
    · unfold sizeLine; lia
    · refine ih (by rw [List.length_append, List.length_cons, List.length_nil]; lia) (Store.set_self _ _ _) ((Store.set_ne _ _ hMD).trans hM) fun σ' k' h' => ?_
      have := h σ' (Keep.trans (Keep.old (Keep.refl _ _) (by simp)) k') (by rw [List.append_assoc] at h'; exact h')
      rw [List.append_assoc]
      exact this
theorem W_comp_ent {x : Str} (hx : x = "entry") {p1 p2 pos px cpos : Pos} {kk : Nat} {j : Int} {i : Nat} {f : Tr × Int × Int → V} {scope : Scope} {iter : Expr} (S : CompS scope x) (F : EnvS c env N) (hh : c.hd = none) (hset : ∀ x, foldedSetIterable iter env x = pure x) (hi : seqIndex? j 3 = some i) (hf : ∀ e : Tr × Int × Int, ([e.1.enc, .int e.2.1, .int e.2.2] : List V)[i]? = some (f e)) (hlo : -(2 ^ 63) ≤ j) (hhi : j < 2 ^ 63)
    {M : Addr} {es : List (Tr × Int × Int)} (hM : σ M = some (.list (es.map entV))) (hlen : es.length ≤ 100) (ha : ∀ {P : V → Store → Prop} {E : Addr → Store → Prop}, P (.ref M) σ → Wx B c env iter (zs N l) σ P E) {Q : V → Store → Prop} {E : Addr → Store → Prop} (h : ∀ D σ', σ D = none → Keep [] σ σ' → σ' D = some (.list (es.map f)) → Q (.ref D) σ') :
    Wx B c env (.ListComp (.Subscript (.Name x p1) (.Constant (.int j) kk p2) pos) [⟨.Name x px, iter, [], 0⟩] scope cpos) (zs N l) σ Q E := by
  subst hx
  refine Wx_Comp S F.ok hh hset (ha ?_)
  refine ⟨_, _, .list hM, fun D C hD => compL_ent (compEnv_ok F.ok S.kind) S.loc hi hf hlo hhi (ne_some' hM hD) (by simpa using hlen) (Store.set_self _ _ _) ((Store.set_ne _ _ (ne_some' hM hD)).trans hM) fun σ' k h' => ?_⟩
  refine h D σ' hD (fun b hb _ => ?_) h'
  have hbD : b ≠ D := fun e => hb (by rw [e]; exact hD)
  rw [k b (by rw [Store.set_ne _ _ hbD]; exact hb) (by simpa using hbD), Store.set_ne _ _ hbD]
end
end
section
theorem m29a {n : Nat} {k : Int} (h : 0 ≤ k) (hc : k ≤ n) : ((n : Int) - k).toNat = n - k.toNat := by
  obtain ⟨j, rfl⟩ := Int.eq_ofNat_of_zero_le h
  exact Int.toNat_sub n j
theorem m29c {n : Nat} {k : Int} (h : k ≤ 3) : n - (n - k.toNat) ≤ 100 := by
  refine Nat.le_trans ?_ (Nat.le_trans (Int.toNat_le.mpr h : k.toNat ≤ 3) (by decide))
  rcases Nat.le_total k.toNat n with q | q
  · rw [Nat.sub_sub_self q]; exact Nat.le_refl _
  · rw [Nat.sub_eq_zero_of_le q]; exact q
theorem m29d {n : Nat} {k : Int} (h : 0 ≤ k) (hc : k ≤ n) : ((n - (n - k.toNat) : Nat) : Int) = k := by
  obtain ⟨j, rfl⟩ := Int.eq_ofNat_of_zero_le h
  show ((n - (n - j) : Nat) : Int) = j
  rw [Nat.sub_sub_self (Int.ofNat_le.mp hc)]
theorem m29e {n : Nat} {k : Int} (h : 1 ≤ n) (e : (n : Int) = k) : 1 ≤ k := by rw [← e]; exact Int.ofNat_le.mpr h
theorem m29f {n p : Nat} (h : n ≤ p) (hp : p < 25) : n ≤ sizeLine := Nat.le_trans h (Nat.le_trans (Nat.le_of_lt hp) (by decide))
theorem m29g {n p : Nat} (h : n ≤ p) (hp : p < 25) : n < 2 ^ 62 := Nat.lt_of_le_of_lt h (Nat.lt_trans hp (by decide))
theorem rmL {c' : Cx} {n x k m : Nat} (h : c'.dep = n) (h2 : x ≤ k) (r : Nat.ble (n + (k + m)) 990 = true) : c'.dep + (x + m) ≤ 990 := by
  rw [h]
  exact Nat.le_trans (Nat.add_le_add_left (Nat.add_le_add_right h2 m) n) (Nat.le_of_ble_eq_true r)
theorem rmL0 {c' : Cx} {n x k : Nat} (h : c'.dep = n) (h2 : x ≤ k) (r : Nat.ble (n + k) 990 = true) : c'.dep + x ≤ 990 := rmL (m := 0) h h2 r
theorem two_tools {σ : Store} {T D : Addr} {c0 d0 d1 d2 : Cell} (hT : σ T = some c0) (hD : σ D = none) : (((σ.set T d1).set D d0).set T d2) T = some d2 ∧ (((σ.set T d1).set D d0).set T d2) D = some d0 ∧ ∀ b cc, σ b = some cc → b ≠ T → (((σ.set T d1).set D d0).set T d2) b = some cc := by
  have n := ne_some' hT hD
  refine ⟨Store.set_self _ _ _, (Store.set_ne _ _ n.symm).trans (Store.set_self _ _ _), fun b cc e h => ?_⟩
  rw [Store.set_ne _ _ h, Store.set_ne _ _ (ne_some' e hD), Store.set_ne _ _ h]; exact e
theorem countUp_cons {v : V} {items : List V} {p : Nat} (h : v :: items = countUp (p : Int) (25 - p)) (hp : p ≤ 25) : p < 25 ∧ v = .int p ∧ items = countUp ((p + 1 : Nat) : Int) (25 - (p + 1)) := by
  obtain ⟨m, hm⟩ : ∃ m, 25 - p = m := ⟨_, rfl⟩
  rw [hm] at h
  cases m with
  | zero => cases h
  | succ m =>
    have e : 25 - (p + 1) = m := by rw [Nat.sub_succ, hm]; rfl
    rw [e]
    cases h
    exact ⟨Nat.lt_of_sub_pos (by rw [hm]; exact Nat.succ_pos m), rfl, by rw [Int.natCast_add]; rfl⟩
theorem countUp_nil {p : Nat} (h : [] = countUp (p : Int) (25 - p)) (hp : p ≤ 25) : p = 25 := by
  obtain ⟨m, hm⟩ : ∃ m, 25 - p = m := ⟨_, rfl⟩
  rw [hm] at h
  cases m with
  | zero => exact Nat.le_antisymm hp (Nat.le_of_sub_eq_zero hm)
  | succ m => cases h
/-- the frame and the stack between two draws -/
inductive PI (H : HA) (rw sc : Addr) (ns : List Int) (items : List V) (l : List (Option V)) (σ : Store) : Prop
  | intro (p : Nat) (S : Addr) (es : List (Tr × Int × Int)) (dk : AL) (o1 o2 o3 o4 o5 o6 o7 o8 o9 o10 : Option V) : p ≤ 25 → items = countUp (p : Int) (25 - p) → l = [some (.ref sc), some (.ref rw), some (.ref H.h), some (.ref S), o1, o2, o3, o4, o5, o6, o7, o8, o9, o10, none, none, none, none, none, none, none, none, none, none, none, none, none, none, none] → LI H rw sc S ns p es dk σ → PI H rw sc ns items l σ
theorem PI.mk {H : HA} {rw sc S : Addr} {ns : List Int} {p : Nat} {es : List (Tr × Int × Int)} {dk : AL} {σ : Store} {N : List (Str × NameKind)} {o1 o2 o3 o4 o5 o6 o7 o8 o9 o10 : Option V} (hp : p ≤ 25) (L : LI H rw sc S ns p es dk σ) :
    KF N (PI H rw sc ns) (countUp (p : Int) (25 - p)) (zs N [some (.ref sc), some (.ref rw), some (.ref H.h), some (.ref S), o1, o2, o3, o4, o5, o6, o7, o8, o9, o10, none, none, none, none, none, none, none, none, none, none, none, none, none, none, none]) σ := ⟨_, rfl, p, S, es, dk, o1, o2, o3, o4, o5, o6, o7, o8, o9, o10, hp, rfl, rfl, L⟩
theorem strs_same {σ : Store} {n : Nat} : ∀ {l : List V}, (∀ x ∈ l, ∃ s, x = V.str s) → SameDs σ n l l
  | [], _ => .nil
  | x :: r, h => by
    obtain ⟨s, rfl⟩ := h x (List.mem_cons_self ..)
    exact .cons (.str s) (strs_same fun y hy => h y (List.mem_cons_of_mem _ hy))
theorem due_same {σ : Store} {o : Out} (h : EcOk o) (hn : o ≠ .over) {L1 L2 : Addr} {ts : List Str} (h1 : σ L1 = some (.list (ts.map V.str))) (h2 : σ L2 = some (.list (ts.map V.str))) : SameD σ 5 (.tup [dueV o, .ref L2, .int 0]) (.tup [dueV o, .ref L1, .int 0]) := by
  have hs : SameDs σ 3 (ts.map V.str) (ts.map V.str) := strs_same fun x hx => by
    obtain ⟨s, _, rfl⟩ := List.mem_map.mp hx; exact ⟨s, rfl⟩
  refine .tup (.cons ?_ (.cons (.list h2 h1 hs) (.cons (.int 0) .nil)))
  cases o with
  | val x => exact .tup (.cons (.str _) (.cons (.str x) .nil))
  | err c v ec lv => exact .tup (.cons (.int c) (.cons (.str v) (.cons (.tup (strs_same h)) (.cons (.int lv) .nil))))
  | over => exact absurd rfl hn
/-- the frame between two of the law's trees -/
inductive QI (H : HA) (rw sc S : Addr) (es : List (Tr × Int × Int)) (dk : AL) (items : List V) (l : List (Option V)) (σ : Store) : Prop
  | intro (rest : List (Tr × Int × Int)) (o1 o2 o3 o4 o5 o6 o7 o8 o9 o10 : Option V) : items = rest.map entV → (∀ e ∈ rest, e ∈ es) → l = [some (.ref sc), some (.ref rw), some (.ref H.h), some (.ref S), o1, o2, o3, o4, o5, o6, o7, o8, o9, o10, none, none, none, none, none, none, none, none, none, none, none, none, none, none, none] → BaseS H dk σ → σ S = some (.list (es.map entV)) → QI H rw sc S es dk items l σ
theorem QI.mk {H : HA} {rw sc S : Addr} {es rest : List (Tr × Int × Int)} {dk : AL} {σ : Store} {N : List (Str × NameKind)} {o1 o2 o3 o4 o5 o6 o7 o8 o9 o10 : Option V} (h : ∀ e ∈ rest, e ∈ es) (b : BaseS H dk σ) (hS : σ S = some (.list (es.map entV))) :
    KF N (QI H rw sc S es dk) (rest.map entV) (zs N [some (.ref sc), some (.ref rw), some (.ref H.h), some (.ref S), o1, o2, o3, o4, o5, o6, o7, o8, o9, o10, none, none, none, none, none, none, none, none, none, none, none, none, none, none, none]) σ := ⟨_, rfl, rest, o1, o2, o3, o4, o5, o6, o7, o8, o9, o10, rfl, h, rfl, b, hS⟩
local macro_rules
  | `(tactic| k_qdec) => `(tactic| decide +kernel)
theorem fin : PySem.Challenge.rw_oj0077_01.Holds := by
  refine (fun H => hd (by
    k_go0
    refine law_top2 (fun w => hd.heap_1 w.params) (by assumption) (by assumption) (by assumption) (by assumption) (by assumption) (by assumption) (by decide +kernel) rfl H ?_
    intro s' k1 k2 k3
    show GoodW _ _ _ _ _ (.ok (.ret (.bool true))) _
    refine ⟨.inl ⟨.bool true, .bool true, [], rfl, raisesW_false ?_, .bool true, ?_, unshared_nil⟩, k1, k3, k2.trans (by assumption)⟩
    · wrow_none_raised
    · wrow_post)) ?_
  intro w B env c' a vs ns hK hl0 hi0 hz0 hn0 F hh hd' hu'
  dsimp only at F ⊢
  end_is "sh"
  end_is "g1@29"
  refine G_h0_slice rfl hl0 hi0 (Int.ofNat_le.mpr hz0) (by decide) fun sc hsc => ?_
  end_is "g1@29"
  refine rows_k (by assumption) (by end_is "l@29") fun rw σ₁ hr1 k1 hr2 => ?_
  have hs1 := k1.at (Store.set_self _ sc (.list (ns.map V.int))) (by simp)
  end_is "g1@29"
  refine host_make (by assumption) (by end_is "l@29") fun x d T I VB CB FB σ₂ k2 hne e1 e2 e3 e4 e5 e6 e7 => ?_
  have hs2 := k2.at hs1 (by simp)
  have hr3 := k2.at hr2 (by simp)
  obtain ⟨z1, z2, z3, z4, z5, z6, z7⟩ := hne
  end_is "g1@29"
  intro D hD
  obtain ⟨nDT, hD'⟩ := set_none hD
  have mx : x ≠ T := ne_cell e1 e3 (by intro h; cases h)
  have md : d ≠ T := ne_cell e2 e3 (by intro h; cases h)
  have nx := ne_some' e1 hD'
  have nd := ne_some' e2 hD'
  have nV := ne_some' e5 hD'
  have nC := ne_some' e6 hD'
  end_is "g1@29"
  obtain ⟨t1, t2, t3⟩ := two_tools (d0 := .dict []) (d1 := .dict (setA "run" (.ref 742) [])) (d2 := .dict (setA "deeds" (.ref D) (setA "run" (.ref 742) []))) e3 hD'
  revert t1 t2 t3
  refine opq (((σ₂.set T (.dict (setA "run" (.ref 742) []))).set D (.dict [])).set T (.dict (setA "deeds" (.ref D) (setA "run" (.ref 742) [])))) fun σ₃ => ?_
  intro t1 t2 t3
  have t1 : σ₃ T = some (.dict [("run", .ref 742), ("deeds", .ref D)]) := t1
  have q1 := t3 _ _ e1 mx
  have q2 := t3 _ _ e2 md
  have q4 := t3 _ _ e4 z6.symm
  have q5 := t3 _ _ e5 z1.symm
  have q6 := t3 _ _ e6 z2.symm
  have q7 := t3 _ _ e7 z7.symm
  have q8 := t3 _ _ hs2 (ne_cell hs2 e3 (by intro h; cases h))
  have q9 := t3 _ _ hr3 (ne_cell hr3 e3 (by intro h; cases h))
  clear t3 e1 e2 e3 e4 e5 e6 e7 hs2 hr3 k2 hs1 hr2 k1 hr1 mx md nx nd hD
  refine put_k (by assumption) (by end_is "l@29") q1 q2 q4 q6 q7 ?_
  have u : ∀ b cc, σ₃ b = some cc → b ≠ CB → (σ₃.set CB (.dict [("tcl::mathfunc::twice", .tup [.ref 749, .none])])) b = some cc := fun b cc e h => (Store.set_ne _ _ h).trans e
  have uC : (σ₃.set CB (.dict [("tcl::mathfunc::twice", .tup [.ref 749, .none])])) CB = some (.dict [("tcl::mathfunc::twice", .tup [.ref 749, .none])]) := Store.set_self _ _ _
  revert u uC
  refine opq (σ₃.set CB (.dict [("tcl::mathfunc::twice", .tup [.ref 749, .none])])) fun σ₄ => ?_
  intro u uC
  have v1 := u _ _ q1 (ne_cell q1 q6 (by intro h; cases h))
  have v2 := u _ _ q2 (ne_cell q2 q6 (by intro h; cases h))
  have v3 := u _ _ t1 z2
  have v4 := u _ _ t2 nC.symm
  have v5 := u _ _ q5 z3
  have v8 := u _ _ q8 (ne_cell q8 q6 (by intro h; cases h))
  have v9 := u _ _ q9 (ne_cell q9 q6 (by intro h; cases h))
  clear u q1 q2 q4 q5 q6 q7 q8 q9 t1 t2
  end_is "g1@29"
  refine write_k (by assumption) (by end_is "l@29") v1 v2 v5 fun y dv t σ₅ k5 w1 w2 w3 => ?_
  have base : BaseS ⟨x, d, T, I, VB, CB, FB, y, dv, t, D, 0⟩ [] σ₅ :=
    ⟨k5.at v1 (by simpa using ne_cell v1 v5 (by intro h; cases h)), ⟨0, k5.at v2 (by simpa using ne_cell v2 v5 (by intro h; cases h))⟩, ⟨[], k5.at v3 (by simpa using z1), .inl rfl⟩, k5.at v4 (by simpa using nV.symm), ⟨[], w1, .inl rfl⟩, k5.at uC (by simpa using z3.symm), w2, w3, z1, nV.symm, z3.symm, nDT, z2.symm⟩
  have r1 := k5.at v8 (by simpa using ne_cell v8 v5 (by intro h; cases h))
  have r2 := k5.at v9 (by simpa using ne_cell v9 v5 (by intro h; cases h))
  end_is "g1@29"
  intro S hS
  have nS1 := ne_some' r1 hS
  have nS2 := ne_some' r2 hS
  have L : LI ⟨x, d, T, I, VB, CB, FB, y, dv, t, D, 0⟩ rw sc S ns 0 [] [] (σ₅.set S (.list [])) :=
    ⟨base.moved (.new hS), nC.symm, (Store.set_ne _ _ nS2).trans r2, (Store.set_ne _ _ nS1).trans r1, Store.set_self _ _ _, nS2.symm, nS1.symm, (fun _ h => by cases h), Nat.le_refl _, (fun _ _ _ => rfl), Nat.le_refl _⟩
  revert L
  refine opqE ((⟨x, d, T, I, VB, CB, FB, y, dv, t, D, 0⟩ : HA)) fun H hH => ?_
  intro L
  have hx : x = H.h := by rw [← hH]
  rw [hx]
  revert L
  refine opq (σ₅.set S (.list [])) fun σ₆ => ?_
  intro L
  clear base r1 r2 nS1 nS2 hS k5 w1 w2 w3 v1 v2 v3 v4 v5 v8 v9 uC hH hx z1 z2 z3 z4 z5 z6 z7 nDT nV nC hD' hsc hl0 hi0 hz0
  end_is "g1@29"
  refine S_for F hh ?_ rfl (fun _ => rfl)
  end_is "g1@29"
  refine F_len_list L.rows (by decide) ?_
  end_is "g1@29"
  refine F_range ?_
  refine ⟨_, _, .range (n := 25) (by decide) (by decide), ?_⟩
  refine forI (I := PI H rw sc ns) ?_ ?_ ⟨0, S, [], [], none, none, none, none, none, none, none, none, none, none, by decide, rfl, rfl, L⟩
  · clear L
    rintro l σ ⟨p, S, es, dk, o1, o2, o3, o4, o5, o6, o7, o8, o9, o10, hp, hi, rfl, L⟩
    refine ⟨trivial, ?_⟩
    obtain rfl := countUp_nil hi hp
    have hstk := L.stk
    end_is "g2@29"
    refine Ws_for_listT F.ok F.fr hh (fun _ => rfl) ?_
    end_is "g2@29"
    refine ⟨S, es.map entV, rfl, hstk, fun x hx => ?_, ?_⟩
    · obtain ⟨e, _, rfl⟩ := List.mem_map.mp hx
      exact ⟨_, rfl⟩
    refine forI (I := QI H rw sc S es dk) ?_ ?_ ⟨es, o1, o2, o3, o4, o5, o6, o7, o8, o9, o10, rfl, (fun _ h => h), rfl, L.base, hstk⟩
    · rintro l σ ⟨rest, o1, o2, o3, o4, o5, o6, o7, o8, o9, o10, hi, hr, rfl, b, hS⟩
      refine ⟨hS, ?_⟩
      end_is "g2@29"
      rfl
    · have lok := L.ok
      have lsz := L.sz
      clear L hstk
      rintro v items l σ ⟨rest, o1, o2, o3, o4, o5, o6, o7, o8, o9, o10, hi, hr, rfl, b, hS⟩
      cases rest with
      | nil => cases hi
      | cons e rest =>
      rw [List.map_cons] at hi
      cases hi
      refine ⟨hS, ?_⟩
      have he := hr e (List.mem_cons_self ..)
      have ok := lok e he
      have hsz := szs_mem he
      obtain ⟨⟨f1, f2⟩, f3, f4, f5, f6, f7⟩ := tree_fine ok.1 ok.2 (Nat.le_trans hsz lsz)
      have hd := b.hd
      unfold entV
      refine T_tup (l' := ?lr) F (.name (.name (.name .nil))) ?ar rfl rfl ?_
      case ar => end_is "nas"
      end_is "g2@29"
      refine told_k (t := e.1) (by assumption) hh (by end_is "l@29") b ok.1 f1 f2 fun L1 σ₁ b1 k1 hn1 hL1 => ?_
      have nlx : ∀ {σ : Store} (b : BaseS H dk σ) {S : Addr} {l : List V}, σ S = some (.list l) → S ∉ [H.d, H.VB, H.T] := fun {σ} b {S l} hS => by
        obtain ⟨_, x2⟩ := b.hd
        obtain ⟨_, x3, _⟩ := b.hT
        obtain ⟨_, x4, _⟩ := b.hV
        simp only [List.mem_cons, List.not_mem_nil, or_false, not_or]
        exact ⟨ne_cell hS x2 (by intro h; cases h), ne_cell hS x4 (by intro h; cases h), ne_cell hS x3 (by intro h; cases h)⟩
      have hS1 := k1.at hS (nlx b hS)
      clear hS b k1 hn1 hd
      end_is "g2@29"
      refine Ws_if (Wt_cutP (fun b σ' => b = false ∧ BaseS H dk σ' ∧ σ' S = some (.list (es.map entV))) ?_ ?_)
      · end_is "g1@29"
        refine ⟨fun _ => ?_, fun h => absurd h (by decide)⟩
        end_is "g1@29"
        refine turned_k e.1 ok.1 (by assumption) hh (by end_is "l@29") fun σ₂ k2 => ?_
        have b2 := b1.moved (.keep k2)
        have hS2 := k2.at hS1 (by simp)
        have hL2 := k2.at hL1 (by simp)
        have f2' : (ev (turn e.1)).2 ≠ .over := by rw [f3]; exact f2
        end_is "g1@29"
        refine told_k (t := turn e.1) (by assumption) hh (by end_is "l@29") b2 f4 (by rw [f3]; exact f1) f2' fun L3 σ₃ b3 k3 hn3 hL3 => ?_
        have hS3 := k3.at hS2 (nlx b2 hS2)
        have hL4 := k3.at hL2 (nlx b2 hL2)
        end_is "g1@29"
        rw [f3] at hL3 ⊢
        refine O_neSame (n := 4) (due_same (ev_ec _) f2 hL4 hL3) (by rw [hu']; decide) ?_
        end_is "g1@29"
        exact ⟨rfl, b3, hS3⟩
      · rintro b σ' ⟨rfl, b4, hS4⟩
        refine ⟨(fun e => by cases e), fun _ => ?_⟩
        end_is "g1@29"
        exact QI.mk (fun x hx => hr x (List.mem_cons_of_mem _ hx)) b4 hS4
  · clear L
    rintro v items l σ ⟨p, S, es, dk, o1, o2, o3, o4, o5, o6, o7, o8, o9, o10, hp, hi, rfl, L⟩
    obtain ⟨hp, rfl, rfl⟩ := countUp_cons hi hp
    refine ⟨trivial, ?_⟩
    refine T_name (l' := ?lq) F ?aq ?_
    case aq => end_is "np@29"
    have hlog : (p : Int).natAbs.log2 < 1920 := by
      have : (p : Int).natAbs = p := rfl
      rw [this]
      exact Nat.lt_of_le_of_lt (Nat.log2_le_self _) (Nat.lt_trans hp (by decide))
    have hel := L.len
    have hz : (es.map entV).length ≤ sizeLine := by rw [List.length_map]; exact m29f hel hp
    have hz2 : (es.map entV).length < 2 ^ 62 := by rw [List.length_map]; exact m29g hel hp
    end_is "g2@29"
    obtain ⟨r, _, hr⟩ := pickV V.int rowsL (p : Int) (Int.natCast_nonneg p) (Int.ofNat_lt.mpr hp)
    refine G_list rfl L.rows (Int.natCast_nonneg p) hr (p63 hp) ?_
    refine Wx_cutI ?_ fun δ σ₁ k1 => ?_
    · end_is "g1@29"
      refine F_len_list L.scr (by rw [List.length_map]; exact Nat.lt_of_le_of_lt hn0 (by decide)) ?_
      end_is "g1@29"
      end_is "if"
      · rename_i hc
        end_is "g1@29"
        rw [List.length_map] at hc
        obtain ⟨δ, _, hδ⟩ := pickV V.int ns (p : Int) (by omega) hc
        refine G_list rfl L.scr (Int.natCast_nonneg p) hδ (p63 hp) ?_
        exact ⟨⟨_, rfl⟩, Keep.refl _ _⟩
      · end_is "g1@29"
        exact ⟨⟨_, rfl⟩, Keep.refl _ _⟩
    have L1 := L.keep k1
    clear L k1 hr
    end_is "g2@29"
    refine S_swap2 F hh ?kk1 ?kk2 ?_ rfl (by decide) rfl rfl rfl (by with_unfolding_all rfl)
    case kk1 => end_is "na@29"
    case kk2 => end_is "na@29"
    end_is "g2@29"
    refine swp (l1 := ?lq1) (l2 := ?lq2) ?np1 ?np2 ?_
    case np1 => end_is "np@29"
    case np2 => end_is "np@29"
    have hk := fm (r + δ) (b := 8) (by decide)
    revert hk
    refine opq ((r + δ).fmod 8) fun kind => ?_
    intro hk
    refine opq ((r + δ).fdiv 8) fun q => ?_
    end_is "g2@29"
    refine many_k (by assumption) (by end_is "l@29") fun σ₂ k2 => ?_
    have L2 := L1.keep k2
    clear L1 k2
    have m0 := manyOf_ge (kind := kind) (q := q)
    have m3 := manyOf_le (kind := kind) (q := q)
    have mP : 1 ≤ manyOf kind q → 3 ≤ kind := fun h => by
      by_cases z : kind < 3
      · unfold manyOf at h; rw [if_pos z] at h; exact absurd h (by decide)
      · exact Int.not_lt.mp z
    end_is "g2@29"
    refine Wx_cut (fun v σ' => ∃ M es', v = .ref M ∧ σ₂ M = none ∧ σ' = σ₂.set M (.list (es'.map entV)) ∧ (es' = [] ∨ (manyOf kind q ≤ es.length ∧ es' = es.drop (es.length - (manyOf kind q).toNat)))) ?_ ?_
    · revert m0 m3 mP
      refine opq (manyOf kind q) fun many => ?_
      intro m0 m3 mP
      end_is "g1@29"
      refine F_len_list L2.stk hz2 ?_
      end_is "g1@29"
      end_is "if"
      · rename_i hc
        rw [List.length_map] at hc
        end_is "g1@29"
        refine F_len_list L2.stk hz2 ?_
        end_is "g1@29"
        refine G_list_from rfl L2.stk hz (by rw [List.length_map]; exact Int.sub_nonneg_of_le hc) fun b hb => ?_
        refine ⟨b, _, rfl, hb, ?_, .inr ⟨hc, rfl⟩⟩
        rw [List.map_drop, List.length_map, show ((es.length : Int) - many).toNat = es.length - many.toNat from m29a m0 hc]
      · end_is "g1@29"
        intro b hb
        exact ⟨b, [], rfl, hb, rfl, .inl rfl⟩
    rintro v σ₃ ⟨M, es', rfl, hM0, rfl, he⟩
    have nSM := ne_some' L2.stk hM0
    have L3 := L2.keep (Keep.new (cc := .list (es'.map entV)) (Keep.refl _ _) hM0)
    have hM : (σ₂.set M (.list (es'.map entV))) M = some (.list (es'.map entV)) := Store.set_self _ _ _
    revert L3 hM
    refine opq (σ₂.set M (.list (es'.map entV))) fun σ₃ => ?_
    intro L3 hM
    clear L2 hM0
    have he3 : es'.length ≤ 100 := by
      rcases he with h | ⟨_, h⟩ <;> rw [h]
      · exact Nat.zero_le _
      · rw [List.length_drop]; exact m29c m3
    end_is "g2@29"
    refine W_comp_ent rfl ⟨by decide, by decide, rfl, by decide, by rfl⟩ F hh (fun _ => rfl) (i := 1) (f := fun e => .int e.2.1) (by rfl) (fun _ => rfl) (by decide) (by decide) hM he3 (fun h => N_loc F (by end_is "na@29") h) fun D σ₄ hD k4 hD4 => ?_
    have hD5 : σ₄ D = some (.list ((es'.map fun e => e.2.1).map V.int)) := by rw [List.map_map]; exact hD4
    end_is "g2@29"
    refine F_sum hh hD5 fun n1 => ?_
    end_is "g2@29"
    have L4 := L3.keep k4
    have hM4 := k4.at hM (by simp)
    refine Wx_cutI ?_ fun n2 σ₅ k5 => ?_
    · end_is "g1@29"
      refine is_choice_k (by assumption) (by end_is "l@29") fun b => ?_
      end_is "g1@29"
      end_is "if"
      · end_is "g1@29"; exact ⟨⟨_, rfl⟩, Keep.refl _ _⟩
      · end_is "g1@29"; exact ⟨⟨_, rfl⟩, Keep.refl _ _⟩
    have L5 := L4.keep k5
    have hM5 := k5.at hM4 (by simp)
    clear L3 L4 hM hM4 hD hD4 hD5 k4 k5
    end_is "g2@29"
    refine opq (n1 + n2) fun choices => ?_
    intro Z hZ
    have L6 := L5.keep (Keep.new (cc := .list [.int 0]) (Keep.refl _ _) hZ)
    have hM6 : (σ₅.set Z (.list [.int 0])) M = _ := (Store.set_ne _ _ (ne_some' hM5 hZ)).trans hM5
    have hZ6 : (σ₅.set Z (.list [.int 0])) Z = _ := Store.set_self _ _ _
    revert L6 hM6 hZ6
    refine opq (σ₅.set Z (.list [.int 0])) fun σ₆ => ?_
    intro L6 hM6 hZ6
    refine W_comp_ent rfl ⟨by decide, by decide, rfl, by decide, by rfl⟩ F hh (fun _ => rfl) (i := 2) (f := fun e => .int e.2.2) (by rfl) (fun _ => rfl) (by decide) (by decide) hM6 he3 (fun h => N_loc F (by end_is "na@29") h) fun D2 σ₇ hD2 k7 hD7 => ?_
    have L7 := L6.keep k7
    have hM7 := k7.at hM6 (by simp)
    have hZ7 := k7.at hZ6 (by simp)
    clear L5 L6 hM5 hM6 hZ hZ6 hD2 k7
    refine O_addl hZ7 hD7 (by rw [List.length_map]; show 1 + es'.length ≤ sizeLine; unfold sizeLine; omega) fun D3 hD3 => ?_
    have L8 := L7.keep (Keep.new (cc := .list ([V.int 0] ++ es'.map fun e => .int e.2.2)) (Keep.refl _ _) hD3)
    have hM8 : (σ₇.set D3 (.list ([V.int 0] ++ es'.map fun e => .int e.2.2))) M = _ := (Store.set_ne _ _ (ne_some' hM7 hD3)).trans hM7
    have hX8 : (σ₇.set D3 (.list ([V.int 0] ++ es'.map fun e => .int e.2.2))) D3 = some (.list ((0 :: es'.map fun e => e.2.2).map V.int)) := by
      rw [Store.set_self, List.map_cons, List.map_map]; rfl
    generalize σ₇.set D3 (.list ([V.int 0] ++ es'.map fun e => .int e.2.2)) = σ₈ at L8 hM8 hX8 ⊢
    end_is "g2@29"
    refine F_maxAny hh hX8 (by simp) fun n3 => ?_
    clear L7 hM7 hZ7 hD7 hD3 hX8
    end_is "g2@29"
    refine opq (1 + n3) fun high => ?_
    refine Ws_if (Wt_cutP (fun b σ' => Keep [] σ₈ σ' ∧ (b = false → es' ≠ [])) ?_ ?_)
    · end_is "g1@29"
      intro Z2 hZ2
      end_is "g1@29"
      refine O_eqNil (l := es'.map entV) ((Store.set_ne _ _ (ne_some' hM8 hZ2)).trans hM8) (Store.set_self _ _ _) (by rw [hu']; decide) ?_
      end_is "g1@29"
      refine ⟨fun hb => ?_, fun hb => ?_⟩
      · have hne : es' ≠ [] := by intro e; rw [e] at hb; cases hb
        end_is "go@29"
        all_goals exact ⟨Keep.new (Keep.refl _ _) hZ2, fun _ => hne⟩
      · exact ⟨Keep.new (Keep.refl _ _) hZ2, fun e => by cases e⟩
    · rintro b σ₉ ⟨k9, hb⟩
      have L9 := L8.keep k9
      have hM9 := k9.at hM8 (by simp)
      clear L8 hM8 k9
      have hstk := L9.stk
      refine ⟨fun e => ?_, fun e => ?_⟩
      · have hln := nameOf_ln p hp
        have nSD : S ≠ H.D := ne_cell hstk L9.base.hD (by intro h; cases h)
        end_is "g2@29"
        refine O_adds (Nat.le_trans (Nat.add_le_add (show ("s" : Str).length ≤ 1 by decide +kernel) hln) (by decide)) ?_
        end_is "g2@29"
        refine leaf_k (name := nameOf p) (by assumption) (by end_is "l@29") L9.base (L9.new p (Nat.le_refl _) hp) (by have := L9.dkl; omega) (fun t h1 h2 h3 => ?_) (fun t v h1 h2 h3 => ?_)
        · end_is "g2@29"
          exact PI.mk hp (L9.leaf h1 h2 h3)
        · end_is "g2@29"
          exact PI.mk hp (L9.leaf2 hp h1 h2 h3)
      · have hne := hb e
        obtain ⟨hle, he⟩ := he.resolve_left hne
        have hl1 : 1 ≤ es'.length := by
          cases es' with
          | nil => exact absurd rfl hne
          | cons _ _ => rw [List.length_cons]; exact Nat.le_add_left 1 _
        have hln : ((es'.map (·.1)).length : Int) = manyOf kind q := by rw [List.length_map, he, List.length_drop]; exact m29d m0 hle
        have hmany : 1 ≤ manyOf kind q := by rw [List.length_map] at hln; exact m29e hl1 hln
        end_is "g2@29"
        refine F_len_list hstk hz2 ?_
        end_is "g2@29"
        refine G_list_upto rfl hstk hz (by rw [List.length_map]; exact Int.sub_nonneg_of_le hle) fun S2 hS2 => ?_
        rw [show (((es.map entV).length : Int) - manyOf kind q).toNat = es.length - (manyOf kind q).toNat by rw [List.length_map]; exact m29a m0 hle, ← List.map_take]
        revert he
        refine opq (es.length - (manyOf kind q).toNat) fun n => ?_
        intro he
        have L10 := L9.keep (Keep.new (cc := .list ((es.take n).map entV)) (Keep.refl _ _) hS2)
        have hM10 : (σ₉.set S2 (.list ((es.take n).map entV))) M = _ := (Store.set_ne _ _ (ne_some' hM9 hS2)).trans hM9
        have hS10 : (σ₉.set S2 (.list ((es.take n).map entV))) S2 = _ := Store.set_self _ _ _
        have n1 := (ne_some' L9.rows hS2).symm
        have n2 := (ne_some' L9.scr hS2).symm
        have hzt : ((es.take n).map entV).length ≤ sizeLine := by rw [List.length_map, List.length_take]; exact Nat.le_trans (Nat.min_le_right _ _) (m29f hel hp)
        revert L10 hM10 hS10
        refine opq (σ₉.set S2 (.list ((es.take n).map entV))) fun σ₁₀ => ?_
        intro L10 hM10 hS10
        clear L9 hM9 hstk hS2
        end_is "g2@29"
        refine W_comp_ent rfl ⟨by decide, by decide, rfl, by decide, by rfl⟩ F hh (fun _ => rfl) (i := 0) (f := fun e => e.1.enc) (by rfl) (fun _ => rfl) (by decide) (by decide) hM10 he3 (fun h => N_loc F (by end_is "na@29") h) fun D4 σ₁₁ hD4 k11 hD11 => ?_
        have L11 := L10.keep k11
        have hS11 := k11.at hS10 (by simp)
        have hD12 : σ₁₁ D4 = some (.list ((es'.map (·.1)).map Tr.enc)) := by rw [List.map_map]; exact hD11
        clear L10 hM10 hS10 k11 hD11 hD4
        end_is "g2@29"
        refine node_k (dk := dk) (ts := es'.map (·.1)) (by assumption) (by end_is "l@29") (mP hmany) hk.2 hln hD12 (fun t ht => ?_) fun t h1 h2 h3 => ?_
        · obtain ⟨e, h1, rfl⟩ := List.mem_map.mp ht
          rw [he] at h1
          exact L11.ok e (List.mem_of_mem_drop h1)
        · end_is "g2@29"
          exact PI.mk hp (L11.node hS11 n1 n2 h1 h2 (by rw [h3, he]))
end
end
end
end
end Mine.Internal
theorem PySem.Challenge.cw_oj0077_01_holds : PySem.Challenge.rw_oj0077_01.Holds :=
  Mine.Internal.fin
