import PyProof.Rows.All
import Wide.All
import OpenK.AllK
import Wide.FinOn
import Open.Tops
import PySem.Challenge.RW_og0151_01
open PySem PySem.W PyProof.Rows PySem.Calls
set_option Elab.async false
set_option linter.unusedVariables false
set_option maxRecDepth 100000
set_option maxHeartbeats 8000000
namespace Mine
open_shared top for PySem.Challenge.pw_og0151_01 leaving 0
noncomputable def view : Program := PySem.W.view PySem.Challenge.pw_og0151_01 [0, 2, 4, 5, 6, 7, 8, 9, 11, 12, 14, 15, 16, 17, 18, 19, 21, 22, 23, 24, 25, 26]
theorem view_ok : chainsOk view = true := by k_qdec
noncomputable abbrev endS (w : World) (os : OsState) : Shared := SharedT.abs ⟨top.tree_278 w.params, 274, {}, ⟨[]⟩, {}, 541, os⟩
noncomputable abbrev startS (w : World) (os : OsState) : Shared := SharedT.abs ⟨top.tree_4 w.params, 15, {}, ⟨[]⟩, {}, 187, os⟩
abbrev pos0 : Pos := ⟨0, 0, 0, 0⟩
abbrev posE : Pos := ⟨152, 0, 183, 122⟩
theorem top_body : behindTheImports PySem.Challenge.pw_og0151_01 = top.sts_4 ++ (top.sts_44 ++ (top.sts_145 ++ (top.sts_183 ++ (top.sts_233 ++ [])))) := by kernel_rfl
theorem top_fin (w : World) (os : OsState) : topRun treeTable PySem.Challenge.pw_og0151_01 w 11 (some (.ref 6)) 2 (endS w os) (restOf [] top.env_1 (.body (behindTheImports PySem.Challenge.pw_og0151_01) top.env_1) posE [topFrame pos0]) = some (endS w os) := by
  kernel_rfl
theorem top_pre (w : World) (os : OsState) : topGo treeTable PySem.Challenge.pw_og0151_01 w 11 (some (.ref 6)) 12 ⟨boot_heap w.params, ⟨[]⟩, boot_drawn, boot_toks, os⟩ (topStub PySem.Challenge.pw_og0151_01) =
    some (startS w os, ⟨denote treeTable (.body (behindTheImports PySem.Challenge.pw_og0151_01) top.env_1), .body (behindTheImports PySem.Challenge.pw_og0151_01) top.env_1, pos0, [topFrame pos0]⟩) := by
  delta startS
  rewrite [Fast.te15667345088766844465, Fast.te14364793385576792824, Fast.te16954021299822571607, Fast.te6036050085373917261, Fast.te11892475500146522536, Fast.te12333876439248220198]
  kernel_rfl
theorem top_block (w : World) (os : OsState) : segRun treeTable PySem.Challenge.pw_og0151_01 w 11 (some (.ref 6)) 1 1 (startS w os) (blockOf (behindTheImports PySem.Challenge.pw_og0151_01) top.env_1 (.body (behindTheImports PySem.Challenge.pw_og0151_01) top.env_1) pos0 [topFrame pos0]) =
    some (.next, startS w os, .body (behindTheImports PySem.Challenge.pw_og0151_01) top.env_1, pos0) := by
  kernel_rfl
theorem top_run (w : World) (os : OsState) : topRun treeTable PySem.Challenge.pw_og0151_01 w 11 (some (.ref 6)) (12 + (1 + Nat.add 316 (Nat.add 579 (Nat.add 160 (Nat.add 376 (Nat.add 232 2)))))) ⟨boot_heap w.params, ⟨[]⟩, boot_drawn, boot_toks, os⟩ (topStub PySem.Challenge.pw_og0151_01) = some (endS w os) := by
  have h := top.chain PySem.Challenge.pw_og0151_01 (behindTheImports PySem.Challenge.pw_og0151_01) w os [] 2 _ (top_fin w os)
  rewrite [← top_body] at h
  exact go_top (top_pre w os) (piece_block (top_block w os) h)
abbrev pe : List Str := [Str.ofString "PaperError"]
theorem pe_eq : pe = [⟨⟨[80, 97, 112, 101, 114, 69, 114, 114, 111, 114]⟩⟩] := congrArg (fun x => [x]) (Fast.ofString_ofList ['P', 'a', 'p', 'e', 'r', 'E', 'r', 'r', 'o', 'r'])
theorem top_open (w : World) : (fencedOpening treeTable PySem.Challenge.pw_og0151_01 w 3442).map (fun s => (s.heap, s.gens, s.drawn, s.toks)) = some (boot_heap w.params, ⟨[]⟩, boot_drawn, boot_toks) :=
  boot_open (by kernel_rfl) (by kernel_rfl) (fun s => by kernel_rfl) w
theorem top_size (w : World) : ((boot_heap w.params).isNs mainGlobals && (⟨[]⟩ : Array GenState).size == 0, (boot_heap w.params).objs.size, (boot_heap w.params).nsMap mainGlobals (Str.ofString "__annotations__")) = (true, 11, some (.ref 6)) := by
  rewrite [Fast.te8920871248978507458]
  kernel_rfl
theorem look0 (w : World) (os : OsState) : (staticsOk (importedModules PySem.Challenge.pw_og0151_01.main.body) (boot_heap w.params) (endS w os).heap && namesBound PySem.Challenge.pw_og0151_01 (endS w os).heap && gensDone (endS w os) && laidKept (boot_heap w.params) (endS w os).heap) = true := by
  delta endS
  rewrite [Fast.te5923862056798008813, Fast.te16954021299822571607, Fast.te12396121744338541696]
  kernel_rfl
theorem look1 (w : World) (os : OsState) : seen ((recsOf view).map (·.name)) (ownsOf view) [] { endS w os with gens := #[] } = expectedOf view := by
  delta endS
  rewrite [Fast.te5160383126252970620, Fast.te3399658132070893891, Fast.te5991557255702980513, R.mapR_eq, Fast.te12396121744338541696, Fast.te14483651329830533851]
  kernel_rfl
theorem look2 (w : World) (os : OsState) : (endS w os).heap.bltView = bltViewBooted := by
  delta endS
  rewrite [Fast.te12396121744338541696]
  kernel_rfl
theorem look3 (w : World) (os : OsState) : ((endS w os).heap.keysOk (looseW view pe) ((recsOf view).map (·.name)) ((litsOf view).map (·.1)) ((clssOf view (looseW view pe)).map (·.name)) && (endS w os).heap.accountedOkI (importedModules PySem.Challenge.pw_og0151_01.main.body) && (endS w os).heap.isNs mainGlobals && (endS w os).heap.isNs builtinsNs && tablesOk view (endS w os).heap && (fun s => xlAt view [] s && recOk PySem.Challenge.rw_og0151_01.row.records s) (endS w os) && (if true then (endS w os).gens.size == 0 else !leftWithCleanup (endS w os).gens)) = true := by
  delta endS
  rewrite [pe_eq, Fast.te10880121769531294198, Fast.te821141287760084731, Fast.te3399658132070893891, Fast.te7409074990110511671, Fast.te13664370479719496447, Fast.te14722251495701143533, Fast.te5923862056798008813, Fast.te10994771534591457954, R.mapR_eq, Fast.te12396121744338541696, Fast.te14483651329830533851, Fast.te16954021299822571607]
  kernel_rfl
theorem look4 (w : World) (os : OsState) : tabsOk view (endS w os) = true := by
  delta endS
  rewrite [Fast.te479339242167458305, Fast.te12396121744338541696, Fast.te14483651329830533851]
  kernel_rfl
theorem look5 (w : World) (os : OsState) : pinSeenD view (drecsOf view) (endS w os) = pinGoodD (drecsOf view) := by
  delta endS
  rewrite [Fast.te16090120013241838585, Fast.te3247288618530077131, Fast.te12396121744338541696, Fast.te14483651329830533851]
  kernel_rfl
theorem look6 (w : World) (os : OsState) : plainSeenE view (looseW view pe) (endS w os) = plainGoodE view (looseW view pe) := by
  delta endS
  rewrite [pe_eq, Fast.te2386780881361962483, Fast.te821141287760084731, Fast.te12396121744338541696, Fast.te14483651329830533851]
  kernel_rfl
theorem look7 (w : World) (os : OsState) : plainSeenD view pe (endS w os) = plainGoodD view pe := by
  delta endS
  rewrite [pe_eq, Fast.te11698064438423848299, Fast.te12396121744338541696, Fast.te14483651329830533851]
  kernel_rfl
theorem look8 (w : World) (os : OsState) : wideSeen view (endS w os) = wideGood view := by
  delta endS
  rewrite [Fast.te7317090234206586261, Fast.te12396121744338541696, Fast.te14483651329830533851]
  kernel_rfl
theorem look9 (w : World) (os : OsState) : clsSeenW view pe (endS w os) = clsGoodW view pe := by
  delta endS
  rewrite [pe_eq, Fast.te7369524293546568484, Fast.te12396121744338541696, Fast.te14483651329830533851]
  kernel_rfl
theorem looks (w : World) (os : OsState) : openSeen view pe (importedModules PySem.Challenge.pw_og0151_01.main.body) (fun s => xlAt view [] s && recOk PySem.Challenge.rw_og0151_01.row.records s) true (endS w os) = openGood view pe :=
  looks_pair (look1 w os) (looks_pair (look2 w os) (looks_pair (look3 w os) (looks_pair (look4 w os) (looks_pair (look5 w os) (looks_pair (look6 w os) (looks_pair (look7 w os) (looks_pair (look8 w os) (look9 w os))))))))
theorem left {α : Type} {Yf : Shared → α} {Ya : World → α} (hook : ∀ w os, Yf (endS w os) = Ya w) : LeftO PySem.Challenge.pw_og0151_01 view pe (fun s => xlAt view [] s && recOk PySem.Challenge.rw_og0151_01.row.records s) Yf Ya 3442 :=
  LeftO.of_pieces (H₁ := fun P => absHeap (top.tree_278 P) 274 {}) top_open top_size top_run (by kernel_rfl) fun w => funext fun os => looks_pair (look0 w os) (looks_pair (looks w os) (hook w os))
theorem head_of (said : PySem.Challenge.rw_og0151_01.row.wellSaid = true) (H : Hook) (hook : ∀ w os, H.obs (endS w os) = H.val w) {d : DefRec} {kwd : List (Str × Expr)}
    (hdef : defOf view PySem.Challenge.rw_og0151_01.row.name = some (d, kwd)) (hp : PySem.Challenge.rw_og0151_01.row.prog.theDef PySem.Challenge.rw_og0151_01.row.name = some (d.params, d.body, d.scope)) (hk : kwWritten? d.params.kwonlyargs d.params.kw_defaults = some kwd)
    (hw : PySem.Challenge.rw_og0151_01.row.toRowW.promised)
    (hc : WalkO view [Str.ofString "PaperError"] (XL view []) H.says PySem.Challenge.rw_og0151_01.row.toRowW d kwd fun f vs => PySem.call f vs) : PySem.Challenge.rw_og0151_01.row.Holds :=
  holds_open (left hook) H.of H.keeps (fun s e => xl_of s (Bool.and_eq_true_iff.mp e).1) XL.keeps hdef hp hk (fun s e => recFacts_of (Bool.and_eq_true_iff.mp e).2) (by rfl) said (by decide +kernel) ⟨rfl, rfl, rfl, rfl, rfl, by decide +kernel⟩ hw hc
local macro_rules | `(tactic| o_head $H:term) => `(tactic| refine head_of (by assumption) $H (fun _ _ => by kernel_rfl) (by rfl) (by rfl) (by rfl) ?hw ?hc)
open_top hd for PySem.Challenge.rw_og0151_01
local macro_rules | `(tactic| walk_at $s:str) => do
  let t := Lean.Syntax.mkStrLit ("K " ++ s.getString)
  `(tactic| k_extra $t)
local macro_rules | `(tactic| k_all) => `(tactic| k_extra "all")
local macro_rules | `(tactic| k_mem) => `(tactic| k_extra "mem")
local macro_rules | `(tactic| k_room) => `(tactic| k_extra "kroom")
local macro_rules | `(tactic| k_enter) => `(tactic| k_extra "kenter")
local macro_rules | `(tactic| k_upd) => `(tactic| k_extra "upd")
local macro_rules | `(tactic| omega) => `(tactic| k_extra "omega")
local macro_rules | `(tactic| k_steps) => `(tactic| k_extra "steps")
theorem partP0 : True := by
  w_top off
  trivial
noncomputable abbrev arT (d : Nat) (f : Option (List Env)) (g : Option (List Code)) (u : Nat) : Around := { handled := none, depth := d, frames := f, guards := g, units := u }
/-- where a call stands -/
inductive At (w : World) (f : Option (List Env)) (h₀ : Heap) (L : Addr) : Prop
  | mk (A₀ : Around) (base : Heap) (env : Env) (outer : List Env) (mean : ExcName → Option Value) (mg mb : Str → Option Value) : Below A₀ base outer h₀ → (hd.heap_39 w.params).In h₀ →
      Top view (looseW view [Str.ofString "PaperError"]) mean mg mb h₀ → f = some (env :: outer) → env.frame = some L → env.scope.kind = .function → At w f h₀ L
/-- what a call of the def at f with the arguments vs hands back: v, the ledger as it stood -/
noncomputable def DoesV (w : World) (k : Nat) (f : Addr) (vs : List Value) (news : List (Addr × Obj)) (v : Tok → Value) : Prop :=
  ∀ (d : Nat) (fr : Option (List Env)) (g : Option (List Code)) (u : Nat) (h₀ : Heap) (L : Addr) (m : Str → Option Value) (s : Shared) (Q E : Value → Shared → Prop),
    At w fr h₀ L → d + k < recursionLimit → u + 10 * k < cLine → Fr h₀ L s.heap m → News h₀ L s.heap news →
    (∀ t h' tk', Fr h₀ L h' m → News h₀ L h' news → Q (v t) { s with heap := h', toks := tk' }) →
    wpAny (model PySem.Challenge.rw_og0151_01.row.prog w) (arT d fr g u) (call (.ref f) vs) Q E s
/-- the same, and the call makes objects: tl -/
noncomputable def DoesN (w : World) (k : Nat) (f : Addr) (vs : List Value) (news : List (Addr × Obj)) (P : List (Addr × Obj) → Addr → Prop) : Prop :=
  ∀ (d : Nat) (fr : Option (List Env)) (g : Option (List Code)) (u : Nat) (h₀ : Heap) (L : Addr) (m : Str → Option Value) (s : Shared) (Q E : Value → Shared → Prop),
    At w fr h₀ L → d + k < recursionLimit → u + 10 * k < cLine → Fr h₀ L s.heap m → News h₀ L s.heap news →
    (∀ x tl h' tk', Fr h₀ L h' m → News h₀ L h' (tl ++ news) → P tl x → (∀ p ∈ tl, ∀ q ∈ news, q.1 < p.1) → Q (.ref x) { s with heap := h', toks := tk' }) →
    wpAny (model PySem.Challenge.rw_og0151_01.row.prog w) (arT d fr g u) (call (.ref f) vs) Q E s
section
variable {w : World} {k : Nat} {f : Addr} {vs : List Value} {news : List (Addr × Obj)} {v : Tok → Value} {P : List (Addr × Obj) → Addr → Prop} {d : Nat} {fr : Option (List Env)} {g : Option (List Code)} {u : Nat} {h₀ : Heap} {L : Addr} {m : Str → Option Value} {s : Shared} {Q E : Value → Shared → Prop}
  {A₀ : Around} {base : Heap} {env : Env} {outer : List Env} {mean : ExcName → Option Value} {mg mb : Str → Option Value}
theorem DoesV.use {hp : Heap} {gs : Array GenState} {dr : Drawn} {tk0 : Nat} {os0 : OsState} (D : DoesV w k f vs news v) (B : Below A₀ base outer h₀) (X : (hd.heap_39 w.params).In h₀) (T : Top view (looseW view [Str.ofString "PaperError"]) mean mg mb h₀) (F : Fr h₀ L hp m) (N : News h₀ L hp news)
    (hA : fr = some (env :: outer)) (hf : env.frame = some L) (hk : env.scope.kind = .function) (hd : d + k < recursionLimit) (hu : u + 10 * k < cLine)
    (ret : ∀ t h' tk', Fr h₀ L h' m → News h₀ L h' news → Q (v t) ⟨h', gs, dr, tk', os0⟩) :
    wpAny (model PySem.Challenge.rw_og0151_01.row.prog w) (arT d fr g u) (call (.ref f) vs) Q E ⟨hp, gs, dr, tk0, os0⟩ := D _ _ _ _ _ _ _ _ _ _ ⟨_, _, _, _, _, _, _, B, X, T, hA, hf, hk⟩ hd hu F N ret
theorem DoesN.use {hp : Heap} {gs : Array GenState} {dr : Drawn} {tk0 : Nat} {os0 : OsState} (D : DoesN w k f vs news P) (B : Below A₀ base outer h₀) (X : (hd.heap_39 w.params).In h₀) (T : Top view (looseW view [Str.ofString "PaperError"]) mean mg mb h₀) (F : Fr h₀ L hp m) (N : News h₀ L hp news)
    (hA : fr = some (env :: outer)) (hf : env.frame = some L) (hk : env.scope.kind = .function) (hd : d + k < recursionLimit) (hu : u + 10 * k < cLine)
    (ret : ∀ x tl h' tk', Fr h₀ L h' m → News h₀ L h' (tl ++ news) → P tl x → (∀ p ∈ tl, ∀ q ∈ news, q.1 < p.1) → Q (.ref x) ⟨h', gs, dr, tk', os0⟩) :
    wpAny (model PySem.Challenge.rw_og0151_01.row.prog w) (arT d fr g u) (call (.ref f) vs) Q E ⟨hp, gs, dr, tk0, os0⟩ := D _ _ _ _ _ _ _ _ _ _ ⟨_, _, _, _, _, _, _, B, X, T, hA, hf, hk⟩ hd hu F N ret
end
theorem News.less {h₀ h : Heap} {L : Addr} {news news' : List (Addr × Obj)} (N : News h₀ L h news) (hs : ∀ p ∈ news', p ∈ news) : News h₀ L h news' := fun p hp => N p (hs p hp)

/-- two lists, item by item -/
inductive Are {α : Type} (R : Value → α → Prop) : List Value → List α → Prop
  | nil : Are R [] []
  | cons {v : Value} {vs : List Value} {x : α} {xs : List α} : R v x → Are R vs xs → Are R (v :: vs) (x :: xs)
section
variable {α : Type} {R R' : Value → α → Prop} {vs ws : List Value} {xs ys : List α}
theorem Are.length (h : Are R vs xs) : vs.length = xs.length := by
  induction h with
  | nil => rfl
  | cons _ _ ih => rw [List.length_cons, List.length_cons, ih]
theorem Are.append (h : Are R vs xs) (k : Are R ws ys) : Are R (vs ++ ws) (xs ++ ys) := by
  induction h with
  | nil => exact k
  | cons h _ ih => exact .cons h ih
theorem Are.one {v : Value} {x : α} (h : R v x) : Are R [v] [x] := .cons h .nil
theorem Are.mono (k : ∀ v x, R v x → R' v x) (h : Are R vs xs) : Are R' vs xs := by
  induction h with
  | nil => exact .nil
  | cons h _ ih => exact .cons (k _ _ h) ih
theorem Are.get (h : Are R vs xs) : ∀ {i : Nat} (hi : i < xs.length), ∃ v, vs[i]? = some v ∧ R v (xs[i]'hi) := by
  induction h with
  | nil => intro i hi; exact absurd hi (Nat.not_lt_zero _)
  | cons h _ ih =>
    intro i hi
    cases i with
    | zero => exact ⟨_, rfl, h⟩
    | succ i => exact ih (Nat.lt_of_succ_lt_succ hi)
theorem Are.at {i : Nat} {v : Value} (h : Are R vs xs) (e : vs[i]? = some v) : ∃ x, xs[i]? = some x ∧ R v x := by
  have hi : i < vs.length := (List.getElem?_eq_some_iff.mp e).1
  rw [h.length] at hi
  obtain ⟨v', e', r⟩ := h.get hi
  rw [e] at e'
  cases e'
  exact ⟨_, List.getElem?_eq_getElem hi, r⟩
theorem Are.snoc {x : α} (h : Are R vs (xs ++ [x])) : ∃ ws v, vs = ws ++ [v] ∧ Are R ws xs ∧ R v x := by
  induction xs generalizing vs with
  | nil => cases h with
    | cons h k => cases k; exact ⟨[], _, rfl, .nil, h⟩
  | cons y ys ih => cases h with
    | cons h k =>
      obtain ⟨ws, v, rfl, k', r⟩ := ih k
      exact ⟨_ :: ws, v, rfl, .cons h k', r⟩
theorem Are.of_append_right (h : Are R vs (xs ++ ys)) : ∃ ws us, vs = ws ++ us ∧ Are R ws xs ∧ Are R us ys := by
  induction xs generalizing vs with
  | nil => exact ⟨[], vs, rfl, .nil, h⟩
  | cons y xs ih => cases h with
    | cons h k =>
      obtain ⟨ws, us, rfl, k1, k2⟩ := ih k
      exact ⟨_ :: ws, us, rfl, .cons h k1, k2⟩
end

noncomputable abbrev tupO (vs : List Value) (n : Nat) : Obj := { cls := .type "tuple", data := .seq vs.toArray n }

/-- a sign: its code, its place, soft or not -/
structure Sg where
  c : Nat
  p : Int
  b : Bool
inductive SgIn (tl : List (Addr × Obj)) : Value → Sg → Prop
  | mk (a : Addr) (t1 t2 : Tok) (n : Nat) (c : Nat) (p : Int) (b : Bool) : (a, tupO [.str (Str.mk #[c]) t1, .int p t2, .bool b] n) ∈ tl → SgIn tl (.ref a) ⟨c, p, b⟩
theorem SgIn.mono {tl tl' : List (Addr × Obj)} (hs : ∀ p ∈ tl, p ∈ tl') {v : Value} {g : Sg} (h : SgIn tl v g) : SgIn tl' v g := by
  cases h with | mk a t1 t2 n c p b hm => exact .mk a t1 t2 n c p b (hs _ hm)

/-- a Decimal without places -/
inductive DecIn (tl : List (Addr × Obj)) (a : Addr) (top : Int) : Prop
  | mk (d : Addr) (k1 k2 : Int) (t1 t2 t3 t4 : Tok) (n : Nat) : (a, instObj 143 d) ∈ tl → (d, dictOf [⟨k1, .str (Str.ofString "top") t1, .int top t2⟩, ⟨k2, .str (Str.ofString "places") t3, .int 0 t4⟩] n) ∈ tl → DecIn tl a top
theorem DecIn.mono {tl tl' : List (Addr × Obj)} (hs : ∀ p ∈ tl, p ∈ tl') {a : Addr} {i : Int} (h : DecIn tl a i) : DecIn tl' a i := by
  cases h with | mk d k1 k2 t1 t2 t3 t4 n h1 h2 => exact .mk d k1 k2 t1 t2 t3 t4 n (hs _ h1) (hs _ h2)
theorem DecIn.left {tl tl' : List (Addr × Obj)} {a : Addr} {i : Int} (h : DecIn tl a i) : DecIn (tl ++ tl') a i := h.mono fun _ hp => List.mem_append_left _ hp
theorem DecIn.right {tl tl' : List (Addr × Obj)} {a : Addr} {i : Int} (h : DecIn tl a i) : DecIn (tl' ++ tl) a i := h.mono fun _ hp => List.mem_append_right _ hp
noncomputable def T (k : Nat) : Str := [Str.ofString "a", Str.ofString "b-", Str.ofString "-", Str.ofString " ", Str.ofString "c d", Str.ofString "\t-", Str.ofString "e\u00a0"].getD k Str.empty
noncomputable def C (k : Nat) : List Nat := [[97], [98, 45], [45], [32], [99, 32, 100], [9, 45], [101, 160]].getD k []
structure Gl where
  k : Nat
  at_ : Int
inductive GlIn (tl : List (Addr × Obj)) : Value → Gl → Prop
  | mk (a d x y wd sz : Addr) (k1 k2 k3 k4 k5 : Int) (t t1 t2 t3 t4 t5 : Tok) (n : Nat) (py : Int) (kx : Nat) (i : Int) : (a, instObj 206 d) ∈ tl →
      (d, dictOf [⟨k1, .str (Str.ofString "text") t1, .str (T kx) t⟩, ⟨k2, .str (Str.ofString "x") t2, .ref x⟩, ⟨k3, .str (Str.ofString "y") t3, .ref y⟩, ⟨k4, .str (Str.ofString "width") t4, .ref wd⟩, ⟨k5, .str (Str.ofString "size") t5, .ref sz⟩] n) ∈ tl →
      DecIn tl x i → DecIn tl y py → DecIn tl wd 4 → DecIn tl sz 10 → GlIn tl (.ref a) ⟨kx, i⟩
theorem GlIn.mono {tl tl' : List (Addr × Obj)} (hs : ∀ p ∈ tl, p ∈ tl') {v : Value} {g : Gl} (h : GlIn tl v g) : GlIn tl' v g := by
  cases h with | mk a d x y wd sz k1 k2 k3 k4 k5 t t1 t2 t3 t4 t5 n py kx i h1 h2 h3 h4 h5 h6 => exact .mk a d x y wd sz k1 k2 k3 k4 k5 t t1 t2 t3 t4 t5 n py kx i (hs _ h1) (hs _ h2) (h3.mono hs) (h4.mono hs) (h5.mono hs) (h6.mono hs)

theorem mp_nil {α : Type} {P : α → Prop} : ∀ p ∈ ([] : List α), P p := fun _ h => nomatch h
theorem mp_cons {α : Type} {P : α → Prop} {a : α} {l : List α} (h : P a) (t : ∀ p ∈ l, P p) : ∀ p ∈ a :: l, P p := fun p hp => by
  cases hp with
  | head => exact h
  | tail _ hp => exact t p hp
theorem in_app {α : Type} {a r r' : List α} (h : ∀ p ∈ r, p ∈ r') : ∀ p ∈ a ++ r, p ∈ a ++ r' := fun p hp => (List.mem_append.mp hp).elim (fun h2 => List.mem_append_left _ h2) fun h2 => List.mem_append_right _ (h p h2)
theorem in_cons {α : Type} {a : α} {r r' : List α} (h : ∀ p ∈ r, p ∈ r') : ∀ p ∈ a :: r, p ∈ a :: r' := fun p hp => by
  cases hp with
  | head => exact .head _
  | tail _ hp => exact .tail _ (h p hp)

noncomputable abbrev Nexts (Q' : Flow → Shared → Prop) (P : Shared → Prop) : Prop := ∀ s', P s' → Q' .next s'
noncomputable abbrev Rets (Q' : Flow → Shared → Prop) (P : Value → Shared → Prop) : Prop := ∀ v s', P v s' → Q' (.ret v) s'

theorem partPE : True := by
  w_top off
  trivial
/-- a simple expression's value: a local name, a constant -/
noncomputable def ev1 (env : Env) (m : Str → Option Value) (n : Tok) : PySem.Expr → Option (Value × Tok)
  | .Name x _ => match env.kindOf x with
    | some .local => match x == ("__debug__" : Str) with
      | false => (match m x with | some v => some (v, n) | none => none)
      | true => none
    | _ => none
  | .Constant (.int i) _ _ => some (.int i n, n + 1)
  | .Constant (.str z) _ _ => some (.str z n, n + 1)
  | .Constant (.bool b) _ _ => some (.bool b, n)
  | _ => none
noncomputable def evs (env : Env) (m : Str → Option Value) : Tok → List PySem.Expr → Option (List Value × Tok)
  | n, [] => some ([], n)
  | n, e :: r => match ev1 env m n e with
    | some (v, n') => (match evs env m n' r with | some (vs, n'') => some (v :: vs, n'') | none => none)
    | none => none
section
variable {M : Model} {A : Around} {E : Value → Shared → Prop} {s : Shared} {h₀ : Heap} {m : Str → Option Value} {env : Env}
theorem ev1_ok {e : PySem.Expr} {v : Value} {n : Tok} {Q : Value → Shared → Prop} (F : Fr h₀ env.locals s.heap m) (hk : env.scope.kind = .function) (he : ev1 env m s.toks e = some (v, n)) (h : Q v { s with toks := n }) : wpAny M A (eval e env) Q E s := by
  unfold ev1 at he
  split at he
  · rename_i x _
    split at he
    · rename_i hx
      split at he
      · rename_i hd
        split at he
        · rename_i v' hv
          cases he
          exact wpAny_Name (wpAny_loadName_local hk hx F.ns hv h) hd
        · cases he
      · cases he
    · cases he
  · cases he
    exact wpAny_Constant_int h
  · cases he
    exact wpAny_Constant_str h
  · cases he
    exact wpAny_Constant_bool h
  · cases he
theorem ev1_star {e : PySem.Expr} {r : List PySem.Expr} {v : Value} {n n' : Tok} (he : ev1 env m n e = some (v, n')) : starEach (e :: r) env = (false, eval e env) :: starEach r env := by
  unfold ev1 at he
  split at he
  · rfl
  · rfl
  · rfl
  · rfl
  · cases he
theorem evs_ok : ∀ {es : List PySem.Expr} {vs : List Value} {n : Tok} {s : Shared} {pos : Pos} {Q : List Value → Shared → Prop}, Fr h₀ env.locals s.heap m → env.scope.kind = .function → evs env m s.toks es = some (vs, n) → Q vs { s with toks := n } →
    wpAny M A (spliced (backTo pos (starEach es env))) Q E s
  | [], vs, n, s, pos, Q, F, hk, he, h => by
    cases he
    exact args_nil h
  | e :: r, vs, n, s, pos, Q, F, hk, he, h => by
    unfold evs at he
    split at he
    · rename_i v n' h1
      split at he
      · rename_i vs' n'' h2
        cases he
        refine args_cons ?_ (ev1_star h1)
        exact ev1_ok F hk h1 (evs_ok (s := { s with toks := n' }) F hk h2 h)
      · cases he
    · cases he
end
section
variable {M : Model} {A : Around} {E : Value → Shared → Prop} {hp : Heap} {gs : Array GenState} {dr : Drawn} {tk n n' : Tok} {os : OsState} {h₀ : Heap} {m : Str → Option Value} {env : Env}
noncomputable def isFn (env : Env) : Bool := env.scope.kind == .function
theorem isFn_is {env : Env} (h : isFn env = true) : env.scope.kind = .function := by unfold isFn at h; exact eq_of_beq h
theorem name_ev {e : PySem.Expr} {v : Value} {Q : Value → Shared → Prop} (F : Fr h₀ env.locals hp m) (hk : isFn env = true) (he : ev1 env m tk e = some (v, n)) (h : Q v ⟨hp, gs, dr, n, os⟩) : wpAny M A (eval e env) Q E ⟨hp, gs, dr, tk, os⟩ :=
  ev1_ok (s := ⟨hp, gs, dr, tk, os⟩) F (isFn_is hk) he h
theorem args_ev {es : List PySem.Expr} {vs : List Value} {pos : Pos} {Q : List Value → Shared → Prop} (F : Fr h₀ env.locals hp m) (hk : isFn env = true) (he : evs env m tk es = some (vs, n)) (h : Q vs ⟨hp, gs, dr, n, os⟩) : wpAny M A (spliced (backTo pos (starEach es env))) Q E ⟨hp, gs, dr, tk, os⟩ :=
  evs_ok (s := ⟨hp, gs, dr, tk, os⟩) F (isFn_is hk) he h
theorem sub_ev {value slice : PySem.Expr} {pos : Pos} {v i : Value} {Q : Value → Shared → Prop} (F : Fr h₀ env.locals hp m) (hk : isFn env = true) (h1 : ev1 env m tk value = some (v, n)) (h2 : ev1 env m n slice = some (i, n')) (h : wpAny M A (subscriptTail value slice v i) Q E ⟨hp, gs, dr, n', os⟩) : wpAny M A (eval (.Subscript value slice pos) env) Q E ⟨hp, gs, dr, tk, os⟩ :=
  Subscript_ (name_ev F hk h1 (name_ev F hk h2 h))
theorem sub_ev1 {value slice : PySem.Expr} {pos : Pos} {v : Value} {Q : Value → Shared → Prop} (F : Fr h₀ env.locals hp m) (hk : isFn env = true) (h1 : ev1 env m tk value = some (v, n)) (h : wpAny M A (eval slice env) (fun i s₂ => wpAny M A (subscriptTail value slice v i) Q E s₂) E ⟨hp, gs, dr, n, os⟩) : wpAny M A (eval (.Subscript value slice pos) env) Q E ⟨hp, gs, dr, tk, os⟩ :=
  Subscript_ (name_ev F hk h1 h)
theorem bin_ev {l r : PySem.Expr} {op : Operator} {pos : Pos} {a b : Value} {Q : Value → Shared → Prop} (F : Fr h₀ env.locals hp m) (hk : isFn env = true) (h1 : ev1 env m tk l = some (a, n)) (h2 : ev1 env m n r = some (b, n')) (h : wpAny M A (binaryOp op a b) Q E ⟨hp, gs, dr, n', os⟩) : wpAny M A (eval (.BinOp l op r pos) env) Q E ⟨hp, gs, dr, tk, os⟩ :=
  wpAny_BinOp (name_ev F hk h1 (name_ev F hk h2 h))
theorem bin_ev1 {l r : PySem.Expr} {op : Operator} {pos : Pos} {a : Value} {Q : Value → Shared → Prop} (F : Fr h₀ env.locals hp m) (hk : isFn env = true) (h1 : ev1 env m tk l = some (a, n)) (h : wpAny M A (eval r env) (fun b s₂ => wpAny M A (binaryOp op a b) Q E s₂) E ⟨hp, gs, dr, n, os⟩) : wpAny M A (eval (.BinOp l op r pos) env) Q E ⟨hp, gs, dr, tk, os⟩ :=
  wpAny_BinOp (name_ev F hk h1 h)
theorem cmp_ev {l r : PySem.Expr} {op : CmpOp} {pos : Pos} {a b : Value} {Q : Value → Shared → Prop} (F : Fr h₀ env.locals hp m) (hk : isFn env = true) (h1 : ev1 env m tk l = some (a, n)) (h2 : ev1 env m n r = some (b, n')) (h : wpAny M A (compareOp op a b) Q E ⟨hp, gs, dr, n', os⟩) (hm : behindInMarks op r = false) : wpAny M A (eval (.Compare l [op] [r] pos) env) Q E ⟨hp, gs, dr, tk, os⟩ :=
  wpAny_Compare1 (name_ev F hk h1 (name_ev F hk h2 h)) hm
theorem test_ev {l r : PySem.Expr} {op : CmpOp} {pos : Pos} {whole : Sem Value} {a b : Value} {Q : Bool → Shared → Prop} (F : Fr h₀ env.locals hp m) (hk : isFn env = true) (h1 : ev1 env m tk l = some (a, n)) (h2 : ev1 env m n r = some (b, n')) (h : wpAny M A (compareOp op a b) (fun c s₃ => wpAny M A (truthy c) Q E s₃) E ⟨hp, gs, dr, n', os⟩) (hm : behindInMarks op r = false) : wpAny M A (isTrue (.Compare l [op] [r] pos) env whole) Q E ⟨hp, gs, dr, tk, os⟩ :=
  wpAny_isTrue_Compare1 (name_ev F hk h1 (name_ev F hk h2 h)) hm
end
example : True := by
  k_with "K spliced" => (((k_here; k_dflt (refine' args_ev ?K9F ?K9k ?K9e ?_; (case K9F => k_asm); (case K9k => exact rfl); (case K9e => exact rfl))); (try dsimp only [List.cons_append, List.nil_append])))
  trivial
example : True := by
  k_with "K eval Subscript" => ((k_here; k_dflt (refine' sub_ev1 ?K9F ?K9k ?K9e ?_; (case K9F => k_asm); (case K9k => exact rfl); (case K9e => exact rfl))))
  trivial
example : True := by
  k_with "K eval Subscript" => ((k_here; k_dflt (refine' sub_ev ?K9F ?K9k ?K9e ?K9i ?_; (case K9F => k_asm); (case K9k => exact rfl); (case K9e => exact rfl); (case K9i => exact rfl))))
  trivial
example : True := by
  k_with "K eval BinOp" => ((k_here; k_dflt (refine' bin_ev1 ?K9F ?K9k ?K9e ?_; (case K9F => k_asm); (case K9k => exact rfl); (case K9e => exact rfl))))
  trivial
example : True := by
  k_with "K eval BinOp" => ((k_here; k_dflt (refine' bin_ev ?K9F ?K9k ?K9e ?K9i ?_; (case K9F => k_asm); (case K9k => exact rfl); (case K9e => exact rfl); (case K9i => exact rfl))))
  trivial
example : True := by
  k_with "K eval Compare" => ((k_here; k_dflt (refine' cmp_ev ?K9F ?K9k ?K9e ?K9i ?_ ?K9m; (case K9m => with_unfolding_all exact rfl); (case K9F => k_asm); (case K9k => exact rfl); (case K9e => exact rfl); (case K9i => exact rfl))))
  trivial
example : True := by
  k_with "K isTrue Compare" => ((k_here; k_dflt (refine' test_ev ?K9F ?K9k ?K9e ?K9i ?_ ?K9m; (case K9m => with_unfolding_all exact rfl); (case K9F => k_asm); (case K9k => exact rfl); (case K9e => exact rfl); (case K9i => exact rfl))))
  trivial
example : True := by
  k_with "K eval Name" => ((k_here; k_dflt (refine' name_ev ?K9F ?K9k ?K9e ?_; (case K9F => k_asm); (case K9k => exact rfl); (case K9e => exact rfl))))
  trivial

theorem partP1 : True := by
  w_top off
  trivial
theorem room1 {d K r : Nat} (h : d + K < r) : d < r := Nat.lt_of_le_of_lt (Nat.le_add_right d K) h
theorem room2 {d K k r : Nat} (h : d + K < r) (e : Nat.ble k K = true) : d + k < r := Nat.lt_of_le_of_lt (Nat.add_le_add_left (Nat.le_of_ble_eq_true e) d) h
theorem room3 {d K a b r : Nat} (h : d + K < r) (e : Nat.ble (a + b) K = true) : d + a + b < r := by rw [Nat.add_assoc]; exact room2 h e
theorem lebig {x c b : Nat} (h : x ≤ c) (e : Nat.ble c b = true) : x ≤ b := Nat.le_trans h (Nat.le_of_ble_eq_true e)
theorem and_ne1 {a b : Nat} {P : Prop} (h : a < b ∧ P) : a ≠ b := Nat.ne_of_lt h.1
theorem and_ne2 {a b : Nat} {P : Prop} (h : b < a ∧ P) : a ≠ b := Nat.ne_of_gt h.1
theorem and_ne3 {a b : Nat} {P S : Prop} (h : P ∧ a < b ∧ S) : a ≠ b := Nat.ne_of_lt h.2.1
theorem and_ne4 {a b : Nat} {P S : Prop} (h : P ∧ b < a ∧ S) : a ≠ b := Nat.ne_of_gt h.2.1
theorem and_ne5 {a b : Nat} {P : Prop} (h : P ∧ a < b) : a ≠ b := Nat.ne_of_lt h.2
theorem and_ne6 {a b : Nat} {P : Prop} (h : P ∧ b < a) : a ≠ b := Nat.ne_of_gt h.2
theorem and_ne7 {a b : Nat} {P S T : Prop} (h : P ∧ S ∧ a < b ∧ T) : a ≠ b := Nat.ne_of_lt h.2.2.1
theorem and_ne8 {a b : Nat} {P S T : Prop} (h : P ∧ S ∧ b < a ∧ T) : a ≠ b := Nat.ne_of_gt h.2.2.1
theorem and_ne9 {a b : Nat} {P S T U : Prop} (h : P ∧ S ∧ T ∧ a < b ∧ U) : a ≠ b := Nat.ne_of_lt h.2.2.2.1
theorem and_ne10 {a b : Nat} {P S T U : Prop} (h : P ∧ S ∧ T ∧ b < a ∧ U) : a ≠ b := Nat.ne_of_gt h.2.2.2.1
theorem leAddI {x c k b : Int} (h : x ≤ c) (e : c + k ≤ b) : x + k ≤ b := Int.le_trans (Int.add_le_add_right h k) e
theorem nnAddI {x : Int} (h : 0 ≤ x) : 0 ≤ x + 1 := Int.le_trans h (Int.le_of_lt (Int.lt_succ x))
theorem leAdd2 {a b c d n : Nat} (h : a ≤ c) (k : b ≤ d) (e : Nat.ble (c + d) n = true) : a + b ≤ n := Nat.le_trans (Nat.add_le_add h k) (Nat.le_of_ble_eq_true e)
theorem castLt {n c : Nat} {b : Int} (h : n ≤ c) (e : (c : Int) < b) : (n : Int) < b := Int.lt_of_le_of_lt (Int.ofNat_le.mpr h) e
theorem castLt2 {i n c : Nat} {b : Int} (h : i < n) (k : n ≤ c) (e : (c : Int) < b) : (i : Int) < b := castLt (Nat.le_trans (Nat.le_of_lt h) k) e
theorem castLe {n : Nat} {b : Int} (e : b ≤ 0) : b ≤ (n : Int) := Int.le_trans e (Int.ofNat_nonneg n)
theorem cpos (n : Nat) : 0 < ((n + 1 : Nat) : Int) := Int.ofNat_lt.mpr (Nat.succ_pos n)
theorem addLe0 {b : Int} (e : b ≤ 0) {x : Int} (h : 0 ≤ x) : b ≤ x := Int.le_trans e h
theorem snocLe {α : Type} {l : List α} {x : α} {c b : Nat} (h : l.length ≤ c) (e : Nat.ble (c + 1) b = true) : (l ++ [x]).length ≤ b := by rw [List.length_append]; exact Nat.le_trans (Nat.add_le_add_right h 1) (Nat.le_of_ble_eq_true e)
theorem snocAdd {α : Type} {l : List α} {x : α} {c d n b : Nat} (h : l.length ≤ c) (k : b ≤ d) (e : Nat.ble (c + 1 + d) n = true) : (l ++ [x]).length + b ≤ n := Nat.le_trans (Nat.add_le_add (snocLe h (Nat.ble_eq_true_of_le (Nat.le_refl _))) k) (Nat.le_of_ble_eq_true e)
example : True := by
  k_with "omega" => ((with_reducible first | assumption | exact Nat.ne_of_lt (by assumption) | exact Nat.ne_of_gt (by assumption) | exact and_ne1 (by assumption) | exact and_ne2 (by assumption) | exact and_ne3 (by assumption) | exact and_ne4 (by assumption) | exact and_ne5 (by assumption) | exact and_ne6 (by assumption) | exact and_ne7 (by assumption) | exact and_ne8 (by assumption) | exact and_ne9 (by assumption) | exact and_ne10 (by assumption) | exact Int.natCast_nonneg _ | exact cpos _ | exact room1 (by assumption) | (refine room2 (by assumption) ?_; with_unfolding_all exact rfl) | (refine room3 (by assumption) ?_; with_unfolding_all exact rfl) | (refine lebig (by assumption) ?_; with_unfolding_all exact rfl) | (refine leAdd2 (by assumption) (by assumption) ?_; with_unfolding_all exact rfl) | (refine snocLe (by assumption) ?_; with_unfolding_all exact rfl) | (refine snocAdd (by assumption) (by assumption) ?_; with_unfolding_all exact rfl) | exact nnAddI (by assumption) | exact nnAddI (nnAddI (by assumption)) | (refine leAddI (by assumption) ?_; with_unfolding_all decide) | (refine castLt (by assumption) ?_; with_unfolding_all decide) | (refine castLt2 (by assumption) (by assumption) ?_; with_unfolding_all decide) | (refine castLe ?_; with_unfolding_all decide) | (refine Int.le_trans (by assumption) ?_; with_unfolding_all decide) | (with_unfolding_all decide)))
  trivial
theorem pow_zero {prog : Program} {w : World} {A : Around} {E : Value → Shared → Prop} {s : Shared} {a n : Int} {t u : Tok} {Q : Value → Shared → Prop} (e : n = 0) (ha : a.natAbs < 2 ^ 64) (h : Q (.int 1 s.toks) { s with toks := s.toks + 1 }) :
    wpAny (model prog w) A (binaryOp .Pow (.int a t) (.int n u)) Q E s := by
  subst e
  exact pow_int_small (by decide) (by decide) ha (by rw [show a ^ Int.toNat 0 = 1 from Int.pow_zero a]; exact h)
example : True := by
  k_with "all" => (assumption)
  trivial
example : True := by
  k_with "turns" => ((first | with_reducible assumption | with_reducible exact List.mem_cons_self | ((with_reducible refine List.mem_cons_of_mem _ ?_); (k_extra "turns")) | ((with_reducible show _ ∈ _ ++ _); first | (refine List.mem_append_right _ ?_; (k_extra "turns")) | (refine List.mem_append_left _ ?_; (k_extra "turns")))))
  trivial
example : True := by
  k_with "mem" => (((show (_ : Addr × Obj) ∈ (_ : List (Addr × Obj))); (k_extra "turns")))
  trivial
example : True := by
  k_with "len" => (first | omega | (simp only [List.length_append, List.length_cons, List.length_nil] at *; omega))
  trivial
example : True := by
  k_with "rel" => (first | assumption | (refine DecIn.right ?K9kr; (case K9kr => (k_extra "rel"))) | (refine DecIn.left ?K9kr; (case K9kr => (k_extra "rel"))) | (refine' DecIn.mk _ _ _ _ _ _ _ _ ?K9m1 ?K9m2; (case K9m1 => k_mem); (case K9m2 => k_mem)))
  trivial
section
variable {M : Model} {A : Around} {E : Value → Shared → Prop} {s : Shared} {st : Stmt} {rest : List Stmt} {env : Env} {Q : Flow → Shared → Prop}
theorem cut_next (h : ∀ Q' : Flow → Shared → Prop, Nexts Q' (fun s' => wpAny M A (execs rest env) Q E s') → wpAny M A (exec st env) Q' E s) : wpAny M A (execs (st :: rest) env) Q E s :=
  wpAny_execs_cons (h _ fun _ k => k)
theorem cut_ret (h : ∀ Q' : Flow → Shared → Prop, Rets Q' (fun v s' => Q (.ret v) s') → Nexts Q' (fun s' => wpAny M A (execs rest env) Q E s') → wpAny M A (exec st env) Q' E s) : wpAny M A (execs (st :: rest) env) Q E s :=
  wpAny_execs_cons (h _ (fun _ _ k => k) fun _ k => k)
theorem gen_body {b : List Stmt} (h : ∀ Q', Rets Q' (fun v s' => Q (.ret v) s') → Nexts Q' (fun s' => Q .next s') → wpAny M A (execs b env) Q' E s) : wpAny M A (execs b env) Q E s := h Q (fun _ _ k => k) fun _ k => k
end
theorem wp_tks {α : Type} {M : Model} {A : Around} {t : Sem α} {Q : α → Shared → Prop} {E : Value → Shared → Prop} {hp : Heap} {g : Array GenState} {dr : Drawn} {n k : Nat} {os : OsState} (h : ∀ tk, wpAny M A t Q E ⟨hp, g, dr, tk, os⟩) : wpAny M A t Q E ⟨hp, g, dr, n + k, os⟩ := h (n + k)
theorem enter_A {M : Model} {α : Type} {t : Sem α} {Q : α → Shared → Prop} {E : Value → Shared → Prop} {s : Shared} {d u K : Nat} {f : Option (List Env)} {g : Option (List Code)} {env env' : Env} {outer : List Env} (hA : f = some (env :: outer)) (hd : d + K < recursionLimit) (hu : u + 10 * K < cLine) (hK : Nat.ble 1 K = true)
    (h : ∀ d' f' u', f' = some (env' :: env :: outer) → d' + (K - 1) < recursionLimit → u' + (10 * K - 3) < cLine → wpAny M (arT d' f' g u') t Q E s) : wpAny M ((arT d f g u).deeper env') t Q E s := by
  have hK := Nat.le_of_ble_eq_true hK
  subst hA
  refine h _ _ _ rfl ?_ ?_
  · rw [Nat.add_assoc, Nat.add_sub_cancel' hK]; exact hd
  · rw [Nat.add_assoc, Nat.add_sub_cancel' (Nat.le_trans (by decide : 3 ≤ 10 * 1) (Nat.mul_le_mul_left 10 hK))]; exact hu
theorem gen_never {M : Model} {A : Around} {α : Type} {t : Sem α} {Q : α → Shared → Prop} {E : Value → Shared → Prop} {s : Shared} (h : wpAny M A t Q (fun _ _ => False) s) : wpAny M A t Q E s := wpAny_mono h (fun _ _ k => k) fun _ _ k => k.elim
example : True := by
  k_with "gen" => (((try (with_reducible refine enter_A (by assumption) (by assumption) (by assumption) (by with_unfolding_all exact rfl) fun d8 f8 u8 hf8 hd8 hu8 => ?_)); (with_reducible refine gen_never ?_); (with_reducible refine gen_body fun Q8 hR8 hQ8 => ?_)))
  trivial
example : True := by
  k_with "steps" => (repeat' (first | k_extra "leaf" | (k_unfold; (try dsimp only)) | (k_end; kc_close) | walk1 | (dsimp only; walk1) | (leave1; walk_say "STEP leave1"; (try dsimp only)) | fail "no step"))
  trivial
example : True := by
  k_with "leaf" => (first | (with_reducible (refine hQ9 (Shared.mk _ sg sd _ so) ?_; clear hQ9; (try clear hR9); clear Q9)) | (refine hQ9 (Shared.mk _ sg sd _ so) ?_; clear hQ9; (try clear hR9); clear Q9) | (with_reducible first | (refine hQ9 _ ?_; clear hQ9; (try clear hR9); clear Q9) | (refine hR9 _ _ ?_; clear hR9; (try clear hQ9); clear Q9) | (refine (?K9h : Nexts _ _) _ ?_; (case K9h => assumption)) | (refine (?K9h : Rets _ _) _ _ ?_; (case K9h => assumption))))
  trivial
example : True := by
  k_with "K execs cons Assign" => ((with_reducible refine cut_next fun Q9 hQ9 => ?_))
  trivial
example : True := by
  k_with "K execs cons Assign" => ((with_reducible refine wp_tks fun tk9 => ?_))
  trivial
example : True := by
  k_with "K execs cons Expr" => ((with_reducible refine cut_next fun Q9 hQ9 => ?_))
  trivial
example : True := by
  k_with "K execs cons Expr" => ((with_reducible refine wp_tks fun tk9 => ?_))
  trivial
example : True := by
  k_with "K execs cons AugAssign" => ((with_reducible refine cut_next fun Q9 hQ9 => ?_))
  trivial
example : True := by
  k_with "K execs cons AugAssign" => ((with_reducible refine wp_tks fun tk9 => ?_))
  trivial
example : True := by
  k_with "K execs cons If" => ((with_reducible refine cut_ret fun Q9 hR9 hQ9 => ?_))
  trivial
example : True := by
  k_with "K execs cons If" => ((with_reducible refine wp_tks fun tk9 => ?_))
  trivial
example : True := by
  k_with "K execs cons For" => ((with_reducible refine cut_ret fun Q9 hR9 hQ9 => ?_))
  trivial
example : True := by
  k_with "K execs cons For" => ((with_reducible refine wp_tks fun tk9 => ?_))
  trivial
example : True := by
  k_with "K execs cons While" => ((with_reducible refine cut_ret fun Q9 hR9 hQ9 => ?_))
  trivial
example : True := by
  k_with "K execs cons While" => ((with_reducible refine wp_tks fun tk9 => ?_))
  trivial
example : True := by
  k_with "K execs cons Return" => ((with_reducible refine cut_ret fun Q9 hR9 hQ9 => ?_))
  trivial
example : True := by
  k_with "K execs cons Return" => ((with_reducible refine wp_tks fun tk9 => ?_))
  trivial
example : True := by
  k_with "K binaryOp Pow int int" => ((with_reducible refine pow_zero ?K9ke ?K9ka ?_; (case K9ke => decide); (case K9ka => decide)))
  trivial
example : True := by
  k_with "unf" => (first | assumption | exact Around.frames_deeper (by assumption) | exact Around.frames_deeper (Around.frames_deeper (by assumption)) | ktr_unf)
  trivial
example : True := by
  k_with "room" => (first | (show (_ : Nat) + _ < _; omega) | (show (_ : Nat) < _; omega) | ((simp only [depth_under_make, depth_under_kw, depth_in1, depth_deeper, arT]); omega) | ktr_room)
  trivial
example : True := by
  k_with "units" => (first | (show (_ : Nat) + _ < _; omega) | ((have hcL9 := cLine_is); (simp only [units_in1, units_deeper, Around.mark_units, units_caller, arT]); omega) | ktr_units)
  trivial
example : True := by
  k_with "kroom" => ((k_extra "room"))
  trivial
example : True := by
  k_with "enter" => (first | (refine' code_def ?K9k1 ?K9k2 ?K9k3 ?K9k4 ?K9k5 ?K9kA ?K9kF ?K9kK ?K9k6 ?K9k7 ?K9k8 ?K9k9 ?K9kB ?_ ?K9c2 ?K9c3 ?K9c4 ?K9c5; (case K9kA => (k_extra "unf")); (case K9kF => first | assumption | exact rfl); (case K9kK => first | assumption | exact rfl); (case K9k1 => k_asm); (case K9k2 => k_asm); (case K9k3 => k_asm); (case K9k4 => k_asm); (case K9k5 => k_asm); (case K9k6 => k_is); (case K9k7 => k_is); (case K9k8 => (k_extra "room")); (case K9k9 => exact BindsTo.of_eq rfl); (case K9c5 => decide); (case K9kB => exact locs rfl); (case K9c2 => exact rfl); (case K9c3 => exact rfl); (case K9c4 => exact rfl); k_whole; intro _ _ _ _ _ _ _ _ _; (try dsimp only); (try (k_extra "gen"))) | (refine' code_defC ?K9k1 ?K9k2 ?K9k3 ?K9k4 ?K9k5 ?K9kA ?K9kF ?K9kK ?K9k6 ?K9k7 ?K9k8 ?K9k9 ?K9kB ?K9kD ?_ ?K9c2 ?K9c3 ?K9c4; (case K9kA => (k_extra "unf")); (case K9kF => first | assumption | exact rfl); (case K9kK => first | assumption | exact rfl); (case K9k1 => k_asm); (case K9k2 => k_asm); (case K9k3 => k_asm); (case K9k4 => k_asm); (case K9k5 => k_asm); (case K9k6 => k_is); (case K9k7 => k_is); (case K9k8 => (k_extra "room")); (case K9k9 => exact BindsTo.of_eq rfl); (case K9kB => exact rfl); (case K9kD => decide +kernel); (case K9c2 => exact rfl); (case K9c3 => exact rfl); (case K9c4 => exact rfl); k_whole; intro _ _ _ _ _ _ _ N19 Y19 _ _ _ l19; (try k_lt l19); k_cells Y19; (try simp only [List.cons_append, List.nil_append] at N19); (try dsimp only); (try (k_extra "gen"))) | ktr_enter)
  trivial
example : True := by
  k_with "kenter" => ((k_extra "enter"))
  trivial
theorem ndec_fin {Q : Value → Shared → Prop} {s : Shared} {h₀ h' : Heap} {L : Addr} {m : Str → Option Value} {news : List (Addr × Obj)} {x d : Addr} {k1 k2 i : Int} {t1 t2 t3 t4 : Tok} {n tk' : Nat}
    (ret : ∀ x tl h' tk', Fr h₀ L h' m → News h₀ L h' (tl ++ news) → DecIn tl x i → (∀ p ∈ tl, ∀ q ∈ news, q.1 < p.1) → Q (.ref x) { s with heap := h', toks := tk' }) (F : Fr h₀ L h' m)
    (N : News h₀ L h' ((x, instObj 143 d) :: (d, dictOf [⟨k1, .str (Str.ofString "top") t1, .int i t2⟩, ⟨k2, .str (Str.ofString "places") t3, .int 0 t4⟩] n) :: news)) (l1 : ∀ p ∈ news, p.1 < d) (l2 : @LT.lt Nat _ d x) : Q (.ref x) { s with heap := h', toks := tk' } := by
  refine ret x [(x, instObj 143 d), (d, dictOf [⟨k1, .str (Str.ofString "top") t1, .int i t2⟩, ⟨k2, .str (Str.ofString "places") t3, .int 0 t4⟩] n)] _ _ F N (.mk d k1 k2 t1 t2 t3 t4 n (.head _) (.tail _ (.head _))) ?_
  intro p hp q hq
  rcases List.mem_cons.mp hp with rfl | hp
  · exact Nat.lt_trans (l1 q hq) l2
  · obtain rfl := List.mem_singleton.mp hp
    exact l1 q hq
theorem one_fin {Q : Value → Shared → Prop} {s : Shared} {h₀ h' : Heap} {L : Addr} {m : Str → Option Value} {news : List (Addr × Obj)} {P : List (Addr × Obj) → Addr → Prop} {x : Addr} {o : Obj} {tk' : Nat}
    (ret : ∀ x tl h' tk', Fr h₀ L h' m → News h₀ L h' (tl ++ news) → P tl x → (∀ p ∈ tl, ∀ q ∈ news, q.1 < p.1) → Q (.ref x) { s with heap := h', toks := tk' }) (F : Fr h₀ L h' m)
    (N : News h₀ L h' ((x, o) :: news)) (l : ∀ p ∈ news, p.1 < x) (hP : P [(x, o)] x) : Q (.ref x) { s with heap := h', toks := tk' } :=
  ret x [(x, o)] _ _ F N hP fun p hp q hq => by rw [List.mem_singleton.mp hp]; exact l q hq
/-- a new Decimal without places -/
theorem new_dec_ok (w : World) (i : Int) (tk tk2 : Tok) (news : List (Addr × Obj)) : DoesN w 3 143 [.int i tk, .int 0 tk2] news (fun tl x => DecIn tl x i) := by
  unfold DoesN
  intro d f g u h₀ L m s Q E hA hd hu F N ret
  obtain ⟨sh, sg, sd, stk, so⟩ := s
  dsimp only at F N ret
  cases hA with | mk A₀ base env outer mean mg mb B X T hA hf hk =>
  revert X
  k_fill
  intro X
  k_dflt (refine' call_cls ?k1 ?k2 ?k3 ?k4 ?k5 ?k6 ?_; (case k1 => k_asm); (case k2 => k_asm); (case k3 => k_asm); (case k4 => k_is); (case k5 => k_is); (case k6 => k_is); k_whole; intro x9 d9 h9 F9 N9 l1 l2; (try k_lt2 l2); (k_extra "enter"))
  k_steps
  rename (_ ≤ (0 : Int)) => e1
  rename (min (0 : Int) 0 ≤ _) => e2
  obtain rfl := Int.le_antisymm e1 (by omega)
  refine' ndec_fin (s := ⟨sh, sg, sd, stk, so⟩) ret ?zF ?zN l1 l2
  (case zF => k_asm)
  (case zN => k_asm)
example : True := by
  k_with "K call ref" => (((k_here; (with_reducible show wpAny _ _ (call (Value.ref 143) _) _ _ _); k_dflt (refine' DoesN.use (new_dec_ok _ _ _ _ _) ?K9k1 ?K9k2 ?K9k3 ?K9k4 ?K9k5 ?K9kA ?K9kF ?K9kK ?K9kd ?K9ku ?_; (case K9k1 => k_asm); (case K9k2 => k_asm); (case K9k3 => k_asm); (case K9k4 => k_asm); (case K9k5 => k_asm); (case K9kA => (k_extra "unf")); (case K9kF => first | assumption | exact rfl); (case K9kK => first | assumption | exact rfl); (case K9kd => (k_extra "room")); (case K9ku => (k_extra "units"))); intro _ _ _ _ _ _ _ _); (try dsimp only)))
  trivial
inductive ScIn (i j : Int) (tl : List (Addr × Obj)) (x : Addr) : Prop
  | mk (t1 t2 t3 : Tok) (n : Nat) : (x, tupO [.int i t1, .int j t2, .int 0 t3] n) ∈ tl → ScIn i j tl x
theorem less_fin {Q : Value → Shared → Prop} {s : Shared} {h₀ h' : Heap} {L : Addr} {m : Str → Option Value} {news rest : List (Addr × Obj)} {P : List (Addr × Obj) → Addr → Prop} {x : Addr} {tl : List (Addr × Obj)} {tk' : Nat}
    (ret : ∀ x tl h' tk', Fr h₀ L h' m → News h₀ L h' (tl ++ news) → P tl x → (∀ p ∈ tl, ∀ q ∈ news, q.1 < p.1) → Q (.ref x) { s with heap := h', toks := tk' }) (F : Fr h₀ L h' m)
    (N : News h₀ L h' (tl ++ rest)) (D : P tl x) (l : ∀ p ∈ tl, ∀ q ∈ rest, q.1 < p.1) (hs : ∀ p ∈ news, p ∈ rest) : Q (.ref x) { s with heap := h', toks := tk' } :=
  ret x tl _ _ F (fun p hp => N p ((List.mem_append.mp hp).elim (fun h => List.mem_append_left _ h) fun h => List.mem_append_right _ (hs p h))) D fun p hp q hq => l p hp q (hs q hq)
theorem scale_ok (w : World) (a1 a2 : Addr) (i j : Int) (news : List (Addr × Obj)) (h1 : DecIn news a1 i) (h2 : DecIn news a2 j) : DoesN w 3 175 [.ref a1, .ref a2] news
    (ScIn i j) := by
  unfold DoesN
  intro d f g u h₀ L m s Q E hA hd hu F N ret
  obtain ⟨sh, sg, sd, stk, so⟩ := s
  dsimp only at F N ret
  cases hA with | mk A₀ base env outer mean mg mb B X T hA hf hk =>
  revert X
  k_fill
  intro X
  cases h1 with | mk xd xk1 xk2 xt1 xt2 xt3 xt4 xn xm1 xm2 =>
  cases h2 with | mk xd' xk1' xk2' xt1' xt2' xt3' xt4' xn' xm1' xm2' =>
  refine wpAny_call ?_
  k_dflt (k_extra "enter")
  k_steps
  simp only [Int.mul_one] at *
  refine' one_fin (s := ⟨sh, sg, sd, stk, so⟩) ret ?zF ?zN ?zl ⟨_, _, _, _, .head _⟩
  (case zF => k_asm)
  (case zN => k_asm)
  (case zl => assumption)
example : True := by
  k_with "K call ref" => (((k_here; (with_reducible show wpAny _ _ (call (Value.ref 175) _) _ _ _); k_dflt (refine' DoesN.use (scale_ok _ _ _ _ _ _ ?K9h1 ?K9h2) ?K9k1 ?K9k2 ?K9k3 ?K9k4 ?K9k5 ?K9kA ?K9kF ?K9kK ?K9kd ?K9ku ?_; (case K9k1 => k_asm); (case K9k2 => k_asm); (case K9k3 => k_asm); (case K9k4 => k_asm); (case K9k5 => k_asm); (case K9h1 => (k_extra "rel")); (case K9h2 => (k_extra "rel")); (case K9kA => (k_extra "unf")); (case K9kF => first | assumption | exact rfl); (case K9kK => first | assumption | exact rfl); (case K9kd => (k_extra "room")); (case K9ku => (k_extra "units"))); intro _ _ _ _ _ _ D9 _; obtain ⟨_, _, _, _, D9⟩ := D9); (try dsimp only)))
  trivial
theorem minus_ok (w : World) (a1 a2 : Addr) (i j : Int) (news : List (Addr × Obj)) (h1 : DecIn news a1 i) (h2 : DecIn news a2 j) : DoesN w 5 77 [.ref a1, .ref a2] news (fun tl x => DecIn tl x (i - j)) := by
  unfold DoesN
  intro d f g u h₀ L m s Q E hA hd hu F N ret
  obtain ⟨sh, sg, sd, stk, so⟩ := s
  dsimp only at F N ret
  cases hA with | mk A₀ base env outer mean mg mb B X T hA hf hk =>
  revert X
  k_fill
  intro X
  refine wpAny_call ?_
  k_dflt (k_extra "enter")
  k_steps
  refine' less_fin (s := ⟨sh, sg, sd, stk, so⟩) ret ?zF ?zN ?zD ?zl ?zs
  (case zF => k_asm)
  (case zN => k_asm)
  (case zD => assumption)
  (case zl => assumption)
  exact fun p hp => List.mem_append_right _ hp
example : True := by
  k_with "K call ref" => (((k_here; (with_reducible show wpAny _ _ (call (Value.ref 77) _) _ _ _); k_dflt (refine' DoesN.use (minus_ok _ _ _ _ _ _ ?K9h1 ?K9h2) ?K9k1 ?K9k2 ?K9k3 ?K9k4 ?K9k5 ?K9kA ?K9kF ?K9kK ?K9kd ?K9ku ?_; (case K9k1 => k_asm); (case K9k2 => k_asm); (case K9k3 => k_asm); (case K9k4 => k_asm); (case K9k5 => k_asm); (case K9h1 => (k_extra "rel")); (case K9h2 => (k_extra "rel")); (case K9kA => (k_extra "unf")); (case K9kF => first | assumption | exact rfl); (case K9kK => first | assumption | exact rfl); (case K9kd => (k_extra "room")); (case K9ku => (k_extra "units"))); intro _ _ _ _ _ _ D9 _; obtain ⟨_, _, _, _, _, _, _, _, _, _⟩ := id D9); (try dsimp only)))
  trivial
theorem decof_ok (w : World) (k : Int) (tk : Tok) (news : List (Addr × Obj)) : DoesN w 5 168 [.int k tk] news (fun tl x => DecIn tl x k) := by
  unfold DoesN
  intro d f g u h₀ L m s Q E hA hd hu F N ret
  obtain ⟨sh, sg, sd, stk, so⟩ := s
  dsimp only at F N ret
  cases hA with | mk A₀ base env outer mean mg mb B X T hA hf hk =>
  revert X
  k_fill
  intro X
  refine wpAny_call ?_
  k_dflt (k_extra "enter")
  k_steps
  refine' less_fin (s := ⟨sh, sg, sd, stk, so⟩) (rest := news) ret ?zF ?zN ?zD ?zl ?zs
  (case zF => k_asm)
  (case zN => k_asm)
  (case zD => assumption)
  (case zl => assumption)
  exact fun p hp => hp
example : True := by
  k_with "K call ref" => (((k_here; (with_reducible show wpAny _ _ (call (Value.ref 168) [Value.int _ _]) _ _ _); k_dflt (refine' DoesN.use (decof_ok _ _ _ _) ?K9k1 ?K9k2 ?K9k3 ?K9k4 ?K9k5 ?K9kA ?K9kF ?K9kK ?K9kd ?K9ku ?_; (case K9k1 => k_asm); (case K9k2 => k_asm); (case K9k3 => k_asm); (case K9k4 => k_asm); (case K9k5 => k_asm); (case K9kA => (k_extra "unf")); (case K9kF => first | assumption | exact rfl); (case K9kK => first | assumption | exact rfl); (case K9kd => (k_extra "room")); (case K9ku => (k_extra "units"))); intro _ _ _ _ _ _ D9 _; obtain ⟨_, _, _, _, _, _, _, _, D9, _⟩ := D9); (try dsimp only)))
  trivial
theorem times_ok (w : World) (a1 : Addr) (i k : Int) (tk : Tok) (news : List (Addr × Obj)) (h1 : DecIn news a1 i) (hs1 : -1000 ≤ i) (hs2 : i ≤ 1000) (hk1 : -1000 ≤ k) (hk2 : k ≤ 1000) : DoesN w 6 84 [.ref a1, .int k tk] news (fun tl x => DecIn tl x (i * k)) := by
  unfold DoesN
  intro d f g u h₀ L m s Q E hA hd hu F N ret
  obtain ⟨sh, sg, sd, stk, so⟩ := s
  dsimp only at F N ret
  cases hA with | mk A₀ base env outer mean mg mb B X T hA hf hk =>
  revert X
  k_fill
  intro X
  cases h1 with | mk xd xk1 xk2 xt1 xt2 xt3 xt4 xn xm1 xm2 =>
  refine wpAny_call ?_
  k_dflt (k_extra "enter")
  k_steps
  refine' less_fin (s := ⟨sh, sg, sd, stk, so⟩) ret ?zF ?zN ?zD ?zl ?zs
  (case zF => k_asm)
  (case zN => k_asm)
  (case zD => assumption)
  (case zl => assumption)
  exact fun p hp => List.mem_append_right _ hp
example : True := by
  k_with "K call ref" => (((k_here; (with_reducible show wpAny _ _ (call (Value.ref 84) _) _ _ _); k_dflt (refine' DoesN.use (times_ok _ _ _ _ _ _ ?K9h1 ?K9h2 ?K9h3 ?K9h4 ?K9h5) ?K9k1 ?K9k2 ?K9k3 ?K9k4 ?K9k5 ?K9kA ?K9kF ?K9kK ?K9kd ?K9ku ?_; (case K9k1 => k_asm); (case K9k2 => k_asm); (case K9k3 => k_asm); (case K9k4 => k_asm); (case K9k5 => k_asm); (case K9h1 => (k_extra "rel")); (case K9h2 => omega); (case K9h3 => omega); (case K9h4 => omega); (case K9h5 => omega); (case K9kA => (k_extra "unf")); (case K9kF => first | assumption | exact rfl); (case K9kK => first | assumption | exact rfl); (case K9kd => (k_extra "room")); (case K9ku => (k_extra "units"))); intro _ _ _ _ _ _ D9 _; obtain ⟨_, _, _, _, _, _, _, _, _, _⟩ := id D9); (try dsimp only)))
  trivial
theorem compared_ok (w : World) (a1 a2 : Addr) (i j : Int) (news : List (Addr × Obj)) (h1 : DecIn news a1 i) (h2 : DecIn news a2 j) : DoesV w 5 98 [.ref a1, .ref a2] news
    (fun t => .int (if i = j then 0 else if i < j then -1 else 1) t) := by
  unfold DoesV
  intro d f g u h₀ L m s Q E hA hd hu F N ret
  obtain ⟨sh, sg, sd, stk, so⟩ := s
  dsimp only at F N ret
  cases hA with | mk A₀ base env outer mean mg mb B X T hA hf hk =>
  revert X
  k_fill
  intro X
  refine wpAny_call ?_
  k_dflt (k_extra "enter")
  k_steps
  have e : (if i - j = 0 then 0 else if 0 < i - j then 1 else -1) = (if i = j then (0 : Int) else if i < j then -1 else 1) := by
    split <;> split <;> (try omega) <;> split <;> omega
  rw [e]
  refine' ret _ _ _ ?zF ?zN
  (case zF => k_asm)
  (case zN => exact News.less (by k_asm) fun p hp => List.mem_append_right _ hp)
example : True := by
  k_with "K call ref" => (((k_here; (with_reducible show wpAny _ _ (call (Value.ref 98) _) _ _ _); k_dflt (refine' DoesV.use (compared_ok _ _ _ _ _ _ ?K9h1 ?K9h2) ?K9k1 ?K9k2 ?K9k3 ?K9k4 ?K9k5 ?K9kA ?K9kF ?K9kK ?K9kd ?K9ku ?_; (case K9k1 => k_asm); (case K9k2 => k_asm); (case K9k3 => k_asm); (case K9k4 => k_asm); (case K9k5 => k_asm); (case K9h1 => (k_extra "rel")); (case K9h2 => (k_extra "rel")); (case K9kA => (k_extra "unf")); (case K9kF => first | assumption | exact rfl); (case K9kK => first | assumption | exact rfl); (case K9kd => (k_extra "room")); (case K9ku => (k_extra "units"))); intro _ _ _ _ _); (try dsimp only)))
  trivial

theorem partP2 : True := by
  w_top off
  trivial
theorem absolute_ok (w : World) (a1 : Addr) (i : Int) (hi : 0 ≤ i) (news : List (Addr × Obj)) (h1 : DecIn news a1 i) : DoesV w 3 182 [.ref a1] news (fun _ => .ref a1) := by
  unfold DoesV
  intro d f g u h₀ L m s Q E hA hd hu F N ret
  obtain ⟨sh, sg, sd, stk, so⟩ := s
  dsimp only at F N ret
  cases hA with | mk A₀ base env outer mean mg mb B X T hA hf hk =>
  revert X
  k_fill
  intro X
  cases h1 with | mk xd xk1 xk2 xt1 xt2 xt3 xt4 xn xm1 xm2 =>
  refine wpAny_call ?_
  k_dflt (k_extra "enter")
  k_steps
  refine' ret 0 _ _ ?zF ?zN
  (case zF => k_asm)
  (case zN => k_asm)
example : True := by
  k_with "K call ref" => (((k_here; (with_reducible show wpAny _ _ (call (Value.ref 182) _) _ _ _); k_dflt (refine' DoesV.use (absolute_ok _ _ _ ?K9h2 _ ?K9h1) ?K9k1 ?K9k2 ?K9k3 ?K9k4 ?K9k5 ?K9kA ?K9kF ?K9kK ?K9kd ?K9ku ?_; (case K9k1 => k_asm); (case K9k2 => k_asm); (case K9k3 => k_asm); (case K9k4 => k_asm); (case K9k5 => k_asm); (case K9h1 => (k_extra "rel")); (case K9h2 => omega); (case K9kA => (k_extra "unf")); (case K9kF => first | assumption | exact rfl); (case K9kK => first | assumption | exact rfl); (case K9kd => (k_extra "room")); (case K9ku => (k_extra "units"))); intro _ _ _ _ _); (try dsimp only)))
  trivial
theorem apart_ok (w : World) (v1 v2 : Value) (g1 g2 : Gl) (tk : Tok) (news : List (Addr × Obj)) (h1 : GlIn news v1 g1) (h2 : GlIn news v2 g2) (hb1 : 0 ≤ g1.at_) (hb2 : g1.at_ ≤ 100) (hb3 : 0 ≤ g2.at_) (hb4 : g2.at_ ≤ 100) : DoesV w 8 217 [v1, v2, .int 5 tk] news
    (fun _ => .bool (decide (5 < g2.at_ - g1.at_ - 4))) := by
  unfold DoesV
  intro d f g u h₀ L m s Q E hA hd hu F N ret
  obtain ⟨sh, sg, sd, stk, so⟩ := s
  dsimp only at F N ret
  cases hA with | mk A₀ base env outer mean mg mb B X T hA hf hk =>
  revert X
  k_fill
  intro X
  cases h1 with | mk ga gd gx gy gw gs gk1 gk2 gk3 gk4 gk5 gt0 gt1 gt2 gt3 gt4 gt5 gn gpy gtx gi gm1 gm2 gx1 gy1 gw1 gs1 =>
  cases h2 with | mk ga' gd' gx' gy' gw' gs' gk1' gk2' gk3' gk4' gk5' gt0' gt1' gt2' gt3' gt4' gt5' gn' gpy' gtx' gi' gm1' gm2' gx1' gy1' gw1' gs1' =>
  clear gy1 gy1' gw1' gs1'
  cases gx1' with | mk yd xk1 xk2 xt1 xt2 xt3 xt4 xn xm1 xm2 =>
  cases gs1 with | mk zd xk1 xk2 xt1 xt2 xt3 xt4 xn xm1 xm2 =>
  dsimp only at hb1 hb2 hb3 hb4 ret
  refine wpAny_call ?_
  k_dflt (k_extra "enter")
  k_steps
  have e : decide ((0 : Int) < if (gi' - gi - 4) * 10 = 10 * 5 then 0 else if (gi' - gi - 4) * 10 < 10 * 5 then -1 else 1) = decide (5 < gi' - gi - 4) := by
    refine decide_eq_decide.mpr ?_
    split
    · omega
    · split <;> omega
  rw [e]
  refine' ret 0 _ _ ?zF ?zN
  (case zF => k_asm)
  (case zN => exact News.less (by k_asm) fun p hp => List.mem_append_right _ (List.mem_append_right _ (List.mem_append_right _ (List.mem_append_right _ hp))))
example : True := by
  k_with "K call ref" => (((k_here; (with_reducible show wpAny _ _ (call (Value.ref 217) _) _ _ _); k_dflt (refine' DoesV.use (apart_ok _ _ _ _ _ _ _ ?K9h1 ?K9h2 ?K9h3 ?K9h4 ?K9h5 ?K9h6) ?K9k1 ?K9k2 ?K9k3 ?K9k4 ?K9k5 ?K9kA ?K9kF ?K9kK ?K9kd ?K9ku ?_; (case K9k1 => k_asm); (case K9k2 => k_asm); (case K9k3 => k_asm); (case K9k4 => k_asm); (case K9k5 => k_asm); (case K9h1 => assumption); (case K9h2 => assumption); (case K9h3 => omega); (case K9h4 => omega); (case K9h5 => omega); (case K9h6 => omega); (case K9kA => (k_extra "unf")); (case K9kF => first | assumption | exact rfl); (case K9kK => first | assumption | exact rfl); (case K9kd => (k_extra "room")); (case K9ku => (k_extra "units"))); intro _ _ _ _ _); (try dsimp only)))
  trivial

theorem partP3 : True := by
  w_top off
  trivial
inductive ItemAt (vs : List Value) (k : Int) (v : Value) : Prop
  | pos : 0 ≤ k → k < 2 ^ 63 → vs[k.toNat]? = some v → ItemAt vs k v
  | neg : k < 0 → -(vs.length : Int) ≤ k → -(2 ^ 63) ≤ k → vs[(k + vs.length).toNat]? = some v → ItemAt vs k v
inductive LenAt (vs : List Value) (k : Nat) : Prop
  | mk : vs.length = k → k ≤ 1000 → LenAt vs k
theorem item_last (vs : List Value) (v : Value) : ItemAt (vs ++ [v]) (-1) v := by
  refine .neg (by decide) (by rw [List.length_append, List.length_singleton]; omega) (by decide) ?_
  have e : (-1 + ((vs ++ [v]).length : Int)).toNat = vs.length := by rw [List.length_append, List.length_singleton]; omega
  rw [e, List.getElem?_append_right (Nat.le_refl _), Nat.sub_self]
  rfl
theorem item_last2 (vs : List Value) (v v2 : Value) : ItemAt (vs ++ [v2] ++ [v]) (-2) v2 := by
  have h2 : (vs ++ [v2] ++ [v]).length = vs.length + 2 := by simp
  refine .neg (by decide) (by rw [h2]; omega) (by decide) ?_
  have e : (-2 + ((vs ++ [v2] ++ [v]).length : Int)).toNat = vs.length := by rw [h2]; omega
  rw [e, List.append_assoc, List.getElem?_append_right (Nat.le_refl _), Nat.sub_self]
  rfl
section
variable {prog : Program} {w : World} {A : Around} {E : Value → Shared → Prop} {s : Shared} {h₀ : Heap} {L l : Addr} {news : List (Addr × Obj)} {vs : List Value} {n k : Nat} {i : Int} {u : Tok} {v : Value} {Q : Value → Shared → Prop} {value slice : PySem.Expr}
theorem item_L (N : News h₀ L s.heap news) (hm : (l, listOf vs.toArray n) ∈ news) (hi : ItemAt vs i v) (h : Q v s)
    (hs : subscripted slice false (.ref l) (.int i u) = operate [.ref l, .int i u] (getItem (.ref l) (.int i u))) : wpAny (model prog w) A (subscriptTail value slice (.ref l) (.int i u)) Q E s := by
  have hl : s.heap.IsList l vs.toArray := News.isList N hm
  cases hi with
  | pos a b c => exact tail_any hl.typeIs slot_list_getitem.lookup (wpAny_getItem_list hl a b (by simpa using c) h) hs
  | neg a b c d => exact tail_any hl.typeIs slot_list_getitem.lookup (wpAny_getItem_list_neg hl a (by simpa using b) c (by simpa using d) h) hs
theorem item_T {l : Addr} {vs : List Value} {i : Int} {n : Nat} (N : News h₀ L s.heap news) (hm : (l, tupO vs n) ∈ news) (hi : (0 ≤ i ∧ i < 2 ^ 63) ∧ vs[i.toNat]? = some v) (h : Q v s)
    (hs : subscripted slice false (.ref l) (.int i u) = operate [.ref l, .int i u] (getItem (.ref l) (.int i u))) : wpAny (model prog w) A (subscriptTail value slice (.ref l) (.int i u)) Q E s := by
  have ht : IsTup s.heap l vs.toArray := ⟨_, (N _ hm).1, rfl, _, rfl⟩
  obtain ⟨⟨h0, h1⟩, hv⟩ := hi
  have hlt : i.toNat < vs.length := (List.getElem?_eq_some_iff.mp hv).1
  refine tail_any ht.typeIs slot_tuple_getitem.lookup (PyProof.Rows.getItem_tuple (j := i.toNat) ht (by omega) h1 ?_ (by simpa using hv) h) hs
  unfold seqIndex?
  rw [List.size_toArray]
  have hn : ¬ i < 0 := by omega
  have h2 : i < (vs.length : Int) := by omega
  simp [hn, h0, h2]
theorem len_L (N : News h₀ L s.heap news) (hm : (l, listOf vs.toArray n) ∈ news) (hk : LenAt vs k) (h : Q (.int (k : Int) (s.toks + 1)) { s with toks := s.toks + 1 + 1 }) : wpAny (model prog w) A (call (.builtin "len") [.ref l]) Q E s := by
  cases hk with | mk a b => exact kst_len N hm a (by omega) h
end
example : True := by
  k_with "K subscriptTail Name UnaryOp ref int" => (((k_here; (with_reducible show wpAny _ _ (subscriptTail _ _ (Value.ref _) (Value.int _ _)) _ _ _); first | (k_dflt (refine' item_T ?K9k1 ?K9k2 ?K9k3 ?_ ?K9k5; (case K9k1 => k_asm); (case K9k2 => k_mem); (case K9k3 => first | exact ⟨by decide, rfl⟩ | assumption); (case K9k5 => with_unfolding_all rfl))) | (k_dflt (refine' item_L ?K9k1 ?K9k2 ?K9k3 ?_ ?K9k5; (case K9k1 => k_asm); (case K9k2 => k_mem); (case K9k3 => with_reducible assumption); (case K9k5 => with_unfolding_all rfl)))); (try dsimp only)))
  trivial
example : True := by
  k_with "K subscriptTail Name Constant ref int" => (((k_here; (with_reducible show wpAny _ _ (subscriptTail _ _ (Value.ref _) (Value.int _ _)) _ _ _); first | (k_dflt (refine' item_T ?K9k1 ?K9k2 ?K9k3 ?_ ?K9k5; (case K9k1 => k_asm); (case K9k2 => k_mem); (case K9k3 => first | exact ⟨by decide, rfl⟩ | assumption); (case K9k5 => with_unfolding_all rfl))) | (k_dflt (refine' item_L ?K9k1 ?K9k2 ?K9k3 ?_ ?K9k5; (case K9k1 => k_asm); (case K9k2 => k_mem); (case K9k3 => with_reducible assumption); (case K9k5 => with_unfolding_all rfl)))); (try dsimp only)))
  trivial
example : True := by
  k_with "K subscriptTail Name BinOp ref int" => (((k_here; (with_reducible show wpAny _ _ (subscriptTail _ _ (Value.ref _) (Value.int _ _)) _ _ _); first | (k_dflt (refine' item_T ?K9k1 ?K9k2 ?K9k3 ?_ ?K9k5; (case K9k1 => k_asm); (case K9k2 => k_mem); (case K9k3 => first | exact ⟨by decide, rfl⟩ | assumption); (case K9k5 => with_unfolding_all rfl))) | (k_dflt (refine' item_L ?K9k1 ?K9k2 ?K9k3 ?_ ?K9k5; (case K9k1 => k_asm); (case K9k2 => k_mem); (case K9k3 => with_reducible assumption); (case K9k5 => with_unfolding_all rfl)))); (try dsimp only)))
  trivial
example : True := by
  k_with "K subscriptTail Name Name ref int" => (((k_here; (with_reducible show wpAny _ _ (subscriptTail _ _ (Value.ref _) (Value.int _ _)) _ _ _); first | (k_dflt (refine' item_T ?K9k1 ?K9k2 ?K9k3 ?_ ?K9k5; (case K9k1 => k_asm); (case K9k2 => k_mem); (case K9k3 => first | exact ⟨by decide, rfl⟩ | assumption); (case K9k5 => with_unfolding_all rfl))) | (k_dflt (refine' item_L ?K9k1 ?K9k2 ?K9k3 ?_ ?K9k5; (case K9k1 => k_asm); (case K9k2 => k_mem); (case K9k3 => with_reducible assumption); (case K9k5 => with_unfolding_all rfl)))); (try dsimp only)))
  trivial
example : True := by
  k_with "K subscriptTail Subscript Name UnaryOp Constant ref int" => (((k_here; (with_reducible show wpAny _ _ (subscriptTail _ _ (Value.ref _) (Value.int _ _)) _ _ _); first | (k_dflt (refine' item_T ?K9k1 ?K9k2 ?K9k3 ?_ ?K9k5; (case K9k1 => k_asm); (case K9k2 => k_mem); (case K9k3 => first | exact ⟨by decide, rfl⟩ | assumption); (case K9k5 => with_unfolding_all rfl))) | (k_dflt (refine' item_L ?K9k1 ?K9k2 ?K9k3 ?_ ?K9k5; (case K9k1 => k_asm); (case K9k2 => k_mem); (case K9k3 => with_reducible assumption); (case K9k5 => with_unfolding_all rfl)))); (try dsimp only)))
  trivial
example : True := by
  k_with "K subscriptTail Subscript Name Constant Constant ref int" => (((k_here; (with_reducible show wpAny _ _ (subscriptTail _ _ (Value.ref _) (Value.int _ _)) _ _ _); first | (k_dflt (refine' item_T ?K9k1 ?K9k2 ?K9k3 ?_ ?K9k5; (case K9k1 => k_asm); (case K9k2 => k_mem); (case K9k3 => first | exact ⟨by decide, rfl⟩ | assumption); (case K9k5 => with_unfolding_all rfl))) | (k_dflt (refine' item_L ?K9k1 ?K9k2 ?K9k3 ?_ ?K9k5; (case K9k1 => k_asm); (case K9k2 => k_mem); (case K9k3 => with_reducible assumption); (case K9k5 => with_unfolding_all rfl)))); (try dsimp only)))
  trivial
example : True := by
  k_with "K subscriptTail Subscript Name Name Constant ref int" => (((k_here; (with_reducible show wpAny _ _ (subscriptTail _ _ (Value.ref _) (Value.int _ _)) _ _ _); first | (k_dflt (refine' item_T ?K9k1 ?K9k2 ?K9k3 ?_ ?K9k5; (case K9k1 => k_asm); (case K9k2 => k_mem); (case K9k3 => first | exact ⟨by decide, rfl⟩ | assumption); (case K9k5 => with_unfolding_all rfl))) | (k_dflt (refine' item_L ?K9k1 ?K9k2 ?K9k3 ?_ ?K9k5; (case K9k1 => k_asm); (case K9k2 => k_mem); (case K9k3 => with_reducible assumption); (case K9k5 => with_unfolding_all rfl)))); (try dsimp only)))
  trivial
example : True := by
  k_with "K subscriptTail Subscript Name BinOp Constant ref int" => (((k_here; (with_reducible show wpAny _ _ (subscriptTail _ _ (Value.ref _) (Value.int _ _)) _ _ _); first | (k_dflt (refine' item_T ?K9k1 ?K9k2 ?K9k3 ?_ ?K9k5; (case K9k1 => k_asm); (case K9k2 => k_mem); (case K9k3 => first | exact ⟨by decide, rfl⟩ | assumption); (case K9k5 => with_unfolding_all rfl))) | (k_dflt (refine' item_L ?K9k1 ?K9k2 ?K9k3 ?_ ?K9k5; (case K9k1 => k_asm); (case K9k2 => k_mem); (case K9k3 => with_reducible assumption); (case K9k5 => with_unfolding_all rfl)))); (try dsimp only)))
  trivial
example : True := by
  k_with "K call builtin:len" => (((k_here; (with_reducible show wpAny _ _ (call (Value.builtin "len") [Value.ref _]) _ _ _); k_dflt (refine' len_L ?K9k1 ?K9k2 ?K9k3 ?_; (case K9k1 => k_asm); (case K9k2 => k_mem); (case K9k3 => assumption))); (try dsimp only)))
  trivial
noncomputable def brk (S : List Sg) : Bool := match S.reverse with
  | y :: x :: _ => y.c == 45 && x.c != 32
  | _ => false
theorem str1_beq (c d : Nat) : ((Str.mk #[c]) == (Str.mk #[d])) = (c == d) := by
  rw [Bool.eq_iff_iff, beq_iff_eq, beq_iff_eq]
  exact ⟨fun e => by injection e with e; injection e with e; injection e, fun e => by rw [e]⟩
theorem str_hy : Str.ofString "-" = Str.mk #[45] := by decide
theorem str_sp : Str.ofString " " = Str.mk #[32] := by decide
theorem beq_hy (c : Nat) : (Str.mk #[c] == Str.ofString "-") = (c == 45) := by rw [str_hy]; exact str1_beq _ _
theorem bne_sp (c : Nat) : (Str.mk #[c] != Str.ofString " ") = (c != 32) := by rw [str_sp]; exact congrArg not (str1_beq _ _)
theorem brk_two (S : List Sg) (x y : Sg) : brk (S ++ [x] ++ [y]) = (y.c == 45 && x.c != 32) := by simp [brk]
theorem brk_ok (w : World) (l : Addr) (vs : List Value) (n : Nat) (S : List Sg) (news : List (Addr × Obj)) (hm : (l, listOf vs.toArray n) ∈ news) (hS : Are (SgIn news) vs S) (hlen : vs.length ≤ 1000) :
    DoesV w 3 236 [.ref l] news (fun _ => .bool (brk S)) := by
  unfold DoesV
  intro d f g u h₀ L m s Q E hA hd hu F N ret
  obtain ⟨sh, sg, sd, stk, so⟩ := s
  dsimp only at F N ret
  cases hA with | mk A₀ base env outer mean mg mb B X T hA hf hk =>
  revert X
  k_fill
  intro X
  refine wpAny_call ?_
  k_dflt (k_extra "enter")
  rcases List.eq_nil_or_concat S with rfl | ⟨S, y, rfl⟩
  · cases hS
    have z1 : LenAt [] 0 := ⟨rfl, by decide⟩
    k_steps
    refine' ret 0 _ _ ?_ ?_ <;> k_asm
  · rw [List.concat_eq_append] at hS ret
    obtain ⟨vs, v, rfl, hS, hy⟩ := hS.snoc
    rcases List.eq_nil_or_concat S with rfl | ⟨S, x, rfl⟩
    · cases hS
      have z1 : LenAt ([] ++ [v]) 1 := ⟨rfl, by decide⟩
      k_steps
      refine' ret 0 _ _ ?_ ?_ <;> k_asm
    · rw [List.concat_eq_append] at hS ret
      obtain ⟨vs, v2, rfl, hS, hx⟩ := hS.snoc
      have z1 : LenAt (vs ++ [v2] ++ [v]) (vs.length + 2) := ⟨by simp, by simp at hlen; omega⟩
      have z2 : ItemAt (vs ++ [v2] ++ [v]) (-1) v := item_last _ _
      have z3 : ItemAt (vs ++ [v2] ++ [v]) (-2) v2 := item_last2 _ _ _
      cases hx with | mk xa xt1 xt2 xn xc xp xb xm =>
      cases hy with | mk ya yt1 yt2 yn yc yp yb ym =>
      clear hS
      k_steps
      k_steps
      all_goals
        simp only [beq_hy, bne_sp] at *
        rw [brk_two] at ret
        dsimp only at ret
        rename ((yc == 45) = _) => e1
        rw [e1] at ret
        (try rw [e1])
        refine' ret 0 _ _ ?_ ?_ <;> k_asm
theorem brk_at (w : World) (l : Addr) (vs : List Value) (n : Nat) (S : List Sg) (news : List (Addr × Obj)) {b : Bool} (hm : (l, listOf vs.toArray n) ∈ news) (hS : Are (SgIn news) vs S) (hlen : vs.length ≤ 1000) (hb : brk S = b) :
    DoesV w 3 236 [.ref l] news (fun _ => .bool b) := by
  subst hb
  exact brk_ok w l vs n S news hm hS hlen
example : True := by
  k_with "K call ref" => (((k_here; (with_reducible show wpAny _ _ (call (Value.ref 236) _) _ _ _); k_dflt (refine' DoesV.use (brk_at _ _ _ _ _ _ ?K9h1 ?K9h2 ?K9h3 ?K9hb) ?K9k1 ?K9k2 ?K9k3 ?K9k4 ?K9k5 ?K9kA ?K9kF ?K9kK ?K9kd ?K9ku ?_; (case K9k1 => k_asm); (case K9k2 => k_asm); (case K9k3 => k_asm); (case K9k4 => k_asm); (case K9k5 => k_asm); (case K9h1 => k_mem); (case K9h2 => assumption); (case K9h3 => first | assumption | omega); (case K9hb => first | assumption | exact rfl); (case K9kA => (k_extra "unf")); (case K9kF => first | assumption | exact rfl); (case K9kK => first | assumption | exact rfl); (case K9kd => (k_extra "room")); (case K9ku => (k_extra "units"))); intro _ _ _ _ _); (try dsimp only)))
  trivial

theorem partP4 : True := by
  w_top off
  trivial
section
open PySem.Spec PyProof.Rows.LCg PyProof.Rows.LCt
variable {prog : Program} {w : World} {A : Around} {E : Value → Shared → Prop} {s : Shared} {h₀ : Heap} {L : Addr} {m : Str → Option Value} {env : Env} {ct elt : PySem.Expr} {x : Str} {scope : Scope} {cl : List (Str × Addr)} {S : List (Addr × Obj) → Prop} {P : Nat → Value → Prop}
  {Fin : List Value → List (Addr × Obj) → Prop} {n : Nat} {news : List (Addr × Obj)}
theorem CompEnd.up {s₁ : Shared} {I C D : Addr} {oI oC oD : Obj} {R R' : Value → List (Addr × Obj) → Prop} {y : Value} {s₂ : Shared} (h : CompEnd h₀ L m s₁ I oI C oC D oD S R y s₂) (k : ∀ y n, R y n → R' y n) : CompEnd h₀ L m s₁ I oI C oC D oD S R' y s₂ := by
  obtain ⟨h', tk, n', e, a, b, c, d, r⟩ := h
  exact ⟨h', tk, n', e, a, b, c, d, k _ _ r⟩
theorem compU_inv (Inv : Nat → List Value → List (Addr × Obj) → Prop) (h0 : Inv 0 [] news) (fin : ∀ ys news', Inv n ys news' → Fin ys news')
    (turn : ∀ i ys news v I oI C oC D m₂ h tk (E' : Value → Shared → Prop), i < n → Inv i ys news → P i v → NsObj oC m₂ → m₂ x = some v → Fr h₀ L h m → News h₀ L h ((I, oI) :: (C, oC) :: (D, lst ys) :: news) → Off3 I C D news → ((@Ne Nat I C) ∧ (@Ne Nat I D) ∧ (@Ne Nat C D)) →
      wpAny (model prog w) A (eval elt (compEnvC scope cl C env)) (CompEnd h₀ L m { s with heap := h, toks := tk } I oI C oC D (lst ys) S (fun y news' => Inv (i + 1) (ys ++ [y]) news')) E' { s with heap := h, toks := tk }) :
    CompRest prog w A h₀ L m env elt x scope cl s S P Fin n 0 [] news := by
  have all : ∀ k i ys news, i + k = n → Inv i ys news → CompRest prog w A h₀ L m env elt x scope cl s S P Fin k i ys news := by
    intro k
    induction k with
    | zero => intro i ys news e hi; exact fin _ _ (by rw [← show i = n from e]; exact hi)
    | succ k ih =>
      intro i ys news e hi
      refine CompRest.succ fun v I oI C oC D m₂ h tk E' a b c d f g o => ?_
      exact wpAny_mono (turn i ys news v I oI C oC D m₂ h tk E' (by omega) hi a b c d f g o) (fun y s' q => CompEnd.up q fun y n' r => ih _ _ _ (by omega) r) fun _ _ e => e
  exact all n 0 [] news (Nat.zero_add n) h0
theorem compT_inv (Inv : Nat → List Value → List (Addr × Obj) → Prop) (h0 : Inv 0 [] news) (fin : ∀ ys news', Inv n ys news' → Fin ys news')
    (turn : ∀ i ys news v I oI C oC D m₂ h tk (E' : Value → Shared → Prop), i < n → Inv i ys news → P i v → NsObj oC m₂ → m₂ x = some v → Fr h₀ L h m → News h₀ L h ((I, oI) :: (C, oC) :: (D, lst ys) :: news) → Off3 I C D news → ((@Ne Nat I C) ∧ (@Ne Nat I D) ∧ (@Ne Nat C D)) →
      wpAny (model prog w) A (isTrue ct (compEnvC scope cl C env) (eval ct (compEnvC scope cl C env))) (fun ok s' => if ok = true then
        wpAny (model prog w) A (eval elt (compEnvC scope cl C env)) (CompEnd h₀ L m { s with heap := h, toks := tk } I oI C oC D (lst ys) S (fun y news' => Inv (i + 1) (ys ++ [y]) news')) E' s'
        else CompEnd h₀ L m { s with heap := h, toks := tk } I oI C oC D (lst ys) S (fun _ news' => Inv (i + 1) ys news') Value.none s') E' { s with heap := h, toks := tk }) :
    CompRestT prog w A h₀ L m env ct elt x scope cl s S P Fin n 0 [] news := by
  have all : ∀ k i ys news, i + k = n → Inv i ys news → CompRestT prog w A h₀ L m env ct elt x scope cl s S P Fin k i ys news := by
    intro k
    induction k with
    | zero => intro i ys news e hi; exact fin _ _ (by rw [← show i = n from e]; exact hi)
    | succ k ih =>
      intro i ys news e hi
      refine CompRestT.succ fun v I oI C oC D m₂ h tk E' a b c d f g o => ?_
      refine wpAny_mono (turn i ys news v I oI C oC D m₂ h tk E' (by omega) hi a b c d f g o) (fun ok s' q => ?_) fun _ _ e => e
      by_cases hk : ok = true
      · rw [if_pos hk] at q ⊢
        exact wpAny_mono q (fun y s' q => CompEnd.up q fun y n' r => ih _ _ _ (by omega) r) fun _ _ e => e
      · rw [if_neg hk] at q ⊢
        exact CompEnd.up q fun y n' r => ih _ _ _ (by omega) r
  exact all n 0 [] news (Nat.zero_add n) h0
end
-- a comprehension over the signs of a text
section
open PySem.Spec PyProof.Rows.LCg PyProof.Rows.LCt
variable {prog : Program} {w : World} {A : Around} {E : Value → Shared → Prop} {s : Shared} {h₀ : Heap} {L : Addr} {m : Str → Option Value} {env : Env} {ct elt iter : PySem.Expr} {x y : Str} {px py : Pos} {scope : Scope} {cl : List (Str × Addr)} {pos spos : Pos}
theorem signs_iter {z : Str} {t : Tok} {Q : Value → Shared → Prop} (hh : A.handled = none)
    (hQ : ∀ (o : Obj) (St : Nat → Heap → Prop), Walks prog w A s.heap.objs.size [s.heap.objs.size] [s.heap.objs.size] z.cps.size (SignAt z) St → (∀ i h, St i h → ∃ o, h.get? s.heap.objs.size = some o) → St 0 (s.heap.push o) →
      Q (.ref s.heap.objs.size) { s with heap := s.heap.push o }) : wpAny (model prog w) A (pyIter (.str z t)) Q E s := by
  cases ha : z.cps.all (· < 128)
  · exact wpAny_pyIter_wide ha (hQ _ _ (Walks.strWide hh _ z t) (fun i h ⟨o, e, _⟩ => ⟨o, e⟩) ⟨_, Heap.get?_push_size _ rfl, rfl, rfl⟩)
  · exact wpAny_pyIter_ascii ha (hQ _ _ (Walks.strAscii hh _ z t) (fun i h ⟨o, e, _⟩ => ⟨o, e⟩) ⟨_, Heap.get?_push_size _ rfl, rfl, rfl⟩)
inductive SignSrc (prog : Program) (w : World) (A : Around) (h₀ : Heap) (L : Addr) (m : Str → Option Value) (env : Env) (elt : PySem.Expr) (x : Str) (scope : Scope) (cl : List (Str × Addr)) (Fin : Shared → List Value → List (Addr × Obj) → Prop) : Value → Shared → Prop
  | mk (z : Str) (t : Tok) (news : List (Addr × Obj)) (s₁ : Shared) (hh : A.handled = none) (F : Fr h₀ L s₁.heap m) (N : News h₀ L s₁.heap news) (hsz : z.cps.size ≤ sizeLine)
      (R : ∀ g, CompRest prog w A h₀ L m env elt x scope cl { s₁ with heap := g } (fun _ => True) (SignAt z) (Fin { s₁ with heap := g }) z.cps.size 0 [] news) : SignSrc prog w A h₀ L m env elt x scope cl Fin (.str z t) s₁
inductive SignSrcT (prog : Program) (w : World) (A : Around) (h₀ : Heap) (L : Addr) (m : Str → Option Value) (env : Env) (ct elt : PySem.Expr) (x : Str) (scope : Scope) (cl : List (Str × Addr)) (Fin : Shared → List Value → List (Addr × Obj) → Prop) : Value → Shared → Prop
  | mk (z : Str) (t : Tok) (news : List (Addr × Obj)) (s₁ : Shared) (hh : A.handled = none) (F : Fr h₀ L s₁.heap m) (N : News h₀ L s₁.heap news) (hsz : z.cps.size ≤ sizeLine)
      (R : ∀ g, CompRestT prog w A h₀ L m env ct elt x scope cl { s₁ with heap := g } (fun _ => True) (SignAt z) (Fin { s₁ with heap := g }) z.cps.size 0 [] news) : SignSrcT prog w A h₀ L m env ct elt x scope cl Fin (.str z t) s₁
theorem signs_frame {I : Addr} {n : Nat} {z : Str} {St : Nat → Heap → Prop} (W : Walks prog w A I [I] [I] n (SignAt z) St) : ∀ i h h' o nw, St i h → h.get? I = some o → h'.get? I = some o → (∀ b o, h₀.get? b = some o → h'.get? b = some o) → News h₀ L h' nw → True → St i h' :=
  fun i h h' o _ st e e' _ _ _ => W.frame _ _ _ st fun b hb o' q => by rw [List.mem_singleton.mp hb] at q ⊢; rw [e] at q; rw [e', ← q]
theorem ListComp_signs {Q : Value → Shared → Prop} (F₀ : Fr h₀ L s.heap m)
    (hclos : closureFor scope env = pure cl) (hcell : ∀ y ∈ scope.names, y.2 ≠ .cell) (hkind : scope.kind = .function)
    (hnames : ∀ y ∈ scope.names, y.2 = .local → scope.names.lookup y.1 = some .local) (hx : scope.names.lookup x = some .local)
    (h : wpAny (model prog w) A (eval iter env) (SignSrc prog w A h₀ L m env elt x scope cl (fun s₂ => FinE h₀ L m s₂ Q)) E s)
    (hs : ∀ x, foldedSetIterable iter env x = pure x) :
    wpAny (model prog w) A (eval (.ListComp elt [⟨.Name x px, iter, [], 0⟩] scope pos) env) Q E s := by
  rw [eval_ListComp]
  refine wpAny_comprehension_free (use := none) rfl hs hclos hkind hnames (wpAny_mono h (fun xv s₁ h₁ => ?_) fun _ _ e => e)
  cases h₁ with | mk z t news _ hh F N hsz R =>
  refine signs_iter hh fun o St W hIo st => ?_
  have up : ∀ b o', s₁.heap.get? b = some o' → (s₁.heap.push o).get? b = some o' := fun b o' e => Heap.get?_push_of_some _ e
  refine block_U W hsz hIo (signs_frame W) hcell hkind hx st (fun b hb => ?_) (F.keeps up) (N.grown up) (Nat.ne_of_lt F.ns.lt) (next_is_new F) (fun p hp => Nat.ne_of_lt (Heap.lt_size (N p hp).1)) trivial (R _) ?_
  · rw [List.mem_singleton.mp hb]
    show s₁.heap.objs.size < (s₁.heap.push _).objs.size
    rw [Heap.size_push]
    exact Nat.lt_succ_self _
  · intro D C h tk m' ys news' F' N' o1 hn hC₀ hD₀ hCL hDL hCD offC fin
    refine ⟨m', hn, fun h'' hs'' => fin D h'' tk (F'.change hs'' hCL hC₀) (fun p hp => ?_) o1⟩
    refine ⟨hs''.extBut _ _ ?_ (N' p hp).1, (N' p hp).2⟩
    rcases List.mem_cons.mp hp with rfl | hp
    · exact Ne.symm hCD
    · exact offC p hp
theorem ListComp_signsT {Q : Value → Shared → Prop} (F₀ : Fr h₀ L s.heap m)
    (hclos : closureFor scope env = pure cl) (hcell : ∀ y ∈ scope.names, y.2 ≠ .cell) (hkind : scope.kind = .function)
    (hnames : ∀ y ∈ scope.names, y.2 = .local → scope.names.lookup y.1 = some .local) (hx : scope.names.lookup x = some .local)
    (h : wpAny (model prog w) A (eval iter env) (SignSrcT prog w A h₀ L m env ct elt x scope cl (fun s₂ => FinE h₀ L m s₂ Q)) E s)
    (hs : ∀ x, foldedSetIterable iter env x = pure x) :
    wpAny (model prog w) A (eval (.ListComp elt [⟨.Name x px, iter, [ct], 0⟩] scope pos) env) Q E s := by
  rw [eval_ListComp]
  refine wpAny_comprehension_free (use := none) rfl hs hclos hkind hnames (wpAny_mono h (fun xv s₁ h₁ => ?_) fun _ _ e => e)
  cases h₁ with | mk z t news _ hh F N hsz R =>
  refine signs_iter hh fun o St W hIo st => ?_
  have up : ∀ b o', s₁.heap.get? b = some o' → (s₁.heap.push o).get? b = some o' := fun b o' e => Heap.get?_push_of_some _ e
  refine block_T W hsz hIo (signs_frame W) hcell hkind hx st (fun b hb => ?_) (F.keeps up) (N.grown up) (Nat.ne_of_lt F.ns.lt) (next_is_new F) (fun p hp => Nat.ne_of_lt (Heap.lt_size (N p hp).1)) trivial (R _) ?_
  · rw [List.mem_singleton.mp hb]
    show s₁.heap.objs.size < (s₁.heap.push _).objs.size
    rw [Heap.size_push]
    exact Nat.lt_succ_self _
  · intro D C h tk m' ys news' F' N' o1 hn hC₀ hD₀ hCL hDL hCD offC fin
    refine ⟨m', hn, fun h'' hs'' => fin D h'' tk (F'.change hs'' hCL hC₀) (fun p hp => ?_) o1⟩
    refine ⟨hs''.extBut _ _ ?_ (N' p hp).1, (N' p hp).2⟩
    rcases List.mem_cons.mp hp with rfl | hp
    · exact Ne.symm hCD
    · exact offC p hp
theorem Assign_signs {Q : Flow → Shared → Prop} (F₀ : Fr h₀ L s.heap m) (hLe : env.locals = L)
    (hsw : swapsWith (.ListComp elt [⟨.Name x px, iter, [], 0⟩] scope pos) (some (.Name y py)) spos.line env = pure true)
    (hclos : closureFor scope env = pure cl) (hcell : ∀ z ∈ scope.names, z.2 ≠ .cell) (hkind : scope.kind = .function)
    (hnames : ∀ z ∈ scope.names, z.2 = .local → scope.names.lookup z.1 = some .local) (hx : scope.names.lookup x = some .local)
    (hy : env.kindOf y = some .local) (hp : (env.scope.kind == .class || (env.scope.kind == .module && env.locals != env.globals)) = false)
    (h : wpAny (model prog w) A (eval iter env) (SignSrc prog w A h₀ L m env elt x scope cl (fun s₂ => FinA h₀ L m s₂ y Q)) E s)
    (hs : ∀ x, foldedSetIterable iter env x = pure x) :
    wpAny (model prog w) A (exec (.Assign [.Name y py] (.ListComp elt [⟨.Name x px, iter, [], 0⟩] scope pos) spos) env) Q E s := by
  subst hLe
  rw [exec_Assign_Name_used _ _ _ _ hsw]
  refine wpAny_bind (wpAny_standAt (wpAny_bind ?_))
  show wpAny _ A (do let _ ← comprehension (.ListComp elt [⟨.Name x px, iter, [], 0⟩] scope pos) scope env _ (newList []) false (eval iter env) (some (assign (.Name y py) env))) _ _ s
  refine wpAny_bind (wpAny_mono (wpAny_comprehension_free (use := some (assign (.Name y py) env)) (Q := fun _ s' => Q .next s') rfl hs hclos hkind hnames
    (wpAny_mono h (fun xv s₁ h₁ => ?_) fun _ _ e => e)) (fun _ s' hq => wpAny_pure (wpAny_pure hq)) fun _ _ e => e)
  cases h₁ with | mk z t news _ hh F N hsz R =>
  refine signs_iter hh fun o St W hIo st => ?_
  have up : ∀ b o', s₁.heap.get? b = some o' → (s₁.heap.push o).get? b = some o' := fun b o' e => Heap.get?_push_of_some _ e
  refine block_U W hsz hIo (signs_frame W) hcell hkind hx st (fun b hb => ?_) (F.keeps up) (N.grown up) (Nat.ne_of_lt F.ns.lt) (next_is_new F) (fun p hp => Nat.ne_of_lt (Heap.lt_size (N p hp).1)) trivial (R _) ?_
  · rw [List.mem_singleton.mp hb]
    show s₁.heap.objs.size < (s₁.heap.push _).objs.size
    rw [Heap.size_push]
    exact Nat.lt_succ_self _
  · intro D C h' tk m' ys news' F' N' o1 hn hC₀ hD₀ hCL hDL hCD offC fin
    show wpAny _ A (assign (.Name y py) env (.ref D)) _ _ _
    refine wpAny_assign_Name (wpAny_storeName_local hy F'.ns (fun h₂ hn₂ hs₂ => ?_) hp)
    have hL₀ : h₀.get? env.locals = none := Heap.get?_none_of_le F'.above
    have F₂ : Fr h₀ env.locals h₂ (fun z => if z = y then some (.ref D) else m z) := ⟨hn₂, fun b o e => hs₂.extBut b o (fun q => by rw [q, hL₀] at e; cases e) (F'.keep b o e), F'.above⟩
    refine ⟨m', hn.sameBut hs₂ hCL, fun h'' hs'' => fin D h'' _ (F₂.change hs'' hCL hC₀) (fun p hp => ?_) o1⟩
    have q : h₂.get? p.1 = some p.2 := hs₂.extBut _ _ (N' p hp).2.1 (N' p hp).1
    refine ⟨hs''.extBut _ _ ?_ q, (N' p hp).2⟩
    rcases List.mem_cons.mp hp with rfl | hp
    · exact Ne.symm hCD
    · exact offC p hp
end
-- the turns of a loop, by what holds between them
section
variable {prog : Program} {w : World} {A : Around} {E : Value → Shared → Prop} {s : Shared} {env : Env} {h₀ : Heap} {target : PySem.Expr} {body : List Stmt} {Q : Flow → Shared → Prop} {m₀ : Str → Option Value} {news : List (Addr × Obj)}
theorem turns_gen {I : Addr} {fp wr : List Addr} {n : Nat} {P : Nat → Value → Prop} {St : Nat → Heap → Prop} (keep : List (Addr × Obj)) (J : Nat → (Str → Option Value) → List (Addr × Obj) → Prop)
    (W : Walks prog w A I fp wr n P St) (hgo : ∀ i v (s : Shared) (Q : Unit → Shared → Prop) (E : Value → Shared → Prop), St i s.heap → Q () s → wpAny (model prog w) A (letOwnedTupleGo target (.ref I) v) Q E s)
    (hob : ∀ i h, St i h → ∀ b ∈ wr, ∃ o, h.get? b = some o) (hfk : ∀ b ∈ fp, b ∉ wr → ∃ o, (b, o) ∈ keep) (hLf : env.locals ∉ fp) (hwr : ∀ b ∈ wr, h₀.get? b = none) (hnw : ∀ p ∈ news, p.1 ∉ wr) (hst : St 0 s.heap)
    (F : Fr h₀ env.locals s.heap m₀) (N : News h₀ env.locals s.heap news) (hk0 : ∀ p ∈ keep, p ∈ news) (hj : J 0 m₀ news)
    (turn : ∀ i v m₁ nx h tk own, i < n → P i v → OwnOff own (nx.map (·.1)) → (∀ p ∈ keep, p ∈ nx) → J i m₁ nx → Fr h₀ env.locals h m₁ → News h₀ env.locals h (nx ++ own) →
      wpAny (model prog w) A (assign target env v) (fun _ s₃ => wpAny (model prog w) A (execs body env) (InvPostG h₀ env.locals (fun m' nx => (∀ p ∈ keep, p ∈ nx) ∧ J (i + 1) m' nx) own { s with heap := h, toks := tk } Q) E s₃) E { s with heap := h, toks := tk })
    (done : ∀ m₁ nx h tk, J n m₁ nx → Fr h₀ env.locals h m₁ → News h₀ env.locals h nx → Q .next { s with heap := h, toks := tk }) :
    TurnsAt prog w A h₀ env target body Q E (.ref I) s := by
  refine ⟨I, fp, wr, n, _, _, St, m₀, news, fun i m nx => (∀ p ∈ keep, p ∈ nx) ∧ J i m nx, rfl, KTurns.ofWalks W hgo, hLf, hwr, hnw, hst, F, N, ⟨hk0, hj⟩, ?_, ?_⟩
  · rintro i v m₁ nx h₁ tk₁ own hin hP ⟨hk, hJ⟩ hoff hown hget hfp hst' F₁ N₁
    have hsep : OwnOff (own.filter fun p => decide (p.1 ∈ wr)) (nx.map (·.1)) := by
      intro p hp b hb e
      obtain ⟨q, hq, rfl⟩ := List.mem_map.mp hb
      have h1 : p.1 ∈ wr := by simpa using (List.mem_filter.mp hp).2
      exact hoff q hq (e ▸ h1)
    have N₂ : News h₀ env.locals h₁ (nx ++ own.filter fun p => decide (p.1 ∈ wr)) := fun p hp => N₁ p ((List.mem_append.mp hp).elim (fun h => List.mem_append_right _ h) fun h => List.mem_append_left _ (List.mem_filter.mp h).1)
    refine wpAny_mono (turn i v m₁ nx h₁ tk₁ _ hin hP hsep hk hJ F₁ N₂) (fun _ s₃ q => wpAny_mono q (fun f s₂ p => ?_) fun _ _ e => e) fun _ _ e => e
    have fin : InvEndG h₀ env.locals (fun m' nx => (∀ p ∈ keep, p ∈ nx) ∧ J (i + 1) m' nx) (own.filter fun p => decide (p.1 ∈ wr)) { s with heap := h₁, toks := tk₁ } s₂ →
        LoopStepU h₀ env.locals wr own (fun m nx => (∀ p ∈ keep, p ∈ nx) ∧ J (i + 1) m nx) { s with heap := h₁, toks := tk₁ } .next s₂ := by
      rintro ⟨h', tk, m', news', nx', e, F', N', hn, ho, ha, hk', hJ'⟩
      refine ⟨rfl, h', tk, m', nx', e, F', fun p hp => ?_, fun p hp hq => ?_, hk', hJ'⟩
      · rcases List.mem_append.mp hp with h | h
        · by_cases hI : p.1 ∈ wr
          · exact N' p (ho p (List.mem_filter.mpr ⟨h, by simpa using hI⟩))
          · obtain ⟨o, hq⟩ := hfk _ (hown p h) hI
            have h1 := (N₁ _ (List.mem_append_right _ (hk _ hq))).1
            have h2 := hget p h
            rw [h1] at h2
            have h3 : p = (p.1, o) := Prod.ext rfl (Option.some.inj h2).symm
            rw [h3]
            exact N' _ (hn _ (hk' _ hq))
        · exact N' p (hn p h)
      · obtain ⟨o, hbo⟩ := hob _ _ hst' _ hq
        exact ha (p.1, o) (List.mem_filter.mpr ⟨hfp _ (W.sub _ hq) (hwr _ hq) o hbo, by simpa using hq⟩) p.1 (List.mem_map.mpr ⟨p, hp, rfl⟩) rfl
    cases f with
    | ret v => exact .ret p
    | brk => exact .brk p
    | next => exact .next (fin p)
    | cont => exact .cont (fin p)
  · rintro h' tk m' news' F' N' _ ⟨_, hJ⟩
    exact done m' news' h' tk hJ F' N'
theorem turns_list {l : Addr} {vs : List Value} {nn : Nat} (J : Nat → (Str → Option Value) → List (Addr × Obj) → Prop)
    (hh : A.handled = none) (hl : (l, listOf vs.toArray nn) ∈ news) (F : Fr h₀ env.locals s.heap m₀) (N : News h₀ env.locals s.heap news) (hj : J 0 m₀ news)
    (turn : ∀ i v m₁ nx h tk own, vs[i]? = some v → OwnOff own (nx.map (·.1)) → (l, listOf vs.toArray nn) ∈ nx → J i m₁ nx → Fr h₀ env.locals h m₁ → News h₀ env.locals h (nx ++ own) →
      ∀ Qb : Flow → Shared → Prop, Nexts Qb (fun s' => (InvPostG h₀ env.locals (fun m' nx => (∀ p ∈ [(l, listOf vs.toArray nn)], p ∈ nx) ∧ J (i + 1) m' nx) own { s with heap := h, toks := tk } Q) .next s') → Rets Qb (fun v s' => (InvPostG h₀ env.locals (fun m' nx => (∀ p ∈ [(l, listOf vs.toArray nn)], p ∈ nx) ∧ J (i + 1) m' nx) own { s with heap := h, toks := tk } Q) (.ret v) s') → wpAny (model prog w) A (assign target env v) (fun _ s₃ => wpAny (model prog w) A (execs body env) Qb E s₃) E { s with heap := h, toks := tk })
    (done : ∀ m₁ nx h tk, J vs.length m₁ nx → Fr h₀ env.locals h m₁ → News h₀ env.locals h nx → Q .next { s with heap := h, toks := tk }) :
    wpAny (model prog w) A (pyIter (.ref l)) (fun it s₂ => TurnsAt prog w A h₀ env target body Q E it s₂) E s := by
  have hol : s.heap.get? l = some (listOf vs.toArray nn) := (N _ hl).1
  have hls : s.heap.IsList l vs.toArray := News.isList N hl
  have hne : l ≠ s.heap.objs.size := Nat.ne_of_lt (Heap.lt_size hol)
  refine wpAny_pyIter_list hls ?_
  have W := Walks.list (prog := prog) (w := w) hh s.heap.objs.size l hne vs.toArray
  have hlen : vs.toArray.size = vs.length := by simp
  rw [hlen] at W
  refine turns_gen [(l, listOf vs.toArray nn)] J W (fun i v s' Q' E' st hq => letGo_listiter st.1 hq) ?_ ?_ ?_ ?_ ?_ ⟨⟨_, Heap.get?_push_size _ rfl, rfl, rfl⟩, hls.at fun o e => Heap.get?_push_of_some _ e⟩ (F.push _) (fun p hp => ⟨Heap.get?_push_of_some _ (N p hp).1, (N p hp).2⟩) (fun p hp => by rw [List.mem_singleton.mp hp]; exact hl) hj ?_ done
  · rintro i h ⟨⟨o, e, _⟩, _⟩ b hb
    rw [List.mem_singleton.mp hb]
    exact ⟨o, e⟩
  · intro b hb hw
    rcases List.mem_cons.mp hb with rfl | hb
    · exact absurd (List.mem_singleton.mpr rfl) hw
    · rw [List.mem_singleton.mp hb]
      exact ⟨_, .head _⟩
  · intro hm
    rcases List.mem_cons.mp hm with e | hm
    · exact absurd F.ns.lt (e ▸ Nat.lt_irrefl _)
    · exact (N _ hl).2.1 ((List.mem_singleton.mp hm).symm)
  · intro b hb
    rw [List.mem_singleton.mp hb]
    exact next_is_new F
  · intro p hp hI
    exact absurd (Heap.lt_size (N p hp).1) ((List.mem_singleton.mp hI) ▸ Nat.lt_irrefl _)
  · intro i v m₁ nx h tk own hi hP ho hk hJ F₁ N₁
    exact turn i v m₁ nx h tk own (by simpa using hP) ho (hk _ (.head _)) hJ F₁ N₁ _ (fun _ k => k) fun _ _ k => k
theorem turns_range {r : Addr} {b₀ : Int} {t₀ u₀ v₀ : Tok} {n : Nat} (J : Nat → (Str → Option Value) → List (Addr × Obj) → Prop)
    (hh : A.handled = none) (hr : IsRange s.heap r 0 b₀ 1 t₀ u₀ v₀) (hb : b₀ = (n : Int)) (hn : n ≤ 1000) (F : Fr h₀ env.locals s.heap m₀) (N : News h₀ env.locals s.heap news) (hj : J 0 m₀ news)
    (turn : ∀ (i : Nat) t m₁ nx h tk own, i < n → OwnOff own (nx.map (·.1)) → J i m₁ nx → Fr h₀ env.locals h m₁ → News h₀ env.locals h (nx ++ own) →
      ∀ Qb : Flow → Shared → Prop, Nexts Qb (fun s' => (InvPostG h₀ env.locals (fun m' nx => (∀ p ∈ ([] : List (Addr × Obj)), p ∈ nx) ∧ J (i + 1) m' nx) own { s with heap := h, toks := tk } Q) .next s') → Rets Qb (fun v s' => (InvPostG h₀ env.locals (fun m' nx => (∀ p ∈ ([] : List (Addr × Obj)), p ∈ nx) ∧ J (i + 1) m' nx) own { s with heap := h, toks := tk } Q) (.ret v) s') → wpAny (model prog w) A (assign target env (.int (i : Int) t)) (fun _ s₃ => wpAny (model prog w) A (execs body env) Qb E s₃) E { s with heap := h, toks := tk })
    (done : ∀ m₁ nx h tk, J n m₁ nx → Fr h₀ env.locals h m₁ → News h₀ env.locals h nx → Q .next { s with heap := h, toks := tk })
    (hgo : ∀ it v, letOwnedTupleGo target it v = pure ()) :
    wpAny (model prog w) A (pyIter (.ref r)) (fun it s₂ => TurnsAt prog w A h₀ env target body Q E it s₂) E s := by
  subst hb
  have hsz : Builtin.Range.rangeSize 0 (n : Int) 1 = (n : Int) := by rw [rangeSize_one]; split <;> omega
  have hsm : Builtin.Range.small 0 (n : Int) 1 = true := by
    unfold Builtin.Range.small
    rw [hsz, if_pos (by decide)]
    simp only [Builtin.Range.rangeFitsLong, Bool.and_eq_true, Bool.or_eq_true, decide_eq_true_eq, beq_iff_eq]
    refine ⟨⟨⟨⟨?_, ?_⟩, ?_⟩, ?_⟩, .inr ?_⟩ <;> omega
  refine wpAny_pyIter_range hr hsm ?_
  have W : Walks prog w A s.heap.objs.size [s.heap.objs.size] [s.heap.objs.size] n (fun i v => i < n ∧ ∃ t, v = .int (0 + i * 1) t)
      (fun i h => IsRangeIter h s.heap.objs.size (0 + (i : Nat) * 1) ((n : Int) - (i : Nat)) 1) := (Walks.range hh _ 0 1 n).bound
  refine turns_gen [] J W (fun i v s' Q' E' st hq => by rw [hgo]; exact wpAny_pure hq) ?_ ?_ ?_ ?_ ?_ (by show IsRangeIter _ _ _ _ _; rw [hsz]; simpa using Heap.get?_push_size _ rfl) (F.push _) (fun p hp => ⟨Heap.get?_push_of_some _ (N p hp).1, (N p hp).2⟩) (fun _ hp => nomatch hp) hj ?_ done
  · intro i h hi b hb
    rw [List.mem_singleton.mp hb]
    exact ⟨_, hi⟩
  · intro b hb hw
    exact absurd hb hw
  · intro hm
    exact absurd F.ns.lt ((List.mem_singleton.mp hm) ▸ Nat.lt_irrefl _)
  · intro b hb
    rw [List.mem_singleton.mp hb]
    exact next_is_new F
  · intro p hp hI
    exact absurd (Heap.lt_size (N p hp).1) ((List.mem_singleton.mp hI) ▸ Nat.lt_irrefl _)
  · rintro i v m₁ nx h tk own hi ⟨_, t, rfl⟩ hoff _ hJ F₁ N₁
    have e1 : (0 : Int) + (i : Int) * 1 = (i : Int) := by omega
    rw [e1]
    exact turn i t m₁ nx h tk own hi hoff hJ F₁ N₁ _ (fun _ k => k) fun _ _ k => k
end

theorem partP5 : True := by
  w_top off
  trivial
noncomputable def alph : List Nat := [97, 98, 45, 32, 99, 100, 9, 101, 160]
noncomputable def plainC (c : Nat) : Nat := if c = 9 ∨ c = 160 then 32 else c
theorem occ_white : ∀ c ∈ alph, (Builtin.Str.occurrences (Str.ofString " \t\n\x0d\x0c\u00a0") { cps := #[c] } 0 (Str.ofString " \t\n\x0d\x0c\u00a0").length 1).isEmpty = (plainC c != 32) := by decide +kernel
theorem plainC_keep : ∀ c ∈ alph, plainC c ≠ 32 → plainC c = c := by decide
theorem plain_ok (w : World) (c : Nat) (hc : c ∈ alph) (tk : Tok) (news : List (Addr × Obj)) : DoesV w 3 224 [.str (Str.mk #[c]) tk] news (fun t => .str (Str.mk #[plainC c]) t) := by
  unfold DoesV
  intro d f g u h₀ L m s Q E hA hd hu F N ret
  obtain ⟨sh, sg, sd, stk, so⟩ := s
  dsimp only at F N ret
  cases hA with | mk A₀ base env outer mean mg mb B X T hA hf hk =>
  revert X
  k_fill
  intro X
  refine wpAny_call ?_
  k_dflt (k_extra "enter")
  k_steps
  all_goals rename (_ = (_ : Bool)) => e1
  all_goals rw [occ_white c hc] at e1
  · rw [plainC_keep c hc (by simpa using e1)] at ret
    refine' ret _ _ _ ?_ ?_ <;> k_asm
  · rw [show plainC c = 32 by simpa using e1, ← str_sp] at ret
    refine' ret _ _ _ ?_ ?_ <;> k_asm
example : True := by
  k_with "K call ref" => (((k_here; (with_reducible show wpAny _ _ (call (Value.ref 224) _) _ _ _); k_dflt (refine' DoesV.use (plain_ok _ _ ?K9h1 _ _) ?K9k1 ?K9k2 ?K9k3 ?K9k4 ?K9k5 ?K9kA ?K9kF ?K9kK ?K9kd ?K9ku ?_; (case K9k1 => k_asm); (case K9k2 => k_asm); (case K9k3 => k_asm); (case K9k4 => k_asm); (case K9k5 => k_asm); (case K9h1 => first | assumption | decide); (case K9kA => (k_extra "unf")); (case K9kF => first | assumption | exact rfl); (case K9kK => first | assumption | exact rfl); (case K9kd => (k_extra "room")); (case K9ku => (k_extra "units"))); intro _ _ _ _ _); (try dsimp only)))
  trivial

theorem partP6 : True := by
  w_top off
  trivial
noncomputable def Hold (p : Prop) : Prop := p
theorem Hold.of {p : Prop} (h : Hold p) : p := h
example : True := by
  k_with "K exec For Name Call cons nil" => ((k_here; (rename Fr _ _ _ _ => lF'); (with_unfolding_all refine' For_turns lF' ?_; k_whole)))
  trivial
example : True := by
  k_with "K exec For Name Name cons nil" => ((k_here; (rename Fr _ _ _ _ => lF'); (with_unfolding_all refine' For_turns lF' ?_; k_whole)))
  trivial
example : True := by
  k_with "K exec For Tuple Name cons nil" => ((k_here; (rename Fr _ _ _ _ => lF'); (with_unfolding_all refine' For_turns lF' ?_; k_whole)))
  trivial
example : True := by
  k_with "K pyIter ref" => (((with_reducible show wpAny _ _ (pyIter (Value.ref _)) (fun it s₂ => TurnsAt _ _ _ _ _ _ _ _ _ it s₂) _ _); refine Hold.of ?_))
  trivial
example : True := by
  k_with "K CompSrc" => (refine Hold.of ?_)
  trivial
example : True := by
  k_with "K CompSrcT" => (refine Hold.of ?_)
  trivial
noncomputable def lastc (F : List Sg) : Nat := (F.getLast?.map Sg.c).getD 0
noncomputable def gapOf (p : Option Gl) (F : List Sg) (g : Gl) : List Sg := match p with
  | none => []
  | some q => if lastc F ≠ 32 ∧ plainC ((C g.k).headD 32) ≠ 32 ∧ 5 < g.at_ - q.at_ - 4 then [⟨32, -1, false⟩] else []
noncomputable def freshOf (base : Int) (i : Nat) (g : Gl) : List Sg := (C g.k).map fun c => ⟨plainC c, base + i, false⟩
noncomputable def rowStep (base : Int) (s : Nat × Option Gl × List Sg) (g : Gl) : Nat × Option Gl × List Sg := (s.1 + 1, some g, s.2.2 ++ gapOf s.2.1 s.2.2 g ++ freshOf base s.1 g)
noncomputable def rowSt (base : Int) (G : List Gl) : Nat × Option Gl × List Sg := G.foldl (rowStep base) (0, none, [])
noncomputable def upd (m : Str → Option Value) : List (Str × Value) → Str → Option Value
  | [] => m
  | p :: r => fun y => if y = p.1 then some p.2 else upd m r y
theorem upd_id {m : Str → Option Value} : ∀ {ps : List (Str × Value)}, (∀ p ∈ ps, m p.1 = some p.2) → upd m ps = m
  | [], _ => rfl
  | p :: r, h => by
    funext y
    show (if y = p.1 then some p.2 else upd m r y) = m y
    rw [upd_id fun q hq => h q (.tail _ hq)]
    split
    · rename_i e
      rw [e, h p (.head _)]
    · rfl
theorem fr_upd {h₀ h : Heap} {L : Addr} {m : Str → Option Value} (F : Fr h₀ L h m) (ps : List (Str × Value)) (k : ∀ p ∈ ps, m p.1 = some p.2) : Fr h₀ L h (upd m ps) := by rw [upd_id k]; exact F
inductive RowJ (l found La Lb tb tt : Nat) (base : Int) (news : List (Addr × Obj)) (G : List Gl) (i : Nat) (m : Str → Option Value) : List (Addr × Obj) → Prop
  | mk (fvs : List Value) (nf : Nat) (oa ob : Obj) (av : Option Value) (nw : List (Addr × Obj)) (h1 : ∀ p ∈ [(Str.ofString "row", Value.ref l), (Str.ofString "tenths", Value.int 5 tt), (Str.ofString "found", Value.ref found)], m p.1 = some p.2)
      (h2 : oa.data = .cell av) (h3 : ob.data = .cell (some (.int base tb))) (h5 : ∀ p ∈ nw, p.1 ≠ found ∧ p.1 ≠ La ∧ p.1 ≠ Lb) (h6 : ∀ p ∈ nw, ∀ q ∈ news, q.1 < p.1) (h7 : Are (SgIn nw) fvs (rowSt base (G.take i)).2.2) :
      RowJ l found La Lb tb tt base news G i m ((found, listOf fvs.toArray nf) :: (La, oa) :: (Lb, ob) :: (nw ++ news))
inductive RowOut (S : List Sg) (tl : List (Addr × Obj)) (x : Addr) : Prop
  | mk (fvs : List Value) (n : Nat) : (x, listOf fvs.toArray n) ∈ tl → Are (SgIn tl) fvs S → RowOut S tl x
theorem T_cps : ∀ k < 7, (T k).cps.toList = C k := by decide +kernel
theorem C_alph : ∀ k < 7, ∀ c ∈ C k, c ∈ alph := by decide
theorem C_ne : ∀ k < 7, C k ≠ [] ∧ (C k).length ≤ 3 := by decide
theorem sign_of {k j : Nat} {v : Value} (hk : k < 7) (h : SignAt (T k) j v) : ∃ c u, (C k)[j]? = some c ∧ c ∈ alph ∧ v = .str (Str.mk #[c]) u := by
  obtain ⟨c, u, e, rfl⟩ := h
  have e2 : (C k)[j]? = some c := by rw [← T_cps k hk, Array.getElem?_toList]; exact e
  exact ⟨c, u, e2, C_alph k hk c (List.mem_of_getElem? e2), rfl⟩
theorem T_size {k : Nat} (hk : k < 7) : (T k).cps.size = (C k).length := by rw [← T_cps k hk, Array.length_toList]
theorem rowSt_succ {bs : Int} {G : List Gl} {i : Nat} (hi : i < G.length) : rowSt bs (G.take (i + 1)) = rowStep bs (rowSt bs (G.take i)) G[i] := by
  have e : G.take (i + 1) = G.take i ++ [G[i]] := by rw [List.take_add_one, List.getElem?_eq_getElem hi]; rfl
  rw [e]
  unfold rowSt
  rw [List.foldl_append]
  rfl
theorem rowSt_fst {bs : Int} {G : List Gl} : ∀ {i : Nat}, i ≤ G.length → (rowSt bs (G.take i)).1 = i
  | 0, _ => rfl
  | i + 1, h => by rw [rowSt_succ h]; show (rowSt bs (G.take i)).1 + 1 = i + 1; rw [rowSt_fst (Nat.le_of_succ_le h)]
theorem rowSt_prev {bs : Int} {G : List Gl} {i : Nat} (hi : i < G.length) : (rowSt bs (G.take (i + 1))).2.1 = some G[i] := by rw [rowSt_succ hi]; rfl
theorem rowSt_ne {bs : Int} {G : List Gl} {i : Nat} (hi : i < G.length) (hG : ∀ g ∈ G, g.k < 7) : (rowSt bs (G.take (i + 1))).2.2 ≠ [] := by
  rw [rowSt_succ hi]
  intro e
  have e2 : freshOf bs (rowSt bs (G.take i)).1 G[i] = [] := (List.append_eq_nil_iff.mp e).2
  exact (C_ne _ (hG _ (List.getElem_mem hi))).1 (by simpa [freshOf] using e2)
inductive FreshJ (cs : List Nat) (bs : Int) (i : Nat) (cur : List (Addr × Obj)) (j : Nat) (ys : List Value) : List (Addr × Obj) → Prop
  | mk (tl2 : List (Addr × Obj)) (h1 : ∀ p ∈ tl2, ∀ q ∈ cur, q.1 < p.1) (h2 : Are (SgIn tl2) ys ((cs.take j).map fun c => ⟨plainC c, bs + i, false⟩)) : FreshJ cs bs i cur j ys (tl2 ++ cur)
theorem ext_K {h₀ : Heap} {L : Addr} {m : Str → Option Value} {prog : Program} {w : World} {A : Around} {E : Value → Shared → Prop} {s : Shared} {D b : Addr} {news news' : List (Addr × Obj)} {its its2 : List Value} {n n2 : Nat} {Q : Value → Shared → Prop} (F : Fr h₀ L s.heap m) (N : News h₀ L s.heap news) (hb : (b, listOf its2.toArray n2) ∈ news)
    (U : Upd D (listOf its.toArray n) (listOf (its ++ its2).toArray (n + 1)) news news') (hne : its2.length ≠ 0) (hz : its.length + its2.length ≤ 1000)
    (h : ∀ h', Fr h₀ L h' m → News h₀ L h' news' → Q .none { s with heap := h' }) : wpAny (model prog w) A (call (.builtin "list.extend") [.ref D, .ref b]) Q E s := by
  refine kl_extend F N hb rfl (by simpa using hne) U ?_ (by rw [sizeLine_eq]; simp; omega) (by rw [sizeLine_eq]; simp; omega) h
  intro e
  have e2 : Builtin.List.listTooLong (its.toArray.size + its2.toArray.size) = true := (Bool.and_eq_true_iff.mp e).2
  revert e2
  unfold Builtin.List.listTooLong
  rw [decide_eq_true_eq, sizeLine_eq]
  simp
  omega
theorem append_L {h₀ : Heap} {L : Addr} {m : Str → Option Value} {prog : Program} {w : World} {A : Around} {E : Value → Shared → Prop} {s : Shared} {D : Addr} {x : Value} {news news' : List (Addr × Obj)} {its : List Value} {n : Nat} {Q : Value → Shared → Prop} (F : Fr h₀ L s.heap m) (N : News h₀ L s.heap news)
    (U : Upd D (listOf its.toArray n) (listOf (its ++ [x]).toArray (n + 1)) news news') (hz : its.length ≤ 1000)
    (h : ∀ h', Fr h₀ L h' m → News h₀ L h' news' → Q .none { s with heap := h' }) : wpAny (model prog w) A (call (.builtin "list.append") [.ref D, x]) Q E s :=
  append_K F N (by rw [List.push_toArray]; exact U) h (by rw [sizeLine_eq]; simp; omega)
example : True := by
  k_with "K call builtin:list.append" => (((k_here; (with_reducible show wpAny _ _ (call (Value.builtin _) [Value.ref _, _]) _ _ _); k_dflt (refine' append_L ?K9k1 ?K9k2 ?K9k3 ?K9k4 ?_; (case K9k1 => k_asm); (case K9k2 => k_asm); (case K9k3 => k_upd); (case K9k4 => (k_extra "len")); k_whole); intro _ _ _); (try dsimp only)))
  trivial
example : True := by
  k_with "K call builtin:list.extend" => (((k_here; (with_reducible show wpAny _ _ (call (Value.builtin _) [Value.ref _, Value.ref _]) _ _ _); k_dflt (refine' ext_K ?K9k1 ?K9k2 ?K9k3 ?K9k4 ?K9k5 ?K9k6 ?_; (case K9k1 => k_asm); (case K9k2 => k_asm); (case K9k3 => k_mem); (case K9k4 => k_upd); (case K9k5 => omega); (case K9k6 => (k_extra "len")); k_whole); intro _ _ _); (try dsimp only)))
  trivial


theorem CompEnd.one {h₀ : Heap} {L I C D X : Addr} {m : Str → Option Value} {s₁ : Shared} {oI oC oD o : Obj} {rest : Value → List (Addr × Obj) → Prop} {y : Value} {h' : Heap} {tk : Nat} {news : List (Addr × Obj)}
    (F : Fr h₀ L h' m) (N : News h₀ L h' ((X, o) :: (I, oI) :: (C, oC) :: (D, oD) :: news)) (off : LCg.Off3 I C D news) (lt : @LT.lt Nat _ I X ∧ @LT.lt Nat _ C X ∧ @LT.lt Nat _ D X ∧ AllLt X news) (r : rest y ((X, o) :: news)) :
    LCg.CompEnd h₀ L m s₁ I oI C oC D oD (fun _ => True) rest y { s₁ with heap := h', toks := tk } := by
  refine LCg.CompEnd.intro F N ((X, o) :: news) ?_ ⟨⟨Nat.ne_of_gt lt.1, Nat.ne_of_gt lt.2.1, Nat.ne_of_gt lt.2.2.1⟩, off⟩ trivial r
  intro p hp
  rcases List.mem_cons.mp hp with rfl | hp
  · exact .tail _ (.head _)
  rcases List.mem_cons.mp hp with rfl | hp
  · exact .tail _ (.tail _ (.head _))
  rcases List.mem_cons.mp hp with rfl | hp
  · exact .tail _ (.tail _ (.tail _ (.head _)))
  rcases List.mem_cons.mp hp with rfl | hp
  · exact .head _
  · exact .tail _ (.tail _ (.tail _ (.tail _ hp)))
theorem Are.take_snoc {α : Type} {R : Value → α → Prop} {ys : List Value} {cs : List Nat} {f : Nat → α} {j c : Nat} {y : Value} (h : Are R ys ((cs.take j).map f)) (e : cs[j]? = some c) (k : R y (f c)) : Are R (ys ++ [y]) ((cs.take (j + 1)).map f) := by
  rw [List.take_add_one, e, List.map_append]
  exact h.append (.one k)
theorem news_perm {h₀ h : Heap} {L : Addr} {a b : List (Addr × Obj)} (N : News h₀ L h a) (k : ∀ p ∈ b, p ∈ a) : News h₀ L h b := fun p hp => N p (k p hp)

theorem off1_mem {D : Addr} : ∀ {l : List (Addr × Obj)}, LCg.Off1 D l → ∀ p ∈ l, p.1 ≠ D
  | [], _, _, h => nomatch h
  | _ :: _, x, p, h => by
    rcases List.mem_cons.mp h with rfl | h
    · exact x.1
    · exact off1_mem x.2 p h
theorem C_cons {k : Nat} (hk : k < 7) : ∃ c cs, C k = c :: cs := by
  cases e : C k with
  | nil => exact absurd e (C_ne k hk).1
  | cons c cs => exact ⟨c, cs, rfl⟩
theorem item_first (vs : List Value) (v : Value) : ItemAt (v :: vs) 0 v := .pos (by decide) (by decide) rfl
theorem item_first' (vs : List Value) (v : Value) : ItemAt (v :: vs) (-0) v := .pos (by decide) (by decide) rfl

theorem rowSt_len {bs : Int} {G : List Gl} (hG : ∀ g ∈ G, g.k < 7) : ∀ {i : Nat}, i ≤ G.length → (rowSt bs (G.take i)).2.2.length ≤ 4 * i
  | 0, _ => Nat.zero_le _
  | i + 1, h => by
    rw [rowSt_succ h]
    have h1 := rowSt_len (bs := bs) hG (Nat.le_of_succ_le h)
    have h2 : (C (G[i]'h).k).length ≤ 3 := (C_ne _ (hG _ (List.getElem_mem h))).2
    have h3 : ∀ p F g, (gapOf p F g).length ≤ 1 := by
      intro p F g
      unfold gapOf
      split
      · exact Nat.zero_le _
      · split
        · exact Nat.le_refl _
        · exact Nat.zero_le _
    show ((rowSt bs (G.take i)).2.2 ++ gapOf _ _ _ ++ freshOf _ _ _).length ≤ _
    rw [List.length_append, List.length_append]
    have h4 := h3 (rowSt bs (G.take i)).2.1 (rowSt bs (G.take i)).2.2 (G[i]'h)
    have h5 : (freshOf bs (rowSt bs (G.take i)).1 (G[i]'h)).length ≤ 3 := by unfold freshOf; rw [List.length_map]; exact h2
    omega
theorem lastc_snoc (S : List Sg) (y : Sg) : lastc (S ++ [y]) = y.c := by simp [lastc]
theorem row_turn {h₀ h' : Heap} {L l l0 La Lb tb tt : Nat} {m' : Str → Option Value} {bs : Int} {news own nw rest : List (Addr × Obj)} {G : List Gl} {i : Nat} {fvs : List Value} {nf : Nat} {oa ob : Obj} {av : Option Value} {s₁ : Shared} {tk : Nat}
    (F : Fr h₀ L h' m') (N : News h₀ L h' ((l0, listOf fvs.toArray nf) :: (La, oa) :: (Lb, ob) :: rest)) (h1 : ∀ p ∈ [(Str.ofString "row", Value.ref l), (Str.ofString "tenths", Value.int 5 tt), (Str.ofString "found", Value.ref l0)], m' p.1 = some p.2)
    (h2 : oa.data = .cell av) (h3 : ob.data = .cell (some (.int bs tb))) (hs : ∀ p ∈ nw ++ news ++ own, p ∈ rest) (h5 : ∀ p ∈ nw ++ news ++ own, p.1 ≠ l0 ∧ p.1 ≠ La ∧ p.1 ≠ Lb) (ho : ∀ p ∈ own, ∀ q ∈ nw ++ news, p.1 ≠ q.1)
    (h6 : ∀ p ∈ nw, ∀ q ∈ news, q.1 < p.1) (h7 : Are (SgIn nw) fvs (rowSt bs (G.take i)).2.2) :
    InvEndG h₀ L (fun m' nx => (∀ p ∈ ([] : List (Addr × Obj)), p ∈ nx) ∧ RowJ l l0 La Lb tb tt bs news G i m' nx) own s₁ { s₁ with heap := h', toks := tk } := by
  refine InvEndG.intro (nx := (l0, listOf fvs.toArray nf) :: (La, oa) :: (Lb, ob) :: (nw ++ news)) F N ⟨fun _ hp => (nomatch hp), .mk fvs nf oa ob av nw h1 h2 h3 (fun p hp => h5 p (List.mem_append_left _ (List.mem_append_left _ hp))) h6 h7⟩ ?_ ?_ ?_
  · intro p hp b hb e
    have q := h5 p (List.mem_append_right _ hp)
    simp only [List.map_cons, List.mem_cons] at hb
    rcases hb with rfl | rfl | rfl | hb
    · exact q.1 e
    · exact q.2.1 e
    · exact q.2.2 e
    · obtain ⟨q', hq', rfl⟩ := List.mem_map.mp hb
      exact ho p hp q' hq' e
  · intro p hp
    rcases List.mem_cons.mp hp with rfl | hp
    · exact .head _
    rcases List.mem_cons.mp hp with rfl | hp
    · exact .tail _ (.head _)
    rcases List.mem_cons.mp hp with rfl | hp
    · exact .tail _ (.tail _ (.head _))
    · exact .tail _ (.tail _ (.tail _ (hs p (List.mem_append_left _ hp))))
  · intro p hp
    exact .tail _ (.tail _ (.tail _ (hs p (List.mem_append_right _ hp))))

theorem rowSt_snd_zero {bs : Int} {G : List Gl} {g : Gl} (h : 0 < G.length) (e : G[0] = g) : (rowSt bs (G.take (0 + 1))).2.2 = (rowSt bs (G.take 0)).2.2 ++ freshOf bs 0 g := by
  rw [rowSt_succ h, e]
  show (rowSt bs (G.take 0)).2.2 ++ [] ++ freshOf bs 0 g = _
  rw [List.append_nil]
theorem rowSt_snd {bs : Int} {G : List Gl} {i : Nat} {g q : Gl} (h : i + 1 < G.length) (e : G[i + 1] = g) (eq : G[i] = q) : (rowSt bs (G.take (i + 1 + 1))).2.2 = (rowSt bs (G.take (i + 1))).2.2 ++ gapOf (some q) (rowSt bs (G.take (i + 1))).2.2 g ++ freshOf bs (i + 1) g := by
  rw [rowSt_succ h, e]
  show _ ++ gapOf (rowSt bs (G.take (i + 1))).2.1 _ g ++ freshOf bs (rowSt bs (G.take (i + 1))).1 g = _
  rw [rowSt_prev (Nat.lt_of_succ_lt h), rowSt_fst (Nat.le_of_lt h), eq]

theorem mem_re {a b c d : List (Addr × Obj)} : ∀ p ∈ a ++ b ++ c ++ d, p ∈ a ++ (b ++ c ++ d) := by
  intro p h
  simpa only [List.append_assoc] using h
theorem gap_no1 {S : List Sg} {y : Sg} {q g : Gl} (h : (Str.mk #[y.c] != Str.ofString " ") = false) : gapOf (some q) (S ++ [y]) g = [] := by
  rw [bne_sp] at h
  have h : y.c = 32 := by simpa using h
  simp [gapOf, lastc_snoc, h]
theorem gap_no2 {S : List Sg} {q g : Gl} {c : Nat} {cs : List Nat} (e : C g.k = c :: cs) (h : (Str.mk #[plainC c] != Str.ofString " ") = false) : gapOf (some q) S g = [] := by
  rw [bne_sp] at h
  have h : plainC c = 32 := by simpa using h
  simp [gapOf, e, h]
theorem gap_no3 {S : List Sg} {q g : Gl} (h : decide (5 < g.at_ - q.at_ - 4) = false) : gapOf (some q) S g = [] := by
  have h := of_decide_eq_false h
  simp only [gapOf, h, and_false, if_false]
theorem gap_yes {S : List Sg} {y : Sg} {q g : Gl} {c : Nat} {cs : List Nat} (h1 : (Str.mk #[y.c] != Str.ofString " ") = true) (e : C g.k = c :: cs) (h2 : (Str.mk #[plainC c] != Str.ofString " ") = true) (h3 : decide (5 < g.at_ - q.at_ - 4) = true) : gapOf (some q) (S ++ [y]) g = [⟨32, -1, false⟩] := by
  rw [bne_sp] at h1 h2
  have h1 : y.c ≠ 32 := by simpa using h1
  have h2 : plainC c ≠ 32 := by simpa using h2
  have h3 := of_decide_eq_true h3
  simp [gapOf, lastc_snoc, h1, e, h2, h3]

theorem row_gap {h₀ h' : Heap} {L l l0 La Lb tb tt D X : Nat} {m' : Str → Option Value} {bs : Int} {news own nw rest : List (Addr × Obj)} {G : List Gl} {i : Nat} {fvs gvs : List Value} {nf n t1 t2 : Nat} {oa ob oD : Obj} {av : Option Value} {s₁ : Shared} {tk : Nat} {S F : List Sg}
    (FX : Fr h₀ L h' m') (N : News h₀ L h' ((X, { cls := .type "tuple", data := .seq #[.str (Str.ofString " ") t1, .int (-1) t2, .bool false] n }) :: (l0, listOf (fvs ++ [Value.ref X] ++ gvs).toArray nf) :: (La, oa) :: (Lb, ob) :: (D, oD) :: rest)) (h1 : ∀ p ∈ [(Str.ofString "row", Value.ref l), (Str.ofString "tenths", Value.int 5 tt), (Str.ofString "found", Value.ref l0)], m' p.1 = some p.2)
    (h2 : oa.data = .cell av) (h3 : ob.data = .cell (some (.int bs tb))) (hs : ∀ p ∈ nw ++ news ++ own, p ∈ (D, oD) :: rest) (h5 : ∀ p ∈ nw ++ news ++ own, p.1 ≠ l0 ∧ p.1 ≠ La ∧ p.1 ≠ Lb) (ho : ∀ p ∈ own, ∀ q ∈ nw ++ news, p.1 ≠ q.1)
    (h6 : ∀ p ∈ nw, ∀ q ∈ news, q.1 < p.1) (lt : @LT.lt Nat _ l0 X ∧ @LT.lt Nat _ La X ∧ @LT.lt Nat _ Lb X ∧ @LT.lt Nat _ D X ∧ AllLt X rest) (h7 : Are (SgIn nw) fvs S) (h8 : Are (SgIn nw) gvs F) (e : (rowSt bs (G.take i)).2.2 = S ++ [⟨32, -1, false⟩] ++ F) :
    InvEndG h₀ L (fun m' nx => (∀ p ∈ ([] : List (Addr × Obj)), p ∈ nx) ∧ RowJ l l0 La Lb tb tt bs news G i m' nx) own s₁ { s₁ with heap := h', toks := tk } := by
  rw [str_sp] at N
  have hlt : ∀ p ∈ nw ++ news ++ own, p.1 < X := by
    intro p hp
    rcases List.mem_cons.mp (hs p hp) with rfl | hp
    · exact lt.2.2.2.1
    · exact tb_ltOf lt.2.2.2.2 p hp
  refine row_turn (nf := nf) (fvs := fvs ++ [Value.ref X] ++ gvs) (nw := (X, { cls := .type "tuple", data := .seq #[.str (Str.mk #[32]) t1, .int (-1) t2, .bool false] n }) :: nw) (rest := (X, { cls := .type "tuple", data := .seq #[.str (Str.mk #[32]) t1, .int (-1) t2, .bool false] n }) :: (D, oD) :: rest) FX (news_perm N ?_) h1 h2 h3 ?_ ?_ ?_ ?_ ?_
  · intro p hp
    rcases List.mem_cons.mp hp with rfl | hp
    · exact .tail _ (.head _)
    rcases List.mem_cons.mp hp with rfl | hp
    · exact .tail _ (.tail _ (.head _))
    rcases List.mem_cons.mp hp with rfl | hp
    · exact .tail _ (.tail _ (.tail _ (.head _)))
    rcases List.mem_cons.mp hp with rfl | hp
    · exact .head _
    · exact .tail _ (.tail _ (.tail _ (.tail _ hp)))
  · intro p hp
    rcases List.mem_cons.mp hp with rfl | hp
    · exact .head _
    · exact .tail _ (hs p hp)
  · intro p hp
    rcases List.mem_cons.mp hp with rfl | hp
    · exact ⟨Nat.ne_of_gt lt.1, Nat.ne_of_gt lt.2.1, Nat.ne_of_gt lt.2.2.1⟩
    · exact h5 p hp
  · intro p hp q hq
    rcases List.mem_cons.mp hq with rfl | hq
    · exact Nat.ne_of_lt (hlt p (List.mem_append_right _ hp))
    · exact ho p hp q hq
  · intro p hp q hq
    rcases List.mem_cons.mp hp with rfl | hp
    · exact hlt q (List.mem_append_left _ (List.mem_append_right _ hq))
    · exact h6 p hp q hq
  · rw [e]
    exact ((h7.mono fun _ _ h => h.mono fun p hp => .tail _ hp).append (.one (.mk _ _ _ _ _ _ _ (.head _)))).append (h8.mono fun _ _ h => h.mono fun p hp => .tail _ hp)

theorem partP7 : True := by
  w_top off
  trivial
section
example : True := by
  k_with "K exec Assign cons ListComp" => ((k_here; k_dflt (refine Assign_signs (F₀ := by k_asm) (by rfl) (by with_unfolding_all rfl) (by rfl) (by decide) (by rfl) (by decide) (by rfl) (by rfl) (by rfl) ?_ (by intro _; rfl))))
  trivial
theorem row_ok (w : World) (l : Addr) (gvs : List Value) (nc : Nat) (G : List Gl) (bs : Int) (tb tt : Tok) (news : List (Addr × Obj)) (hm : (l, listOf gvs.toArray nc) ∈ news) (hG : Are (GlIn news) gvs G) (hlen : gvs.length ≤ 4)
   (hbs : 0 ≤ bs) (hbs2 : bs ≤ 100) (hgk : ∀ g ∈ G, g.k < 7 ∧ 0 ≤ g.at_ ∧ g.at_ ≤ 100) : DoesN w 12 229 [.ref l, .int bs tb, .int 5 tt] news (RowOut (rowSt bs G).2.2) := by
  unfold DoesN
  intro d f g u h₀ L m s Q E hA hd hu F N ret
  obtain ⟨sh, sg, sd, stk, so⟩ := s
  dsimp only at F N ret
  cases hA with | mk A₀ base env outer mean mg mb B X T hA hf hk =>
  revert X
  k_fill
  intro X
  refine wpAny_call ?_
  k_dflt (k_extra "enter")
  have z1 : LenAt gvs gvs.length := ⟨rfl, by omega⟩
  k_steps
  have hLf := l19
  rename_i gA lA hpA tkA FGA BA XA TA o1 o2 d1 d2 l0 ha hl0 hh1 F0 N0 hh2 tk2 t1 t2 t3 hr F1 N1 hup
  have hLn : ∀ p ∈ news, p.1 ≠ l0 ∧ p.1 ≠ lA + 1 + 1 ∧ p.1 ≠ lA + 1 := fun p hp => ⟨Nat.ne_of_lt (tb_ltOf hl0.2.2 p hp), Nat.ne_of_lt (Nat.lt_succ_of_lt (Nat.lt_succ_of_lt (hLf p hp))), Nat.ne_of_lt (Nat.lt_succ_of_lt (hLf p hp))⟩
  refine' turns_range (RowJ l ?found ?La ?Lb tb tt bs news G) rfl hr rfl (by omega) F1 N1 ?j0 ?turn ?done (by intro _ _; rfl)
  case j0 =>
    refine RowJ.mk (base := bs) (G := G) (i := 0) (news := news) [] 0 o1 o2 _ [] ?h1 d1 d2 (fun _ hp => nomatch hp) (fun _ hp => nomatch hp) .nil
    exact mp_cons (by rfl) (mp_cons (by rfl) (mp_cons (by rfl) (mp_nil)))
  case turn =>
    intro i t m₁ nx h tk own hi hown hJ F2 N2 Qb hnQ hrQ
    cases hJ with | mk fvs nf oa ob av nw j1 j2 j3 j5 j6 j7 =>
    replace F2 := fr_upd F2 _ j1
    simp only [List.cons_append] at N2
    have hi' : i < G.length := by rw [← hG.length]; exact hi
    obtain ⟨v, hv, hg⟩ := hG.get hi'
    have gk := hgk _ (List.getElem_mem hi')
    generalize hGi : G[i] = gi at hg gk
    have z2 : ItemAt gvs (i : Int) v := .pos (by omega) (by omega) (by simpa using hv)
    have hoff : ∀ p ∈ nw ++ news ++ own, p.1 ≠ l0 ∧ p.1 ≠ lA + 1 + 1 ∧ p.1 ≠ lA + 1 := fun p hp => (List.mem_append.mp hp).elim (fun h => (List.mem_append.mp h).elim (j5 p) (hLn p)) fun h => ⟨hown p h _ (.head _), hown p h _ (.tail _ (.head _)), hown p h _ (.tail _ (.tail _ (.head _)))⟩
    have hoff1 := fun p hp => (hoff p hp).1
    have hoff2 := fun p hp => (hoff p hp).2.1
    have hoff3 := fun p hp => (hoff p hp).2.2
    have hm' : (l, listOf gvs.toArray nc) ∈ nw ++ news ++ own := List.mem_append_left _ (List.mem_append_right _ hm)
    replace hg := hg.mono fun p hp => List.mem_append_left own (List.mem_append_right nw hp)
    have hg0 := hg
    cases hg with | mk ga gd gx gy gw gs gk1 gk2 gk3 gk4 gk5 gt0 gt1 gt2 gt3 gt4 gt5 gn gpy kx gi gm1 gm2 gx1 gy1 gw1 gs1 =>
    have hkx : kx < 7 := gk.1
    k_steps
    rename_i h3 o3 F3 N3 d3
    refine .mk _ _ _ _ rfl F3 N3 (by rw [T_size hkx, sizeLine_eq]; have := (C_ne kx hkx).2; omega) fun gg => ?_
    refine compU_inv (FreshJ (C kx) bs i _) (.mk [] (fun _ hp => nomatch hp) .nil) ?fin ?tn
    case tn =>
      intro j ys nx v I oI Cc oC D m₂ hh tkk E' hj hJ hv hC hx FC NC off ne3
      cases hJ with | mk tl2 f1 f2 =>
      obtain ⟨c, uu, hcj, hca, rfl⟩ := sign_of hkx hv
      k_steps
      rename_i lX
      (try k_unfold)
      refine CompEnd.one (by assumption) (by assumption) off lX ?_
      refine FreshJ.mk (cs := C kx) (bs := bs) (i := i) (j := j + 1) ((_, _) :: tl2) ?_ ((f2.mono fun _ _ h => h.mono fun p hp => .tail _ hp).take_snoc hcj (.mk _ _ _ _ _ _ _ (.head _)))
      intro p hp q hq
      rcases List.mem_cons.mp hp with rfl | hp
      · exact tb_ltOf lX.2.2.2 q (List.mem_append_right _ hq)
      · exact f1 p hp q hq
    case fin =>
      intro ys news' hJ
      cases hJ with | mk tl2 f1 f2 =>
      intro D hD tkD FD ND offD
      have offM := off1_mem offD
      have hR : ∀ p ∈ (D, listOf ys.toArray ys.length) :: (tl2 ++ (nw ++ news ++ own)), p.1 ≠ l0 ∧ p.1 ≠ lA + 1 + 1 ∧ p.1 ≠ lA + 1 := by
        intro p hp
        rcases List.mem_cons.mp hp with rfl | hp
        · exact ⟨Ne.symm (offM _ (List.mem_append_right _ (.head _))), Ne.symm (offM _ (List.mem_append_right _ (.tail _ (.head _)))), Ne.symm (offM _ (List.mem_append_right _ (.tail _ (.tail _ (.head _)))))⟩
        rcases List.mem_append.mp hp with hp | hp
        · exact ⟨Nat.ne_of_gt (f1 p hp _ (.head _)), Nat.ne_of_gt (f1 p hp _ (.tail _ (.head _))), Nat.ne_of_gt (f1 p hp _ (.tail _ (.tail _ (.head _))))⟩
        · exact hoff p hp
      have hR1 := fun p hp => (hR p hp).1
      have hR2 := fun p hp => (hR p hp).2.1
      have hR3 := fun p hp => (hR p hp).2.2
      replace ND := news_perm (b := (l0, listOf fvs.toArray nf) :: (lA + 1 + 1, o3) :: (lA + 1, ob) :: (D, listOf ys.toArray ys.length) :: (tl2 ++ (nw ++ news ++ own))) ND (by
        intro p hp
        rcases List.mem_cons.mp hp with rfl | hp
        · exact .tail _ (List.mem_append_right _ (.head _))
        rcases List.mem_cons.mp hp with rfl | hp
        · exact .tail _ (List.mem_append_right _ (.tail _ (.head _)))
        rcases List.mem_cons.mp hp with rfl | hp
        · exact .tail _ (List.mem_append_right _ (.tail _ (.tail _ (.head _))))
        rcases List.mem_cons.mp hp with rfl | hp
        · exact .head _
        rcases List.mem_append.mp hp with hp | hp
        · exact .tail _ (List.mem_append_left _ hp)
        · exact .tail _ (List.mem_append_right _ (.tail _ (.tail _ (.tail _ hp)))))
      rw [T_size hkx, List.take_length] at f2
      clear F3 N3 hR offD
      have hgk' : ∀ g ∈ G, g.k < 7 := fun g hg => (hgk g hg).1
      have lf : fvs.length ≤ 4 * i := by rw [j7.length]; exact rowSt_len hgk' (Nat.le_of_lt hi')
      have ly : ys.length ≠ 0 ∧ ys.length ≤ 3 := by
        rw [f2.length, List.length_map]
        exact ⟨fun e => (C_ne kx hkx).1 (List.length_eq_zero_iff.mp e), (C_ne kx hkx).2⟩
      obtain ⟨ly1, ly2⟩ := ly
      have hown' : ∀ p ∈ own, ∀ q ∈ tl2 ++ nw ++ news, p.1 ≠ q.1 := by
        intro p hp q hq
        rcases List.mem_append.mp hq with hq | hq
        · rcases List.mem_append.mp hq with hq | hq
          · exact Nat.ne_of_lt (f1 q hq p (.tail _ (.tail _ (.tail _ (List.mem_append_right _ hp)))))
          · exact hown p hp _ (.tail _ (.tail _ (.tail _ (List.mem_map.mpr ⟨q, List.mem_append_left _ hq, rfl⟩))))
        · exact hown p hp _ (.tail _ (.tail _ (.tail _ (List.mem_map.mpr ⟨q, List.mem_append_right _ hq, rfl⟩))))
      have hR4 : ∀ p ∈ tl2 ++ nw ++ news ++ own, p.1 ≠ l0 ∧ p.1 ≠ lA + 1 + 1 ∧ p.1 ≠ lA + 1 := by
        intro p hp
        have h : p ∈ (D, listOf ys.toArray ys.length) :: (tl2 ++ (nw ++ news ++ own)) := .tail _ (mem_re p hp)
        exact ⟨hR1 p h, hR2 p h, hR3 p h⟩
      have hnw : ∀ p ∈ tl2 ++ nw, ∀ q ∈ news, q.1 < p.1 := by
        intro p hp q hq
        rcases List.mem_append.mp hp with hp | hp
        · exact f1 p hp q (.tail _ (.tail _ (.tail _ (List.mem_append_left _ (List.mem_append_right _ hq)))))
        · exact j6 p hp q hq
      have hbase : Are (SgIn (tl2 ++ nw)) fvs (rowSt bs (G.take i)).2.2 := j7.mono fun _ _ h => h.mono fun p hp => List.mem_append_right _ hp
      have hfresh : Are (SgIn (tl2 ++ nw)) ys (freshOf bs i ⟨kx, gi⟩) := f2.mono fun _ _ h => h.mono fun p hp => List.mem_append_left _ hp
      have hmap : ∀ p ∈ [(Str.ofString "row", Value.ref l), (Str.ofString "tenths", Value.int 5 tt), (Str.ofString "found", Value.ref l0)], (fun z => if z = Str.ofString "fresh" then some (Value.ref D) else upd m₁ [(Str.ofString "row", Value.ref l), (Str.ofString "tenths", Value.int 5 tt), (Str.ofString "found", Value.ref l0)] z) p.1 = some p.2 := by
        exact mp_cons (by rfl) (mp_cons (by rfl) (mp_cons (by rfl) (mp_nil)))
      have hsub : ∀ p ∈ tl2 ++ nw ++ news ++ own, p ∈ (D, listOf ys.toArray ys.length) :: (tl2 ++ (nw ++ news ++ own)) := fun p hp => .tail _ (mem_re p hp)
      cases i with
      | zero =>
        (try dsimp only)
        k_steps
        exact row_turn (by assumption) (by assumption) hmap d3 j3 hsub hR4 hown' hnw (by rw [rowSt_snd_zero hi' hGi]; exact hbase.append hfresh)
      | succ i =>
        (try dsimp only)
        have hi1 : i < G.length := Nat.lt_of_succ_lt hi'
        obtain ⟨pv, hpv, hpg⟩ := hG.get hi1
        have pk := hgk _ (List.getElem_mem hi1)
        generalize hPi : G[i] = gp at hpg pk
        have z5 : ItemAt gvs (((i + 1 : Nat) : Int) - 1) pv := .pos (by omega) (by omega) (by rw [show ((((i + 1 : Nat) : Int) - 1)).toNat = i by omega]; exact hpv)
        have hne := rowSt_ne (bs := bs) hi1 hgk'
        rcases List.eq_nil_or_concat (rowSt bs (G.take (i + 1))).2.2 with e | ⟨S, y, e⟩
        · exact absurd e hne
        rw [List.concat_eq_append] at e
        rw [e] at j7 hbase
        obtain ⟨ws, lv, rfl, j7, hy⟩ := j7.snoc
        cases hy with | mk ya yt1 yt2 yn yc yp yb ym =>
        have z3 : ItemAt (ws ++ [Value.ref ya]) (-1) (Value.ref ya) := item_last _ _
        obtain ⟨c0, cs, hC⟩ := C_cons hkx
        rw [hC] at f2
        cases f2 with | cons hf0 f2 =>
        cases hf0 with | mk fa ft1 ft2 fn fc fp fb fm =>
        rename_i ys
        have z4 : ItemAt (Value.ref fa :: ys) 0 (Value.ref fa) := item_first _ _
        have hq1 : GlIn ((l0, listOf (ws ++ [Value.ref ya]).toArray nf) :: (lA + 1 + 1, o3) :: (lA + 1, ob) :: (D, listOf (Value.ref fa :: ys).toArray (Value.ref fa :: ys).length) :: (tl2 ++ (nw ++ news ++ own))) pv gp := hpg.mono fun p hp => .tail _ (.tail _ (.tail _ (.tail _ (List.mem_append_right _ (List.mem_append_left _ (List.mem_append_right _ hp))))))
        have hq2 : GlIn ((l0, listOf (ws ++ [Value.ref ya]).toArray nf) :: (lA + 1 + 1, o3) :: (lA + 1, ob) :: (D, listOf (Value.ref fa :: ys).toArray (Value.ref fa :: ys).length) :: (tl2 ++ (nw ++ news ++ own))) (.ref ga) ⟨kx, gi⟩ := hg0.mono fun p hp => .tail _ (.tail _ (.tail _ (.tail _ (List.mem_append_right _ hp))))
        k_steps
        · rename (Str.mk #[yc] != _) = true => a1
          rename (Str.mk #[plainC c0] != _) = true => a2
          rename _ < _ => a3
          rename _ < _ ∧ _ => lX
          rename Fr _ _ _ _ => FX
          rename News _ _ _ _ => NX
          exact row_gap FX NX hmap d3 j3 hsub hR4 hown' hnw lX hbase hfresh (by rw [rowSt_snd hi' hGi hPi, e, gap_yes a1 hC a2 (decide_eq_true a3)])
        · rename ¬ _ < _ => a3
          exact row_turn (by assumption) (by assumption) hmap d3 j3 hsub hR4 hown' hnw (by rw [rowSt_snd hi' hGi hPi, e, gap_no3 (decide_eq_false a3), List.append_nil]; exact hbase.append hfresh)
        · rename (Str.mk #[plainC c0] != _) = false => a2
          exact row_turn (by assumption) (by assumption) hmap d3 j3 hsub hR4 hown' hnw (by rw [rowSt_snd hi' hGi hPi, e, gap_no2 hC a2, List.append_nil]; exact hbase.append hfresh)
        · rename (Str.mk #[yc] != _) = false => a1
          exact row_turn (by assumption) (by assumption) hmap d3 j3 hsub hR4 hown' hnw (by rw [rowSt_snd hi' hGi hPi, e, gap_no1 a1, List.append_nil]; exact hbase.append hfresh)
  case done =>
    intro m₁ nx h tk hJ F2 N2
    cases hJ with | mk fvs nf oa ob av nw j1 j2 j3 j5 j6 j7 =>
    replace F2 := fr_upd F2 _ j1
    rw [show gvs.length = G.length from hG.length, List.take_length] at j7
    k_steps
    refine ret l0 ((l0, listOf fvs.toArray nf) :: nw) _ _ (by k_asm) (news_perm (by k_asm) ?_) (.mk fvs nf (.head _) (j7.mono fun _ _ h => h.mono fun p hp => .tail _ hp)) ?_
    · intro p hp
      rcases List.mem_cons.mp hp with rfl | hp
      · exact .head _
      · exact .tail _ (.tail _ (.tail _ hp))
    · intro p hp q hq
      rcases List.mem_cons.mp hp with rfl | hp
      · exact tb_ltOf hl0.2.2 q hq
      · exact j6 p hp q hq
example : True := by
  k_with_none
  k_with "K spliced" => (((k_here; k_dflt (refine' args_ev ?K9F ?K9k ?K9e ?_; (case K9F => k_asm); (case K9k => exact rfl); (case K9e => exact rfl))); (try dsimp only [List.cons_append, List.nil_append])))
  k_with "K eval Subscript" => ((k_here; k_dflt (refine' sub_ev1 ?K9F ?K9k ?K9e ?_; (case K9F => k_asm); (case K9k => exact rfl); (case K9e => exact rfl))))
  k_with "K eval Subscript" => ((k_here; k_dflt (refine' sub_ev ?K9F ?K9k ?K9e ?K9i ?_; (case K9F => k_asm); (case K9k => exact rfl); (case K9e => exact rfl); (case K9i => exact rfl))))
  k_with "K eval BinOp" => ((k_here; k_dflt (refine' bin_ev1 ?K9F ?K9k ?K9e ?_; (case K9F => k_asm); (case K9k => exact rfl); (case K9e => exact rfl))))
  k_with "K eval BinOp" => ((k_here; k_dflt (refine' bin_ev ?K9F ?K9k ?K9e ?K9i ?_; (case K9F => k_asm); (case K9k => exact rfl); (case K9e => exact rfl); (case K9i => exact rfl))))
  k_with "K eval Compare" => ((k_here; k_dflt (refine' cmp_ev ?K9F ?K9k ?K9e ?K9i ?_ ?K9m; (case K9m => with_unfolding_all exact rfl); (case K9F => k_asm); (case K9k => exact rfl); (case K9e => exact rfl); (case K9i => exact rfl))))
  k_with "K isTrue Compare" => ((k_here; k_dflt (refine' test_ev ?K9F ?K9k ?K9e ?K9i ?_ ?K9m; (case K9m => with_unfolding_all exact rfl); (case K9F => k_asm); (case K9k => exact rfl); (case K9e => exact rfl); (case K9i => exact rfl))))
  k_with "K eval Name" => ((k_here; k_dflt (refine' name_ev ?K9F ?K9k ?K9e ?_; (case K9F => k_asm); (case K9k => exact rfl); (case K9e => exact rfl))))
  k_with "omega" => ((with_reducible first | assumption | exact Nat.ne_of_lt (by assumption) | exact Nat.ne_of_gt (by assumption) | exact and_ne1 (by assumption) | exact and_ne2 (by assumption) | exact and_ne3 (by assumption) | exact and_ne4 (by assumption) | exact and_ne5 (by assumption) | exact and_ne6 (by assumption) | exact and_ne7 (by assumption) | exact and_ne8 (by assumption) | exact and_ne9 (by assumption) | exact and_ne10 (by assumption) | exact Int.natCast_nonneg _ | exact cpos _ | exact room1 (by assumption) | (refine room2 (by assumption) ?_; with_unfolding_all exact rfl) | (refine room3 (by assumption) ?_; with_unfolding_all exact rfl) | (refine lebig (by assumption) ?_; with_unfolding_all exact rfl) | (refine leAdd2 (by assumption) (by assumption) ?_; with_unfolding_all exact rfl) | (refine snocLe (by assumption) ?_; with_unfolding_all exact rfl) | (refine snocAdd (by assumption) (by assumption) ?_; with_unfolding_all exact rfl) | exact nnAddI (by assumption) | exact nnAddI (nnAddI (by assumption)) | (refine leAddI (by assumption) ?_; with_unfolding_all decide) | (refine castLt (by assumption) ?_; with_unfolding_all decide) | (refine castLt2 (by assumption) (by assumption) ?_; with_unfolding_all decide) | (refine castLe ?_; with_unfolding_all decide) | (refine Int.le_trans (by assumption) ?_; with_unfolding_all decide) | (with_unfolding_all decide)))
  k_with "all" => (assumption)
  k_with "turns" => ((first | with_reducible assumption | with_reducible exact List.mem_cons_self | ((with_reducible refine List.mem_cons_of_mem _ ?_); (k_extra "turns")) | ((with_reducible show _ ∈ _ ++ _); first | (refine List.mem_append_right _ ?_; (k_extra "turns")) | (refine List.mem_append_left _ ?_; (k_extra "turns")))))
  k_with "mem" => (((show (_ : Addr × Obj) ∈ (_ : List (Addr × Obj))); (k_extra "turns")))
  k_with "len" => (first | omega | (simp only [List.length_append, List.length_cons, List.length_nil] at *; omega))
  k_with "rel" => (first | assumption | (refine DecIn.right ?K9kr; (case K9kr => (k_extra "rel"))) | (refine DecIn.left ?K9kr; (case K9kr => (k_extra "rel"))) | (refine' DecIn.mk _ _ _ _ _ _ _ _ ?K9m1 ?K9m2; (case K9m1 => k_mem); (case K9m2 => k_mem)))
  k_with "gen" => (((try (with_reducible refine enter_A (by assumption) (by assumption) (by assumption) (by with_unfolding_all exact rfl) fun d8 f8 u8 hf8 hd8 hu8 => ?_)); (with_reducible refine gen_never ?_); (with_reducible refine gen_body fun Q8 hR8 hQ8 => ?_)))
  k_with "steps" => (repeat' (first | k_extra "leaf" | (k_unfold; (try dsimp only)) | (k_end; kc_close) | walk1 | (dsimp only; walk1) | (leave1; walk_say "STEP leave1"; (try dsimp only)) | fail "no step"))
  k_with "leaf" => (first | (with_reducible (refine hQ9 (Shared.mk _ sg sd _ so) ?_; clear hQ9; (try clear hR9); clear Q9)) | (refine hQ9 (Shared.mk _ sg sd _ so) ?_; clear hQ9; (try clear hR9); clear Q9) | (with_reducible first | (refine hQ9 _ ?_; clear hQ9; (try clear hR9); clear Q9) | (refine hR9 _ _ ?_; clear hR9; (try clear hQ9); clear Q9) | (refine (?K9h : Nexts _ _) _ ?_; (case K9h => assumption)) | (refine (?K9h : Rets _ _) _ _ ?_; (case K9h => assumption))))
  k_with "K execs cons Assign" => ((with_reducible refine cut_next fun Q9 hQ9 => ?_))
  k_with "K execs cons Assign" => ((with_reducible refine wp_tks fun tk9 => ?_))
  k_with "K execs cons Expr" => ((with_reducible refine cut_next fun Q9 hQ9 => ?_))
  k_with "K execs cons Expr" => ((with_reducible refine wp_tks fun tk9 => ?_))
  k_with "K execs cons AugAssign" => ((with_reducible refine cut_next fun Q9 hQ9 => ?_))
  k_with "K execs cons AugAssign" => ((with_reducible refine wp_tks fun tk9 => ?_))
  k_with "K execs cons If" => ((with_reducible refine cut_ret fun Q9 hR9 hQ9 => ?_))
  k_with "K execs cons If" => ((with_reducible refine wp_tks fun tk9 => ?_))
  k_with "K execs cons For" => ((with_reducible refine cut_ret fun Q9 hR9 hQ9 => ?_))
  k_with "K execs cons For" => ((with_reducible refine wp_tks fun tk9 => ?_))
  k_with "K execs cons While" => ((with_reducible refine cut_ret fun Q9 hR9 hQ9 => ?_))
  k_with "K execs cons While" => ((with_reducible refine wp_tks fun tk9 => ?_))
  k_with "K execs cons Return" => ((with_reducible refine cut_ret fun Q9 hR9 hQ9 => ?_))
  k_with "K execs cons Return" => ((with_reducible refine wp_tks fun tk9 => ?_))
  k_with "K binaryOp Pow int int" => ((with_reducible refine pow_zero ?K9ke ?K9ka ?_; (case K9ke => decide); (case K9ka => decide)))
  k_with "unf" => (first | assumption | exact Around.frames_deeper (by assumption) | exact Around.frames_deeper (Around.frames_deeper (by assumption)) | ktr_unf)
  k_with "room" => (first | (show (_ : Nat) + _ < _; omega) | (show (_ : Nat) < _; omega) | ((simp only [depth_under_make, depth_under_kw, depth_in1, depth_deeper, arT]); omega) | ktr_room)
  k_with "units" => (first | (show (_ : Nat) + _ < _; omega) | ((have hcL9 := cLine_is); (simp only [units_in1, units_deeper, Around.mark_units, units_caller, arT]); omega) | ktr_units)
  k_with "kroom" => ((k_extra "room"))
  k_with "enter" => (first | (refine' code_def ?K9k1 ?K9k2 ?K9k3 ?K9k4 ?K9k5 ?K9kA ?K9kF ?K9kK ?K9k6 ?K9k7 ?K9k8 ?K9k9 ?K9kB ?_ ?K9c2 ?K9c3 ?K9c4 ?K9c5; (case K9kA => (k_extra "unf")); (case K9kF => first | assumption | exact rfl); (case K9kK => first | assumption | exact rfl); (case K9k1 => k_asm); (case K9k2 => k_asm); (case K9k3 => k_asm); (case K9k4 => k_asm); (case K9k5 => k_asm); (case K9k6 => k_is); (case K9k7 => k_is); (case K9k8 => (k_extra "room")); (case K9k9 => exact BindsTo.of_eq rfl); (case K9c5 => decide); (case K9kB => exact locs rfl); (case K9c2 => exact rfl); (case K9c3 => exact rfl); (case K9c4 => exact rfl); k_whole; intro _ _ _ _ _ _ _ _ _; (try dsimp only); (try (k_extra "gen"))) | (refine' code_defC ?K9k1 ?K9k2 ?K9k3 ?K9k4 ?K9k5 ?K9kA ?K9kF ?K9kK ?K9k6 ?K9k7 ?K9k8 ?K9k9 ?K9kB ?K9kD ?_ ?K9c2 ?K9c3 ?K9c4; (case K9kA => (k_extra "unf")); (case K9kF => first | assumption | exact rfl); (case K9kK => first | assumption | exact rfl); (case K9k1 => k_asm); (case K9k2 => k_asm); (case K9k3 => k_asm); (case K9k4 => k_asm); (case K9k5 => k_asm); (case K9k6 => k_is); (case K9k7 => k_is); (case K9k8 => (k_extra "room")); (case K9k9 => exact BindsTo.of_eq rfl); (case K9kB => exact rfl); (case K9kD => decide +kernel); (case K9c2 => exact rfl); (case K9c3 => exact rfl); (case K9c4 => exact rfl); k_whole; intro _ _ _ _ _ _ _ N19 Y19 _ _ _ l19; (try k_lt l19); k_cells Y19; (try simp only [List.cons_append, List.nil_append] at N19); (try dsimp only); (try (k_extra "gen"))) | ktr_enter)
  k_with "kenter" => ((k_extra "enter"))
  k_with "K call ref" => (((k_here; (with_reducible show wpAny _ _ (call (Value.ref 143) _) _ _ _); k_dflt (refine' DoesN.use (new_dec_ok _ _ _ _ _) ?K9k1 ?K9k2 ?K9k3 ?K9k4 ?K9k5 ?K9kA ?K9kF ?K9kK ?K9kd ?K9ku ?_; (case K9k1 => k_asm); (case K9k2 => k_asm); (case K9k3 => k_asm); (case K9k4 => k_asm); (case K9k5 => k_asm); (case K9kA => (k_extra "unf")); (case K9kF => first | assumption | exact rfl); (case K9kK => first | assumption | exact rfl); (case K9kd => (k_extra "room")); (case K9ku => (k_extra "units"))); intro _ _ _ _ _ _ _ _); (try dsimp only)))
  k_with "K call ref" => (((k_here; (with_reducible show wpAny _ _ (call (Value.ref 175) _) _ _ _); k_dflt (refine' DoesN.use (scale_ok _ _ _ _ _ _ ?K9h1 ?K9h2) ?K9k1 ?K9k2 ?K9k3 ?K9k4 ?K9k5 ?K9kA ?K9kF ?K9kK ?K9kd ?K9ku ?_; (case K9k1 => k_asm); (case K9k2 => k_asm); (case K9k3 => k_asm); (case K9k4 => k_asm); (case K9k5 => k_asm); (case K9h1 => (k_extra "rel")); (case K9h2 => (k_extra "rel")); (case K9kA => (k_extra "unf")); (case K9kF => first | assumption | exact rfl); (case K9kK => first | assumption | exact rfl); (case K9kd => (k_extra "room")); (case K9ku => (k_extra "units"))); intro _ _ _ _ _ _ D9 _; obtain ⟨_, _, _, _, D9⟩ := D9); (try dsimp only)))
  k_with "K call ref" => (((k_here; (with_reducible show wpAny _ _ (call (Value.ref 77) _) _ _ _); k_dflt (refine' DoesN.use (minus_ok _ _ _ _ _ _ ?K9h1 ?K9h2) ?K9k1 ?K9k2 ?K9k3 ?K9k4 ?K9k5 ?K9kA ?K9kF ?K9kK ?K9kd ?K9ku ?_; (case K9k1 => k_asm); (case K9k2 => k_asm); (case K9k3 => k_asm); (case K9k4 => k_asm); (case K9k5 => k_asm); (case K9h1 => (k_extra "rel")); (case K9h2 => (k_extra "rel")); (case K9kA => (k_extra "unf")); (case K9kF => first | assumption | exact rfl); (case K9kK => first | assumption | exact rfl); (case K9kd => (k_extra "room")); (case K9ku => (k_extra "units"))); intro _ _ _ _ _ _ D9 _; obtain ⟨_, _, _, _, _, _, _, _, _, _⟩ := id D9); (try dsimp only)))
  k_with "K call ref" => (((k_here; (with_reducible show wpAny _ _ (call (Value.ref 168) [Value.int _ _]) _ _ _); k_dflt (refine' DoesN.use (decof_ok _ _ _ _) ?K9k1 ?K9k2 ?K9k3 ?K9k4 ?K9k5 ?K9kA ?K9kF ?K9kK ?K9kd ?K9ku ?_; (case K9k1 => k_asm); (case K9k2 => k_asm); (case K9k3 => k_asm); (case K9k4 => k_asm); (case K9k5 => k_asm); (case K9kA => (k_extra "unf")); (case K9kF => first | assumption | exact rfl); (case K9kK => first | assumption | exact rfl); (case K9kd => (k_extra "room")); (case K9ku => (k_extra "units"))); intro _ _ _ _ _ _ D9 _; obtain ⟨_, _, _, _, _, _, _, _, D9, _⟩ := D9); (try dsimp only)))
  k_with "K call ref" => (((k_here; (with_reducible show wpAny _ _ (call (Value.ref 84) _) _ _ _); k_dflt (refine' DoesN.use (times_ok _ _ _ _ _ _ ?K9h1 ?K9h2 ?K9h3 ?K9h4 ?K9h5) ?K9k1 ?K9k2 ?K9k3 ?K9k4 ?K9k5 ?K9kA ?K9kF ?K9kK ?K9kd ?K9ku ?_; (case K9k1 => k_asm); (case K9k2 => k_asm); (case K9k3 => k_asm); (case K9k4 => k_asm); (case K9k5 => k_asm); (case K9h1 => (k_extra "rel")); (case K9h2 => omega); (case K9h3 => omega); (case K9h4 => omega); (case K9h5 => omega); (case K9kA => (k_extra "unf")); (case K9kF => first | assumption | exact rfl); (case K9kK => first | assumption | exact rfl); (case K9kd => (k_extra "room")); (case K9ku => (k_extra "units"))); intro _ _ _ _ _ _ D9 _; obtain ⟨_, _, _, _, _, _, _, _, _, _⟩ := id D9); (try dsimp only)))
  k_with "K call ref" => (((k_here; (with_reducible show wpAny _ _ (call (Value.ref 98) _) _ _ _); k_dflt (refine' DoesV.use (compared_ok _ _ _ _ _ _ ?K9h1 ?K9h2) ?K9k1 ?K9k2 ?K9k3 ?K9k4 ?K9k5 ?K9kA ?K9kF ?K9kK ?K9kd ?K9ku ?_; (case K9k1 => k_asm); (case K9k2 => k_asm); (case K9k3 => k_asm); (case K9k4 => k_asm); (case K9k5 => k_asm); (case K9h1 => (k_extra "rel")); (case K9h2 => (k_extra "rel")); (case K9kA => (k_extra "unf")); (case K9kF => first | assumption | exact rfl); (case K9kK => first | assumption | exact rfl); (case K9kd => (k_extra "room")); (case K9ku => (k_extra "units"))); intro _ _ _ _ _); (try dsimp only)))
  k_with "K call ref" => (((k_here; (with_reducible show wpAny _ _ (call (Value.ref 182) _) _ _ _); k_dflt (refine' DoesV.use (absolute_ok _ _ _ ?K9h2 _ ?K9h1) ?K9k1 ?K9k2 ?K9k3 ?K9k4 ?K9k5 ?K9kA ?K9kF ?K9kK ?K9kd ?K9ku ?_; (case K9k1 => k_asm); (case K9k2 => k_asm); (case K9k3 => k_asm); (case K9k4 => k_asm); (case K9k5 => k_asm); (case K9h1 => (k_extra "rel")); (case K9h2 => omega); (case K9kA => (k_extra "unf")); (case K9kF => first | assumption | exact rfl); (case K9kK => first | assumption | exact rfl); (case K9kd => (k_extra "room")); (case K9ku => (k_extra "units"))); intro _ _ _ _ _); (try dsimp only)))
  k_with "K call ref" => (((k_here; (with_reducible show wpAny _ _ (call (Value.ref 217) _) _ _ _); k_dflt (refine' DoesV.use (apart_ok _ _ _ _ _ _ _ ?K9h1 ?K9h2 ?K9h3 ?K9h4 ?K9h5 ?K9h6) ?K9k1 ?K9k2 ?K9k3 ?K9k4 ?K9k5 ?K9kA ?K9kF ?K9kK ?K9kd ?K9ku ?_; (case K9k1 => k_asm); (case K9k2 => k_asm); (case K9k3 => k_asm); (case K9k4 => k_asm); (case K9k5 => k_asm); (case K9h1 => assumption); (case K9h2 => assumption); (case K9h3 => omega); (case K9h4 => omega); (case K9h5 => omega); (case K9h6 => omega); (case K9kA => (k_extra "unf")); (case K9kF => first | assumption | exact rfl); (case K9kK => first | assumption | exact rfl); (case K9kd => (k_extra "room")); (case K9ku => (k_extra "units"))); intro _ _ _ _ _); (try dsimp only)))
  k_with "K subscriptTail Name UnaryOp ref int" => (((k_here; (with_reducible show wpAny _ _ (subscriptTail _ _ (Value.ref _) (Value.int _ _)) _ _ _); first | (k_dflt (refine' item_T ?K9k1 ?K9k2 ?K9k3 ?_ ?K9k5; (case K9k1 => k_asm); (case K9k2 => k_mem); (case K9k3 => first | exact ⟨by decide, rfl⟩ | assumption); (case K9k5 => with_unfolding_all rfl))) | (k_dflt (refine' item_L ?K9k1 ?K9k2 ?K9k3 ?_ ?K9k5; (case K9k1 => k_asm); (case K9k2 => k_mem); (case K9k3 => with_reducible assumption); (case K9k5 => with_unfolding_all rfl)))); (try dsimp only)))
  k_with "K subscriptTail Name Constant ref int" => (((k_here; (with_reducible show wpAny _ _ (subscriptTail _ _ (Value.ref _) (Value.int _ _)) _ _ _); first | (k_dflt (refine' item_T ?K9k1 ?K9k2 ?K9k3 ?_ ?K9k5; (case K9k1 => k_asm); (case K9k2 => k_mem); (case K9k3 => first | exact ⟨by decide, rfl⟩ | assumption); (case K9k5 => with_unfolding_all rfl))) | (k_dflt (refine' item_L ?K9k1 ?K9k2 ?K9k3 ?_ ?K9k5; (case K9k1 => k_asm); (case K9k2 => k_mem); (case K9k3 => with_reducible assumption); (case K9k5 => with_unfolding_all rfl)))); (try dsimp only)))
  k_with "K subscriptTail Name BinOp ref int" => (((k_here; (with_reducible show wpAny _ _ (subscriptTail _ _ (Value.ref _) (Value.int _ _)) _ _ _); first | (k_dflt (refine' item_T ?K9k1 ?K9k2 ?K9k3 ?_ ?K9k5; (case K9k1 => k_asm); (case K9k2 => k_mem); (case K9k3 => first | exact ⟨by decide, rfl⟩ | assumption); (case K9k5 => with_unfolding_all rfl))) | (k_dflt (refine' item_L ?K9k1 ?K9k2 ?K9k3 ?_ ?K9k5; (case K9k1 => k_asm); (case K9k2 => k_mem); (case K9k3 => with_reducible assumption); (case K9k5 => with_unfolding_all rfl)))); (try dsimp only)))
  k_with "K subscriptTail Name Name ref int" => (((k_here; (with_reducible show wpAny _ _ (subscriptTail _ _ (Value.ref _) (Value.int _ _)) _ _ _); first | (k_dflt (refine' item_T ?K9k1 ?K9k2 ?K9k3 ?_ ?K9k5; (case K9k1 => k_asm); (case K9k2 => k_mem); (case K9k3 => first | exact ⟨by decide, rfl⟩ | assumption); (case K9k5 => with_unfolding_all rfl))) | (k_dflt (refine' item_L ?K9k1 ?K9k2 ?K9k3 ?_ ?K9k5; (case K9k1 => k_asm); (case K9k2 => k_mem); (case K9k3 => with_reducible assumption); (case K9k5 => with_unfolding_all rfl)))); (try dsimp only)))
  k_with "K subscriptTail Subscript Name UnaryOp Constant ref int" => (((k_here; (with_reducible show wpAny _ _ (subscriptTail _ _ (Value.ref _) (Value.int _ _)) _ _ _); first | (k_dflt (refine' item_T ?K9k1 ?K9k2 ?K9k3 ?_ ?K9k5; (case K9k1 => k_asm); (case K9k2 => k_mem); (case K9k3 => first | exact ⟨by decide, rfl⟩ | assumption); (case K9k5 => with_unfolding_all rfl))) | (k_dflt (refine' item_L ?K9k1 ?K9k2 ?K9k3 ?_ ?K9k5; (case K9k1 => k_asm); (case K9k2 => k_mem); (case K9k3 => with_reducible assumption); (case K9k5 => with_unfolding_all rfl)))); (try dsimp only)))
  k_with "K subscriptTail Subscript Name Constant Constant ref int" => (((k_here; (with_reducible show wpAny _ _ (subscriptTail _ _ (Value.ref _) (Value.int _ _)) _ _ _); first | (k_dflt (refine' item_T ?K9k1 ?K9k2 ?K9k3 ?_ ?K9k5; (case K9k1 => k_asm); (case K9k2 => k_mem); (case K9k3 => first | exact ⟨by decide, rfl⟩ | assumption); (case K9k5 => with_unfolding_all rfl))) | (k_dflt (refine' item_L ?K9k1 ?K9k2 ?K9k3 ?_ ?K9k5; (case K9k1 => k_asm); (case K9k2 => k_mem); (case K9k3 => with_reducible assumption); (case K9k5 => with_unfolding_all rfl)))); (try dsimp only)))
  k_with "K subscriptTail Subscript Name Name Constant ref int" => (((k_here; (with_reducible show wpAny _ _ (subscriptTail _ _ (Value.ref _) (Value.int _ _)) _ _ _); first | (k_dflt (refine' item_T ?K9k1 ?K9k2 ?K9k3 ?_ ?K9k5; (case K9k1 => k_asm); (case K9k2 => k_mem); (case K9k3 => first | exact ⟨by decide, rfl⟩ | assumption); (case K9k5 => with_unfolding_all rfl))) | (k_dflt (refine' item_L ?K9k1 ?K9k2 ?K9k3 ?_ ?K9k5; (case K9k1 => k_asm); (case K9k2 => k_mem); (case K9k3 => with_reducible assumption); (case K9k5 => with_unfolding_all rfl)))); (try dsimp only)))
  k_with "K subscriptTail Subscript Name BinOp Constant ref int" => (((k_here; (with_reducible show wpAny _ _ (subscriptTail _ _ (Value.ref _) (Value.int _ _)) _ _ _); first | (k_dflt (refine' item_T ?K9k1 ?K9k2 ?K9k3 ?_ ?K9k5; (case K9k1 => k_asm); (case K9k2 => k_mem); (case K9k3 => first | exact ⟨by decide, rfl⟩ | assumption); (case K9k5 => with_unfolding_all rfl))) | (k_dflt (refine' item_L ?K9k1 ?K9k2 ?K9k3 ?_ ?K9k5; (case K9k1 => k_asm); (case K9k2 => k_mem); (case K9k3 => with_reducible assumption); (case K9k5 => with_unfolding_all rfl)))); (try dsimp only)))
  k_with "K call builtin:len" => (((k_here; (with_reducible show wpAny _ _ (call (Value.builtin "len") [Value.ref _]) _ _ _); k_dflt (refine' len_L ?K9k1 ?K9k2 ?K9k3 ?_; (case K9k1 => k_asm); (case K9k2 => k_mem); (case K9k3 => assumption))); (try dsimp only)))
  k_with "K call ref" => (((k_here; (with_reducible show wpAny _ _ (call (Value.ref 236) _) _ _ _); k_dflt (refine' DoesV.use (brk_at _ _ _ _ _ _ ?K9h1 ?K9h2 ?K9h3 ?K9hb) ?K9k1 ?K9k2 ?K9k3 ?K9k4 ?K9k5 ?K9kA ?K9kF ?K9kK ?K9kd ?K9ku ?_; (case K9k1 => k_asm); (case K9k2 => k_asm); (case K9k3 => k_asm); (case K9k4 => k_asm); (case K9k5 => k_asm); (case K9h1 => k_mem); (case K9h2 => assumption); (case K9h3 => first | assumption | omega); (case K9hb => first | assumption | exact rfl); (case K9kA => (k_extra "unf")); (case K9kF => first | assumption | exact rfl); (case K9kK => first | assumption | exact rfl); (case K9kd => (k_extra "room")); (case K9ku => (k_extra "units"))); intro _ _ _ _ _); (try dsimp only)))
  k_with "K call ref" => (((k_here; (with_reducible show wpAny _ _ (call (Value.ref 224) _) _ _ _); k_dflt (refine' DoesV.use (plain_ok _ _ ?K9h1 _ _) ?K9k1 ?K9k2 ?K9k3 ?K9k4 ?K9k5 ?K9kA ?K9kF ?K9kK ?K9kd ?K9ku ?_; (case K9k1 => k_asm); (case K9k2 => k_asm); (case K9k3 => k_asm); (case K9k4 => k_asm); (case K9k5 => k_asm); (case K9h1 => first | assumption | decide); (case K9kA => (k_extra "unf")); (case K9kF => first | assumption | exact rfl); (case K9kK => first | assumption | exact rfl); (case K9kd => (k_extra "room")); (case K9ku => (k_extra "units"))); intro _ _ _ _ _); (try dsimp only)))
  k_with "K exec For Name Call cons nil" => ((k_here; (rename Fr _ _ _ _ => lF'); (with_unfolding_all refine' For_turns lF' ?_; k_whole)))
  k_with "K exec For Name Name cons nil" => ((k_here; (rename Fr _ _ _ _ => lF'); (with_unfolding_all refine' For_turns lF' ?_; k_whole)))
  k_with "K exec For Tuple Name cons nil" => ((k_here; (rename Fr _ _ _ _ => lF'); (with_unfolding_all refine' For_turns lF' ?_; k_whole)))
  k_with "K pyIter ref" => (((with_reducible show wpAny _ _ (pyIter (Value.ref _)) (fun it s₂ => TurnsAt _ _ _ _ _ _ _ _ _ it s₂) _ _); refine Hold.of ?_))
  k_with "K CompSrc" => (refine Hold.of ?_)
  k_with "K CompSrcT" => (refine Hold.of ?_)
  k_with "K call builtin:list.append" => (((k_here; (with_reducible show wpAny _ _ (call (Value.builtin _) [Value.ref _, _]) _ _ _); k_dflt (refine' append_L ?K9k1 ?K9k2 ?K9k3 ?K9k4 ?_; (case K9k1 => k_asm); (case K9k2 => k_asm); (case K9k3 => k_upd); (case K9k4 => (k_extra "len")); k_whole); intro _ _ _); (try dsimp only)))
  k_with "K call builtin:list.extend" => (((k_here; (with_reducible show wpAny _ _ (call (Value.builtin _) [Value.ref _, Value.ref _]) _ _ _); k_dflt (refine' ext_K ?K9k1 ?K9k2 ?K9k3 ?K9k4 ?K9k5 ?K9k6 ?_; (case K9k1 => k_asm); (case K9k2 => k_asm); (case K9k3 => k_mem); (case K9k4 => k_upd); (case K9k5 => omega); (case K9k6 => (k_extra "len")); k_whole); intro _ _ _); (try dsimp only)))
  trivial
end

theorem partP8 : True := by
  w_top off
  trivial
noncomputable def joinS (S : List Sg) : List Sg := if brk S then S.dropLast ++ [⟨45, (S.getLast?.map Sg.p).getD 0, true⟩] else if S = [] then [] else S ++ [⟨32, -1, false⟩]
noncomputable def joinStep (s : Int × List Sg) (G : List Gl) : Int × List Sg := (s.1 + G.length, joinS s.2 ++ (rowSt s.1 G).2.2)
noncomputable def joinSt (GS : List (List Gl)) : Int × List Sg := GS.foldl joinStep (0, [])
noncomputable def keepAt (S : List Sg) (i : Nat) : Bool := match S[i]? with
  | none => false
  | some x => x.c != 32 || (i == 0 || ((S[i - 1]?.map Sg.c).getD 32 != 32))
noncomputable def cleanTo (S : List Sg) (n : Nat) : List Sg := ((List.range n).filter (keepAt S)).filterMap fun i => S[i]?
noncomputable def joined (GS : List (List Gl)) : List Sg := cleanTo (joinSt GS).2 (joinSt GS).2.length
inductive RowIn (tl : List (Addr × Obj)) : Value → List Gl → Prop
  | mk (a : Addr) (gvs : List Value) (n : Nat) (G : List Gl) : (a, listOf gvs.toArray n) ∈ tl → Are (GlIn tl) gvs G → RowIn tl (.ref a) G
noncomputable def RowFit (G : List Gl) : Prop := (G ≠ [] ∧ G.length ≤ 4) ∧ ∀ g ∈ G, g.k < 7 ∧ 0 ≤ g.at_ ∧ g.at_ ≤ 100
example : True := by
  k_with "K call ref" => (((k_here; (with_reducible show wpAny _ _ (call (Value.ref 229) _) _ _ _); k_dflt (refine' DoesN.use (row_ok _ _ _ _ _ _ _ _ _ ?K9h1 ?K9h2 ?K9h3 ?K9h4 ?K9h5 ?K9h6) ?K9k1 ?K9k2 ?K9k3 ?K9k4 ?K9k5 ?K9kA ?K9kF ?K9kK ?K9kd ?K9ku ?_; (case K9k1 => k_asm); (case K9k2 => k_asm); (case K9k3 => k_asm); (case K9k4 => k_asm); (case K9k5 => k_asm); (case K9h1 => k_mem); (case K9h2 => first | assumption | (refine' Are.mono (R := GlIn _) (fun _ _ h => GlIn.mono ?K9sub h) ?K9base; (case K9base => assumption); (case K9sub => intro _ _; k_mem))); (case K9h3 => omega); (case K9h4 => omega); (case K9h5 => omega); (case K9h6 => assumption); (case K9kA => (k_extra "unf")); (case K9kF => first | assumption | exact rfl); (case K9kK => first | assumption | exact rfl); (case K9kd => (k_extra "room")); (case K9ku => (k_extra "units"))); intro _ _ _ _ _ _ _ _); (try dsimp only)))
  trivial

inductive JoinJ (l sg La tt : Nat) (news : List (Addr × Obj)) (GS : List (List Gl)) (i : Nat) (m : Str → Option Value) : List (Addr × Obj) → Prop
  | mk (svs : List Value) (nf tb : Nat) (oa : Obj) (nw : List (Addr × Obj)) (h1 : ∀ p ∈ [(Str.ofString "rows", Value.ref l), (Str.ofString "tenths", Value.int 5 tt), (Str.ofString "base", Value.int (joinSt (GS.take i)).1 tb)], m p.1 = some p.2)
      (h2 : oa.data = .cell (some (.ref sg))) (h5 : ∀ p ∈ nw, p.1 ≠ sg ∧ p.1 ≠ La) (h6 : ∀ p ∈ nw, ∀ q ∈ news, q.1 < p.1) (h7 : Are (SgIn nw) svs (joinSt (GS.take i)).2) :
      JoinJ l sg La tt news GS i m ((sg, listOf svs.toArray nf) :: (La, oa) :: (nw ++ news))
theorem joinSt_succ {GS : List (List Gl)} {i : Nat} (hi : i < GS.length) : joinSt (GS.take (i + 1)) = joinStep (joinSt (GS.take i)) GS[i] := by
  have e : GS.take (i + 1) = GS.take i ++ [GS[i]] := by rw [List.take_add_one, List.getElem?_eq_getElem hi]; rfl
  rw [e]
  unfold joinSt
  rw [List.foldl_append]
  rfl
theorem joinS_len (S : List Sg) : (joinS S).length ≤ S.length + 1 := by
  unfold joinS
  split
  · rw [List.length_append, List.length_dropLast, List.length_singleton]; omega
  · split
    · exact Nat.zero_le _
    · rw [List.length_append]; simp
theorem joinSt_len {GS : List (List Gl)} (hG : ∀ G ∈ GS, RowFit G) : ∀ {i : Nat}, i ≤ GS.length → (joinSt (GS.take i)).2.length ≤ 17 * i ∧ 0 ≤ (joinSt (GS.take i)).1 ∧ (joinSt (GS.take i)).1 ≤ 4 * i
  | 0, _ => ⟨Nat.zero_le _, Int.le_refl _, Int.le_refl _⟩
  | i + 1, h => by
    rw [joinSt_succ h]
    obtain ⟨h1, h2, h3⟩ := joinSt_len hG (Nat.le_of_succ_le h)
    have hf := hG _ (List.getElem_mem h)
    have h4 : (rowSt (joinSt (GS.take i)).1 ((GS[i]'h).take (GS[i]'h).length)).2.2.length ≤ 4 * (GS[i]'h).length := rowSt_len (fun g hg => (hf.2 g hg).1) (Nat.le_refl _)
    rw [List.take_length] at h4
    have h5 := joinS_len (joinSt (GS.take i)).2
    have h6 := hf.1.2
    show (joinS _ ++ _).length ≤ _ ∧ 0 ≤ (joinSt (GS.take i)).1 + ((GS[i]'h).length : Int) ∧ (joinSt (GS.take i)).1 + ((GS[i]'h).length : Int) ≤ _
    rw [List.length_append]
    omega
theorem setL_last (ws : List Value) (v x : Value) : ki_setL (ws ++ [v]) ws.length x = some (ws ++ [x]) := by
  induction ws with
  | nil => rfl
  | cons a ws ih => show (match ki_setL (ws ++ [v]) ws.length x with | some q => some (a :: q) | none => none) = _; rw [ih]; rfl
theorem set_last {h₀ : Heap} {L : Addr} {m : Str → Option Value} {prog : Program} {w : World} {A : Around} {E : Value → Shared → Prop} {s : Shared} {D : Addr} {v x : Value} {ws : List Value} {t n : Nat} {news news' : List (Addr × Obj)} {Q : Unit → Shared → Prop} (F : Fr h₀ L s.heap m) (N : News h₀ L s.heap news)
    (U : Upd D (listOf (ws ++ [v]).toArray n) (listOf (ws ++ [x]).toArray n) news news') (h : ∀ h', Fr h₀ L h' m → News h₀ L h' news' → Q () { s with heap := h' }) : wpAny (model prog w) A (setItem (.ref D) (.int (-1) t) x) Q E s := by
  refine ki_setNeg (j := ws.length) F N (by decide) (by decide) ?_ (setL_last ws v x) U h
  unfold seqIndex?
  simp
  omega

theorem ne_nil {h₀ : Heap} {L : Addr} {prog : Program} {w : World} {A : Around} {E : Value → Shared → Prop} {s : Shared} {D B : Addr} {its : List Value} {n n2 : Nat} {news : List (Addr × Obj)} {b : Bool} {Q : Value → Shared → Prop} (N : News h₀ L s.heap news)
    (hm : (D, listOf its.toArray n) ∈ news) (hb : (B, listOf #[] n2) ∈ news) (hu : A.units < cLine) (he : (!its.isEmpty) = b) (h : Q (.bool b) s) : wpAny (model prog w) A (compareOp .NotEq (.ref D) (.ref B)) Q E s := by
  subst he
  have hl : s.heap.IsList D its.toArray := News.isList N hm
  have hl2 : s.heap.IsList B #[] := News.isList N hb
  cases its with
  | nil => exact SeqAt.RcNeAt.lists (e := fun _ => true) hl hl2 rfl hu (fun j h1 => absurd h1 (Nat.not_lt_zero _)) prog w E Q h
  | cons a r => exact SeqAt.RcNeAt.lists_lengths hl hl2 (by simp) hu prog w E Q h
theorem ne_snoc (ws : List Value) (v : Value) : (!(ws ++ [v]).isEmpty) = true := by simp
example : True := by
  k_with "K compareOp NotEq ref ref" => (((k_here; (with_reducible show wpAny _ _ (compareOp CmpOp.NotEq (Value.ref _) (Value.ref _)) _ _ _); k_dflt (refine' ne_nil ?K9k1 ?K9k2 ?K9k3 ?K9ku ?K9k4 ?_; (case K9k1 => k_asm); (case K9k2 => k_mem); (case K9k3 => k_mem); (case K9ku => (k_extra "units")); (case K9k4 => first | exact ne_snoc _ _ | exact rfl))); (try dsimp only)))
  trivial
example : True := by
  k_with "K setItem ref int" => (((k_here; k_dflt (refine' set_last ?K9k1 ?K9k2 ?K9k3 ?_; (case K9k1 => k_asm); (case K9k2 => k_asm); (case K9k3 => k_upd); k_whole); intro _ _ _); (try dsimp only)))
  trivial

theorem rowSt_nonempty {bs : Int} {G : List Gl} (hne : G ≠ []) (hG : ∀ g ∈ G, g.k < 7) : (rowSt bs G).2.2 ≠ [] := by
  have h : 0 < G.length := List.length_pos_iff.mpr hne
  have e := rowSt_ne (bs := bs) (i := G.length - 1) (by omega) hG
  rwa [show G.length - 1 + 1 = G.length by omega, List.take_length] at e
/-- the ledger's new part stands off what is written out -/
structure Ok (fx : List Addr) (nw news own : List (Addr × Obj)) : Prop where
  off : ∀ p ∈ nw ++ news ++ own, ∀ a ∈ fx, p.1 ≠ a
  own : ∀ p ∈ own, ∀ q ∈ nw ++ news, p.1 ≠ q.1
  new : ∀ p ∈ nw, ∀ q ∈ news, q.1 < p.1
theorem Ok.grow {fx : List Addr} {nw news own tl : List (Addr × Obj)} (o : Ok fx nw news own) (h1 : ∀ p ∈ tl, ∀ a ∈ fx, a < p.1) (h2 : ∀ p ∈ tl, ∀ q ∈ nw ++ news ++ own, q.1 < p.1) : Ok fx (tl ++ nw) news own := by
  refine ⟨?_, ?_, ?_⟩
  · intro p hp a ha
    rw [List.append_assoc, List.append_assoc] at hp
    rcases List.mem_append.mp hp with hp | hp
    · exact Nat.ne_of_gt (h1 p hp a ha)
    · exact o.off p (by rw [List.append_assoc]; exact hp) a ha
  · intro p hp q hq
    rw [List.append_assoc] at hq
    rcases List.mem_append.mp hq with hq | hq
    · exact Nat.ne_of_lt (h2 q hq p (List.mem_append_right _ hp))
    · exact o.own p hp q hq
  · intro p hp q hq
    rcases List.mem_append.mp hp with hp | hp
    · exact h2 p hp q (List.mem_append_left _ (List.mem_append_right _ hq))
    · exact o.new p hp q hq
theorem Ok.grow1 {fx : List Addr} {nw news own : List (Addr × Obj)} {X : Addr} {o' : Obj} (o : Ok fx nw news own) (h1 : ∀ a ∈ fx, a < X) (h2 : AllLt X (nw ++ news ++ own)) : Ok fx ((X, o') :: nw) news own :=
  o.grow (tl := [(X, o')]) (fun p hp => by rw [List.mem_singleton.mp hp]; exact h1) fun p hp => by rw [List.mem_singleton.mp hp]; exact tb_ltOf h2
theorem inv_end {h₀ h' : Heap} {L : Addr} {m' : Str → Option Value} {news own nw rest : List (Addr × Obj)} {J : (Str → Option Value) → List (Addr × Obj) → Prop} {s₁ : Shared} {tk : Nat} (led : List (Addr × Obj))
    (F : Fr h₀ L h' m') (N : News h₀ L h' (led ++ rest)) (hs : ∀ p ∈ nw ++ news ++ own, p ∈ rest) (ok : Ok (led.map (·.1)) nw news own) (hJ : J m' (led ++ (nw ++ news))) : InvEndG h₀ L J own s₁ { s₁ with heap := h', toks := tk } := by
  refine InvEndG.intro F N hJ ?_ ?_ ?_
  · intro p hp b hb e
    rw [List.map_append] at hb
    rcases List.mem_append.mp hb with hb | hb
    · exact ok.off p (List.mem_append_right _ hp) b hb e
    · obtain ⟨q, hq, rfl⟩ := List.mem_map.mp hb
      exact ok.own p hp q hq e
  · intro p hp
    rcases List.mem_append.mp hp with hp | hp
    · exact List.mem_append_left _ hp
    · exact List.mem_append_right _ (hs p (List.mem_append_left _ hp))
  · intro p hp
    exact List.mem_append_right _ (hs p (List.mem_append_right _ hp))

theorem join_turn {h₀ h' : Heap} {L l l0 La tt tb nc nf : Nat} {m' : Str → Option Value} {news own nw rest : List (Addr × Obj)} {GS : List (List Gl)} {i : Nat} {svs lvs : List Value} {oa : Obj} {s₁ : Shared} {tk : Nat} {b : Int} {S : List Sg}
    (F : Fr h₀ L h' m') (N : News h₀ L h' ((l0, listOf svs.toArray nf) :: (La, oa) :: rest)) (hs : ∀ p ∈ nw ++ news ++ own, p ∈ rest) (ok : Ok [l0, La] nw news own) (hm : (l, listOf lvs.toArray nc) ∈ news)
    (hr : m' (Str.ofString "rows") = some (.ref l)) (ht : m' (Str.ofString "tenths") = some (.int 5 tt)) (hb : m' (Str.ofString "base") = some (.int b tb)) (e : joinSt (GS.take i) = (b, S)) (h2 : oa.data = .cell (some (.ref l0))) (h7 : Are (SgIn nw) svs S) :
    InvEndG h₀ L (fun m' nx => (∀ p ∈ [(l, listOf lvs.toArray nc)], p ∈ nx) ∧ JoinJ l l0 La tt news GS i m' nx) own s₁ { s₁ with heap := h', toks := tk } := by
  refine inv_end [(l0, listOf svs.toArray nf), (La, oa)] F N hs ok ⟨?_, .mk svs nf tb oa nw ?_ h2 ?_ ok.new (by rw [e]; exact h7)⟩
  · intro p hp
    rw [List.mem_singleton.mp hp]
    exact List.mem_append_right [(l0, listOf svs.toArray nf), (La, oa)] (List.mem_append_right nw hm)
  · intro p hp
    rw [e] at hp
    simp only [List.mem_cons, List.not_mem_nil, or_false] at hp
    rcases hp with rfl | rfl | rfl
    · exact hr
    · exact ht
    · exact hb
  · intro p hp
    have hp := List.mem_append_left own (List.mem_append_left news hp)
    exact ⟨ok.off p hp _ (.head _), ok.off p hp _ (.tail _ (.head _))⟩
theorem perm2 {tl pre r : List (Addr × Obj)} {a b : Addr × Obj} : ∀ p ∈ a :: b :: (tl ++ (pre ++ r)), p ∈ tl ++ (pre ++ a :: b :: r) := by
  intro p hp
  rcases List.mem_cons.mp hp with rfl | hp
  · exact List.mem_append_right _ (List.mem_append_right _ (.head _))
  rcases List.mem_cons.mp hp with rfl | hp
  · exact List.mem_append_right _ (List.mem_append_right _ (.tail _ (.head _)))
  rcases List.mem_append.mp hp with hp | hp
  · exact List.mem_append_left _ hp
  rcases List.mem_append.mp hp with hp | hp
  · exact List.mem_append_right _ (List.mem_append_left _ hp)
  · exact List.mem_append_right _ (List.mem_append_right _ (.tail _ (.tail _ hp)))
theorem mem_re3 {a b c d e : List (Addr × Obj)} {p : Addr × Obj} (h : p ∈ a ++ (b ++ (c ++ d ++ e))) : p ∈ (a ++ (b ++ c)) ++ d ++ e := by simpa only [List.append_assoc] using h
theorem mem_re3' {a b c d e : List (Addr × Obj)} {p : Addr × Obj} (h : p ∈ (a ++ (b ++ c)) ++ d ++ e) : p ∈ a ++ (b ++ (c ++ d ++ e)) := by simpa only [List.append_assoc] using h
theorem row_lens {bs : Int} {G : List Gl} {tl : List (Addr × Obj)} {fvs : List Value} (fit : RowFit G) (h : Are (SgIn tl) fvs (rowSt bs G).2.2) : fvs.length ≠ 0 ∧ fvs.length ≤ 16 := by
  rw [h.length]
  have h1 := rowSt_nonempty (bs := bs) fit.1.1 fun g hg => (fit.2 g hg).1
  have h2 := rowSt_len (bs := bs) (fun g hg => (fit.2 g hg).1) (Nat.le_refl G.length)
  rw [List.take_length] at h2
  have h3 := fit.1.2
  exact ⟨fun e => h1 (List.length_eq_zero_iff.mp e), by omega⟩

theorem SgIn.sp {tl : List (Addr × Obj)} {a : Addr} {t1 t2 : Tok} {n : Nat} {p : Int} {b : Bool} (h : (a, tupO [.str (Str.ofString " ") t1, .int p t2, .bool b] n) ∈ tl) : SgIn tl (.ref a) ⟨32, p, b⟩ := by
  rw [str_sp] at h
  exact .mk _ _ _ _ _ _ _ h
theorem SgIn.hy {tl : List (Addr × Obj)} {a : Addr} {t1 t2 : Tok} {n : Nat} {p : Int} {b : Bool} (h : (a, tupO [.str (Str.ofString "-") t1, .int p t2, .bool b] n) ∈ tl) : SgIn tl (.ref a) ⟨45, p, b⟩ := by
  rw [str_hy] at h
  exact .mk _ _ _ _ _ _ _ h
theorem join_led {h₀ h' : Heap} {L l0 La nf : Nat} {tl pre nw news own : List (Addr × Obj)} {svs : List Value} {oa : Obj} (N : News h₀ L h' (tl ++ (pre ++ (l0, listOf svs.toArray nf) :: (La, oa) :: (nw ++ news ++ own))))
    (l9 : ∀ p ∈ tl, ∀ q ∈ pre ++ (l0, listOf svs.toArray nf) :: (La, oa) :: (nw ++ news ++ own), q.1 < p.1) (ok : Ok [l0, La] (pre ++ nw) news own) :
    News h₀ L h' ((l0, listOf svs.toArray nf) :: (La, oa) :: (tl ++ (pre ++ (nw ++ news ++ own)))) ∧ Ok [l0, La] (tl ++ (pre ++ nw)) news own ∧ (∀ p ∈ tl ++ (pre ++ (nw ++ news ++ own)), p.1 ≠ l0) ∧ ∀ p ∈ tl ++ (pre ++ (nw ++ news ++ own)), p.1 ≠ La := by
  have ok2 : Ok [l0, La] (tl ++ (pre ++ nw)) news own := by
    refine ok.grow ?_ ?_
    · intro p hp a ha
      simp only [List.mem_cons, List.not_mem_nil, or_false] at ha
      rcases ha with rfl | rfl
      · exact l9 p hp _ (List.mem_append_right pre (.head _))
      · exact l9 p hp _ (List.mem_append_right pre (.tail _ (.head _)))
    · intro p hp q hq
      rw [List.append_assoc, List.append_assoc, ← List.append_assoc nw] at hq
      rcases List.mem_append.mp hq with hq | hq
      · exact l9 p hp q (List.mem_append_left _ hq)
      · exact l9 p hp q (List.mem_append_right pre (.tail _ (.tail _ hq)))
  exact ⟨news_perm N perm2, ok2, fun p hp => ok2.off p (mem_re3 hp) _ (.head _), fun p hp => ok2.off p (mem_re3 hp) _ (.tail _ (.head _))⟩
theorem all2 {a b X : Addr} (h1 : @LT.lt Nat _ a X) (h2 : @LT.lt Nat _ b X) : ∀ x ∈ [a, b], x < X := by
  intro x hx
  simp only [List.mem_cons, List.not_mem_nil, or_false] at hx
  rcases hx with rfl | rfl
  · exact h1
  · exact h2
theorem joinS_brk {S : List Sg} {y : Sg} (h : brk (S ++ [y]) = true) : joinS (S ++ [y]) = S ++ [⟨45, y.p, true⟩] := by
  unfold joinS
  rw [if_pos h]
  simp
theorem joinS_no {S : List Sg} {y : Sg} (h : brk (S ++ [y]) = false) : joinS (S ++ [y]) = S ++ [y] ++ [⟨32, -1, false⟩] := by
  unfold joinS
  rw [if_neg (by rw [h]; decide), if_neg (by simp)]

theorem mem3 {a b c : List (Addr × Obj)} : ∀ p ∈ c, p ∈ a ++ (b ++ c) := fun _ hp => List.mem_append_right _ (List.mem_append_right _ hp)

theorem CompEnd.same {h₀ : Heap} {L I C D : Addr} {m : Str → Option Value} {s₁ : Shared} {oI oC oD : Obj} {rest : Value → List (Addr × Obj) → Prop} {y : Value} {h' : Heap} {tk : Nat} {news : List (Addr × Obj)}
    (F : Fr h₀ L h' m) (N : News h₀ L h' ((I, oI) :: (C, oC) :: (D, oD) :: news)) (off : LCg.Off3 I C D news) (r : rest y news) :
    LCg.CompEnd h₀ L m s₁ I oI C oC D oD (fun _ => True) rest y { s₁ with heap := h', toks := tk } := LCg.CompEnd.intro F N news (fun _ hp => hp) off trivial r
theorem cleanTo_succ (S : List Sg) (i : Nat) : cleanTo S (i + 1) = cleanTo S i ++ (if keepAt S i then (S[i]?).toList else []) := by
  unfold cleanTo
  rw [List.range_succ, List.filter_append, List.filterMap_append]
  congr 1
  cases h : keepAt S i
  · simp [h]
  · rw [List.filter_cons_of_pos h, List.filter_nil]
    cases e : S[i]? <;> simp [e]
theorem clean_keep {S : List Sg} {i : Nat} {x : Sg} {R : Value → Sg → Prop} {ys : List Value} {v : Value} (h : Are R ys (cleanTo S i)) (e : S[i]? = some x) (k : keepAt S i = true) (r : R v x) : Are R (ys ++ [v]) (cleanTo S (i + 1)) := by
  rw [cleanTo_succ, k, e]
  exact h.append (.one r)
theorem clean_drop {S : List Sg} {i : Nat} {R : Value → Sg → Prop} {ys : List Value} (h : Are R ys (cleanTo S i)) (k : keepAt S i = false) : Are R ys (cleanTo S (i + 1)) := by
  rw [cleanTo_succ, k]
  simpa using h
theorem keep_zero {S : List Sg} {x : Sg} (e : S[0]? = some x) : keepAt S 0 = true := by simp [keepAt, e]
theorem keep_yes {S : List Sg} {i : Nat} {x : Sg} (e : S[i]? = some x) (h : (Str.mk #[x.c] != Str.ofString " ") = true) : keepAt S i = true := by
  rw [bne_sp] at h
  simp only [keepAt, e, h, Bool.true_or]
theorem keep_prev {S : List Sg} {i : Nat} {x y : Sg} (e : S[i + 1]? = some x) (e' : S[i]? = some y) (h : (Str.mk #[y.c] != Str.ofString " ") = true) : keepAt S (i + 1) = true := by
  rw [bne_sp] at h
  have h : y.c ≠ 32 := by simpa using h
  simp [keepAt, e, e', h]
theorem keep_no {S : List Sg} {i : Nat} {x y : Sg} (e : S[i + 1]? = some x) (e' : S[i]? = some y) (h : (Str.mk #[x.c] != Str.ofString " ") = false) (h' : (Str.mk #[y.c] != Str.ofString " ") = false) : keepAt S (i + 1) = false := by
  rw [bne_sp] at h h'
  have h : x.c = 32 := by simpa using h
  have h' : y.c = 32 := by simpa using h'
  simp [keepAt, e, e', h, h']
inductive SameJ (Q : Nat → List Value → Prop) (cur : List (Addr × Obj)) (i : Nat) (ys : List Value) : List (Addr × Obj) → Prop
  | mk (h : Q i ys) : SameJ Q cur i ys cur

section
open PySem.Spec PyProof.Rows.LCg PyProof.Rows.LCt
variable {prog : Program} {w : World} {A : Around} {E : Value → Shared → Prop} {s : Shared} {h₀ : Heap} {L : Addr} {m : Str → Option Value} {env : Env} {ct elt : PySem.Expr} {x : Str} {scope : Scope} {cl : List (Str × Addr)} {S : List (Addr × Obj) → Prop} {P : Nat → Value → Prop}
  {Fin : List Value → List (Addr × Obj) → Prop} {n : Nat} {news : List (Addr × Obj)}
theorem compU_same (J : Nat → List Value → Prop) (h0 : J 0 []) (fin : ∀ ys, J n ys → Fin ys news)
    (turn : ∀ i ys v I oI C oC D m₂ h tk (E' : Value → Shared → Prop) (Qy : Value → Shared → Prop), i < n → J i ys → P i v → NsObj oC m₂ → m₂ x = some v → Fr h₀ L h m → News h₀ L h ((I, oI) :: (C, oC) :: (D, lst ys) :: news) → Off3 I C D news → ((@Ne Nat I C) ∧ (@Ne Nat I D) ∧ (@Ne Nat C D)) →
      (∀ y s', CompEnd h₀ L m { s with heap := h, toks := tk } I oI C oC D (lst ys) S (fun y news' => SameJ J news (i + 1) (ys ++ [y]) news') y s' → Qy y s') →
      wpAny (model prog w) A (eval elt (compEnvC scope cl C env)) Qy E' { s with heap := h, toks := tk }) :
    CompRest prog w A h₀ L m env elt x scope cl s S P Fin n 0 [] news :=
  compU_inv (SameJ J news) (.mk h0) (fun ys nx h => by cases h with | mk h => exact fin ys h) fun i ys nx v I oI C oC D m₂ h tk E' a hJ b c d e f g o => by
    cases hJ with | mk hJ =>
    exact turn i ys v I oI C oC D m₂ h tk E' _ a hJ b c d e f g o fun _ _ k => k
theorem compT_same (J : Nat → List Value → Prop) (h0 : J 0 []) (fin : ∀ ys, J n ys → Fin ys news)
    (turn : ∀ i ys v I oI C oC D m₂ h tk (E' : Value → Shared → Prop) (Qy : Value → Shared → Prop) (Qn : Shared → Prop), i < n → J i ys → P i v → NsObj oC m₂ → m₂ x = some v → Fr h₀ L h m → News h₀ L h ((I, oI) :: (C, oC) :: (D, lst ys) :: news) → Off3 I C D news → ((@Ne Nat I C) ∧ (@Ne Nat I D) ∧ (@Ne Nat C D)) →
      (∀ y s', CompEnd h₀ L m { s with heap := h, toks := tk } I oI C oC D (lst ys) S (fun y news' => SameJ J news (i + 1) (ys ++ [y]) news') y s' → Qy y s') →
      (∀ s', CompEnd h₀ L m { s with heap := h, toks := tk } I oI C oC D (lst ys) S (fun _ news' => SameJ J news (i + 1) ys news') Value.none s' → Qn s') →
      wpAny (model prog w) A (isTrue ct (compEnvC scope cl C env) (eval ct (compEnvC scope cl C env))) (fun ok s' => if ok = true then
        wpAny (model prog w) A (eval elt (compEnvC scope cl C env)) Qy E' s' else Qn s') E' { s with heap := h, toks := tk }) :
    CompRestT prog w A h₀ L m env ct elt x scope cl s S P Fin n 0 [] news :=
  compT_inv (SameJ J news) (.mk h0) (fun ys nx h => by cases h with | mk h => exact fin ys h) fun i ys nx v I oI C oC D m₂ h tk E' a hJ b c d e f g o => by
    cases hJ with | mk hJ =>
    exact turn i ys v I oI C oC D m₂ h tk E' _ _ a hJ b c d e f g o (fun _ _ k => k) fun _ k => k
end
/-- the same, the made objects' places not told -/
noncomputable def DoesM (w : World) (k : Nat) (f : Addr) (vs : List Value) (news : List (Addr × Obj)) (P : List (Addr × Obj) → Addr → Prop) : Prop :=
  ∀ (d : Nat) (fr : Option (List Env)) (g : Option (List Code)) (u : Nat) (h₀ : Heap) (L : Addr) (m : Str → Option Value) (s : Shared) (Q E : Value → Shared → Prop),
    At w fr h₀ L → d + k < recursionLimit → u + 10 * k < cLine → Fr h₀ L s.heap m → News h₀ L s.heap news →
    (∀ x tl h' tk', Fr h₀ L h' m → News h₀ L h' (tl ++ news) → P tl x → Q (.ref x) { s with heap := h', toks := tk' }) →
    wpAny (model PySem.Challenge.rw_og0151_01.row.prog w) (arT d fr g u) (call (.ref f) vs) Q E s
theorem DoesM.use {w : World} {k : Nat} {f : Addr} {vs : List Value} {news : List (Addr × Obj)} {P : List (Addr × Obj) → Addr → Prop} {d : Nat} {fr : Option (List Env)} {g : Option (List Code)} {u : Nat} {h₀ : Heap} {L : Addr} {m : Str → Option Value} {s : Shared} {Q E : Value → Shared → Prop}
    {A₀ : Around} {base : Heap} {env : Env} {outer : List Env} {mean : ExcName → Option Value} {mg mb : Str → Option Value} (D : DoesM w k f vs news P) (B : Below A₀ base outer h₀) (X : (hd.heap_39 w.params).In h₀) (T : Top view (looseW view [Str.ofString "PaperError"]) mean mg mb h₀) (F : Fr h₀ L s.heap m) (N : News h₀ L s.heap news)
    (hA : fr = some (env :: outer)) (hf : env.frame = some L) (hk : env.scope.kind = .function) (hd : d + k < recursionLimit) (hu : u + 10 * k < cLine)
    (ret : ∀ x tl h' tk', Fr h₀ L h' m → News h₀ L h' (tl ++ news) → P tl x → Q (.ref x) { s with heap := h', toks := tk' }) :
    wpAny (model PySem.Challenge.rw_og0151_01.row.prog w) (arT d fr g u) (call (.ref f) vs) Q E s := D _ _ _ _ _ _ _ _ _ _ ⟨_, _, _, _, _, _, _, B, X, T, hA, hf, hk⟩ hd hu F N ret

theorem partP9 : True := by
  w_top off
  trivial
theorem join_ok (w : World) (l : Addr) (lvs : List Value) (nc : Nat) (GS : List (List Gl)) (tt : Tok) (news : List (Addr × Obj)) (hm : (l, listOf lvs.toArray nc) ∈ news) (hG : Are (RowIn news) lvs GS) (hlen : lvs.length ≤ 3)
   (hgk : ∀ G ∈ GS, RowFit G) : DoesM w 24 241 [.ref l, .int 5 tt] news (RowOut (joined GS)) := by
  unfold DoesM
  intro d f g u h₀ L m s Q E hA hd hu F N ret
  obtain ⟨sh, sg, sd, stk, so⟩ := s
  dsimp only at F N ret
  cases hA with | mk A₀ base env outer mean mg mb B X T hA hf hk =>
  revert X
  k_fill
  intro X
  refine wpAny_call ?_
  k_dflt (k_extra "enter")
  rename_i gA lA hpA tkA FGA FA0 BA XA TA oc dc
  have hLf := l19
  have hLn : ∀ p ∈ news, p.1 ≠ lA + 1 := fun p hp => Nat.ne_of_lt (Nat.lt_succ_of_lt (hLf p hp))
  k_steps
  rename Fr _ _ _ _ => F1
  rename_i l0 hh0 hl0 hh1 o1 d1 hh2 N1
  have hLn2 : ∀ p ∈ news, p.1 ≠ l0 := fun p hp => Nat.ne_of_lt (tb_ltOf hl0.2 p hp)
  refine' turns_list (JoinJ l l0 (lA + 1) tt news GS) rfl (.tail _ (.tail _ hm)) F1 N1 ?j0 ?turn ?done
  case j0 =>
    refine' JoinJ.mk (GS := GS) (i := 0) (news := news) [] 0 _ o1 [] ?h1 d1 (fun _ hp => nomatch hp) (fun _ hp => nomatch hp) .nil
    case h1 =>
      exact mp_cons (by rfl) (mp_cons (by rfl) (mp_cons (by rfl) (mp_nil)))
  case turn =>
    intro i v m₁ nx h tk own hv hown hml hJ F2 N2 Qb hnQ hrQ
    cases hJ with | mk svs nf tb oa nw j1 j2 j5 j6 j7 =>
    replace F2 := fr_upd F2 _ j1
    simp only [List.cons_append] at N2
    obtain ⟨G, hGi, hg⟩ := hG.at hv
    have hi : i < GS.length := (List.getElem?_eq_some_iff.mp hGi).1
    have hGi : GS[i] = G := (List.getElem?_eq_some_iff.mp hGi).2
    have fit := hgk G (hGi ▸ List.getElem_mem hi)
    have hilt : i < 3 := by rw [← hG.length] at hi; omega
    obtain ⟨b1, b2, b3⟩ := joinSt_len hgk (Nat.le_of_lt hi)
    rw [← j7.length] at b1
    have ok : Ok [l0, lA + 1] nw news own := ⟨fun p hp a ha => by
        simp only [List.mem_cons, List.not_mem_nil, or_false] at ha
        rcases List.mem_append.mp hp with h | h
        · rcases List.mem_append.mp h with h | h
          · rcases ha with rfl | rfl
            · exact (j5 p h).1
            · exact (j5 p h).2
          · rcases ha with rfl | rfl
            · exact hLn2 p h
            · exact hLn p h
        · rcases ha with rfl | rfl
          · exact hown p h _ (.head _)
          · exact hown p h _ (.tail _ (.head _)), fun p hp q hq => hown p hp _ (.tail _ (.tail _ (List.mem_map.mpr ⟨q, hq, rfl⟩))), j6⟩
    have hoff : ∀ p ∈ nw ++ news ++ own, p.1 ≠ l0 ∧ p.1 ≠ lA + 1 := fun p hp => (List.mem_append.mp hp).elim (fun h => (List.mem_append.mp h).elim (j5 p) fun h => ⟨hLn2 p h, hLn p h⟩) fun h => ⟨hown p h _ (.head _), hown p h _ (.tail _ (.head _))⟩
    have hoff1 := fun p hp => (hoff p hp).1
    have hoff2 := fun p hp => (hoff p hp).2
    cases hg with | mk ra gvs rn _ rm hG2 =>
    have hr1 : (ra, listOf gvs.toArray rn) ∈ nw ++ news ++ own := List.mem_append_left _ (List.mem_append_right _ rm)
    have hAre : Are (SgIn ((l0, listOf svs.toArray nf) :: (lA + 1, oa) :: (nw ++ news ++ own))) svs (joinSt (GS.take i)).2 := j7.mono fun _ _ h => h.mono fun p hp => .tail _ (.tail _ (List.mem_append_left _ (List.mem_append_left _ hp)))
    have glen : gvs.length ≤ 4 := by rw [hG2.length]; exact fit.1.2
    have fit2 := fit.2
    generalize hSt : joinSt (GS.take i) = st at j1 j7 b1 b2 b3 hAre F2
    obtain ⟨bs, S⟩ := st
    dsimp only at j1 j7 b1 b2 b3 hAre F2
    have hb2 : bs ≤ 100 := by omega
    rcases List.eq_nil_or_concat S with rfl | ⟨S, y, rfl⟩
    · cases j7
      have hb : brk [] = false := rfl
      k_steps
      rename RowOut _ _ _ => D9
      rename ∀ p ∈ (_ : List (Addr × Obj)), ∀ q ∈ _, _ => l9
      rename News _ _ _ _ => N9
      rename_i lB _ _ _ lX x9 tl9 _ _ _
      cases D9 with | mk fvs fn fm fA =>
      obtain ⟨fl1, fl2⟩ := row_lens fit fA
      obtain ⟨N10, ok2, hX, hX2⟩ := join_led (pre := [_]) N9 l9 (ok.grow1 (all2 lX.1 lX.2.1) lX.2.2)
      clear N9
      have z1 : LenAt gvs gvs.length := ⟨rfl, by omega⟩
      k_steps
      refine join_turn (by assumption) (by assumption) (fun p hp => mem_re3' hp) ok2 hm rfl rfl rfl (by rw [joinSt_succ hi, hGi, hSt]; show (bs + (G.length : Int), joinS _ ++ (rowSt bs G).2.2) = _; rw [← hG2.length, show joinS [] = [] from rfl]) j2 (Are.nil.append (fA.mono fun _ _ h => h.mono fun p hp => List.mem_append_left _ hp))
    · rw [List.concat_eq_append] at hSt j7 hAre
      obtain ⟨ws, lv, rfl, j8, hy⟩ := j7.snoc
      cases hy with | mk ya yt1 yt2 yn yc yp yb ym =>
      have z3 : ItemAt (ws ++ [Value.ref ya]) (-1) (Value.ref ya) := item_last _ _
      cases hb : brk (S ++ [⟨yc, yp, yb⟩])
      · k_steps
        rename RowOut _ _ _ => D9
        rename ∀ p ∈ (_ : List (Addr × Obj)), ∀ q ∈ _, _ => l9
        rename News _ _ _ _ => N9
        rename_i x9 tl9 _ _ _
        rename _ < _ ∧ _ < _ ∧ _ < _ ∧ AllLt _ _ => lY
        rename _ < _ ∧ _ < _ ∧ AllLt _ _ => lX
        cases D9 with | mk fvs fn fm fA =>
        obtain ⟨fl1, fl2⟩ := row_lens fit fA
        obtain ⟨N10, ok2, hX, hX2⟩ := join_led (pre := [_, _]) N9 l9 ((ok.grow1 (all2 lX.1 lX.2.1) lX.2.2).grow1 (all2 lY.2.1 lY.2.2.1) ⟨lY.1, lY.2.2.2⟩)
        clear N9
        have z1 : LenAt gvs gvs.length := ⟨rfl, by omega⟩
        k_steps
        refine join_turn (by assumption) (by assumption) (fun p hp => mem_re3' hp) ok2 hm rfl rfl rfl (by rw [joinSt_succ hi, hGi, hSt]; show (bs + (G.length : Int), joinS _ ++ (rowSt bs G).2.2) = _; rw [← hG2.length, joinS_no hb]) j2 (((j7.mono fun _ _ h => h.mono (mem3 (b := [_, _]))).append (.one (SgIn.sp (List.mem_append_right _ (.head _))))).append (fA.mono fun _ _ h => h.mono fun p hp => List.mem_append_left _ hp))
      · k_steps
        rename RowOut _ _ _ => D9
        rename ∀ p ∈ (_ : List (Addr × Obj)), ∀ q ∈ _, _ => l9
        rename News _ _ _ _ => N9
        rename_i D9a _ _ _ lX _ _ _ x9 tl9 _ _ _
        cases D9 with | mk fvs fn fm fA =>
        obtain ⟨fl1, fl2⟩ := row_lens fit fA
        obtain ⟨N10, ok2, hX, hX2⟩ := join_led (pre := [_]) N9 l9 (ok.grow1 (all2 lX.1 lX.2.1) lX.2.2)
        clear N9
        have z1 : LenAt gvs gvs.length := ⟨rfl, by omega⟩
        k_steps
        refine join_turn (by assumption) (by assumption) (fun p hp => mem_re3' hp) ok2 hm rfl rfl rfl (by rw [joinSt_succ hi, hGi, hSt]; show (bs + (G.length : Int), joinS _ ++ (rowSt bs G).2.2) = _; rw [← hG2.length, joinS_brk hb]) j2 (((j8.mono fun _ _ h => h.mono (mem3 (b := [_]))).append (.one (SgIn.hy (List.mem_append_right _ (.head _))))).append (fA.mono fun _ _ h => h.mono fun p hp => List.mem_append_left _ hp))
  case done =>
    intro m₁ nx h tk hJ F2 N2
    cases hJ with | mk svs nf tb oa nw j1 j2 j5 j6 j7 =>
    replace F2 := fr_upd F2 _ j1
    rw [show lvs.length = GS.length from hG.length, List.take_length] at j7
    have b1 := (joinSt_len hgk (Nat.le_refl GS.length)).1
    rw [List.take_length, ← j7.length] at b1
    have z1 : LenAt svs svs.length := ⟨rfl, by rw [← hG.length] at b1; omega⟩
    k_steps
    rename IsRange _ _ _ _ _ _ _ _ => hr
    rename Fr _ _ _ _ => F3
    rename News _ _ _ _ => N3
    generalize hS : (joinSt GS).2 = S at j7 b1
    have hret : joined GS = cleanTo S S.length := by unfold joined; rw [hS]
    have sz : svs.length ≤ 1000 := by rw [← hG.length] at b1; omega
    refine LCt.CompSrcT.range (n := svs.length) rfl F3 N3 hr (small_one (by omega) (by omega) (by omega) (by omega)) (by rw [rangeSize_nat]; omega) (by rw [sizeLine_eq]; omega) fun gg => ?_
    refine compT_same (fun i ys => Are (SgIn nw) ys (cleanTo S i)) .nil ?fin ?tn
    case tn =>
      intro i ys v I oI Cc oC D m₂ hh tkk E' Qy Qn hi hA hv hC hx FC NC off ne3 hy hn
      obtain ⟨tv, rfl⟩ := hv
      rw [Int.zero_add] at hx
      have hi2 : i < S.length := by rw [← j7.length]; exact hi
      obtain ⟨v, hv, hg⟩ := j7.get hi2
      have eS : S[i]? = some S[i] := List.getElem?_eq_getElem hi2
      generalize S[i] = x at hg eS
      cases hg with | mk xa xt1 xt2 xn xc xp xb xm =>
      have z2 : ItemAt svs (i : Int) (.ref xa) := .pos (by omega) (by omega) (by simpa using hv)
      cases i with
      | zero =>
        k_steps
        all_goals ((first | refine hy _ _ ?_ | refine hn _ ?_); exact CompEnd.same (by assumption) (by assumption) off (.mk (clean_keep hA eS (keep_zero eS) (.mk _ _ _ _ _ _ _ xm))))
      | succ i =>
        have hi3 : i < S.length := Nat.lt_of_succ_lt hi2
        obtain ⟨v', hv', hg'⟩ := j7.get hi3
        have eS' : S[i]? = some S[i] := List.getElem?_eq_getElem hi3
        generalize S[i] = y at hg' eS'
        cases hg' with | mk ya yt1 yt2 yn yc yp yb ym =>
        have z3 : ItemAt svs (((i + 1 : Nat) : Int) - 1) (.ref ya) := .pos (by omega) (by omega) (by rw [show ((((i + 1 : Nat) : Int) - 1)).toNat = i by omega]; exact hv')
        k_steps
        all_goals first
          | ((first | refine hy _ _ ?_ | refine hn _ ?_); exact CompEnd.same (by assumption) (by assumption) off (.mk (clean_keep hA eS (keep_yes eS (by assumption)) (.mk _ _ _ _ _ _ _ xm))))
          | ((first | refine hy _ _ ?_ | refine hn _ ?_); exact CompEnd.same (by assumption) (by assumption) off (.mk (clean_keep hA eS (keep_prev eS eS' (by assumption)) (.mk _ _ _ _ _ _ _ xm))))
          | ((first | refine hy _ _ ?_ | refine hn _ ?_); exact CompEnd.same (by assumption) (by assumption) off (.mk (clean_drop hA (keep_no eS eS' (by assumption) (by assumption)))))
          | omega
    case fin =>
      intro ys hA
      intro D hD tkD FD ND offD
      k_steps
      refine ret D ((D, LCg.lst ys) :: nw) _ _ (by k_asm) (news_perm (by k_asm) ?_) (.mk ys _ (.head _) (by rw [hret, ← j7.length]; exact hA.mono fun _ _ h => h.mono fun p hp => .tail _ hp))
      intro p hp
      rcases List.mem_cons.mp hp with rfl | hp
      · exact .head _
      · exact .tail _ (.tail _ (.tail _ hp))

theorem partP10 : True := by
  w_top off
  trivial
theorem set_two {h₀ : Heap} {L : Addr} {m : Str → Option Value} {prog : Program} {w : World} {A : Around} {E : Value → Shared → Prop} {s : Shared} {D : Addr} {a b v : Value} {t n : Nat} {news news' : List (Addr × Obj)} {Q : Unit → Shared → Prop} (F : Fr h₀ L s.heap m) (N : News h₀ L s.heap news)
    (U : Upd D (listOf [a, b].toArray n) (listOf [a, v].toArray n) news news') (h : ∀ h', Fr h₀ L h' m → News h₀ L h' news' → Q () { s with heap := h' }) : wpAny (model prog w) A (setItem (.ref D) (.int 1 t) v) Q E s :=
  ki_set (q := [a, v]) F N (by decide) (by decide) rfl U h
example : True := by
  k_with "K setItem ref int int" => (((k_here; k_dflt (refine' set_two ?K9F ?K9N ?K9U ?_; (case K9F => k_asm); (case K9N => k_asm); (case K9U => k_upd)); intro _ _ _); (try dsimp only)))
  trivial
/-- a draw: the tape's count grows by one -/
noncomputable def Draws (w : World) (tp c : Addr) (cvs : List Value) (nt : Nat) (lim : Int) (k : Int) (rest : List (Addr × Obj)) : Prop :=
  ∀ (d : Nat) (fr : Option (List Env)) (g : Option (List Code)) (u : Nat) (h₀ : Heap) (L : Addr) (m : Str → Option Value) (s : Shared) (Q E : Value → Shared → Prop) (tk tl : Tok),
    At w fr h₀ L → d + 2 < recursionLimit → u + 20 < cLine → Fr h₀ L s.heap m → News h₀ L s.heap ((tp, listOf [.ref c, .int k tk].toArray nt) :: rest) →
    (∀ r t tk2 h' tk', 0 ≤ r → r < lim → Fr h₀ L h' m → News h₀ L h' ((tp, listOf [.ref c, .int (k + 1) tk2].toArray nt) :: rest) → Q (.int r t) { s with heap := h', toks := tk' }) →
    wpAny (model PySem.Challenge.rw_og0151_01.row.prog w) (arT d fr g u) (call (.ref 249) [.ref tp, .int lim tl]) Q E s
theorem draw_ok (w : World) (tp c : Addr) (cvs : List Value) (cs : List Int) (nt nc : Nat) (lim k : Int) (rest : List (Addr × Obj)) (hc : (c, listOf cvs.toArray nc) ∈ rest) (hi : IntsAre cvs cs) (hne : cvs.length ≠ 0) (hlen : cvs.length ≤ 40)
    (hk0 : 0 ≤ k) (hk1 : k ≤ 100) (hl0 : 1 ≤ lim) (hl1 : lim ≤ 10) (htp : ∀ p ∈ rest, p.1 ≠ tp) : Draws w tp c cvs nt lim k rest := by
  unfold Draws
  intro d f g u h₀ L m s Q E tk tl hA hd hu F N ret
  obtain ⟨sh, sg, sd, stk, so⟩ := s
  dsimp only at F N ret
  cases hA with | mk A₀ base env outer mean mg mb B X T hA hf hk =>
  revert X
  k_fill
  intro X
  refine wpAny_call ?_
  k_dflt (k_extra "enter")
  have z1 : LenAt cvs cvs.length := ⟨rfl, by omega⟩
  have z2 : ItemAt [.ref c, .int k tk] 0 (.ref c) := .pos (by decide) (by decide) rfl
  have z3 : ItemAt [.ref c, .int k tk] 1 (.int k tk) := .pos (by decide) (by decide) rfl
  k_steps
  refine' ret _ _ _ _ _ (Int.fmod_nonneg_of_pos _ (by omega)) (Int.fmod_lt_of_pos _ (by omega)) ?zF ?zN
  (case zF => k_asm)
  (case zN => k_asm)

theorem partP11 : True := by
  w_top off
  trivial
inductive ChR : Value → Nat → Prop
  | mk (c : Nat) (t : Tok) : ChR (.str (Str.mk #[c]) t) c
theorem ch_list {ys : List Value} {cs : List Nat} (h : Are ChR ys cs) : ∃ l : List (Str × Tok), ys = strValues l ∧ l.map (·.1) = cs.map fun c => Str.mk #[c] := by
  induction h with
  | nil => exact ⟨[], rfl, rfl⟩
  | @cons v vs c cs h _ ih =>
    cases h with | mk _ t =>
    obtain ⟨l, rfl, e⟩ := ih
    exact ⟨(Str.mk #[c], t) :: l, rfl, by rw [List.map_cons, e, List.map_cons]⟩
theorem fold_ones : ∀ (cs : List Nat) (acc : Array Nat), (cs.map fun c => Str.mk #[c]).foldl (fun acc p => acc ++ (Str.ofString "").cps ++ p.cps) acc = acc ++ cs.toArray
  | [], acc => by simp
  | c :: cs, acc => by
    rw [List.map_cons, List.foldl_cons, fold_ones cs]
    apply Array.toList_inj.mp
    have : (Str.ofString "").cps = #[] := by decide
    simp [this]
theorem join_ones_eq (cs : List Nat) : Txt.join (Str.ofString "") (cs.map fun c => Str.mk #[c]) = Str.mk cs.toArray := by
  show Str.mk _ = _
  congr 1
  cases cs with
  | nil => rfl
  | cons c cs =>
    show (cs.map fun c => Str.mk #[c]).foldl (fun acc p => acc ++ (Str.ofString "").cps ++ p.cps) #[c] = _
    rw [fold_ones]
    apply Array.toList_inj.mp
    simp
theorem sum_ones : ∀ cs : List Nat, ((cs.map fun c => Str.mk #[c]).map (·.length)).sum = cs.length
  | [] => rfl
  | c :: cs => by
    rw [List.map_cons, List.map_cons, List.sum_cons, sum_ones cs, List.length_cons]
    show 1 + cs.length = _
    omega
theorem join_ones {h₀ : Heap} {L : Addr} {prog : Program} {w : World} {A : Around} {E : Value → Shared → Prop} {s : Shared} {D : Addr} {ys : List Value} {cs : List Nat} {t n : Nat} {news : List (Addr × Obj)} {Q : Value → Shared → Prop} (N : News h₀ L s.heap news) (hm : (D, listOf ys.toArray n) ∈ news) (ha : Are ChR ys cs)
    (hz : ys.length ≤ 1000) (h : ∀ t' k, Q (.str (Str.mk cs.toArray) t') { s with toks := k }) : wpAny (model prog w) A (call (.builtin "str.join") [.str (Str.ofString "") t, .ref D]) Q E s := by
  have hz2 : cs.length ≤ 1000 := by rw [← ha.length]; exact hz
  obtain ⟨l, rfl, e⟩ := ch_list ha
  refine SC.join (News.isList N hm) e (joinOk_of ?_) fun t' k => ?_
  · rw [sum_ones]
    have : (Str.ofString "").length = 0 := by decide
    rw [this]
    omega
  · rw [join_ones_eq]
    exact h t' k
example : True := by
  k_with "K call builtin:str.join cons nil" => (((k_here; k_dflt (refine' join_ones ?K9k1 ?K9k2 ?K9k3 ?K9k4 ?_; (case K9k1 => k_asm); (case K9k2 => k_mem); (case K9k3 => assumption); (case K9k4 => omega)); intro _ _); (try dsimp only)))
  trivial
example : True := by
  k_with "K call builtin:str.join" => (((k_here; k_dflt (refine' join_ones ?K9k1 ?K9k2 ?K9k3 ?K9k4 ?_; (case K9k1 => k_asm); (case K9k2 => k_mem); (case K9k3 => assumption); (case K9k4 => omega)); intro _ _); (try dsimp only)))
  trivial
theorem occ_bare : ∀ c ∈ alph, (Builtin.Str.occurrences (Str.ofString " \t\u00a0") { cps := #[c] } 0 (Str.ofString " \t\u00a0").length 1).isEmpty = (plainC c != 32) := by decide +kernel
section
example : True := by
  k_with "K eval ListComp IfExp cons" => ((k_here; k_dflt (refine ListComp_signs (F₀ := by k_asm) (by rfl) (by decide) (by rfl) (by decide) (by rfl) ?_ (by intro _; rfl))))
  trivial
theorem bare_ok (w : World) (k : Nat) (hk : k < 7) (tk : Tok) (news : List (Addr × Obj)) : DoesV w 3 254 [.str (T k) tk] news (fun t => .str (Str.mk ((C k).map plainC).toArray) t) := by
  unfold DoesV
  intro d f g u h₀ L m s Q E hA hd hu F N ret
  obtain ⟨sh, sg, sd, stk, so⟩ := s
  dsimp only at F N ret
  cases hA with | mk A₀ base env outer mean mg mb B X T hA hf hk' =>
  revert X
  k_fill
  intro X
  refine wpAny_call ?_
  k_dflt (k_extra "enter")
  k_steps
  refine .mk _ _ _ _ rfl (by assumption) (by assumption) (by rw [T_size hk, sizeLine_eq]; have := (C_ne k hk).2; omega) fun gg => ?_
  refine compU_same (fun j ys => Are ChR ys (((C k).take j).map plainC)) .nil ?fin ?tn
  case tn =>
    intro j ys v I oI Cc oC D m₂ hh tkk E' Qy hj hA hv hC hx FC NC off ne3 hy
    obtain ⟨c, uu, hcj, hca, rfl⟩ := sign_of hk hv
    k_steps
    all_goals rename (_ = (_ : Bool)) => e1
    all_goals rw [occ_bare c hca] at e1
    · rw [← plainC_keep c hca (by simpa using e1)]
      refine hy _ _ ?_
      refine CompEnd.same (by assumption) (by assumption) off (.mk (hA.take_snoc hcj ?_))
      exact .mk _ _
    · refine hy _ _ ?_
      refine CompEnd.same (by assumption) (by assumption) off (.mk (hA.take_snoc hcj ?_))
      rw [show plainC c = 32 by simpa using e1, str_sp]
      exact .mk _ _
  case fin =>
    intro ys hA
    intro D hD tkD FD ND offD
    rw [T_size hk, List.take_length] at hA
    have hz : ys.length ≤ 1000 := by rw [hA.length, List.length_map]; have := (C_ne k hk).2; omega
    k_steps
    refine' ret _ _ _ ?_ ?_
    · k_asm
    · exact news_perm (by k_asm) fun _ hp => .tail _ hp
example : True := by
  k_with_none
  k_with "K spliced" => (((k_here; k_dflt (refine' args_ev ?K9F ?K9k ?K9e ?_; (case K9F => k_asm); (case K9k => exact rfl); (case K9e => exact rfl))); (try dsimp only [List.cons_append, List.nil_append])))
  k_with "K eval Subscript" => ((k_here; k_dflt (refine' sub_ev1 ?K9F ?K9k ?K9e ?_; (case K9F => k_asm); (case K9k => exact rfl); (case K9e => exact rfl))))
  k_with "K eval Subscript" => ((k_here; k_dflt (refine' sub_ev ?K9F ?K9k ?K9e ?K9i ?_; (case K9F => k_asm); (case K9k => exact rfl); (case K9e => exact rfl); (case K9i => exact rfl))))
  k_with "K eval BinOp" => ((k_here; k_dflt (refine' bin_ev1 ?K9F ?K9k ?K9e ?_; (case K9F => k_asm); (case K9k => exact rfl); (case K9e => exact rfl))))
  k_with "K eval BinOp" => ((k_here; k_dflt (refine' bin_ev ?K9F ?K9k ?K9e ?K9i ?_; (case K9F => k_asm); (case K9k => exact rfl); (case K9e => exact rfl); (case K9i => exact rfl))))
  k_with "K eval Compare" => ((k_here; k_dflt (refine' cmp_ev ?K9F ?K9k ?K9e ?K9i ?_ ?K9m; (case K9m => with_unfolding_all exact rfl); (case K9F => k_asm); (case K9k => exact rfl); (case K9e => exact rfl); (case K9i => exact rfl))))
  k_with "K isTrue Compare" => ((k_here; k_dflt (refine' test_ev ?K9F ?K9k ?K9e ?K9i ?_ ?K9m; (case K9m => with_unfolding_all exact rfl); (case K9F => k_asm); (case K9k => exact rfl); (case K9e => exact rfl); (case K9i => exact rfl))))
  k_with "K eval Name" => ((k_here; k_dflt (refine' name_ev ?K9F ?K9k ?K9e ?_; (case K9F => k_asm); (case K9k => exact rfl); (case K9e => exact rfl))))
  k_with "omega" => ((with_reducible first | assumption | exact Nat.ne_of_lt (by assumption) | exact Nat.ne_of_gt (by assumption) | exact and_ne1 (by assumption) | exact and_ne2 (by assumption) | exact and_ne3 (by assumption) | exact and_ne4 (by assumption) | exact and_ne5 (by assumption) | exact and_ne6 (by assumption) | exact and_ne7 (by assumption) | exact and_ne8 (by assumption) | exact and_ne9 (by assumption) | exact and_ne10 (by assumption) | exact Int.natCast_nonneg _ | exact cpos _ | exact room1 (by assumption) | (refine room2 (by assumption) ?_; with_unfolding_all exact rfl) | (refine room3 (by assumption) ?_; with_unfolding_all exact rfl) | (refine lebig (by assumption) ?_; with_unfolding_all exact rfl) | (refine leAdd2 (by assumption) (by assumption) ?_; with_unfolding_all exact rfl) | (refine snocLe (by assumption) ?_; with_unfolding_all exact rfl) | (refine snocAdd (by assumption) (by assumption) ?_; with_unfolding_all exact rfl) | exact nnAddI (by assumption) | exact nnAddI (nnAddI (by assumption)) | (refine leAddI (by assumption) ?_; with_unfolding_all decide) | (refine castLt (by assumption) ?_; with_unfolding_all decide) | (refine castLt2 (by assumption) (by assumption) ?_; with_unfolding_all decide) | (refine castLe ?_; with_unfolding_all decide) | (refine Int.le_trans (by assumption) ?_; with_unfolding_all decide) | (with_unfolding_all decide)))
  k_with "all" => (assumption)
  k_with "turns" => ((first | with_reducible assumption | with_reducible exact List.mem_cons_self | ((with_reducible refine List.mem_cons_of_mem _ ?_); (k_extra "turns")) | ((with_reducible show _ ∈ _ ++ _); first | (refine List.mem_append_right _ ?_; (k_extra "turns")) | (refine List.mem_append_left _ ?_; (k_extra "turns")))))
  k_with "mem" => (((show (_ : Addr × Obj) ∈ (_ : List (Addr × Obj))); (k_extra "turns")))
  k_with "len" => (first | omega | (simp only [List.length_append, List.length_cons, List.length_nil] at *; omega))
  k_with "rel" => (first | assumption | (refine DecIn.right ?K9kr; (case K9kr => (k_extra "rel"))) | (refine DecIn.left ?K9kr; (case K9kr => (k_extra "rel"))) | (refine' DecIn.mk _ _ _ _ _ _ _ _ ?K9m1 ?K9m2; (case K9m1 => k_mem); (case K9m2 => k_mem)))
  k_with "gen" => (((try (with_reducible refine enter_A (by assumption) (by assumption) (by assumption) (by with_unfolding_all exact rfl) fun d8 f8 u8 hf8 hd8 hu8 => ?_)); (with_reducible refine gen_never ?_); (with_reducible refine gen_body fun Q8 hR8 hQ8 => ?_)))
  k_with "steps" => (repeat' (first | k_extra "leaf" | (k_unfold; (try dsimp only)) | (k_end; kc_close) | walk1 | (dsimp only; walk1) | (leave1; walk_say "STEP leave1"; (try dsimp only)) | fail "no step"))
  k_with "leaf" => (first | (with_reducible (refine hQ9 (Shared.mk _ sg sd _ so) ?_; clear hQ9; (try clear hR9); clear Q9)) | (refine hQ9 (Shared.mk _ sg sd _ so) ?_; clear hQ9; (try clear hR9); clear Q9) | (with_reducible first | (refine hQ9 _ ?_; clear hQ9; (try clear hR9); clear Q9) | (refine hR9 _ _ ?_; clear hR9; (try clear hQ9); clear Q9) | (refine (?K9h : Nexts _ _) _ ?_; (case K9h => assumption)) | (refine (?K9h : Rets _ _) _ _ ?_; (case K9h => assumption))))
  k_with "K execs cons Assign" => ((with_reducible refine cut_next fun Q9 hQ9 => ?_))
  k_with "K execs cons Assign" => ((with_reducible refine wp_tks fun tk9 => ?_))
  k_with "K execs cons Expr" => ((with_reducible refine cut_next fun Q9 hQ9 => ?_))
  k_with "K execs cons Expr" => ((with_reducible refine wp_tks fun tk9 => ?_))
  k_with "K execs cons AugAssign" => ((with_reducible refine cut_next fun Q9 hQ9 => ?_))
  k_with "K execs cons AugAssign" => ((with_reducible refine wp_tks fun tk9 => ?_))
  k_with "K execs cons If" => ((with_reducible refine cut_ret fun Q9 hR9 hQ9 => ?_))
  k_with "K execs cons If" => ((with_reducible refine wp_tks fun tk9 => ?_))
  k_with "K execs cons For" => ((with_reducible refine cut_ret fun Q9 hR9 hQ9 => ?_))
  k_with "K execs cons For" => ((with_reducible refine wp_tks fun tk9 => ?_))
  k_with "K execs cons While" => ((with_reducible refine cut_ret fun Q9 hR9 hQ9 => ?_))
  k_with "K execs cons While" => ((with_reducible refine wp_tks fun tk9 => ?_))
  k_with "K execs cons Return" => ((with_reducible refine cut_ret fun Q9 hR9 hQ9 => ?_))
  k_with "K execs cons Return" => ((with_reducible refine wp_tks fun tk9 => ?_))
  k_with "K binaryOp Pow int int" => ((with_reducible refine pow_zero ?K9ke ?K9ka ?_; (case K9ke => decide); (case K9ka => decide)))
  k_with "unf" => (first | assumption | exact Around.frames_deeper (by assumption) | exact Around.frames_deeper (Around.frames_deeper (by assumption)) | ktr_unf)
  k_with "room" => (first | (show (_ : Nat) + _ < _; omega) | (show (_ : Nat) < _; omega) | ((simp only [depth_under_make, depth_under_kw, depth_in1, depth_deeper, arT]); omega) | ktr_room)
  k_with "units" => (first | (show (_ : Nat) + _ < _; omega) | ((have hcL9 := cLine_is); (simp only [units_in1, units_deeper, Around.mark_units, units_caller, arT]); omega) | ktr_units)
  k_with "kroom" => ((k_extra "room"))
  k_with "enter" => (first | (refine' code_def ?K9k1 ?K9k2 ?K9k3 ?K9k4 ?K9k5 ?K9kA ?K9kF ?K9kK ?K9k6 ?K9k7 ?K9k8 ?K9k9 ?K9kB ?_ ?K9c2 ?K9c3 ?K9c4 ?K9c5; (case K9kA => (k_extra "unf")); (case K9kF => first | assumption | exact rfl); (case K9kK => first | assumption | exact rfl); (case K9k1 => k_asm); (case K9k2 => k_asm); (case K9k3 => k_asm); (case K9k4 => k_asm); (case K9k5 => k_asm); (case K9k6 => k_is); (case K9k7 => k_is); (case K9k8 => (k_extra "room")); (case K9k9 => exact BindsTo.of_eq rfl); (case K9c5 => decide); (case K9kB => exact locs rfl); (case K9c2 => exact rfl); (case K9c3 => exact rfl); (case K9c4 => exact rfl); k_whole; intro _ _ _ _ _ _ _ _ _; (try dsimp only); (try (k_extra "gen"))) | (refine' code_defC ?K9k1 ?K9k2 ?K9k3 ?K9k4 ?K9k5 ?K9kA ?K9kF ?K9kK ?K9k6 ?K9k7 ?K9k8 ?K9k9 ?K9kB ?K9kD ?_ ?K9c2 ?K9c3 ?K9c4; (case K9kA => (k_extra "unf")); (case K9kF => first | assumption | exact rfl); (case K9kK => first | assumption | exact rfl); (case K9k1 => k_asm); (case K9k2 => k_asm); (case K9k3 => k_asm); (case K9k4 => k_asm); (case K9k5 => k_asm); (case K9k6 => k_is); (case K9k7 => k_is); (case K9k8 => (k_extra "room")); (case K9k9 => exact BindsTo.of_eq rfl); (case K9kB => exact rfl); (case K9kD => decide +kernel); (case K9c2 => exact rfl); (case K9c3 => exact rfl); (case K9c4 => exact rfl); k_whole; intro _ _ _ _ _ _ _ N19 Y19 _ _ _ l19; (try k_lt l19); k_cells Y19; (try simp only [List.cons_append, List.nil_append] at N19); (try dsimp only); (try (k_extra "gen"))) | ktr_enter)
  k_with "kenter" => ((k_extra "enter"))
  k_with "K call ref" => (((k_here; (with_reducible show wpAny _ _ (call (Value.ref 143) _) _ _ _); k_dflt (refine' DoesN.use (new_dec_ok _ _ _ _ _) ?K9k1 ?K9k2 ?K9k3 ?K9k4 ?K9k5 ?K9kA ?K9kF ?K9kK ?K9kd ?K9ku ?_; (case K9k1 => k_asm); (case K9k2 => k_asm); (case K9k3 => k_asm); (case K9k4 => k_asm); (case K9k5 => k_asm); (case K9kA => (k_extra "unf")); (case K9kF => first | assumption | exact rfl); (case K9kK => first | assumption | exact rfl); (case K9kd => (k_extra "room")); (case K9ku => (k_extra "units"))); intro _ _ _ _ _ _ _ _); (try dsimp only)))
  k_with "K call ref" => (((k_here; (with_reducible show wpAny _ _ (call (Value.ref 175) _) _ _ _); k_dflt (refine' DoesN.use (scale_ok _ _ _ _ _ _ ?K9h1 ?K9h2) ?K9k1 ?K9k2 ?K9k3 ?K9k4 ?K9k5 ?K9kA ?K9kF ?K9kK ?K9kd ?K9ku ?_; (case K9k1 => k_asm); (case K9k2 => k_asm); (case K9k3 => k_asm); (case K9k4 => k_asm); (case K9k5 => k_asm); (case K9h1 => (k_extra "rel")); (case K9h2 => (k_extra "rel")); (case K9kA => (k_extra "unf")); (case K9kF => first | assumption | exact rfl); (case K9kK => first | assumption | exact rfl); (case K9kd => (k_extra "room")); (case K9ku => (k_extra "units"))); intro _ _ _ _ _ _ D9 _; obtain ⟨_, _, _, _, D9⟩ := D9); (try dsimp only)))
  k_with "K call ref" => (((k_here; (with_reducible show wpAny _ _ (call (Value.ref 77) _) _ _ _); k_dflt (refine' DoesN.use (minus_ok _ _ _ _ _ _ ?K9h1 ?K9h2) ?K9k1 ?K9k2 ?K9k3 ?K9k4 ?K9k5 ?K9kA ?K9kF ?K9kK ?K9kd ?K9ku ?_; (case K9k1 => k_asm); (case K9k2 => k_asm); (case K9k3 => k_asm); (case K9k4 => k_asm); (case K9k5 => k_asm); (case K9h1 => (k_extra "rel")); (case K9h2 => (k_extra "rel")); (case K9kA => (k_extra "unf")); (case K9kF => first | assumption | exact rfl); (case K9kK => first | assumption | exact rfl); (case K9kd => (k_extra "room")); (case K9ku => (k_extra "units"))); intro _ _ _ _ _ _ D9 _; obtain ⟨_, _, _, _, _, _, _, _, _, _⟩ := id D9); (try dsimp only)))
  k_with "K call ref" => (((k_here; (with_reducible show wpAny _ _ (call (Value.ref 168) [Value.int _ _]) _ _ _); k_dflt (refine' DoesN.use (decof_ok _ _ _ _) ?K9k1 ?K9k2 ?K9k3 ?K9k4 ?K9k5 ?K9kA ?K9kF ?K9kK ?K9kd ?K9ku ?_; (case K9k1 => k_asm); (case K9k2 => k_asm); (case K9k3 => k_asm); (case K9k4 => k_asm); (case K9k5 => k_asm); (case K9kA => (k_extra "unf")); (case K9kF => first | assumption | exact rfl); (case K9kK => first | assumption | exact rfl); (case K9kd => (k_extra "room")); (case K9ku => (k_extra "units"))); intro _ _ _ _ _ _ D9 _; obtain ⟨_, _, _, _, _, _, _, _, D9, _⟩ := D9); (try dsimp only)))
  k_with "K call ref" => (((k_here; (with_reducible show wpAny _ _ (call (Value.ref 84) _) _ _ _); k_dflt (refine' DoesN.use (times_ok _ _ _ _ _ _ ?K9h1 ?K9h2 ?K9h3 ?K9h4 ?K9h5) ?K9k1 ?K9k2 ?K9k3 ?K9k4 ?K9k5 ?K9kA ?K9kF ?K9kK ?K9kd ?K9ku ?_; (case K9k1 => k_asm); (case K9k2 => k_asm); (case K9k3 => k_asm); (case K9k4 => k_asm); (case K9k5 => k_asm); (case K9h1 => (k_extra "rel")); (case K9h2 => omega); (case K9h3 => omega); (case K9h4 => omega); (case K9h5 => omega); (case K9kA => (k_extra "unf")); (case K9kF => first | assumption | exact rfl); (case K9kK => first | assumption | exact rfl); (case K9kd => (k_extra "room")); (case K9ku => (k_extra "units"))); intro _ _ _ _ _ _ D9 _; obtain ⟨_, _, _, _, _, _, _, _, _, _⟩ := id D9); (try dsimp only)))
  k_with "K call ref" => (((k_here; (with_reducible show wpAny _ _ (call (Value.ref 98) _) _ _ _); k_dflt (refine' DoesV.use (compared_ok _ _ _ _ _ _ ?K9h1 ?K9h2) ?K9k1 ?K9k2 ?K9k3 ?K9k4 ?K9k5 ?K9kA ?K9kF ?K9kK ?K9kd ?K9ku ?_; (case K9k1 => k_asm); (case K9k2 => k_asm); (case K9k3 => k_asm); (case K9k4 => k_asm); (case K9k5 => k_asm); (case K9h1 => (k_extra "rel")); (case K9h2 => (k_extra "rel")); (case K9kA => (k_extra "unf")); (case K9kF => first | assumption | exact rfl); (case K9kK => first | assumption | exact rfl); (case K9kd => (k_extra "room")); (case K9ku => (k_extra "units"))); intro _ _ _ _ _); (try dsimp only)))
  k_with "K call ref" => (((k_here; (with_reducible show wpAny _ _ (call (Value.ref 182) _) _ _ _); k_dflt (refine' DoesV.use (absolute_ok _ _ _ ?K9h2 _ ?K9h1) ?K9k1 ?K9k2 ?K9k3 ?K9k4 ?K9k5 ?K9kA ?K9kF ?K9kK ?K9kd ?K9ku ?_; (case K9k1 => k_asm); (case K9k2 => k_asm); (case K9k3 => k_asm); (case K9k4 => k_asm); (case K9k5 => k_asm); (case K9h1 => (k_extra "rel")); (case K9h2 => omega); (case K9kA => (k_extra "unf")); (case K9kF => first | assumption | exact rfl); (case K9kK => first | assumption | exact rfl); (case K9kd => (k_extra "room")); (case K9ku => (k_extra "units"))); intro _ _ _ _ _); (try dsimp only)))
  k_with "K call ref" => (((k_here; (with_reducible show wpAny _ _ (call (Value.ref 217) _) _ _ _); k_dflt (refine' DoesV.use (apart_ok _ _ _ _ _ _ _ ?K9h1 ?K9h2 ?K9h3 ?K9h4 ?K9h5 ?K9h6) ?K9k1 ?K9k2 ?K9k3 ?K9k4 ?K9k5 ?K9kA ?K9kF ?K9kK ?K9kd ?K9ku ?_; (case K9k1 => k_asm); (case K9k2 => k_asm); (case K9k3 => k_asm); (case K9k4 => k_asm); (case K9k5 => k_asm); (case K9h1 => assumption); (case K9h2 => assumption); (case K9h3 => omega); (case K9h4 => omega); (case K9h5 => omega); (case K9h6 => omega); (case K9kA => (k_extra "unf")); (case K9kF => first | assumption | exact rfl); (case K9kK => first | assumption | exact rfl); (case K9kd => (k_extra "room")); (case K9ku => (k_extra "units"))); intro _ _ _ _ _); (try dsimp only)))
  k_with "K subscriptTail Name UnaryOp ref int" => (((k_here; (with_reducible show wpAny _ _ (subscriptTail _ _ (Value.ref _) (Value.int _ _)) _ _ _); first | (k_dflt (refine' item_T ?K9k1 ?K9k2 ?K9k3 ?_ ?K9k5; (case K9k1 => k_asm); (case K9k2 => k_mem); (case K9k3 => first | exact ⟨by decide, rfl⟩ | assumption); (case K9k5 => with_unfolding_all rfl))) | (k_dflt (refine' item_L ?K9k1 ?K9k2 ?K9k3 ?_ ?K9k5; (case K9k1 => k_asm); (case K9k2 => k_mem); (case K9k3 => with_reducible assumption); (case K9k5 => with_unfolding_all rfl)))); (try dsimp only)))
  k_with "K subscriptTail Name Constant ref int" => (((k_here; (with_reducible show wpAny _ _ (subscriptTail _ _ (Value.ref _) (Value.int _ _)) _ _ _); first | (k_dflt (refine' item_T ?K9k1 ?K9k2 ?K9k3 ?_ ?K9k5; (case K9k1 => k_asm); (case K9k2 => k_mem); (case K9k3 => first | exact ⟨by decide, rfl⟩ | assumption); (case K9k5 => with_unfolding_all rfl))) | (k_dflt (refine' item_L ?K9k1 ?K9k2 ?K9k3 ?_ ?K9k5; (case K9k1 => k_asm); (case K9k2 => k_mem); (case K9k3 => with_reducible assumption); (case K9k5 => with_unfolding_all rfl)))); (try dsimp only)))
  k_with "K subscriptTail Name BinOp ref int" => (((k_here; (with_reducible show wpAny _ _ (subscriptTail _ _ (Value.ref _) (Value.int _ _)) _ _ _); first | (k_dflt (refine' item_T ?K9k1 ?K9k2 ?K9k3 ?_ ?K9k5; (case K9k1 => k_asm); (case K9k2 => k_mem); (case K9k3 => first | exact ⟨by decide, rfl⟩ | assumption); (case K9k5 => with_unfolding_all rfl))) | (k_dflt (refine' item_L ?K9k1 ?K9k2 ?K9k3 ?_ ?K9k5; (case K9k1 => k_asm); (case K9k2 => k_mem); (case K9k3 => with_reducible assumption); (case K9k5 => with_unfolding_all rfl)))); (try dsimp only)))
  k_with "K subscriptTail Name Name ref int" => (((k_here; (with_reducible show wpAny _ _ (subscriptTail _ _ (Value.ref _) (Value.int _ _)) _ _ _); first | (k_dflt (refine' item_T ?K9k1 ?K9k2 ?K9k3 ?_ ?K9k5; (case K9k1 => k_asm); (case K9k2 => k_mem); (case K9k3 => first | exact ⟨by decide, rfl⟩ | assumption); (case K9k5 => with_unfolding_all rfl))) | (k_dflt (refine' item_L ?K9k1 ?K9k2 ?K9k3 ?_ ?K9k5; (case K9k1 => k_asm); (case K9k2 => k_mem); (case K9k3 => with_reducible assumption); (case K9k5 => with_unfolding_all rfl)))); (try dsimp only)))
  k_with "K subscriptTail Subscript Name UnaryOp Constant ref int" => (((k_here; (with_reducible show wpAny _ _ (subscriptTail _ _ (Value.ref _) (Value.int _ _)) _ _ _); first | (k_dflt (refine' item_T ?K9k1 ?K9k2 ?K9k3 ?_ ?K9k5; (case K9k1 => k_asm); (case K9k2 => k_mem); (case K9k3 => first | exact ⟨by decide, rfl⟩ | assumption); (case K9k5 => with_unfolding_all rfl))) | (k_dflt (refine' item_L ?K9k1 ?K9k2 ?K9k3 ?_ ?K9k5; (case K9k1 => k_asm); (case K9k2 => k_mem); (case K9k3 => with_reducible assumption); (case K9k5 => with_unfolding_all rfl)))); (try dsimp only)))
  k_with "K subscriptTail Subscript Name Constant Constant ref int" => (((k_here; (with_reducible show wpAny _ _ (subscriptTail _ _ (Value.ref _) (Value.int _ _)) _ _ _); first | (k_dflt (refine' item_T ?K9k1 ?K9k2 ?K9k3 ?_ ?K9k5; (case K9k1 => k_asm); (case K9k2 => k_mem); (case K9k3 => first | exact ⟨by decide, rfl⟩ | assumption); (case K9k5 => with_unfolding_all rfl))) | (k_dflt (refine' item_L ?K9k1 ?K9k2 ?K9k3 ?_ ?K9k5; (case K9k1 => k_asm); (case K9k2 => k_mem); (case K9k3 => with_reducible assumption); (case K9k5 => with_unfolding_all rfl)))); (try dsimp only)))
  k_with "K subscriptTail Subscript Name Name Constant ref int" => (((k_here; (with_reducible show wpAny _ _ (subscriptTail _ _ (Value.ref _) (Value.int _ _)) _ _ _); first | (k_dflt (refine' item_T ?K9k1 ?K9k2 ?K9k3 ?_ ?K9k5; (case K9k1 => k_asm); (case K9k2 => k_mem); (case K9k3 => first | exact ⟨by decide, rfl⟩ | assumption); (case K9k5 => with_unfolding_all rfl))) | (k_dflt (refine' item_L ?K9k1 ?K9k2 ?K9k3 ?_ ?K9k5; (case K9k1 => k_asm); (case K9k2 => k_mem); (case K9k3 => with_reducible assumption); (case K9k5 => with_unfolding_all rfl)))); (try dsimp only)))
  k_with "K subscriptTail Subscript Name BinOp Constant ref int" => (((k_here; (with_reducible show wpAny _ _ (subscriptTail _ _ (Value.ref _) (Value.int _ _)) _ _ _); first | (k_dflt (refine' item_T ?K9k1 ?K9k2 ?K9k3 ?_ ?K9k5; (case K9k1 => k_asm); (case K9k2 => k_mem); (case K9k3 => first | exact ⟨by decide, rfl⟩ | assumption); (case K9k5 => with_unfolding_all rfl))) | (k_dflt (refine' item_L ?K9k1 ?K9k2 ?K9k3 ?_ ?K9k5; (case K9k1 => k_asm); (case K9k2 => k_mem); (case K9k3 => with_reducible assumption); (case K9k5 => with_unfolding_all rfl)))); (try dsimp only)))
  k_with "K call builtin:len" => (((k_here; (with_reducible show wpAny _ _ (call (Value.builtin "len") [Value.ref _]) _ _ _); k_dflt (refine' len_L ?K9k1 ?K9k2 ?K9k3 ?_; (case K9k1 => k_asm); (case K9k2 => k_mem); (case K9k3 => assumption))); (try dsimp only)))
  k_with "K call ref" => (((k_here; (with_reducible show wpAny _ _ (call (Value.ref 236) _) _ _ _); k_dflt (refine' DoesV.use (brk_at _ _ _ _ _ _ ?K9h1 ?K9h2 ?K9h3 ?K9hb) ?K9k1 ?K9k2 ?K9k3 ?K9k4 ?K9k5 ?K9kA ?K9kF ?K9kK ?K9kd ?K9ku ?_; (case K9k1 => k_asm); (case K9k2 => k_asm); (case K9k3 => k_asm); (case K9k4 => k_asm); (case K9k5 => k_asm); (case K9h1 => k_mem); (case K9h2 => assumption); (case K9h3 => first | assumption | omega); (case K9hb => first | assumption | exact rfl); (case K9kA => (k_extra "unf")); (case K9kF => first | assumption | exact rfl); (case K9kK => first | assumption | exact rfl); (case K9kd => (k_extra "room")); (case K9ku => (k_extra "units"))); intro _ _ _ _ _); (try dsimp only)))
  k_with "K call ref" => (((k_here; (with_reducible show wpAny _ _ (call (Value.ref 224) _) _ _ _); k_dflt (refine' DoesV.use (plain_ok _ _ ?K9h1 _ _) ?K9k1 ?K9k2 ?K9k3 ?K9k4 ?K9k5 ?K9kA ?K9kF ?K9kK ?K9kd ?K9ku ?_; (case K9k1 => k_asm); (case K9k2 => k_asm); (case K9k3 => k_asm); (case K9k4 => k_asm); (case K9k5 => k_asm); (case K9h1 => first | assumption | decide); (case K9kA => (k_extra "unf")); (case K9kF => first | assumption | exact rfl); (case K9kK => first | assumption | exact rfl); (case K9kd => (k_extra "room")); (case K9ku => (k_extra "units"))); intro _ _ _ _ _); (try dsimp only)))
  k_with "K exec For Name Call cons nil" => ((k_here; (rename Fr _ _ _ _ => lF'); (with_unfolding_all refine' For_turns lF' ?_; k_whole)))
  k_with "K exec For Name Name cons nil" => ((k_here; (rename Fr _ _ _ _ => lF'); (with_unfolding_all refine' For_turns lF' ?_; k_whole)))
  k_with "K exec For Tuple Name cons nil" => ((k_here; (rename Fr _ _ _ _ => lF'); (with_unfolding_all refine' For_turns lF' ?_; k_whole)))
  k_with "K pyIter ref" => (((with_reducible show wpAny _ _ (pyIter (Value.ref _)) (fun it s₂ => TurnsAt _ _ _ _ _ _ _ _ _ it s₂) _ _); refine Hold.of ?_))
  k_with "K CompSrc" => (refine Hold.of ?_)
  k_with "K CompSrcT" => (refine Hold.of ?_)
  k_with "K call builtin:list.append" => (((k_here; (with_reducible show wpAny _ _ (call (Value.builtin _) [Value.ref _, _]) _ _ _); k_dflt (refine' append_L ?K9k1 ?K9k2 ?K9k3 ?K9k4 ?_; (case K9k1 => k_asm); (case K9k2 => k_asm); (case K9k3 => k_upd); (case K9k4 => (k_extra "len")); k_whole); intro _ _ _); (try dsimp only)))
  k_with "K call builtin:list.extend" => (((k_here; (with_reducible show wpAny _ _ (call (Value.builtin _) [Value.ref _, Value.ref _]) _ _ _); k_dflt (refine' ext_K ?K9k1 ?K9k2 ?K9k3 ?K9k4 ?K9k5 ?K9k6 ?_; (case K9k1 => k_asm); (case K9k2 => k_asm); (case K9k3 => k_mem); (case K9k4 => k_upd); (case K9k5 => omega); (case K9k6 => (k_extra "len")); k_whole); intro _ _ _); (try dsimp only)))
  k_with "K call ref" => (((k_here; (with_reducible show wpAny _ _ (call (Value.ref 229) _) _ _ _); k_dflt (refine' DoesN.use (row_ok _ _ _ _ _ _ _ _ _ ?K9h1 ?K9h2 ?K9h3 ?K9h4 ?K9h5 ?K9h6) ?K9k1 ?K9k2 ?K9k3 ?K9k4 ?K9k5 ?K9kA ?K9kF ?K9kK ?K9kd ?K9ku ?_; (case K9k1 => k_asm); (case K9k2 => k_asm); (case K9k3 => k_asm); (case K9k4 => k_asm); (case K9k5 => k_asm); (case K9h1 => k_mem); (case K9h2 => first | assumption | (refine' Are.mono (R := GlIn _) (fun _ _ h => GlIn.mono ?K9sub h) ?K9base; (case K9base => assumption); (case K9sub => intro _ _; k_mem))); (case K9h3 => omega); (case K9h4 => omega); (case K9h5 => omega); (case K9h6 => assumption); (case K9kA => (k_extra "unf")); (case K9kF => first | assumption | exact rfl); (case K9kK => first | assumption | exact rfl); (case K9kd => (k_extra "room")); (case K9ku => (k_extra "units"))); intro _ _ _ _ _ _ _ _); (try dsimp only)))
  k_with "K compareOp NotEq ref ref" => (((k_here; (with_reducible show wpAny _ _ (compareOp CmpOp.NotEq (Value.ref _) (Value.ref _)) _ _ _); k_dflt (refine' ne_nil ?K9k1 ?K9k2 ?K9k3 ?K9ku ?K9k4 ?_; (case K9k1 => k_asm); (case K9k2 => k_mem); (case K9k3 => k_mem); (case K9ku => (k_extra "units")); (case K9k4 => first | exact ne_snoc _ _ | exact rfl))); (try dsimp only)))
  k_with "K setItem ref int" => (((k_here; k_dflt (refine' set_last ?K9k1 ?K9k2 ?K9k3 ?_; (case K9k1 => k_asm); (case K9k2 => k_asm); (case K9k3 => k_upd); k_whole); intro _ _ _); (try dsimp only)))
  k_with "K setItem ref int int" => (((k_here; k_dflt (refine' set_two ?K9F ?K9N ?K9U ?_; (case K9F => k_asm); (case K9N => k_asm); (case K9U => k_upd)); intro _ _ _); (try dsimp only)))
  k_with "K call builtin:str.join cons nil" => (((k_here; k_dflt (refine' join_ones ?K9k1 ?K9k2 ?K9k3 ?K9k4 ?_; (case K9k1 => k_asm); (case K9k2 => k_mem); (case K9k3 => assumption); (case K9k4 => omega)); intro _ _); (try dsimp only)))
  k_with "K call builtin:str.join" => (((k_here; k_dflt (refine' join_ones ?K9k1 ?K9k2 ?K9k3 ?K9k4 ?_; (case K9k1 => k_asm); (case K9k2 => k_mem); (case K9k3 => assumption); (case K9k4 => omega)); intro _ _); (try dsimp only)))
  trivial
end
example : True := by
  k_with "K call ref" => (((k_here; (with_reducible show wpAny _ _ (call (Value.ref 254) _) _ _ _); k_dflt (refine' DoesV.use (bare_ok _ _ ?K9h1 _ _) ?K9k1 ?K9k2 ?K9k3 ?K9k4 ?K9k5 ?K9kA ?K9kF ?K9kK ?K9kd ?K9ku ?_; (case K9k1 => k_asm); (case K9k2 => k_asm); (case K9k3 => k_asm); (case K9k4 => k_asm); (case K9k5 => k_asm); (case K9h1 => first | assumption | decide); (case K9kA => (k_extra "unf")); (case K9kF => first | assumption | exact rfl); (case K9kK => first | assumption | exact rfl); (case K9kd => (k_extra "room")); (case K9ku => (k_extra "units"))); intro _ _ _ _ _); (try dsimp only)))
  trivial


theorem partP12 : True := by
  w_top off
  trivial
-- texts as lists of codes
open PySem.Builtin.Str PySem.StrLaws in
section
noncomputable abbrev tx (l : List Nat) : Str := Str.mk l.toArray
theorem tx_len (l : List Nat) : (tx l).length = l.length := by simp [Str.length]
theorem tx_list (x : Str) : tx x.cps.toList = x := by
  cases x
  simp
inductive Shr : Nat → List Nat → List Nat → Prop
  | nil : Shr 0 [] []
  | cons (c : Nat) {n : Nat} {a b : List Nat} : Shr n a b → Shr n (c :: a) (c :: b)
  | two {n : Nat} {a b : List Nat} : Shr n a b → Shr (n + 1) (32 :: 32 :: a) (32 :: b)
theorem Shr.refl : ∀ a, Shr 0 a a
  | [] => .nil
  | c :: a => .cons c (Shr.refl a)
theorem Shr.len {n : Nat} {a b : List Nat} (h : Shr n a b) : b.length + n = a.length := by
  induction h with
  | nil => rfl
  | cons _ _ ih => rw [List.length_cons, List.length_cons]; omega
  | two _ ih => rw [List.length_cons, List.length_cons, List.length_cons]; omega
theorem Shr.app {n : Nat} {a b : List Nat} (h : Shr n a b) : ∀ p, Shr n (p ++ a) (p ++ b)
  | [] => h
  | c :: p => .cons c (h.app p)
noncomputable def sq : Bool → List Nat → List Nat
  | _, [] => []
  | p, c :: cs => if c = 32 ∧ p = true then sq true cs else c :: sq (c == 32) cs
theorem Shr.sq {n : Nat} {a b : List Nat} (h : Shr n a b) : ∀ p, sq p a = sq p b := by
  induction h with
  | nil => intro _; rfl
  | cons c _ ih => intro p; simp only [Mine.sq, ih]
  | two _ ih =>
    intro p
    cases p with
    | true => simp [Mine.sq, ih]
    | false => simp [Mine.sq, ih]
noncomputable def hasDD (l : List Nat) : Bool := !(occurrences (tx l) (Str.ofString "  ") 0 (tx l).length 1).isEmpty
theorem dd_cps : (Str.ofString "  ").cps.toList = [32, 32] := by decide
theorem dd_len : (Str.ofString "  ").length = 2 := by decide
theorem hasDD_iff (l : List Nat) : hasDD l = true ↔ ∃ i, l[i]? = some 32 ∧ l[i + 1]? = some 32 := by
  unfold hasDD
  rw [found_iff]
  constructor
  · rintro ⟨i, h1, h2⟩
    rw [subAt_eq, dd_cps, dd_len] at h2
    have h2 : (l.drop i).take 2 = [32, 32] := by simpa using h2
    refine ⟨i, ?_, ?_⟩
    · have : ((l.drop i).take 2)[0]? = some 32 := by rw [h2]; rfl
      simpa [List.getElem?_take] using this
    · have : ((l.drop i).take 2)[1]? = some 32 := by rw [h2]; rfl
      simpa [List.getElem?_take] using this
  · rintro ⟨i, h1, h2⟩
    obtain ⟨h3, h4⟩ := List.getElem?_eq_some_iff.mp h2
    obtain ⟨h5, h6⟩ := List.getElem?_eq_some_iff.mp h1
    refine ⟨i, ?_, ?_⟩
    · rw [dd_len, tx_len]; omega
    · rw [subAt_eq, dd_cps, dd_len]
      have e : (l.drop i).take 2 = [32, 32] := by
        rw [List.drop_eq_getElem_cons h5, List.drop_eq_getElem_cons h3, h4, h6]
        rfl
      simpa using e
theorem sq_keep : ∀ (l : List Nat) (p : Bool), (p = true → l.head? ≠ some 32) → (∀ i, ¬ (l[i]? = some 32 ∧ l[i + 1]? = some 32)) → sq p l = l
  | [], _, _, _ => rfl
  | c :: cs, p, h, k => by
    have h1 : ¬ (c = 32 ∧ p = true) := fun ⟨a, b⟩ => h b (by rw [a]; rfl)
    unfold sq
    rw [if_neg h1]
    congr 1
    refine sq_keep cs _ ?_ fun i hi => k (i + 1) (by simpa using hi)
    intro hc hh
    refine k 0 ⟨?_, ?_⟩
    · simpa using hc
    · cases cs with
      | nil => cases hh
      | cons d r => simpa using hh
theorem sq_done {l : List Nat} (h : hasDD l = false) : sq false l = l := by
  refine sq_keep l false (fun h => nomatch h) fun i hi => ?_
  rw [(hasDD_iff l).mpr ⟨i, hi⟩] at h
  cases h
noncomputable def rep1 (l : List Nat) : List Nat := (Txt.replace (tx l) (Str.ofString "  ") (Str.ofString " ")).cps.toList
theorem tx_rep1 (l : List Nat) : tx (rep1 l) = Txt.replace (tx l) (Str.ofString "  ") (Str.ofString " ") := tx_list _
theorem shr_parts (l : List Nat) : ∀ (cuts : List Nat) (a f : Nat), a ≤ l.length → ChainTo (tx l) (Str.ofString "  ") (tx l).length a cuts f →
    Shr cuts.length (l.drop a) (Str.join (Str.ofString " ") (partsFrom (tx l) 2 a cuts)).cps.toList
  | [], a, f, ha, h => by
    have e : (Str.join (Str.ofString " ") (partsFrom (tx l) 2 a [])).cps.toList = l.drop a := by
      show (strSub (tx l) a (tx l).length).cps.toList = _
      rw [strSub_toList, tx_len]
      show ((l.drop a)).take (l.length - a) = l.drop a
      exact List.take_of_length_le (by rw [List.length_drop]; exact Nat.le_refl _)
    rw [e]
    exact .refl _
  | c :: r, a, f, ha, h => by
    obtain ⟨h1, ⟨h2, h3⟩, h4⟩ := h
    rw [dd_len, tx_len] at h2
    rw [dd_len] at h4
    rw [subAt_eq, dd_cps, dd_len] at h3
    have h3 : (l.drop c).take 2 = [32, 32] := by simpa using h3
    obtain ⟨p, q, e⟩ := partsFrom_ne (tx l) 2 (c + 2) r
    have ih := shr_parts l r (c + 2) f h2 h4
    have e1 : (Str.join (Str.ofString " ") (partsFrom (tx l) 2 a (c :: r))).cps.toList = (l.drop a).take (c - a) ++ 32 :: (Str.join (Str.ofString " ") (partsFrom (tx l) 2 (c + 2) r)).cps.toList := by
      show (Str.join (Str.ofString " ") (strSub (tx l) a c :: partsFrom (tx l) 2 (c + 2) r)).cps.toList = _
      rw [e]
      show (strSub (tx l) a c ++ Str.ofString " " ++ Str.join (Str.ofString " ") (p :: q)).cps.toList = _
      simp only [Str.cps_append, Array.toList_append, strSub_toList]
      rw [str_sp]
      simp
    have e2 : l.drop a = (l.drop a).take (c - a) ++ 32 :: 32 :: l.drop (c + 2) := by
      have e3 : l.drop c = 32 :: 32 :: l.drop (c + 2) := by
        have := List.take_append_drop 2 (l.drop c)
        rw [h3, List.drop_drop] at this
        exact this.symm
      rw [← e3]
      have := List.take_append_drop (c - a) (l.drop a)
      rw [List.drop_drop, show a + (c - a) = c by omega] at this
      exact this.symm
    rw [e1, e2]
    have e5 : ((l.drop a).take (c - a) ++ 32 :: 32 :: l.drop (c + 2)).take (c - a) = (l.drop a).take (c - a) := by rw [← e2]
    rw [e5]
    exact (Shr.two ih).app _
theorem rep1_shr (l : List Nat) : ∃ n, Shr n l (rep1 l) ∧ (hasDD l = true → 1 ≤ n) := by
  unfold rep1 Txt.replace
  split
  · rename_i h
    refine ⟨0, .refl _, fun hd => ?_⟩
    rw [dd_len] at h
    have h : (occurrences (tx l) (Str.ofString "  ") 0 (tx l).length ((tx l).length + 1)).isEmpty = true := by simpa using h
    exfalso
    rcases occ_head (tx l) (Str.ofString "  ") ((tx l).length + 1) (by omega) with ⟨_, hn⟩ | ⟨i, r, e, _⟩
    · obtain ⟨i, h1, h2⟩ := (found_iff _ _).mp hd
      exact hn i ⟨h1, h2⟩
    · rw [e] at h
      cases h
  · rename_i h
    obtain ⟨f, hc⟩ := occ_chain (tx l) (Str.ofString "  ") ((tx l).length + 1)
    rw [glued_eq_join, partsBetween_eq, dd_len]
    generalize hcuts : occurrences (tx l) (Str.ofString "  ") 0 (tx l).length ((tx l).length + 1) = cuts at h hc
    refine ⟨cuts.length, shr_parts l cuts 0 f (Nat.zero_le _) hc, fun _ => ?_⟩
    cases cuts with
    | nil => simp at h
    | cons c r => exact Nat.succ_le_succ (Nat.zero_le _)
theorem strike_sp (l : List Nat) : Txt.replace (tx l) (Str.ofString " ") (Str.ofString "") = tx (l.filter (· != 32)) := by
  have e : Str.ofString "" = Str.mk #[] := by decide
  rw [str_sp, e, ← tx_list (Txt.replace _ _ _), replace_strikes]
end

theorem partP13 : True := by
  w_top off
  trivial
inductive ChAt (l : List Nat) (i : Int) (c : Nat) : Prop
  | pos : 0 ≤ i → l[i.toNat]? = some c → l.length ≤ 1000 → ChAt l i c
  | neg : i < 0 → -(l.length : Int) ≤ i → l[(i + l.length).toNat]? = some c → l.length ≤ 1000 → ChAt l i c
theorem ch_last (l : List Nat) (c : Nat) (h : (l ++ [c]).length ≤ 1000) : ChAt (l ++ [c]) (-1) c := by
  refine .neg (by decide) (by rw [List.length_append, List.length_singleton]; omega) ?_ h
  have e : (-1 + ((l ++ [c]).length : Int)).toNat = l.length := by rw [List.length_append, List.length_singleton]; omega
  rw [e, List.getElem?_append_right (Nat.le_refl _), Nat.sub_self]
  rfl
theorem ch_last2 (l : List Nat) (c d : Nat) (h : (l ++ [c] ++ [d]).length ≤ 1000) : ChAt (l ++ [c] ++ [d]) (-2) c := by
  have h2 : (l ++ [c] ++ [d]).length = l.length + 2 := by simp
  refine .neg (by decide) (by rw [h2]; omega) ?_ h
  have e : (-2 + ((l ++ [c] ++ [d]).length : Int)).toNat = l.length := by rw [h2]; omega
  rw [e, List.append_assoc, List.getElem?_append_right (Nat.le_refl _), Nat.sub_self]
  rfl
theorem ch_first (l : List Nat) (c : Nat) (h : (c :: l).length ≤ 1000) : ChAt (c :: l) 0 c := .pos (by decide) rfl h
section
open PySem.Builtin PySem.Builtin.Str
variable {prog : Program} {w : World} {A : Around} {E : Value → Shared → Prop} {s : Shared} {x y : Str} {a b l : List Nat} {t u v : Tok} {Q : Value → Shared → Prop} {value slice : PySem.Expr}
theorem add_X (hx : x = tx a) (hy : y = tx b) (hz : a.length + b.length ≤ 1000) (h : ∀ t' k, Q (.str (tx (a ++ b)) t') { s with toks := k }) : wpAny (model prog w) A (binaryOp .Add (.str x t) (.str y u)) Q E s := by
  subst hx hy
  refine P.add_str (PySem.SB.post_add (by rw [tx_len, tx_len, sizeLine_eq]; omega) fun t' k => ?_)
  have e : tx a ++ tx b = tx (a ++ b) := by
    apply Str.ext'
    apply Array.toList_inj.mp
    show ((tx a).cps ++ (tx b).cps).toList = _
    simp
  rw [e]
  exact h t' k
theorem len_X (hx : x = tx a) (hz : a.length ≤ 1000) (h : Q (.int a.length (s.toks + 1)) { s with toks := s.toks + 1 + 1 }) : wpAny (model prog w) A (call (.builtin "len") [.str x t]) Q E s := by
  subst hx
  refine SBL.len (by rw [tx_len]; omega) ?_
  rw [tx_len]
  exact h
theorem item_X {i : Int} {c : Nat} (hx : x = tx l) (hi : ChAt l i c) (h : Q (.str (Str.mk #[c]) s.toks) { s with toks := s.toks + 1 })
    (hs : subscripted slice false (.str x t) (.int i u) = operate [.str x t, .int i u] (getItem (.str x t) (.int i u)))
    (ht : ∀ r, letTemporaryGo value (.str x t) r = pure ()) : wpAny (model prog w) A (subscriptTail value slice (.str x t) (.int i u)) Q E s := by
  subst hx
  have hb : -(l.length : Int) ≤ i ∧ i < l.length ∧ l.length ≤ 1000 ∧ (Txt.charAt (tx l) i) = some c := by
    unfold Txt.charAt seqIndex?
    rw [tx_len]
    cases hi with
    | pos h0 h1 h2 =>
      have h3 := (List.getElem?_eq_some_iff.mp h1).1
      have hn : ¬ i < 0 := by omega
      have h4 : i < (l.length : Int) := by omega
      refine ⟨by omega, h4, h2, ?_⟩
      simp [hn, h0, h4]
      exact (List.getElem?_eq_some_iff.mp h1).2
    | neg h0 h1 h2 h3 =>
      have h4 : 0 ≤ i + l.length := by omega
      have h5 : i + l.length < (l.length : Int) := by omega
      refine ⟨h1, by omega, h3, ?_⟩
      simp [h0, h4, h5]
      exact (List.getElem?_eq_some_iff.mp h2).2
  obtain ⟨h1, h2, h3, h4⟩ := hb
  refine item_str (fitsSsize_of (N := 9223372036854775808) (by omega) (by omega) (Int.le_refl _)) (by rw [tx_len]; exact h1) (by rw [tx_len]; exact h2) (fun _ => ?_) hs ht
  unfold Txt.item
  rw [h4]
  exact h
theorem strike_X (hx : x = tx l) (hu : u ≠ 0) (hv : v ≠ 0) (huv : u ≠ v) (hz : l.length ≤ 1000) (h : ∀ t' k, Q (.str (tx (l.filter (· != 32))) t') { s with toks := k }) :
    wpAny (model prog w) A (call (.builtin "str.replace") [.str x t, .str (Str.ofString " ") u, .str (Str.ofString "") v]) Q E s := by
  subst hx
  refine SC.replaceW hu hv huv (by decide) (by rw [tx_len]; omega) (by decide) fun t' k => ?_
  rw [strike_sp]
  exact h t' k
theorem rep_X (hx : x = tx l) (hu : u ≠ 0) (hv : v ≠ 0) (huv : u ≠ v) (hz : l.length ≤ 1000) (h : ∀ t' k, Q (.str (tx (rep1 l)) t') { s with toks := k }) :
    wpAny (model prog w) A (call (.builtin "str.replace") [.str x t, .str (Str.ofString "  ") u, .str (Str.ofString " ") v]) Q E s := by
  subst hx
  refine SC.replaceW hu hv huv (by decide) (by rw [tx_len]; omega) (by decide) fun t' k => ?_
  rw [← tx_rep1]
  exact h t' k
theorem in_X (hx : x = tx l) (h : Q (.bool (hasDD l)) s) : wpAny (model prog w) A (compareOp .In (.str (Str.ofString "  ") u) (.str x t)) Q E s := by
  subst hx
  exact P.in_str h
end
example : True := by
  k_with "K binaryOp Add str str" => (((k_here; k_dflt (refine' add_X ?K9k1 ?K9k2 ?K9k3 ?_; (case K9k1 => first | exact str_sp | exact rfl); (case K9k2 => first | exact str_sp | exact rfl); (case K9k3 => (k_extra "len"))); intro _ _); (try dsimp only)))
  trivial
example : True := by
  k_with "K call builtin:len" => (((k_here; (with_reducible show wpAny _ _ (call (Value.builtin "len") [Value.str _ _]) _ _ _); k_dflt (refine' len_X ?K9k1 ?K9k2 ?_; (case K9k1 => exact rfl); (case K9k2 => (k_extra "len")))); (try dsimp only)))
  trivial
example : True := by
  k_with "K call builtin:len cons nil" => (((k_here; (with_reducible show wpAny _ _ (call (Value.builtin "len") [Value.str _ _]) _ _ _); k_dflt (refine' len_X ?K9k1 ?K9k2 ?_; (case K9k1 => exact rfl); (case K9k2 => (k_extra "len")))); (try dsimp only)))
  trivial
example : True := by
  k_with "K subscriptTail Name UnaryOp str int" => (((k_here; (with_reducible show wpAny _ _ (subscriptTail _ _ (Value.str _ _) (Value.int _ _)) _ _ _); k_dflt (refine' item_X ?K9k1 ?K9k2 ?_ ?K9k5 ?K9k6; (case K9k1 => exact rfl); (case K9k2 => assumption); (case K9k5 => with_unfolding_all rfl); (case K9k6 => intro _; with_unfolding_all rfl))); (try dsimp only)))
  trivial
example : True := by
  k_with "K subscriptTail Name Constant str int" => (((k_here; (with_reducible show wpAny _ _ (subscriptTail _ _ (Value.str _ _) (Value.int _ _)) _ _ _); k_dflt (refine' item_X ?K9k1 ?K9k2 ?_ ?K9k5 ?K9k6; (case K9k1 => exact rfl); (case K9k2 => assumption); (case K9k5 => with_unfolding_all rfl); (case K9k6 => intro _; with_unfolding_all rfl))); (try dsimp only)))
  trivial
example : True := by
  k_with "K subscriptTail Name BinOp str int" => (((k_here; (with_reducible show wpAny _ _ (subscriptTail _ _ (Value.str _ _) (Value.int _ _)) _ _ _); k_dflt (refine' item_X ?K9k1 ?K9k2 ?_ ?K9k5 ?K9k6; (case K9k1 => exact rfl); (case K9k2 => assumption); (case K9k5 => with_unfolding_all rfl); (case K9k6 => intro _; with_unfolding_all rfl))); (try dsimp only)))
  trivial
example : True := by
  k_with "K subscriptTail Name Name str int" => (((k_here; (with_reducible show wpAny _ _ (subscriptTail _ _ (Value.str _ _) (Value.int _ _)) _ _ _); k_dflt (refine' item_X ?K9k1 ?K9k2 ?_ ?K9k5 ?K9k6; (case K9k1 => exact rfl); (case K9k2 => assumption); (case K9k5 => with_unfolding_all rfl); (case K9k6 => intro _; with_unfolding_all rfl))); (try dsimp only)))
  trivial
example : True := by
  k_with "K call builtin:str.replace" => (((k_here; k_dflt (first | (refine' strike_X ?K9k1 ?K9k2 ?K9k3 ?K9k4 ?K9k5 ?_; (case K9k1 => exact rfl); (case K9k2 => first | decide | exact Nat.ne_of_gt (by assumption)); (case K9k3 => first | decide | exact Nat.succ_ne_zero _); (case K9k4 => first | decide | exact Nat.ne_of_lt (Nat.lt_succ_self _)); (case K9k5 => (k_extra "len"))) | (refine' rep_X ?K9k1 ?K9k2 ?K9k3 ?K9k4 ?K9k5 ?_; (case K9k1 => exact rfl); (case K9k2 => first | decide | exact Nat.ne_of_gt (by assumption)); (case K9k3 => first | decide | exact Nat.succ_ne_zero _); (case K9k4 => first | decide | exact Nat.ne_of_lt (Nat.lt_succ_self _)); (case K9k5 => (k_extra "len")))); intro _ _); (try dsimp only)))
  trivial
example : True := by
  k_with "K compareOp In str str" => (((k_here; k_dflt (refine' in_X ?K9k1 ?_; (case K9k1 => exact rfl))); (try dsimp only)))
  trivial
example : True := by
  k_with "K execs cons" => (dsimp only)
  trivial
example : True := by
  k_with "K execs nil" => (dsimp only)
  trivial

theorem partP14 : True := by
  w_top off
  trivial
theorem beq_sp (c : Nat) : (Str.mk #[c] == Str.ofString " ") = (c == 32) := by rw [str_sp]; exact str1_beq _ _
theorem between_ok (w : World) (l r : List Nat) (c d : Nat) (b : Bool) (t1 t2 : Tok) (news : List (Addr × Obj)) (hl : ChAt l (-1) c) (hr : ChAt r 0 d) : DoesV w 2 261 [.str (tx l) t1, .str (tx r) t2, .bool b] news (fun _ => .bool (c == 32 || d == 32 || b)) := by
  unfold DoesV
  intro dp f g u h₀ L m s Q E hA hd hu F N ret
  obtain ⟨sh, sg, sd, stk, so⟩ := s
  dsimp only at F N ret
  cases hA with | mk A₀ base env outer mean mg mb B X T hA hf hk =>
  revert X
  k_fill
  intro X
  refine wpAny_call ?_
  k_dflt (k_extra "enter")
  k_steps
  all_goals (try dsimp only at ret)
  · rename (Str.mk #[c] == _) = true => a1
    rw [beq_sp] at a1 ⊢
    rw [show (c == 32 || d == 32 || b) = (c == 32) by rw [a1]; rfl] at ret
    refine' ret 0 _ _ ?_ ?_ <;> k_asm
  · rename (Str.mk #[c] == _) = false => a1
    rename (Str.mk #[d] == _) = true => a2
    rw [beq_sp] at a1 a2 ⊢
    rw [show (c == 32 || d == 32 || b) = (d == 32) by rw [a1, a2]; rfl] at ret
    refine' ret 0 _ _ ?_ ?_ <;> k_asm
  · rename (Str.mk #[c] == _) = false => a1
    rename (Str.mk #[d] == _) = false => a2
    rw [beq_sp] at a1 a2
    rw [show (c == 32 || d == 32 || b) = b by rw [a1, a2]; rfl] at ret
    refine' ret 0 _ _ ?_ ?_ <;> k_asm
example : True := by
  k_with "K call ref" => (((k_here; (with_reducible show wpAny _ _ (call (Value.ref 261) [Value.str _ _, Value.str _ _, Value.bool _]) _ _ _); k_dflt (refine' DoesV.use (between_ok _ _ _ _ _ _ _ _ _ ?K9h1 ?K9h2) ?K9k1 ?K9k2 ?K9k3 ?K9k4 ?K9k5 ?K9kA ?K9kF ?K9kK ?K9kd ?K9ku ?_; (case K9k1 => k_asm); (case K9k2 => k_asm); (case K9k3 => k_asm); (case K9k4 => k_asm); (case K9k5 => k_asm); (case K9h1 => assumption); (case K9h2 => assumption); (case K9kA => (k_extra "unf")); (case K9kF => first | assumption | exact rfl); (case K9kK => first | assumption | exact rfl); (case K9kd => (k_extra "room")); (case K9ku => (k_extra "units"))); intro _ _ _ _ _); (try dsimp only)))
  trivial
structure Wg where
  k : Nat
  b : Bool
noncomputable def bareW (g : Wg) : List Nat := (C g.k).map plainC
noncomputable def glueW (i : Nat) (l : List Nat) (g : Wg) : List Nat := (if i ≠ 0 ∧ g.b = true ∧ (bareW g).headD 32 ≠ 32 ∧ l.getLastD 32 ≠ 32 then l ++ [32] else l) ++ bareW g
noncomputable def rowLnStep (s : Nat × List Nat) (g : Wg) : Nat × List Nat := (s.1 + 1, glueW s.1 s.2 g)
noncomputable def rowLn (l : List Nat) (R : List Wg) : Nat × List Nat := R.foldl rowLnStep (0, l)
noncomputable def joins (l : List Nat) : Bool := match l.reverse with
  | y :: x :: _ => y == 45 && x != 32
  | _ => false
noncomputable def lnL (k : Nat) (l : List Nat) : List Nat := if k ≠ 0 ∧ joins l = false then l ++ [32] else l
noncomputable def lnS (k : Nat) (l : List Nat) (S : List Int) : List Int := if k ≠ 0 ∧ joins l = true then S ++ [((l.filter (· != 32)).length : Int) - 1] else S
noncomputable def lnStep (s : Nat × List Nat × List Int) (R : List Wg) : Nat × List Nat × List Int := (s.1 + 1, (rowLn (lnL s.1 s.2.1) R).2, lnS s.1 s.2.1 s.2.2)
noncomputable def lnSt (RS : List (List Wg)) : Nat × List Nat × List Int := RS.foldl lnStep (0, [], [])
noncomputable def lineOf (RS : List (List Wg)) : List Nat := sq false (lnSt RS).2.1
inductive TxIn (tl : List (Addr × Obj)) : Value → Wg → Prop
  | mk (a : Addr) (t : Tok) (n : Nat) (k : Nat) (b : Bool) : (a, tupO [.str (T k) t, .bool b] n) ∈ tl → TxIn tl (.ref a) ⟨k, b⟩
inductive TrIn (tl : List (Addr × Obj)) : Value → List Wg → Prop
  | mk (a : Addr) (tvs : List Value) (n : Nat) (R : List Wg) : (a, listOf tvs.toArray n) ∈ tl → Are (TxIn tl) tvs R → TrIn tl (.ref a) R
theorem TxIn.mono {tl tl' : List (Addr × Obj)} (hs : ∀ p ∈ tl, p ∈ tl') {v : Value} {g : Wg} (h : TxIn tl v g) : TxIn tl' v g := by
  cases h with | mk a t n k b hm => exact .mk a t n k b (hs _ hm)
noncomputable def WFit (R : List Wg) : Prop := (R ≠ [] ∧ R.length ≤ 4) ∧ ∀ g ∈ R, g.k < 7

theorem partP15 : True := by
  w_top off
  trivial
theorem bareW_len {g : Wg} (h : g.k < 7) : bareW g ≠ [] ∧ (bareW g).length ≤ 3 := by
  unfold bareW
  rw [List.length_map]
  exact ⟨fun e => (C_ne _ h).1 (List.map_eq_nil_iff.mp e), (C_ne _ h).2⟩
theorem glueW_len {g : Wg} (h : g.k < 7) (i : Nat) (l : List Nat) : (glueW i l g).length ≤ l.length + 4 ∧ glueW i l g ≠ [] := by
  obtain ⟨h1, h2⟩ := bareW_len h
  unfold glueW
  constructor
  · rw [List.length_append]
    split
    · rw [List.length_append, List.length_singleton]; omega
    · omega
  · intro e
    exact h1 (List.append_eq_nil_iff.mp e).2
theorem rowLn_succ {l : List Nat} {R : List Wg} {i : Nat} (hi : i < R.length) : rowLn l (R.take (i + 1)) = rowLnStep (rowLn l (R.take i)) R[i] := by
  have e : R.take (i + 1) = R.take i ++ [R[i]] := by rw [List.take_add_one, List.getElem?_eq_getElem hi]; rfl
  rw [e]
  unfold rowLn
  rw [List.foldl_append]
  rfl
theorem rowLn_fst {l : List Nat} {R : List Wg} : ∀ {i : Nat}, i ≤ R.length → (rowLn l (R.take i)).1 = i
  | 0, _ => rfl
  | i + 1, h => by rw [rowLn_succ h]; show (rowLn l (R.take i)).1 + 1 = i + 1; rw [rowLn_fst (Nat.le_of_succ_le h)]
theorem rowLn_snd {l : List Nat} {R : List Wg} {i : Nat} (hi : i < R.length) : (rowLn l (R.take (i + 1))).2 = glueW i (rowLn l (R.take i)).2 R[i] := by
  rw [rowLn_succ hi]
  show glueW (rowLn l (R.take i)).1 _ _ = _
  rw [rowLn_fst (Nat.le_of_lt hi)]
theorem rowLn_len {l : List Nat} {R : List Wg} (hR : ∀ g ∈ R, g.k < 7) : ∀ {i : Nat}, i ≤ R.length → (rowLn l (R.take i)).2.length ≤ l.length + 4 * i
  | 0, _ => Nat.le_refl _
  | i + 1, h => by
    rw [rowLn_snd h]
    have h1 := (glueW_len (hR _ (List.getElem_mem h)) i (rowLn l (R.take i)).2).1
    have h2 := rowLn_len (l := l) hR (Nat.le_of_succ_le h)
    omega
theorem rowLn_ne {l : List Nat} {R : List Wg} (hR : ∀ g ∈ R, g.k < 7) {i : Nat} (h : i < R.length) : (rowLn l (R.take (i + 1))).2 ≠ [] := by
  rw [rowLn_snd h]
  exact (glueW_len (hR _ (List.getElem_mem h)) i _).2
theorem lnSt_succ {RS : List (List Wg)} {k : Nat} (hk : k < RS.length) : lnSt (RS.take (k + 1)) = lnStep (lnSt (RS.take k)) RS[k] := by
  have e : RS.take (k + 1) = RS.take k ++ [RS[k]] := by rw [List.take_add_one, List.getElem?_eq_getElem hk]; rfl
  rw [e]
  unfold lnSt
  rw [List.foldl_append]
  rfl
theorem lnSt_fst {RS : List (List Wg)} : ∀ {k : Nat}, k ≤ RS.length → (lnSt (RS.take k)).1 = k
  | 0, _ => rfl
  | k + 1, h => by rw [lnSt_succ h]; show (lnSt (RS.take k)).1 + 1 = k + 1; rw [lnSt_fst (Nat.le_of_succ_le h)]
theorem lnL_len (k : Nat) (l : List Nat) : (lnL k l).length ≤ l.length + 1 := by
  unfold lnL
  split
  · rw [List.length_append, List.length_singleton]; exact Nat.le_refl _
  · exact Nat.le_succ _
theorem lnS_len (k : Nat) (l : List Nat) (S : List Int) : (lnS k l S).length ≤ S.length + 1 := by
  unfold lnS
  split
  · rw [List.length_append, List.length_singleton]; exact Nat.le_refl _
  · exact Nat.le_succ _
theorem lnSt_len {RS : List (List Wg)} (hR : ∀ R ∈ RS, WFit R) : ∀ {k : Nat}, k ≤ RS.length → (lnSt (RS.take k)).2.1.length ≤ 17 * k ∧ (lnSt (RS.take k)).2.2.length ≤ k
  | 0, _ => ⟨Nat.le_refl _, Nat.le_refl _⟩
  | k + 1, h => by
    rw [lnSt_succ h]
    obtain ⟨h1, h2⟩ := lnSt_len hR (Nat.le_of_succ_le h)
    have fit := hR _ (List.getElem_mem h)
    have h3 := rowLn_len (l := lnL (lnSt (RS.take k)).1 (lnSt (RS.take k)).2.1) fit.2 (Nat.le_refl (RS[k]'h).length)
    rw [List.take_length] at h3
    have h4 := lnL_len (lnSt (RS.take k)).1 (lnSt (RS.take k)).2.1
    have h5 := lnS_len (lnSt (RS.take k)).1 (lnSt (RS.take k)).2.1 (lnSt (RS.take k)).2.2
    have h6 := fit.1.2
    show (rowLn _ _).2.length ≤ _ ∧ (lnS _ _ _).length ≤ _
    omega
inductive LineJ (ra sf : Nat) (news : List (Addr × Obj)) (RS : List (List Wg)) (k : Nat) (m : Str → Option Value) : List (Addr × Obj) → Prop
  | mk (svs : List Value) (nf t : Nat) (h1 : ∀ p ∈ [(Str.ofString "rows", Value.ref ra), (Str.ofString "soft", Value.ref sf), (Str.ofString "line", Value.str (tx (lnSt (RS.take k)).2.1) t)], m p.1 = some p.2) (hS : IntsAre svs (lnSt (RS.take k)).2.2) :
      LineJ ra sf news RS k m ((sf, listOf svs.toArray nf) :: news)
inductive LnInJ (ra sf k : Nat) (R : List Wg) (l : List Nat) (cur : List (Addr × Obj)) (i : Nat) (m : Str → Option Value) : List (Addr × Obj) → Prop
  | mk (t t2 : Nat) (h1 : ∀ p ∈ [(Str.ofString "rows", Value.ref ra), (Str.ofString "soft", Value.ref sf), (Str.ofString "k", Value.int k t2), (Str.ofString "line", Value.str (tx (rowLn l (R.take i)).2) t)], m p.1 = some p.2) : LnInJ ra sf k R l cur i m cur
inductive LnMid (ra sf k : Nat) (l : List Nat) (S : List Int) (rest : List (Addr × Obj)) (h₀ : Heap) (L : Addr) (s₁ : Shared) (f : Flow) (s' : Shared) : Prop
  | mk (h : Heap) (tk : Nat) (m : Str → Option Value) (svs : List Value) (nf t t2 : Nat) (hf : f = .next) (hs : s' = { s₁ with heap := h, toks := tk }) (F : Fr h₀ L h m) (N : News h₀ L h ((sf, listOf svs.toArray nf) :: rest))
      (h1 : ∀ p ∈ [(Str.ofString "rows", Value.ref ra), (Str.ofString "soft", Value.ref sf), (Str.ofString "k", Value.int k t2), (Str.ofString "line", Value.str (tx (lnL k l)) t)], m p.1 = some p.2) (hS : IntsAre svs (lnS k l S)) : LnMid ra sf k l S rest h₀ L s₁ f s'
inductive LineOut (RS : List (List Wg)) (tl : List (Addr × Obj)) (x : Addr) : Prop
  | mk (svs : List Value) (sf nf n t : Nat) : (x, tupO [.str (tx (lineOf RS)) t, .ref sf] n) ∈ tl → (sf, listOf svs.toArray nf) ∈ tl → IntsAre svs (lnSt RS).2.2 → LineOut RS tl x
theorem wp_tk {α : Type} {M : Model} {A : Around} {t : Sem α} {Q : α → Shared → Prop} {E : Value → Shared → Prop} {hp : Heap} {g : Array GenState} {dr : Drawn} {n : Nat} {os : OsState} (h : ∀ tk, wpAny M A t Q E ⟨hp, g, dr, tk, os⟩) : wpAny M A t Q E ⟨hp, g, dr, n, os⟩ := h n
theorem joins_two (l : List Nat) (x y : Nat) : joins (l ++ [x] ++ [y]) = (y == 45 && x != 32) := by simp [joins]
theorem lnL_no {k : Nat} {l : List Nat} (h : joins l = false) : lnL (k + 1) l = l ++ [32] := by simp [lnL, h]
theorem lnS_no {k : Nat} {l : List Nat} {S : List Int} (h : joins l = false) : lnS (k + 1) l S = S := by simp [lnS, h]
theorem lnL_yes {k : Nat} {l : List Nat} (h : joins l = true) : lnL (k + 1) l = l := by simp [lnL, h]
theorem lnS_yes {k : Nat} {l : List Nat} {S : List Int} (h : joins l = true) : lnS (k + 1) l S = S ++ [((l.filter (· != 32)).length : Int) - 1] := by simp [lnS, h]
theorem ints_snoc {vs : List Value} {ns : List Int} {i : Int} {t : Tok} (h : IntsAre vs ns) : IntsAre (vs ++ [.int i t]) (ns ++ [i]) := by
  induction h with
  | nil => exact .cons _ _ .nil
  | cons _ _ _ ih => exact .cons _ _ ih
theorem wp_tkpos {α : Type} {M : Model} {A : Around} {t : Sem α} {Q : α → Shared → Prop} {E : Value → Shared → Prop} {hp : Heap} {g : Array GenState} {dr : Drawn} {n : Nat} {os : OsState} (h : ∀ tk, 0 < tk → wpAny M A t Q E ⟨hp, g, dr, tk, os⟩) : wpAny M A t Q E ⟨hp, g, dr, n + 1, os⟩ := h (n + 1) (Nat.succ_pos n)
theorem LnMid.of {ra sf k : Nat} {l : List Nat} {S : List Int} {rest : List (Addr × Obj)} {h₀ : Heap} {L : Addr} {s₁ : Shared} {h : Heap} {tk : Nat} {m : Str → Option Value} {svs : List Value} {nf t t2 : Nat} {l' : List Nat} {S' : List Int} (e1 : lnL k l = l') (e2 : lnS k l S = S') (F : Fr h₀ L h m) (N : News h₀ L h ((sf, listOf svs.toArray nf) :: rest))
    (h1 : m (Str.ofString "rows") = some (.ref ra)) (h2 : m (Str.ofString "soft") = some (.ref sf)) (h3 : m (Str.ofString "k") = some (.int k t2)) (h4 : m (Str.ofString "line") = some (.str (tx l') t)) (hS : IntsAre svs S') : LnMid ra sf k l S rest h₀ L s₁ .next { s₁ with heap := h, toks := tk } := by
  subst e1 e2
  refine .mk h tk m svs nf t t2 rfl rfl F N ?_ hS
  intro p hp
  simp only [List.mem_cons, List.not_mem_nil, or_false] at hp
  rcases hp with rfl | rfl | rfl | rfl
  · exact h1
  · exact h2
  · exact h3
  · exact h4
theorem head_at {h₀ h : Heap} {L a : Addr} {o : Obj} {r : List (Addr × Obj)} (_ : News h₀ L h ((a, o) :: r)) : ∃ x, x = a := ⟨a, rfl⟩
theorem line_turn {h₀ h' : Heap} {L ra l0 : Nat} {m' : Str → Option Value} {news own : List (Addr × Obj)} {RS : List (List Wg)} {k k' t nf : Nat} {l : List Nat} {S : List Int} {svs : List Value} {s₁ : Shared} {tk : Nat} (F : Fr h₀ L h' m') (N : News h₀ L h' ((l0, listOf svs.toArray nf) :: (news ++ own)))
    (off : ∀ p ∈ news ++ own, p.1 ≠ l0) (ho : ∀ p ∈ own, ∀ q ∈ news, p.1 ≠ q.1) (h1 : m' (Str.ofString "rows") = some (.ref ra)) (h2 : m' (Str.ofString "soft") = some (.ref l0)) (h3 : m' (Str.ofString "line") = some (.str (tx l) t)) (e : lnSt (RS.take k) = (k', l, S)) (hS : IntsAre svs S) :
    InvEndG h₀ L (fun m' nx => (∀ p ∈ ([] : List (Addr × Obj)), p ∈ nx) ∧ LineJ ra l0 news RS k m' nx) own s₁ { s₁ with heap := h', toks := tk } := by
  refine inv_end (nw := []) [(l0, listOf svs.toArray nf)] F N (fun p hp => hp) ⟨fun p hp a ha => ?_, ho, fun _ hp => nomatch hp⟩ ⟨fun _ hp => (nomatch hp), .mk svs nf t ?_ (by rw [e]; exact hS)⟩
  · obtain rfl := List.mem_singleton.mp ha
    exact off p hp
  · intro p hp
    rw [e] at hp
    simp only [List.mem_cons, List.not_mem_nil, or_false] at hp
    rcases hp with rfl | rfl | rfl
    · exact h1
    · exact h2
    · exact h3
theorem lnin_turn {h₀ h' : Heap} {L ra l0 k : Nat} {m' : Str → Option Value} {cur own : List (Addr × Obj)} {R : List Wg} {i t t2 : Nat} {l ln : List Nat} {s₁ : Shared} {tk : Nat} (F : Fr h₀ L h' m') (N : News h₀ L h' (cur ++ own)) (hown : OwnOff own (cur.map (·.1)))
    (h1 : m' (Str.ofString "rows") = some (.ref ra)) (h2 : m' (Str.ofString "soft") = some (.ref l0)) (h3 : m' (Str.ofString "k") = some (.int k t2)) (h4 : m' (Str.ofString "line") = some (.str (tx ln) t)) (e : (rowLn l (R.take i)).2 = ln) :
    InvEndG h₀ L (fun m' nx => (∀ p ∈ ([] : List (Addr × Obj)), p ∈ nx) ∧ LnInJ ra l0 k R l cur i m' nx) own s₁ { s₁ with heap := h', toks := tk } := by
  refine InvEndG.intro (nx := cur) F N ⟨fun _ hp => (nomatch hp), .mk t t2 ?_⟩ hown (fun p hp => List.mem_append_left _ hp) fun p hp => List.mem_append_right _ hp
  intro p hp
  rw [e] at hp
  simp only [List.mem_cons, List.not_mem_nil, or_false] at hp
  rcases hp with rfl | rfl | rfl | rfl
  · exact h1
  · exact h2
  · exact h3
  · exact h4
theorem glue_zero (l : List Nat) (g : Wg) : glueW 0 l g = l ++ bareW g := by simp [glueW]
theorem glue_no {i : Nat} {l r : List Nat} {c d : Nat} {g : Wg} (e : bareW g = d :: r) (h : ¬ (g.b = true ∧ d ≠ 32 ∧ c ≠ 32)) : glueW (i + 1) (l ++ [c]) g = l ++ [c] ++ bareW g := by
  unfold glueW
  rw [if_neg]
  rintro ⟨_, h1, h2, h3⟩
  rw [e] at h2
  exact h ⟨h1, by simpa using h2, by simpa using h3⟩
theorem glue_yes {i : Nat} {l r : List Nat} {c d : Nat} {g : Wg} (e : bareW g = d :: r) (h1 : g.b = true) (h2 : d ≠ 32) (h3 : c ≠ 32) : glueW (i + 1) (l ++ [c]) g = l ++ [c] ++ [32] ++ bareW g := by
  unfold glueW
  rw [if_pos]
  refine ⟨Nat.succ_ne_zero _, h1, ?_, ?_⟩
  · rw [e]; exact h2
  · simpa using h3

theorem partP16 : True := by
  w_top off
  trivial
section
example : True := by
  k_with "K exec If Compare cons nil" => (refine Hold.of ?_)
  trivial
example : True := by
  k_with "K execs cons If cons" => (((try dsimp only); (with_reducible refine cut_ret fun Q9 hR9 hQ9 => ?_)))
  trivial
example : True := by
  k_with "K execs cons Assign" => (((try dsimp only); (with_reducible refine wp_tkpos fun tk9 htk9 => ?_)))
  trivial
example : True := by
  k_with "K execs cons Expr" => (((try dsimp only); (with_reducible refine wp_tkpos fun tk9 htk9 => ?_)))
  trivial
example : True := by
  k_with "K execs cons AugAssign" => (((try dsimp only); (with_reducible refine wp_tkpos fun tk9 htk9 => ?_)))
  trivial
example : True := by
  k_with "K execs cons For" => (((try dsimp only); (with_reducible refine wp_tkpos fun tk9 htk9 => ?_)))
  trivial
example : True := by
  k_with "K execs cons While" => (((try dsimp only); (with_reducible refine wp_tkpos fun tk9 htk9 => ?_)))
  trivial
example : True := by
  k_with "K execs cons Return" => (((try dsimp only); (with_reducible refine wp_tkpos fun tk9 htk9 => ?_)))
  trivial
example : True := by
  k_with "K execs nil" => (((try dsimp only); (with_reducible refine wp_tkpos fun tk9 htk9 => ?_)))
  trivial
example : True := by
  k_with "K exec While Compare cons nil" => (((try dsimp only); refine Hold.of ?_))
  trivial
theorem line_ok (w : World) (ra : Addr) (rvs : List Value) (nr : Nat) (RS : List (List Wg)) (news : List (Addr × Obj)) (hm : (ra, listOf rvs.toArray nr) ∈ news) (hR : Are (TrIn news) rvs RS) (hlen : rvs.length ≤ 3) (hfit : ∀ R ∈ RS, WFit R) :
    DoesN w 6 268 [.ref ra] news (LineOut RS) := by
  unfold DoesN
  intro d f g u h₀ L m s Q E hA hd hu F N ret
  obtain ⟨sh, sg, sd, stk, so⟩ := s
  dsimp only at F N ret
  cases hA with | mk A₀ base env outer mean mg mb B X T hA hf hk =>
  revert X
  k_fill
  intro X
  refine wpAny_call ?_
  k_dflt (k_extra "enter")
  rename_i gA lA hpA FGA FA NA BA XA TA
  refine wp_tk fun tk0 => ?_
  have z1 : LenAt rvs rvs.length := ⟨rfl, by omega⟩
  k_steps
  rename IsRange _ _ _ _ _ _ _ _ => hr
  rename Fr _ _ _ _ => F1
  rename News _ _ _ _ => N1
  rename ∀ p ∈ news, _ => lN
  obtain ⟨l0, rfl⟩ := head_at N1
  have hLn : ∀ p ∈ news, p.1 ≠ l0 := fun p hp => Nat.ne_of_lt (lN p hp)
  refine' turns_range (LineJ ra l0 news RS) rfl hr rfl (by omega) F1 N1 ?j0 ?turn ?done (by intro _ _; rfl)
  case j0 =>
    refine' LineJ.mk (RS := RS) (k := 0) (news := news) [] 0 _ ?h1 .nil
    case h1 =>
      exact mp_cons (by rfl) (mp_cons (by rfl) (mp_cons (by rfl) (mp_nil)))
  case turn =>
    intro k t m₁ nx h tk own hk' hown hJ F2 N2 Qb hnQ hrQ
    cases hJ with | mk svs nf tl j1 jS =>
    replace F2 := fr_upd F2 _ j1
    simp only [List.cons_append] at N2
    have hk2 : k < RS.length := by rw [← hR.length]; exact hk'
    obtain ⟨v, hv, hg⟩ := hR.get hk2
    have fit := hfit _ (List.getElem_mem hk2)
    generalize hGi : RS[k] = R at hg fit
    have hklt : k < 3 := by omega
    obtain ⟨b1, b2⟩ := lnSt_len hfit (Nat.le_of_lt hk2)
    have ek2 := lnSt_fst (RS := RS) (Nat.le_of_lt hk2)
    generalize hSt : lnSt (RS.take k) = st at j1 jS b1 b2 F2 ek2
    obtain ⟨k2, l, S⟩ := st
    dsimp only at j1 jS b1 b2 F2 ek2
    subst ek2
    have sl := jS.length
    have hoff : ∀ p ∈ news ++ own, p.1 ≠ l0 := fun p hp => (List.mem_append.mp hp).elim (hLn p) fun h => hown p h _ (.head _)
    k_steps
    refine wpAny_mono (Q := LnMid ra l0 k2 l S (news ++ own) gA lA ⟨sh, sg, sd, stk, so⟩) ?ifA ?ifB (fun _ _ e => e)
    case ifA =>
      cases k2 with
      | zero =>
        refine wpAny_If ?_
        k_steps
        exact LnMid.of rfl rfl (by assumption) (by assumption) rfl rfl rfl rfl jS
      | succ k2 =>
        rcases List.eq_nil_or_concat l with rfl | ⟨l, c, rfl⟩
        · have hj : joins [] = false := rfl
          refine wpAny_If ?_
          k_steps
          exact LnMid.of (lnL_no hj) (lnS_no hj) (by assumption) (by assumption) rfl rfl rfl rfl jS
        · rw [List.concat_eq_append] at *
          rcases List.eq_nil_or_concat l with rfl | ⟨l, c2, rfl⟩
          · rw [List.nil_append] at *
            have hj : joins [c] = false := rfl
            have hl1 : [c].length = 1 := rfl
            refine wpAny_If ?_
            k_steps
            all_goals exact LnMid.of (lnL_no hj) (lnS_no hj) (by assumption) (by assumption) rfl rfl rfl rfl jS
          · rw [List.concat_eq_append] at *
            have hl2 : (l ++ [c2] ++ [c]).length = l.length + 2 := by simp
            have hj := joins_two l c2 c
            have z2 : ChAt (l ++ [c2] ++ [c]) (-1) c := ch_last _ _ (by omega)
            have z3 : ChAt (l ++ [c2] ++ [c]) (-2) c2 := ch_last2 _ _ _ (by omega)
            have z5 : (l ++ [c2] ++ [c]).length ≤ 900 := by omega
            have z6 : (l ++ [c2] ++ [c] ++ [32]).length ≤ 901 := by rw [List.length_append]; exact Nat.add_le_add_right z5 1
            have z4 : ((l ++ [c2] ++ [c]).filter (· != 32)).length ≤ 1000 := Nat.le_trans (List.length_filter_le _ _) (by omega)
            refine wpAny_If ?_
            k_steps
            · rename (Str.mk #[c] == _) = true => a1
              rename (Str.mk #[c2] != _) = true => a2
              rw [beq_hy] at a1
              rw [bne_sp] at a2
              rw [a1, a2] at hj
              exact LnMid.of (lnL_yes hj) (lnS_yes hj) (by assumption) (by assumption) rfl rfl rfl rfl (ints_snoc jS)
            · rename (Str.mk #[c] == _) = true => a1
              rename (Str.mk #[c2] != _) = false => a2
              rw [beq_hy] at a1
              rw [bne_sp] at a2
              rw [a1, a2] at hj
              exact LnMid.of (lnL_no hj) (lnS_no hj) (by assumption) (by assumption) rfl rfl rfl rfl jS
            · rename (Str.mk #[c] == _) = false => a1
              rw [beq_hy] at a1
              rw [a1] at hj
              exact LnMid.of (lnL_no hj) (lnS_no hj) (by assumption) (by assumption) rfl rfl rfl rfl jS
    case ifB =>
      rintro f s' ⟨h, tk, m', svs, nf, t, t2, rfl, rfl, F3, N3, h1, hS3⟩
      replace F3 := fr_upd F3 _ h1
      (try dsimp only)
      cases hg with | mk ta tvs tn _ tm hT =>
      have tm2 : (ta, listOf tvs.toArray tn) ∈ news ++ own := List.mem_append_left _ tm
      have z2 : ItemAt rvs (k2 : Int) (.ref ta) := .pos (by omega) (by omega) (by simpa using hv)
      have z3 : LenAt tvs tvs.length := ⟨rfl, by rw [hT.length]; have := fit.1.2; omega⟩
      have tl4 : tvs.length ≤ 4 := by rw [hT.length]; exact fit.1.2
      have sl3 := hS3.length
      have b3 := lnL_len k2 l
      generalize hl' : lnL k2 l = l' at h1 F3 b3
      have hm2 : (ra, listOf rvs.toArray nr) ∈ news ++ own := List.mem_append_left _ hm
      k_steps
      rename IsRange _ _ _ _ _ _ _ _ => hr2
      rename Fr _ _ _ _ => F4
      rename News _ _ _ _ => N4
      refine' turns_range (LnInJ ra l0 k2 R l' ((l0, listOf svs.toArray nf) :: (news ++ own))) rfl hr2 rfl (by omega) F4 N4 ?i0 ?iturn ?idone (by intro _ _; rfl)
      case i0 =>
        refine' LnInJ.mk (R := R) (i := 0) t t2 ?h1
        exact mp_cons (by rfl) (mp_cons (by rfl) (mp_cons (by rfl) (mp_cons (by rfl) (mp_nil))))
      case iturn =>
        intro i ti m₂ nx h tk own2 hi hown2 hJ F5 N5 Qb hnQ hrQ
        cases hJ with | mk t t2 j2 =>
        replace F5 := fr_upd F5 _ j2
        simp only [List.cons_append] at N5
        have hiR : i < R.length := by rw [← hT.length]; exact hi
        obtain ⟨gv, hgv, hg⟩ := hT.get hiR
        have gk7 := fit.2 _ (List.getElem_mem hiR)
        have b4 := rowLn_len (l := l') fit.2 (Nat.le_of_lt hiR)
        have eS := rowLn_snd (l := l') hiR
        generalize hRi : R[i] = gg at hg gk7 eS
        cases hg with | mk xa xt xn gk gb xm =>
        replace gk7 : gk < 7 := gk7
        have z4 : ItemAt tvs (i : Int) (.ref xa) := .pos (by omega) (by omega) (by simpa using hgv)
        have xm2 : (xa, tupO [.str (Mine.T gk) xt, .bool gb] xn) ∈ news ++ own ++ own2 := List.mem_append_left _ (List.mem_append_left _ xm)
        have tm3 : (ta, listOf tvs.toArray tn) ∈ news ++ own ++ own2 := List.mem_append_left _ tm2
        have hm3 : (ra, listOf rvs.toArray nr) ∈ news ++ own ++ own2 := List.mem_append_left _ hm2
        have hbl := (bareW_len (g := ⟨gk, gb⟩) gk7).2
        have hbl2 : ((C gk).map plainC).length ≤ 3 := hbl
        have hbn := (bareW_len (g := ⟨gk, gb⟩) gk7).1
        cases i with
        | zero =>
          rw [glue_zero] at eS
          change _ = (rowLn l' []).2 ++ _ at eS
          (try dsimp only)
          k_steps
          exact lnin_turn (by assumption) (by assumption) hown2 rfl rfl rfl rfl eS
        | succ i =>
          have hne := rowLn_ne (l := l') fit.2 (Nat.lt_of_succ_lt hiR)
          generalize (rowLn l' (R.take (i + 1))).2 = ln at *
          rcases List.eq_nil_or_concat ln with rfl | ⟨ln, c, rfl⟩
          · exact absurd rfl hne
          rw [List.concat_eq_append] at *
          have hbw : bareW ⟨gk, gb⟩ = (C gk).map plainC := rfl
          cases hC : (C gk).map plainC with
          | nil => exact absurd (hbw.trans hC) hbn
          | cons d r =>
          have y1 : ChAt (ln ++ [c]) (-1) c := ch_last _ _ (by omega)
          have y2 : ChAt ((C gk).map plainC) 0 d := by rw [hC]; exact ch_first _ _ (by rw [← hC, ← hbw]; omega)
          rw [hbw] at hbl
          have y3 : (ln ++ [c]).length ≤ 900 := by omega
          have y4 : (ln ++ [c] ++ [32]).length ≤ 901 := by rw [List.length_append]; exact Nat.add_le_add_right y3 1
          k_steps
          · rename (_ || _) = true => a1
            rename (Str.mk #[d] != _) = true => a2
            rename (Str.mk #[c] != _) = true => a3
            rw [bne_sp] at a2 a3
            have h2 : d ≠ 32 := by simpa using a2
            have h3 : c ≠ 32 := by simpa using a3
            have h1 : gb = true := by simpa [h2, h3] using a1
            exact lnin_turn (by assumption) (by assumption) hown2 rfl rfl rfl rfl (by rw [eS]; exact glue_yes (hbw.trans hC) h1 h2 h3)
          · rename (Str.mk #[c] != _) = false => a3
            rw [bne_sp] at a3
            exact lnin_turn (by assumption) (by assumption) hown2 rfl rfl rfl rfl (by rw [eS]; exact glue_no (hbw.trans hC) fun h => h.2.2 (by simpa using a3))
          · rename (Str.mk #[d] != _) = false => a3
            rw [bne_sp] at a3
            exact lnin_turn (by assumption) (by assumption) hown2 rfl rfl rfl rfl (by rw [eS]; exact glue_no (hbw.trans hC) fun h => h.2.1 (by simpa using a3))
          · rename (_ || _) = false => a3
            exact lnin_turn (by assumption) (by assumption) hown2 rfl rfl rfl rfl (by rw [eS]; exact glue_no (hbw.trans hC) fun h => by rw [show gb = true from h.1] at a3; simp at a3)
      case idone =>
        intro m₂ nx h tk hJ F5 N5
        cases hJ with | mk t t2 j2 =>
        replace F5 := fr_upd F5 _ j2
        k_steps
        rw [show tvs.length = R.length from hT.length, List.take_length] at j2 F5
        refine' line_turn (S := lnS k2 l S) (l := (rowLn l' R).2) (k' := k2 + 1) ?xF ?xN hoff (fun p hp q hq => hown p hp _ (.tail _ (List.mem_map.mpr ⟨q, hq, rfl⟩))) ?x1 ?x2 ?x3 ?x4 hS3
        case xF => assumption
        case xN => assumption
        case x1 => rfl
        case x2 => rfl
        case x3 => rfl
        case x4 =>
          rw [lnSt_succ hk2, hSt, hGi]
          show (k2 + 1, (rowLn (lnL k2 l) R).2, _) = _
          rw [hl']
  case done =>
    intro m₁ nx h tk hJ F2 N2
    cases hJ with | mk svs nf tl j1 jS =>
    replace F2 := fr_upd F2 _ j1
    rw [show rvs.length = RS.length from hR.length, List.take_length] at jS j1 F2
    have b1 := (lnSt_len hfit (Nat.le_refl RS.length)).1
    rw [List.take_length] at b1
    k_steps
    rename Fr _ _ _ _ => F3
    rename News _ _ _ _ => N3
    refine ksw_while (σ := List Nat × Nat) (fun _ => (l0, listOf svs.toArray nf) :: news) (fun c => [(Str.ofString "line", .str (tx c.1) c.2), (Str.ofString "soft", .ref l0)]) (fun _ => True) [Str.ofString "line"] (fun c => sq false c.1 = sq false (lnSt RS).2.1 ∧ c.1.length ≤ 1000) (fun c => c.1.length) ((lnSt RS).2.1, tl) F3 N3 trivial ?hk ⟨rfl, ?hlen⟩ ?wturn
    case hk =>
      exact mp_cons (by rfl) (mp_cons (by rfl) (mp_nil))
    case hlen =>
      rw [← hR.length] at b1
      (try dsimp only)
      omega
    case wturn =>
      rintro ⟨ln, tn⟩ uu h tk _ ⟨hsq, hlen2⟩ F4 N4
      dsimp only at hsq hlen2 F4 N4 ⊢
      k_steps
      · rename hasDD ln = true => hd
        obtain ⟨n, hs, hn⟩ := rep1_shr ln
        have hl := hs.len
        have hn := hn hd
        refine' ksw_end (rep1 ln, _) ?wF ?wN (fun _ hp => hp) trivial ?wk ?wr ⟨(hs.sq false).symm.trans hsq, ?wl⟩ ?wm
        case wF => assumption
        case wN => assumption
        case wk =>
          exact mp_cons (by rfl) (mp_cons (by rfl) (mp_nil))
        case wr =>
          intro z h2 h3
          have hz1 : z ≠ Str.ofString "line" := h2 _ (.head _)
          have hz2 : z ≠ Str.ofString "soft" := h2 _ (.tail _ (.head _))
          show (if z = Str.ofString "line" then _ else kstB _ _ z) = _
          rw [if_neg hz1]
          simp only [kstB, hz1, hz2, h3, if_false]
          rfl
        case wl => dsimp only; omega
        case wm => dsimp only; omega
      · rename hasDD ln = false => hd
        rename _ < _ ∧ AllLt _ _ => lX
        have hline : lineOf RS = ln := by unfold lineOf; rw [← hsq, sq_done hd]
        refine' ret _ [(_, _), (l0, listOf svs.toArray nf)] _ _ ?vF ?vN (.mk svs l0 nf 0 tn ?vo (.tail _ (.head _)) jS) ?vl
        case vF => k_asm
        case vN => k_asm
        case vo => rw [hline]; exact .head _
        case vl =>
          intro p hp q hq
          rcases List.mem_cons.mp hp with rfl | hp
          · exact tb_ltOf lX.2 q hq
          · obtain rfl := List.mem_singleton.mp hp
            exact lN q hq
example : True := by
  k_with_none
  k_with "K spliced" => (((k_here; k_dflt (refine' args_ev ?K9F ?K9k ?K9e ?_; (case K9F => k_asm); (case K9k => exact rfl); (case K9e => exact rfl))); (try dsimp only [List.cons_append, List.nil_append])))
  k_with "K eval Subscript" => ((k_here; k_dflt (refine' sub_ev1 ?K9F ?K9k ?K9e ?_; (case K9F => k_asm); (case K9k => exact rfl); (case K9e => exact rfl))))
  k_with "K eval Subscript" => ((k_here; k_dflt (refine' sub_ev ?K9F ?K9k ?K9e ?K9i ?_; (case K9F => k_asm); (case K9k => exact rfl); (case K9e => exact rfl); (case K9i => exact rfl))))
  k_with "K eval BinOp" => ((k_here; k_dflt (refine' bin_ev1 ?K9F ?K9k ?K9e ?_; (case K9F => k_asm); (case K9k => exact rfl); (case K9e => exact rfl))))
  k_with "K eval BinOp" => ((k_here; k_dflt (refine' bin_ev ?K9F ?K9k ?K9e ?K9i ?_; (case K9F => k_asm); (case K9k => exact rfl); (case K9e => exact rfl); (case K9i => exact rfl))))
  k_with "K eval Compare" => ((k_here; k_dflt (refine' cmp_ev ?K9F ?K9k ?K9e ?K9i ?_ ?K9m; (case K9m => with_unfolding_all exact rfl); (case K9F => k_asm); (case K9k => exact rfl); (case K9e => exact rfl); (case K9i => exact rfl))))
  k_with "K isTrue Compare" => ((k_here; k_dflt (refine' test_ev ?K9F ?K9k ?K9e ?K9i ?_ ?K9m; (case K9m => with_unfolding_all exact rfl); (case K9F => k_asm); (case K9k => exact rfl); (case K9e => exact rfl); (case K9i => exact rfl))))
  k_with "K eval Name" => ((k_here; k_dflt (refine' name_ev ?K9F ?K9k ?K9e ?_; (case K9F => k_asm); (case K9k => exact rfl); (case K9e => exact rfl))))
  k_with "omega" => ((with_reducible first | assumption | exact Nat.ne_of_lt (by assumption) | exact Nat.ne_of_gt (by assumption) | exact and_ne1 (by assumption) | exact and_ne2 (by assumption) | exact and_ne3 (by assumption) | exact and_ne4 (by assumption) | exact and_ne5 (by assumption) | exact and_ne6 (by assumption) | exact and_ne7 (by assumption) | exact and_ne8 (by assumption) | exact and_ne9 (by assumption) | exact and_ne10 (by assumption) | exact Int.natCast_nonneg _ | exact cpos _ | exact room1 (by assumption) | (refine room2 (by assumption) ?_; with_unfolding_all exact rfl) | (refine room3 (by assumption) ?_; with_unfolding_all exact rfl) | (refine lebig (by assumption) ?_; with_unfolding_all exact rfl) | (refine leAdd2 (by assumption) (by assumption) ?_; with_unfolding_all exact rfl) | (refine snocLe (by assumption) ?_; with_unfolding_all exact rfl) | (refine snocAdd (by assumption) (by assumption) ?_; with_unfolding_all exact rfl) | exact nnAddI (by assumption) | exact nnAddI (nnAddI (by assumption)) | (refine leAddI (by assumption) ?_; with_unfolding_all decide) | (refine castLt (by assumption) ?_; with_unfolding_all decide) | (refine castLt2 (by assumption) (by assumption) ?_; with_unfolding_all decide) | (refine castLe ?_; with_unfolding_all decide) | (refine Int.le_trans (by assumption) ?_; with_unfolding_all decide) | (with_unfolding_all decide)))
  k_with "all" => (assumption)
  k_with "turns" => ((first | with_reducible assumption | with_reducible exact List.mem_cons_self | ((with_reducible refine List.mem_cons_of_mem _ ?_); (k_extra "turns")) | ((with_reducible show _ ∈ _ ++ _); first | (refine List.mem_append_right _ ?_; (k_extra "turns")) | (refine List.mem_append_left _ ?_; (k_extra "turns")))))
  k_with "mem" => (((show (_ : Addr × Obj) ∈ (_ : List (Addr × Obj))); (k_extra "turns")))
  k_with "len" => (first | omega | (simp only [List.length_append, List.length_cons, List.length_nil] at *; omega))
  k_with "rel" => (first | assumption | (refine DecIn.right ?K9kr; (case K9kr => (k_extra "rel"))) | (refine DecIn.left ?K9kr; (case K9kr => (k_extra "rel"))) | (refine' DecIn.mk _ _ _ _ _ _ _ _ ?K9m1 ?K9m2; (case K9m1 => k_mem); (case K9m2 => k_mem)))
  k_with "gen" => (((try (with_reducible refine enter_A (by assumption) (by assumption) (by assumption) (by with_unfolding_all exact rfl) fun d8 f8 u8 hf8 hd8 hu8 => ?_)); (with_reducible refine gen_never ?_); (with_reducible refine gen_body fun Q8 hR8 hQ8 => ?_)))
  k_with "steps" => (repeat' (first | k_extra "leaf" | (k_unfold; (try dsimp only)) | (k_end; kc_close) | walk1 | (dsimp only; walk1) | (leave1; walk_say "STEP leave1"; (try dsimp only)) | fail "no step"))
  k_with "leaf" => (first | (with_reducible (refine hQ9 (Shared.mk _ sg sd _ so) ?_; clear hQ9; (try clear hR9); clear Q9)) | (refine hQ9 (Shared.mk _ sg sd _ so) ?_; clear hQ9; (try clear hR9); clear Q9) | (with_reducible first | (refine hQ9 _ ?_; clear hQ9; (try clear hR9); clear Q9) | (refine hR9 _ _ ?_; clear hR9; (try clear hQ9); clear Q9) | (refine (?K9h : Nexts _ _) _ ?_; (case K9h => assumption)) | (refine (?K9h : Rets _ _) _ _ ?_; (case K9h => assumption))))
  k_with "K execs cons Assign" => ((with_reducible refine cut_next fun Q9 hQ9 => ?_))
  k_with "K execs cons Assign" => ((with_reducible refine wp_tks fun tk9 => ?_))
  k_with "K execs cons Expr" => ((with_reducible refine cut_next fun Q9 hQ9 => ?_))
  k_with "K execs cons Expr" => ((with_reducible refine wp_tks fun tk9 => ?_))
  k_with "K execs cons AugAssign" => ((with_reducible refine cut_next fun Q9 hQ9 => ?_))
  k_with "K execs cons AugAssign" => ((with_reducible refine wp_tks fun tk9 => ?_))
  k_with "K execs cons If" => ((with_reducible refine cut_ret fun Q9 hR9 hQ9 => ?_))
  k_with "K execs cons If" => ((with_reducible refine wp_tks fun tk9 => ?_))
  k_with "K execs cons For" => ((with_reducible refine cut_ret fun Q9 hR9 hQ9 => ?_))
  k_with "K execs cons For" => ((with_reducible refine wp_tks fun tk9 => ?_))
  k_with "K execs cons While" => ((with_reducible refine cut_ret fun Q9 hR9 hQ9 => ?_))
  k_with "K execs cons While" => ((with_reducible refine wp_tks fun tk9 => ?_))
  k_with "K execs cons Return" => ((with_reducible refine cut_ret fun Q9 hR9 hQ9 => ?_))
  k_with "K execs cons Return" => ((with_reducible refine wp_tks fun tk9 => ?_))
  k_with "K binaryOp Pow int int" => ((with_reducible refine pow_zero ?K9ke ?K9ka ?_; (case K9ke => decide); (case K9ka => decide)))
  k_with "unf" => (first | assumption | exact Around.frames_deeper (by assumption) | exact Around.frames_deeper (Around.frames_deeper (by assumption)) | ktr_unf)
  k_with "room" => (first | (show (_ : Nat) + _ < _; omega) | (show (_ : Nat) < _; omega) | ((simp only [depth_under_make, depth_under_kw, depth_in1, depth_deeper, arT]); omega) | ktr_room)
  k_with "units" => (first | (show (_ : Nat) + _ < _; omega) | ((have hcL9 := cLine_is); (simp only [units_in1, units_deeper, Around.mark_units, units_caller, arT]); omega) | ktr_units)
  k_with "kroom" => ((k_extra "room"))
  k_with "enter" => (first | (refine' code_def ?K9k1 ?K9k2 ?K9k3 ?K9k4 ?K9k5 ?K9kA ?K9kF ?K9kK ?K9k6 ?K9k7 ?K9k8 ?K9k9 ?K9kB ?_ ?K9c2 ?K9c3 ?K9c4 ?K9c5; (case K9kA => (k_extra "unf")); (case K9kF => first | assumption | exact rfl); (case K9kK => first | assumption | exact rfl); (case K9k1 => k_asm); (case K9k2 => k_asm); (case K9k3 => k_asm); (case K9k4 => k_asm); (case K9k5 => k_asm); (case K9k6 => k_is); (case K9k7 => k_is); (case K9k8 => (k_extra "room")); (case K9k9 => exact BindsTo.of_eq rfl); (case K9c5 => decide); (case K9kB => exact locs rfl); (case K9c2 => exact rfl); (case K9c3 => exact rfl); (case K9c4 => exact rfl); k_whole; intro _ _ _ _ _ _ _ _ _; (try dsimp only); (try (k_extra "gen"))) | (refine' code_defC ?K9k1 ?K9k2 ?K9k3 ?K9k4 ?K9k5 ?K9kA ?K9kF ?K9kK ?K9k6 ?K9k7 ?K9k8 ?K9k9 ?K9kB ?K9kD ?_ ?K9c2 ?K9c3 ?K9c4; (case K9kA => (k_extra "unf")); (case K9kF => first | assumption | exact rfl); (case K9kK => first | assumption | exact rfl); (case K9k1 => k_asm); (case K9k2 => k_asm); (case K9k3 => k_asm); (case K9k4 => k_asm); (case K9k5 => k_asm); (case K9k6 => k_is); (case K9k7 => k_is); (case K9k8 => (k_extra "room")); (case K9k9 => exact BindsTo.of_eq rfl); (case K9kB => exact rfl); (case K9kD => decide +kernel); (case K9c2 => exact rfl); (case K9c3 => exact rfl); (case K9c4 => exact rfl); k_whole; intro _ _ _ _ _ _ _ N19 Y19 _ _ _ l19; (try k_lt l19); k_cells Y19; (try simp only [List.cons_append, List.nil_append] at N19); (try dsimp only); (try (k_extra "gen"))) | ktr_enter)
  k_with "kenter" => ((k_extra "enter"))
  k_with "K call ref" => (((k_here; (with_reducible show wpAny _ _ (call (Value.ref 143) _) _ _ _); k_dflt (refine' DoesN.use (new_dec_ok _ _ _ _ _) ?K9k1 ?K9k2 ?K9k3 ?K9k4 ?K9k5 ?K9kA ?K9kF ?K9kK ?K9kd ?K9ku ?_; (case K9k1 => k_asm); (case K9k2 => k_asm); (case K9k3 => k_asm); (case K9k4 => k_asm); (case K9k5 => k_asm); (case K9kA => (k_extra "unf")); (case K9kF => first | assumption | exact rfl); (case K9kK => first | assumption | exact rfl); (case K9kd => (k_extra "room")); (case K9ku => (k_extra "units"))); intro _ _ _ _ _ _ _ _); (try dsimp only)))
  k_with "K call ref" => (((k_here; (with_reducible show wpAny _ _ (call (Value.ref 175) _) _ _ _); k_dflt (refine' DoesN.use (scale_ok _ _ _ _ _ _ ?K9h1 ?K9h2) ?K9k1 ?K9k2 ?K9k3 ?K9k4 ?K9k5 ?K9kA ?K9kF ?K9kK ?K9kd ?K9ku ?_; (case K9k1 => k_asm); (case K9k2 => k_asm); (case K9k3 => k_asm); (case K9k4 => k_asm); (case K9k5 => k_asm); (case K9h1 => (k_extra "rel")); (case K9h2 => (k_extra "rel")); (case K9kA => (k_extra "unf")); (case K9kF => first | assumption | exact rfl); (case K9kK => first | assumption | exact rfl); (case K9kd => (k_extra "room")); (case K9ku => (k_extra "units"))); intro _ _ _ _ _ _ D9 _; obtain ⟨_, _, _, _, D9⟩ := D9); (try dsimp only)))
  k_with "K call ref" => (((k_here; (with_reducible show wpAny _ _ (call (Value.ref 77) _) _ _ _); k_dflt (refine' DoesN.use (minus_ok _ _ _ _ _ _ ?K9h1 ?K9h2) ?K9k1 ?K9k2 ?K9k3 ?K9k4 ?K9k5 ?K9kA ?K9kF ?K9kK ?K9kd ?K9ku ?_; (case K9k1 => k_asm); (case K9k2 => k_asm); (case K9k3 => k_asm); (case K9k4 => k_asm); (case K9k5 => k_asm); (case K9h1 => (k_extra "rel")); (case K9h2 => (k_extra "rel")); (case K9kA => (k_extra "unf")); (case K9kF => first | assumption | exact rfl); (case K9kK => first | assumption | exact rfl); (case K9kd => (k_extra "room")); (case K9ku => (k_extra "units"))); intro _ _ _ _ _ _ D9 _; obtain ⟨_, _, _, _, _, _, _, _, _, _⟩ := id D9); (try dsimp only)))
  k_with "K call ref" => (((k_here; (with_reducible show wpAny _ _ (call (Value.ref 168) [Value.int _ _]) _ _ _); k_dflt (refine' DoesN.use (decof_ok _ _ _ _) ?K9k1 ?K9k2 ?K9k3 ?K9k4 ?K9k5 ?K9kA ?K9kF ?K9kK ?K9kd ?K9ku ?_; (case K9k1 => k_asm); (case K9k2 => k_asm); (case K9k3 => k_asm); (case K9k4 => k_asm); (case K9k5 => k_asm); (case K9kA => (k_extra "unf")); (case K9kF => first | assumption | exact rfl); (case K9kK => first | assumption | exact rfl); (case K9kd => (k_extra "room")); (case K9ku => (k_extra "units"))); intro _ _ _ _ _ _ D9 _; obtain ⟨_, _, _, _, _, _, _, _, D9, _⟩ := D9); (try dsimp only)))
  k_with "K call ref" => (((k_here; (with_reducible show wpAny _ _ (call (Value.ref 84) _) _ _ _); k_dflt (refine' DoesN.use (times_ok _ _ _ _ _ _ ?K9h1 ?K9h2 ?K9h3 ?K9h4 ?K9h5) ?K9k1 ?K9k2 ?K9k3 ?K9k4 ?K9k5 ?K9kA ?K9kF ?K9kK ?K9kd ?K9ku ?_; (case K9k1 => k_asm); (case K9k2 => k_asm); (case K9k3 => k_asm); (case K9k4 => k_asm); (case K9k5 => k_asm); (case K9h1 => (k_extra "rel")); (case K9h2 => omega); (case K9h3 => omega); (case K9h4 => omega); (case K9h5 => omega); (case K9kA => (k_extra "unf")); (case K9kF => first | assumption | exact rfl); (case K9kK => first | assumption | exact rfl); (case K9kd => (k_extra "room")); (case K9ku => (k_extra "units"))); intro _ _ _ _ _ _ D9 _; obtain ⟨_, _, _, _, _, _, _, _, _, _⟩ := id D9); (try dsimp only)))
  k_with "K call ref" => (((k_here; (with_reducible show wpAny _ _ (call (Value.ref 98) _) _ _ _); k_dflt (refine' DoesV.use (compared_ok _ _ _ _ _ _ ?K9h1 ?K9h2) ?K9k1 ?K9k2 ?K9k3 ?K9k4 ?K9k5 ?K9kA ?K9kF ?K9kK ?K9kd ?K9ku ?_; (case K9k1 => k_asm); (case K9k2 => k_asm); (case K9k3 => k_asm); (case K9k4 => k_asm); (case K9k5 => k_asm); (case K9h1 => (k_extra "rel")); (case K9h2 => (k_extra "rel")); (case K9kA => (k_extra "unf")); (case K9kF => first | assumption | exact rfl); (case K9kK => first | assumption | exact rfl); (case K9kd => (k_extra "room")); (case K9ku => (k_extra "units"))); intro _ _ _ _ _); (try dsimp only)))
  k_with "K call ref" => (((k_here; (with_reducible show wpAny _ _ (call (Value.ref 182) _) _ _ _); k_dflt (refine' DoesV.use (absolute_ok _ _ _ ?K9h2 _ ?K9h1) ?K9k1 ?K9k2 ?K9k3 ?K9k4 ?K9k5 ?K9kA ?K9kF ?K9kK ?K9kd ?K9ku ?_; (case K9k1 => k_asm); (case K9k2 => k_asm); (case K9k3 => k_asm); (case K9k4 => k_asm); (case K9k5 => k_asm); (case K9h1 => (k_extra "rel")); (case K9h2 => omega); (case K9kA => (k_extra "unf")); (case K9kF => first | assumption | exact rfl); (case K9kK => first | assumption | exact rfl); (case K9kd => (k_extra "room")); (case K9ku => (k_extra "units"))); intro _ _ _ _ _); (try dsimp only)))
  k_with "K call ref" => (((k_here; (with_reducible show wpAny _ _ (call (Value.ref 217) _) _ _ _); k_dflt (refine' DoesV.use (apart_ok _ _ _ _ _ _ _ ?K9h1 ?K9h2 ?K9h3 ?K9h4 ?K9h5 ?K9h6) ?K9k1 ?K9k2 ?K9k3 ?K9k4 ?K9k5 ?K9kA ?K9kF ?K9kK ?K9kd ?K9ku ?_; (case K9k1 => k_asm); (case K9k2 => k_asm); (case K9k3 => k_asm); (case K9k4 => k_asm); (case K9k5 => k_asm); (case K9h1 => assumption); (case K9h2 => assumption); (case K9h3 => omega); (case K9h4 => omega); (case K9h5 => omega); (case K9h6 => omega); (case K9kA => (k_extra "unf")); (case K9kF => first | assumption | exact rfl); (case K9kK => first | assumption | exact rfl); (case K9kd => (k_extra "room")); (case K9ku => (k_extra "units"))); intro _ _ _ _ _); (try dsimp only)))
  k_with "K subscriptTail Name UnaryOp ref int" => (((k_here; (with_reducible show wpAny _ _ (subscriptTail _ _ (Value.ref _) (Value.int _ _)) _ _ _); first | (k_dflt (refine' item_T ?K9k1 ?K9k2 ?K9k3 ?_ ?K9k5; (case K9k1 => k_asm); (case K9k2 => k_mem); (case K9k3 => first | exact ⟨by decide, rfl⟩ | assumption); (case K9k5 => with_unfolding_all rfl))) | (k_dflt (refine' item_L ?K9k1 ?K9k2 ?K9k3 ?_ ?K9k5; (case K9k1 => k_asm); (case K9k2 => k_mem); (case K9k3 => with_reducible assumption); (case K9k5 => with_unfolding_all rfl)))); (try dsimp only)))
  k_with "K subscriptTail Name Constant ref int" => (((k_here; (with_reducible show wpAny _ _ (subscriptTail _ _ (Value.ref _) (Value.int _ _)) _ _ _); first | (k_dflt (refine' item_T ?K9k1 ?K9k2 ?K9k3 ?_ ?K9k5; (case K9k1 => k_asm); (case K9k2 => k_mem); (case K9k3 => first | exact ⟨by decide, rfl⟩ | assumption); (case K9k5 => with_unfolding_all rfl))) | (k_dflt (refine' item_L ?K9k1 ?K9k2 ?K9k3 ?_ ?K9k5; (case K9k1 => k_asm); (case K9k2 => k_mem); (case K9k3 => with_reducible assumption); (case K9k5 => with_unfolding_all rfl)))); (try dsimp only)))
  k_with "K subscriptTail Name BinOp ref int" => (((k_here; (with_reducible show wpAny _ _ (subscriptTail _ _ (Value.ref _) (Value.int _ _)) _ _ _); first | (k_dflt (refine' item_T ?K9k1 ?K9k2 ?K9k3 ?_ ?K9k5; (case K9k1 => k_asm); (case K9k2 => k_mem); (case K9k3 => first | exact ⟨by decide, rfl⟩ | assumption); (case K9k5 => with_unfolding_all rfl))) | (k_dflt (refine' item_L ?K9k1 ?K9k2 ?K9k3 ?_ ?K9k5; (case K9k1 => k_asm); (case K9k2 => k_mem); (case K9k3 => with_reducible assumption); (case K9k5 => with_unfolding_all rfl)))); (try dsimp only)))
  k_with "K subscriptTail Name Name ref int" => (((k_here; (with_reducible show wpAny _ _ (subscriptTail _ _ (Value.ref _) (Value.int _ _)) _ _ _); first | (k_dflt (refine' item_T ?K9k1 ?K9k2 ?K9k3 ?_ ?K9k5; (case K9k1 => k_asm); (case K9k2 => k_mem); (case K9k3 => first | exact ⟨by decide, rfl⟩ | assumption); (case K9k5 => with_unfolding_all rfl))) | (k_dflt (refine' item_L ?K9k1 ?K9k2 ?K9k3 ?_ ?K9k5; (case K9k1 => k_asm); (case K9k2 => k_mem); (case K9k3 => with_reducible assumption); (case K9k5 => with_unfolding_all rfl)))); (try dsimp only)))
  k_with "K subscriptTail Subscript Name UnaryOp Constant ref int" => (((k_here; (with_reducible show wpAny _ _ (subscriptTail _ _ (Value.ref _) (Value.int _ _)) _ _ _); first | (k_dflt (refine' item_T ?K9k1 ?K9k2 ?K9k3 ?_ ?K9k5; (case K9k1 => k_asm); (case K9k2 => k_mem); (case K9k3 => first | exact ⟨by decide, rfl⟩ | assumption); (case K9k5 => with_unfolding_all rfl))) | (k_dflt (refine' item_L ?K9k1 ?K9k2 ?K9k3 ?_ ?K9k5; (case K9k1 => k_asm); (case K9k2 => k_mem); (case K9k3 => with_reducible assumption); (case K9k5 => with_unfolding_all rfl)))); (try dsimp only)))
  k_with "K subscriptTail Subscript Name Constant Constant ref int" => (((k_here; (with_reducible show wpAny _ _ (subscriptTail _ _ (Value.ref _) (Value.int _ _)) _ _ _); first | (k_dflt (refine' item_T ?K9k1 ?K9k2 ?K9k3 ?_ ?K9k5; (case K9k1 => k_asm); (case K9k2 => k_mem); (case K9k3 => first | exact ⟨by decide, rfl⟩ | assumption); (case K9k5 => with_unfolding_all rfl))) | (k_dflt (refine' item_L ?K9k1 ?K9k2 ?K9k3 ?_ ?K9k5; (case K9k1 => k_asm); (case K9k2 => k_mem); (case K9k3 => with_reducible assumption); (case K9k5 => with_unfolding_all rfl)))); (try dsimp only)))
  k_with "K subscriptTail Subscript Name Name Constant ref int" => (((k_here; (with_reducible show wpAny _ _ (subscriptTail _ _ (Value.ref _) (Value.int _ _)) _ _ _); first | (k_dflt (refine' item_T ?K9k1 ?K9k2 ?K9k3 ?_ ?K9k5; (case K9k1 => k_asm); (case K9k2 => k_mem); (case K9k3 => first | exact ⟨by decide, rfl⟩ | assumption); (case K9k5 => with_unfolding_all rfl))) | (k_dflt (refine' item_L ?K9k1 ?K9k2 ?K9k3 ?_ ?K9k5; (case K9k1 => k_asm); (case K9k2 => k_mem); (case K9k3 => with_reducible assumption); (case K9k5 => with_unfolding_all rfl)))); (try dsimp only)))
  k_with "K subscriptTail Subscript Name BinOp Constant ref int" => (((k_here; (with_reducible show wpAny _ _ (subscriptTail _ _ (Value.ref _) (Value.int _ _)) _ _ _); first | (k_dflt (refine' item_T ?K9k1 ?K9k2 ?K9k3 ?_ ?K9k5; (case K9k1 => k_asm); (case K9k2 => k_mem); (case K9k3 => first | exact ⟨by decide, rfl⟩ | assumption); (case K9k5 => with_unfolding_all rfl))) | (k_dflt (refine' item_L ?K9k1 ?K9k2 ?K9k3 ?_ ?K9k5; (case K9k1 => k_asm); (case K9k2 => k_mem); (case K9k3 => with_reducible assumption); (case K9k5 => with_unfolding_all rfl)))); (try dsimp only)))
  k_with "K call builtin:len" => (((k_here; (with_reducible show wpAny _ _ (call (Value.builtin "len") [Value.ref _]) _ _ _); k_dflt (refine' len_L ?K9k1 ?K9k2 ?K9k3 ?_; (case K9k1 => k_asm); (case K9k2 => k_mem); (case K9k3 => assumption))); (try dsimp only)))
  k_with "K call ref" => (((k_here; (with_reducible show wpAny _ _ (call (Value.ref 236) _) _ _ _); k_dflt (refine' DoesV.use (brk_at _ _ _ _ _ _ ?K9h1 ?K9h2 ?K9h3 ?K9hb) ?K9k1 ?K9k2 ?K9k3 ?K9k4 ?K9k5 ?K9kA ?K9kF ?K9kK ?K9kd ?K9ku ?_; (case K9k1 => k_asm); (case K9k2 => k_asm); (case K9k3 => k_asm); (case K9k4 => k_asm); (case K9k5 => k_asm); (case K9h1 => k_mem); (case K9h2 => assumption); (case K9h3 => first | assumption | omega); (case K9hb => first | assumption | exact rfl); (case K9kA => (k_extra "unf")); (case K9kF => first | assumption | exact rfl); (case K9kK => first | assumption | exact rfl); (case K9kd => (k_extra "room")); (case K9ku => (k_extra "units"))); intro _ _ _ _ _); (try dsimp only)))
  k_with "K call ref" => (((k_here; (with_reducible show wpAny _ _ (call (Value.ref 224) _) _ _ _); k_dflt (refine' DoesV.use (plain_ok _ _ ?K9h1 _ _) ?K9k1 ?K9k2 ?K9k3 ?K9k4 ?K9k5 ?K9kA ?K9kF ?K9kK ?K9kd ?K9ku ?_; (case K9k1 => k_asm); (case K9k2 => k_asm); (case K9k3 => k_asm); (case K9k4 => k_asm); (case K9k5 => k_asm); (case K9h1 => first | assumption | decide); (case K9kA => (k_extra "unf")); (case K9kF => first | assumption | exact rfl); (case K9kK => first | assumption | exact rfl); (case K9kd => (k_extra "room")); (case K9ku => (k_extra "units"))); intro _ _ _ _ _); (try dsimp only)))
  k_with "K exec For Name Call cons nil" => ((k_here; (rename Fr _ _ _ _ => lF'); (with_unfolding_all refine' For_turns lF' ?_; k_whole)))
  k_with "K exec For Name Name cons nil" => ((k_here; (rename Fr _ _ _ _ => lF'); (with_unfolding_all refine' For_turns lF' ?_; k_whole)))
  k_with "K exec For Tuple Name cons nil" => ((k_here; (rename Fr _ _ _ _ => lF'); (with_unfolding_all refine' For_turns lF' ?_; k_whole)))
  k_with "K pyIter ref" => (((with_reducible show wpAny _ _ (pyIter (Value.ref _)) (fun it s₂ => TurnsAt _ _ _ _ _ _ _ _ _ it s₂) _ _); refine Hold.of ?_))
  k_with "K CompSrc" => (refine Hold.of ?_)
  k_with "K CompSrcT" => (refine Hold.of ?_)
  k_with "K call builtin:list.append" => (((k_here; (with_reducible show wpAny _ _ (call (Value.builtin _) [Value.ref _, _]) _ _ _); k_dflt (refine' append_L ?K9k1 ?K9k2 ?K9k3 ?K9k4 ?_; (case K9k1 => k_asm); (case K9k2 => k_asm); (case K9k3 => k_upd); (case K9k4 => (k_extra "len")); k_whole); intro _ _ _); (try dsimp only)))
  k_with "K call builtin:list.extend" => (((k_here; (with_reducible show wpAny _ _ (call (Value.builtin _) [Value.ref _, Value.ref _]) _ _ _); k_dflt (refine' ext_K ?K9k1 ?K9k2 ?K9k3 ?K9k4 ?K9k5 ?K9k6 ?_; (case K9k1 => k_asm); (case K9k2 => k_asm); (case K9k3 => k_mem); (case K9k4 => k_upd); (case K9k5 => omega); (case K9k6 => (k_extra "len")); k_whole); intro _ _ _); (try dsimp only)))
  k_with "K call ref" => (((k_here; (with_reducible show wpAny _ _ (call (Value.ref 229) _) _ _ _); k_dflt (refine' DoesN.use (row_ok _ _ _ _ _ _ _ _ _ ?K9h1 ?K9h2 ?K9h3 ?K9h4 ?K9h5 ?K9h6) ?K9k1 ?K9k2 ?K9k3 ?K9k4 ?K9k5 ?K9kA ?K9kF ?K9kK ?K9kd ?K9ku ?_; (case K9k1 => k_asm); (case K9k2 => k_asm); (case K9k3 => k_asm); (case K9k4 => k_asm); (case K9k5 => k_asm); (case K9h1 => k_mem); (case K9h2 => first | assumption | (refine' Are.mono (R := GlIn _) (fun _ _ h => GlIn.mono ?K9sub h) ?K9base; (case K9base => assumption); (case K9sub => intro _ _; k_mem))); (case K9h3 => omega); (case K9h4 => omega); (case K9h5 => omega); (case K9h6 => assumption); (case K9kA => (k_extra "unf")); (case K9kF => first | assumption | exact rfl); (case K9kK => first | assumption | exact rfl); (case K9kd => (k_extra "room")); (case K9ku => (k_extra "units"))); intro _ _ _ _ _ _ _ _); (try dsimp only)))
  k_with "K compareOp NotEq ref ref" => (((k_here; (with_reducible show wpAny _ _ (compareOp CmpOp.NotEq (Value.ref _) (Value.ref _)) _ _ _); k_dflt (refine' ne_nil ?K9k1 ?K9k2 ?K9k3 ?K9ku ?K9k4 ?_; (case K9k1 => k_asm); (case K9k2 => k_mem); (case K9k3 => k_mem); (case K9ku => (k_extra "units")); (case K9k4 => first | exact ne_snoc _ _ | exact rfl))); (try dsimp only)))
  k_with "K setItem ref int" => (((k_here; k_dflt (refine' set_last ?K9k1 ?K9k2 ?K9k3 ?_; (case K9k1 => k_asm); (case K9k2 => k_asm); (case K9k3 => k_upd); k_whole); intro _ _ _); (try dsimp only)))
  k_with "K setItem ref int int" => (((k_here; k_dflt (refine' set_two ?K9F ?K9N ?K9U ?_; (case K9F => k_asm); (case K9N => k_asm); (case K9U => k_upd)); intro _ _ _); (try dsimp only)))
  k_with "K call builtin:str.join cons nil" => (((k_here; k_dflt (refine' join_ones ?K9k1 ?K9k2 ?K9k3 ?K9k4 ?_; (case K9k1 => k_asm); (case K9k2 => k_mem); (case K9k3 => assumption); (case K9k4 => omega)); intro _ _); (try dsimp only)))
  k_with "K call builtin:str.join" => (((k_here; k_dflt (refine' join_ones ?K9k1 ?K9k2 ?K9k3 ?K9k4 ?_; (case K9k1 => k_asm); (case K9k2 => k_mem); (case K9k3 => assumption); (case K9k4 => omega)); intro _ _); (try dsimp only)))
  k_with "K call ref" => (((k_here; (with_reducible show wpAny _ _ (call (Value.ref 254) _) _ _ _); k_dflt (refine' DoesV.use (bare_ok _ _ ?K9h1 _ _) ?K9k1 ?K9k2 ?K9k3 ?K9k4 ?K9k5 ?K9kA ?K9kF ?K9kK ?K9kd ?K9ku ?_; (case K9k1 => k_asm); (case K9k2 => k_asm); (case K9k3 => k_asm); (case K9k4 => k_asm); (case K9k5 => k_asm); (case K9h1 => first | assumption | decide); (case K9kA => (k_extra "unf")); (case K9kF => first | assumption | exact rfl); (case K9kK => first | assumption | exact rfl); (case K9kd => (k_extra "room")); (case K9ku => (k_extra "units"))); intro _ _ _ _ _); (try dsimp only)))
  k_with "K binaryOp Add str str" => (((k_here; k_dflt (refine' add_X ?K9k1 ?K9k2 ?K9k3 ?_; (case K9k1 => first | exact str_sp | exact rfl); (case K9k2 => first | exact str_sp | exact rfl); (case K9k3 => (k_extra "len"))); intro _ _); (try dsimp only)))
  k_with "K call builtin:len" => (((k_here; (with_reducible show wpAny _ _ (call (Value.builtin "len") [Value.str _ _]) _ _ _); k_dflt (refine' len_X ?K9k1 ?K9k2 ?_; (case K9k1 => exact rfl); (case K9k2 => (k_extra "len")))); (try dsimp only)))
  k_with "K call builtin:len cons nil" => (((k_here; (with_reducible show wpAny _ _ (call (Value.builtin "len") [Value.str _ _]) _ _ _); k_dflt (refine' len_X ?K9k1 ?K9k2 ?_; (case K9k1 => exact rfl); (case K9k2 => (k_extra "len")))); (try dsimp only)))
  k_with "K subscriptTail Name UnaryOp str int" => (((k_here; (with_reducible show wpAny _ _ (subscriptTail _ _ (Value.str _ _) (Value.int _ _)) _ _ _); k_dflt (refine' item_X ?K9k1 ?K9k2 ?_ ?K9k5 ?K9k6; (case K9k1 => exact rfl); (case K9k2 => assumption); (case K9k5 => with_unfolding_all rfl); (case K9k6 => intro _; with_unfolding_all rfl))); (try dsimp only)))
  k_with "K subscriptTail Name Constant str int" => (((k_here; (with_reducible show wpAny _ _ (subscriptTail _ _ (Value.str _ _) (Value.int _ _)) _ _ _); k_dflt (refine' item_X ?K9k1 ?K9k2 ?_ ?K9k5 ?K9k6; (case K9k1 => exact rfl); (case K9k2 => assumption); (case K9k5 => with_unfolding_all rfl); (case K9k6 => intro _; with_unfolding_all rfl))); (try dsimp only)))
  k_with "K subscriptTail Name BinOp str int" => (((k_here; (with_reducible show wpAny _ _ (subscriptTail _ _ (Value.str _ _) (Value.int _ _)) _ _ _); k_dflt (refine' item_X ?K9k1 ?K9k2 ?_ ?K9k5 ?K9k6; (case K9k1 => exact rfl); (case K9k2 => assumption); (case K9k5 => with_unfolding_all rfl); (case K9k6 => intro _; with_unfolding_all rfl))); (try dsimp only)))
  k_with "K subscriptTail Name Name str int" => (((k_here; (with_reducible show wpAny _ _ (subscriptTail _ _ (Value.str _ _) (Value.int _ _)) _ _ _); k_dflt (refine' item_X ?K9k1 ?K9k2 ?_ ?K9k5 ?K9k6; (case K9k1 => exact rfl); (case K9k2 => assumption); (case K9k5 => with_unfolding_all rfl); (case K9k6 => intro _; with_unfolding_all rfl))); (try dsimp only)))
  k_with "K call builtin:str.replace" => (((k_here; k_dflt (first | (refine' strike_X ?K9k1 ?K9k2 ?K9k3 ?K9k4 ?K9k5 ?_; (case K9k1 => exact rfl); (case K9k2 => first | decide | exact Nat.ne_of_gt (by assumption)); (case K9k3 => first | decide | exact Nat.succ_ne_zero _); (case K9k4 => first | decide | exact Nat.ne_of_lt (Nat.lt_succ_self _)); (case K9k5 => (k_extra "len"))) | (refine' rep_X ?K9k1 ?K9k2 ?K9k3 ?K9k4 ?K9k5 ?_; (case K9k1 => exact rfl); (case K9k2 => first | decide | exact Nat.ne_of_gt (by assumption)); (case K9k3 => first | decide | exact Nat.succ_ne_zero _); (case K9k4 => first | decide | exact Nat.ne_of_lt (Nat.lt_succ_self _)); (case K9k5 => (k_extra "len")))); intro _ _); (try dsimp only)))
  k_with "K compareOp In str str" => (((k_here; k_dflt (refine' in_X ?K9k1 ?_; (case K9k1 => exact rfl))); (try dsimp only)))
  k_with "K execs cons" => (dsimp only)
  k_with "K execs nil" => (dsimp only)
  k_with "K call ref" => (((k_here; (with_reducible show wpAny _ _ (call (Value.ref 261) [Value.str _ _, Value.str _ _, Value.bool _]) _ _ _); k_dflt (refine' DoesV.use (between_ok _ _ _ _ _ _ _ _ _ ?K9h1 ?K9h2) ?K9k1 ?K9k2 ?K9k3 ?K9k4 ?K9k5 ?K9kA ?K9kF ?K9kK ?K9kd ?K9ku ?_; (case K9k1 => k_asm); (case K9k2 => k_asm); (case K9k3 => k_asm); (case K9k4 => k_asm); (case K9k5 => k_asm); (case K9h1 => assumption); (case K9h2 => assumption); (case K9kA => (k_extra "unf")); (case K9kF => first | assumption | exact rfl); (case K9kK => first | assumption | exact rfl); (case K9kd => (k_extra "room")); (case K9ku => (k_extra "units"))); intro _ _ _ _ _); (try dsimp only)))
  trivial
end

theorem partP17 : True := by
  w_top off
  trivial
theorem texts_obj (p : Params) : List.lookup (242 : Nat) (hd.heap_39 p) = some { cls := .type "tuple", data := .seq #[.str (T 0) 489, .str (T 1) 490, .str (T 2) 491, .str (T 3) 492, .str (T 4) 493, .str (T 5) 494, .str (T 6) 495] } := by rfl
theorem item_texts {prog : Program} {w : World} {A : Around} {E : Value → Shared → Prop} {s : Shared} {h₀ : Heap} {L : Addr} {m : Str → Option Value} {i : Int} {u : Tok} {Q : Value → Shared → Prop} {value slice : PySem.Expr} (X : (hd.heap_39 w.params).In h₀) (F : Fr h₀ L s.heap m) (h0 : 0 ≤ i) (h1 : i < 7) (h : ∀ t, Q (.str (T i.toNat) t) s)
    (hs : subscripted slice false (.ref 242) (.int i u) = operate [.ref 242, .int i u] (getItem (.ref 242) (.int i u))) : wpAny (model prog w) A (subscriptTail value slice (.ref 242) (.int i u)) Q E s := by
  have ht : IsTup s.heap 242 #[.str (T 0) 489, .str (T 1) 490, .str (T 2) 491, .str (T 3) 492, .str (T 4) 493, .str (T 5) 494, .str (T 6) 495] := ⟨_, F.keep _ _ (X _ _ (texts_obj _)), rfl, _, rfl⟩
  obtain ⟨k, rfl⟩ : ∃ k : Nat, i = k := ⟨i.toNat, (Int.toNat_of_nonneg h0).symm⟩
  have hk : k < 7 := Int.ofNat_lt.mp h1
  rcases k with _ | _ | _ | _ | _ | _ | _ | k
  case succ.succ.succ.succ.succ.succ.succ => exact absurd (Nat.le_trans (Nat.le_add_left 8 k) hk) (by decide)
  all_goals exact tail_any ht.typeIs slot_tuple_getitem.lookup (PyProof.Rows.getItem_tuple ht (by decide) (by decide) rfl rfl (h _)) hs
example : True := by
  k_with "K subscriptTail Name Call ref int" => (((k_here; k_dflt (refine' item_texts ?K9k1 ?K9k2 ?K9k3 ?K9k4 ?_ ?K9k5; (case K9k1 => k_asm); (case K9k2 => k_asm); (case K9k3 => assumption); (case K9k4 => assumption); (case K9k5 => with_unfolding_all rfl)); intro _); (try dsimp only)))
  trivial
/-- a Glyph made: its parts as told -/
inductive GlNew (s : Str) (t : Tok) (x y wd sz : Addr) (tl : List (Addr × Obj)) (a : Addr) : Prop
  | mk (d : Addr) (k1 k2 k3 k4 k5 : Int) (t1 t2 t3 t4 t5 : Tok) (n : Nat) : (a, instObj 206 d) ∈ tl → (d, dictOf [⟨k1, .str (Str.ofString "text") t1, .str s t⟩, ⟨k2, .str (Str.ofString "x") t2, .ref x⟩, ⟨k3, .str (Str.ofString "y") t3, .ref y⟩, ⟨k4, .str (Str.ofString "width") t4, .ref wd⟩, ⟨k5, .str (Str.ofString "size") t5, .ref sz⟩] n) ∈ tl → GlNew s t x y wd sz tl a
theorem two_fin {Q : Value → Shared → Prop} {s : Shared} {h₀ h' : Heap} {L : Addr} {m : Str → Option Value} {news : List (Addr × Obj)} {P : List (Addr × Obj) → Addr → Prop} {x d : Addr} {o o2 : Obj} {tk' : Nat}
    (ret : ∀ x tl h' tk', Fr h₀ L h' m → News h₀ L h' (tl ++ news) → P tl x → (∀ p ∈ tl, ∀ q ∈ news, q.1 < p.1) → Q (.ref x) { s with heap := h', toks := tk' }) (F : Fr h₀ L h' m)
    (N : News h₀ L h' ((x, o) :: (d, o2) :: news)) (l1 : ∀ p ∈ news, p.1 < d) (l2 : @LT.lt Nat _ d x) (hP : P [(x, o), (d, o2)] x) : Q (.ref x) { s with heap := h', toks := tk' } := by
  refine ret x [(x, o), (d, o2)] _ _ F N hP ?_
  intro p hp q hq
  rcases List.mem_cons.mp hp with rfl | hp
  · exact Nat.lt_trans (l1 q hq) l2
  · obtain rfl := List.mem_singleton.mp hp
    exact l1 q hq
theorem glyph_ok (w : World) (z : Str) (t : Tok) (x y wd sz : Addr) (news : List (Addr × Obj)) : DoesN w 3 206 [.str z t, .ref x, .ref y, .ref wd, .ref sz] news (GlNew z t x y wd sz) := by
  unfold DoesN
  intro d f g u h₀ L m s Q E hA hd hu F N ret
  obtain ⟨sh, sg, sd, stk, so⟩ := s
  dsimp only at F N ret
  cases hA with | mk A₀ base env outer mean mg mb B X T hA hf hk =>
  revert X
  k_fill
  intro X
  k_dflt (refine' call_cls ?k1 ?k2 ?k3 ?k4 ?k5 ?k6 ?_; (case k1 => k_asm); (case k2 => k_asm); (case k3 => k_asm); (case k4 => k_is); (case k5 => k_is); (case k6 => k_is); k_whole; intro x9 d9 h9 F9 N9 l1 l2; (try k_lt2 l2); (k_extra "enter"))
  k_steps
  refine' two_fin (s := ⟨sh, sg, sd, stk, so⟩) ret ?zF ?zN l1 l2 (.mk _ _ _ _ _ _ _ _ _ _ _ _ (.head _) (.tail _ (.head _)))
  (case zF => k_asm)
  (case zN => k_asm)
example : True := by
  k_with "K call ref" => ((k_here; (with_reducible show wpAny _ _ (call (Value.ref 206) _) _ _ _); k_dflt (refine' DoesN.use (glyph_ok _ _ _ _ _ _ _ _) ?K9k1 ?K9k2 ?K9k3 ?K9k4 ?K9k5 ?K9kA ?K9kF ?K9kK ?K9kd ?K9ku ?_; (case K9k1 => k_asm); (case K9k2 => k_asm); (case K9k3 => k_asm); (case K9k4 => k_asm); (case K9k5 => k_asm); (case K9kA => (k_extra "unf")); (case K9kF => first | assumption | exact rfl); (case K9kK => first | assumption | exact rfl); (case K9kd => (k_extra "room")); (case K9ku => (k_extra "units"))); intro _ _ _ _ _ _ _ _))
  trivial
theorem draw_at {w : World} {tp c : Addr} {cvs : List Value} {cs : List Int} {nt nc : Nat} {lim k : Int} {tk : Tok} {news : List (Addr × Obj)} {news' : Tok → List (Addr × Obj)} {d : Nat} {fr : Option (List Env)} {g : Option (List Code)} {u : Nat} {h₀ : Heap} {L : Addr} {m : Str → Option Value} {s : Shared} {Q E : Value → Shared → Prop} {tl : Tok}
    {A₀ : Around} {base : Heap} {env : Env} {outer : List Env} {mean : ExcName → Option Value} {mg mb : Str → Option Value}
    (B : Below A₀ base outer h₀) (X : (hd.heap_39 w.params).In h₀) (T : Top view (looseW view [Str.ofString "PaperError"]) mean mg mb h₀) (F : Fr h₀ L s.heap m) (N : News h₀ L s.heap news)
    (U : ∀ tk2, Upd tp (listOf [.ref c, .int k tk].toArray nt) (listOf [.ref c, .int (k + 1) tk2].toArray nt) news (news' tk2)) (hc : (c, listOf cvs.toArray nc) ∈ news) (hct : c ≠ tp) (hi : IntsAre cvs cs) (hne : cvs.length ≠ 0) (hlen : cvs.length ≤ 40)
    (hk0 : 0 ≤ k) (hk1 : k ≤ 100) (hl0 : 1 ≤ lim) (hl1 : lim ≤ 10) (hA : fr = some (env :: outer)) (hf : env.frame = some L) (hk : env.scope.kind = .function) (hd : d + 2 < recursionLimit) (hu : u + 20 < cLine)
    (ret : ∀ r t tk2 h' tk', 0 ≤ r → r < lim → Fr h₀ L h' m → News h₀ L h' (news' tk2) → Q (.int r t) { s with heap := h', toks := tk' }) :
    wpAny (model PySem.Challenge.rw_og0151_01.row.prog w) (arT d fr g u) (call (.ref 249) [.ref tp, .int lim tl]) Q E s := by
  obtain ⟨pre, post, e1, _, a, b⟩ := (U 0).split
  have hoff : ∀ p ∈ pre ++ post, p.1 ≠ tp := fun p hp => (List.mem_append.mp hp).elim (a p) (b p)
  have hc2 : (c, listOf cvs.toArray nc) ∈ pre ++ post := by
    rw [e1] at hc
    rcases List.mem_append.mp hc with h | h
    · exact List.mem_append_left _ h
    · rcases List.mem_cons.mp h with h | h
      · exact absurd (congrArg Prod.fst h) hct
      · exact List.mem_append_right _ h
  refine draw_ok w tp c cvs cs nt nc lim k (pre ++ post) hc2 hi hne hlen hk0 hk1 hl0 hl1 hoff d fr g u h₀ L m s Q E tk tl ⟨_, _, _, _, _, _, _, B, X, T, hA, hf, hk⟩ hd hu F (news_perm N ?_) ?_
  · intro p hp
    rw [e1]
    rcases List.mem_cons.mp hp with rfl | hp
    · exact List.mem_append_right _ (.head _)
    · rcases List.mem_append.mp hp with h | h
      · exact List.mem_append_left _ h
      · exact List.mem_append_right _ (.tail _ h)
  · intro r t tk2 h' tk' r0 r1 F' N'
    refine ret r t tk2 h' tk' r0 r1 F' (news_perm N' ?_)
    obtain ⟨pre', post', e1', e2', a', b'⟩ := (U tk2).split
    have back : ∀ p ∈ news, p.1 ≠ tp → p ∈ pre ++ post := by
      intro p hp hne
      rw [e1] at hp
      rcases List.mem_append.mp hp with h | h
      · exact List.mem_append_left _ h
      · rcases List.mem_cons.mp h with rfl | h
        · exact absurd rfl hne
        · exact List.mem_append_right _ h
    intro p hp
    rw [e2'] at hp
    rcases List.mem_append.mp hp with h | h
    · exact .tail _ (back p (by rw [e1']; exact List.mem_append_left _ h) (a' p h))
    · rcases List.mem_cons.mp h with rfl | h
      · exact .head _
      · exact .tail _ (back p (by rw [e1']; exact List.mem_append_right _ (.tail _ h)) (b' p h))
example : True := by
  k_with "unf" => (first | assumption | exact Around.frames_deeper (by assumption) | exact Around.frames_deeper (Around.frames_deeper (by assumption)) | exact rfl)
  trivial
example : True := by
  k_with "K call ref" => (((k_here; (with_reducible show wpAny _ _ (call (Value.ref 249) _) _ _ _); k_dflt (refine' draw_at ?K9k1 ?K9k2 ?K9k3 ?K9k4 ?K9k5 ?K9kU ?K9kc ?K9kt ?K9ki ?K9kn ?K9kl ?K9h1 ?K9h2 ?K9h3 ?K9h4 ?K9kA ?K9kF ?K9kK ?K9kd ?K9ku ?_; (case K9k1 => k_asm); (case K9k2 => k_asm); (case K9k3 => k_asm); (case K9k4 => k_asm); (case K9k5 => k_asm); (case K9kU => intro _; k_upd); (case K9kc => k_mem); (case K9kt => k_ne); (case K9ki => assumption); (case K9kn => assumption); (case K9kl => assumption); (case K9h1 => omega); (case K9h2 => omega); (case K9h3 => omega); (case K9h4 => omega); (case K9kA => (k_extra "unf")); (case K9kF => first | assumption | exact rfl); (case K9kK => first | assumption | exact rfl); (case K9kd => (k_extra "room")); (case K9ku => (k_extra "units"))); intro _ _ _ _ _ _ _ _ _); (try dsimp only)))
  trivial

theorem partP18 : True := by
  w_top off
  trivial
noncomputable def glStep (s : Int × List Gl) (g : Wg) : Int × List Gl := (s.1 + (if g.b = true then 9 else 1) + 4, s.2 ++ [⟨g.k, s.1 + (if g.b = true then 9 else 1)⟩])
noncomputable def glSt (R : List Wg) : Int × List Gl := R.foldl glStep (0, [])
theorem glSt_snoc (R : List Wg) (g : Wg) : glSt (R ++ [g]) = glStep (glSt R) g := by
  unfold glSt
  rw [List.foldl_append]
  rfl
theorem glSt_fit (R : List Wg) (h : ∀ g ∈ R, g.k < 7) : (glSt R).2.length = R.length ∧ 0 ≤ (glSt R).1 ∧ (glSt R).1 ≤ 13 * R.length ∧ ∀ g ∈ (glSt R).2, g.k < 7 ∧ 0 ≤ g.at_ ∧ g.at_ ≤ 13 * R.length := by
  rcases List.eq_nil_or_concat R with rfl | ⟨R, g, rfl⟩
  · exact ⟨rfl, Int.le_refl _, Int.le_refl _, fun _ hg => nomatch hg⟩
  rw [List.concat_eq_append] at *
  obtain ⟨h1, h2, h3, h4⟩ := glSt_fit R fun g hg => h g (List.mem_append_left _ hg)
  rw [glSt_snoc]
  have e : (R ++ [g]).length = R.length + 1 := by simp
  have hx : (if g.b = true then (9 : Int) else 1) ≤ 9 ∧ 1 ≤ (if g.b = true then (9 : Int) else 1) := by split <;> omega
  unfold glStep
  refine ⟨by rw [List.length_append, h1, e]; rfl, by dsimp only; omega, by dsimp only; rw [e]; push_cast; omega, ?_⟩
  intro q hq
  rw [e]
  rcases List.mem_append.mp hq with hq | hq
  · have := h4 q hq
    refine ⟨this.1, this.2.1, ?_⟩
    have := this.2.2
    push_cast
    omega
  · obtain rfl := List.mem_singleton.mp hq
    refine ⟨h g (List.mem_append_right _ (.head _)), ?_, ?_⟩
    · dsimp only; omega
    · dsimp only; push_cast; omega
termination_by R.length
decreasing_by
  simp_wf
  rename _ = List.concat _ _ => hE
  rw [hE, List.length_concat]
  exact Nat.lt_succ_self _
theorem gl_rowfit {R : List Wg} (h : WFit R) : RowFit (glSt R).2 := by
  obtain ⟨h1, h2, h3, h4⟩ := glSt_fit R h.2
  have h5 := h.1.2
  refine ⟨⟨fun e => h.1.1 (List.length_eq_zero_iff.mp (by rw [← h1, e]; rfl)), by omega⟩, fun g hg => ?_⟩
  obtain ⟨a, b, c⟩ := h4 g hg
  exact ⟨a, b, by omega⟩
/-- the first list is laid -/
inductive LawMid0 (La Lb : Addr) (oa ob : Obj) (h₀ : Heap) (L : Addr) (s₁ : Shared) (f : Flow) (s' : Shared) : Prop
  | mk (h : Heap) (tk : Nat) (m : Str → Option Value) (tp c : Addr) (cvs : List Value) (cs : List Int) (nt nc t : Nat) (hf : f = .next) (hs : s' = { s₁ with heap := h, toks := tk }) (F : Fr h₀ L h m)
      (N : News h₀ L h ((tp, listOf [.ref c, .int 0 t].toArray nt) :: (c, listOf cvs.toArray nc) :: (La, oa) :: (Lb, ob) :: [])) (hi : IntsAre cvs cs) (hne : cvs.length ≠ 0) (hlen : cvs.length ≤ 40) (hm : m (Str.ofString "tape") = some (.ref tp))
      (h1 : @LT.lt Nat _ c tp) (h2 : @LT.lt Nat _ La c) (h3 : @LT.lt Nat _ Lb c) : LawMid0 La Lb oa ob h₀ L s₁ f s'
inductive BInJ (tp c ra la ro mo : Addr) (kv : Int) (k0 : Int) (news : List (Addr × Obj)) (i : Nat) (m : Str → Option Value) : List (Addr × Obj) → Prop
  | mk (kk x : Int) (tk tx1 tkv nt nr nm : Nat) (tvs gvs : List Value) (R : List Wg) (nw : List (Addr × Obj)) (hR : R.length = i) (hfit : ∀ g ∈ R, g.k < 7) (hk0 : 0 ≤ kk) (hk1 : kk ≤ k0 + 2 * i) (hx : x = (glSt R).1)
      (h1 : ∀ p ∈ [(Str.ofString "tape", Value.ref tp), (Str.ofString "rows", Value.ref ra), (Str.ofString "laid", Value.ref la), (Str.ofString "k", Value.int kv tkv), (Str.ofString "row", Value.ref ro), (Str.ofString "made", Value.ref mo), (Str.ofString "x", Value.int x tx1)], m p.1 = some p.2)
      (hT : Are (TxIn nw) tvs R) (hG : Are (GlIn nw) gvs (glSt R).2) (h5 : ∀ p ∈ nw, ∀ a ∈ [tp, ro, mo], p.1 ≠ a) (h6 : ∀ p ∈ nw, ∀ q ∈ news, q.1 < p.1) :
      BInJ tp c ra la ro mo kv k0 news i m ([(tp, listOf [.ref c, .int kk tk].toArray nt), (ro, listOf tvs.toArray nr), (mo, listOf gvs.toArray nm)] ++ (nw ++ news))
inductive BOutJ (tp c ra la : Addr) (news : List (Addr × Obj)) (i : Nat) (m : Str → Option Value) : List (Addr × Obj) → Prop
  | mk (kk : Int) (tk nt nr nl : Nat) (rvs lvs : List Value) (WS : List (List Wg)) (nw : List (Addr × Obj)) (hW : WS.length = i) (hfit : ∀ R ∈ WS, WFit R) (hk0 : 0 ≤ kk) (hk1 : kk ≤ 1 + 9 * i)
      (h1 : ∀ p ∈ [(Str.ofString "tape", Value.ref tp), (Str.ofString "rows", Value.ref ra), (Str.ofString "laid", Value.ref la)], m p.1 = some p.2)
      (hT : Are (TrIn nw) rvs WS) (hG : Are (RowIn nw) lvs (WS.map fun R => (glSt R).2)) (h5 : ∀ p ∈ nw, ∀ a ∈ [tp, ra, la], p.1 ≠ a) (h6 : ∀ p ∈ nw, ∀ q ∈ news, q.1 < p.1) :
      BOutJ tp c ra la news i m ([(tp, listOf [.ref c, .int kk tk].toArray nt), (ra, listOf rvs.toArray nr), (la, listOf lvs.toArray nl)] ++ (nw ++ news))
theorem mid0_of {La Lb : Addr} {oa ob : Obj} {h₀ : Heap} {L : Addr} {s₁ : Shared} {h : Heap} {tk : Nat} {m : Str → Option Value} {tp c : Addr} {cvs : List Value} {cs : List Int} {nt nc t : Nat} {drop : List (Addr × Obj)} (F : Fr h₀ L h m)
    (N : News h₀ L h ((tp, listOf [.ref c, .int 0 t].toArray nt) :: (c, listOf cvs.toArray nc) :: (drop ++ [(La, oa), (Lb, ob)]))) (hi : IntsAre cvs cs) (hne : cvs.length ≠ 0) (hlen : cvs.length ≤ 40) (hm : m (Str.ofString "tape") = some (.ref tp))
    (h1 : @LT.lt Nat _ c tp) (h2 : @LT.lt Nat _ La c) (h3 : @LT.lt Nat _ Lb c) : LawMid0 La Lb oa ob h₀ L s₁ .next { s₁ with heap := h, toks := tk } := by
  refine .mk h tk m tp c cvs cs nt nc t rfl rfl F (news_perm N ?_) hi hne hlen hm h1 h2 h3
  intro p hp
  rcases List.mem_cons.mp hp with rfl | hp
  · exact .head _
  rcases List.mem_cons.mp hp with rfl | hp
  · exact .tail _ (.head _)
  · exact .tail _ (.tail _ (List.mem_append_right _ hp))
theorem range_nat {h : Heap} {r : Addr} {b : Int} {t u v : Tok} (_ : IsRange h r 0 b 1 t u v) (h0 : 0 ≤ b) : ∃ n : Nat, b = (n : Int) := ⟨b.toNat, by omega⟩
theorem head_at2 {h₀ h : Heap} {L a : Addr} {o : Obj} {q : Addr × Obj} {r : List (Addr × Obj)} (_ : News h₀ L h (q :: (a, o) :: r)) : ∃ x, x = a := ⟨a, rfl⟩
theorem perm3 {h₀ h : Heap} {L : Addr} {a b d : Addr × Obj} {r : List (Addr × Obj)} (N : News h₀ L h (a :: b :: d :: r)) : News h₀ L h ([d, b, a] ++ ([] ++ r)) := by
  refine news_perm N ?_
  intro p hp
  rcases List.mem_cons.mp hp with rfl | hp
  · exact .tail _ (.tail _ (.head _))
  rcases List.mem_cons.mp hp with rfl | hp
  · exact .tail _ (.head _)
  rcases List.mem_cons.mp hp with rfl | hp
  · exact .head _
  · exact .tail _ (.tail _ (.tail _ hp))
theorem Upd.app {d : Addr} {o o' : Obj} {tl r r' : List (Addr × Obj)} (l9 : ∀ p ∈ tl, ∀ q ∈ r, q.1 < p.1) (U : Upd d o o' r r') : Upd d o o' (tl ++ r) (tl ++ r') := by
  obtain ⟨pre, post, e1, _, _, _⟩ := U.split
  have hd : (d, o) ∈ r := by rw [e1]; exact List.mem_append_right _ (.head _)
  have hne : ∀ p ∈ tl, p.1 ≠ d := fun p hp => Nat.ne_of_gt (l9 p hp _ hd)
  clear l9
  induction tl with
  | nil => exact U
  | cons p tl ih => exact .tail (hne p (.head _)) (ih fun q hq => hne q (.tail _ hq))
theorem Upd.app2 {d : Addr} {o o' : Obj} {tl r r' : List (Addr × Obj)} (hne : ∀ p ∈ tl, p.1 ≠ d) (U : Upd d o o' r r') : Upd d o o' (tl ++ r) (tl ++ r') := by
  induction tl with
  | nil => exact U
  | cons p tl ih => exact .tail (hne p (.head _)) (ih fun q hq => hne q (.tail _ hq))
example : True := by
  k_with "upd" => (first | ((with_reducible refine' Upd.app ?K9l ?K9u); (case K9l => assumption); (case K9u => k_upd)) | ((with_reducible refine' Upd.app2 ?K9l ?K9u); (case K9l => assumption); (case K9u => k_upd)))
  trivial
theorem Ok.grow9 {fx : List Addr} {nw news own tl r : List (Addr × Obj)} (o : Ok fx nw news own) (l9 : ∀ p ∈ tl, ∀ q ∈ r, q.1 < p.1) (hf : ∀ a ∈ fx, ∃ o, (a, o) ∈ r) (hs : ∀ q ∈ nw ++ news ++ own, q ∈ r) : Ok fx (tl ++ nw) news own := by
  refine o.grow ?_ fun p hp q hq => l9 p hp q (hs q hq)
  intro p hp a ha
  obtain ⟨o', ho⟩ := hf a ha
  exact l9 p hp _ ho
theorem GlNew.gl {k : Nat} {t : Tok} {x y wd sz a : Addr} {i py : Int} {tl nw : List (Addr × Obj)} (h : GlNew (T k) t x y wd sz tl a) (hs : ∀ p ∈ tl, p ∈ nw) (hx : DecIn nw x i) (hy : DecIn nw y py) (hw : DecIn nw wd 4) (hz : DecIn nw sz 10) : GlIn nw (.ref a) ⟨k, i⟩ := by
  cases h with | mk d k1 k2 k3 k4 k5 t1 t2 t3 t4 t5 n h1 h2 => exact .mk a d x y wd sz k1 k2 k3 k4 k5 t t1 t2 t3 t4 t5 n py k i (hs _ h1) (hs _ h2) hx hy hw hz
theorem all3 {a b c : Addr} {P : Addr → Prop} (h1 : P a) (h2 : P b) (h3 : P c) : ∀ x ∈ [a, b, c], P x := by
  intro x hx
  simp only [List.mem_cons, List.not_mem_nil, or_false] at hx
  rcases hx with rfl | rfl | rfl
  · exact h1
  · exact h2
  · exact h3
theorem ite_ints {M : Model} {A : Around} {E : Value → Shared → Prop} {s : Shared} {env : Env} {a b : Int} {k k' : Nat} {p p' : Pos} {Q : Value → Shared → Prop} {c : Bool} (h : Q (.int (if c = true then a else b) s.toks) { s with toks := s.toks + 1 }) :
    (if c = true then wpAny M A (eval (.Constant (.int a) k p) env) Q E s else wpAny M A (eval (.Constant (.int b) k' p') env) Q E s) := by
  cases c <;> exact wpAny_Constant_int h
example : True := by
  k_with "K ite" => (((with_reducible refine ite_ints ?_); (try dsimp only)))
  trivial
theorem mem_mid {A a b d : List (Addr × Obj)} {p : Addr × Obj} (h : p ∈ A ++ b) : p ∈ A ++ (a ++ b) := by
  rcases List.mem_append.mp h with h | h
  · exact List.mem_append_left _ h
  · exact List.mem_append_right _ (List.mem_append_right _ h)
theorem AllLt.of {X : Addr} {l : List (Addr × Obj)} (h : AllLt X l) : ∀ p ∈ l, p.1 < X := tb_ltOf h
theorem TrIn.mono {tl tl' : List (Addr × Obj)} (hs : ∀ p ∈ tl, p ∈ tl') {v : Value} {g : List Wg} (h : TrIn tl v g) : TrIn tl' v g := by
  cases h with | mk a tvs n _ hm hA => exact .mk a tvs n _ (hs _ hm) (hA.mono fun _ _ h => h.mono hs)
theorem RowIn.mono {tl tl' : List (Addr × Obj)} (hs : ∀ p ∈ tl, p ∈ tl') {v : Value} {g : List Gl} (h : RowIn tl v g) : RowIn tl' v g := by
  cases h with | mk a tvs n _ hm hA => exact .mk a tvs n _ (hs _ hm) (hA.mono fun _ _ h => h.mono hs)
theorem bin_turn {h₀ h' : Heap} {L : Addr} {m' : Str → Option Value} {tp c ra la ro mo D ga gx gy gw gz : Addr} {kv k0 kk x1 py : Int} {a1 a2 a3 a4 a5 nw news own : List (Addr × Obj)} {i k t tb n nt nr nm tk tx tkv : Nat} {b : Bool} {o1 o2 o3 : Obj} {tvs gvs : List Value} {R : List Wg} {s₁ : Shared} {tk' : Nat}
    (F : Fr h₀ L h' m') (N : News h₀ L h' (a1 ++ (a2 ++ (a3 ++ (a4 ++ (a5 ++ (D, tupO [Value.str (T k) tb, Value.bool b] n) :: (tp, listOf [Value.ref c, Value.int kk tk].toArray nt) :: (ro, listOf (tvs ++ [Value.ref D]).toArray nr) :: (mo, listOf (gvs ++ [Value.ref ga]).toArray nm) :: (nw ++ news ++ own)))))))
    (ok : Ok [tp, ro, mo] nw news own) (lD : @LT.lt Nat _ tp D ∧ @LT.lt Nat _ ro D ∧ @LT.lt Nat _ mo D ∧ AllLt D (nw ++ news ++ own))
    (l5 : ∀ p ∈ a5, ∀ q ∈ (D, tupO [Value.str (T k) tb, Value.bool b] n) :: (tp, o1) :: (ro, o2) :: (mo, o3) :: (nw ++ news ++ own), q.1 < p.1)
    (l4 : ∀ p ∈ a4, ∀ q ∈ a5 ++ (D, tupO [Value.str (T k) tb, Value.bool b] n) :: (tp, o1) :: (ro, o2) :: (mo, o3) :: (nw ++ news ++ own), q.1 < p.1)
    (l3 : ∀ p ∈ a3, ∀ q ∈ a4 ++ (a5 ++ (D, tupO [Value.str (T k) tb, Value.bool b] n) :: (tp, o1) :: (ro, o2) :: (mo, o3) :: (nw ++ news ++ own)), q.1 < p.1)
    (l2 : ∀ p ∈ a2, ∀ q ∈ a3 ++ (a4 ++ (a5 ++ (D, tupO [Value.str (T k) tb, Value.bool b] n) :: (tp, o1) :: (ro, o2) :: (mo, o3) :: (nw ++ news ++ own))), q.1 < p.1)
    (l1 : ∀ p ∈ a1, ∀ q ∈ a2 ++ (a3 ++ (a4 ++ (a5 ++ (D, tupO [Value.str (T k) tb, Value.bool b] n) :: (tp, o1) :: (ro, o2) :: (mo, o3) :: (nw ++ news ++ own)))), q.1 < p.1)
    (hR : R.length = i) (hfit : ∀ g ∈ R, g.k < 7) (hk : k < 7) (hk0 : 0 ≤ kk) (hk1 : kk ≤ k0 + 2 * ((i + 1 : Nat) : Int)) (hx1 : x1 = (glSt R).1 + if b = true then 9 else 1) (hT : Are (TxIn nw) tvs R) (hG : Are (GlIn nw) gvs (glSt R).2)
    (g : GlNew (T k) t gx gy gw gz a1 ga) (d1 : DecIn a5 gx x1) (d2 : DecIn a4 gy py) (d3 : DecIn a3 gw 4) (d4 : DecIn a2 gz 10)
    (m1 : m' (Str.ofString "tape") = some (.ref tp)) (m2 : m' (Str.ofString "rows") = some (.ref ra)) (m3 : m' (Str.ofString "laid") = some (.ref la)) (m4 : m' (Str.ofString "k") = some (.int kv tkv)) (m5 : m' (Str.ofString "row") = some (.ref ro)) (m6 : m' (Str.ofString "made") = some (.ref mo)) (m7 : m' (Str.ofString "x") = some (.int (x1 + 4) tx)) :
    InvEndG h₀ L (fun m' nx => (∀ p ∈ ([] : List (Addr × Obj)), p ∈ nx) ∧ BInJ tp c ra la ro mo kv k0 news (i + 1) m' nx) own s₁ { s₁ with heap := h', toks := tk' } := by
  have ok1 : Ok [tp, ro, mo] ((D, tupO [Value.str (T k) tb, Value.bool b] n) :: nw) news own := ok.grow1 (all3 lD.1 lD.2.1 lD.2.2.1) lD.2.2.2
  have up : ∀ {nw' r : List (Addr × Obj)}, (∀ q ∈ nw' ++ news ++ own, q ∈ r) → ∀ {a : List (Addr × Obj)}, ∀ q ∈ (a ++ nw') ++ news ++ own, q ∈ a ++ r := by
    intro nw' r h a q hq
    rw [List.append_assoc, List.append_assoc] at hq
    rcases List.mem_append.mp hq with hq | hq
    · exact List.mem_append_left _ hq
    · exact List.mem_append_right _ (h q (by rw [List.append_assoc]; exact hq))
  have s0 : ∀ q ∈ (D, tupO [Value.str (T k) tb, Value.bool b] n) :: nw ++ news ++ own, q ∈ (D, tupO [Value.str (T k) tb, Value.bool b] n) :: (tp, o1) :: (ro, o2) :: (mo, o3) :: (nw ++ news ++ own) := by
    intro q hq
    simp only [List.cons_append] at hq
    rcases List.mem_cons.mp hq with rfl | hq
    · exact .head _
    · exact .tail _ (.tail _ (.tail _ (.tail _ hq)))
  have f0 : ∀ a ∈ [tp, ro, mo], ∃ o, (a, o) ∈ (D, tupO [Value.str (T k) tb, Value.bool b] n) :: (tp, o1) :: (ro, o2) :: (mo, o3) :: (nw ++ news ++ own) :=
    all3 (P := fun a => ∃ o, (a, o) ∈ (D, tupO [Value.str (T k) tb, Value.bool b] n) :: (tp, o1) :: (ro, o2) :: (mo, o3) :: (nw ++ news ++ own)) ⟨o1, .tail _ (.head _)⟩ ⟨o2, .tail _ (.tail _ (.head _))⟩ ⟨o3, .tail _ (.tail _ (.tail _ (.head _)))⟩
  have fup : ∀ {r a : List (Addr × Obj)}, (∀ x ∈ [tp, ro, mo], ∃ o, (x, o) ∈ r) → ∀ x ∈ [tp, ro, mo], ∃ o, (x, o) ∈ a ++ r := fun h x hx => (h x hx).elim fun o ho => ⟨o, List.mem_append_right _ ho⟩
  have ok5 := ok1.grow9 l5 f0 s0
  have ok4 := ok5.grow9 l4 (fup f0) (up s0)
  have ok3 := ok4.grow9 l3 (fup (fup f0)) (up (up s0))
  have ok2 := ok3.grow9 l2 (fup (fup (fup f0))) (up (up (up s0)))
  have okA := ok2.grow9 l1 (fup (fup (fup (fup f0)))) (up (up (up (up s0))))
  have sub5 : ∀ p ∈ a5, p ∈ a1 ++ (a2 ++ (a3 ++ (a4 ++ (a5 ++ (D, tupO [Value.str (T k) tb, Value.bool b] n) :: nw)))) := fun p hp => List.mem_append_right _ (List.mem_append_right _ (List.mem_append_right _ (List.mem_append_right _ (List.mem_append_left _ hp))))
  have sub4 : ∀ p ∈ a4, p ∈ a1 ++ (a2 ++ (a3 ++ (a4 ++ (a5 ++ (D, tupO [Value.str (T k) tb, Value.bool b] n) :: nw)))) := fun p hp => List.mem_append_right _ (List.mem_append_right _ (List.mem_append_right _ (List.mem_append_left _ hp)))
  have sub3 : ∀ p ∈ a3, p ∈ a1 ++ (a2 ++ (a3 ++ (a4 ++ (a5 ++ (D, tupO [Value.str (T k) tb, Value.bool b] n) :: nw)))) := fun p hp => List.mem_append_right _ (List.mem_append_right _ (List.mem_append_left _ hp))
  have sub2 : ∀ p ∈ a2, p ∈ a1 ++ (a2 ++ (a3 ++ (a4 ++ (a5 ++ (D, tupO [Value.str (T k) tb, Value.bool b] n) :: nw)))) := fun p hp => List.mem_append_right _ (List.mem_append_left _ hp)
  have sub1 : ∀ p ∈ a1, p ∈ a1 ++ (a2 ++ (a3 ++ (a4 ++ (a5 ++ (D, tupO [Value.str (T k) tb, Value.bool b] n) :: nw)))) := fun p hp => List.mem_append_left _ hp
  have subn : ∀ p ∈ (D, tupO [Value.str (T k) tb, Value.bool b] n) :: nw, p ∈ a1 ++ (a2 ++ (a3 ++ (a4 ++ (a5 ++ (D, tupO [Value.str (T k) tb, Value.bool b] n) :: nw)))) := fun p hp => List.mem_append_right _ (List.mem_append_right _ (List.mem_append_right _ (List.mem_append_right _ (List.mem_append_right _ hp))))
  generalize hnw : a1 ++ (a2 ++ (a3 ++ (a4 ++ (a5 ++ (D, tupO [Value.str (T k) tb, Value.bool b] n) :: nw)))) = nw' at *
  have hled : ∀ p ∈ [(tp, listOf [Value.ref c, Value.int kk tk].toArray nt), (ro, listOf (tvs ++ [Value.ref D]).toArray nr), (mo, listOf (gvs ++ [Value.ref ga]).toArray nm)] ++ (nw' ++ news ++ own), p ∈ (a1 ++ (a2 ++ (a3 ++ (a4 ++ (a5 ++ (D, tupO [Value.str (T k) tb, Value.bool b] n) :: (tp, listOf [Value.ref c, Value.int kk tk].toArray nt) :: (ro, listOf (tvs ++ [Value.ref D]).toArray nr) :: (mo, listOf (gvs ++ [Value.ref ga]).toArray nm) :: (nw ++ news ++ own)))))) := by
    intro p hp
    have r5 : ∀ {q : Addr × Obj} {r : List (Addr × Obj)}, q ∈ r → q ∈ a1 ++ (a2 ++ (a3 ++ (a4 ++ (a5 ++ r)))) := fun hq => List.mem_append_right _ (List.mem_append_right _ (List.mem_append_right _ (List.mem_append_right _ (List.mem_append_right _ hq))))
    rcases List.mem_append.mp hp with hp | hp
    · exact r5 (.tail _ (List.mem_append_left (nw ++ news ++ own) hp))
    · rcases List.mem_append.mp hp with hp | hp
      · rcases List.mem_append.mp hp with hp | hp
        · rw [← hnw] at hp
          exact in_app (in_app (in_app (in_app (in_app (in_cons fun q hq => .tail _ (.tail _ (.tail _ (List.mem_append_left _ (List.mem_append_left _ hq)))))))))  p hp
        · exact r5 (.tail _ (.tail _ (.tail _ (.tail _ (List.mem_append_left _ (List.mem_append_right _ hp))))))
      · exact r5 (.tail _ (.tail _ (.tail _ (.tail _ (List.mem_append_right _ hp)))))
  refine inv_end [(tp, listOf [Value.ref c, Value.int kk tk].toArray nt), (ro, listOf (tvs ++ [Value.ref D]).toArray nr), (mo, listOf (gvs ++ [Value.ref ga]).toArray nm)] F (news_perm N hled) (fun p hp => hp) okA ⟨fun _ hp => (nomatch hp), ?_⟩
  have eR : (glSt (R ++ [⟨k, b⟩])) = ((glSt R).1 + (if b = true then 9 else 1) + 4, (glSt R).2 ++ [⟨k, (glSt R).1 + (if b = true then 9 else 1)⟩]) := by rw [glSt_snoc]; rfl
  refine .mk (R := R ++ [⟨k, b⟩]) kk (x1 + 4) tk tx tkv nt nr nm (tvs ++ [Value.ref D]) (gvs ++ [Value.ref ga]) nw' (by simp [hR]) ?_ hk0 hk1 (by rw [eR, hx1]) ?_ ?_ ?_ ?_ okA.new
  · intro q hq
    rcases List.mem_append.mp hq with hq | hq
    · exact hfit q hq
    · rw [List.mem_singleton.mp hq]; exact hk
  · exact mp_cons m1 (mp_cons m2 (mp_cons m3 (mp_cons m4 (mp_cons m5 (mp_cons m6 (mp_cons m7 mp_nil))))))
  · exact (hT.mono fun _ _ h => h.mono fun p hp => subn p (.tail _ hp)).append (.one (.mk D tb n k b (subn _ (.head _))))
  · rw [eR, ← hx1]
    refine (hG.mono fun _ _ h => h.mono fun p hp => subn p (.tail _ hp)).append (.one ?_)
    exact g.gl sub1 (d1.mono sub5) (d2.mono sub4) (d3.mono sub3) (d4.mono sub2)
  · intro p hp a ha
    exact okA.off p (List.mem_append_left _ (List.mem_append_left _ hp)) a ha
theorem bout_turn {h₀ h' : Heap} {L : Addr} {m' : Str → Option Value} {tp c ra la ro mo : Addr} {kk : Int} {nw2 nw news own : List (Addr × Obj)} {i nt nr nl nt2 nm2 tk : Nat} {tvs gvs rvs lvs : List Value} {o1 o2 : Obj} {R : List Wg} {WS : List (List Wg)} {s₁ : Shared} {tk' : Nat}
    (F : Fr h₀ L h' m') (N : News h₀ L h' ((tp, listOf [Value.ref c, Value.int kk tk].toArray nt) :: (ro, listOf tvs.toArray nt2) :: (mo, listOf gvs.toArray nm2) :: (nw2 ++ (ra, listOf (rvs ++ [Value.ref ro]).toArray nr) :: (la, listOf (lvs ++ [Value.ref mo]).toArray nl) :: (nw ++ news ++ own))))
    (ok : Ok [tp, ra, la] nw news own) (h5 : ∀ p ∈ nw2, ∀ a ∈ [tp, ro, mo], p.1 ≠ a) (h6 : ∀ p ∈ nw2, ∀ q ∈ (ra, o1) :: (la, o2) :: (nw ++ news ++ own), q.1 < p.1)
    (lro : @LT.lt Nat _ tp ro ∧ @LT.lt Nat _ ra ro ∧ @LT.lt Nat _ la ro ∧ AllLt ro (nw ++ news ++ own)) (lmo : @LT.lt Nat _ ro mo ∧ @LT.lt Nat _ tp mo ∧ @LT.lt Nat _ ra mo ∧ @LT.lt Nat _ la mo ∧ AllLt mo (nw ++ news ++ own))
    (hW : WS.length = i) (hfit : ∀ R ∈ WS, WFit R) (hR : WFit R) (hk0 : 0 ≤ kk) (hk1 : kk ≤ 1 + 9 * ((i + 1 : Nat) : Int)) (hT : Are (TrIn nw) rvs WS) (hG : Are (RowIn nw) lvs (WS.map fun R => (glSt R).2)) (hT2 : Are (TxIn nw2) tvs R) (hG2 : Are (GlIn nw2) gvs (glSt R).2)
    (m1 : m' (Str.ofString "tape") = some (.ref tp)) (m2 : m' (Str.ofString "rows") = some (.ref ra)) (m3 : m' (Str.ofString "laid") = some (.ref la)) :
    InvEndG h₀ L (fun m' nx => (∀ p ∈ ([] : List (Addr × Obj)), p ∈ nx) ∧ BOutJ tp c ra la news (i + 1) m' nx) own s₁ { s₁ with heap := h', toks := tk' } := by
  have okm : Ok [tp, ra, la] ((mo, listOf gvs.toArray nm2) :: nw) news own := ok.grow1 (all3 lmo.2.1 lmo.2.2.1 lmo.2.2.2.1) lmo.2.2.2.2
  have okr : Ok [tp, ra, la] ((ro, listOf tvs.toArray nt2) :: nw) news own := ok.grow1 (all3 lro.1 lro.2.1 lro.2.2.1) lro.2.2.2
  have ok2 : Ok [tp, ra, la] (nw2 ++ nw) news own := by
    refine ⟨?_, ?_, ?_⟩
    · intro p hp a ha
      rw [List.append_assoc, List.append_assoc] at hp
      rcases List.mem_append.mp hp with hp | hp
      · exact all3 (P := fun a => p.1 ≠ a) (h5 p hp _ (.head _)) (Nat.ne_of_gt (h6 p hp _ (.head _))) (Nat.ne_of_gt (h6 p hp _ (.tail _ (.head _)))) a ha
      · exact ok.off p (by rw [List.append_assoc]; exact hp) a ha
    · intro p hp q hq
      rw [List.append_assoc] at hq
      rcases List.mem_append.mp hq with hq | hq
      · exact Nat.ne_of_lt (h6 q hq p (.tail _ (.tail _ (List.mem_append_right _ hp))))
      · exact ok.own p hp q hq
    · intro p hp q hq
      rcases List.mem_append.mp hp with hp | hp
      · exact h6 p hp q (.tail _ (.tail _ (List.mem_append_left _ (List.mem_append_right _ hq))))
      · exact ok.new p hp q hq
  have okA : Ok [tp, ra, la] ((ro, listOf tvs.toArray nt2) :: (mo, listOf gvs.toArray nm2) :: (nw2 ++ nw)) news own := by
    refine ⟨?_, ?_, ?_⟩
    · intro p hp a ha
      simp only [List.cons_append] at hp
      rcases List.mem_cons.mp hp with rfl | hp
      · exact okr.off _ (.head _) a ha
      rcases List.mem_cons.mp hp with rfl | hp
      · exact okm.off _ (.head _) a ha
      · exact ok2.off p hp a ha
    · intro p hp q hq
      simp only [List.cons_append] at hq
      rcases List.mem_cons.mp hq with rfl | hq
      · exact okr.own p hp _ (.head _)
      rcases List.mem_cons.mp hq with rfl | hq
      · exact okm.own p hp _ (.head _)
      · exact ok2.own p hp q hq
    · intro p hp q hq
      rcases List.mem_cons.mp hp with rfl | hp
      · exact okr.new _ (.head _) q hq
      rcases List.mem_cons.mp hp with rfl | hp
      · exact okm.new _ (.head _) q hq
      · exact ok2.new p hp q hq
  have hled : ∀ p ∈ [(tp, listOf [Value.ref c, Value.int kk tk].toArray nt), (ra, listOf (rvs ++ [Value.ref ro]).toArray nr), (la, listOf (lvs ++ [Value.ref mo]).toArray nl)] ++ ((ro, listOf tvs.toArray nt2) :: (mo, listOf gvs.toArray nm2) :: (nw2 ++ nw) ++ news ++ own),
      p ∈ (tp, listOf [Value.ref c, Value.int kk tk].toArray nt) :: (ro, listOf tvs.toArray nt2) :: (mo, listOf gvs.toArray nm2) :: (nw2 ++ (ra, listOf (rvs ++ [Value.ref ro]).toArray nr) :: (la, listOf (lvs ++ [Value.ref mo]).toArray nl) :: (nw ++ news ++ own)) := by
    intro p hp
    rcases List.mem_append.mp hp with hp | hp
    · cases hp with
      | head => exact .head _
      | tail _ hp => exact .tail _ (.tail _ (.tail _ (List.mem_append_right _ (List.mem_append_left (nw ++ news ++ own) hp))))
    · rcases List.mem_append.mp hp with hp | hp
      · rcases List.mem_append.mp hp with hp | hp
        · exact .tail _ (in_cons (in_cons fun q hq => (List.mem_append.mp hq).elim (fun h => List.mem_append_left _ h) fun h => List.mem_append_right _ (.tail _ (.tail _ (List.mem_append_left _ (List.mem_append_left _ h))))) p hp)
        · exact .tail _ (.tail _ (.tail _ (List.mem_append_right _ (.tail _ (.tail _ (List.mem_append_left _ (List.mem_append_right _ hp)))))))
      · exact .tail _ (.tail _ (.tail _ (List.mem_append_right _ (.tail _ (.tail _ (List.mem_append_right _ hp))))))
  refine inv_end [(tp, listOf [Value.ref c, Value.int kk tk].toArray nt), (ra, listOf (rvs ++ [Value.ref ro]).toArray nr), (la, listOf (lvs ++ [Value.ref mo]).toArray nl)] F (news_perm N hled) (fun p hp => hp) okA ⟨fun _ hp => (nomatch hp), ?_⟩
  refine .mk (WS := WS ++ [R]) kk tk nt nr nl (rvs ++ [Value.ref ro]) (lvs ++ [Value.ref mo]) _ (by simp [hW]) ?_ hk0 hk1 ?_ ?_ ?_ ?_ okA.new
  · intro q hq
    rcases List.mem_append.mp hq with hq | hq
    · exact hfit q hq
    · rw [List.mem_singleton.mp hq]; exact hR
  · exact mp_cons m1 (mp_cons m2 (mp_cons m3 mp_nil))
  · refine (hT.mono fun _ _ h => h.mono fun p hp => .tail _ (.tail _ (List.mem_append_right _ hp))).append (.one ?_)
    exact .mk ro tvs nt2 R (.head _) (hT2.mono fun _ _ h => h.mono fun p hp => .tail _ (.tail _ (List.mem_append_left _ hp)))
  · rw [List.map_append]
    refine (hG.mono fun _ _ h => h.mono fun p hp => .tail _ (.tail _ (List.mem_append_right _ hp))).append (.one ?_)
    exact .mk mo gvs nm2 (glSt R).2 (.tail _ (.head _)) (hG2.mono fun _ _ h => h.mono fun p hp => .tail _ (.tail _ (List.mem_append_left _ hp)))
  · intro p hp a ha
    exact okA.off p (List.mem_append_left _ (List.mem_append_left _ hp)) a ha

theorem bIn {kk kk2 : Int} {i i2 n nn : Nat} (h1 : kk ≤ 1 + 9 * (i : Int)) (h3 : kk2 ≤ kk + 1 + 2 * (i2 : Int)) (hi : i < n) (hn : n ≤ 3) (hi2 : i2 < nn) (hnn : nn ≤ 4) : kk2 ≤ 90 := by omega
theorem bOut {kk : Int} {i n : Nat} (h1 : kk ≤ 1 + 9 * (i : Int)) (hi : i < n) (hn : n ≤ 3) : kk ≤ 90 := by omega
theorem bX {x : Int} {r i2 nn : Nat} (g3 : x ≤ 13 * (r : Int)) (hR : r = i2) (hi2 : i2 < nn) (hnn : nn ≤ 4) : x ≤ 100 := by omega
theorem bPl {p q : Int} {i k n : Nat} (b5 : p = q + k) (b2 : 0 ≤ q) (b3 : q ≤ 4 * (i : Int)) (hi : i < n) (hn : n ≤ 3) (b7 : k ≤ 4) : 0 ≤ p ∧ p ≤ 100 := by omega
theorem bDl {a b i k n : Nat} (b4 : a ≤ b + 3 * k) (b1 : b ≤ 12 * i) (hi : i < n) (hn : n ≤ 3) (b7 : k ≤ 4) : a ≤ 60 := by omega
theorem bK2 {kk kk2 : Int} {i2 : Nat} (h3 : kk2 ≤ kk + 1 + 2 * (i2 : Int)) : kk2 + 1 + 1 ≤ kk + 1 + 2 * ((i2 + 1 : Nat) : Int) := by omega
theorem bK1 {kk kk2 : Int} {i nn : Nat} (h1 : kk ≤ 1 + 9 * (i : Int)) (h3 : kk2 ≤ kk + 1 + 2 * (nn : Int)) (hnn : nn ≤ 4) : kk2 ≤ 1 + 9 * ((i + 1 : Nat) : Int) := by omega
theorem bLt {a r i nn : Nat} (l : a = r) (hR : r = i) (hi : i < nn) (hnn : nn ≤ 4) : a ≤ 4 := Nat.le_trans (Nat.le_of_eq (l.trans hR)) (Nat.le_trans (Nat.le_of_lt hi) hnn)

theorem partPL : True := by
  w_top off
  trivial
noncomputable def dueStep (s : Int × List Int) (g : Wg) : Int × List Int := (s.1 + 1, s.2 ++ ((bareW g).filter (· != 32)).map fun _ => s.1)
noncomputable def dueRow (s : Int × List Int) (R : List Wg) : Int × List Int := R.foldl dueStep s
noncomputable def dueSt (WS : List (List Wg)) : Int × List Int := WS.foldl dueRow (0, [])
noncomputable def solid (S : List Sg) : List Sg := S.filter fun x => x.c != 32
noncomputable def idxB (bs : List Bool) : List Int := List.map (fun k : Nat => (k : Int)) ((List.range bs.length).filter fun k => bs.getD k false)
theorem solid_app (A B : List Sg) : solid (A ++ B) = solid A ++ solid B := List.filter_append ..
theorem idxB_snoc (bs : List Bool) (b : Bool) : idxB (bs ++ [b]) = idxB bs ++ (if b = true then [(bs.length : Int)] else []) := by
  unfold idxB
  rw [List.length_append, List.length_singleton, List.range_succ, List.filter_append, List.map_append]
  have h1 : (List.range bs.length).filter (fun k => (bs ++ [b]).getD k false) = (List.range bs.length).filter (fun k => bs.getD k false) := by
    refine List.filter_congr fun k hk => ?_
    have hk : k < bs.length := List.mem_range.mp hk
    simp [List.getD_eq_getElem?_getD, List.getElem?_append_left hk]
  rw [h1]
  congr 1
  cases b <;> simp
theorem idxB_falses (bs cs : List Bool) (h : ∀ c ∈ cs, c = false) : idxB (bs ++ cs) = idxB bs := by
  induction cs generalizing bs with
  | nil => rw [List.append_nil]
  | cons c cs ih =>
    rw [show bs ++ c :: cs = (bs ++ [c]) ++ cs by simp, ih _ fun x hx => h x (.tail _ hx), idxB_snoc, h c (.head _)]
    simp
/-- the comprehension at the end, sign by sign -/
noncomputable def clean : Bool → List Sg → List Sg
  | _, [] => []
  | p, x :: xs => if x.c = 32 ∧ p = true then clean true xs else x :: clean (x.c == 32) xs
noncomputable def lastSp (p : Bool) (S : List Sg) : Bool := match S.getLast? with
  | none => p
  | some y => y.c == 32
theorem lastSp_cons (p : Bool) (x : Sg) (S : List Sg) : lastSp p (x :: S) = lastSp (x.c == 32) S := by
  cases S with
  | nil => rfl
  | cons y S => simp [lastSp, List.getLast?_cons]
theorem clean_snoc (S : List Sg) (x : Sg) : ∀ p, clean p (S ++ [x]) = clean p S ++ (if x.c = 32 ∧ lastSp p S = true then [] else [x]) := by
  induction S with
  | nil =>
    intro p
    show clean p [x] = [] ++ if x.c = 32 ∧ p = true then [] else [x]
    simp [clean]
  | cons y S ih =>
    intro p
    rw [List.cons_append, lastSp_cons]
    show (if y.c = 32 ∧ p = true then clean true (S ++ [x]) else y :: clean (y.c == 32) (S ++ [x])) = (if y.c = 32 ∧ p = true then clean true S else y :: clean (y.c == 32) S) ++ _
    by_cases h : y.c = 32 ∧ p = true
    · rw [if_pos h, if_pos h, ih, h.1]; rfl
    · rw [if_neg h, if_neg h, ih]; rfl
theorem cleanTo_clean (S : List Sg) : ∀ i, i ≤ S.length → cleanTo S i = clean false (S.take i)
  | 0, _ => by simp [cleanTo, clean]
  | i + 1, h => by
    rw [cleanTo_succ, cleanTo_clean S i (Nat.le_of_succ_le h)]
    have e : S.take (i + 1) = S.take i ++ [S[i]] := by rw [List.take_add_one, List.getElem?_eq_getElem h]; rfl
    rw [e, clean_snoc]
    congr 1
    have e2 : S[i]? = some S[i] := List.getElem?_eq_getElem h
    simp only [keepAt, e2]
    cases i with
    | zero => simp [lastSp]
    | succ i =>
      have e3 : lastSp false (S.take (i + 1)) = ((S[i]?.map Sg.c).getD 32 == 32) := by
        have hi : i < S.length := Nat.lt_of_succ_lt h
        have e4 : S.take (i + 1) = S.take i ++ [S[i]] := by rw [List.take_add_one, List.getElem?_eq_getElem hi]; rfl
        rw [e4]
        unfold lastSp
        rw [List.getLast?_concat, List.getElem?_eq_getElem hi]
        rfl
      rw [e3]
      by_cases h1 : S[i + 1].c = 32 <;> by_cases h2 : (S[i]?.map Sg.c).getD 32 = 32 <;> simp [h1, h2]
theorem clean_text : ∀ (S : List Sg) (p : Bool), (clean p S).map Sg.c = sq p (S.map Sg.c)
  | [], _ => rfl
  | x :: S, p => by
    show (if x.c = 32 ∧ p = true then clean true S else x :: clean (x.c == 32) S).map Sg.c = if x.c = 32 ∧ p = true then sq true (S.map Sg.c) else x.c :: sq (x.c == 32) (S.map Sg.c)
    split
    · exact clean_text S true
    · rw [List.map_cons, clean_text S]
theorem clean_solid : ∀ (S : List Sg) (p : Bool), solid (clean p S) = solid S
  | [], _ => rfl
  | x :: S, p => by
    show solid (if x.c = 32 ∧ p = true then clean true S else x :: clean (x.c == 32) S) = solid (x :: S)
    split
    · rename_i h
      rw [clean_solid S]
      simp [solid, h.1]
    · unfold solid
      rw [List.filter_cons, List.filter_cons]
      have := clean_solid S (x.c == 32)
      unfold solid at this
      rw [this]
theorem clean_mem : ∀ (S : List Sg) (p : Bool), ∀ x ∈ clean p S, x ∈ S
  | [], _, x, h => h
  | y :: S, p, x, h => by
    have h : x ∈ (if y.c = 32 ∧ p = true then clean true S else y :: clean (y.c == 32) S) := h
    split at h
    · exact .tail _ (clean_mem S _ x h)
    · rcases List.mem_cons.mp h with rfl | h
      · exact .head _
      · exact .tail _ (clean_mem S _ x h)
structure RowInv (base : Int) (l : List Nat) (R : List Wg) : Prop where
  n1 : (rowSt base (glSt R).2).1 = R.length
  n2 : (rowLn l R).1 = R.length
  txt : (rowLn l R).2 = l ++ (rowSt base (glSt R).2).2.2.map Sg.c
  nil : R = [] → (rowSt base (glSt R).2).2 = (none, [])
  prev : R ≠ [] → (rowSt base (glSt R).2).2.2 ≠ [] ∧ ∃ q, (rowSt base (glSt R).2).2.1 = some q ∧ q.at_ + 4 = (glSt R).1
  plain : ∀ x ∈ (rowSt base (glSt R).2).2.2, x.b = false
  due : ∀ D, dueRow (base, D) R = (base + R.length, D ++ (solid (rowSt base (glSt R).2).2.2).map Sg.p)
theorem snoc_ind {α : Type} {P : List α → Prop} (h0 : P []) (h1 : ∀ l a, P l → P (l ++ [a])) (l : List α) : P l := by
  have : ∀ l : List α, P l.reverse := by
    intro l
    induction l with
    | nil => exact h0
    | cons a l ih => rw [List.reverse_cons]; exact h1 _ _ ih
  have h := this l.reverse
  rwa [List.reverse_reverse] at h
theorem fresh_text (base : Int) (n : Nat) (g : Gl) : (freshOf base n g).map Sg.c = (C g.k).map plainC := by
  simp [freshOf]
theorem fresh_solid (base : Int) (n : Nat) (g : Gl) (b : Bool) : (solid (freshOf base n g)).map Sg.p = ((bareW ⟨g.k, b⟩).filter (· != 32)).map fun _ => base + (n : Int) := by
  unfold solid freshOf bareW
  rw [List.filter_map, List.map_map, List.filter_map, List.map_map]
  rfl
theorem lastc_map (F : List Sg) (l : List Nat) (h : F ≠ []) : (l ++ F.map Sg.c).getLastD 32 = lastc F := by
  rcases List.eq_nil_or_concat F with rfl | ⟨F, y, rfl⟩
  · exact absurd rfl h
  · rw [List.concat_eq_append, lastc_snoc, List.map_append, ← List.append_assoc]
    simp
theorem row_inv (base : Int) (l : List Nat) (R : List Wg) (hR : ∀ g ∈ R, g.k < 7) : RowInv base l R := by
  revert hR
  refine snoc_ind (P := fun R => (∀ g ∈ R, g.k < 7) → RowInv base l R) ?_ ?_ R
  · intro _
    exact ⟨rfl, rfl, (List.append_nil _).symm, fun _ => rfl, fun h => absurd rfl h, fun _ h => (nomatch h), fun D => by
      show (base, D) = (base + ((0 : Nat) : Int), D ++ [])
      rw [List.append_nil]; simp⟩
  · intro R g ih hR
    have hg : g.k < 7 := hR g (List.mem_append_right _ (.head _))
    obtain ⟨n1, n2, txt, nil, prev, plain, due⟩ := ih fun g h => hR g (List.mem_append_left _ h)
    have e1 : rowLn l (R ++ [g]) = rowLnStep (rowLn l R) g := by unfold rowLn; rw [List.foldl_append]; rfl
    have e2 : (glSt (R ++ [g])) = glStep (glSt R) g := glSt_snoc R g
    generalize hx : (glSt R).1 + (if g.b = true then 9 else 1) = x at *
    have e3 : (glStep (glSt R) g).2 = (glSt R).2 ++ [⟨g.k, x⟩] := by unfold glStep; rw [hx]
    have e4 : rowSt base (glSt (R ++ [g])).2 = rowStep base (rowSt base (glSt R).2) ⟨g.k, x⟩ := by rw [e2, e3]; unfold rowSt; rw [List.foldl_append]; rfl
    have e5 : ∀ D, dueRow (base, D) (R ++ [g]) = dueStep (dueRow (base, D) R) g := by intro D; unfold dueRow; rw [List.foldl_append]; rfl
    generalize hst : rowSt base (glSt R).2 = st at *
    obtain ⟨n, p, F⟩ := st
    dsimp only at n1 txt nil prev plain due
    subst n1
    have gapeq : (gapOf p F ⟨g.k, x⟩ = [] ∨ gapOf p F ⟨g.k, x⟩ = [⟨32, -1, false⟩]) := by
      unfold gapOf
      split
      · exact .inl rfl
      · split
        · exact .inr rfl
        · exact .inl rfl
    have gapsol : solid (gapOf p F ⟨g.k, x⟩) = [] := by rcases gapeq with h | h <;> rw [h] <;> rfl
    have frne : freshOf base R.length ⟨g.k, x⟩ ≠ [] := by
      intro e
      exact (C_ne _ hg).1 (List.map_eq_nil_iff.mp e)
    refine ⟨?_, ?_, ?_, ?_, ?_, ?_, ?_⟩
    · rw [e4]; simp [rowStep]
    · rw [e1]; show (rowLn l R).1 + 1 = _; rw [n2]; simp
    · rw [e1, e4]
      show glueW (rowLn l R).1 (rowLn l R).2 g = l ++ List.map Sg.c (F ++ gapOf p F ⟨g.k, x⟩ ++ freshOf base R.length ⟨g.k, x⟩)
      rw [n2, txt, List.map_append, List.map_append, fresh_text]
      unfold glueW
      show _ ++ (C g.k).map plainC = _
      rw [← List.append_assoc, ← List.append_assoc]
      congr 1
      by_cases hR0 : R = []
      · have hh := nil hR0
        cases hh
        subst hR0
        simp [gapOf]
      · obtain ⟨hF, q, rfl, hq⟩ := prev hR0
        rw [lastc_map F l hF]
        have hlen : R.length ≠ 0 := fun e => hR0 (List.length_eq_zero_iff.mp e)
        have hhd : (bareW g).headD 32 = plainC ((C g.k).headD 32) := by
          unfold bareW
          cases hC : C g.k with
          | nil => exact absurd hC (C_ne _ hg).1
          | cons a r => rfl
        have hgap : (5 < x - q.at_ - 4) ↔ g.b = true := by
          rw [← hx]
          cases g.b
          · simp; omega
          · simp; omega
        rw [hhd]
        unfold gapOf
        simp only [hgap]
        generalize plainC ((C g.k).headD 32) = hd
        by_cases c1 : g.b = true <;> by_cases c2 : hd = 32 <;> by_cases c3 : lastc F = 32 <;> simp [c1, c2, c3, hlen]
    · intro h
      exact absurd h (by simp)
    · intro _
      rw [e4, e2]
      refine ⟨?_, ⟨g.k, x⟩, rfl, ?_⟩
      · show F ++ gapOf p F ⟨g.k, x⟩ ++ freshOf base R.length ⟨g.k, x⟩ ≠ []
        intro e
        exact frne (List.append_eq_nil_iff.mp e).2
      · show x + 4 = (glSt R).1 + _ + 4
        rw [hx]
    · rw [e4]
      intro y hy
      have hy : y ∈ F ++ gapOf p F ⟨g.k, x⟩ ++ freshOf base R.length ⟨g.k, x⟩ := hy
      rcases List.mem_append.mp hy with hy | hy
      · rcases List.mem_append.mp hy with hy | hy
        · exact plain y hy
        · rcases gapeq with h | h
          · rw [h] at hy; cases hy
          · rw [h] at hy; rw [List.mem_singleton.mp hy]
      · unfold freshOf at hy
        obtain ⟨c, _, rfl⟩ := List.mem_map.mp hy
        rfl
    · intro D
      rw [e5, due, e4]
      show (base + (R.length : Int) + 1, (D ++ List.map Sg.p (solid F)) ++ _) = (base + ((R ++ [g]).length : Int), D ++ List.map Sg.p (solid (F ++ gapOf p F ⟨g.k, x⟩ ++ freshOf base R.length ⟨g.k, x⟩)))
      rw [solid_app, solid_app, gapsol, List.append_nil, List.map_append, fresh_solid (b := g.b)]
      have e : (R ++ [g]).length = R.length + 1 := by simp
      rw [e]
      congr 1
      · push_cast; omega
      · simp
theorem brk_joins (S : List Sg) : brk S = joins (S.map Sg.c) := by
  unfold brk joins
  rw [← List.map_reverse]
  rcases S.reverse with _ | ⟨y, _ | ⟨x, r⟩⟩ <;> rfl
structure LawInv (WS : List (List Wg)) : Prop where
  n : (lnSt WS).1 = WS.length
  base : (joinSt (WS.map fun R => (glSt R).2)).1 = (dueSt WS).1
  txt : (lnSt WS).2.1 = (joinSt (WS.map fun R => (glSt R).2)).2.map Sg.c
  due : (dueSt WS).2 = (solid (joinSt (WS.map fun R => (glSt R).2)).2).map Sg.p
  soft : (lnSt WS).2.2 = idxB ((solid (joinSt (WS.map fun R => (glSt R).2)).2).map Sg.b)
  blank : ∀ x ∈ (joinSt (WS.map fun R => (glSt R).2)).2, x.c = 32 → x.b = false
  nil : WS = [] → (joinSt (WS.map fun R => (glSt R).2)).2 = []
  last : WS ≠ [] → ∃ S y, (joinSt (WS.map fun R => (glSt R).2)).2 = S ++ [y] ∧ y.b = false
theorem law_inv (WS : List (List Wg)) (hW : ∀ R ∈ WS, WFit R) : LawInv WS := by
  revert hW
  refine snoc_ind (P := fun WS => (∀ R ∈ WS, WFit R) → LawInv WS) ?_ ?_ WS
  · intro _
    exact ⟨rfl, rfl, rfl, rfl, rfl, fun _ h => (nomatch h), fun _ => rfl, fun h => absurd rfl h⟩
  · intro WS R ih hW
    have fit : WFit R := hW R (List.mem_append_right _ (.head _))
    obtain ⟨n, bs, txt, due, soft, blank, nil, last⟩ := ih fun g h => hW g (List.mem_append_left _ h)
    have e1 : lnSt (WS ++ [R]) = lnStep (lnSt WS) R := by unfold lnSt; rw [List.foldl_append]; rfl
    have e2 : dueSt (WS ++ [R]) = dueRow (dueSt WS) R := by unfold dueSt; rw [List.foldl_append]; rfl
    have e3 : joinSt ((WS ++ [R]).map fun R => (glSt R).2) = joinStep (joinSt (WS.map fun R => (glSt R).2)) (glSt R).2 := by
      rw [List.map_append]; unfold joinSt; rw [List.foldl_append]; rfl
    generalize joinSt (WS.map fun R => (glSt R).2) = js at *
    generalize lnSt WS = ls at *
    generalize dueSt WS = ds at *
    obtain ⟨b, S⟩ := js
    obtain ⟨k, l, So⟩ := ls
    obtain ⟨b', D⟩ := ds
    dsimp only at n bs txt due soft blank nil last
    subst bs n txt due soft
    have rv := row_inv b (lnL WS.length (S.map Sg.c)) R fit.2
    obtain ⟨_, _, rtxt, _, rprev, rplain, rdue⟩ := rv
    have hF := (rprev fit.1.1).1
    have glen : (glSt R).2.length = R.length := by
      refine snoc_ind (P := fun R => (glSt R).2.length = R.length) rfl ?_ R
      intro R g h
      rw [glSt_snoc]
      simp [glStep, h]
    have e4 : joinStep (b, S) (glSt R).2 = (b + (R.length : Int), joinS S ++ (rowSt b (glSt R).2).2.2) := by unfold joinStep; rw [glen]
    generalize (rowSt b (glSt R).2).2.2 = F at *
    have fF : ∀ c ∈ (solid F).map Sg.b, c = false := by
      intro c hc
      obtain ⟨x, hx, rfl⟩ := List.mem_map.mp hc
      exact rplain x (List.mem_filter.mp hx).1
    rw [e4] at e3
    -- the join's step: text, solids, softs
    have key : (joinS S).map Sg.c = lnL WS.length (S.map Sg.c) ∧ (solid (joinS S)).map Sg.p = (solid S).map Sg.p ∧ lnS WS.length (S.map Sg.c) (idxB ((solid S).map Sg.b)) = idxB ((solid (joinS S)).map Sg.b) ∧ ∀ x ∈ joinS S, x.c = 32 → x.b = false := by
      by_cases hW0 : WS = []
      · have hS := nil hW0
        subst hW0 hS
        exact ⟨rfl, rfl, rfl, fun _ h => nomatch h⟩
      · obtain ⟨S', y, rfl, hy⟩ := last hW0
        have hk : WS.length ≠ 0 := fun e => hW0 (List.length_eq_zero_iff.mp e)
        obtain ⟨k, hk⟩ := Nat.exists_eq_succ_of_ne_zero hk
        rw [hk]
        cases hb : brk (S' ++ [y])
        · have hj := hb
          rw [brk_joins] at hj
          have ej : joinS (S' ++ [y]) = S' ++ [y] ++ [⟨32, -1, false⟩] := by unfold joinS; rw [if_neg (by rw [hb]; decide), if_neg (by simp)]
          have es : solid [(⟨32, -1, false⟩ : Sg)] = [] := rfl
          rw [lnL_no hj, lnS_no hj, ej, solid_app (S' ++ [y]), es, List.append_nil, List.map_append]
          refine ⟨rfl, rfl, rfl, fun x hx hc => ?_⟩
          rcases List.mem_append.mp hx with hx | hx
          · exact blank x hx hc
          · rw [List.mem_singleton.mp hx]
        · have hj := hb
          rw [brk_joins] at hj
          have ej : joinS (S' ++ [y]) = S' ++ [⟨45, y.p, true⟩] := by unfold joinS; rw [if_pos hb]; simp
          have hy45 : y.c = 45 := by
            rcases List.eq_nil_or_concat S' with rfl | ⟨S', z, rfl⟩
            · cases hb
            · rw [List.concat_eq_append, brk_two] at hb
              simpa using (Bool.and_eq_true_iff.mp hb).1
          have es : solid [(⟨45, y.p, true⟩ : Sg)] = [⟨45, y.p, true⟩] := rfl
          have es2 : solid [y] = [y] := by simp [solid, hy45]
          have hlen : (((S' ++ [y]).map Sg.c).filter (· != 32)).length = (solid S').length + 1 := by
            rw [List.filter_map, List.length_map]
            show (solid (S' ++ [y])).length = _
            rw [solid_app, es2]
            simp
          rw [lnL_yes hj, lnS_yes hj, ej, solid_app, solid_app, es, es2, hlen]
          refine ⟨?_, ?_, ?_, fun x hx hc => ?_⟩
          · rw [List.map_append, List.map_append, List.map_singleton, List.map_singleton, hy45]
          · rw [List.map_append, List.map_append]; rfl
          · rw [List.map_append, List.map_append, List.map_singleton, List.map_singleton, idxB_snoc, idxB_snoc, hy, List.length_map, if_pos rfl, if_neg (by decide), List.append_nil]
            congr 2
            push_cast
            omega
          · rcases List.mem_append.mp hx with hx | hx
            · exact blank x (List.mem_append_left _ hx) hc
            · rw [List.mem_singleton.mp hx] at hc
              cases hc
    obtain ⟨k1, k2, k3, k4⟩ := key
    refine ⟨?_, ?_, ?_, ?_, ?_, ?_, ?_, ?_⟩
    · rw [e1]; simp [lnStep]
    · rw [e3, e2, rdue]
    · rw [e1, e3]
      show (rowLn (lnL WS.length (S.map Sg.c)) R).2 = (joinS S ++ F).map Sg.c
      rw [rtxt, List.map_append, k1]
    · rw [e2, e3, rdue]
      show _ = List.map Sg.p (solid (joinS S ++ F))
      rw [solid_app, List.map_append, k2]
    · rw [e1, e3]
      show lnS WS.length (S.map Sg.c) _ = idxB (List.map Sg.b (solid (joinS S ++ F)))
      rw [solid_app, List.map_append, idxB_falses _ _ fF, k3]
    · rw [e3]
      intro x hx hc
      rcases List.mem_append.mp hx with hx | hx
      · exact k4 x hx hc
      · exact rplain x hx
    · intro h
      exact absurd h (by simp)
    · intro _
      rw [e3]
      rcases List.eq_nil_or_concat F with rfl | ⟨F, y, rfl⟩
      · exact absurd rfl hF
      · rw [List.concat_eq_append] at *
        exact ⟨joinS S ++ F, y, (List.append_assoc ..).symm, rplain y (List.mem_append_right _ (.head _))⟩
/-- the law, of what is computed -/
structure LawTold (WS : List (List Wg)) (S : List Sg) : Prop where
  txt : S.map Sg.c = lineOf WS
  due : (solid S).map Sg.p = (dueSt WS).2
  soft : idxB ((solid S).map Sg.b) = (lnSt WS).2.2
  blank : ∀ x ∈ S, x.c = 32 → x.b = false
theorem law_told (WS : List (List Wg)) (hW : ∀ R ∈ WS, WFit R) : LawTold WS (joined (WS.map fun R => (glSt R).2)) := by
  obtain ⟨n, bs, txt, due, soft, blank, nil, last⟩ := law_inv WS hW
  unfold joined
  generalize (joinSt (WS.map fun R => (glSt R).2)).2 = S at *
  rw [cleanTo_clean S _ (Nat.le_refl _), List.take_length]
  refine ⟨?_, ?_, ?_, ?_⟩
  · rw [clean_text, ← txt]; rfl
  · rw [clean_solid, due]
  · rw [clean_solid, soft]
  · exact fun x hx => blank x (clean_mem S _ x hx)

theorem partP18b : True := by
  w_top off
  trivial
example : True := by
  k_with "K call ref" => (((k_here; (with_reducible show wpAny _ _ (call (Value.ref 241) _) _ _ _); k_dflt (refine' DoesM.use (join_ok _ _ _ _ _ _ _ ?K9h1 ?K9h2 ?K9h3 ?K9h4) ?K9k1 ?K9k2 ?K9k3 ?K9k4 ?K9k5 ?K9kA ?K9kF ?K9kK ?K9kd ?K9ku ?_; (case K9k1 => k_asm); (case K9k2 => k_asm); (case K9k3 => k_asm); (case K9k4 => k_asm); (case K9k5 => k_asm); (case K9h1 => k_mem); (case K9h2 => first | assumption | (refine' Are.mono (R := RowIn _) (fun _ _ h => RowIn.mono ?K9sub h) ?K9base; (case K9base => assumption); (case K9sub => intro _ _; k_mem))); (case K9h3 => omega); (case K9h4 => assumption); (case K9kA => (k_extra "unf")); (case K9kF => first | assumption | exact rfl); (case K9kK => first | assumption | exact rfl); (case K9kd => (k_extra "room")); (case K9ku => (k_extra "units"))); intro _ _ _ _ _ _ _); (try dsimp only)))
  trivial
theorem less2 {h₀ h : Heap} {L : Addr} {tl news : List (Addr × Obj)} {a b : Addr × Obj} (N : News h₀ L h (tl ++ news)) (ha : a ∈ tl) (hb : b ∈ tl) : News h₀ L h (a :: b :: news) := by
  refine news_perm N ?_
  intro p hp
  rcases List.mem_cons.mp hp with rfl | hp
  · exact List.mem_append_left _ ha
  rcases List.mem_cons.mp hp with rfl | hp
  · exact List.mem_append_left _ hb
  · exact List.mem_append_right _ hp
example : True := by
  k_with "K call ref" => (((k_here; (with_reducible show wpAny _ _ (call (Value.ref 268) _) _ _ _); k_dflt (refine' DoesN.use (line_ok _ _ _ _ _ _ ?K9h1 ?K9h2 ?K9h3 ?K9h4) ?K9k1 ?K9k2 ?K9k3 ?K9k4 ?K9k5 ?K9kA ?K9kF ?K9kK ?K9kd ?K9ku ?_; (case K9k1 => k_asm); (case K9k2 => k_asm); (case K9k3 => k_asm); (case K9k4 => k_asm); (case K9k5 => k_asm); (case K9h1 => k_mem); (case K9h2 => first | assumption | (refine' Are.mono (R := TrIn _) (fun _ _ h => TrIn.mono ?K9sub h) ?K9base; (case K9base => assumption); (case K9sub => intro _ _; k_mem))); (case K9h3 => omega); (case K9h4 => assumption); (case K9kA => (k_extra "unf")); (case K9kF => first | assumption | exact rfl); (case K9kK => first | assumption | exact rfl); (case K9kd => (k_extra "room")); (case K9ku => (k_extra "units"))); intro _ _ _ _ _ N9 D9 _; obtain ⟨_, _, _, _, _, D9a, D9b, _⟩ := D9; replace N9 := less2 N9 D9a D9b); (try dsimp only)))
  trivial
noncomputable def isSeq (p : Addr × Obj) : Bool := match p.2.data with
  | .seq _ _ => true
  | _ => false
theorem seq_off {h₀ h : Heap} {L a : Addr} {o : Obj} {v : Option Value} {news l : List (Addr × Obj)} (N : News h₀ L h news) (hm : (a, o) ∈ news) (ho : o.data = .cell v) (hs : ∀ p ∈ l, p ∈ news) (hq : ∀ p ∈ l, isSeq p = true) : ∀ p ∈ l, p.1 ≠ a := by
  intro p hp e
  have h1 := (N p (hs p hp)).1
  have h2 := (N _ hm).1
  rw [e, h2] at h1
  have h3 : o = p.2 := Option.some.inj h1
  have h4 := hq p hp
  unfold isSeq at h4
  rw [← h3, ho] at h4
  cases h4
theorem SgIn.seqs {tl : List (Addr × Obj)} {v : Value} {g : Sg} (h : SgIn tl v g) : SgIn (tl.filter isSeq) v g := by
  cases h with | mk a t1 t2 n c p b hm => exact .mk a t1 t2 n c p b (List.mem_filter.mpr ⟨hm, rfl⟩)
theorem TxIn.seqs {tl : List (Addr × Obj)} {v : Value} {g : Wg} (h : TxIn tl v g) : TxIn (tl.filter isSeq) v g := by
  cases h with | mk a t n k b hm => exact .mk a t n k b (List.mem_filter.mpr ⟨hm, rfl⟩)
theorem TrIn.seqs {tl : List (Addr × Obj)} {v : Value} {g : List Wg} (h : TrIn tl v g) : TrIn (tl.filter isSeq) v g := by
  cases h with | mk a tvs n _ hm hA => exact .mk a tvs n _ (List.mem_filter.mpr ⟨hm, rfl⟩) (hA.mono fun _ _ h => h.seqs)
/-- what stands when all is made: the ledger of the law's end -/
inductive LawEnd (h₀ : Heap) (L : Addr) (h : Heap) (S : List Sg) (WS : List (List Wg)) (sf fd ra cA cB : Addr) (oa ob : Obj) (svs rvs : List Value) (nf nr : Nat) : Prop
  | mk (fvs : List Value) (fn : Nat) (rest : List (Addr × Obj)) (N : News h₀ L h ((sf, listOf svs.toArray nf) :: (fd, listOf fvs.toArray fn) :: (ra, listOf rvs.toArray nr) :: (cA, oa) :: (cB, ob) :: rest))
      (hS : Are (SgIn rest) fvs S) (hT : Are (TrIn rest) rvs WS) (oA : ∀ p ∈ rest, p.1 ≠ cA) (oB : ∀ p ∈ rest, p.1 ≠ cB) (nA : sf ≠ cA ∧ fd ≠ cA ∧ ra ≠ cA ∧ cB ≠ cA) (nB : sf ≠ cB ∧ fd ≠ cB ∧ ra ≠ cB ∧ cA ≠ cB) : LawEnd h₀ L h S WS sf fd ra cA cB oa ob svs rvs nf nr
theorem law_end {h₀ h : Heap} {L x sf fd tp la c ra cA cB : Addr} {o0 o1 o3 o4 oa ob : Obj} {va vb : Option Value} {svs rvs : List Value} {nf nr : Nat} {S : List Sg} {WS : List (List Wg)} {tl nw : List (Addr × Obj)}
    (N : News h₀ L h ((x, o0) :: (sf, listOf svs.toArray nf) :: (tl ++ (tp, o1) :: (ra, listOf rvs.toArray nr) :: (la, o3) :: (nw ++ [(c, o4), (cA, oa), (cB, ob)])))) (D : RowOut S tl fd) (hT : Are (TrIn nw) rvs WS) (ha : oa.data = .cell va) (hb : ob.data = .cell vb) (hne : cA ≠ cB) :
    LawEnd h₀ L h S WS sf fd ra cA cB oa ob svs rvs nf nr := by
  cases D with | mk fvs fn fm fA =>
  have mA : (cA, oa) ∈ (x, o0) :: (sf, listOf svs.toArray nf) :: (tl ++ (tp, o1) :: (ra, listOf rvs.toArray nr) :: (la, o3) :: (nw ++ [(c, o4), (cA, oa), (cB, ob)])) := by simp
  have mB : (cB, ob) ∈ (x, o0) :: (sf, listOf svs.toArray nf) :: (tl ++ (tp, o1) :: (ra, listOf rvs.toArray nr) :: (la, o3) :: (nw ++ [(c, o4), (cA, oa), (cB, ob)])) := by simp
  have s1 : ∀ p ∈ (tl ++ nw).filter isSeq, p ∈ (x, o0) :: (sf, listOf svs.toArray nf) :: (tl ++ (tp, o1) :: (ra, listOf rvs.toArray nr) :: (la, o3) :: (nw ++ [(c, o4), (cA, oa), (cB, ob)])) := by
    intro p hp
    have hp := (List.mem_filter.mp hp).1
    rcases List.mem_append.mp hp with h | h <;> simp [h]
  have s2 : ∀ p ∈ [(sf, listOf svs.toArray nf), (fd, listOf fvs.toArray fn), (ra, listOf rvs.toArray nr)], p ∈ (x, o0) :: (sf, listOf svs.toArray nf) :: (tl ++ (tp, o1) :: (ra, listOf rvs.toArray nr) :: (la, o3) :: (nw ++ [(c, o4), (cA, oa), (cB, ob)])) := by
    intro p hp
    simp only [List.mem_cons, List.not_mem_nil, or_false] at hp
    rcases hp with rfl | rfl | rfl
    · simp
    · simp [fm]
    · simp
  have q1 : ∀ p ∈ (tl ++ nw).filter isSeq, isSeq p = true := fun p hp => (List.mem_filter.mp hp).2
  have q2 : ∀ p ∈ [(sf, listOf svs.toArray nf), (fd, listOf fvs.toArray fn), (ra, listOf rvs.toArray nr)], isSeq p = true := by
    exact mp_cons (by rfl) (mp_cons (by rfl) (mp_cons (by rfl) (mp_nil)))
  have oA := seq_off N mA ha s2 q2
  have oB := seq_off N mB hb s2 q2
  refine .mk fvs fn ((tl ++ nw).filter isSeq) (news_perm N ?_) (fA.mono fun _ _ h => (h.mono fun p hp => List.mem_append_left _ hp).seqs) (hT.mono fun _ _ h => (h.mono fun p hp => List.mem_append_right _ hp).seqs) (seq_off N mA ha s1 q1) (seq_off N mB hb s1 q1)
    ⟨oA _ (.head _), oA _ (.tail _ (.head _)), oA _ (.tail _ (.tail _ (.head _))), hne.symm⟩ ⟨oB _ (.head _), oB _ (.tail _ (.head _)), oB _ (.tail _ (.tail _ (.head _))), hne⟩
  intro p hp
  rcases List.mem_cons.mp hp with rfl | hp
  · exact s2 _ (.head _)
  rcases List.mem_cons.mp hp with rfl | hp
  · exact s2 _ (.tail _ (.head _))
  rcases List.mem_cons.mp hp with rfl | hp
  · exact s2 _ (.tail _ (.tail _ (.head _)))
  rcases List.mem_cons.mp hp with rfl | hp
  · exact mA
  rcases List.mem_cons.mp hp with rfl | hp
  · exact mB
  · exact s1 p hp
theorem ne_same {prog : Program} {w : World} {A : Around} {E : Value → Shared → Prop} {s : Shared} {z : Str} {t u : Tok} {Q : Value → Shared → Prop} (h : Q (.bool false) s) : wpAny (model prog w) A (compareOp .NotEq (.str z t) (.str z u)) Q E s :=
  ne_str (by simpa using h)
example : True := by
  k_with "K compareOp NotEq str str" => (((k_here; with_reducible refine ne_same ?_); (try dsimp only)))
  trivial
theorem joined_len {GS : List (List Gl)} (hG : ∀ G ∈ GS, RowFit G) (hl : GS.length ≤ 3) : (joined GS).length ≤ 51 := by
  have h := (joinSt_len hG (Nat.le_refl GS.length)).1
  rw [List.take_length] at h
  unfold joined
  rw [cleanTo_clean _ _ (Nat.le_refl _), List.take_length]
  have : ∀ (S : List Sg) p, (clean p S).length ≤ S.length := by
    intro S
    induction S with
    | nil => intro _; exact Nat.le_refl _
    | cons x S ih =>
      intro p
      show (if x.c = 32 ∧ p = true then clean true S else x :: clean (x.c == 32) S).length ≤ _
      split
      · exact Nat.le_succ_of_le (ih _)
      · exact Nat.succ_le_succ (ih _)
  have := this (joinSt GS).2 false
  omega
theorem CompEnd.sameL {h₀ : Heap} {L I C D ax : Addr} {m : Str → Option Value} {s₁ : Shared} {oI oC oD : Obj} {rest : Value → List (Addr × Obj) → Prop} {y : Value} {h' : Heap} {tk k : Nat} {vs : List Value} {news : List (Addr × Obj)}
    (F : Fr h₀ L h' m) (N : News h₀ L h' ((I, oI) :: (C, oC) :: (D, oD) :: news)) (off : LCg.Off3 I C D news) (hm : (ax, listOf vs.toArray k) ∈ news) (r : rest y news) :
    LCg.CompEnd h₀ L m s₁ I oI C oC D oD (LCg.SrcAt h₀ ax vs.toArray) rest y { s₁ with heap := h', toks := tk } := LCg.CompEnd.intro F N news (fun _ hp => hp) off (.inr ⟨_, hm, rfl, _, rfl⟩) r
theorem Are.take_at {α β : Type} {R : Value → β → Prop} {ys : List Value} {cs : List α} {f : α → β} {j : Nat} {c : α} {y : Value} (h : Are R ys ((cs.take j).map f)) (e : cs[j]? = some c) (k : R y (f c)) : Are R (ys ++ [y]) ((cs.take (j + 1)).map f) := by
  rw [List.take_add_one, e, List.map_append]
  exact h.append (.one k)
theorem take_at {α : Type} {cs : List α} {j : Nat} {c : α} (e : cs[j]? = some c) : cs.take (j + 1) = cs.take j ++ [c] := by
  rw [List.take_add_one, e]
  rfl
theorem solid_yes {S : List Sg} {i : Nat} {x : Sg} (e : S[i]? = some x) (h : (Str.mk #[x.c] != Str.ofString " ") = true) : solid (S.take (i + 1)) = solid (S.take i) ++ [x] := by
  rw [bne_sp] at h
  rw [take_at e, solid_app]
  congr 1
  simp [solid, h]
theorem solid_no {S : List Sg} {i : Nat} {x : Sg} (e : S[i]? = some x) (h : (Str.mk #[x.c] != Str.ofString " ") = false) : solid (S.take (i + 1)) = solid (S.take i) := by
  rw [bne_sp] at h
  rw [take_at e, solid_app]
  have : solid [x] = [] := by simp [solid, h]
  rw [this, List.append_nil]

theorem partP18c : True := by
  w_top off
  trivial
/-- the ledger at the law's last loops: both cells ahead, the rest is not changed -/
inductive LawDue (h₀ : Heap) (L : Addr) (h : Heap) (S : List Sg) (WS : List (List Wg)) (pl sf fd ra cA cB : Addr) (oP oa ob : Obj) (svs fvs rvs : List Value) (nf fn nr : Nat) : Prop
  | mk (o2 : List (Addr × Obj)) (N : News h₀ L h ((cB, ob) :: (cA, oa) :: o2)) (oB : ∀ p ∈ (cA, oa) :: o2, p.1 ≠ cB) (oA : ∀ p ∈ o2, p.1 ≠ cA) (nAB : @Ne Nat cA cB) (mP : (pl, oP) ∈ o2) (mS : (sf, listOf svs.toArray nf) ∈ o2) (mF : (fd, listOf fvs.toArray fn) ∈ o2) (mR : (ra, listOf rvs.toArray nr) ∈ o2)
      (hS : Are (SgIn o2) fvs S) (hT : Are (TrIn o2) rvs WS) : LawDue h₀ L h S WS pl sf fd ra cA cB oP oa ob svs fvs rvs nf fn nr
theorem law_due {h₀ h : Heap} {L pl sf fd ra cA cB : Addr} {oP oa ob : Obj} {svs fvs rvs : List Value} {nf fn nr : Nat} {S : List Sg} {WS : List (List Wg)} {rest : List (Addr × Obj)}
    (N : News h₀ L h ((pl, oP) :: (sf, listOf svs.toArray nf) :: (fd, listOf fvs.toArray fn) :: (ra, listOf rvs.toArray nr) :: (cA, oa) :: (cB, ob) :: rest))
    (off : LCg.Off1 pl ((sf, listOf svs.toArray nf) :: (fd, listOf fvs.toArray fn) :: (ra, listOf rvs.toArray nr) :: (cA, oa) :: (cB, ob) :: rest))
    (hS : Are (SgIn rest) fvs S) (hT : Are (TrIn rest) rvs WS) (oA : ∀ p ∈ rest, p.1 ≠ cA) (oB : ∀ p ∈ rest, p.1 ≠ cB) (nA : sf ≠ cA ∧ fd ≠ cA ∧ ra ≠ cA ∧ cB ≠ cA) (nB : sf ≠ cB ∧ fd ≠ cB ∧ ra ≠ cB ∧ cA ≠ cB) :
    LawDue h₀ L h S WS pl sf fd ra cA cB oP oa ob svs fvs rvs nf fn nr := by
  have o := off1_mem off
  have pA : pl ≠ cA := Ne.symm (o (cA, oa) (by simp))
  have pB : pl ≠ cB := Ne.symm (o (cB, ob) (by simp))
  have sub : ∀ p ∈ rest, p ∈ (pl, oP) :: (sf, listOf svs.toArray nf) :: (fd, listOf fvs.toArray fn) :: (ra, listOf rvs.toArray nr) :: rest := fun p hp => .tail _ (.tail _ (.tail _ (.tail _ hp)))
  have fB : ∀ p ∈ (cA, oa) :: (pl, oP) :: (sf, listOf svs.toArray nf) :: (fd, listOf fvs.toArray fn) :: (ra, listOf rvs.toArray nr) :: rest, p.1 ≠ cB := by
    intro p hp
    rcases List.mem_cons.mp hp with rfl | hp
    · exact nB.2.2.2
    rcases List.mem_cons.mp hp with rfl | hp
    · exact pB
    rcases List.mem_cons.mp hp with rfl | hp
    · exact nB.1
    rcases List.mem_cons.mp hp with rfl | hp
    · exact nB.2.1
    rcases List.mem_cons.mp hp with rfl | hp
    · exact nB.2.2.1
    · exact oB p hp
  have fA : ∀ p ∈ (pl, oP) :: (sf, listOf svs.toArray nf) :: (fd, listOf fvs.toArray fn) :: (ra, listOf rvs.toArray nr) :: rest, p.1 ≠ cA := by
    intro p hp
    rcases List.mem_cons.mp hp with rfl | hp
    · exact pA
    rcases List.mem_cons.mp hp with rfl | hp
    · exact nA.1
    rcases List.mem_cons.mp hp with rfl | hp
    · exact nA.2.1
    rcases List.mem_cons.mp hp with rfl | hp
    · exact nA.2.2.1
    · exact oA p hp
  refine .mk ((pl, oP) :: (sf, listOf svs.toArray nf) :: (fd, listOf fvs.toArray fn) :: (ra, listOf rvs.toArray nr) :: rest) (news_perm N ?_) fB fA nB.2.2.2 (.head _) (.tail _ (.head _)) (.tail _ (.tail _ (.head _))) (.tail _ (.tail _ (.tail _ (.head _)))) (hS.mono fun _ _ h => h.mono sub) (hT.mono fun _ _ h => h.mono sub)
  intro p hp
  simp only [List.mem_cons] at hp ⊢
  rcases hp with h | h | h | h | h | h | h <;> simp [h]
theorem fst_of {a : Addr} {o : Obj} {l : List (Addr × Obj)} (_ : (a, o) ∈ l) : ∃ x, x = a := ⟨a, rfl⟩
theorem ne_cell {h₀ h : Heap} {L a b : Addr} {o : Obj} {v : Option Value} {xs : Array Value} {n : Nat} {c : Value} {news : List (Addr × Obj)} (N : News h₀ L h news) (h1 : (b, ({ cls := c, data := .seq xs n } : Obj)) ∈ news) (h2 : (a, o) ∈ news) (ho : o.data = .cell v) : @Ne Nat b a :=
  seq_off (l := [(b, { cls := c, data := .seq xs n })]) N h2 ho (fun p hp => by rw [List.mem_singleton.mp hp]; exact h1) (fun p hp => by rw [List.mem_singleton.mp hp]; rfl) _ (.head _)
/-- between the turns of the loops that reckon due and place -/
inductive DueJ (vars : List (Str × Value)) (cA : Addr) (others : List (Addr × Obj)) (f : Nat → Int × List Int) (i : Nat) (m : Str → Option Value) : List (Addr × Obj) → Prop
  | mk (dd : Addr) (nd : Nat) (dvs : List Value) (oa : Obj) (t : Tok) (h1 : ∀ p ∈ (Str.ofString "due", Value.ref dd) :: vars, m p.1 = some p.2) (hd : IntsAre dvs (f i).2) (ha : oa.data = .cell (some (.int (f i).1 t))) (ho : ∀ p ∈ others, p.1 ≠ dd) : DueJ vars cA others f i m ((dd, listOf dvs.toArray nd) :: (cA, oa) :: others)
theorem due_turn {h₀ h' : Heap} {L cA dd : Addr} {m' : Str → Option Value} {vars : List (Str × Value)} {others own pre keep : List (Addr × Obj)} {f : Nat → Int × List Int} {i nd t : Nat} {dvs : List Value} {oa : Obj} {s₁ : Shared} {tk' : Nat} (F : Fr h₀ L h' m') (N : News h₀ L h' ((dd, listOf dvs.toArray nd) :: (pre ++ (cA, oa) :: (others ++ own))))
    (hown : OwnOff own (cA :: others.map (·.1))) (hdd : ∀ p ∈ own, p.1 ≠ dd) (h0 : m' (Str.ofString "due") = some (.ref dd)) (h1 : ∀ p ∈ vars, m' p.1 = some p.2) (hd : IntsAre dvs (f i).2) (ha : oa.data = .cell (some (.int (f i).1 t))) (hk : ∀ p ∈ keep, p ∈ others) (ho : ∀ p ∈ others, p.1 ≠ dd) :
    InvEndG h₀ L (fun m' nx => (∀ p ∈ keep, p ∈ nx) ∧ DueJ vars cA others f i m' nx) own s₁ { s₁ with heap := h', toks := tk' } := by
  refine InvEndG.intro (nx := (dd, listOf dvs.toArray nd) :: (cA, oa) :: others) F N ⟨fun p hp => .tail _ (.tail _ (hk p hp)), .mk dd nd dvs oa t ?_ hd ha ho⟩ ?_ ?_ ?_
  · intro p hp
    rcases List.mem_cons.mp hp with rfl | hp
    · exact h0
    · exact h1 p hp
  · intro p hp b hb e
    simp only [List.map_cons] at hb
    rcases List.mem_cons.mp hb with rfl | hb
    · exact hdd p hp e
    · exact hown p hp b hb e
  · intro p hp
    rcases List.mem_cons.mp hp with rfl | hp
    · exact .head _
    rcases List.mem_cons.mp hp with rfl | hp
    · exact .tail _ (List.mem_append_right _ (.head _))
    · exact .tail _ (List.mem_append_right _ (.tail _ (List.mem_append_left _ hp)))
  · intro p hp
    exact .tail _ (List.mem_append_right _ (.tail _ (List.mem_append_right _ hp)))
theorem dueRow_succ {s : Int × List Int} {R : List Wg} {i : Nat} {g : Wg} (e : R[i]? = some g) : dueRow s (R.take (i + 1)) = dueStep (dueRow s (R.take i)) g := by
  rw [take_at e]
  unfold dueRow
  rw [List.foldl_append]
  rfl
theorem dueSt_succ {WS : List (List Wg)} {i : Nat} {R : List Wg} (e : WS[i]? = some R) : dueSt (WS.take (i + 1)) = dueRow (dueSt (WS.take i)) R := by
  rw [take_at e]
  unfold dueSt
  rw [List.foldl_append]
  rfl
theorem dueRow_len (R : List Wg) (hR : ∀ g ∈ R, g.k < 7) : ∀ s : Int × List Int, (dueRow s R).2.length ≤ s.2.length + 3 * R.length ∧ (dueRow s R).1 = s.1 + R.length := by
  induction R with
  | nil => intro s; exact ⟨Nat.le_refl _, (Int.add_zero _).symm⟩
  | cons g R ih =>
    intro s
    have h := ih (fun g hg => hR g (.tail _ hg)) (dueStep s g)
    have h2 := (bareW_len (hR g (.head _))).2
    have h3 : (dueStep s g).2.length ≤ s.2.length + 3 := by
      unfold dueStep
      rw [List.length_append, List.length_map]
      have := List.length_filter_le (· != 32) (bareW g)
      omega
    have h4 : (dueStep s g).1 = s.1 + 1 := rfl
    show (dueRow (dueStep s g) R).2.length ≤ _ ∧ (dueRow (dueStep s g) R).1 = _
    rw [List.length_cons]
    constructor
    · omega
    · rw [h.2, h4]; push_cast; omega
theorem dueSt_len {WS : List (List Wg)} (hW : ∀ R ∈ WS, WFit R) : ∀ {i : Nat}, i ≤ WS.length → (dueSt (WS.take i)).2.length ≤ 12 * i ∧ 0 ≤ (dueSt (WS.take i)).1 ∧ (dueSt (WS.take i)).1 ≤ 4 * i
  | 0, _ => ⟨Nat.le_refl _, Int.le_refl _, Int.le_refl _⟩
  | i + 1, h => by
    have e : WS[i]? = some WS[i] := List.getElem?_eq_getElem h
    rw [dueSt_succ e]
    obtain ⟨h1, h2, h3⟩ := dueSt_len hW (Nat.le_of_succ_le h)
    have fit := hW _ (List.getElem_mem h)
    obtain ⟨h4, h5⟩ := dueRow_len WS[i] fit.2 (dueSt (WS.take i))
    have h6 := fit.1.2
    omega
section
variable {prog : Program} {w : World} {A : Around} {E : Value → Shared → Prop} {s : Shared} {h₀ : Heap} {L a b : Addr} {m : Str → Option Value} {news : List (Addr × Obj)} {vs us : List Value} {n k : Nat} {ns ms : List Int} {Q : Value → Shared → Prop}
theorem ne_intsL (N : News h₀ L s.heap news) (h1 : (a, listOf vs.toArray n) ∈ news) (h2 : (b, listOf us.toArray k) ∈ news) (hi : IntsAre vs ns) (hj : IntsAre us ns) (hu : A.units + 64 < cLine) (h : Q (.bool false) s) : wpAny (model prog w) A (compareOp .NotEq (.ref a) (.ref b)) Q E s :=
  ne_intsK (News.isList N h1) hi (News.isList N h2) hj hu (by simpa using h)
theorem eq_intsL (N : News h₀ L s.heap news) (h1 : (a, listOf vs.toArray n) ∈ news) (h2 : (b, listOf us.toArray k) ∈ news) (hi : IntsAre vs ns) (hj : IntsAre us ns) (hu : A.units + 64 < cLine) (h : Q (.bool true) s) : wpAny (model prog w) A (compareOp .Eq (.ref a) (.ref b)) Q E s :=
  eq_intsK (News.isList N h1) hi (News.isList N h2) hj hu (by simpa using h)
theorem add_intsL (F : Fr h₀ L s.heap m) (N : News h₀ L s.heap news) (h1 : (a, listOf vs.toArray n) ∈ news) (h2 : (b, listOf us.toArray k) ∈ news) (hi : IntsAre vs ns) (hj : IntsAre us ms) (hz : vs.length + us.length ≤ 1000)
    (h : ∀ D ws h', Fr h₀ L h' m → News h₀ L h' ((D, listOf (List.toArray ws) 0) :: news) → (∀ p ∈ news, p.1 < D) → IntsAre ws (ns ++ ms) → Q (.ref D) { s with heap := h' }) : wpAny (model prog w) A (binaryOp .Add (.ref a) (.ref b)) Q E s :=
  kmk_add_ints F N (News.isList N h1) (News.isList N h2) hi hj h (by rw [sizeLine_eq, ← hi.length, ← hj.length]; omega)
end
example : True := by
  k_with "K compareOp NotEq ref ref" => (((k_here; (with_reducible show wpAny _ _ (compareOp CmpOp.NotEq (Value.ref _) (Value.ref _)) _ _ _); k_dflt (refine' ne_intsL ?K9k1 ?K9k2 ?K9k3 ?K9k4 ?K9k5 ?K9k6 ?_; (case K9k1 => k_asm); (case K9k2 => k_mem); (case K9k3 => k_mem); (case K9k4 => assumption); (case K9k5 => assumption); (case K9k6 => (k_extra "units")))); (try dsimp only)))
  trivial
example : True := by
  k_with "K compareOp Eq ref ref" => (((k_here; (with_reducible show wpAny _ _ (compareOp CmpOp.Eq (Value.ref _) (Value.ref _)) _ _ _); k_dflt (refine' eq_intsL ?K9k1 ?K9k2 ?K9k3 ?K9k4 ?K9k5 ?K9k6 ?_; (case K9k1 => k_asm); (case K9k2 => k_mem); (case K9k3 => k_mem); (case K9k4 => first | assumption | exact .nil); (case K9k5 => first | assumption | exact .nil); (case K9k6 => (k_extra "units")))); (try dsimp only)))
  trivial
example : True := by
  k_with "K binaryOp Add ref ref" => (((k_here; (with_reducible show wpAny _ _ (binaryOp Operator.Add (Value.ref _) (Value.ref _)) _ _ _); k_dflt (refine' add_intsL ?K9k1 ?K9k2 ?K9k3 ?K9k4 ?K9k5 ?K9k6 ?K9kz ?_; (case K9k1 => k_asm); (case K9k2 => k_asm); (case K9k3 => k_mem); (case K9k4 => k_mem); (case K9k5 => assumption); (case K9k6 => assumption); (case K9kz => omega)); intro _ _ _ _ _ l1 _; have lall := l1; (try k_lt l1)); (try dsimp only)))
  trivial
example : True := by
  k_with "K eval ListComp Name cons" => ((k_here; (with_reducible show wpAny _ _ (eval (PySem.Expr.ListComp (PySem.Expr.Name (Str.ofString "place") _) _ _ _) _) _ _ _); k_dflt (refine ListComp_signsT (F₀ := by k_asm) (by with_unfolding_all rfl) (by decide) (by rfl) (by decide) (by rfl) ?_ (by intro _; rfl))))
  trivial
theorem due_yes {l : List Nat} {q c : Nat} {p : Int} {ys : List Value} {t : Tok} (h : IntsAre ys (((l.take q).filter (· != 32)).map fun _ => p)) (e : l[q]? = some c) (hc : (Str.mk #[c] != Str.ofString " ") = true) : IntsAre (ys ++ [.int p t]) (((l.take (q + 1)).filter (· != 32)).map fun _ => p) := by
  rw [bne_sp] at hc
  rw [take_at e, List.filter_append, List.map_append]
  have : [c].filter (· != 32) = [c] := by simp [hc]
  rw [this]
  exact ints_snoc h
theorem due_no {l : List Nat} {q c : Nat} {p : Int} {ys : List Value} (h : IntsAre ys (((l.take q).filter (· != 32)).map fun _ => p)) (e : l[q]? = some c) (hc : (Str.mk #[c] != Str.ofString " ") = false) : IntsAre ys (((l.take (q + 1)).filter (· != 32)).map fun _ => p) := by
  rw [bne_sp] at hc
  rw [take_at e, List.filter_append, List.map_append]
  have : [c].filter (· != 32) = [] := by simp [hc]
  rw [this, List.map_nil, List.append_nil]
  exact h
inductive BoR : Value → Bool → Prop
  | mk (b : Bool) : BoR (.bool b) b
noncomputable def idxTo (bs : List Bool) (i : Nat) : List Int := List.map (fun k : Nat => (k : Int)) ((List.range i).filter fun k => bs.getD k false)
theorem idxTo_yes {bs : List Bool} {i : Nat} {zs : List Value} {t : Tok} (h : IntsAre zs (idxTo bs i)) (e : bs[i]? = some true) : IntsAre (zs ++ [.int (i : Int) t]) (idxTo bs (i + 1)) := by
  unfold idxTo
  rw [List.range_succ, List.filter_append, List.map_append]
  have : [i].filter (fun k => bs.getD k false) = [i] := by simp [List.getD_eq_getElem?_getD, e]
  rw [this]
  exact ints_snoc h
theorem idxTo_no {bs : List Bool} {i : Nat} {zs : List Value} (h : IntsAre zs (idxTo bs i)) (e : bs[i]? = some false) : IntsAre zs (idxTo bs (i + 1)) := by
  unfold idxTo
  rw [List.range_succ, List.filter_append, List.map_append]
  have : [i].filter (fun k => bs.getD k false) = [] := by simp [List.getD_eq_getElem?_getD, e]
  rw [this, List.map_nil, List.append_nil]
  exact h

theorem partP19 : True := by
  w_top off
  trivial
theorem law_walk : PySem.Challenge.rw_og0151_01.Holds := hd (by
  k_go0
  (try dsimp only)
  rename Fr _ _ _ _ => F0
  rename News _ _ _ [_, _] => N0
  rename_i hH tkH oa ob dla dlb X0
  rename Shared => s1
  obtain ⟨sh, sg, sd, stk, so⟩ := s1
  (try dsimp only at *)
  generalize hL : sh.objs.size = L at *
  rename Below _ _ _ _ => K0
  replace K0 : Below callerA sh [] sh := K0
  refine gen_never ?_
  refine gen_body fun Q8 hR8 hQ8 => ?_
  refine wpAny_execs_cons ?_
  refine wpAny_mono (Q := LawMid0 (L + 1 + 1) (L + 1) oa ob sh L ⟨sh, sg, sd, stk, so⟩) ?mid0 ?rest0 (fun _ _ e => e)
  case mid0 =>
    k_steps
    all_goals
      (try dsimp only)
      rename IntsAre _ (List.take 40 _) => hI
      rename News _ _ _ _ => N9
      rename Fr _ _ _ _ => F9
      have hl := hI.length
      have hl4 := Nat.le_trans (Nat.le_of_eq hl) (List.length_take_le 40 _)
      rename _ < _ ∧ _ => lX
      revert lX
      rename _ < _ ∧ _ => lY
      intro lX
    · rename 0 < _ => hpos
      exact mid0_of (drop := [_]) F9 N9 hI (by rw [hl]; exact Nat.ne_of_gt hpos) hl4 rfl lX.1 lY.2.1 lY.2.2
    · exact mid0_of (cvs := [.int 0 _]) (drop := [_, _]) F9 N9 (.cons _ _ .nil) (Nat.succ_ne_zero 0) (Nat.le_of_ble_eq_true rfl) rfl lX.1 lY.2.2.1 lY.2.2.2
  case rest0 =>
    rintro f s' ⟨h, tk, m, tp, c, cvs, cs, nt, nc, t, rfl, rfl, F1, N1, hi, hne, hlen, hm, h1, h2, h3⟩
    replace F1 := fr_upd F1 [(Str.ofString "tape", Value.ref tp)] (by
      intro p hp
      obtain rfl := List.mem_singleton.mp hp
      exact hm)
    (try dsimp only)
    (try k_fold)
    k_steps
    rename IsRange _ _ _ _ _ _ _ _ => hr
    rename Fr _ _ _ _ => F2
    rename News _ _ _ _ => N2
    replace F2 : Fr sh L _ _ := F2
    replace N2 : News sh L _ _ := N2
    obtain ⟨la, rfl⟩ := head_at N2
    obtain ⟨ra, rfl⟩ := head_at2 N2
    obtain ⟨n, hn⟩ := range_nat hr (by omega)
    have hn3 : 1 ≤ n ∧ n ≤ 3 := by omega
    have hA1 : @LT.lt Nat _ tp ra ∧ @LT.lt Nat _ ra la := by omega
    generalize hnews : [(c, listOf cvs.toArray nc), (L + 1 + 1, oa), (L + 1, ob)] = news0 at *
    have hcn : (c, listOf cvs.toArray nc) ∈ news0 := by rw [← hnews]; exact .head _
    have hbase : ∀ p ∈ news0, @LE.le Nat _ p.1 c := by
      rw [← hnews]
      intro p hp
      simp only [List.mem_cons, List.not_mem_nil, or_false] at hp
      rcases hp with rfl | rfl | rfl
      · exact Nat.le_refl _
      · exact Nat.le_of_lt h2
      · exact Nat.le_of_lt h3
    refine' turns_range (BOutJ tp c ra la news0) rfl hr hn (by omega) F2 (perm3 N2) ?j0 ?turn ?done (by intro _ _; rfl)
    case j0 =>
      refine .mk (news := news0) (0 + 1) _ nt 0 0 [] [] [] [] rfl (fun _ h => nomatch h) (by decide) (by decide) ?_ .nil .nil (fun _ h => nomatch h) (fun _ h => nomatch h)
      exact mp_cons (by rfl) (mp_cons (by rfl) (mp_cons (by rfl) (mp_nil)))
    case turn =>
      intro i t m₁ nx h tk own hi' hown hJ F3 N3 Qb hnQ hrQ
      cases hJ with | mk kk tk1 nt nr nl rvs lvs WS nw hW hfit hk0 hk1 j1 hT hG h5 h6 =>
      replace F3 := fr_upd F3 _ j1
      simp only [List.cons_append, List.nil_append] at N3
      have hoff : ∀ p ∈ nw ++ news0 ++ own, p.1 ≠ tp ∧ p.1 ≠ ra ∧ p.1 ≠ la := by
        intro p hp
        rcases List.mem_append.mp hp with hp | hp
        · rcases List.mem_append.mp hp with hp | hp
          · exact ⟨h5 p hp _ (.head _), h5 p hp _ (.tail _ (.head _)), h5 p hp _ (.tail _ (.tail _ (.head _)))⟩
          · have hb := hbase p hp
            exact ⟨Nat.ne_of_lt (Nat.lt_of_le_of_lt hb h1), Nat.ne_of_lt (Nat.lt_of_le_of_lt hb (Nat.lt_trans h1 hA1.1)), Nat.ne_of_lt (Nat.lt_of_le_of_lt hb (Nat.lt_trans h1 (Nat.lt_trans hA1.1 hA1.2)))⟩
        · exact ⟨hown p hp _ (.head _), hown p hp _ (.tail _ (.head _)), hown p hp _ (.tail _ (.tail _ (.head _)))⟩
      have hoff1 := fun p hp => (hoff p hp).1
      have hoff2 := fun p hp => (hoff p hp).2.1
      have hoff3 := fun p hp => (hoff p hp).2.2
      have okO : Ok [tp, ra, la] nw news0 own := ⟨fun p hp a ha => all3 (P := fun a => p.1 ≠ a) (hoff p hp).1 (hoff p hp).2.1 (hoff p hp).2.2 a ha, fun p hp q hq => hown p hp _ (.tail _ (.tail _ (.tail _ (List.mem_map.mpr ⟨q, hq, rfl⟩)))), h6⟩
      have hb0 := bOut hk1 hi' hn3.2
      have hcn2 : (c, listOf cvs.toArray nc) ∈ nw ++ news0 ++ own := List.mem_append_left _ (List.mem_append_right _ hcn)
      k_steps
      rename IsRange _ _ _ _ _ _ _ _ => hr
      rename Fr _ _ _ _ => F4
      rename News _ _ _ _ => N4
      rename _ < _ ∧ _ < _ ∧ _ < _ ∧ _ < _ ∧ AllLt _ _ => lmo
      rename _ < _ ∧ _ < _ ∧ _ < _ ∧ AllLt _ _ => lro
      obtain ⟨mo, rfl⟩ := head_at N4
      obtain ⟨ro, rfl⟩ := head_at2 N4
      obtain ⟨nn, hnn⟩ := range_nat hr (by omega)
      have hnn3 : 1 ≤ nn ∧ nn ≤ 4 := by omega
      have hro := tb_ltOf lro.2.2.2
      have hmo := tb_ltOf lmo.2.2.2.2
      generalize hnews1 : (ra, listOf rvs.toArray nr) :: (la, listOf lvs.toArray nl) :: (nw ++ news0 ++ own) = news1 at *
      have hcn1 : (c, listOf cvs.toArray nc) ∈ news1 := by rw [← hnews1]; exact .tail _ (.tail _ hcn2)
      have hbase1 : ∀ p ∈ news1, p.1 ≠ tp ∧ p.1 ≠ ro ∧ p.1 ≠ mo := by
        rw [← hnews1]
        intro p hp
        rcases List.mem_cons.mp hp with rfl | hp
        · exact ⟨neN (by dsimp only; omega), neN (by dsimp only; omega), neN (by dsimp only; omega)⟩
        rcases List.mem_cons.mp hp with rfl | hp
        · exact ⟨neN (by dsimp only; omega), neN (by dsimp only; omega), neN (by dsimp only; omega)⟩
        · exact ⟨hoff1 p hp, Nat.ne_of_lt (hro p hp), Nat.ne_of_lt (hmo p hp)⟩
      refine' turns_range (BInJ tp c ra la ro mo i (kk + 1) news1) rfl hr hnn (by omega) F4 (perm3 N4) ?i0 ?iturn ?idone (by intro _ _; rfl)
      case i0 =>
        refine' .mk (news := news1) (kk + 1) 0 _ _ _ nt 0 0 [] [] [] [] rfl (fun _ h => nomatch h) (by omega) (Int.le_add_of_nonneg_right (by decide)) rfl ?h7 .nil .nil (fun _ h => nomatch h) (fun _ h => nomatch h)
        case h7 =>
          exact mp_cons (by rfl) (mp_cons (by rfl) (mp_cons (by rfl) (mp_cons (by rfl) (mp_cons (by rfl) (mp_cons (by rfl) (mp_cons (by rfl) (mp_nil)))))))
      case iturn =>
        intro i2 t2 m₂ nx h tk own2 hi2 hown2 hJ F5 N5 Qb hnQ hrQ
        cases hJ with | mk kk2 x tk2 tx1 tkv nt2 nr2 nm2 tvs gvs R nw2 hR hfit2 hk2 hk3 hx j2 hT2 hG2 h52 h62 =>
        replace F5 := fr_upd F5 _ j2
        simp only [List.cons_append, List.nil_append] at N5
        have ok : Ok [tp, ro, mo] nw2 news1 own2 := by
          refine ⟨fun p hp a ha => ?_, fun p hp q hq => hown2 p hp _ (.tail _ (.tail _ (.tail _ (List.mem_map.mpr ⟨q, hq, rfl⟩)))), h62⟩
          rcases List.mem_append.mp hp with hp | hp
          · rcases List.mem_append.mp hp with hp | hp
            · exact h52 p hp a ha
            · exact all3 (P := fun a => p.1 ≠ a) (hbase1 p hp).1 (hbase1 p hp).2.1 (hbase1 p hp).2.2 a ha
          · exact all3 (P := fun a => p.1 ≠ a) (hown2 p hp _ (.head _)) (hown2 p hp _ (.tail _ (.head _))) (hown2 p hp _ (.tail _ (.tail _ (.head _)))) a ha
        have ioff1 := fun p hp => ok.off p hp tp (.head _)
        have ioff2 := fun p hp => ok.off p hp ro (.tail _ (.head _))
        have ioff3 := fun p hp => ok.off p hp mo (.tail _ (.tail _ (.head _)))
        have hcn3 : (c, listOf cvs.toArray nc) ∈ nw2 ++ news1 ++ own2 := List.mem_append_left _ (List.mem_append_right _ hcn1)
        obtain ⟨g1, g2, g3, g4⟩ := glSt_fit R hfit2
        have ltv := hT2.length
        have lgv := hG2.length
        have hx0 : 0 ≤ x ∧ x ≤ 100 := by rw [hx]; exact ⟨g2, bX g3 hR hi2 hnn3.2⟩
        have hb1 := bIn hk1 hk3 hi' hn3.2 hi2 hnn3.2
        have hb2 := bLt ltv hR hi2 hnn3.2
        have hb3 := bLt (lgv.trans g1) hR hi2 hnn3.2
        k_steps
        k_steps
        rename News _ _ _ _ => N9
        rename Fr _ _ _ _ => F9
        change InvEndG sh L _ own2 _ _
        refine' bin_turn ?zF ?zN ok ?zD ?z5 ?z4 ?z3 ?z2 ?z1 hR hfit2 ?zk ?z6 ?z7 ?zx hT2 hG2 ?zg ?d1 ?d2 ?d3 ?d4 ?m1 ?m2 ?m3 ?m4 ?m5 ?m6 ?m7
        case zF => exact F9
        case zN => exact N9
        case zD => assumption
        case z5 => assumption
        case z4 => assumption
        case z3 => assumption
        case z2 => assumption
        case z1 => assumption
        case zg => assumption
        case d1 => assumption
        case d2 => assumption
        case d3 => assumption
        case d4 => assumption
        case zk => omega
        case z6 => omega
        case z7 => exact bK2 hk3
        case zx => rw [hx]
        case m1 => exact rfl
        case m2 => exact rfl
        case m3 => exact rfl
        case m4 => exact rfl
        case m5 => exact rfl
        case m6 => exact rfl
        case m7 => exact rfl
      case idone =>
        intro m₂ nx h tk hJ F5 N5
        cases hJ with | mk kk2 x tk2 tx1 tkv nt2 nr2 nm2 tvs gvs R nw2 hR hfit2 hk2 hk3 hx j2 hT2 hG2 h52 h62 =>
        subst hnews1
        replace F5 := fr_upd F5 _ j2
        simp only [List.cons_append, List.nil_append] at N5
        have lrv := hT.length
        have llv := hG.length
        rw [List.length_map] at llv
        have hnla : ∀ p ∈ nw2, p.1 ≠ la := fun p hp => Nat.ne_of_gt (h62 p hp _ (.tail _ (.head _)))
        k_steps
        rename News _ _ _ _ => N9
        rename Fr _ _ _ _ => F9
        change InvEndG sh L _ own _ _
        refine' bout_turn ?zF ?zN okO h52 h62 lro lmo hW hfit ⟨⟨?z1, ?z2⟩, hfit2⟩ ?z3 ?z4 hT hG hT2 hG2 ?m1 ?m2 ?m3
        case zF => exact F9
        case zN => exact N9
        case z1 =>
          intro e
          rw [e] at hR
          have : (0 : Nat) = nn := hR
          omega
        case z2 => omega
        case z3 => omega
        case z4 => exact bK1 hk1 hk3 hnn3.2
        case m1 => exact rfl
        case m2 => exact rfl
        case m3 => exact rfl
    case done =>
      intro m₁ nx h tk hJ F3 N3
      cases hJ with | mk kk tk1 nt nr nl rvs lvs WS nw hW hfit hk0 hk1 j1 hT hG h5 h6 =>
      replace F3 := fr_upd F3 _ j1
      subst hnews
      simp only [List.cons_append, List.nil_append] at N3
      have lrv := hT.length
      have llv := hG.length
      rw [List.length_map] at llv
      have hrow : ∀ G ∈ WS.map (fun R => (glSt R).2), RowFit G := by
        intro G hG
        obtain ⟨R, hR, rfl⟩ := List.mem_map.mp hG
        exact gl_rowfit (hfit R hR)
      have hW3 : WS.length ≤ 3 := by rw [hW]; exact hn3.2
      have hrv3 : rvs.length ≤ 3 := by rw [lrv]; exact hW3
      have hlv3 : lvs.length ≤ 3 := by rw [llv]; exact hW3
      have hlen51 := joined_len hrow (by rw [List.length_map]; exact hW3)
      have told := law_told WS hfit
      have da : oa.data = .cell none := by rw [dla]; rfl
      have db : ob.data = .cell none := by rw [dlb]; rfl
      k_steps
      rename News _ _ _ _ => N4
      rename Fr _ _ _ _ => F4
      rename RowOut _ _ _ => D4
      have led := law_end N4 D4 hT da db (Nat.succ_ne_self _)
      clear N4 D4
      generalize joined (WS.map fun R => (glSt R).2) = S at told led hlen51
      cases led with | mk fvs fn rest N5 fA hT5 oA oB nA nB =>
      obtain ⟨ttxt, tdue, tsoft, tblank⟩ := told
      have flen := fA.length
      have hf51 : fvs.length ≤ 51 := by rw [flen]; exact hlen51
      refine LCg.CompSrc.ledger (k := fn) rfl F4 N5 (.tail _ (.head _)) (by rw [sizeLine_eq, List.size_toArray]; omega) fun gg => ?_
      rw [List.size_toArray]
      refine compU_same (fun i ys => Are ChR ys ((S.take i).map Sg.c)) .nil ?fin1 ?tn1
      case tn1 =>
        intro i ys v I oI Cc oC D m₂ hh tkk E' Qy hi hA hv hC hx FC NC off ne3 hy
        obtain ⟨x, ex, hg⟩ := fA.at (i := i) (by simpa using hv)
        cases hg with | mk xa xt1 xt2 xn xc xp xb xm =>
        k_steps
        ((first | refine hy _ _ ?_ | refine hn _ ?_); exact CompEnd.sameL (by assumption) (by assumption) off (.tail _ (.head _)) (.mk (hA.take_at ex (.mk _ _))))
      case fin1 =>
        intro ys hA
        intro D hD tkD FD ND offD
        rw [flen, List.take_length, ttxt] at hA
        have hz : ys.length ≤ 1000 := by rw [hA.length, ← ttxt, List.length_map]; omega
        k_steps
        have N6 := news_perm ND fun _ hp => List.mem_cons_of_mem _ hp
        clear ND offD hA hz
        refine LCt.CompSrcT.ledger (k := fn) rfl FD N6 (.tail _ (.head _)) (by rw [sizeLine_eq, List.size_toArray]; omega) fun gg2 => ?_
        rw [List.size_toArray]
        refine compT_same (fun i ys => IntsAre ys ((solid (S.take i)).map Sg.p)) .nil ?fin2 ?tn2
        case tn2 =>
          intro i ys v I oI Cc oC D m₂ hh tkk E' Qy Qn hi hA hv hC hx FC NC off ne3 hy hn
          obtain ⟨x, ex, hg⟩ := fA.at (i := i) (by simpa using hv)
          cases hg with | mk xa xt1 xt2 xn xc xp xb xm =>
          k_steps
          · ((first | refine hy _ _ ?_ | refine hn _ ?_); exact CompEnd.sameL (by assumption) (by assumption) off (.tail _ (.head _)) (.mk (by rw [solid_yes ex (by assumption), List.map_append]; exact ints_snoc hA)))
          · ((first | refine hy _ _ ?_ | refine hn _ ?_); exact CompEnd.sameL (by assumption) (by assumption) off (.tail _ (.head _)) (.mk (by rw [solid_no ex (by assumption)]; exact hA)))
        case fin2 =>
          intro ys2 hA
          rw [flen, List.take_length, tdue] at hA
          unfold LCg.FinA
          intro D2 hD2 tkD2 FD2 ND2 offD2
          have lys2 := hA.length
          have N7 := law_due (fvs := fvs) ND2 offD2 fA hT5 oA oB nA nB
          clear ND2 offD2 fA hT5 oA oB nA nB N6 FD
          cases N7 with | mk o2 N7 oB oA nAB mP mS mF mR fA hT5 =>
          k_steps
          rename Fr _ _ _ _ => F8
          rename News _ _ _ _ => N8
          obtain ⟨dd, rfl⟩ := head_at N8
          obtain ⟨sf, rfl⟩ := fst_of mS
          obtain ⟨fd, rfl⟩ := fst_of mF
          refine' turns_list (DueJ [(Str.ofString "places", .ref D2), (Str.ofString "soft", .ref sf), (Str.ofString "found", .ref fd), (Str.ofString "rows", .ref ra)] (L + 1) ((L + 1 + 1, oa) :: o2) fun i => dueSt (WS.take i)) ?hh ?hr8 F8 N8 ?dj0 ?dturn ?ddone
          case hh => rfl
          case hr8 => exact .tail _ (.tail _ (.tail _ mR))
          case dj0 =>
            refine' .mk dd _ [] _ _ ?h1 .nil ?h2 ?h3
            case h1 =>
              exact mp_cons (by rfl) (mp_cons (by rfl) (mp_cons (by rfl) (mp_cons (by rfl) (mp_cons (by rfl) (mp_nil)))))
            case h2 => assumption
            case h3 =>
              rename _ < dd ∧ _ < dd ∧ AllLt dd _ => ldd
              intro p hp
              rcases List.mem_cons.mp hp with rfl | hp
              · exact neN (by dsimp only; omega)
              · exact Nat.ne_of_lt (tb_ltOf ldd.2.2 p hp)
          case dturn =>
            intro i v m₁ nx h tk own hv hown hml hJ F9 N9 Qb hnQ hrQ
            cases hJ with | mk dd nd dvs oa' t g1 gd ga ho =>
            replace F9 := fr_upd F9 _ g1
            simp only [List.cons_append] at N9
            obtain ⟨R, eR, hg⟩ := hT5.at hv
            have fit := hfit R (List.mem_of_getElem? eR)
            have hi : i < WS.length := (List.getElem?_eq_some_iff.mp eR).1
            obtain ⟨b1, b2, b3⟩ := dueSt_len hfit (Nat.le_of_lt hi)
            cases hg with | mk ta tvs tn _ tm hTx =>
            k_steps
            rename Fr _ _ _ _ => F10
            rename News _ _ _ _ => N10
            refine' turns_list (DueJ [(Str.ofString "places", .ref D2), (Str.ofString "soft", .ref sf), (Str.ofString "found", .ref fd), (Str.ofString "rows", .ref ra)] (L + 1) ((L + 1 + 1, oa) :: (o2 ++ own)) fun j => dueRow (dueSt (WS.take i)) (R.take j)) ?hh ?hr8 F10 N10 ?e0 ?eturn ?edone
            case hh => rfl
            case hr8 => exact .tail _ (.tail _ (.tail _ (List.mem_append_left _ tm)))
            case e0 =>
              refine' .mk dd nd dvs oa' t ?h1 gd ga ?h2
              case h1 =>
                exact mp_cons (by rfl) (mp_cons (by rfl) (mp_cons (by rfl) (mp_cons (by rfl) (mp_cons (by rfl) (mp_nil)))))
              case h2 =>
                intro p hp
                rcases List.mem_cons.mp hp with rfl | hp
                · exact ho _ (.head _)
                rcases List.mem_append.mp hp with hp | hp
                · exact ho p (.tail _ hp)
                · exact hown p hp _ (.head _)
            case eturn =>
              intro j v m₂ nx h tk own2 hv2 hown2 hml2 hJ F11 N11 Qb hnQ hrQ
              cases hJ with | mk dd2 nd2 dvs2 oa2 t2 g12 gd2 ga2 ho2 =>
              replace F11 := fr_upd F11 _ g12
              simp only [List.cons_append] at N11
              obtain ⟨g, eg1, hg⟩ := hTx.at hv2
              have hj : j < R.length := (List.getElem?_eq_some_iff.mp eg1).1
              have gk7 := fit.2 _ (List.mem_of_getElem? eg1)
              cases hg with | mk xa xt xn gk gb xm =>
              replace gk7 : gk < 7 := gk7
              have hsz3 := (bareW_len (g := ⟨gk, gb⟩) gk7).2
              have hsz : ((C gk).map plainC).length ≤ 3 := hsz3
              have xm2 : (xa, tupO [.str (Mine.T gk) xt, .bool gb] xn) ∈ o2 ++ own ++ own2 := List.mem_append_left _ (List.mem_append_left _ xm)
              have nd2A := ne_cell N11 (.head _) (.tail _ (.head _)) ga2
              have offA : ∀ p ∈ (L + 1 + 1, oa) :: (o2 ++ own ++ own2), p.1 ≠ L + 1 := by
                intro p hp
                rcases List.mem_cons.mp hp with rfl | hp
                · exact oB _ (.head _)
                rcases List.mem_append.mp hp with hp | hp
                · rcases List.mem_append.mp hp with hp | hp
                  · exact oB p (.tail _ hp)
                  · exact hown p hp _ (.tail _ (.head _))
                · exact hown2 p hp _ (.tail _ (.head _))
              obtain ⟨b4, b5⟩ := dueRow_len (R.take j) (fun g hg => fit.2 g (List.mem_of_mem_take hg)) (dueSt (WS.take i))
              have b6 := gd2.length
              have b7 : (R.take j).length ≤ 4 := Nat.le_trans (List.length_take_le' j R) fit.1.2
              generalize hds : dueRow (dueSt (WS.take i)) (R.take j) = ds at gd2 ga2 b4 b5 b6
              obtain ⟨pl, dl⟩ := ds
              dsimp only at gd2 ga2 b4 b5 b6
              have bpl := bPl b5 b2 b3 hi hW3 b7
              have bdl : dvs2.length ≤ 60 := by rw [b6]; exact bDl b4 b1 hi hW3 b7
              k_steps
              refine .mk _ _ _ _ rfl (by assumption) (by assumption) (by show ((C gk).map plainC).toArray.size ≤ _; rw [sizeLine_eq, List.size_toArray]; omega) fun gg => ?_
              refine compT_same (fun q ys => IntsAre ys ((((C gk).map plainC).take q |>.filter (· != 32)).map fun _ => pl)) .nil ?fin3 ?tn3
              case tn3 =>
                intro q ys v I oI Cc oC D m₂ hh tkk E' Qy Qn hq hA3 hv hC hx FC NC off ne3 hy hn
                obtain ⟨cc, uu, ec, rfl⟩ := hv
                have ec : ((C gk).map plainC)[q]? = some cc := by simpa using ec
                k_steps
                · ((first | refine hy _ _ ?_ | refine hn _ ?_); exact CompEnd.same (by assumption) (by assumption) off (.mk (due_yes hA3 ec (by assumption))))
                · ((first | refine hy _ _ ?_ | refine hn _ ?_); exact CompEnd.same (by assumption) (by assumption) off (.mk (due_no hA3 ec (by assumption))))
              case fin3 =>
                intro ys hA3
                intro D hD tkD FD ND offD
                simp only [List.size_toArray] at hA3
                rw [List.take_length] at hA3
                have nDA := Ne.symm (off1_mem offD (L + 1, oa2) (.tail _ (.head _)))
                replace nDA : @Ne Nat D (L + 1) := nDA
                have lA3 := hA3.length
                rw [List.length_map] at lA3
                have lA4 := List.length_filter_le (· != 32) ((C gk).map plainC)
                have lA5 : ys.length ≤ 3 := by rw [lA3]; exact Nat.le_trans lA4 hsz
                k_steps
                rename News _ _ _ _ => N12
                rename Fr _ _ _ _ => F12
                rename _ < _ ∧ _ < _ ∧ _ < _ ∧ _ < _ ∧ AllLt _ _ => ldd
                rename _ = Data.cell _ => da3
                change InvEndG sh L _ own2 _ _
                refine' due_turn (pre := [_, _]) F12 N12 (fun p hp b hb => hown2 p hp b (.tail _ hb)) ?hdd ?hz ?hv ?hd ?ha ?hk ?ho
                case hdd => exact fun p hp => Nat.ne_of_lt (tb_ltOf ldd.2.2.2.2 p (List.mem_append_right _ hp))
                case hz => rfl
                case hv =>
                  exact mp_cons (by rfl) (mp_cons (by rfl) (mp_cons (by rfl) (mp_cons (by rfl) (mp_nil))))
                case hd =>
                  rw [dueRow_succ eg1, hds]
                  assumption
                case ha =>
                  rw [dueRow_succ eg1, hds]
                  exact da3
                case hk =>
                  intro p hp
                  rw [List.mem_singleton.mp hp]
                  exact .tail _ (List.mem_append_left _ tm)
                case ho =>
                  intro p hp
                  rcases List.mem_cons.mp hp with rfl | hp
                  · exact Nat.ne_of_lt ldd.2.2.2.1
                  · exact Nat.ne_of_lt (tb_ltOf ldd.2.2.2.2 p (List.mem_append_left _ hp))
            case edone =>
              intro m₂ nx h tk hJ F11 N11
              cases hJ with | mk dd2 nd2 dvs2 oa2 t2 g12 gd2 ga2 ho2 =>
              replace F11 := fr_upd F11 _ g12
              rw [show tvs.length = R.length from hTx.length, List.take_length, ← dueSt_succ eR] at gd2 ga2
              k_steps
              change InvEndG sh L _ own _ _
              refine' due_turn (pre := []) F11 N11 (fun p hp b hb => hown p hp b (.tail _ hb)) ?hdd ?hz ?hv gd2 ga2 ?hk ?ho
              case hdd => exact fun p hp => ho2 p (.tail _ (List.mem_append_right _ hp))
              case hz => rfl
              case hv =>
                exact mp_cons (by rfl) (mp_cons (by rfl) (mp_cons (by rfl) (mp_cons (by rfl) (mp_nil))))
              case hk =>
                intro p hp
                rw [List.mem_singleton.mp hp]
                exact .tail _ mR
              case ho =>
                intro p hp
                rcases List.mem_cons.mp hp with rfl | hp
                · exact ho2 _ (.head _)
                · exact ho2 p (.tail _ (List.mem_append_left _ hp))
          case ddone =>
            intro m₁ nx h tk hJ F9 N9
            cases hJ with | mk dd nd dvs oa' t g1 gd ga ho =>
            replace F9 := fr_upd F9 _ g1
            rw [show rvs.length = WS.length from lrv, List.take_length] at gd ga
            k_steps
            refine LCt.CompSrcT.ledger (k := fn) rfl F9 N9 (.tail _ (.tail _ (.tail _ mF))) (by rw [sizeLine_eq, List.size_toArray]; omega) fun gg3 => ?_
            rw [List.size_toArray]
            refine compT_same (fun i ys => Are BoR ys ((solid (S.take i)).map Sg.b)) .nil ?fin4 ?tn4
            case tn4 =>
              intro i ys v I oI Cc oC D m₂ hh tkk E' Qy Qn hi hA4 hv hC hx FC NC off ne3 hy hn
              obtain ⟨x, ex, hg⟩ := fA.at (i := i) (by simpa using hv)
              cases hg with | mk xa xt1 xt2 xn xc xp xb xm =>
              k_steps
              · ((first | refine hy _ _ ?_ | refine hn _ ?_); exact CompEnd.sameL (by assumption) (by assumption) off (.tail _ (.tail _ (.tail _ mF))) (.mk (by rw [solid_yes ex (by assumption), List.map_append]; exact hA4.append (.one (.mk _)))))
              · ((first | refine hy _ _ ?_ | refine hn _ ?_); exact CompEnd.sameL (by assumption) (by assumption) off (.tail _ (.tail _ (.tail _ mF))) (.mk (by rw [solid_no ex (by assumption)]; exact hA4)))
            case fin4 =>
              intro ys hA4
              rw [flen, List.take_length] at hA4
              intro D hD tkD FD ND offD
              have nDA := Ne.symm (off1_mem offD (L + 1 + 1, oa) (.tail _ (.tail _ (.head _))))
              replace nDA : @Ne Nat D (L + 1 + 1) := nDA
              have ndA := Ne.symm (ho _ (.head _))
              replace ndA : @Ne Nat dd (L + 1 + 1) := ndA
              have ly : ys.length ≤ 100 := by
                rw [hA4.length, List.length_map]
                have := List.length_filter_le (fun x : Sg => x.c != 32) S
                exact Nat.le_trans this (by omega)
              have z1 : LenAt ys ys.length := ⟨rfl, by omega⟩
              k_steps
              rename IsRange _ _ _ _ _ _ _ _ => hr5
              rename Fr _ _ _ _ => F13
              rename News _ _ _ _ => N13
              rename _ = Data.cell _ => ds5
              refine LCt.CompSrcT.range (n := ys.length) rfl F13 N13 hr5 (small_one (by omega) (by omega) (by omega) (by omega)) (by rw [rangeSize_nat]; omega) (by rw [sizeLine_eq]; omega) fun gg => ?_
              refine compT_same (fun i zs => IntsAre zs (idxTo ((solid S).map Sg.b) i)) .nil ?fin5 ?tn5
              case tn5 =>
                intro i zs v I oI Cc oC D m₂ hh tkk E' Qy Qn hi hA5 hv hC hx FC NC off ne3 hy hn
                obtain ⟨tv, rfl⟩ := hv
                rw [Int.zero_add] at hx
                obtain ⟨v, hv, hg⟩ := hA4.get (i := i) (by rw [← hA4.length]; exact hi)
                have eS : ((solid S).map Sg.b)[i]? = some _ := List.getElem?_eq_getElem (by rw [← hA4.length]; exact hi)
                generalize ((solid S).map Sg.b)[i]'_ = b at hg eS
                cases hg with | mk b =>
                have z2 : ItemAt ys (i : Int) (.bool b) := .pos (by omega) (by omega) (by simpa using hv)
                cases b
                · k_steps
                  ((first | refine hy _ _ ?_ | refine hn _ ?_); exact CompEnd.same (by assumption) (by assumption) off (.mk (idxTo_no hA5 eS)))
                · k_steps
                  ((first | refine hy _ _ ?_ | refine hn _ ?_); exact CompEnd.same (by assumption) (by assumption) off (.mk (idxTo_yes hA5 eS)))
              case fin5 =>
                intro zs hA5
                rw [hA4.length] at hA5
                replace hA5 : IntsAre zs (idxB ((solid S).map Sg.b)) := hA5
                rw [tsoft] at hA5
                intro D hD tkD FD ND offD
                k_steps
                refine LCt.CompSrcT.ledger (k := fn) rfl FD ND (.tail _ (.tail _ (.tail _ (.tail _ (.tail _ mF))))) (by rw [sizeLine_eq, List.size_toArray]; omega) fun gg6 => ?_
                rw [List.size_toArray]
                refine compT_same (fun _ ys => ys = []) rfl ?fin6 ?tn6
                case tn6 =>
                  intro i ys v I oI Cc oC D m₂ hh tkk E' Qy Qn hi hA6 hv hC hx FC NC off ne3 hy hn
                  obtain ⟨x, ex, hg⟩ := fA.at (i := i) (by simpa using hv)
                  have hbl := tblank x (List.mem_of_getElem? ex)
                  cases hg with | mk xa xt1 xt2 xn xc xp xb xm =>
                  have hbl2 : xb = true → (Str.mk #[xc] == Str.ofString " ") = false := by
                    intro h
                    rw [beq_sp]
                    cases e : xc == 32
                    · rfl
                    · rw [show xb = false from hbl (by simpa using e)] at h
                      cases h
                  cases xb
                  · k_steps
                    all_goals ((first | refine hy _ _ ?_ | refine hn _ ?_); exact CompEnd.sameL (by assumption) (by assumption) off (.tail _ (.tail _ (.tail _ (.tail _ (.tail _ mF))))) (.mk hA6))
                  · replace hbl2 := hbl2 rfl
                    k_steps
                    all_goals ((first | refine hy _ _ ?_ | refine hn _ ?_); exact CompEnd.sameL (by assumption) (by assumption) off (.tail _ (.tail _ (.tail _ (.tail _ (.tail _ mF))))) (.mk hA6))
                case fin6 =>
                  intro ys hA6
                  subst hA6
                  intro D hD tkD FD ND offD
                  k_steps)
end Mine
theorem PySem.Challenge.cw_og0151_01_holds : PySem.Challenge.rw_og0151_01.Holds := by
  exact Mine.law_walk
