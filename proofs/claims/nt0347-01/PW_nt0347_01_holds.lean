import PyProof.Rows.All
import Wide.All
import OpenK.AllK
import Wide.FinOn
import PySem.Challenge.RW_nt0347_01
open PySem PySem.W PyProof.Rows
set_option Elab.async false
set_option maxRecDepth 100000
set_option maxHeartbeats 8000000
set_option rowWalk.seconds 0
-- part T1
namespace Mine
section
local macro_rules | `(tactic| o_head $h) => `(tactic| (have := $h; assumption))
theorem hk (h : PySem.Challenge.rw_nt0347_01.row.Holds) : PySem.Challenge.rw_nt0347_01.row.Holds := by k_head
end
theorem hsaid0 : looksOpen PySem.Challenge.rw_nt0347_01.row.prog = true := by
  delta looksOpen
  repeat' (with_reducible refine look_both ?_ ?_)
  all_goals (
    try rewrite [PySem.W.Fast.te8377067652309620493]
    try rewrite [PySem.W.Fast.te8326940854005059898]
    try rewrite [PySem.W.Fast.te17119622794617984870]
    try rewrite [PySem.W.Fast.named_eq]
    try rewrite [PySem.W.Fast.te6984425678791042302]
    first
    | with_reducible assumption
    | kernel_rfl)
theorem hsaid1 : PySem.Challenge.rw_nt0347_01.row.wellSaid = true := by
  have h0 := hsaid0
  repeat' (first | (with_reducible refine look_both ?_ ?_) | delta OpenRow.wellSaid | delta OpenRow.partSaid)
  all_goals (
    try rewrite [PySem.W.Fast.te8377067652309620493]
    try rewrite [PySem.W.Fast.te8326940854005059898]
    try rewrite [PySem.W.Fast.te17119622794617984870]
    try rewrite [PySem.W.Fast.named_eq]
    try rewrite [PySem.W.Fast.te6984425678791042302]
    first
    | with_reducible assumption
    | kernel_rfl)
theorem hsaid : PySem.Challenge.rw_nt0347_01.wellSaid = true := by
  have h1 := hsaid1
  delta OpenLaw.wellSaid
  repeat' (with_reducible refine look_both ?_ ?_)
  all_goals (
    try rewrite [PySem.W.Fast.te8377067652309620493]
    try rewrite [PySem.W.Fast.te8326940854005059898]
    try rewrite [PySem.W.Fast.te17119622794617984870]
    try rewrite [PySem.W.Fast.named_eq]
    try rewrite [PySem.W.Fast.te6984425678791042302]
    first
    | with_reducible assumption
    | kernel_rfl)
noncomputable def vkeep : List Nat := [1, 2, 3, 4, 5, 6, 7, 8, 9, 10, 12, 13, 14, 15, 17, 18, 19, 20, 21, 22, 23, 24, 25, 26, 27, 28, 29, 30, 32, 33, 34, 35, 36, 37, 38, 39]
noncomputable def vq : Program := PySem.W.view PySem.Challenge.pw_nt0347_01 vkeep
noncomputable def vloose : List PySem.Str := ["GREAT", "TURNS", "GREAT_ALONE", "SMALL_ALONE", "SMALL_WIDE", "GREAT_WIDE", "BLANKS", "LINE_ENDS"]
theorem names_ok : namesOk vq (looseW vq vloose) (namesW vq vloose) = true := by
  rewrite [PySem.W.Fast.te17448422675489707002, PySem.W.Fast.te821141287760084731]
  kernel_rfl
theorem imp_none : importsNone vq = true := by kernel_rfl
noncomputable def haddrs : List Addr := [2, 3, 15, 16, 17, 18, 19, 20, 21, 22, 23, 24, 25, 26, 27, 28, 29, 30, 31, 32, 33, 34, 35, 36, 37, 38, 39, 40, 41, 42, 43, 44, 46, 47, 49, 50, 51, 53, 54, 56, 57, 58, 60, 61, 63, 64, 65, 67, 68, 70, 71, 72, 73, 74, 76, 77, 79, 80, 81, 83, 84, 86, 87, 88, 90, 91, 93, 94, 95, 97, 98, 100, 101, 102, 104, 105, 107, 108, 109, 111, 112, 114, 115, 116, 118, 119, 121, 122, 123, 125, 126, 128, 129, 130, 132, 133, 135, 136, 137, 139, 140, 142, 143, 144, 146, 147, 149, 150, 151, 153, 154, 156, 157, 158, 160, 161, 163, 164, 165, 167, 168, 170, 171, 172, 174, 175, 177, 178, 179, 182, 183, 184, 186, 187, 189, 190, 191, 194, 195, 196, 198, 199, 201, 202, 203, 205, 206, 208, 209, 210, 212, 213, 215, 216, 217, 219, 220, 222, 223, 224, 226, 227, 229, 230, 231, 234, 235]
theorem haddrs_eq (P : Params) : haddrs = (hk.heap_1 P).map (·.1) := by kernel_rfl
noncomputable abbrev hhook : Hook := kHook hk.heap_1 haddrs haddrs_eq
abbrev hrow : OpenRow := PySem.Challenge.rw_nt0347_01.row
noncomputable abbrev hxt (s : Shared) : Bool := xlAt vq [] s && recOk (RowW.records hrow.toRowW) s
/-- the heap behind the top: the written part, the heap of the start-up, and between them what no name reaches (a def's template, a code's own table) -/
noncomputable def hboot (P : Params) : List Obj := [boot_o_0 P, boot_o_1 P, default, default, boot_o_4 P, boot_o_5 P, boot_o_6 P, boot_o_7 P, boot_o_8 P, boot_o_9 P, boot_o_10 P,
  { cls := .type "tuple", data := .seq #[] },
  { cls := .none, data := .fields ([(8, 49), (18, 56), (28, 63), (34, 70), (43, 79), (45, 86), (48, 93), (50, 100), (52, 107), (56, 114), (60, 121), (65, 128), (67, 135), (72, 142), (77, 149), (95, 156), (98, 163), (105, 170), (122, 177), (129, 182), (132, 189), (139, 194), (153, 201), (156, 208), (162, 215), (174, 222), (181, 229), (208, 234)].flatMap fun (x : Int × Nat) => [Value.int x.1 0, .int 0 0, .ref x.2]).toArray },
  { cls := .type "code", data := .fields #[.str "<module>" 182, .str "<module>" 183, .str "/claim/cut.py" 184, .int 1 0, .int 0 0, .int 0 0, .int 0 0, .int 0 0, .ref 11, .bool false, .int 181 0, .ref 12, .none, .none, .none, .none, .int 185 0, .int 1 0, .str "/claim/cut.py" 186] },
  { cls := .type "frame", slots := #[some (.ref 13), some (.ref 3), some (.ref 3), none, some (.str "__main__" 164), none, some (.ref 0)] }]
noncomputable def hgap (B : List Obj) (a : Nat) (r : Frag) : Obj := match B[a]? with
  | some o => o
  | none => match r.lookup (a + 2) with
    | some ⟨_, _, .func f, _⟩ => { cls := .none, data := .func { name := f.name, qualname := f.qualname, params := f.params, body := f.body, scope := f.scope, globals := 0, closure := [], defaults := .none, kwdefaults := .none } }
    | _ => { cls := .none, data := .fields #[] }
noncomputable def hmerge (B : List Obj) : Nat → Nat → Frag → List Obj
  | 0, _, _ => []
  | n + 1, a, [] => hgap B a [] :: hmerge B n (a + 1) []
  | n + 1, a, (b, o) :: r => match Nat.beq a b with
    | true => o :: hmerge B n (a + 1) r
    | false => hgap B a ((b, o) :: r) :: hmerge B n (a + 1) ((b, o) :: r)
noncomputable def hheap (P : Params) : Heap := ⟨⟨hmerge (hboot P) 236 0 (hk.heap_1 P)⟩, {}⟩
noncomputable abbrev hs0 (w : World) (os : OsState) : Shared := ⟨boot_heap w.params, Array.mk [], boot_drawn, boot_toks, os⟩
noncomputable abbrev hs1 (w : World) (os : OsState) : Shared := ⟨hheap w.params, Array.mk [], boot_drawn, 570, os⟩
noncomputable abbrev hrun (w : World) : Prop := (fun os => topRun treeTable PySem.Challenge.pw_nt0347_01 w 11 (some (.ref 6)) 1288 (hs0 w os) (topStub PySem.Challenge.pw_nt0347_01)) = fun os => some (hs1 w os)
theorem hrun_f : ∀ w : World, hrun (w.withFollow "special-get-raises" false) := fun w => by
  unfold hrun
  rewrite [PySem.W.Fast.te14082659384304107361, PySem.W.Fast.te14364793385576792824]
  kernel_rfl
theorem hrun_t : ∀ w : World, hrun (w.withFollow "special-get-raises" true) := fun w => by
  unfold hrun
  rewrite [PySem.W.Fast.te14082659384304107361, PySem.W.Fast.te14364793385576792824]
  kernel_rfl
noncomputable abbrev hseen (w : World) (os : OsState) := openSeen vq vloose (importedModules PySem.Challenge.pw_nt0347_01.main.body) hxt true (hs1 w os)
theorem hlook_1 : ∀ (w : World) (os : OsState), (hseen w os).1 = (openGood vq vloose).1 := by
  intro w os
  delta hseen openSeen openGood
  dsimp only
  kernel_rfl
theorem hlook_2 : ∀ (w : World) (os : OsState), (hseen w os).2.1 = (openGood vq vloose).2.1 := by
  intro w os
  delta hseen openSeen openGood
  dsimp only
  kernel_rfl
theorem hlook_3 : ∀ (w : World) (os : OsState), (hseen w os).2.2.1 = (openGood vq vloose).2.2.1 := by
  intro w os
  delta hseen openSeen openGood
  dsimp only
  repeat' (with_reducible refine look_both ?_ ?_)
  all_goals kernel_rfl
theorem hlook_4 : ∀ (w : World) (os : OsState), (hseen w os).2.2.2.1 = (openGood vq vloose).2.2.2.1 := by
  intro w os
  delta hseen openSeen openGood
  dsimp only
  kernel_rfl
theorem hlook_5 : ∀ (w : World) (os : OsState), (hseen w os).2.2.2.2.1 = (openGood vq vloose).2.2.2.2.1 := by
  intro w os
  delta hseen openSeen openGood
  dsimp only
  kernel_rfl
theorem hlook_6 : ∀ (w : World) (os : OsState), (hseen w os).2.2.2.2.2.1 = (openGood vq vloose).2.2.2.2.2.1 := by
  intro w os
  delta hseen openSeen openGood
  dsimp only
  kernel_rfl
theorem hlook_7 : ∀ (w : World) (os : OsState), (hseen w os).2.2.2.2.2.2.1 = (openGood vq vloose).2.2.2.2.2.2.1 := by
  intro w os
  delta hseen openSeen openGood
  dsimp only
  kernel_rfl
theorem hlook_8 : ∀ (w : World) (os : OsState), (hseen w os).2.2.2.2.2.2.2.1 = (openGood vq vloose).2.2.2.2.2.2.2.1 := by
  intro w os
  delta hseen openSeen openGood
  dsimp only
  kernel_rfl
theorem hlook_9 : ∀ (w : World) (os : OsState), (hseen w os).2.2.2.2.2.2.2.2 = (openGood vq vloose).2.2.2.2.2.2.2.2 := by
  intro w os
  delta hseen openSeen openGood
  dsimp only
  kernel_rfl
theorem hlook (w : World) (os : OsState) : hseen w os = openGood vq vloose :=
  Prod.ext (hlook_1 w os) (Prod.ext (hlook_2 w os) (Prod.ext (hlook_3 w os) (Prod.ext (hlook_4 w os) (Prod.ext (hlook_5 w os) (Prod.ext (hlook_6 w os) (Prod.ext (hlook_7 w os) (Prod.ext (hlook_8 w os) (hlook_9 w os))))))))
theorem hlook5 : ∀ w : World, (fun os => hhook.obs (hs1 w os)) = fun _ => hhook.val w := fun w => by kernel_rfl
theorem hlook6 : ∀ w : World, (fun os => (staticsOk (importedModules PySem.Challenge.pw_nt0347_01.main.body) (boot_heap w.params) (hheap w.params) && namesBound PySem.Challenge.pw_nt0347_01 (hheap w.params) && gensDone (hs1 w os) && laidKept (boot_heap w.params) (hheap w.params))) = fun _ => true := fun w => by kernel_rfl
theorem hopen : opening PySem.Challenge.pw_nt0347_01 = plainProg PySem.Challenge.pw_nt0347_01.main.scope.names := by kernel_rfl
theorem hsize : ∀ w : World, ((boot_heap w.params).isNs mainGlobals && (Array.mk ([] : List GenState)).size == 0, (boot_heap w.params).objs.size, (boot_heap w.params).nsMap mainGlobals "__annotations__") = (true, 11, some (.ref 6)) := fun w => by kernel_rfl
theorem hleft : LeftO PySem.Challenge.rw_nt0347_01.row.prog vq vloose hxt hhook.obs hhook.val 2664 :=
  LeftO.of_pieces (p := PySem.Challenge.pw_nt0347_01) (H₀ := boot_heap) (H₁ := hheap) (gs₀ := Array.mk []) (gs₁ := Array.mk []) (d₀ := boot_drawn) (d₁ := boot_drawn) (k₀ := boot_toks) (k₁ := 570) (m₀ := 11) (ann := some (.ref 6)) (M := 1288)
    (boot_open hopen rfl fun _ => rfl) hsize (fun w os => congrFun (byRow2 "special-get-raises" (P := hrun) hrun_f hrun_t w) os) rfl
    (fun w => funext fun os => looks_pair (congrFun (hlook6 w) os) (looks_pair (hlook w os) (congrFun (hlook5 w) os)))
theorem hchains : (chainsOk vq && opensWell PySem.Challenge.rw_nt0347_01.row.prog && (frees PySem.Challenge.rw_nt0347_01.row.toRowW && PySem.Challenge.rw_nt0347_01.row.within.isEmpty)) = true := by
  repeat' (with_reducible refine look_both ?_ ?_)
  all_goals kernel_rfl
theorem hd {d : DefRec} {kwd : List (Str × Expr)} (hdef : defOf vq PySem.Challenge.rw_nt0347_01.row.name = some (d, kwd)) (hp : PySem.Challenge.rw_nt0347_01.row.prog.theDef PySem.Challenge.rw_nt0347_01.row.name = some (d.params, d.body, d.scope)) (hkw : kwWritten? d.params.kwonlyargs d.params.kw_defaults = some kwd)
    (walk : WalkO vq [Str.ofString "GREAT", Str.ofString "TURNS", Str.ofString "GREAT_ALONE", Str.ofString "SMALL_ALONE", Str.ofString "SMALL_WIDE", Str.ofString "GREAT_WIDE", Str.ofString "BLANKS", Str.ofString "LINE_ENDS"] (XL vq []) (kHook hk.heap_1 haddrs haddrs_eq).says PySem.Challenge.rw_nt0347_01.row.toRowW d kwd fun f vs => PySem.call f vs) : PySem.Challenge.rw_nt0347_01.Holds := by
  refine holds_law hsaid fun hsaid => ?_
  refine holds_open (r := hrow) (q := vq) (loose := vloose) (Xt := hxt) (XP := XL vq []) (Yf := hhook.obs) (Ya := hhook.val) (YP := hhook.says) (N := 2664) hleft hhook.of hhook.keeps (fun s e => xl_of s (Bool.and_eq_true_iff.mp e).1) XL.keeps hdef hp hkw (fun s e => recFacts_of (Bool.and_eq_true_iff.mp e).2) (by rfl) hsaid hchains ⟨rfl, rfl, rfl, rfl, rfl, by decide +kernel⟩ ?hw ?hc
  · w_on; w_witness2
  · exact walk
end Mine
-- part B1
namespace Mine
/-- what a call of the def at f promises: from a ledger `news` it ends, and its answer and new ledger are in Post -/
noncomputable abbrev Spec (w : World) (k : Nat) (f : Addr) (vs : List Value) (news : List (Addr × Obj)) (Post : Value → List (Addr × Obj) → Prop) : Prop :=
  ∀ (loose : List Str) (mean : ExcName → Option Value) (mg mb : Str → Option Value) (dp un : Nat) (gd : Option (List Code)) (cn : Str) (cs : Scope) (a : Addr) (ccd : Value) (cl : List (Str × Addr)) (outer : List Env) (A₀ : Around) (base h₀ : Heap) (L : Addr) (m : Str → Option Value) (s : Shared) (Q E : Value → Shared → Prop),
    Below A₀ base outer h₀ → Fr h₀ L s.heap m → (Mine.hk.heap_1 w.params).In h₀ → News h₀ L s.heap news → Top Mine.vq loose mean mg mb h₀ → cs.kind = .function →
    dp + k < recursionLimit → un + 8 * k + 8 < cLine →
    (∀ (v : Value) (news' : List (Addr × Obj)) (h' : Heap) (tk' : Nat), Post v news' → Fr h₀ L h' m → News h₀ L h' news' → Q v { s with heap := h', toks := tk' }) →
      wpAny (model PySem.Challenge.rw_nt0347_01.row.prog w) (ktrTop dp un gd cn cs L a ccd cl outer) (call (.ref f) vs) Q E s
/-- a pure answer: the ledger is as it was -/
abbrev PInt (news : List (Addr × Obj)) (P : Int → Prop) : Value → List (Addr × Obj) → Prop := fun v n => n = news ∧ ∃ x t, v = .int x t ∧ P x
abbrev PStr (news : List (Addr × Obj)) (P : Str → Prop) : Value → List (Addr × Obj) → Prop := fun v n => n = news ∧ ∃ x t, v = .str x t ∧ P x
abbrev PBool (news : List (Addr × Obj)) (P : Bool → Prop) : Value → List (Addr × Obj) → Prop := fun v n => n = news ∧ ∃ x, v = .bool x ∧ P x
theorem retI {news : List (Addr × Obj)} {P : Int → Prop} {x : Int} {t : Tok} (h : P x) : PInt news P (.int x t) news := ⟨rfl, x, t, rfl, h⟩
theorem retS {news : List (Addr × Obj)} {P : Str → Prop} {x : Str} {t : Tok} (h : P x) : PStr news P (.str x t) news := ⟨rfl, x, t, rfl, h⟩
theorem retB {news : List (Addr × Obj)} {P : Bool → Prop} {x : Bool} (h : P x) : PBool news P (.bool x) news := ⟨rfl, x, rfl, h⟩
-- the walk into a def: from «Spec ..» to the goals at its ends
local macro_rules | `(tactic| walk_at "mine:enter") => `(tactic| (k_fill; dsimp only [Spec]; intros; rename_i hret; refine wpAny_call ?_; k_dflt cell_enter))
end Mine
-- part B2
namespace Mine

/-- a list of tuples of ints, as the heap bears it -/
noncomputable def RowsAt (h : Heap) (l : Addr) (vs : List Value) (rows : List (List Int)) : Prop :=
  h.IsList l vs.toArray ∧ vs.length = rows.length ∧ ∀ (i : Nat) (row : List Int), rows[i]? = some row → ∃ r items, vs[i]? = some (.ref r) ∧ IsTup h r items.toArray ∧ IntsAre items row
theorem RowsAt.keeps {h h' : Heap} {l : Addr} {vs : List Value} {rows : List (List Int)} (x : RowsAt h l vs rows) (hk : ∀ b o, h.get? b = some o → h'.get? b = some o) : RowsAt h' l vs rows := by
  obtain ⟨h1, h2, h3⟩ := x
  refine ⟨h1.at (fun o e => hk _ _ e), h2, fun i row e => ?_⟩
  obtain ⟨r, items, a, b, c⟩ := h3 i row e
  exact ⟨r, items, a, b.keeps hk, c⟩

noncomputable def REnd (h₀ : Heap) (L : Addr) (s : Shared) (stored : List Str) (m₀ : Str → Option Value) (led : List (Addr × Obj)) (Jn : Prop) (s₂ : Shared) : Prop :=
  ∃ h' tk m' news', s₂ = { s with heap := h', toks := tk } ∧ Fr h₀ L h' m' ∧ News h₀ L h' news' ∧ (∀ p ∈ led, p ∈ news') ∧ (∀ z, stored.contains z = false → m' z = m₀ z) ∧ Jn
noncomputable def RPost (h₀ : Heap) (L : Addr) (s : Shared) (stored : List Str) (m₀ : Str → Option Value) (led : List (Addr × Obj)) (Jn : Prop) (Q : Flow → Shared → Prop) (f : Flow) (s₂ : Shared) : Prop :=
  match f with
  | .ret v => Q (.ret v) s₂
  | .brk => Q .next s₂
  | _ => REnd h₀ L s stored m₀ led Jn s₂
theorem REnd.intro {h₀ : Heap} {L : Addr} {s : Shared} {stored : List Str} {m₀ m' : Str → Option Value} {led news' : List (Addr × Obj)} {Jn : Prop} {h' : Heap} {tk : Nat}
    (F : Fr h₀ L h' m') (N : News h₀ L h' news') (hs : ∀ p ∈ led, p ∈ news') (hm : ∀ z, stored.contains z = false → m' z = m₀ z) (hj : Jn) : REnd h₀ L s stored m₀ led Jn { s with heap := h', toks := tk } :=
  ⟨h', tk, m', news', rfl, F, N, hs, hm, hj⟩

section
variable {prog : Program} {w : World} {A : Around} {E : Value → Shared → Prop} {s : Shared} {env : Env} {h₀ : Heap} {target : Expr} {body : List Stmt} {Q : Flow → Shared → Prop}

theorem fr_mask {h : Heap} {L : Addr} {stored : List Str} {m₀ m₁ : Str → Option Value} (hm : ∀ z, stored.contains z = false → m₁ z = m₀ z) (F : Fr h₀ L h m₁) :
    Fr h₀ L h (fun z => if stored.contains z then m₁ z else m₀ z) := by
  have e : (fun z => if stored.contains z then m₁ z else m₀ z) = m₁ := by
    funext z
    cases hz : stored.contains z with
    | true => simp
    | false => simp only [Bool.false_eq_true, if_false]; exact (hm z hz).symm
  rw [e]; exact F

theorem rows_unr {s : Shared} {rows : List (List Int)} {led : List (Addr × Obj)} {m₀ : Str → Option Value} (stored : List Str) (J : Nat → Prop) {P : Nat → Value → Prop} {fp : List Addr}
    (hP : ∀ h m' i v, Fr h₀ env.locals h m' → News h₀ env.locals h led → P i v → ∃ row, rows[i]? = some row ∧ ∃ r items, v = .ref r ∧ IsTup h r items.toArray ∧ IntsAre items row)
    (turn : ∀ i row r items (u : Str → Option Value) h tk own, rows[i]? = some row → J i → IsTup h r items.toArray → IntsAre items row →
      Fr h₀ env.locals h (fun z => if stored.contains z then u z else m₀ z) → News h₀ env.locals h (led ++ own) →
      wpAny (model prog w) A (assign target env (.ref r)) (fun _ s₂ => wpAny (model prog w) A (execs body env) (RPost h₀ env.locals s stored m₀ (led ++ own) (J (i + 1)) Q) E s₂) E { s with heap := h, toks := tk })
    (done : ∀ (u : Str → Option Value) h tk, J rows.length → Fr h₀ env.locals h (fun z => if stored.contains z then u z else m₀ z) → News h₀ env.locals h led → Q .next { s with heap := h, toks := tk }) :
    ∀ (k i : Nat) (m₁ : Str → Option Value), i + k = rows.length → J i → (∀ z, stored.contains z = false → m₁ z = m₀ z) → Unr prog w A E h₀ env target body Q P fp s k i m₁ led
  | 0, i, m₁, hk, hj, hm => Unr.zero fun h' tk F N => done m₁ h' tk (by rw [show rows.length = i by omega]; exact hj) (fr_mask hm F) N
  | k + 1, i, m₁, hk, hj, hm => Unr.succ fun v h₁ tk₁ own hPv _ F N => by
    obtain ⟨row, hrow, r, items, rfl, ht, hi⟩ := hP h₁ m₁ i v F (fun p hp => N p (List.mem_append_right _ hp)) hPv
    refine wpAny_mono (turn i row r items m₁ h₁ tk₁ own hrow hj ht hi (fr_mask hm F) (fun p hp => N p ((List.mem_append.mp hp).elim (fun h => List.mem_append_right _ h) fun h => List.mem_append_left _ h))) (fun _ s₂ h₂ => wpAny_mono h₂ (fun f s₃ h₃ => ?_) fun _ _ e => e) fun _ _ e => e
    have fin : REnd h₀ env.locals s stored m₀ (led ++ own) (J (i + 1)) s₃ → LoopStep2 h₀ env.locals own led (Unr prog w A E h₀ env target body Q P fp s k (i + 1)) { s with heap := h₁, toks := tk₁ } .next s₃ := by
      rintro ⟨h', tk, m', news', rfl, F', N', hn, hm', hj'⟩
      exact LoopStep2.intro F' (fun p hp => N' p (hn p ((List.mem_append.mp hp).elim (fun h => List.mem_append_right _ h) fun h => List.mem_append_left _ h))) rfl
        (rows_unr stored J hP turn done k (i + 1) m' (by omega) hj' hm')
    cases f with
    | ret v => exact h₃
    | brk => exact h₃
    | next => exact fin h₃
    | cont => exact fin h₃

theorem rows_at {l : Addr} {vs : List Value} {rows : List (List Int)} {led : List (Addr × Obj)} {m₀ : Str → Option Value} (stored : List Str) (J : Nat → Prop)
    (hh : A.handled = none) (hll : l ≠ env.locals)
    (stab : ∀ h m', Fr h₀ env.locals h m' → News h₀ env.locals h led → RowsAt h l vs rows)
    (F : Fr h₀ env.locals s.heap m₀) (N : News h₀ env.locals s.heap led) (h0 : J 0)
    (turn : ∀ i row r items (u : Str → Option Value) h tk own, rows[i]? = some row → J i → IsTup h r items.toArray → IntsAre items row →
      Fr h₀ env.locals h (fun z => if stored.contains z then u z else m₀ z) → News h₀ env.locals h (led ++ own) →
      wpAny (model prog w) A (assign target env (.ref r)) (fun _ s₂ => wpAny (model prog w) A (execs body env) (RPost h₀ env.locals s stored m₀ (led ++ own) (J (i + 1)) Q) E s₂) E { s with heap := h, toks := tk })
    (done : ∀ (u : Str → Option Value) h tk, J rows.length → Fr h₀ env.locals h (fun z => if stored.contains z then u z else m₀ z) → News h₀ env.locals h led → Q .next { s with heap := h, toks := tk }) :
    wpAny (model prog w) A (pyIter (.ref l)) (fun it s₂ => UnrAt prog w A h₀ env target body Q E it s₂) E s := by
  obtain ⟨hl, hlen, hrows⟩ := stab _ _ F N
  obtain ⟨ol, hol, _⟩ := id hl
  have hls : l < s.heap.objs.size := Heap.lt_size hol
  have hne : l ≠ s.heap.objs.size := Nat.ne_of_lt hls
  refine wpAny_pyIter_list hl ?_
  have W := Walks.list (prog := prog) (w := w) hh s.heap.objs.size l hne vs.toArray
  have hlen' : vs.toArray.size = rows.length := by simp [hlen]
  rw [hlen'] at W
  have hnI : env.locals ≠ s.heap.objs.size := Nat.ne_of_lt F.ns.lt
  refine ⟨_, _, _, rows.length, _, _, m₀, led, rfl, W, ?_, ?_, ?_, ⟨⟨_, Heap.get?_push_size _ rfl, rfl, rfl⟩, hl.at fun o e => Heap.get?_push_of_some _ e⟩, F.push _, (fun p hp => ⟨Heap.get?_push_of_some _ (N p hp).1, (N p hp).2⟩), (fun i s' v Q' st hQ' => letGo_listiter st.1 hQ'), ?_⟩
  · intro hm
    rcases List.mem_cons.mp hm with e | hm
    · exact hnI e
    · exact hll (List.mem_singleton.mp hm).symm
  · intro b hb
    rw [List.mem_singleton.mp hb]
    exact next_is_new F
  · intro p hp hI
    exact absurd (Heap.lt_size (N p hp).1) ((List.mem_singleton.mp hI) ▸ Nat.lt_irrefl _)
  · refine rows_unr (s := { s with heap := s.heap.push { cls := .type "list_iterator", data := .fields #[.ref l, .int 0 0] } }) stored J ?_ turn done rows.length 0 m₀ (by omega) h0 fun _ _ => rfl
    intro h m' i v F' N' hPv
    obtain ⟨hl', hlen2, hrows'⟩ := stab h m' F' N'
    have hv : vs[i]? = some v := by simpa using hPv
    have hi : i < rows.length := by
      have := (List.getElem?_eq_some_iff.mp hv).1
      omega
    obtain ⟨r, items, h1, h2, h3⟩ := hrows' i rows[i] (by simp [hi])
    rw [hv] at h1
    exact ⟨rows[i], by simp [hi], r, items, Option.some.inj h1, h2, h3⟩
end
end Mine
-- part B3
namespace Mine
inductive RowsIs (h : Heap) : List Value → List (List Int) → Prop
  | nil : RowsIs h [] []
  | cons {r : Addr} {items : List Value} {row : List Int} {vs : List Value} {rows : List (List Int)} : IsTup h r items.toArray → IntsAre items row → RowsIs h vs rows → RowsIs h (.ref r :: vs) (row :: rows)
theorem RowsIs.len {h : Heap} {vs : List Value} {rows : List (List Int)} (x : RowsIs h vs rows) : vs.length = rows.length := by
  induction x with
  | nil => rfl
  | cons _ _ _ ih => simp [ih]
theorem RowsIs.get {h : Heap} {vs : List Value} {rows : List (List Int)} (x : RowsIs h vs rows) : ∀ (i : Nat) (row : List Int), rows[i]? = some row → ∃ r items, vs[i]? = some (.ref r) ∧ IsTup h r items.toArray ∧ IntsAre items row := by
  induction x with
  | nil => intro i row e; simp at e
  | cons a b _ ih =>
    intro i row e
    cases i with
    | zero => cases e; exact ⟨_, _, rfl, a, b⟩
    | succ i => exact ih i row (by simpa using e)
theorem RowsIs.at {h : Heap} {l : Addr} {vs : List Value} {rows : List (List Int)} (hl : h.IsList l vs.toArray) (x : RowsIs h vs rows) : RowsAt h l vs rows := ⟨hl, x.len, x.get⟩

noncomputable def great : List (List Int) := [[65, 90, 32], [192, 214, 32], [216, 222, 32], [902, 902, 38], [904, 906, 37], [908, 908, 64], [910, 911, 63], [913, 929, 32], [931, 939, 32], [1024, 1039, 80], [1040, 1071, 32], [1329, 1366, 48]]
noncomputable def turns : List (List Int) := [[256, 303], [306, 311], [313, 328], [330, 375], [377, 382], [984, 1007], [1120, 1153], [1162, 1215], [1232, 1319], [7680, 7829], [7840, 7935]]
theorem great_at (w : World) (h : Heap) (X : (Mine.hk.heap_1 w.params).In h) : ∃ vs, RowsAt h 27 vs great := by
  refine ⟨_, RowsIs.at ⟨_, X _ _ rfl, rfl, _, rfl⟩ ?_⟩
  unfold great
  repeat' (first | exact RowsIs.nil | refine RowsIs.cons ⟨_, X _ _ rfl, rfl, _, rfl⟩ ?_ ?_ | exact IntsAre.nil | refine IntsAre.cons _ _ ?_)
theorem turns_at (w : World) (h : Heap) (X : (Mine.hk.heap_1 w.params).In h) : ∃ vs, RowsAt h 39 vs turns := by
  refine ⟨_, RowsIs.at ⟨_, X _ _ rfl, rfl, _, rfl⟩ ?_⟩
  unfold turns
  repeat' (first | exact RowsIs.nil | refine RowsIs.cons ⟨_, X _ _ rfl, rfl, _, rfl⟩ ?_ ?_ | exact IntsAre.nil | refine IntsAre.cons _ _ ?_)
end Mine
-- part B4
namespace Mine
section
variable {prog : Program} {w : World} {A : Around} {E : Value → Shared → Prop} {s : Shared} {env : Env} {h₀ : Heap} {target : Expr} {body : List Stmt} {Q : Flow → Shared → Prop}
theorem ints2 {items : List Value} {a b : Int} (h : IntsAre items [a, b]) : ∃ t1 t2, items = [.int a t1, .int b t2] := by
  cases h with | cons _ t1 h => cases h with | cons _ t2 h => cases h; exact ⟨t1, t2, rfl⟩
theorem ints3 {items : List Value} {a b c : Int} (h : IntsAre items [a, b, c]) : ∃ t1 t2 t3, items = [.int a t1, .int b t2, .int c t3] := by
  cases h with | cons _ t1 h => obtain ⟨t2, t3, rfl⟩ := ints2 h; exact ⟨t1, t2, t3, rfl⟩
theorem ints4 {items : List Value} {a b c d : Int} (h : IntsAre items [a, b, c, d]) : ∃ t1 t2 t3 t4, items = [.int a t1, .int b t2, .int c t3, .int d t4] := by
  cases h with | cons _ t1 h => obtain ⟨t2, t3, t4, rfl⟩ := ints3 h; exact ⟨t1, t2, t3, t4, rfl⟩
theorem len2 {row : List Int} (h : row.length = 2) : ∃ a b, row = [a, b] := by
  match row, h with | [a, b], _ => exact ⟨a, b, rfl⟩
theorem len3 {row : List Int} (h : row.length = 3) : ∃ a b c, row = [a, b, c] := by
  match row, h with | [a, b, c], _ => exact ⟨a, b, c, rfl⟩
theorem len4 {row : List Int} (h : row.length = 4) : ∃ a b c d, row = [a, b, c, d] := by
  match row, h with | [a, b, c, d], _ => exact ⟨a, b, c, d, rfl⟩

/-- a for over a list of triples of the top's own -/
theorem rows_top3 {l : Addr} {vs : List Value} {rows : List (List Int)} {led : List (Addr × Obj)} {m₀ : Str → Option Value} (stored : List Str) (J : Nat → Prop)
    (hh : A.handled = none) (hr : RowsAt h₀ l vs rows) (hlen : ∀ row ∈ rows, row.length = 3)
    (F : Fr h₀ env.locals s.heap m₀) (N : News h₀ env.locals s.heap led) (h0 : J 0)
    (turn : ∀ i a b c t1 t2 t3 r (u : Str → Option Value) h tk own, rows[i]? = some [a, b, c] → J i → IsTup h r #[.int a t1, .int b t2, .int c t3] →
      Fr h₀ env.locals h (fun z => if stored.contains z then u z else m₀ z) → News h₀ env.locals h (led ++ own) →
      wpAny (model prog w) A (assign target env (.ref r)) (fun _ s₂ => wpAny (model prog w) A (execs body env) (RPost h₀ env.locals s stored m₀ (led ++ own) (J (i + 1)) Q) E s₂) E { s with heap := h, toks := tk })
    (done : ∀ (u : Str → Option Value) h tk, J rows.length → Fr h₀ env.locals h (fun z => if stored.contains z then u z else m₀ z) → News h₀ env.locals h led → Q .next { s with heap := h, toks := tk }) :
    wpAny (model prog w) A (pyIter (.ref l)) (fun it s₂ => UnrAt prog w A h₀ env target body Q E it s₂) E s := by
  refine rows_at (vs := vs) (rows := rows) stored J hh ?_ (fun h m' F' N' => hr.keeps F'.keep) F N h0 ?_ done
  · obtain ⟨⟨o, ho, _⟩, _⟩ := hr
    exact Nat.ne_of_lt (Nat.lt_of_lt_of_le (Heap.lt_size ho) F.above)
  · intro i row r items u h tk own hrow hj ht hi
    obtain ⟨a, b, c, rfl⟩ := len3 (hlen row (List.mem_of_getElem? hrow))
    obtain ⟨t1, t2, t3, rfl⟩ := ints3 hi
    exact turn i a b c t1 t2 t3 r u h tk own hrow hj ht
theorem rows_top2 {l : Addr} {vs : List Value} {rows : List (List Int)} {led : List (Addr × Obj)} {m₀ : Str → Option Value} (stored : List Str) (J : Nat → Prop)
    (hh : A.handled = none) (hr : RowsAt h₀ l vs rows) (hlen : ∀ row ∈ rows, row.length = 2)
    (F : Fr h₀ env.locals s.heap m₀) (N : News h₀ env.locals s.heap led) (h0 : J 0)
    (turn : ∀ i a b t1 t2 r (u : Str → Option Value) h tk own, rows[i]? = some [a, b] → J i → IsTup h r #[.int a t1, .int b t2] →
      Fr h₀ env.locals h (fun z => if stored.contains z then u z else m₀ z) → News h₀ env.locals h (led ++ own) →
      wpAny (model prog w) A (assign target env (.ref r)) (fun _ s₂ => wpAny (model prog w) A (execs body env) (RPost h₀ env.locals s stored m₀ (led ++ own) (J (i + 1)) Q) E s₂) E { s with heap := h, toks := tk })
    (done : ∀ (u : Str → Option Value) h tk, J rows.length → Fr h₀ env.locals h (fun z => if stored.contains z then u z else m₀ z) → News h₀ env.locals h led → Q .next { s with heap := h, toks := tk }) :
    wpAny (model prog w) A (pyIter (.ref l)) (fun it s₂ => UnrAt prog w A h₀ env target body Q E it s₂) E s := by
  refine rows_at (vs := vs) (rows := rows) stored J hh ?_ (fun h m' F' N' => hr.keeps F'.keep) F N h0 ?_ done
  · obtain ⟨⟨o, ho, _⟩, _⟩ := hr
    exact Nat.ne_of_lt (Nat.lt_of_lt_of_le (Heap.lt_size ho) F.above)
  · intro i row r items u h tk own hrow hj ht hi
    obtain ⟨a, b, rfl⟩ := len2 (hlen row (List.mem_of_getElem? hrow))
    obtain ⟨t1, t2, rfl⟩ := ints2 hi
    exact turn i a b t1 t2 r u h tk own hrow hj ht
end
theorem same_base {stored : List Str} {u m₀ : Str → Option Value} : ∀ z, stored.contains z = false → (fun y => if stored.contains y then u y else m₀ y) z = m₀ z := by
  intro z hz; simp only [hz, Bool.false_eq_true, if_false]
theorem same_refl {stored : List Str} {m₀ : Str → Option Value} : ∀ z, stored.contains z = false → m₀ z = m₀ z := fun _ _ => rfl
theorem same_step {stored : List Str} {m m₀ : Str → Option Value} {x : Str} {v : Option Value} (hx : stored.contains x = true) (h : ∀ z, stored.contains z = false → m z = m₀ z) :
    ∀ z, stored.contains z = false → (fun y => if y = x then v else m y) z = m₀ z := by
  intro z hz
  have : z ≠ x := by rintro rfl; rw [hx] at hz; cases hz
  simp only [this, if_false]
  exact h z hz
theorem find_here {α β : Type} {rows : List α} {f : α → Option β} {i : Nat} {row : α} {v : β} (h1 : rows[i]? = some row) (h2 : (rows.take i).findSome? f = none) (h3 : f row = some v) : rows.findSome? f = some v := by
  have e : rows = rows.take i ++ row :: rows.drop (i + 1) := by
    obtain ⟨hi, he⟩ := List.getElem?_eq_some_iff.mp h1
    rw [← he, ← List.drop_eq_getElem_cons hi, List.take_append_drop]
  rw [e, List.findSome?_append, h2, List.findSome?_cons, h3]; rfl
theorem find_on {α β : Type} {rows : List α} {f : α → Option β} {i : Nat} {row : α} (h1 : rows[i]? = some row) (h2 : (rows.take i).findSome? f = none) (h3 : f row = none) : (rows.take (i + 1)).findSome? f = none := by
  rw [List.take_add_one, h1, List.findSome?_append, h2]
  simp [h3]
noncomputable def fst3 (row : List Int) : Int := row.getD 0 0
noncomputable def greatUp (c : Int) (row : List Int) : Option Int := if row.getD 0 0 ≤ c ∧ c ≤ row.getD 1 0 then some (c + row.getD 2 0) else none
noncomputable def turnUp (c : Int) (row : List Int) : Option Int := if row.getD 0 0 ≤ c ∧ c ≤ row.getD 1 0 ∧ Int.fmod (c - row.getD 0 0) 2 = 0 then some (c + 1) else none
noncomputable def greatDown (c : Int) (row : List Int) : Option Int := if row.getD 0 0 ≤ c - row.getD 2 0 ∧ c - row.getD 2 0 ≤ row.getD 1 0 then some (c - row.getD 2 0) else none
noncomputable def turnDown (c : Int) (row : List Int) : Option Int := if row.getD 0 0 ≤ c ∧ c ≤ row.getD 1 0 ∧ Int.fmod (c - row.getD 0 0) 2 = 1 then some (c - 1) else none
noncomputable def smallCode (c : Int) : Int :=
  if c = 376 then 255 else if c = 304 then 105 else
  match great.findSome? (greatUp c) with
  | some v => v
  | none => match turns.findSome? (turnUp c) with
    | some v => v
    | none => c
noncomputable def greatCode (c : Int) : Int :=
  if c = 255 then 376 else if c = 181 then 924 else if c = 305 then 73 else if c = 383 then 83 else if c = 962 then 931 else
  match great.findSome? (greatDown c) with
  | some v => v
  | none => match turns.findSome? (turnDown c) with
    | some v => v
    | none => c
theorem news_drop {h₀ h : Heap} {L : Addr} {news news' : List (Addr × Obj)} (N : News h₀ L h news') (hs : ∀ p ∈ news, p ∈ news') : News h₀ L h news := fun p hp => N p (hs p hp)
theorem smallCode_alone {c : Int} (h : c = 376 ∨ c = 304) : smallCode c = if c = 376 then 255 else 105 := by
  rcases h with rfl | rfl <;> rfl
theorem smallCode_great {c v : Int} (h : (decide (c = 376) || (decide (c = 304) || false)) = false) (h2 : great.findSome? (greatUp c) = some v) : v = smallCode c := by
  simp only [Bool.or_false, Bool.or_eq_false_iff, decide_eq_false_iff_not] at h
  simp only [smallCode, h.1, h.2, if_false, h2]
theorem smallCode_turn {c v : Int} (h : (decide (c = 376) || (decide (c = 304) || false)) = false) (h1 : (great.take great.length).findSome? (greatUp c) = none) (h2 : turns.findSome? (turnUp c) = some v) : v = smallCode c := by
  simp only [Bool.or_false, Bool.or_eq_false_iff, decide_eq_false_iff_not] at h
  rw [List.take_length] at h1
  simp only [smallCode, h.1, h.2, if_false, h1, h2]
theorem smallCode_same {c : Int} (h : (decide (c = 376) || (decide (c = 304) || false)) = false) (h1 : (great.take great.length).findSome? (greatUp c) = none) (h2 : (turns.take turns.length).findSome? (turnUp c) = none) : c = smallCode c := by
  simp only [Bool.or_false, Bool.or_eq_false_iff, decide_eq_false_iff_not] at h
  rw [List.take_length] at h1 h2
  simp only [smallCode, h.1, h.2, if_false, h1, h2]
abbrev GAlone (c : Int) : Prop := (decide (c = 255) || (decide (c = 181) || (decide (c = 305) || (decide (c = 383) || (decide (c = 962) || false))))) = false
theorem greatCode_great {c v : Int} (h : GAlone c) (h2 : great.findSome? (greatDown c) = some v) : v = greatCode c := by
  simp only [GAlone, Bool.or_false, Bool.or_eq_false_iff, decide_eq_false_iff_not] at h
  simp only [greatCode, h.1, h.2, if_false, h2]
theorem greatCode_turn {c v : Int} (h : GAlone c) (h1 : (great.take great.length).findSome? (greatDown c) = none) (h2 : turns.findSome? (turnDown c) = some v) : v = greatCode c := by
  simp only [GAlone, Bool.or_false, Bool.or_eq_false_iff, decide_eq_false_iff_not] at h
  rw [List.take_length] at h1
  simp only [greatCode, h.1, h.2, if_false, h1, h2]
theorem greatCode_same {c : Int} (h : GAlone c) (h1 : (great.take great.length).findSome? (greatDown c) = none) (h2 : (turns.take turns.length).findSome? (turnDown c) = none) : c = greatCode c := by
  simp only [GAlone, Bool.or_false, Bool.or_eq_false_iff, decide_eq_false_iff_not] at h
  rw [List.take_length] at h1 h2
  simp only [greatCode, h.1, h.2, if_false, h1, h2]
end Mine
-- part B5
namespace Mine
theorem Spec.use {w : World} {k : Nat} {f : Addr} {vs : List Value} {news : List (Addr × Obj)} {Post : Value → List (Addr × Obj) → Prop} (S : Spec w k f vs news Post)
    {loose : List Str} {mean : ExcName → Option Value} {mg mb : Str → Option Value} {dp un : Nat} {gd : Option (List Code)} {cn : Str} {cs : Scope} {a : Addr} {ccd : Value} {cl : List (Str × Addr)} {outer : List Env} {A₀ : Around} {base h₀ : Heap} {L : Addr} {m : Str → Option Value} {s : Shared} {Q E : Value → Shared → Prop}
    (B : Below A₀ base outer h₀) (F : Fr h₀ L s.heap m) (X : (Mine.hk.heap_1 w.params).In h₀) (N : News h₀ L s.heap news) (T : Top Mine.vq loose mean mg mb h₀) (hk : cs.kind = .function)
    (hd : dp + k < recursionLimit) (hu : un + 8 * k + 8 < cLine)
    (ret : ∀ (v : Value) (news' : List (Addr × Obj)) (h' : Heap) (tk' : Nat), Post v news' → Fr h₀ L h' m → News h₀ L h' news' → Q v { s with heap := h', toks := tk' }) :
    wpAny (model PySem.Challenge.rw_nt0347_01.row.prog w) (ktrTop dp un gd cn cs L a ccd cl outer) (call (.ref f) vs) Q E s := by
  refine S loose mean mg mb dp un gd cn cs a ccd cl outer A₀ base h₀ L m s Q E B F X N T hk hd hu ?_
  exact ret
theorem Spec.useI {w : World} {k : Nat} {f : Addr} {vs : List Value} {news : List (Addr × Obj)} {r : Int} (S : Spec w k f vs news (PInt news (fun x => x = r)))
    {loose : List Str} {mean : ExcName → Option Value} {mg mb : Str → Option Value} {dp un : Nat} {gd : Option (List Code)} {cn : Str} {cs : Scope} {a : Addr} {ccd : Value} {cl : List (Str × Addr)} {outer : List Env} {A₀ : Around} {base h₀ : Heap} {L : Addr} {m : Str → Option Value} {s : Shared} {Q E : Value → Shared → Prop}
    (B : Below A₀ base outer h₀) (F : Fr h₀ L s.heap m) (X : (Mine.hk.heap_1 w.params).In h₀) (N : News h₀ L s.heap news) (T : Top Mine.vq loose mean mg mb h₀) (hk : cs.kind = .function)
    (hd : dp + k < recursionLimit) (hu : un + 8 * k + 8 < cLine)
    (ret : ∀ (t : Tok) (h' : Heap) (tk' : Nat), Fr h₀ L h' m → News h₀ L h' news → Q (.int r t) { s with heap := h', toks := tk' }) :
    wpAny (model PySem.Challenge.rw_nt0347_01.row.prog w) (ktrTop dp un gd cn cs L a ccd cl outer) (call (.ref f) vs) Q E s := by
  refine S loose mean mg mb dp un gd cn cs a ccd cl outer A₀ base h₀ L m s Q E B F X N T hk hd hu ?_
  rintro v n h' tk' ⟨rfl, x, t, rfl, rfl⟩ F' N'
  exact ret t h' tk' F' N'
theorem Spec.useS {w : World} {k : Nat} {f : Addr} {vs : List Value} {news : List (Addr × Obj)} {r : Str} (S : Spec w k f vs news (PStr news (fun x => x = r)))
    {loose : List Str} {mean : ExcName → Option Value} {mg mb : Str → Option Value} {dp un : Nat} {gd : Option (List Code)} {cn : Str} {cs : Scope} {a : Addr} {ccd : Value} {cl : List (Str × Addr)} {outer : List Env} {A₀ : Around} {base h₀ : Heap} {L : Addr} {m : Str → Option Value} {s : Shared} {Q E : Value → Shared → Prop}
    (B : Below A₀ base outer h₀) (F : Fr h₀ L s.heap m) (X : (Mine.hk.heap_1 w.params).In h₀) (N : News h₀ L s.heap news) (T : Top Mine.vq loose mean mg mb h₀) (hk : cs.kind = .function)
    (hd : dp + k < recursionLimit) (hu : un + 8 * k + 8 < cLine)
    (ret : ∀ (t : Tok) (h' : Heap) (tk' : Nat), Fr h₀ L h' m → News h₀ L h' news → Q (.str r t) { s with heap := h', toks := tk' }) :
    wpAny (model PySem.Challenge.rw_nt0347_01.row.prog w) (ktrTop dp un gd cn cs L a ccd cl outer) (call (.ref f) vs) Q E s := by
  refine S loose mean mg mb dp un gd cn cs a ccd cl outer A₀ base h₀ L m s Q E B F X N T hk hd hu ?_
  rintro v n h' tk' ⟨rfl, x, t, rfl, rfl⟩ F' N'
  exact ret t h' tk' F' N'
theorem Spec.useB {w : World} {k : Nat} {f : Addr} {vs : List Value} {news : List (Addr × Obj)} {r : Bool} (S : Spec w k f vs news (PBool news (fun x => x = r)))
    {loose : List Str} {mean : ExcName → Option Value} {mg mb : Str → Option Value} {dp un : Nat} {gd : Option (List Code)} {cn : Str} {cs : Scope} {a : Addr} {ccd : Value} {cl : List (Str × Addr)} {outer : List Env} {A₀ : Around} {base h₀ : Heap} {L : Addr} {m : Str → Option Value} {s : Shared} {Q E : Value → Shared → Prop}
    (B : Below A₀ base outer h₀) (F : Fr h₀ L s.heap m) (X : (Mine.hk.heap_1 w.params).In h₀) (N : News h₀ L s.heap news) (T : Top Mine.vq loose mean mg mb h₀) (hk : cs.kind = .function)
    (hd : dp + k < recursionLimit) (hu : un + 8 * k + 8 < cLine)
    (ret : ∀ (h' : Heap) (tk' : Nat), Fr h₀ L h' m → News h₀ L h' news → Q (.bool r) { s with heap := h', toks := tk' }) :
    wpAny (model PySem.Challenge.rw_nt0347_01.row.prog w) (ktrTop dp un gd cn cs L a ccd cl outer) (call (.ref f) vs) Q E s := by
  refine S loose mean mg mb dp un gd cn cs a ccd cl outer A₀ base h₀ L m s Q E B F X N T hk hd hu ?_
  rintro v n h' tk' ⟨rfl, x, rfl, rfl⟩ F' N'
  exact ret h' tk' F' N'
theorem Spec.useIR {w : World} {k : Nat} {f : Addr} {vs : List Value} {news : List (Addr × Obj)} {P : Int → Prop} (S : Spec w k f vs news (PInt news P))
    {loose : List Str} {mean : ExcName → Option Value} {mg mb : Str → Option Value} {dp un : Nat} {gd : Option (List Code)} {cn : Str} {cs : Scope} {a : Addr} {ccd : Value} {cl : List (Str × Addr)} {outer : List Env} {A₀ : Around} {base h₀ : Heap} {L : Addr} {m : Str → Option Value} {s : Shared} {Q E : Value → Shared → Prop}
    (B : Below A₀ base outer h₀) (F : Fr h₀ L s.heap m) (X : (Mine.hk.heap_1 w.params).In h₀) (N : News h₀ L s.heap news) (T : Top Mine.vq loose mean mg mb h₀) (hk : cs.kind = .function)
    (hd : dp + k < recursionLimit) (hu : un + 8 * k + 8 < cLine)
    (ret : ∀ (x : Int) (t : Tok) (h' : Heap) (tk' : Nat), P x → Fr h₀ L h' m → News h₀ L h' news → Q (.int x t) { s with heap := h', toks := tk' }) :
    wpAny (model PySem.Challenge.rw_nt0347_01.row.prog w) (ktrTop dp un gd cn cs L a ccd cl outer) (call (.ref f) vs) Q E s := by
  refine S loose mean mg mb dp un gd cn cs a ccd cl outer A₀ base h₀ L m s Q E B F X N T hk hd hu ?_
  rintro v n h' tk' ⟨rfl, x, t, rfl, hx⟩ F' N'
  exact ret x t h' tk' hx F' N'
theorem Spec.useSR {w : World} {k : Nat} {f : Addr} {vs : List Value} {news : List (Addr × Obj)} {P : Str → Prop} (S : Spec w k f vs news (PStr news P))
    {loose : List Str} {mean : ExcName → Option Value} {mg mb : Str → Option Value} {dp un : Nat} {gd : Option (List Code)} {cn : Str} {cs : Scope} {a : Addr} {ccd : Value} {cl : List (Str × Addr)} {outer : List Env} {A₀ : Around} {base h₀ : Heap} {L : Addr} {m : Str → Option Value} {s : Shared} {Q E : Value → Shared → Prop}
    (B : Below A₀ base outer h₀) (F : Fr h₀ L s.heap m) (X : (Mine.hk.heap_1 w.params).In h₀) (N : News h₀ L s.heap news) (T : Top Mine.vq loose mean mg mb h₀) (hk : cs.kind = .function)
    (hd : dp + k < recursionLimit) (hu : un + 8 * k + 8 < cLine)
    (ret : ∀ (x : Str) (t : Tok) (h' : Heap) (tk' : Nat), P x → Fr h₀ L h' m → News h₀ L h' news → Q (.str x t) { s with heap := h', toks := tk' }) :
    wpAny (model PySem.Challenge.rw_nt0347_01.row.prog w) (ktrTop dp un gd cn cs L a ccd cl outer) (call (.ref f) vs) Q E s := by
  refine S loose mean mg mb dp un gd cn cs a ccd cl outer A₀ base h₀ L m s Q E B F X N T hk hd hu ?_
  rintro v n h' tk' ⟨rfl, x, t, rfl, hx⟩ F' N'
  exact ret x t h' tk' hx F' N'
noncomputable def blanksL : List Int := [9, 11, 12, 32, 160, 5760, 6158, 8239, 8287, 12288, 65279]
noncomputable def endsL : List Int := [10, 13, 8232, 8233]
noncomputable def isWhite (c : Int) : Bool := blanksL.contains c || (decide (8192 ≤ c) && decide (c ≤ 8202))
noncomputable def isLineEnd (c : Int) : Bool := endsL.contains c
noncomputable def isBlank (c : Int) : Bool := isWhite c || isLineEnd c
end Mine
-- part B6
namespace Mine
section
variable {prog : Program} {w : World} {A : Around} {E : Value → Shared → Prop} {s : Shared} {env : Env} {h₀ : Heap} {target : Expr} {body : List Stmt} {Q : Flow → Shared → Prop}
theorem range_unr {s : Shared} {a c : Int} {n : Nat} {led : List (Addr × Obj)} {m₀ : Str → Option Value} (stored : List Str) (J : Nat → Prop) {fp : List Addr}
    (turn : ∀ i t (u : Str → Option Value) h tk own, i < n → J i →
      Fr h₀ env.locals h (fun z => if stored.contains z then u z else m₀ z) → News h₀ env.locals h (led ++ own) →
      wpAny (model prog w) A (assign target env (.int (a + i * c) t)) (fun _ s₂ => wpAny (model prog w) A (execs body env) (RPost h₀ env.locals s stored m₀ (led ++ own) (J (i + 1)) Q) E s₂) E { s with heap := h, toks := tk })
    (done : ∀ (u : Str → Option Value) h tk, J n → Fr h₀ env.locals h (fun z => if stored.contains z then u z else m₀ z) → News h₀ env.locals h led → Q .next { s with heap := h, toks := tk }) :
    ∀ (k i : Nat) (m₁ : Str → Option Value), i + k = n → J i → (∀ z, stored.contains z = false → m₁ z = m₀ z) → Unr prog w A E h₀ env target body Q (fun i v => ∃ t, v = .int (a + i * c) t) fp s k i m₁ led
  | 0, i, m₁, hk, hj, hm => Unr.zero fun h' tk F N => done m₁ h' tk (by rw [show n = i by omega]; exact hj) (fr_mask hm F) N
  | k + 1, i, m₁, hk, hj, hm => Unr.succ fun v h₁ tk₁ own hPv _ F N => by
    obtain ⟨t, rfl⟩ := hPv
    refine wpAny_mono (turn i t m₁ h₁ tk₁ own (by omega) hj (fr_mask hm F) (fun p hp => N p ((List.mem_append.mp hp).elim (fun h => List.mem_append_right _ h) fun h => List.mem_append_left _ h))) (fun _ s₂ h₂ => wpAny_mono h₂ (fun f s₃ h₃ => ?_) fun _ _ e => e) fun _ _ e => e
    have fin : REnd h₀ env.locals s stored m₀ (led ++ own) (J (i + 1)) s₃ → LoopStep2 h₀ env.locals own led (Unr prog w A E h₀ env target body Q (fun i v => ∃ t, v = .int (a + i * c) t) fp s k (i + 1)) { s with heap := h₁, toks := tk₁ } .next s₃ := by
      rintro ⟨h', tk, m', news', rfl, F', N', hn, hm', hj'⟩
      exact LoopStep2.intro F' (fun p hp => N' p (hn p ((List.mem_append.mp hp).elim (fun h => List.mem_append_right _ h) fun h => List.mem_append_left _ h))) rfl
        (range_unr stored J turn done k (i + 1) m' (by omega) hj' hm')
    cases f with
    | ret v => exact h₃
    | brk => exact h₃
    | next => exact fin h₃
    | cont => exact fin h₃
theorem range_at {x : Str} {px : Pos} {r : Addr} {a b c : Int} {t₀ u₀ v₀ : Tok} {n : Nat} {led : List (Addr × Obj)} {m₀ : Str → Option Value} (stored : List Str) (J : Nat → Prop)
    (hh : A.handled = none) (hr : IsRange s.heap r a b c t₀ u₀ v₀) (hsmall : Builtin.Range.small a b c = true) (hn : Builtin.Range.rangeSize a b c = (n : Int))
    (F : Fr h₀ env.locals s.heap m₀) (N : News h₀ env.locals s.heap led) (h0 : J 0)
    (turn : ∀ i t (u : Str → Option Value) h tk own, i < n → J i →
      Fr h₀ env.locals h (fun z => if stored.contains z then u z else m₀ z) → News h₀ env.locals h (led ++ own) →
      wpAny (model prog w) A (assign (.Name x px) env (.int (a + i * c) t)) (fun _ s₂ => wpAny (model prog w) A (execs body env) (RPost h₀ env.locals s stored m₀ (led ++ own) (J (i + 1)) Q) E s₂) E { s with heap := h, toks := tk })
    (done : ∀ (u : Str → Option Value) h tk, J n → Fr h₀ env.locals h (fun z => if stored.contains z then u z else m₀ z) → News h₀ env.locals h led → Q .next { s with heap := h, toks := tk }) :
    wpAny (model prog w) A (pyIter (.ref r)) (fun it s₂ => UnrAt prog w A h₀ env (.Name x px) body Q E it s₂) E s := by
  refine wpAny_pyIter_range hr hsmall ?_
  have hnI : env.locals ≠ s.heap.objs.size := Nat.ne_of_lt F.ns.lt
  refine ⟨_, _, _, n, _, _, m₀, led, rfl, Walks.range hh s.heap.objs.size a c n, ?_, ?_, ?_, (by show IsRangeIter _ _ _ _ _; rw [hn]; simpa using Heap.get?_push_size _ rfl), F.push _, (fun p hp => ⟨Heap.get?_push_of_some _ (N p hp).1, (N p hp).2⟩), (fun i s' v Q' st hQ' => wpAny_pure hQ'), ?_⟩
  · intro hm
    exact hnI (List.mem_singleton.mp hm)
  · intro b hb
    rw [List.mem_singleton.mp hb]
    exact next_is_new F
  · intro p hp hI
    exact absurd (Heap.lt_size (N p hp).1) ((List.mem_singleton.mp hI) ▸ Nat.lt_irrefl _)
  · exact range_unr (s := { s with heap := s.heap.push { cls := .type "range_iterator", data := .fields #[rawInt a, rawInt (Builtin.Range.rangeSize a b c), rawInt c] } }) stored J turn done n 0 m₀ (by omega) h0 fun _ _ => rfl
end
end Mine
-- part B7
namespace Mine
theorem item_at (x : Str) (k : Int) (h : 0 ≤ k ∧ k < x.length) : Txt.item x k = ⟨#[x.cps.getD k.toNat 0]⟩ := item_meets h
theorem item_nat (x : Str) (k : Nat) {a : Int} (ha : a = k) (h : k < x.length) : Txt.item x a = ⟨#[x.cps.getD k 0]⟩ := by
  subst ha; rw [item_meets ⟨by omega, by omega⟩]; rfl
theorem items_ne {x y : Str} {k : Nat} {a : Int} (ha : a = k) (h1 : k < x.length) (h2 : k < y.length) (h : (Txt.item x a != Txt.item y a) = true) : x.cps.getD k 0 ≠ y.cps.getD k 0 := by
  rw [item_nat x k ha h1, item_nat y k ha h2] at h
  intro e
  rw [e] at h
  simp at h
theorem items_eq {x y : Str} {k : Nat} {a : Int} (ha : a = k) (h1 : k < x.length) (h2 : k < y.length) (h : (Txt.item x a != Txt.item y a) = false) : x.cps.getD k 0 = y.cps.getD k 0 := by
  rw [item_nat x k ha h1, item_nat y k ha h2] at h
  have h' : (⟨#[x.cps.getD k 0]⟩ : Str) = ⟨#[y.cps.getD k 0]⟩ := by
    rcases Bool.eq_false_or_eq_true ((⟨#[x.cps.getD k 0]⟩ : Str) == ⟨#[y.cps.getD k 0]⟩) with e | e
    · exact eq_of_beq e
    · rw [bne, e] at h; cases h
  have := congrArg (fun z : Str => z.cps.getD 0 0) h'
  simpa using this
theorem item_code {x : Str} {k : Nat} {a : Int} (ha : a = k) (h1 : k < x.length) : (Txt.item x a).cps.getD 0 0 = x.cps.getD k 0 := by
  rw [item_nat x k ha h1]; rfl
theorem slice_mid {x : Str} {i j : Int} (h : 0 ≤ i ∧ i ≤ j ∧ j ≤ x.length) : Txt.slice x (some i) (some j) = ⟨((x.cps.toList.drop i.toNat).take (j - i).toNat).toArray⟩ := by
  have h2 : j ≤ x.cps.toList.length := by
    have : x.length = x.cps.toList.length := by show x.cps.size = _; simp
    omega
  exact eq_of_beq (slice_closes ⟨h.1, h.2.1, h2⟩)
/-- texts glued by nothing: their signs in a row -/
theorem join_is (l : List Str) : Txt.join (Str.ofString "") l = ⟨(l.flatMap (·.cps.toList)).toArray⟩ := by
  show Builtin.Str.glued (Str.ofString "") l = _
  rw [StrLaws.glued_eq_join, show Str.ofString "" = (⟨#[]⟩ : Str) from by decide +kernel]
  induction l with
  | nil => rfl
  | cons a r ih =>
    rw [join_nil_cons, ih]
    refine Str.ext' (Array.toList_inj.mp ?_)
    rw [Str.cps_append, Array.toList_append]
    simp
theorem join_one (x : Str) : Txt.join (Str.ofString "") [x] = x := by
  rw [join_is]
  refine Str.ext' ?_
  simp
end Mine
-- part B8
namespace Mine
/-- the end of a turn that may have grown one list at l -/
noncomputable def GEnd (h₀ : Heap) (L : Addr) (s : Shared) (stored : List Str) (m₀ : Str → Option Value) (l : Addr) (rest : List (Addr × Obj)) (Jn : List Value → Prop) (s₂ : Shared) : Prop :=
  ∃ h' tk m' news' us n, s₂ = { s with heap := h', toks := tk } ∧ Fr h₀ L h' m' ∧ News h₀ L h' news' ∧ (∀ p ∈ (l, W.listOf us.toArray n) :: rest, p ∈ news') ∧ (∀ z, stored.contains z = false → m' z = m₀ z) ∧ Jn us
noncomputable def GPost (h₀ : Heap) (L : Addr) (s : Shared) (stored : List Str) (m₀ : Str → Option Value) (l : Addr) (rest : List (Addr × Obj)) (Jn : List Value → Prop) (Q : Flow → Shared → Prop) (f : Flow) (s₂ : Shared) : Prop :=
  match f with
  | .ret v => Q (.ret v) s₂
  | .brk => Q .next s₂
  | _ => GEnd h₀ L s stored m₀ l rest Jn s₂
theorem GEnd.intro {h₀ : Heap} {L : Addr} {s : Shared} {stored : List Str} {m₀ m' : Str → Option Value} {l : Addr} {rest news' : List (Addr × Obj)} {Jn : List Value → Prop} {h' : Heap} {tk n : Nat} {us : List Value}
    (F : Fr h₀ L h' m') (N : News h₀ L h' news') (hs : ∀ p ∈ (l, W.listOf us.toArray n) :: rest, p ∈ news') (hm : ∀ z, stored.contains z = false → m' z = m₀ z) (hj : Jn us) : GEnd h₀ L s stored m₀ l rest Jn { s with heap := h', toks := tk } :=
  ⟨h', tk, m', news', us, n, rfl, F, N, hs, hm, hj⟩
/-- the same, the list as `push` leaves it -/
theorem GEnd.push {h₀ : Heap} {L : Addr} {s : Shared} {stored : List Str} {m₀ m' : Str → Option Value} {l : Addr} {rest : List (Addr × Obj)} {Jn : List Value → Prop} {h' : Heap} {tk n : Nat} {us : List Value} {v : Value}
    (F : Fr h₀ L h' m') (N : News h₀ L h' ((l, W.listOf (us.toArray.push v) n) :: rest)) (hm : ∀ z, stored.contains z = false → m' z = m₀ z) (hj : Jn (us ++ [v])) : GEnd h₀ L s stored m₀ l rest Jn { s with heap := h', toks := tk } := by
  refine ⟨h', tk, m', _, us ++ [v], n, rfl, F, N, fun p hp => ?_, hm, hj⟩
  rw [List.push_toArray]; exact hp
section
variable {prog : Program} {w : World} {A : Around} {E : Value → Shared → Prop} {s : Shared} {env : Env} {h₀ : Heap} {target : Expr} {body : List Stmt} {Q : Flow → Shared → Prop}
theorem grow_unr {s : Shared} {n : Nat} {l : Addr} {led : List (Addr × Obj)} {m₀ : Str → Option Value} (stored : List Str) (J : Nat → List Value → Prop) {P : Nat → Value → Prop} {fp : List Addr}
    (hfl : l ∉ fp) (hll : ∀ p ∈ led, p.1 ≠ l)
    (turn : ∀ i v us ep (u : Str → Option Value) h tk own, i < n → P i v → J i us → (∀ p ∈ led ++ own, p.1 ≠ l) →
      Fr h₀ env.locals h (fun z => if stored.contains z then u z else m₀ z) → News h₀ env.locals h ((l, W.listOf us.toArray ep) :: (led ++ own)) →
      wpAny (model prog w) A (assign target env v) (fun _ s₂ => wpAny (model prog w) A (execs body env) (GPost h₀ env.locals s stored m₀ l (led ++ own) (J (i + 1)) Q) E s₂) E { s with heap := h, toks := tk })
    (done : ∀ us ep (u : Str → Option Value) h tk, J n us → Fr h₀ env.locals h (fun z => if stored.contains z then u z else m₀ z) → News h₀ env.locals h ((l, W.listOf us.toArray ep) :: led) → Q .next { s with heap := h, toks := tk }) :
    ∀ (k i : Nat) (m₁ : Str → Option Value) (us : List Value) (ep : Nat), i + k = n → J i us → (∀ z, stored.contains z = false → m₁ z = m₀ z) → Unr prog w A E h₀ env target body Q P fp s k i m₁ ((l, W.listOf us.toArray ep) :: led)
  | 0, i, m₁, us, ep, hk, hj, hm => Unr.zero fun h' tk F N => done us ep m₁ h' tk (by rw [show n = i by omega]; exact hj) (fr_mask hm F) N
  | k + 1, i, m₁, us, ep, hk, hj, hm => Unr.succ fun v h₁ tk₁ own hPv hown F N => by
    have hoff : ∀ p ∈ led ++ own, p.1 ≠ l := fun p hp => (List.mem_append.mp hp).elim (hll p) fun h e => hfl (e ▸ hown p h)
    have N₁ : News h₀ env.locals h₁ ((l, W.listOf us.toArray ep) :: (led ++ own)) := fun p hp => by
      rcases List.mem_cons.mp hp with rfl | hp
      · exact N _ (List.mem_append_right _ (.head _))
      · exact N p ((List.mem_append.mp hp).elim (fun h => List.mem_append_right _ (.tail _ h)) fun h => List.mem_append_left _ h)
    refine wpAny_mono (turn i v us ep m₁ h₁ tk₁ own (by omega) hPv hj hoff (fr_mask hm F) N₁) (fun _ s₂ h₂ => wpAny_mono h₂ (fun f s₃ h₃ => ?_) fun _ _ e => e) fun _ _ e => e
    have fin : GEnd h₀ env.locals s stored m₀ l (led ++ own) (J (i + 1)) s₃ → LoopStep2 h₀ env.locals own ((l, W.listOf us.toArray ep) :: led) (Unr prog w A E h₀ env target body Q P fp s k (i + 1)) { s with heap := h₁, toks := tk₁ } .next s₃ := by
      rintro ⟨h', tk, m', news', us', ep', rfl, F', N', hn, hm', hj'⟩
      refine LoopStep2.intro (news₂ := (l, W.listOf us'.toArray ep') :: led) F' (fun p hp => N' p (hn p ?_)) rfl (grow_unr stored J hfl hll turn done k (i + 1) m' us' ep' (by omega) hj' hm')
      rcases List.mem_append.mp hp with hp | hp
      · exact List.mem_cons_of_mem _ (List.mem_append_right _ hp)
      · rcases List.mem_cons.mp hp with rfl | hp
        · exact List.mem_cons_self
        · exact List.mem_cons_of_mem _ (List.mem_append_left _ hp)
    cases f with
    | ret v => exact h₃
    | brk => exact h₃
    | next => exact fin h₃
    | cont => exact fin h₃
theorem chars_grow {x : Str} {px : Pos} {xt : Str} {tx : Tok} {l : Addr} {ep₀ : Nat} {led : List (Addr × Obj)} {m₀ : Str → Option Value} (stored : List Str) (J : Nat → List Value → Prop)
    (hh : A.handled = none) (F : Fr h₀ env.locals s.heap m₀) (N : News h₀ env.locals s.heap ((l, W.listOf #[] ep₀) :: led)) (hll : ∀ p ∈ led, p.1 ≠ l) (h0 : J 0 [])
    (turn : ∀ i c t us ep (u : Str → Option Value) h tk own, xt.cps[i]? = some c → J i us → (∀ p ∈ led ++ own, p.1 ≠ l) →
      Fr h₀ env.locals h (fun z => if stored.contains z then u z else m₀ z) → News h₀ env.locals h ((l, W.listOf us.toArray ep) :: (led ++ own)) →
      wpAny (model prog w) A (assign (.Name x px) env (.str ⟨#[c]⟩ t)) (fun _ s₂ => wpAny (model prog w) A (execs body env) (GPost h₀ env.locals s stored m₀ l (led ++ own) (J (i + 1)) Q) E s₂) E { s with heap := h, toks := tk })
    (done : ∀ us ep (u : Str → Option Value) h tk, J xt.length us → Fr h₀ env.locals h (fun z => if stored.contains z then u z else m₀ z) → News h₀ env.locals h ((l, W.listOf us.toArray ep) :: led) → Q .next { s with heap := h, toks := tk }) :
    wpAny (model prog w) A (pyIter (.str xt tx)) (fun it s₂ => UnrAt prog w A h₀ env (.Name x px) body Q E it s₂) E s := by
  refine wpAny_pyIter_str fun o St hW hst => ?_
  have hnI : env.locals ≠ s.heap.objs.size := Nat.ne_of_lt F.ns.lt
  have hlI : l < s.heap.objs.size := Heap.lt_size (N _ (.head _)).1
  refine ⟨_, _, _, _, _, _, m₀, _, rfl, hW A hh, ?_, ?_, ?_, hst, F.push _, (fun p hp => ⟨Heap.get?_push_of_some _ (N p hp).1, (N p hp).2⟩), (fun i s' v Q' st hQ' => wpAny_pure hQ'), ?_⟩
  · intro hm
    exact hnI (List.mem_singleton.mp hm)
  · intro b hb
    rw [List.mem_singleton.mp hb]
    exact next_is_new F
  · intro p hp hI
    exact absurd (Heap.lt_size (N p hp).1) ((List.mem_singleton.mp hI) ▸ Nat.lt_irrefl _)
  · refine grow_unr (s := { s with heap := s.heap.push o }) (n := xt.length) stored J ?_ hll ?_ ?_ xt.length 0 m₀ [] ep₀ (by omega) h0 fun _ _ => rfl
    · intro hm
      exact absurd hlI ((List.mem_singleton.mp hm) ▸ Nat.lt_irrefl _)
    · rintro i v us ep u h tk own _ ⟨c, t, hc, rfl⟩ hj hoff F' N'
      exact turn i c t us ep u h tk own hc hj hoff F' N'
    · exact done
end
end Mine
-- part B9
namespace Mine
theorem great_way : ∀ row ∈ great, 0 ≤ row.getD 2 0 ∧ row.getD 2 0 ≤ 80 ∧ 0 ≤ row.getD 0 0 := by decide
theorem turns_low : ∀ row ∈ turns, 1 ≤ row.getD 0 0 := by decide
theorem greatUp_le {c v : Int} (h : great.findSome? (greatUp c) = some v) : c ≤ v ∧ v ≤ c + 80 := by
  obtain ⟨row, hr, e⟩ := List.exists_of_findSome?_eq_some h
  have := great_way row hr
  unfold greatUp at e
  split at e
  · cases e; omega
  · cases e
theorem greatDown_le {c v : Int} (h : great.findSome? (greatDown c) = some v) : 0 ≤ v ∧ v ≤ c := by
  obtain ⟨row, hr, e⟩ := List.exists_of_findSome?_eq_some h
  have := great_way row hr
  unfold greatDown at e
  split at e
  · cases e; omega
  · cases e
theorem turnUp_le {c v : Int} (h : turns.findSome? (turnUp c) = some v) : v = c + 1 := by
  obtain ⟨row, hr, e⟩ := List.exists_of_findSome?_eq_some h
  unfold turnUp at e
  split at e
  · cases e; rfl
  · cases e
theorem turnDown_le {c v : Int} (h : turns.findSome? (turnDown c) = some v) : 0 ≤ v ∧ v ≤ c := by
  obtain ⟨row, hr, e⟩ := List.exists_of_findSome?_eq_some h
  have := turns_low row hr
  unfold turnDown at e
  split at e
  · cases e; omega
  · cases e
theorem small_bnd {c : Int} (h0 : 0 ≤ c) (h1 : c < 65536) : 0 ≤ smallCode c ∧ smallCode c < 65700 := by
  unfold smallCode
  split
  · omega
  · split
    · omega
    · split
      · rename_i v e; have := greatUp_le e; omega
      · split
        · rename_i v e; have := turnUp_le e; omega
        · omega
theorem great_bnd {c : Int} (h0 : 0 ≤ c) (h1 : c < 65536) : 0 ≤ greatCode c ∧ greatCode c < 65700 := by
  unfold greatCode
  split
  · omega
  · split
    · omega
    · split
      · omega
      · split
        · omega
        · split
          · omega
          · split
            · rename_i v e; have := greatDown_le e; omega
            · split
              · rename_i v e; have := turnDown_le e; omega
              · omega
noncomputable def lowSign (c : Int) : Str := if c = 304 then ⟨#[105, 775]⟩ else ⟨#[(smallCode c).toNat]⟩
noncomputable def highSign (c : Int) : Str :=
  if c = 223 then ⟨#[83, 83]⟩ else if c = 329 then ⟨#[700, 78]⟩ else if c = 912 then ⟨#[921, 776, 769]⟩ else if c = 944 then ⟨#[933, 776, 769]⟩ else if c = 1415 then ⟨#[1333, 1362]⟩ else ⟨#[(greatCode c).toNat]⟩
noncomputable def lowText (x : Str) : Str := Txt.join (Str.ofString "") (x.cps.toList.map fun (c : Nat) => lowSign (c : Int))
noncomputable def highText (x : Str) : Str := Txt.join (Str.ofString "") (x.cps.toList.map fun (c : Nat) => highSign (c : Int))
theorem lowSign_len (c : Int) : (lowSign c).length ≤ 3 := by
  unfold lowSign; split <;> (show Array.size _ ≤ 3; simp)
theorem highSign_len (c : Int) : (highSign c).length ≤ 3 := by
  unfold highSign; repeat' split
  all_goals (show Array.size _ ≤ 3; simp)
theorem sum_le3 {f : Nat → Str} (hf : ∀ c, (f c).length ≤ 3) : ∀ l : List Nat, ((l.map f).map (·.length)).sum ≤ 3 * l.length
  | [] => by simp
  | c :: l => by
    have := sum_le3 hf l
    have := hf c
    simp only [List.map_cons, List.sum_cons, List.length_cons]
    omega
theorem weight3 {f : Nat → Str} (hf : ∀ c, (f c).length ≤ 3) {x : Str} (hx : x.length ≤ 1000) : ((x.cps.toList.map f).map (·.length)).sum + (x.cps.toList.map f).length ≤ 1048576 := by
  have h1 := sum_le3 hf x.cps.toList
  have h2 : x.cps.toList.length = x.length := by show _ = x.cps.size; simp
  rw [List.length_map]; omega
theorem strs_next {f : Nat → Str} {x : Str} {i c : Nat} {us : List Value} {y : Str} {t : Tok} (hc : x.cps[i]? = some c) (h : StrsAre us ((x.cps.toList.take i).map f)) (e : f c = y) :
    StrsAre (us ++ [.str y t]) ((x.cps.toList.take (i + 1)).map f) := by
  subst e
  have hc' : x.cps.toList[i]? = some c := by simpa using hc
  rw [List.take_add_one, hc', List.map_append]
  exact KStt.strs_snoc h
theorem strs_all {f : Nat → Str} {x : Str} {us : List Value} (h : StrsAre us ((x.cps.toList.take x.length).map f)) : StrsAre us.toArray.toList (x.cps.toList.map f) := by
  have h2 : x.cps.toList.length = x.length := by show _ = x.cps.size; simp
  rw [← h2, List.take_length] at h
  simpa using h
theorem strs_size {f : Nat → Str} {x : Str} {i : Nat} {us : List Value} (hx : x.length ≤ 1000) (h : StrsAre us ((x.cps.toList.take i).map f)) : us.toArray.size ≤ sizeLine := by
  have h1 := h.length
  have h2 : x.cps.toList.length = x.length := by show _ = x.cps.size; simp
  rw [List.length_map, List.length_take] at h1
  rw [List.size_toArray, sizeLine_eq]
  omega
theorem code_lt {x : Str} (h : ∀ c ∈ x.cps.toList, c < 65536) {i c : Nat} (hc : x.cps[i]? = some c) : (c : Int) < 65536 := by
  have hc' : x.cps.toList[i]? = some c := by simpa using hc
  have := h c (List.mem_of_getElem? hc')
  omega
end Mine
-- part B10
namespace Mine
section
variable {prog : Program} {w : World} {A : Around} {E : Value → Shared → Prop} {s : Shared} {h₀ : Heap} {L : Addr} {m : Str → Option Value} {env : Env}
theorem comp_rest {elt : Expr} {x : Str} {scope : Scope} {cl : List (Str × Addr)} {S : List (Addr × Obj) → Prop} {P : Nat → Value → Prop} {Fin : List Value → List (Addr × Obj) → Prop} {n : Nat}
    (J : Nat → List Value → List (Addr × Obj) → Prop)
    (turn : ∀ i v ys nw I oI C oC D m₂ h tk (E' : Value → Shared → Prop), i < n → P i v → J i ys nw → LCg.NsObj oC m₂ → m₂ x = some v → Fr h₀ L h m → News h₀ L h ((I, oI) :: (C, oC) :: (D, LCg.lst ys) :: nw) → LCg.Off3 I C D nw → ((@Ne Nat I C) ∧ (@Ne Nat I D) ∧ (@Ne Nat C D)) →
      wpAny (model prog w) A (eval elt (compEnvC scope cl C env)) (LCg.CompEnd h₀ L m { s with heap := h, toks := tk } I oI C oC D (LCg.lst ys) S (fun y nw' => J (i + 1) (ys ++ [y]) nw')) E' { s with heap := h, toks := tk })
    (fin : ∀ ys nw, J n ys nw → Fin ys nw) :
    ∀ (k i : Nat) (ys : List Value) (nw : List (Addr × Obj)), i + k = n → J i ys nw → LCg.CompRest prog w A h₀ L m env elt x scope cl s S P Fin k i ys nw
  | 0, i, ys, nw, hk, hj => LCg.CompRest.zero (fin ys nw (by rw [show n = i by omega]; exact hj))
  | k + 1, i, ys, nw, hk, hj => LCg.CompRest.succ fun v I oI C oC D m₂ h tk E' hP hC hx F N off ne => by
    refine wpAny_mono (turn i v ys nw I oI C oC D m₂ h tk E' (by omega) hP hj hC hx F N off ne) (fun y s₂ hq => ?_) fun _ _ e => e
    obtain ⟨h', tk', nw', e, F', N', off', hS, hj'⟩ := hq
    exact ⟨h', tk', nw', e, F', N', off', hS, comp_rest J turn fin k (i + 1) (ys ++ [y]) nw' (by omega) hj'⟩
/-- the same, the ledger as it was -/
theorem comp_same {elt : Expr} {x : Str} {scope : Scope} {cl : List (Str × Addr)} {S : List (Addr × Obj) → Prop} {P : Nat → Value → Prop} {Fin : List Value → List (Addr × Obj) → Prop} {n : Nat} {news : List (Addr × Obj)}
    (J : Nat → List Value → Prop) (h0 : J 0 [])
    (turn : ∀ i v ys I oI C oC D m₂ h tk (E' : Value → Shared → Prop), i < n → P i v → J i ys → LCg.NsObj oC m₂ → m₂ x = some v → Fr h₀ L h m → News h₀ L h ((I, oI) :: (C, oC) :: (D, LCg.lst ys) :: news) → LCg.Off3 I C D news → ((@Ne Nat I C) ∧ (@Ne Nat I D) ∧ (@Ne Nat C D)) →
      wpAny (model prog w) A (eval elt (compEnvC scope cl C env)) (LCg.CompEnd h₀ L m { s with heap := h, toks := tk } I oI C oC D (LCg.lst ys) S (fun y nw' => nw' = news ∧ J (i + 1) (ys ++ [y]))) E' { s with heap := h, toks := tk })
    (fin : ∀ ys, J n ys → Fin ys news) : LCg.CompRest prog w A h₀ L m env elt x scope cl s S P Fin n 0 [] news := by
  refine comp_rest (n := n) (fun i ys nw => nw = news ∧ J i ys) ?_ ?_ n 0 [] news (by omega) ⟨rfl, h0⟩
  · rintro i v ys nw I oI C oC D m₂ h tk E' hi hP ⟨rfl, hj⟩ hC hx F N off ne
    exact turn i v ys I oI C oC D m₂ h tk E' hi hP hj hC hx F N off ne
  · rintro ys nw ⟨rfl, hj⟩
    exact fin ys hj
end
theorem ints_get {us : List Value} {ns : List Int} (hi : IntsAre us ns) {i : Nat} {v : Value} (hv : us.toArray[i]? = some v) : ∃ k t, ns[i]? = some k ∧ v = .int k t := by
  obtain ⟨k, t, e, hk⟩ := IntsAre.at hi i v (by simpa using hv)
  exact ⟨k, t, hk, e⟩
noncomputable def textFrom (ns : List Int) : Str := ⟨(ns.map Int.toNat).toArray⟩
theorem strs_next' {f : Int → Str} {ns : List Int} {i : Nat} {c : Int} {us : List Value} {y : Str} {t : Tok} (hc : ns[i]? = some c) (h : StrsAre us ((ns.take i).map f)) (e : f c = y) :
    StrsAre (us ++ [.str y t]) ((ns.take (i + 1)).map f) := by
  subst e
  rw [List.take_add_one, hc, List.map_append]
  exact KStt.strs_snoc h
theorem strs_all' {f : Int → Str} {us : List Value} {ns : List Int} {n : Nat} (hn : n = ns.length) (h : StrsAre us ((ns.take n).map f)) : StrsAre us.toArray.toList (ns.map f) := by
  subst hn
  rw [List.take_length] at h
  simpa using h
theorem sum_le3' {f : Int → Str} (hf : ∀ c, (f c).length ≤ 3) : ∀ l : List Int, ((l.map f).map (·.length)).sum ≤ 3 * l.length
  | [] => by simp
  | c :: l => by
    have := sum_le3' hf l
    have := hf c
    simp only [List.map_cons, List.sum_cons, List.length_cons]
    omega
theorem weight3' {f : Int → Str} (hf : ∀ c, (f c).length ≤ 3) {ns : List Int} (hx : ns.length ≤ 1000) : ((ns.map f).map (·.length)).sum + (ns.map f).length ≤ 1048576 := by
  have h1 := sum_le3' hf ns
  rw [List.length_map]; omega
noncomputable def chrS (c : Int) : Str := ⟨#[c.toNat]⟩
theorem chrS_len (c : Int) : (chrS c).length ≤ 3 := by show 1 ≤ 3; decide
end Mine
-- part B11
namespace Mine
/-- a new list of texts -/
abbrev PStrs (news : List (Addr × Obj)) (ys : List Str) : Value → List (Addr × Obj) → Prop := fun v nw => ∃ (a : Addr) (us : Array Value) (n : Nat), v = .ref a ∧ nw = (a, W.listOf us n) :: news ∧ StrsAre us.toList ys ∧ ∀ p ∈ news, p.1 < a
theorem Spec.useL {w : World} {k : Nat} {f : Addr} {vs : List Value} {news : List (Addr × Obj)} {ys : List Str} (S : Spec w k f vs news (PStrs news ys))
    {loose : List Str} {mean : ExcName → Option Value} {mg mb : Str → Option Value} {dp un : Nat} {gd : Option (List Code)} {cn : Str} {cs : Scope} {a : Addr} {ccd : Value} {cl : List (Str × Addr)} {outer : List Env} {A₀ : Around} {base h₀ : Heap} {L : Addr} {m : Str → Option Value} {s : Shared} {Q E : Value → Shared → Prop}
    (B : Below A₀ base outer h₀) (F : Fr h₀ L s.heap m) (X : (Mine.hk.heap_1 w.params).In h₀) (N : News h₀ L s.heap news) (T : Top Mine.vq loose mean mg mb h₀) (hk : cs.kind = .function)
    (hd : dp + k < recursionLimit) (hu : un + 8 * k + 8 < cLine)
    (ret : ∀ (b : Addr) (us : Array Value) (n : Nat) (h' : Heap) (tk' : Nat), StrsAre us.toList ys → (∀ p ∈ news, p.1 < b) → Fr h₀ L h' m → News h₀ L h' ((b, W.listOf us n) :: news) → Q (.ref b) { s with heap := h', toks := tk' }) :
    wpAny (model PySem.Challenge.rw_nt0347_01.row.prog w) (ktrTop dp un gd cn cs L a ccd cl outer) (call (.ref f) vs) Q E s := by
  refine S loose mean mg mb dp un gd cn cs a ccd cl outer A₀ base h₀ L m s Q E B F X N T hk hd hu ?_
  rintro v nw h' tk' ⟨b, us, n, rfl, rfl, hs, hlt⟩ F' N'
  exact ret b us n h' tk' hs hlt F' N'
theorem strs_two {y1 y2 s1 s2 : Str} {t1 t2 : Tok} (h1 : y1 = s1) (h2 : y2 = s2) : StrsAre [.str y1 t1, .str y2 t2] [s1, s2] := by
  subst h1; subst h2; exact .cons _ _ (.cons _ _ .nil)
theorem strs_is2 {us : List Value} {s1 s2 : Str} (h : StrsAre us [s1, s2]) : ∃ t1 t2, us = [.str s1 t1, .str s2 t2] := by
  cases h with | cons _ t1 h => cases h with | cons _ t2 h => cases h; exact ⟨t1, t2, rfl⟩
theorem strs_is0 {us : List Value} (h : StrsAre us []) : us = [] := by cases h; rfl
theorem strs_arr2 {us : Array Value} {s1 s2 : Str} (h : StrsAre us.toList [s1, s2]) : ∃ t1 t2, us = #[.str s1 t1, .str s2 t2] := by
  obtain ⟨t1, t2, e⟩ := strs_is2 h
  exact ⟨t1, t2, Array.toList_inj.mp e⟩
theorem strs_arr0 {us : Array Value} (h : StrsAre us.toList []) : us = #[] := Array.toList_inj.mp (strs_is0 h)
theorem slice_none' {x : Str} {a : Int} (h0 : 0 ≤ a) (h1 : a ≤ x.length) : Txt.slice x (some a) (some a) = Str.ofString "" := by
  rw [slice_mid ⟨h0, by omega, h1⟩, show a - a = 0 by omega]; simp; rfl
theorem slice_rest' {x : Str} {a : Int} (h : (x.length : Int) ≤ a) : Txt.slice x (some a) none = Str.ofString "" := slice_beyond h
theorem slice_whole {x : Str} {a b : Int} (h0 : a = 0) (h1 : b = x.length) : Txt.slice x (some a) (some b) = x := by
  subst h0; subst h1
  rw [slice_mid ⟨by omega, by omega, by omega⟩]
  have : x.length = x.cps.toList.length := by show x.cps.size = _; simp
  refine Str.ext' ?_
  have e : ((x.length : Int) - 0).toNat = x.cps.toList.length := by omega
  rw [e]
  show (List.take x.cps.toList.length (List.drop 0 x.cps.toList)).toArray = x.cps
  rw [List.drop_zero, List.take_length, Array.toArray_toList]
end Mine
-- part C12
namespace Mine
noncomputable def rowsL : List (List Int) := [[65, 97, 26, 1], [192, 224, 23, 1], [216, 248, 7, 1], [913, 945, 17, 1], [931, 963, 9, 1], [902, 940, 1, 1], [904, 941, 3, 1], [908, 972, 1, 1], [910, 973, 2, 1],
  [1024, 1104, 16, 1], [1040, 1072, 32, 1], [1329, 1377, 38, 1], [376, 255, 1, 1], [256, 257, 24, 2], [306, 307, 3, 2], [313, 314, 8, 2], [330, 331, 23, 2],
  [377, 378, 3, 2], [984, 985, 12, 2], [1120, 1121, 17, 2], [1162, 1163, 27, 2], [1232, 1233, 44, 2], [7680, 7681, 75, 2], [7840, 7841, 48, 2]]
/-- a ledger that bears a list of tuples of ints -/
inductive RowsIn (news : List (Addr × Obj)) : List Value → List (List Int) → Prop
  | nil : RowsIn news [] []
  | cons {r : Addr} {o : Obj} {items : List Value} {n : Nat} {row : List Int} {vs : List Value} {rows : List (List Int)} : (r, o) ∈ news → o.cls = .type "tuple" → o.data = .seq items.toArray n → IntsAre items row → RowsIn news vs rows → RowsIn news (.ref r :: vs) (row :: rows)
theorem RowsIn.more {news news' : List (Addr × Obj)} {vs : List Value} {rows : List (List Int)} (h : RowsIn news vs rows) (hs : ∀ p ∈ news, p ∈ news') : RowsIn news' vs rows := by
  induction h with
  | nil => exact .nil
  | cons a b c d _ ih => exact .cons (hs _ a) b c d ih
theorem RowsIn.is {h₀ h : Heap} {L : Addr} {news : List (Addr × Obj)} {vs : List Value} {rows : List (List Int)} (x : RowsIn news vs rows) (N : News h₀ L h news) : RowsIs h vs rows := by
  induction x with
  | nil => exact .nil
  | cons a b c d _ ih => exact .cons ⟨_, (N _ a).1, b, _, c⟩ d ih
/-- what the rows are made of: tuples, and lists whose first item is a reference -/
noncomputable def RowOk (o : Obj) : Prop := o.cls = .type "tuple" ∨ ∃ r xs n, o.data = .seq (Value.ref r :: xs).toArray n
/-- the new list of rows -/
abbrev PRows (news : List (Addr × Obj)) : Value → List (Addr × Obj) → Prop := fun v nw => ∃ (a : Addr) (vs : List Value) (n : Nat), v = .ref a ∧ (a, W.listOf vs.toArray n) ∈ nw ∧ RowsIn nw vs rowsL ∧ (∀ p ∈ nw, p ∈ news ∨ RowOk p.2) ∧ (∀ p ∈ news, p ∈ nw)
theorem rowOk_all {news : List (Addr × Obj)} : ∀ {l : List (Addr × Obj)}, (∀ p ∈ l, p ∈ news ∨ RowOk p.2) → ∀ {q : Addr × Obj}, RowOk q.2 → ∀ p ∈ q :: l, p ∈ news ∨ RowOk p.2 := fun h q hq p hp => by
  rcases List.mem_cons.mp hp with rfl | hp
  · exact Or.inr hq
  · exact h p hp
/-- the ints that a display's items are -/
noncomputable def litInts : List Expr → Option (List Int)
  | [] => some []
  | .Constant (.int i) _ _ :: r => (litInts r).map (i :: ·)
  | _ => none
/-- the rows of ints that a display of tuples shows -/
noncomputable def litRows : List Expr → Option (List (List Int))
  | [] => some []
  | .Tuple es _ _ :: r => match litInts es, litRows r with
    | some a, some b => if a.length ≤ 1000 then some (a :: b) else none
    | _, _ => none
  | _ => none
section
variable {prog : Program} {w : World} {A : Around} {E : Value → Shared → Prop} {env : Env} {h₀ : Heap} {L : Addr} {m : Str → Option Value}
theorem ints_disp {pos : Pos} : ∀ {es : List Expr} {ns : List Int}, litInts es = some ns → ∀ {s : Shared} {Q : List Value → Shared → Prop}, (∀ vs tk, IntsAre vs ns → Q vs { s with toks := tk }) → wpAny (model prog w) A (spliced (backTo pos (starEach es env))) Q E s
  | [], ns, e, s, Q, h => by
    cases e
    exact args_nil (h [] s.toks .nil)
  | x :: r, ns, e, s, Q, h => by
    unfold litInts at e
    split at e
    · cases ‹x :: r = []›
    · rename_i i k p r' hx
      cases hx
      obtain ⟨ns', e', rfl⟩ := Option.map_eq_some_iff.mp e
      exact args_cons (wpAny_Constant_int (ints_disp e' fun vs tk hv => h _ tk (.cons _ _ hv)))
    · cases e
/-- the ledger has grown by tuples and lists of references alone -/
abbrev Grown (news news' : List (Addr × Obj)) : Prop := (∀ p ∈ news, p ∈ news') ∧ ∀ p ∈ news', p ∈ news ∨ RowOk p.2
theorem Grown.refl {news : List (Addr × Obj)} : Grown news news := ⟨fun _ h => h, fun _ h => .inl h⟩
theorem Grown.one {news news' : List (Addr × Obj)} {q : Addr × Obj} (g : Grown news news') (hq : RowOk q.2) : Grown news (q :: news') :=
  ⟨fun p hp => .tail _ (g.1 p hp), fun p hp => by
    rcases List.mem_cons.mp hp with rfl | hp
    · exact Or.inr hq
    · exact g.2 p hp⟩
theorem Grown.trans {a b c : List (Addr × Obj)} (g : Grown a b) (g' : Grown b c) : Grown a c :=
  ⟨fun p hp => g'.1 p (g.1 p hp), fun p hp => (g'.2 p hp).elim (g.2 p) .inr⟩
theorem rows_disp {pos : Pos} : ∀ {es : List Expr} {rows : List (List Int)}, litRows es = some rows → ∀ {s : Shared} {news : List (Addr × Obj)} {Q : List Value → Shared → Prop}, Fr h₀ L s.heap m → News h₀ L s.heap news →
    (∀ vs tk h' news', Fr h₀ L h' m → News h₀ L h' news' → Grown news news' → RowsIn news' vs rows → Q vs { s with heap := h', toks := tk }) → wpAny (model prog w) A (spliced (backTo pos (starEach es env))) Q E s
  | [], rows, e, s, news, Q, F, N, h => by
    cases e
    exact args_nil (h [] s.toks s.heap news F N .refl .nil)
  | x :: r, rows, e, s, news, Q, F, N, h => by
    unfold litRows at e
    split at e
    · cases ‹x :: r = []›
    · rename_i es k p r' hx
      cases hx
      split at e
      · rename_i a b ea eb
        by_cases hl : a.length ≤ 1000
        · rw [if_pos hl] at e
          cases e
          refine args_cons (Tuple_ (ints_disp ea fun vs tk hv => newTuple_N F N (fun h' F' N' => ?_) (by rw [hv.length]; exact Nat.le_trans hl (by decide))))
          refine rows_disp eb F' N' fun ws tk' h'' news' F'' N'' G R => ?_
          refine h _ tk' h'' news' F'' N'' (Grown.trans (Grown.one .refl (.inl rfl)) G) (.cons (G.1 _ (.head _)) rfl rfl hv R)
        · rw [if_neg hl] at e; cases e
      · cases e
    · cases e
/-- a list of the ledger that holds rows of ints -/
abbrev RowList (news : List (Addr × Obj)) (l : Addr) (rows : List (List Int)) : Prop := ∃ (vs : List Value) (n : Nat), (l, W.listOf vs.toArray n) ∈ news ∧ RowsIn news vs rows
theorem RowList.more {a b : List (Addr × Obj)} {l : Addr} {rows : List (List Int)} (h : RowList a l rows) (g : Grown a b) : RowList b l rows := by
  obtain ⟨vs, n, h1, h2⟩ := h
  exact ⟨vs, n, g.1 _ h1, h2.more g.1⟩
theorem RowsIn.length {news : List (Addr × Obj)} {vs : List Value} {rows : List (List Int)} (h : RowsIn news vs rows) : vs.length = rows.length := by
  induction h with
  | nil => rfl
  | cons _ _ _ _ _ ih => simp [ih]
theorem RowsIn.ok {news : List (Addr × Obj)} {vs ws : List Value} {rows : List (List Int)} (h : RowsIn news vs rows) (hne : rows ≠ []) (n : Nat) : RowOk (W.listOf (vs ++ ws).toArray n) := by
  cases h with
  | nil => exact absurd rfl hne
  | cons _ _ _ _ _ => exact .inr ⟨_, _, _, rfl⟩
theorem RowsIn.append {news : List (Addr × Obj)} {vs ws : List Value} {rows rows' : List (List Int)} (h : RowsIn news vs rows) (h' : RowsIn news ws rows') : RowsIn news (vs ++ ws) (rows ++ rows') := by
  induction h with
  | nil => exact h'
  | cons a b c d _ ih => exact .cons a b c d ih
theorem rows_list {es : List Expr} {rows : List (List Int)} {pos : Pos} {s : Shared} {news : List (Addr × Obj)} {Q : Value → Shared → Prop} (e : litRows es = some rows) (hne : (rows.length != 0 && rows.length ≤ 100) = true) (F : Fr h₀ L s.heap m) (N : News h₀ L s.heap news)
    (h : ∀ l tk h' news', Fr h₀ L h' m → News h₀ L h' news' → Grown news news' → RowList news' l rows → Q (.ref l) { s with heap := h', toks := tk }) : wpAny (model prog w) A (eval (.List es pos) env) Q E s := by
  obtain ⟨h1, h2⟩ := Bool.and_eq_true_iff.mp hne
  have h1 : rows ≠ [] := by rintro rfl; cases h1
  have h2 : rows.length ≤ 100 := of_decide_eq_true h2
  refine List_ (rows_disp e F N fun vs tk h' nw F' N' G R => newList_N F' N' (fun h'' F'' N'' => ?_) (by rw [R.length]; exact Nat.le_trans h2 (by decide)))
  have g : Grown news ((h'.objs.size, W.listOf vs.toArray 0) :: nw) := G.one (by have := R.ok (ws := []) h1 0; rwa [List.append_nil] at this)
  exact h _ tk h'' _ F'' N'' g ⟨vs, 0, .head _, R.more fun p hp => .tail _ hp⟩
theorem rows_add {a b : Addr} {r1 r2 : List (List Int)} {s : Shared} {news : List (Addr × Obj)} {Q : Value → Shared → Prop} (F : Fr h₀ L s.heap m) (N : News h₀ L s.heap news) (x : RowList news a r1) (y : RowList news b r2) (hne : (r1.length != 0 && r1.length + r2.length ≤ 100) = true)
    (h : ∀ l h' news', Fr h₀ L h' m → News h₀ L h' news' → Grown news news' → RowList news' l (r1 ++ r2) → Q (.ref l) { s with heap := h' }) : wpAny (model prog w) A (binaryOp .Add (.ref a) (.ref b)) Q E s := by
  obtain ⟨h1, h2⟩ := Bool.and_eq_true_iff.mp hne
  have h1 : r1 ≠ [] := by rintro rfl; cases h1
  have h2 : r1.length + r2.length ≤ 100 := of_decide_eq_true h2
  obtain ⟨vs, n, v1, v2⟩ := x
  obtain ⟨ws, k, w1, w2⟩ := y
  refine add_lists F N (News.isList N v1) (News.isList N w1) (fun h' F' N' => ?_) (by rw [v2.length, w2.length]; exact Nat.le_trans h2 (by decide))
  exact h _ h' _ F' N' (Grown.one .refl (v2.ok h1 0)) ⟨vs ++ ws, 0, .head _, (v2.append w2).more fun p hp => .tail _ hp⟩
end
local macro_rules | `(tactic| walk_at $s:str) => `(tactic| k_extra $s)
theorem law_rows_spec (w : World) (news : List (Addr × Obj))  : Spec w 2 190 [] news (PRows news) := by
  dsimp only [Spec]
  k_fill
  intros
  rename_i hret
  w_top off
  k_with_none
  k_with "eval List" => (k_here; k_dflt (refine' rows_list ?e ?z ?F ?N ?_; (case e => with_unfolding_all rfl); (case F => k_asm); (case N => k_asm); (case z => rfl)); first | (have _ := RA; intro lB tB hB nB FB NB GB RB) | (intro lA tA hA nA FA NA GA RA))
  k_with "binaryOp Add ref ref" => (k_here; k_dflt (refine' rows_add ?F ?N (RowList.more RA GB) RB ?z ?_; (case F => k_asm); (case N => k_asm); (case z => rfl)); intro lC hC nC FC NC GC RC; replace GA := Grown.trans (Grown.trans GA GB) GC; clear RA GB RB; have RA := RC; clear RC GC)
  refine wpAny_call ?_
  k_dflt cell_enter
  k_steps
  obtain ⟨vs, n, h1, h2⟩ := RA
  exact hret _ _ _ _ ⟨_, vs, n, rfl, h1, h2, GA.2, GA.1⟩ (by assumption) (by assumption)
end Mine
-- part C15
namespace Mine
local macro_rules | `(tactic| walk_at "mine pad 0") => `(tactic| skip)
/-- the box of the draws -/
noncomputable abbrev boxO (i : Int) (l : Addr) (r : Int) (t1 t3 : Tok) (n : Nat) : Obj := W.listOf #[.int i t1, .ref l, .int r t3] n
abbrev PDraw (b l : Addr) (rest : List (Addr × Obj)) (i many : Int) : Value → List (Addr × Obj) → Prop := fun v nw =>
  ∃ (x : Int) (t t1 t3 : Tok) (r' : Int) (n' : Nat), v = .int x t ∧ 0 ≤ x ∧ x < many ∧ 0 ≤ r' ∧ r' < 2147483648 ∧ nw = (b, boxO (i + 1) l r' t1 t3 n') :: rest
theorem len_led {prog : Program} {w : World} {A : Around} {E : Value → Shared → Prop} {s : Shared} {h₀ : Heap} {L l : Addr} {news : List (Addr × Obj)} {us : List Value} {ns : List Int} {n : Nat} {Q : Value → Shared → Prop} (N : News h₀ L s.heap news) (hm : (l, W.listOf us.toArray n) ∈ news) (hi : IntsAre us ns) (hz : ns.length ≤ 1000000)
    (h : Q (.int ns.length (s.toks + 1)) { s with toks := s.toks + 1 + 1 }) : wpAny (model prog w) A (call (.builtin "len") [.ref l]) Q E s := by
  have e : us.toArray.size = ns.length := by rw [List.size_toArray]; exact hi.length
  refine Calls.call_len_list (News.isList N hm) (by omega) ?_
  rw [e]; exact h
theorem item_led {prog : Program} {w : World} {A : Around} {E : Value → Shared → Prop} {s : Shared} {h₀ : Heap} {L l : Addr} {news : List (Addr × Obj)} {us : List Value} {ns : List Int} {n : Nat} {k : Int} {u : Tok} {value slice : PySem.Expr} {Q : Value → Shared → Prop} (N : News h₀ L s.heap news) (hm : (l, W.listOf us.toArray n) ∈ news) (hi : IntsAre us ns) (hz : ns.length ≤ 1000000) (h0 : 0 ≤ k) (h1 : k < ns.length)
    (hs : subscripted slice false (.ref l) (.int k u) = operate [.ref l, .int k u] (getItem (.ref l) (.int k u)))
    (h : ∀ x t, x ∈ ns → Q (.int x t) s) : wpAny (model prog w) A (subscriptTail value slice (.ref l) (.int k u)) Q E s := by
  have hx : ns.getD k.toNat 0 ∈ ns := by
    rw [List.getD_eq_getElem?_getD, List.getElem?_eq_getElem (by omega)]; exact List.getElem_mem ..
  exact item_list_intsR (News.isList N hm) hi h0 h1 (by omega) (fun t => h _ t hx) hs
local macro_rules | `(tactic| walk_at $s:str) => `(tactic| k_extra $s)
theorem law_draw_spec (w : World) (news : List (Addr × Obj)) (b l : Addr) (us : List Value) (ns : List Int) (nl : Nat) (rest : List (Addr × Obj)) (i r many : Int) (t1 t3 tm : Tok) (n : Nat) (hb : news = (b, boxO i l r t1 t3 n) :: rest) (hl : (l, W.listOf us.toArray nl) ∈ rest) (hi : IntsAre us ns) (hlen : ns.length ≤ 1000) (hne : ∀ p ∈ rest, p.1 ≠ b) (hi0 : -1 ≤ i) (hi1 : i < 100000) (hr0 : 0 ≤ r) (hr1 : r < 2147483648) (hm0 : 0 < many) (hm1 : many < 100000) : Spec w 2 209 [.ref b, .int many tm] news (PDraw b l rest i many) := by
  subst hb
  dsimp only [Spec]
  k_fill
  intros
  rename_i hret
  w_top off
  k_with_none
  k_with "setItem ref int" => (k_extra "mine set")
  k_with "call builtin:len" => (k_extra "mine len")
  k_with "subscriptTail" => (k_extra "mine item")
  k_with "mine len" => (
    k_here
    k_dflt (refine len_led (by assumption) (List.mem_cons_of_mem _ hl) hi (by omega) ?_))
  k_with "mine item" => (
    k_here
    (with_reducible show wpAny _ _ (subscriptTail _ _ (Value.ref _) (Value.int (i + 1) _)) _ _ _)
    k_dflt (refine item_led (by assumption) (List.mem_cons_of_mem _ hl) hi (by omega) (by omega) (by omega) (by with_unfolding_all rfl) ?_)
    intro x7 t7 hx7)
  k_with "mine set" => (
    k_here
    k_dflt (refine' ki_set ?F ?N (by decide) (by decide) ?e (Upd.head hne) ?_; (case F => k_asm); (case N => k_asm); (case e => rfl))
    intro h' F' N')
  refine wpAny_call ?_
  k_dflt cell_enter
  k_steps
  all_goals first
    | exact hret _ _ _ _ ⟨_, _, _, _, _, _, rfl, Int.fmod_nonneg_of_pos _ hm0, Int.fmod_lt_of_pos _ hm0, hr0, hr1, rfl⟩ (by assumption) (by assumption)
    | exact hret _ _ _ _ ⟨_, _, _, _, (r * 48271 + 7919 * (i + 1) + 11).fmod 2147483647, _, rfl, Int.fmod_nonneg_of_pos _ hm0, Int.fmod_lt_of_pos _ hm0, Int.fmod_nonneg_of_pos _ (by decide), (by have q9 := Int.fmod_lt_of_pos (r * 48271 + 7919 * (i + 1) + 11) (show (0 : Int) < 2147483647 by decide); omega), rfl⟩ (by assumption) (by assumption)

end Mine
-- part B12
namespace Mine
section
variable {prog : Program} {w : World} {A : Around} {E : Value → Shared → Prop} {s : Shared} {env : Env} {h₀ : Heap} {target : Expr} {body : List Stmt} {Q : Flow → Shared → Prop}
/-- a loop over a list of ints, in whose turns one list of the ledger changes -/
theorem ints_grow {li b : Addr} {vs us₀ : List Value} {ns : List Int} {nl ep₀ : Nat} {led : List (Addr × Obj)} {m₀ : Str → Option Value} (stored : List Str) (J : Nat → List Value → Prop)
    (hh : A.handled = none) (F : Fr h₀ env.locals s.heap m₀) (N : News h₀ env.locals s.heap ((b, W.listOf us₀.toArray ep₀) :: led)) (hm : (li, W.listOf vs.toArray nl) ∈ led) (hi : IntsAre vs ns) (hll : ∀ p ∈ led, p.1 ≠ b) (h0 : J 0 us₀)
    (turn : ∀ i c t us ep (u : Str → Option Value) h tk own, ns[i]? = some c → J i us → (∀ p ∈ led ++ own, p.1 ≠ b) →
      Fr h₀ env.locals h (fun z => if stored.contains z then u z else m₀ z) → News h₀ env.locals h ((b, W.listOf us.toArray ep) :: (led ++ own)) →
      wpAny (model prog w) A (assign target env (.int c t)) (fun _ s₂ => wpAny (model prog w) A (execs body env) (GPost h₀ env.locals s stored m₀ b (led ++ own) (J (i + 1)) Q) E s₂) E { s with heap := h, toks := tk })
    (done : ∀ us ep (u : Str → Option Value) h tk, J ns.length us → Fr h₀ env.locals h (fun z => if stored.contains z then u z else m₀ z) → News h₀ env.locals h ((b, W.listOf us.toArray ep) :: led) → Q .next { s with heap := h, toks := tk }) :
    wpAny (model prog w) A (pyIter (.ref li)) (fun it s₂ => UnrAt prog w A h₀ env target body Q E it s₂) E s := by
  have hl : s.heap.IsList li vs.toArray := News.isList N (List.mem_cons_of_mem _ hm)
  obtain ⟨ol, hol, _⟩ := id hl
  have hls : li < s.heap.objs.size := Heap.lt_size hol
  have hne : li ≠ s.heap.objs.size := Nat.ne_of_lt hls
  have hlL : li ≠ env.locals := (N _ (List.mem_cons_of_mem _ hm)).2.1
  refine wpAny_pyIter_list hl ?_
  have W := Walks.list (prog := prog) (w := w) hh s.heap.objs.size li hne vs.toArray
  have hlen : vs.toArray.size = ns.length := by rw [List.size_toArray]; exact hi.length
  rw [hlen] at W
  have hnI : env.locals ≠ s.heap.objs.size := Nat.ne_of_lt F.ns.lt
  have hbI : b < s.heap.objs.size := Heap.lt_size (N _ (.head _)).1
  refine ⟨_, _, _, ns.length, _, _, m₀, _, rfl, W, ?_, ?_, ?_, ⟨⟨_, Heap.get?_push_size _ rfl, rfl, rfl⟩, hl.at fun o e => Heap.get?_push_of_some _ e⟩, F.push _, (fun p hp => ⟨Heap.get?_push_of_some _ (N p hp).1, (N p hp).2⟩), (fun i s' v Q' st hQ' => letGo_listiter st.1 hQ'), ?_⟩
  · intro hm
    rcases List.mem_cons.mp hm with e | hm
    · exact hnI e
    · exact hlL (List.mem_singleton.mp hm).symm
  · intro b hb
    rw [List.mem_singleton.mp hb]
    exact next_is_new F
  · intro p hp hI
    exact absurd (Heap.lt_size (N p hp).1) ((List.mem_singleton.mp hI) ▸ Nat.lt_irrefl _)
  · refine grow_unr (s := { s with heap := s.heap.push { cls := .type "list_iterator", data := .fields #[.ref li, .int 0 0] } }) (n := ns.length) stored J ?_ hll ?_ done ns.length 0 m₀ us₀ ep₀ (by omega) h0 fun _ _ => rfl
    · intro hm'
      rcases List.mem_cons.mp hm' with e | hm'
      · exact absurd hbI (e ▸ Nat.lt_irrefl _)
      · exact hll _ hm (List.mem_singleton.mp hm').symm
    · rintro i v us ep u h tk own _ hPv hj hoff F' N'
      obtain ⟨c, t, hc, rfl⟩ := ints_get hi hPv
      exact turn i c t us ep u h tk own hc hj hoff F' N'
abbrev BoxJ (li : Addr) (us : List Value) : Prop := ∃ (t1 : Tok) (r : Int) (t3 : Tok), us = [.int (-1) t1, .ref li, .int r t3] ∧ 0 ≤ r ∧ r < 2147483648
/-- law's first loop: the box changes while its list of cells is walked -/
theorem box_grow {li b : Addr} {vs : List Value} {ns : List Int} {nl ep₀ : Nat} {t1₀ t3₀ : Tok} {r₀ : Int} {led : List (Addr × Obj)} {m₀ : Str → Option Value} (stored : List Str)
    (hh : A.handled = none) (F : Fr h₀ env.locals s.heap m₀) (N : News h₀ env.locals s.heap ((b, boxO (-1) li r₀ t1₀ t3₀ ep₀) :: led)) (hm : (li, W.listOf vs.toArray nl) ∈ led) (hi : IntsAre vs ns) (hll : ∀ p ∈ led, p.1 ≠ b) (hr0 : 0 ≤ r₀) (hr1 : r₀ < 2147483648)
    (turn : ∀ (i : Nat) (c : Int) (t t1 : Tok) (r : Int) (t3 : Tok) (ep : Nat) (u : Str → Option Value) h tk own, ns[i]? = some c → 0 ≤ r → r < 2147483648 → (∀ p ∈ led ++ own, p.1 ≠ b) →
      Fr h₀ env.locals h (fun z => if stored.contains z then u z else m₀ z) → News h₀ env.locals h ((b, boxO (-1) li r t1 t3 ep) :: (led ++ own)) →
      wpAny (model prog w) A (assign target env (.int c t)) (fun _ s₂ => wpAny (model prog w) A (execs body env) (GPost h₀ env.locals s stored m₀ b (led ++ own) (BoxJ li) Q) E s₂) E { s with heap := h, toks := tk })
    (done : ∀ (t1 : Tok) (r : Int) (t3 : Tok) (ep : Nat) (u : Str → Option Value) h tk, 0 ≤ r → r < 2147483648 → Fr h₀ env.locals h (fun z => if stored.contains z then u z else m₀ z) → News h₀ env.locals h ((b, boxO (-1) li r t1 t3 ep) :: led) → Q .next { s with heap := h, toks := tk }) :
    wpAny (model prog w) A (pyIter (.ref li)) (fun it s₂ => UnrAt prog w A h₀ env target body Q E it s₂) E s := by
  refine ints_grow (us₀ := [.int (-1) t1₀, .ref li, .int r₀ t3₀]) stored (fun _ us => BoxJ li us) hh F N hm hi hll ⟨_, _, _, rfl, hr0, hr1⟩ ?_ ?_
  · rintro i c t us ep u h tk own hc ⟨t1, r, t3, rfl, q1, q2⟩ hoff F' N'
    exact turn i c t t1 r t3 ep u h tk own hc q1 q2 hoff F' N'
  · rintro us ep u h tk ⟨t1, r, t3, rfl, q1, q2⟩ F' N'
    exact done t1 r t3 ep u h tk q1 q2 F' N'
theorem box_growL {L : Addr} {li b : Addr} {vs : List Value} {ns : List Int} {nl ep₀ : Nat} {t1₀ t3₀ : Tok} {r₀ : Int} {led : List (Addr × Obj)} {m₀ : Str → Option Value} (stored : List Str)
    (hh : A.handled = none) (F : Fr h₀ L s.heap m₀) (N : News h₀ L s.heap ((b, boxO (-1) li r₀ t1₀ t3₀ ep₀) :: led)) (hm : (li, W.listOf vs.toArray nl) ∈ led) (hi : IntsAre vs ns) (hll : ∀ p ∈ led, p.1 ≠ b) (hr0 : 0 ≤ r₀) (hr1 : r₀ < 2147483648)
    (turn : ∀ (i : Nat) (c : Int) (t t1 : Tok) (r : Int) (t3 : Tok) (ep : Nat) (u : Str → Option Value) h tk own, ns[i]? = some c → 0 ≤ r → r < 2147483648 → (∀ p ∈ led ++ own, p.1 ≠ b) →
      Fr h₀ L h (fun z => if stored.contains z then u z else m₀ z) → News h₀ L h ((b, boxO (-1) li r t1 t3 ep) :: (led ++ own)) →
      wpAny (model prog w) A (assign target env (.int c t)) (fun _ s₂ => wpAny (model prog w) A (execs body env) (GPost h₀ L s stored m₀ b (led ++ own) (BoxJ li) Q) E s₂) E { s with heap := h, toks := tk })
    (done : ∀ (t1 : Tok) (r : Int) (t3 : Tok) (ep : Nat) (u : Str → Option Value) h tk, 0 ≤ r → r < 2147483648 → (∀ p ∈ led, p.1 ≠ b) → Fr h₀ L h (fun z => if stored.contains z then u z else m₀ z) → News h₀ L h ((b, boxO (-1) li r t1 t3 ep) :: led) → Q .next { s with heap := h, toks := tk })
    (hL : env.locals = L) :
    wpAny (model prog w) A (pyIter (.ref li)) (fun it s₂ => UnrAt prog w A h₀ env target body Q E it s₂) E s := by
  subst hL
  exact box_grow stored hh F N hm hi hll hr0 hr1 turn fun t1 r t3 ep u h tk q1 q2 => done t1 r t3 ep u h tk q1 q2 hll
end
theorem GEnd.box {h₀ : Heap} {L : Addr} {s : Shared} {stored : List Str} {m₀ m' : Str → Option Value} {b li : Addr} {rest : List (Addr × Obj)} {h' : Heap} {tk n : Nat} {r : Int} {t1 t3 : Tok}
    (F : Fr h₀ L h' m') (N : News h₀ L h' ((b, boxO (-1) li r t1 t3 n) :: rest)) (hm : ∀ z, stored.contains z = false → m' z = m₀ z) (h0 : 0 ≤ r) (h1 : r < 2147483648) : GEnd h₀ L s stored m₀ b rest (BoxJ li) { s with heap := h', toks := tk } :=
  ⟨h', tk, m', _, [.int (-1) t1, .ref li, .int r t3], n, rfl, F, N, fun p hp => hp, hm, ⟨t1, r, t3, rfl, h0, h1⟩⟩
end Mine
-- part C13
namespace Mine
noncomputable def lawBlanks : List Int := [9, 10, 11, 12, 13, 32, 160, 5760, 6158, 8232, 8233, 8239, 8287, 12288, 65279, 8192, 8193, 8194, 8195, 8196, 8197, 8198, 8199, 8200, 8201, 8202]
/-- a new list of ints -/
abbrev PInts (news : List (Addr × Obj)) (ns : List Int) : Value → List (Addr × Obj) → Prop := fun v nw => ∃ (a : Addr) (us : List Value) (n : Nat), v = .ref a ∧ nw = (a, W.listOf us.toArray n) :: news ∧ IntsAre us ns ∧ ∀ p ∈ news, p.1 < a
theorem law_blanks_eq : ([9, 10, 11, 12, 13, 32, 160, 5760, 6158, 8232, 8233, 8239, 8287, 12288, 65279] ++ rangeInts 8192 1 (8203 - 8192 : Int).toNat : List Int) = lawBlanks := by decide
local macro_rules | `(tactic| walk_at $s:str) => `(tactic| k_extra $s)
theorem law_blanks_spec (w : World) (news : List (Addr × Obj))  : Spec w 2 202 [] news (PInts news lawBlanks) := by
  dsimp only [Spec]
  k_fill
  intros
  rename_i hret
  w_top off
  k_with_none
  k_with "binaryOp Add ref ref" => (k_extra "mine add")
  k_with "mine add" => (
    rename CarriedAll _ _ => hc9
    rename Heap.IsList _ _ _ => hl9
    rename Fr _ _ _ _ => hF9
    rename News _ _ _ _ => hN9
    refine' kmk_add_ints (ns := [9, 10, 11, 12, 13, 32, 160, 5760, 6158, 8232, 8233, 8239, 8287, 12288, 65279]) hF9 hN9 (News.isList hN9 (List.Mem.head _)) hl9 ?_ (IntsAre.ofCarried hc9) (fun D us h' F' N' hlt hI => ?_) ?_
    · repeat' (first | exact IntsAre.nil | refine IntsAre.cons _ _ ?_)
    rotate_left
    · decide
    rw [law_blanks_eq] at hI)
  refine wpAny_call ?_
  k_dflt cell_enter
  k_steps
  refine hret _ _ _ _ ⟨_, us, 0, rfl, rfl, hI, fun p hp => hlt p (List.mem_cons_of_mem _ hp)⟩ (by assumption) (news_drop (by assumption) ?_)
  intro p hp
  rcases List.mem_cons.mp hp with rfl | hp
  · exact List.mem_cons_self
  · exact List.mem_cons_of_mem _ (List.mem_cons_of_mem _ hp)
end Mine
-- part C14
namespace Mine
theorem upd_K {prog : Program} {w : World} {K : Type} [DecidableEq K] {knd : KeyKind prog w K} {A : Around} {E : Value → Shared → Prop} {s : Shared} {h₀ : Heap} {L d o₂ : Addr} {m : Str → Option Value} {news : List (Addr × Obj)} {g : Obj → List (Addr × Obj)} {o ob₂ : Obj} {kvs more : List (K × Value)} {Q : Value → Shared → Prop}
    (F : Fr h₀ L s.heap m) (N : News h₀ L s.heap news) (U : UpdF d o news g) (hd : o.IsDictOf knd kvs) (hp : (o₂, ob₂) ∈ news) (hd₂ : ob₂.IsDictOf knd more) (hne : d ≠ o₂) (lo : (o₂ == sysModules) = false) (hsz : kvs.length + more.length ≤ sizeLine)
    (h : ∀ h' o', Fr h₀ L h' m → News h₀ L h' (g o') → o'.IsDictOf knd (merged kvs more) → Q .none { s with heap := h' }) :
    wpAny (model prog w) A (call (.builtin "dict.update") [.ref d, .ref o₂]) Q E s := by
  obtain ⟨pre, post, rfl, hg, a, b⟩ := U.split
  have hm := N (d, o) (List.mem_append_right _ (.head _))
  have hD : s.heap.DictOf knd d kvs := Heap.dictOf_iff.mpr ⟨o, hm.1, hd⟩
  have hD₂ : s.heap.DictOf knd o₂ more := Heap.dictOf_iff.mpr ⟨ob₂, (N _ hp).1, hd₂⟩
  refine call_meetsIn PySem.F.slot_dict_update hD.typeIs PySem.F.entry_dict_update (PySem.F.args_dict_update_2 _ _) (meets_dict_update knd d o₂ hne lo)
    ⟨kvs, more, hD, hD₂, hsz, fun h' hmm _ hs => ?_⟩
  obtain ⟨o', ho', hd'⟩ := Heap.dictOf_iff.mp hmm
  exact h h' o' (F.change hs hm.2.1 hm.2.2) (hg o' ▸ News.setIn N a b hs ho') hd'
local macro_rules | `(tactic| walk_at "getMethod ref") => `(tactic| (k_here; (with_reducible show wpAny _ _ (getMethod (Value.ref _) (Str.ofString "update") _) _ _ _); k_dflt (refine' kob_method (knd := PySem.intKind _ _) PySem.F.slot_dict_update PySem.F.type_dict_update ?N ?p ?d ?_; (case N => k_asm); (case p => k_mem); (case d => k_asm)); (try dsimp only); walk_say "MINE UPDATE METHOD"))
local macro_rules | `(tactic| walk_at "callWith builtin:dict.update") => `(tactic| (with_reducible refine callWith_method1 ?_ (by with_unfolding_all rfl) (by with_unfolding_all rfl)))
local macro_rules | `(tactic| walk_at "call builtin:dict.update") => `(tactic| (k_here; k_dflt (refine' upd_K (knd := PySem.intKind _ _) ?F ?N ?U ?d ?p2 ?d2 ?n ?lo ?z ?_; (case F => k_asm); (case N => k_asm); (case U => k_updF); (case d => k_asm); (case p2 => k_mem); (case d2 => k_asm); (case n => k_ne); (case lo => k_asm); (case z => kob_size)); intro h' o' F' N' hd'; (try kob_lit); (try dsimp only at N'); walk_say "MINE UPDATE"))
theorem Spec.useRows {w : World} {k : Nat} {f : Addr} {vs : List Value} {news : List (Addr × Obj)} (S : Spec w k f vs news (PRows news))
    {loose : List Str} {mean : ExcName → Option Value} {mg mb : Str → Option Value} {dp un : Nat} {gd : Option (List Code)} {cn : Str} {cs : Scope} {a : Addr} {ccd : Value} {cl : List (Str × Addr)} {outer : List Env} {A₀ : Around} {base h₀ : Heap} {L : Addr} {m : Str → Option Value} {s : Shared} {Q E : Value → Shared → Prop}
    (B : Below A₀ base outer h₀) (F : Fr h₀ L s.heap m) (X : (Mine.hk.heap_1 w.params).In h₀) (N : News h₀ L s.heap news) (T : Top Mine.vq loose mean mg mb h₀) (hk : cs.kind = .function)
    (hd : dp + k < recursionLimit) (hu : un + 8 * k + 8 < cLine)
    (ret : ∀ (b : Addr) (us : List Value) (n : Nat) (nw : List (Addr × Obj)) (h' : Heap) (tk' : Nat), (b, W.listOf us.toArray n) ∈ nw → RowsIn nw us rowsL → (∀ p ∈ nw, p ∈ news ∨ RowOk p.2) → (∀ p ∈ news, p ∈ nw) → Fr h₀ L h' m → News h₀ L h' nw → Q (.ref b) { s with heap := h', toks := tk' }) :
    wpAny (model PySem.Challenge.rw_nt0347_01.row.prog w) (ktrTop dp un gd cn cs L a ccd cl outer) (call (.ref f) vs) Q E s := by
  refine S loose mean mg mb dp un gd cn cs a ccd cl outer A₀ base h₀ L m s Q E B F X N T hk hd hu ?_
  rintro v nw h' tk' ⟨b, us, n, rfl, h1, h2, h3, h4⟩ F' N'
  exact ret b us n nw h' tk' h1 h2 h3 h4 F' N'
theorem RowsIn.at {h₀ h : Heap} {L : Addr} {news : List (Addr × Obj)} {b : Addr} {vs : List Value} {n : Nat} {rows : List (List Int)} (hm : (b, W.listOf vs.toArray n) ∈ news) (x : RowsIn news vs rows) (N : News h₀ L h news) : RowsAt h b vs rows :=
  (x.is N).at ⟨_, (N _ hm).1, rfl, _, rfl⟩
section
variable {prog : Program} {w : World} {A : Around} {E : Value → Shared → Prop} {s : Shared} {env : Env} {h₀ : Heap} {target : Expr} {body : List Stmt} {Q : Flow → Shared → Prop}
theorem rows_led4 {l : Addr} {vs : List Value} {n : Nat} {rows : List (List Int)} {led : List (Addr × Obj)} {m₀ : Str → Option Value} (stored : List Str) (J : Nat → Prop)
    (hh : A.handled = none) (hm : (l, W.listOf vs.toArray n) ∈ led) (hr : RowsIn led vs rows) (hlen : ∀ row ∈ rows, row.length = 4)
    (F : Fr h₀ env.locals s.heap m₀) (N : News h₀ env.locals s.heap led) (h0 : J 0)
    (turn : ∀ i a b c d t1 t2 t3 t4 r (u : Str → Option Value) h tk own, rows[i]? = some [a, b, c, d] → J i → IsTup h r #[.int a t1, .int b t2, .int c t3, .int d t4] →
      Fr h₀ env.locals h (fun z => if stored.contains z then u z else m₀ z) → News h₀ env.locals h (led ++ own) →
      wpAny (model prog w) A (assign target env (.ref r)) (fun _ s₂ => wpAny (model prog w) A (execs body env) (RPost h₀ env.locals s stored m₀ (led ++ own) (J (i + 1)) Q) E s₂) E { s with heap := h, toks := tk })
    (done : ∀ (u : Str → Option Value) h tk, J rows.length → Fr h₀ env.locals h (fun z => if stored.contains z then u z else m₀ z) → News h₀ env.locals h led → Q .next { s with heap := h, toks := tk }) :
    wpAny (model prog w) A (pyIter (.ref l)) (fun it s₂ => UnrAt prog w A h₀ env target body Q E it s₂) E s := by
  refine rows_at (vs := vs) (rows := rows) stored J hh (N _ hm).2.1 (fun h m' F' N' => RowsIn.at hm hr N') F N h0 ?_ done
  intro i row r items u h tk own hrow hj ht hi
  obtain ⟨a, b, c, d, rfl⟩ := len4 (hlen row (List.mem_of_getElem? hrow))
  obtain ⟨t1, t2, t3, t4, rfl⟩ := ints4 hi
  exact turn i a b c d t1 t2 t3 t4 r u h tk own hrow hj ht
end
noncomputable def rowPair (c : Int) (row : List Int) : Option (Str × Str) :=
  if row.getD 0 0 ≤ c ∧ Int.fmod (c - row.getD 0 0) (row.getD 3 0) = 0 ∧ Int.fdiv (c - row.getD 0 0) (row.getD 3 0) < row.getD 2 0 then some (chrS (row.getD 1 0 + c - row.getD 0 0), chrS c)
  else if row.getD 1 0 ≤ c ∧ Int.fmod (c - row.getD 1 0) (row.getD 3 0) = 0 ∧ Int.fdiv (c - row.getD 1 0) (row.getD 3 0) < row.getD 2 0 then some (chrS c, chrS (row.getD 0 0 + c - row.getD 1 0))
  else none
noncomputable def aloneL (c : Int) : Int := if c = 181 then 924 else if c = 305 then 73 else if c = 383 then 83 else if c = 962 then 931 else c
noncomputable def wideL (c : Int) : List Int := if c = 223 then [83, 83] else if c = 329 then [700, 78] else if c = 912 then [921, 776, 769] else if c = 944 then [933, 776, 769] else if c = 1415 then [1333, 1362] else []
noncomputable def isWide (c : Int) : Bool := decide (c = 223) || decide (c = 329) || decide (c = 912) || decide (c = 944) || decide (c = 1415)
theorem wideL_len (c : Int) : (wideL c).length ≤ 3 := by unfold wideL; (repeat' split) <;> decide
theorem wideL_ok (c : Int) : ∀ k ∈ wideL c, 0 ≤ k ∧ k < 2000 := by unfold wideL; (repeat' split) <;> decide
theorem not_wide {c : Int} (h : isWide c = false) : c ≠ 223 ∧ c ≠ 329 ∧ c ≠ 912 ∧ c ≠ 944 ∧ c ≠ 1415 := by
  simp only [isWide, Bool.or_eq_false_iff, decide_eq_false_iff_not] at h
  omega
noncomputable def pairOf (c : Int) : Str × Str :=
  if c = 304 then (⟨#[105, 775]⟩, chrS 304) else if isWide c = true then (chrS c, Txt.join (Str.ofString "") ((wideL c).map chrS)) else
  match rowsL.findSome? (rowPair c) with
  | some p => p
  | none => (chrS c, chrS (aloneL c))
theorem rows_ok : ∀ row ∈ rowsL, 0 ≤ row.getD 0 0 ∧ row.getD 0 0 ≤ 8000 ∧ 0 ≤ row.getD 1 0 ∧ row.getD 1 0 ≤ 8000 ∧ 0 < row.getD 3 0 ∧ row.getD 3 0 ≤ 2 := by decide
/-- a new pair of texts -/
abbrev PPair (news : List (Addr × Obj)) (x y : Str) : Value → List (Addr × Obj) → Prop := fun v nw => ∃ (t : Addr) (t1 t2 : Tok) (n : Nat), v = .ref t ∧ nw = (t, { cls := .type "tuple", data := .seq #[.str x t1, .str y t2] n }) :: news
theorem five_cases (c : Int) : c = 223 ∨ c = 329 ∨ c = 912 ∨ c = 944 ∨ c = 1415 ∨ (c ≠ 223 ∧ c ≠ 329 ∧ c ≠ 912 ∧ c ≠ 944 ∧ c ≠ 1415) := by omega
theorem five_none {v1 v2 v3 v4 v5 : Value} {c : Int} (h : c ≠ 223 ∧ c ≠ 329 ∧ c ≠ 912 ∧ c ≠ 944 ∧ c ≠ 1415) : (valueAt [(223, v1), (329, v2), (912, v3), (944, v4), (1415, v5)] c).isSome = false := by
  obtain ⟨h1, h2, h3, h4, h5⟩ := h
  simp [valueAt, List.find?, Ne.symm h1, Ne.symm h2, Ne.symm h3, Ne.symm h4, Ne.symm h5]
theorem wide_in {v1 v2 v3 v4 v5 : Value} (c : Int) : (valueAt [(223, v1), (329, v2), (912, v3), (944, v4), (1415, v5)] c).isSome = isWide c := by
  rcases five_cases c with e | e | e | e | e | e
  · subst e; rfl
  · subst e; rfl
  · subst e; rfl
  · subst e; rfl
  · subst e; rfl
  · rw [five_none e]; obtain ⟨h1, h2, h3, h4, h5⟩ := e; simp [isWide, h1, h2, h3, h4, h5]
theorem wide_get {prog : Program} {w : World} {A : Around} {E : Value → Shared → Prop} {s : Shared} {h₀ : Heap} {L d : Addr} {news : List (Addr × Obj)} {o : Obj} {c : Int} {tc : Tok} {Q : Value → Shared → Prop} {value slice : PySem.Expr} {l1 l2 l3 l4 l5 : Addr} {a1 a2 b1 b2 c1 c2 c3 d1 d2 d3 e1 e2 : Tok} {n1 n2 n3 n4 n5 : Nat}
    (hw : isWide c = true) (N : News h₀ L s.heap news) (hp : (d, o) ∈ news) (hd : o.IsDictOf (PySem.intKind prog w) [(223, .ref l1), (329, .ref l2), (912, .ref l3), (944, .ref l4), (1415, .ref l5)])
    (m1 : (l1, W.listOf #[.int 83 a1, .int 83 a2] n1) ∈ news) (m2 : (l2, W.listOf #[.int 700 b1, .int 78 b2] n2) ∈ news) (m3 : (l3, W.listOf #[.int 921 c1, .int 776 c2, .int 769 c3] n3) ∈ news)
    (m4 : (l4, W.listOf #[.int 933 d1, .int 776 d2, .int 769 d3] n4) ∈ news) (m5 : (l5, W.listOf #[.int 1333 e1, .int 1362 e2] n5) ∈ news)
    (hs : subscripted slice false (.ref d) (.int c tc) = operate [.ref d, .int c tc] (getItem (.ref d) (.int c tc))) (hg : ∀ r, letTemporaryGo value (.ref d) r = pure ())
    (h : ∀ l (us : List Value) n, (l, W.listOf us.toArray n) ∈ news → IntsAre us (wideL c) → Q (.ref l) { s with toks := s.toks + 1 }) :
    wpAny (model prog w) A (subscriptTail value slice (.ref d) (.int c tc)) Q E s := by
  rcases five_cases c with e | e | e | e | e | e
  · subst e; exact kda_item N hp hd (intKind_is _ _ _ _) rfl (h _ _ _ m1 (.cons _ _ (.cons _ _ .nil))) hs hg
  · subst e; exact kda_item N hp hd (intKind_is _ _ _ _) rfl (h _ _ _ m2 (.cons _ _ (.cons _ _ .nil))) hs hg
  · subst e; exact kda_item N hp hd (intKind_is _ _ _ _) rfl (h _ _ _ m3 (.cons _ _ (.cons _ _ (.cons _ _ .nil)))) hs hg
  · subst e; exact kda_item N hp hd (intKind_is _ _ _ _) rfl (h _ _ _ m4 (.cons _ _ (.cons _ _ (.cons _ _ .nil)))) hs hg
  · subst e; exact kda_item N hp hd (intKind_is _ _ _ _) rfl (h _ _ _ m5 (.cons _ _ (.cons _ _ .nil))) hs hg
  · obtain ⟨h1, h2, h3, h4, h5⟩ := e; simp [isWide, h1, h2, h3, h4, h5] at hw
theorem alone_val (c : Int) (tc a b d e : Tok) : ∃ t', (valueAt [((181 : Int), Value.int 924 a), (305, .int 73 b), (383, .int 83 d), (962, .int 931 e)] c).getD (.int c tc) = .int (aloneL c) t' := by
  unfold aloneL
  by_cases h1 : c = 181
  · subst h1; exact ⟨_, rfl⟩
  by_cases h2 : c = 305
  · subst h2; exact ⟨_, rfl⟩
  by_cases h3 : c = 383
  · subst h3; exact ⟨_, rfl⟩
  by_cases h4 : c = 962
  · subst h4; exact ⟨_, rfl⟩
  exact ⟨tc, by simp [valueAt, List.find?, h1, h2, h3, h4, Ne.symm h1, Ne.symm h2, Ne.symm h3, Ne.symm h4]⟩
theorem alone_get {prog : Program} {w : World} {A : Around} {E : Value → Shared → Prop} {s : Shared} {h₀ : Heap} {L d : Addr} {news : List (Addr × Obj)} {o : Obj} {c : Int} {tc a b f e : Tok} {Q : Value → Shared → Prop}
    (N : News h₀ L s.heap news) (hp : (d, o) ∈ news) (hd : o.IsDictOf (PySem.intKind prog w) [(181, .int 924 a), (305, .int 73 b), (383, .int 83 f), (962, .int 931 e)]) (lo : (d == sysModules) = false)
    (h : ∀ t', Q (.int (aloneL c) t') { s with toks := s.toks + 1 }) : wpAny (model prog w) A (call (.builtin "dict.get") [.ref d, .int c tc, .int c tc]) Q E s := by
  obtain ⟨t', e'⟩ := alone_val c tc a b f e
  refine kdg_get2 N hp hd lo (intKind_is _ _ _ _) _ rfl ?_
  rw [e']
  exact h t'
theorem small_items {ns : List Int} (k : Int) (h : k ∈ ns) (ha : (ns.all fun x => decide (0 ≤ x ∧ x < 2000)) = true) : 0 ≤ k ∧ k < 2000 := of_decide_eq_true (List.all_eq_true.mp ha k h)
section
variable {prog : Program} {w : World} {A : Around} {E : Value → Shared → Prop} {s : Shared} {h₀ : Heap} {L : Addr} {m : Str → Option Value} {env : Env}
theorem comp_chr {elt : Expr} {x : Str} {scope : Scope} {cl : List (Str × Addr)} {S : List (Addr × Obj) → Prop} {Fin : List Value → List (Addr × Obj) → Prop} {us : List Value} {ns : List Int} {news : List (Addr × Obj)} (hi : IntsAre us ns)
    (turn : ∀ i ys I oI C oC D m₂ h tk (E' : Value → Shared → Prop) k t, ns[i]? = some k → StrsAre ys ((ns.take i).map chrS) → LCg.NsObj oC m₂ → m₂ x = some (.int k t) → Fr h₀ L h m → News h₀ L h ((I, oI) :: (C, oC) :: (D, LCg.lst ys) :: news) → LCg.Off3 I C D news → ((@Ne Nat I C) ∧ (@Ne Nat I D) ∧ (@Ne Nat C D)) →
      wpAny (model prog w) A (eval elt (compEnvC scope cl C env)) (LCg.CompEnd h₀ L m { s with heap := h, toks := tk } I oI C oC D (LCg.lst ys) S (fun y nw' => nw' = news ∧ StrsAre (ys ++ [y]) ((ns.take (i + 1)).map chrS))) E' { s with heap := h, toks := tk })
    (fin : ∀ ys, StrsAre ys.toArray.toList (ns.map chrS) → Fin ys news) : LCg.CompRest prog w A h₀ L m env elt x scope cl s S (fun i v => us.toArray[i]? = some v) Fin us.toArray.size 0 [] news := by
  refine comp_same (fun i ys => StrsAre ys ((ns.take i).map chrS)) StrsAre.nil ?_ ?_
  · intro i v ys I oI C oC D m₂ h tk E' _ hP hJ hC hx F N off ne
    obtain ⟨k, t, hk, hv⟩ := ints_get hi hP
    rw [hv] at hx
    exact turn i ys I oI C oC D m₂ h tk E' k t hk hJ hC hx F N off ne
  · intro ys hJ
    exact fin ys (strs_all' (by rw [List.size_toArray]; exact hi.length) hJ)
end
theorem pairOf_row {c : Int} {p : Str × Str} (h : c ≠ 304) (e : isWide c = false) (hr : rowsL.findSome? (rowPair c) = some p) : pairOf c = p := by
  simp only [pairOf, h, e, if_false, Bool.false_eq_true, hr]
theorem pairOf_none {c : Int} (h : c ≠ 304) (e : isWide c = false) (hr : (rowsL.take rowsL.length).findSome? (rowPair c) = none) : pairOf c = (chrS c, chrS (aloneL c)) := by
  rw [List.take_length] at hr
  simp only [pairOf, h, e, if_false, Bool.false_eq_true, hr]
theorem pairOf_wide {c : Int} (h : c ≠ 304) (e : isWide c = true) : pairOf c = (chrS c, Txt.join (Str.ofString "") ((wideL c).map chrS)) := by
  simp only [pairOf, h, e, if_false, if_true]
theorem ret_pair {news : List (Addr × Obj)} {c : Int} {x y : Str} {t : Addr} {t1 t2 : Tok} {n : Nat} (hp : pairOf c = (x, y)) :
    PPair news (pairOf c).1 (pairOf c).2 (.ref t) ((t, { cls := .type "tuple", data := .seq #[.str x t1, .str y t2] n }) :: news) := by
  rw [hp]; exact ⟨_, _, _, _, rfl, rfl⟩
theorem news_head {h₀ h : Heap} {L t : Addr} {o : Obj} {news led : List (Addr × Obj)} (N : News h₀ L h ((t, o) :: led)) (hs : ∀ p ∈ news, p ∈ led) : News h₀ L h ((t, o) :: news) :=
  news_drop N fun p hp => (List.mem_cons.mp hp).elim (fun e => e ▸ List.mem_cons_self) (fun q => List.mem_cons_of_mem _ (hs p q))
theorem pair_304 : pairOf 304 = (Str.ofString "i̇", { cps := #[Int.toNat 304] }) := by decide
theorem alone_bnd {c : Int} (h0 : 0 ≤ c) (h1 : c < 65536) : 0 ≤ aloneL c ∧ aloneL c < 65536 := by
  unfold aloneL; (repeat' split) <;> omega
local macro_rules | `(tactic| walk_at "exec If") => `(tactic| (k_extra "mine tidy"; walk_at "exec If"))
local macro_rules | `(tactic| walk_at $s:str) => `(tactic| k_extra $s)
theorem law_pair_spec (w : World) (news : List (Addr × Obj)) (c : Int) (h0 : 0 ≤ c) (h1 : c < 65536) (tc : Tok) : Spec w 4 195 [.int c tc] news (PPair news (pairOf c).1 (pairOf c).2) := by
  dsimp only [Spec]
  k_fill
  intros
  rename_i hret
  w_top off
  k_with_none
  k_with "compareOp In int ref" => (k_extra "mine in")
  k_with "subscriptTail Name Name ref int" => (k_extra "mine item")
  k_with "getMethod ref" => (k_extra "mine get method")
  k_with "call builtin:dict.get" => (k_extra "mine get")
  k_with "callWith builtin:dict.get" => (with_reducible refine callWith_method1 ?_ (by with_unfolding_all rfl) (by with_unfolding_all rfl))
  k_with "exec For Tuple Call cons nil" => (k_here; (rename Fr _ _ _ _ => lF'); (with_reducible apply For_unrF); (case _F => with_unfolding_all exact lF'); (case hs => (intro _; with_unfolding_all rfl)))
  k_with "pyIter ref" => (k_extra "mine for")
  k_with "RPost" => (dsimp only [RPost])
  k_with "call ref" => (k_here; (with_reducible show wpAny _ _ (call (Value.ref 190) _) _ _ _); k_dflt (refine' Spec.useRows (law_rows_spec _ _) ?k1 ?k2 ?k3 ?k4 ?k5 ?kK ?kd ?ku ?_); (case k1 => k_asm); (case k2 => k_asm); (case k3 => k_asm); (case k4 => k_asm); (case k5 => k_asm); (case kK => first | exact rfl | assumption); (case kd => ktr_room); (case ku => ktr_units); (intro b9 us9 n9 nw9 h9 tk9 hm9 hr9 ho9 hk9 F9 N9); (try dsimp only); (try k_fold))
  k_with "eval ListComp" => (k_here; k_dflt (refine LCg.ListComp_U (F₀ := by k_asm) (by with_unfolding_all rfl) (by decide) (by rfl) (by decide) (by rfl) ?_))
  k_with "CompSrc" => (k_extra "mine src")
  k_with "CompEnd" => (k_extra "mine compend")
  k_with "call builtin:str.join" => (k_extra "mine join")
  k_with "mine for" => (
    rename Fr _ _ _ _ => hF9
    rename News _ _ _ _ => hN9
    rename RowsIn _ _ _ => hR9
    rename (_, W.listOf _ _) ∈ _ => hm9
    refine' rows_led4 (rows := rowsL) [Str.ofString "great", Str.ofString "small", Str.ofString "many", Str.ofString "step"] (fun i => (rowsL.take i).findSome? (rowPair c) = none) rfl hm9 hR9 (by decide) hF9 hN9 rfl (fun i ra rb rd re t1 t2 t3 t4 r u h tk own hrow hJ hT F N => ?_) (fun u h tk hJ F N => ?_)
    all_goals clear hF9 hN9 hR9
    (try (have hok := rows_ok _ (List.mem_of_getElem? hrow); simp only [List.getD_cons_zero, List.getD_cons_succ] at hok; obtain ⟨ho1, ho2, ho3, ho4, ho5, ho6⟩ := hok)))
  k_with "mine in" => (
    k_here
    (with_reducible show wpAny _ _ (compareOp CmpOp.In (Value.int c _) _) _ _ _)
    k_dflt (refine kda_in (knd := PySem.intKind _ _) (by k_asm) (by k_mem) (by k_asm) (by k_asm) (intKind_is _ _ _ _) _ (wide_in c) ?_))
  k_with "mine item" => (
    k_here
    k_dflt (refine wide_get (by assumption) (by k_asm) (by k_mem) (by k_asm) (by k_mem) (by k_mem) (by k_mem) (by k_mem) (by k_mem) (by with_unfolding_all rfl) (by intro _; with_unfolding_all rfl) ?_)
    intro l7 us7 n7 hm7 hi7)
  k_with "mine tidy" => (
    (rename Obj.IsDictOf _ _ (intKeyPairs _) => hA9)
    (rename PyProof.V.FlatPairs _ _ _ => hB9)
    (have hA8 : ∃ a b f e', Obj.IsDictOf (PySem.intKind _ _) _ [((181 : Int), Value.int 924 a), (305, .int 73 b), (383, .int 83 f), (962, .int 931 e')] := ⟨_, _, _, _, hA9⟩)
    clear hB9 hA9
    obtain ⟨a7, b7, f7, e7, hA7⟩ := hA8)
  k_with "mine get method" => (
    k_here
    (with_reducible show wpAny _ _ (getMethod (Value.ref _) (Str.ofString "get") _) _ _ _)
    (rename ∀ p, p ∈ _ → p ∈ _ => hk9)
    k_dflt (refine kdg_method (knd := PySem.intKind _ _) (by k_asm) (hk9 _ (by k_mem)) (by k_asm) ?_)
    (try dsimp only))
  k_with "mine get" => (
    k_here
    (rename ∀ p, p ∈ _ → p ∈ _ => hk9)
    k_dflt (refine alone_get (by k_asm) (hk9 _ (by k_mem)) (by k_asm) (by k_asm) ?_)
    intro t7
    (try (have hal := alone_bnd h0 h1)))
  k_with "mine src" => (
    rename Fr _ _ _ _ => hF9
    rename News _ _ _ _ => hN9
    refine' LCg.CompSrc.ledger rfl hF9 hN9 hm7 (by have q1 := hi7.length; have q2 := wideL_len c; rw [List.size_toArray, sizeLine_eq]; omega) (fun g => comp_chr hi7 (fun i ys I oI C oC D m₂ h tk E' k t hk hJ hC hx F N off ne => ?_) (fun ys hS => ?_))
    all_goals clear hF9 hN9
    (try (have hkb := wideL_ok c k (List.mem_of_getElem? hk))))
  k_with "mine compend" => (
    refine' LCg.CompEnd.intro (by assumption) (by assumption) _ (fun p hp => hp) (by assumption) (Or.inr ⟨_, hm7, rfl, _, rfl⟩) ⟨rfl, strs_next' hk hJ rfl⟩)
  k_with "mine join" => (
    rename News _ _ _ _ => hN9
    refine' join_listW (News.isList hN9 (List.Mem.head _)) hS (by decide) (weight3' chrS_len (by have q2 := wideL_len c; omega)) (fun t' k => ?_))
  refine wpAny_call ?_
  k_dflt cell_enter
  k_steps
  all_goals first
    | ((refine hret _ _ _ _ (ret_pair ?_) (by assumption) (news_head (by assumption) (by intro p hp; first | ((repeat (first | exact hp | refine List.mem_cons_of_mem _ ?_)); done) | ((rename ∀ p, p ∈ _ → p ∈ _ => hk9); (first | refine List.mem_append_left _ (hk9 _ ?_) | refine hk9 _ ?_); repeat (first | exact hp | refine List.mem_cons_of_mem _ ?_))))); first
        | (rename c = 304 => e9; rw [e9]; exact pair_304)
        | exact pairOf_wide (by assumption) (by assumption)
        | (refine pairOf_row (by assumption) (by assumption) (find_here hrow hJ ?_); simp only [rowPair, List.getD_cons_zero, List.getD_cons_succ]; first | exact if_pos ⟨by assumption, by assumption, by assumption⟩ | exact (if_neg (by rintro ⟨x1, x2, x3⟩; first | contradiction | omega)).trans (if_pos ⟨by assumption, by assumption, by assumption⟩))
        | exact pairOf_none (by assumption) (by assumption) hJ)
    | (refine REnd.intro (by assumption) (by assumption) (by first | exact fun p hp => hp | (intro p hp; simpa using hp)) (by repeat' first | exact same_base | refine same_step (by decide) ?_ | exact same_refl) ?_; first
        | (refine find_on hrow hJ ?_; simp only [rowPair, List.getD_cons_zero, List.getD_cons_succ]; rw [if_neg (by rintro ⟨x1, x2, x3⟩; first | contradiction | omega), if_neg (by rintro ⟨x1, x2, x3⟩; first | contradiction | omega)]))

end Mine
-- part C16
namespace Mine
theorem useDraw0 {w : World} {loose : List Str} {mean : ExcName → Option Value} {mg mb : Str → Option Value} {dp un : Nat} {gd : Option (List Code)} {cn : Str} {cs : Scope} {a : Addr} {ccd : Value} {cl : List (Str × Addr)} {outer : List Env} {A₀ : Around} {base h₀ : Heap} {L : Addr} {m : Str → Option Value} {s : Shared} {Q E : Value → Shared → Prop} {b l : Addr} {us : List Value} {ns : List Int} {nl : Nat} {rest : List (Addr × Obj)} {i r many : Int} {t1 t3 tm : Tok} {n : Nat}
    (B : Below A₀ base outer h₀) (F : Fr h₀ L s.heap m) (X : (Mine.hk.heap_1 w.params).In h₀) (N : News h₀ L s.heap ((b, boxO i l r t1 t3 n) :: rest)) (T : Top Mine.vq loose mean mg mb h₀) (hk : cs.kind = .function)
    (hd : dp + 2 < recursionLimit) (hu : un + 8 * 2 + 8 < cLine) (hl : (l, W.listOf us.toArray nl) ∈ rest) (hi : IntsAre us ns) (hlen : ns.length ≤ 1000) (hne : ∀ p ∈ rest, p.1 ≠ b) (hi0 : -1 ≤ i) (hi1 : i < 100000) (hr0 : 0 ≤ r) (hr1 : r < 2147483648) (hm0 : 0 < many) (hm1 : many < 100000)
    (ret : ∀ (x r' : Int) (t t1' t3' : Tok) (n' : Nat) (h' : Heap) (tk' : Nat), 0 ≤ x → x < many → 0 ≤ r' → r' < 2147483648 → Fr h₀ L h' m → News h₀ L h' ((b, boxO (i + 1) l r' t1' t3' n') :: rest) → Q (.int x t) { s with heap := h', toks := tk' }) :
    wpAny (model PySem.Challenge.rw_nt0347_01.row.prog w) (ktrTop dp un gd cn cs L a ccd cl outer) (call (.ref 209) [.ref b, .int many tm]) Q E s := by
  refine law_draw_spec w _ b l us ns nl rest i r many t1 t3 tm n rfl hl hi hlen hne hi0 hi1 hr0 hr1 hm0 hm1 loose mean mg mb dp un gd cn cs a ccd cl outer A₀ base h₀ L m s Q E B F X N T hk hd hu ?_
  rintro v nw h' tk' ⟨x, t, t1', t3', r', n', rfl, h1, h2, h3, h4, rfl⟩ F' N'
  exact ret x r' t t1' t3' n' h' tk' h1 h2 h3 h4 F' N'
theorem news_swap {h₀ h : Heap} {L : Addr} {x y : Addr × Obj} {rest : List (Addr × Obj)} (N : News h₀ L h (x :: y :: rest)) : News h₀ L h (y :: x :: rest) :=
  news_drop N fun p hp => by
    rcases List.mem_cons.mp hp with e | hp
    · exact e ▸ List.mem_cons_of_mem _ List.mem_cons_self
    rcases List.mem_cons.mp hp with e | hp
    · exact e ▸ List.mem_cons_self
    · exact List.mem_cons_of_mem _ (List.mem_cons_of_mem _ hp)
theorem ne_more {b : Addr} {x : Addr × Obj} {rest : List (Addr × Obj)} (hx : x.1 ≠ b) (h : ∀ p ∈ rest, p.1 ≠ b) : ∀ p ∈ x :: rest, p.1 ≠ b := fun p hp => (List.mem_cons.mp hp).elim (fun e => e ▸ hx) (h p)
theorem box_ne {h₀ h : Heap} {L : Addr} {news : List (Addr × Obj)} {p q : Addr × Obj} (N : News h₀ L h news) (hp : p ∈ news) (hq : q ∈ news) (ho : p.2 ≠ q.2) : p.1 ≠ q.1 := fun e => ho (Option.some.inj ((N p hp).1.symm.trans (e ▸ (N q hq).1)))
theorem RowsIn.keep {b : Addr} {news : List (Addr × Obj)} {vs : List Value} {rows : List (List Int)} (x : RowsIn news vs rows) (hb : ∀ o : Obj, (b, o) ∈ news → o.cls ≠ .type "tuple") : RowsIn (news.filter fun p => p.1 != b) vs rows := by
  induction x with
  | nil => exact .nil
  | @cons r o items n row vs rows hm hc hd hi _ ih =>
    refine .cons (List.mem_filter.mpr ⟨hm, ?_⟩) hc hd hi ih
    have : r ≠ b := fun e => hb o (e ▸ hm) hc
    simpa using this
theorem useRowsBox {w : World} {loose : List Str} {mean : ExcName → Option Value} {mg mb : Str → Option Value} {dp un : Nat} {gd : Option (List Code)} {cn : Str} {cs : Scope} {a : Addr} {ccd : Value} {cl : List (Str × Addr)} {outer : List Env} {A₀ : Around} {base h₀ : Heap} {L : Addr} {m : Str → Option Value} {s : Shared} {Q E : Value → Shared → Prop} {b l : Addr} {rest : List (Addr × Obj)} {i r : Int} {t1 t3 : Tok} {n : Nat}
    (B : Below A₀ base outer h₀) (F : Fr h₀ L s.heap m) (X : (Mine.hk.heap_1 w.params).In h₀) (N : News h₀ L s.heap ((b, boxO i l r t1 t3 n) :: rest)) (T : Top Mine.vq loose mean mg mb h₀) (hk : cs.kind = .function)
    (hd : dp + 2 < recursionLimit) (hu : un + 8 * 2 + 8 < cLine) (hne : ∀ p ∈ rest, p.1 ≠ b)
    (ret : ∀ (c : Addr) (vs : List Value) (k : Nat) (rest' : List (Addr × Obj)) (h' : Heap) (tk' : Nat), (c, W.listOf vs.toArray k) ∈ rest' → RowsIn rest' vs rowsL → (∀ p ∈ rest, p ∈ rest') → (∀ p ∈ rest', p.1 ≠ b) → Fr h₀ L h' m → News h₀ L h' ((b, boxO i l r t1 t3 n) :: rest') → Q (.ref c) { s with heap := h', toks := tk' }) :
    wpAny (model PySem.Challenge.rw_nt0347_01.row.prog w) (ktrTop dp un gd cn cs L a ccd cl outer) (call (.ref 190) []) Q E s := by
  refine Spec.useRows (law_rows_spec w _) B F X N T hk hd hu ?_
  intro c vs k nw h' tk' hm hr _ hk9 F' N'
  have hb : (b, boxO i l r t1 t3 n) ∈ nw := hk9 _ List.mem_cons_self
  have hb1 : ∀ o : Obj, (b, o) ∈ nw → o = boxO i l r t1 t3 n := fun o ho => Option.some.inj ((N' _ ho).1.symm.trans (N' _ hb).1)
  have hcb : c ≠ b := by
    intro e
    have q := hb1 _ (e ▸ hm)
    have q1 : vs.toArray = #[.int i t1, .ref l, .int r t3] := (Data.seq.inj (congrArg Obj.data q)).1
    have q2 : vs = [.int i t1, .ref l, .int r t3] := by simpa using q1
    rw [q2] at hr
    unfold rowsL at hr
    cases hr
  refine ret c vs k (nw.filter fun p => p.1 != b) h' tk' (List.mem_filter.mpr ⟨hm, by simpa using hcb⟩) (hr.keep ?_) (fun p hp => List.mem_filter.mpr ⟨hk9 _ (List.mem_cons_of_mem _ hp), by simpa using hne p hp⟩) (fun p hp => by simpa using (List.mem_filter.mp hp).2) F' (news_drop N' fun p hp => ?_)
  · intro o ho e
    rw [hb1 o ho] at e
    exact absurd (show Value.type "list" = Value.type "tuple" from e) (by decide)
  · rcases List.mem_cons.mp hp with e | hp
    · exact e ▸ hb
    · exact (List.mem_filter.mp hp).1
theorem rows_item {prog : Program} {w : World} {A : Around} {E : Value → Shared → Prop} {s : Shared} {h₀ : Heap} {L l : Addr} {news : List (Addr × Obj)} {vs : List Value} {n : Nat} {k : Int} {u : Tok} {value slice : PySem.Expr} {Q : Value → Shared → Prop} (N : News h₀ L s.heap news) (hm : (l, W.listOf vs.toArray n) ∈ news) (hr : RowsIn news vs rowsL) (h0 : 0 ≤ k) (h1 : k < 24)
    (hs : subscripted slice false (.ref l) (.int k u) = operate [.ref l, .int k u] (getItem (.ref l) (.int k u)))
    (h : ∀ r a b c d t1 t2 t3 t4, [a, b, c, d] ∈ rowsL → IsTup s.heap r #[.int a t1, .int b t2, .int c t3, .int d t4] → Q (.ref r) s) : wpAny (model prog w) A (subscriptTail value slice (.ref l) (.int k u)) Q E s := by
  have hA := RowsIn.at hm hr N
  have hl : rowsL.length = 24 := by decide
  have hk : k.toNat < rowsL.length := by omega
  obtain ⟨r, items, hv, ht, hi⟩ := hA.2.2 k.toNat rowsL[k.toNat] (List.getElem?_eq_getElem hk)
  have hmem : rowsL[k.toNat] ∈ rowsL := List.getElem_mem hk
  have h4 : ∀ row ∈ rowsL, row.length = 4 := by decide
  generalize rowsL[k.toNat] = row at hi hmem
  obtain ⟨a, b, c, d, rfl⟩ := len4 (h4 row hmem)
  obtain ⟨t1, t2, t3, t4, rfl⟩ := ints4 hi
  exact item_listR hA.1 h0 (by omega) (by simpa using hv) (h r a b c d t1 t2 t3 t4 hmem ht) hs
theorem rows_ok4 : ∀ row ∈ rowsL, 65 ≤ row.getD 0 0 ∧ row.getD 0 0 ≤ 8000 ∧ 65 ≤ row.getD 1 0 ∧ row.getD 1 0 ≤ 8000 ∧ 0 < row.getD 2 0 ∧ row.getD 2 0 ≤ 100 ∧ 0 < row.getD 3 0 ∧ row.getD 3 0 ≤ 2 := by decide
abbrev PCode (b l : Addr) (rest : List (Addr × Obj)) (i : Int) : Value → List (Addr × Obj) → Prop := fun v nw =>
  ∃ (c : Int) (t t1 t3 : Tok) (i' r' : Int) (n' : Nat), v = .int c t ∧ 0 ≤ c ∧ c < 65536 ∧ i ≤ i' ∧ i' ≤ i + 5 ∧ 0 ≤ r' ∧ r' < 2147483648 ∧ nw = (b, boxO i' l r' t1 t3 n') :: rest
theorem blanks_bnd : ∀ y ∈ lawBlanks, 9 ≤ y ∧ y ≤ 65279 := by decide
theorem getD_bnd {l : List Int} {lo hi x : Int} (h : ∀ y ∈ l, lo ≤ y ∧ y ≤ hi) (h0 : 0 ≤ x) (h1 : x < l.length) : lo ≤ l.getD x.toNat 0 ∧ l.getD x.toNat 0 ≤ hi := by
  apply h
  rw [List.getD_eq_getElem?_getD, List.getElem?_eq_getElem (by omega)]; exact List.getElem_mem ..
theorem two_bnd {a b x : Int} (ha : 65 ≤ a ∧ a ≤ 8000) (hb : 65 ≤ b ∧ b ≤ 8000) (h0 : 0 ≤ x) (h1 : x < 2) : 65 ≤ [a, b].getD x.toNat 0 ∧ [a, b].getD x.toNat 0 ≤ 8000 :=
  getD_bnd (by intro y hy; simp only [List.mem_cons, List.not_mem_nil, or_false] at hy; rcases hy with rfl | rfl <;> assumption) h0 h1
theorem mul_bnd {a b : Int} (ha : 0 ≤ a) (ha' : a ≤ 100) (hb : 0 < b) (hb' : b ≤ 2) : 0 ≤ a * b ∧ a * b ≤ 200 ∧ 0 ≤ b * a ∧ b * a ≤ 200 := by
  rcases (show b = 1 ∨ b = 2 by omega) with rfl | rfl <;> omega
theorem five_bnd {p x : Int} (hp : 0 ≤ p ∧ p ≤ 200) (h0 : 0 ≤ x) (h1 : x < 5) : -1 ≤ [0 - 1, 0, p - 1, p, 1].getD x.toNat 0 ∧ [0 - 1, 0, p - 1, p, 1].getD x.toNat 0 ≤ 200 :=
  getD_bnd (by intro y hy; simp only [List.mem_cons, List.not_mem_nil, or_false] at hy; rcases hy with rfl | rfl | rfl | rfl | rfl <;> omega) h0 h1
theorem add_lo {u v : Int} (hu : 65 ≤ u ∧ u ≤ 8000) (hv : -1 ≤ v ∧ v ≤ 200) : 0 ≤ u + v := by omega
theorem add_hi {u v : Int} (hu : 65 ≤ u ∧ u ≤ 8000) (hv : -1 ≤ v ∧ v ≤ 200) : u + v < 65536 := by omega
theorem mul_bnd' {a b : Int} (ha : 0 ≤ a) (ha' : a ≤ 100) (hb : 0 < b) (hb' : b ≤ 2) : -1 ≤ b * a ∧ b * a ≤ 200 := ⟨by have := (mul_bnd ha ha' hb hb').2.2.1; omega, (mul_bnd ha ha' hb hb').2.2.2⟩
theorem four_bnd {x : Int} (h0 : 0 ≤ x) (h1 : x < 4) : -1 ≤ ([0, 1, 0, 0 - 1] : List Int).getD x.toNat 0 ∧ ([0, 1, 0, 0 - 1] : List Int).getD x.toNat 0 ≤ 1 := getD_bnd (by decide) h0 h1
theorem last_bnd {x : Int} (h0 : 0 ≤ x) (h1 : x < 13) : 0 ≤ ([181, 304, 305, 329, 383, 962, 223, 912, 944, 1415, 215, 247, 0] : List Int).getD x.toNat 0 ∧ ([181, 304, 305, 329, 383, 962, 223, 912, 944, 1415, 215, 247, 0] : List Int).getD x.toNat 0 ≤ 1415 := getD_bnd (by decide) h0 h1
local macro_rules | `(tactic| walk_at $s:str) => `(tactic| k_extra $s)
theorem law_code_spec (w : World) (news : List (Addr × Obj)) (b l : Addr) (us : List Value) (ns : List Int) (nl : Nat) (rest : List (Addr × Obj)) (i r : Int) (t1 t3 : Tok) (n : Nat) (hb : news = (b, boxO i l r t1 t3 n) :: rest) (hl : (l, W.listOf us.toArray nl) ∈ rest) (hi : IntsAre us ns) (hlen : ns.length ≤ 1000) (hne : ∀ p ∈ rest, p.1 ≠ b) (hi0 : -1 ≤ i) (hi1 : i < 90000) (hr0 : 0 ≤ r) (hr1 : r < 2147483648) : Spec w 4 216 [.ref b] news (PCode b l rest i) := by
  subst hb
  dsimp only [Spec]
  k_fill
  intros
  rename_i hret
  w_top off
  k_with_none
  k_with "call ref" => (k_extra "mine draw")
  k_with "call ref" => (k_extra "mine rows")
  k_with "call ref" => (k_extra "mine blanks")
  k_with "subscriptTail" => (k_extra "mine item")
  k_with "subscriptTail" => (k_extra "mine blank item")
  k_with "mine draw" => (
    k_here
    (with_reducible show wpAny _ _ (call (Value.ref 209) _) _ _ _)
    k_dflt (first
      | (refine' useDraw0 ?k1 ?k2 ?k3 ?k4 ?k5 ?kK ?kd ?ku ?hl hi hlen ?hne ?i0 ?i1 ?r0 ?r1 ?m0 ?m1 ?_; (case k4 => assumption))
      | (refine' useDraw0 ?k1 ?k2 ?k3 (news_swap ?k4) ?k5 ?kK ?kd ?ku ?hl hi hlen ?hne ?i0 ?i1 ?r0 ?r1 ?m0 ?m1 ?_; (case k4 => assumption)))
    (case k1 => k_asm)
    (case k2 => k_asm)
    (case k3 => k_asm)
    (case k5 => k_asm)
    (case kK => first | exact rfl | assumption)
    (case kd => ktr_room)
    (case ku => ktr_units)
    (case hl => first | assumption | exact List.mem_cons_of_mem _ (by assumption) | exact List.mem_cons_of_mem _ (List.mem_cons_of_mem _ (by assumption)))
    (case hne => (first | assumption | (refine ne_more ?_ (by assumption)) | (refine ne_more ?_ (ne_more ?_ (by assumption)))); all_goals (dsimp only; first | exact Nat.ne_of_gt (And.left (b := AllLt _ _) (by assumption)) | exact Nat.ne_of_gt (And.left (b := _ ∧ AllLt _ _) (by assumption)) | exact Nat.ne_of_gt (hlt9 _ List.mem_cons_self) ))
    (case i0 => omega)
    (case i1 => omega)
    (case r0 => assumption)
    (case r1 => assumption)
    (case m0 => omega)
    (case m1 => omega)
    intro x7 r7 t7 t7' t7'' n7 h7 tk7 hx7 hx7' hr7 hr7' F7 N7
    (try dsimp only)
    (try k_fold))
  k_with "mine rows" => (
    k_here
    (with_reducible show wpAny _ _ (call (Value.ref 190) _) _ _ _)
    k_dflt (refine' useRowsBox ?k1 ?k2 ?k3 ?k4 ?k5 ?kK ?kd ?ku hne ?_; (case k1 => k_asm); (case k2 => k_asm); (case k3 => k_asm); (case k4 => k_asm); (case k5 => k_asm); (case kK => first | exact rfl | assumption); (case kd => ktr_room); (case ku => ktr_units))
    intro c9 vs9 k9 rest9 h9 tk9 hm9 hr9 hk9 hne9 F9 N9
    (have hl9 := hk9 _ hl)
    (try dsimp only)
    (try k_fold))
  k_with "mine blanks" => (
    k_here
    (with_reducible show wpAny _ _ (call (Value.ref 202) _) _ _ _)
    k_dflt (refine' Spec.use (law_blanks_spec _ _) ?k1 ?k2 ?k3 ?k4 ?k5 ?kK ?kd ?ku ?_; (case k1 => k_asm); (case k2 => k_asm); (case k3 => k_asm); (case k4 => k_asm); (case k5 => k_asm); (case kK => first | exact rfl | assumption); (case kd => ktr_room); (case ku => ktr_units))
    rintro v9 nw9 h9 tk9 ⟨a9, us9, n9, rfl, rfl, hI9, hlt9⟩ F9 N9
    (try dsimp only)
    (try k_fold))
  k_with "mine blank item" => (
    k_here
    (with_reducible show wpAny _ _ (subscriptTail _ _ (Value.ref a9) (Value.int x7 _)) _ _ _)
    k_dflt (refine item_led (by assumption) (List.mem_cons_of_mem _ List.mem_cons_self) hI9 (by decide) (by assumption) (by assumption) (by with_unfolding_all rfl) ?_)
    intro y9 t9 hy9
    (have hyb := blanks_bnd _ hy9))
  k_with "mine item" => (
    k_here
    (with_reducible show wpAny _ _ (subscriptTail _ _ (Value.ref c9) (Value.int x7 _)) _ _ _)
    k_dflt (refine rows_item (by assumption) (List.mem_cons_of_mem _ hm9) (hr9.more fun p hp => List.mem_cons_of_mem _ hp) (by assumption) (by assumption) (by with_unfolding_all rfl) ?_)
    intro r8 ra rb rd re t1 t2 t3 t4 hrow hT
    (have hok := rows_ok4 _ hrow; simp only [List.getD_cons_zero, List.getD_cons_succ] at hok; obtain ⟨ho1, ho2, ho3, ho4, ho5, ho6, ho7, ho8⟩ := hok))
  refine wpAny_call ?_
  k_dflt cell_enter
  k_steps
  all_goals first
    | ((refine hret _ _ _ _ ⟨_, _, _, _, _, _, _, rfl, ?_, ?_, ?_, ?_, ?_, ?_, rfl⟩ (by assumption) (news_head (by assumption) (by intro p hp; (try (replace hp := hk9 _ hp)); repeat (first | exact hp | refine List.mem_cons_of_mem _ ?_)))); all_goals first
        | omega
        | assumption
        | (have q2 := four_bnd hx7 hx7'; omega)
        | (have q2 := last_bnd hx7 hx7'; omega)
        | ((first | refine add_lo (two_bnd ⟨ho1, ho2⟩ ⟨ho3, ho4⟩ ?_ ?_) ?_ | refine add_hi (two_bnd ⟨ho1, ho2⟩ ⟨ho3, ho4⟩ ?_ ?_) ?_) <;> first
          | assumption
          | exact five_bnd ⟨(mul_bnd (Int.le_of_lt ho5) ho6 ho7 ho8).1, (mul_bnd (Int.le_of_lt ho5) ho6 ho7 ho8).2.1⟩ hx7 hx7'
          | exact mul_bnd' hx7 (by omega) ho7 ho8)
        )

end Mine
-- part B13
namespace Mine
section
variable {prog : Program} {w : World} {A : Around} {E : Value → Shared → Prop} {s : Shared} {h₀ : Heap} {L : Addr} {m : Str → Option Value} {env : Env}
/-- a comprehension with a test, the ledger as it was -/
theorem comp_sameT {ct elt : Expr} {x : Str} {scope : Scope} {cl : List (Str × Addr)} {S : List (Addr × Obj) → Prop} {P : Nat → Value → Prop} {Fin : List Value → List (Addr × Obj) → Prop} {n : Nat} {news : List (Addr × Obj)}
    (J : Nat → List Value → Prop) (h0 : J 0 [])
    (turn : ∀ i v ys I oI C oC D m₂ h tk (E' : Value → Shared → Prop), i < n → P i v → J i ys → LCg.NsObj oC m₂ → m₂ x = some v → Fr h₀ L h m → News h₀ L h ((I, oI) :: (C, oC) :: (D, LCg.lst ys) :: news) → LCg.Off3 I C D news → ((@Ne Nat I C) ∧ (@Ne Nat I D) ∧ (@Ne Nat C D)) →
      wpAny (model prog w) A (isTrue ct (compEnvC scope cl C env) (eval ct (compEnvC scope cl C env))) (fun ok s' => if ok = true then
        wpAny (model prog w) A (eval elt (compEnvC scope cl C env)) (LCg.CompEnd h₀ L m { s with heap := h, toks := tk } I oI C oC D (LCg.lst ys) S (fun y nw' => nw' = news ∧ J (i + 1) (ys ++ [y]))) E' s'
        else LCg.CompEnd h₀ L m { s with heap := h, toks := tk } I oI C oC D (LCg.lst ys) S (fun _ nw' => nw' = news ∧ J (i + 1) ys) Value.none s') E' { s with heap := h, toks := tk })
    (fin : ∀ ys, J n ys → Fin ys news) : LCt.CompRestT prog w A h₀ L m env ct elt x scope cl s S P Fin n 0 [] news := by
  have key : ∀ (k i : Nat) (ys : List Value), i + k = n → J i ys → LCt.CompRestT prog w A h₀ L m env ct elt x scope cl s S P Fin k i ys news := by
    intro k
    induction k with
    | zero =>
      intro i ys hk hj
      exact LCt.CompRestT.zero (fin ys (by rw [show n = i by omega]; exact hj))
    | succ k ih =>
      intro i ys hk hj
      refine LCt.CompRestT.succ fun v I oI C oC D m₂ h tk E' hP hC hx F N off ne => ?_
      refine wpAny_mono (turn i v ys I oI C oC D m₂ h tk E' (by omega) hP hj hC hx F N off ne) (fun ok s₂ hq => ?_) fun _ _ e => e
      cases ok with
      | true =>
        simp only [if_true] at hq ⊢
        refine wpAny_mono hq (fun y s₃ hr => ?_) fun _ _ e => e
        obtain ⟨h', tk', nw', e, F', N', off', hS, rfl, hj'⟩ := hr
        exact ⟨h', tk', nw', e, F', N', off', hS, ih (i + 1) _ (by omega) hj'⟩
      | false =>
        simp only [Bool.false_eq_true, if_false] at hq ⊢
        obtain ⟨h', tk', nw', e, F', N', off', hS, rfl, hj'⟩ := hq
        exact ⟨h', tk', nw', e, F', N', off', hS, ih (i + 1) _ (by omega) hj'⟩
  exact key n 0 [] (by omega) h0
/-- the comprehension over a range whose turns change the box -/
theorem comp_box {elt : Expr} {x : Str} {scope : Scope} {cl : List (Str × Addr)} {Fin : List Value → List (Addr × Obj) → Prop} {n : Nat} {b l : Addr} {rest : List (Addr × Obj)} {i₀ r₀ : Int} {t1₀ t3₀ : Tok} {n₀ : Nat} {P : Nat → Value → Prop}
    (h0 : -1 ≤ i₀) (h1 : i₀ ≤ 5) (hr0 : 0 ≤ r₀) (hr1 : r₀ < 2147483648)
    (turn : ∀ (i : Nat) v ys I oI C oC D m₂ h tk (E' : Value → Shared → Prop) (k r : Int) (t1 t3 : Tok) (nb : Nat) (cs : List Int), i < n → P i v → IntsAre ys cs → (∀ c ∈ cs, 0 ≤ c ∧ c < 65536) → cs.length = i → -1 ≤ k → k ≤ 5 * (i : Int) + 5 → 0 ≤ r → r < 2147483648 → LCg.NsObj oC m₂ → m₂ x = some v → Fr h₀ L h m → News h₀ L h ((I, oI) :: (C, oC) :: (D, LCg.lst ys) :: (b, boxO k l r t1 t3 nb) :: rest) → LCg.Off3 I C D ((b, boxO k l r t1 t3 nb) :: rest) → ((@Ne Nat I C) ∧ (@Ne Nat I D) ∧ (@Ne Nat C D)) →
      wpAny (model prog w) A (eval elt (compEnvC scope cl C env)) (LCg.CompEnd h₀ L m { s with heap := h, toks := tk } I oI C oC D (LCg.lst ys) (fun _ => True) (fun y nw' => ∃ (c : Int) (t u1 u3 : Tok) (k' r' : Int) (n' : Nat), y = .int c t ∧ 0 ≤ c ∧ c < 65536 ∧ k ≤ k' ∧ k' ≤ k + 5 ∧ 0 ≤ r' ∧ r' < 2147483648 ∧ nw' = (b, boxO k' l r' u1 u3 n') :: rest)) E' { s with heap := h, toks := tk })
    (fin : ∀ ys cs (k r : Int) (t1 t3 : Tok) (nb : Nat), IntsAre ys cs → (∀ c ∈ cs, 0 ≤ c ∧ c < 65536) → cs.length = n → Fin ys ((b, boxO k l r t1 t3 nb) :: rest)) : LCg.CompRest prog w A h₀ L m env elt x scope cl s (fun _ => True) P Fin n 0 [] ((b, boxO i₀ l r₀ t1₀ t3₀ n₀) :: rest) := by
  refine comp_rest (n := n) (fun i ys nw => ∃ (cs : List Int) (k r : Int) (t1 t3 : Tok) (nb : Nat), nw = (b, boxO k l r t1 t3 nb) :: rest ∧ IntsAre ys cs ∧ (∀ c ∈ cs, 0 ≤ c ∧ c < 65536) ∧ cs.length = i ∧ -1 ≤ k ∧ k ≤ 5 * (i : Int) + 5 ∧ 0 ≤ r ∧ r < 2147483648) ?_ ?_ n 0 [] _ (by omega) ⟨[], i₀, r₀, t1₀, t3₀, n₀, rfl, .nil, by simp, rfl, h0, by omega, hr0, hr1⟩
  · rintro i v ys nw I oI C oC D m₂ h tk E' hi hP ⟨cs, k, r, t1, t3, nb, rfl, hI, hc, hl, hk0, hk1, hr0, hr1⟩ hC hx F N off ne
    refine wpAny_mono (turn i v ys I oI C oC D m₂ h tk E' k r t1 t3 nb cs hi hP hI hc hl hk0 hk1 hr0 hr1 hC hx F N off ne) (fun y s₂ hq => ?_) fun _ _ e => e
    obtain ⟨h', tk', nw', e, F', N', off', hS, c, t, u1, u3, k', r', n', rfl, hc0, hc1, hkk, hkk', hr0', hr1', rfl⟩ := hq
    refine ⟨h', tk', _, e, F', N', off', hS, cs ++ [c], k', r', u1, u3, n', rfl, IntsAre.append hI (.cons c t .nil), ?_, by simp [hl], by omega, by omega, hr0', hr1'⟩
    intro y hy
    rcases List.mem_append.mp hy with hy | hy
    · exact hc y hy
    · rw [List.mem_singleton.mp hy]; exact ⟨hc0, hc1⟩
  · rintro ys nw ⟨cs, k, r, t1, t3, nb, rfl, hI, hc, hl, _⟩
    exact fin ys cs k r t1 t3 nb hI hc hl
end
/-- a call of law_code in the comprehension's turn, up to its end -/
theorem useCode {w : World} {loose : List Str} {mean : ExcName → Option Value} {mg mb : Str → Option Value} {dp un : Nat} {gd : Option (List Code)} {cn : Str} {cs : Scope} {a : Addr} {ccd : Value} {cl : List (Str × Addr)} {outer : List Env} {A₀ : Around} {base h₀ h : Heap} {L : Addr} {m : Str → Option Value} {s : Shared} {E : Value → Shared → Prop} {b l : Addr} {us : List Value} {ns : List Int} {nl tk tk₁ : Nat} {rest : List (Addr × Obj)} {k r : Int} {t1 t3 : Tok} {n : Nat} {I C D : Addr} {oI oC oD : Obj}
    (B : Below A₀ base outer h₀) (F : Fr h₀ L h m) (X : (Mine.hk.heap_1 w.params).In h₀) (N : News h₀ L h ((I, oI) :: (C, oC) :: (D, oD) :: (b, boxO k l r t1 t3 n) :: rest)) (T : Top Mine.vq loose mean mg mb h₀) (hk : cs.kind = .function)
    (hd : dp + 4 < recursionLimit) (hu : un + 8 * 4 + 8 < cLine) (hl : (l, W.listOf us.toArray nl) ∈ rest) (hi : IntsAre us ns) (hlen : ns.length ≤ 1000) (hne : ∀ p ∈ rest, p.1 ≠ b) (off : LCg.Off3 I C D ((b, boxO k l r t1 t3 n) :: rest)) (hk0 : -1 ≤ k) (hk1 : k < 90000) (hr0 : 0 ≤ r) (hr1 : r < 2147483648) :
    wpAny (model PySem.Challenge.rw_nt0347_01.row.prog w) (ktrTop dp un gd cn cs L a ccd cl outer) (call (.ref 216) [.ref b]) (LCg.CompEnd h₀ L m { s with heap := h, toks := tk₁ } I oI C oC D oD (fun _ => True) (fun y nw' => ∃ (c : Int) (t u1 u3 : Tok) (k' r' : Int) (n' : Nat), y = .int c t ∧ 0 ≤ c ∧ c < 65536 ∧ k ≤ k' ∧ k' ≤ k + 5 ∧ 0 ≤ r' ∧ r' < 2147483648 ∧ nw' = (b, boxO k' l r' u1 u3 n') :: rest)) E { s with heap := h, toks := tk } := by
  have hp : ∀ p ∈ (b, boxO k l r t1 t3 n) :: (I, oI) :: (C, oC) :: (D, oD) :: rest, p ∈ (I, oI) :: (C, oC) :: (D, oD) :: (b, boxO k l r t1 t3 n) :: rest := by
    intro p hp
    simp only [List.mem_cons] at hp ⊢
    rcases hp with h | h | h | h | h <;> simp [h]
  have h3 := off.1
  refine law_code_spec w _ b l us ns nl _ k r t1 t3 n rfl (List.mem_cons_of_mem _ (List.mem_cons_of_mem _ (List.mem_cons_of_mem _ hl))) hi hlen ?_ hk0 hk1 hr0 hr1 loose mean mg mb dp un gd cn cs a ccd cl outer A₀ base h₀ L m { s with heap := h, toks := tk } _ E B F X (news_drop N hp) T hk hd hu ?_
  · intro p hp
    rcases List.mem_cons.mp hp with rfl | hp
    · exact Ne.symm h3.1
    rcases List.mem_cons.mp hp with rfl | hp
    · exact Ne.symm h3.2.1
    rcases List.mem_cons.mp hp with rfl | hp
    · exact Ne.symm h3.2.2
    exact hne p hp
  · rintro v nw h' tk' ⟨c, t, u1, u3, k', r', n', rfl, h1, h2, h3', h4, h5, h6, rfl⟩ F' N'
    refine ⟨h', tk', (b, boxO k' l r' u1 u3 n') :: rest, rfl, F', news_drop N' ?_, ⟨h3, off.2⟩, trivial, c, t, u1, u3, k', r', n', rfl, h1, h2, h3', h4, h5, h6, rfl⟩
    intro p hp
    simp only [List.mem_cons] at hp ⊢
    rcases hp with h | h | h | h | h <;> simp [h]
end Mine
-- part C1
namespace Mine
local macro_rules | `(tactic| walk_at "RPost") => `(tactic| dsimp only [RPost])
local macro_rules | `(tactic| walk_at $s:str) => `(tactic| k_extra $s)
theorem small_code_spec (w : World) (news : List (Addr × Obj)) (c : Int) (tc : Tok) : Spec w 2 50 [.int c tc] news (PInt news (fun x => x = smallCode c)) := by
  dsimp only [Spec]
  k_fill
  intros
  rename_i hret
  w_top off
  k_with_none
  k_with "exec For Tuple Name cons nil" => (k_here; (rename Fr _ _ _ _ => lF'); (with_reducible apply For_unrF); (case _F => with_unfolding_all exact lF'); (case hs => (intro _; with_unfolding_all rfl)))
  k_with "pyIter ref" => (k_extra "mine for")
  k_with "mine for" => (
    (with_reducible show wpAny _ _ (pyIter (Value.ref 27)) _ _ _)
    rename Frag.In _ _ => hX9
    rename Fr _ _ _ _ => hF9
    rename News _ _ _ _ => hN9
    obtain ⟨vs9, hr9⟩ := great_at _ _ hX9
    refine' rows_top3 (vs := vs9) (rows := great) [Str.ofString "first", Str.ofString "last", Str.ofString "way"] (fun i => (great.take i).findSome? (greatUp c) = none) rfl hr9 (by decide) hF9 hN9 rfl (fun i a b d t1 t2 t3 r u h tk own hrow hJ hT F N => ?_) (fun u h tk hJ F N => ?_)
    all_goals clear hF9 hN9 hr9)
  k_with "mine for" => (
    (with_reducible show wpAny _ _ (pyIter (Value.ref 39)) _ _ _)
    rename Frag.In _ _ => hX9
    rename Fr _ _ _ _ => hF9
    rename News _ _ _ _ => hN9
    obtain ⟨vs9, hr9⟩ := turns_at _ _ hX9
    refine' rows_top2 (vs := vs9) (rows := turns) [Str.ofString "first", Str.ofString "last"] (fun i => (turns.take i).findSome? (turnUp c) = none) rfl hr9 (by decide) hF9 hN9 rfl (fun i a b t1 t2 r u h tk own hrow hJ2 hT F N => ?_) (fun u h tk hJ2 F N => ?_)
    all_goals clear hF9 hN9 hr9)
  refine wpAny_call ?_
  k_dflt cell_enter
  k_steps
  all_goals first
    | ((with_reducible refine hret _ news _ _ (retI ?_) (by assumption) (by first | assumption | exact news_drop (by assumption) (by intro p hp; simp [hp]))); first
        | (subst_vars; rfl)
        | (refine smallCode_great (by assumption) (find_here hrow hJ ?_); simp only [greatUp, List.getD_cons_zero, List.getD_cons_succ]; exact if_pos ⟨by assumption, by assumption⟩)
        | (refine smallCode_turn (by assumption) hJ (find_here hrow hJ2 ?_); simp only [turnUp, List.getD_cons_zero, List.getD_cons_succ]; exact if_pos ⟨by assumption, by assumption, by assumption⟩)
        | exact smallCode_same (by assumption) hJ hJ2)
    | (refine REnd.intro (by assumption) (by assumption) (by first | exact fun p hp => hp | (intro p hp; simpa using hp)) (by repeat' first | exact same_base | refine same_step (by decide) ?_ | exact same_refl) ?_; first
        | (refine find_on hrow hJ ?_; simp only [greatUp, List.getD_cons_zero, List.getD_cons_succ]; split <;> first | rfl | omega)
        | (refine find_on hrow hJ2 ?_; simp only [turnUp, List.getD_cons_zero, List.getD_cons_succ]; split <;> first | rfl | omega))

theorem great_code_spec (w : World) (news : List (Addr × Obj)) (c : Int) (tc : Tok) : Spec w 2 57 [.int c tc] news (PInt news (fun x => x = greatCode c)) := by
  dsimp only [Spec]
  k_fill
  intros
  rename_i hret
  w_top off
  k_with_none
  k_with "exec For Tuple Name cons nil" => (k_here; (rename Fr _ _ _ _ => lF'); (with_reducible apply For_unrF); (case _F => with_unfolding_all exact lF'); (case hs => (intro _; with_unfolding_all rfl)))
  k_with "pyIter ref" => (k_extra "mine for")
  k_with "mine for" => (
    (with_reducible show wpAny _ _ (pyIter (Value.ref 27)) _ _ _)
    rename Frag.In _ _ => hX9
    rename Fr _ _ _ _ => hF9
    rename News _ _ _ _ => hN9
    obtain ⟨vs9, hr9⟩ := great_at _ _ hX9
    refine' rows_top3 (vs := vs9) (rows := great) [Str.ofString "first", Str.ofString "last", Str.ofString "way"] (fun i => (great.take i).findSome? (greatDown c) = none) rfl hr9 (by decide) hF9 hN9 rfl (fun i a b d t1 t2 t3 r u h tk own hrow hJ hT F N => ?_) (fun u h tk hJ F N => ?_)
    all_goals clear hF9 hN9 hr9)
  k_with "mine for" => (
    (with_reducible show wpAny _ _ (pyIter (Value.ref 39)) _ _ _)
    rename Frag.In _ _ => hX9
    rename Fr _ _ _ _ => hF9
    rename News _ _ _ _ => hN9
    obtain ⟨vs9, hr9⟩ := turns_at _ _ hX9
    refine' rows_top2 (vs := vs9) (rows := turns) [Str.ofString "first", Str.ofString "last"] (fun i => (turns.take i).findSome? (turnDown c) = none) rfl hr9 (by decide) hF9 hN9 rfl (fun i a b t1 t2 r u h tk own hrow hJ2 hT F N => ?_) (fun u h tk hJ2 F N => ?_)
    all_goals clear hF9 hN9 hr9)
  refine wpAny_call ?_
  k_dflt cell_enter
  k_steps
  all_goals first
    | ((with_reducible refine hret _ news _ _ (retI ?_) (by assumption) (by first | assumption | exact news_drop (by assumption) (by intro p hp; simp [hp]))); first
        | (subst_vars; rfl)
        | (refine greatCode_great (by assumption) (find_here hrow hJ ?_); simp only [greatDown, List.getD_cons_zero, List.getD_cons_succ]; exact if_pos ⟨by assumption, by assumption⟩)
        | (refine greatCode_turn (by assumption) hJ (find_here hrow hJ2 ?_); simp only [turnDown, List.getD_cons_zero, List.getD_cons_succ]; exact if_pos ⟨by assumption, by assumption, by assumption⟩)
        | exact greatCode_same (by assumption) hJ hJ2)
    | (refine REnd.intro (by assumption) (by assumption) (by first | exact fun p hp => hp | (intro p hp; simpa using hp)) (by repeat' first | exact same_base | refine same_step (by decide) ?_ | exact same_refl) ?_; first
        | (refine find_on hrow hJ ?_; simp only [greatDown, List.getD_cons_zero, List.getD_cons_succ]; split <;> first | rfl | omega)
        | (refine find_on hrow hJ2 ?_; simp only [turnDown, List.getD_cons_zero, List.getD_cons_succ]; split <;> first | rfl | omega))

end Mine
-- part C8
namespace Mine
local macro_rules | `(tactic| walk_at "GPost") => `(tactic| dsimp only [GPost])
local macro_rules | `(tactic| k_all) => `(tactic| assumption)
local macro_rules | `(tactic| walk_at $s:str) => `(tactic| k_extra $s)
theorem lowered_text_spec (w : World) (news : List (Addr × Obj)) (x : Str) (hx : x.length ≤ 1000) (hc : ∀ c ∈ x.cps.toList, c < 65536) (t1 : Tok) : Spec w 4 64 [.str x t1] news (PStr news (fun r => r = lowText x)) := by
  dsimp only [Spec]
  k_fill
  intros
  rename_i hret
  w_top off
  k_with_none
  k_with "exec For Name Name cons nil" => (k_here; (rename Fr _ _ _ _ => lF'); (with_reducible apply For_unrF); (case _F => with_unfolding_all exact lF'); (case hs => (intro _; with_unfolding_all rfl)))
  k_with "pyIter str" => (k_extra "mine for")
  k_with "call builtin:str.join" => (k_extra "mine join")
  k_with "call builtin:list.append" => (k_extra "mine append")
  k_with "call ref" => (k_here; (with_reducible show wpAny _ _ (call (Value.ref 50) _) _ _ _); k_dflt (refine' Spec.useI (small_code_spec _ _ _ _) ?k1 ?k2 ?k3 ?k4 ?k5 ?kK ?kd ?ku ?_); (case k1 => k_asm); (case k2 => k_asm); (case k3 => k_asm); (case k4 => k_asm); (case k5 => k_asm); (case kK => first | exact rfl | assumption); (case kd => ktr_room); (case ku => ktr_units); (intro t9 h9 tk9 F9 N9); (try dsimp only); (try k_fold))
  k_with "call ref" => (k_here; (with_reducible show wpAny _ _ (call (Value.ref 57) _) _ _ _); k_dflt (refine' Spec.useI (great_code_spec _ _ _ _) ?k1 ?k2 ?k3 ?k4 ?k5 ?kK ?kd ?ku ?_); (case k1 => k_asm); (case k2 => k_asm); (case k3 => k_asm); (case k4 => k_asm); (case k5 => k_asm); (case kK => first | exact rfl | assumption); (case kd => ktr_room); (case ku => ktr_units); (intro t9 h9 tk9 F9 N9); (try dsimp only); (try k_fold))
  k_with "mine for" => (
    rename Fr _ _ _ _ => hF9
    rename News _ _ _ _ => hN9
    rename ∀ (p : Addr × Obj), p ∈ _ → p.1 < _ => hl9
    refine' chars_grow [Str.ofString "sign", Str.ofString "code"] (fun i us => StrsAre us ((x.cps.toList.take i).map fun (c : Nat) => lowSign (c : Int))) rfl hF9 hN9 (fun p hp => Nat.ne_of_lt (hl9 p hp)) StrsAre.nil (fun i c t us ep u h tk own hci hJ hoff F N => ?_) (fun us ep u h tk hJ F N => ?_)
    all_goals clear hF9 hN9
    (try (have hcb := code_lt hc hci))
    (try (have hsb := small_bnd (c := (c : Int)) (by omega) hcb)))
  k_with "mine append" => (
    rename Fr _ _ _ _ => hF9
    rename News _ _ _ _ => hN9
    refine' append_K hF9 hN9 (Upd.head hoff) (fun h' F' N' => ?_) (strs_size hx hJ))
  k_with "mine join" => (
    rename News _ _ _ _ => hN9
    refine' join_listW (ys := x.cps.toList.map fun (c : Nat) => lowSign (c : Int)) (News.isList hN9 (List.Mem.head _)) (strs_all hJ) (by decide) (weight3 (f := fun (c : Nat) => lowSign (c : Int)) (fun c => lowSign_len _) hx) (fun t' k => ?_))
  refine wpAny_call ?_
  k_dflt cell_enter
  k_steps
  all_goals first
    | ((with_reducible refine hret _ news _ _ (retS ?_) (by assumption) (by first | assumption | exact news_drop (by assumption) (by intro p hp; simp [hp]))); first
        | rfl)
    | (refine GEnd.push (by assumption) (by assumption) (by repeat' first | exact same_base | refine same_step (by decide) ?_ | exact same_refl) (strs_next hci hJ ?_); first
        | (simp only [lowSign]; simp_all; done))

theorem raised_text_spec (w : World) (news : List (Addr × Obj)) (x : Str) (hx : x.length ≤ 1000) (hc : ∀ c ∈ x.cps.toList, c < 65536) (t1 : Tok) : Spec w 4 71 [.str x t1] news (PStr news (fun r => r = highText x)) := by
  dsimp only [Spec]
  k_fill
  intros
  rename_i hret
  w_top off
  k_with_none
  k_with "exec For Name Name cons nil" => (k_here; (rename Fr _ _ _ _ => lF'); (with_reducible apply For_unrF); (case _F => with_unfolding_all exact lF'); (case hs => (intro _; with_unfolding_all rfl)))
  k_with "pyIter str" => (k_extra "mine for")
  k_with "call builtin:str.join" => (k_extra "mine join")
  k_with "call builtin:list.append" => (k_extra "mine append")
  k_with "call ref" => (k_here; (with_reducible show wpAny _ _ (call (Value.ref 50) _) _ _ _); k_dflt (refine' Spec.useI (small_code_spec _ _ _ _) ?k1 ?k2 ?k3 ?k4 ?k5 ?kK ?kd ?ku ?_); (case k1 => k_asm); (case k2 => k_asm); (case k3 => k_asm); (case k4 => k_asm); (case k5 => k_asm); (case kK => first | exact rfl | assumption); (case kd => ktr_room); (case ku => ktr_units); (intro t9 h9 tk9 F9 N9); (try dsimp only); (try k_fold))
  k_with "call ref" => (k_here; (with_reducible show wpAny _ _ (call (Value.ref 57) _) _ _ _); k_dflt (refine' Spec.useI (great_code_spec _ _ _ _) ?k1 ?k2 ?k3 ?k4 ?k5 ?kK ?kd ?ku ?_); (case k1 => k_asm); (case k2 => k_asm); (case k3 => k_asm); (case k4 => k_asm); (case k5 => k_asm); (case kK => first | exact rfl | assumption); (case kd => ktr_room); (case ku => ktr_units); (intro t9 h9 tk9 F9 N9); (try dsimp only); (try k_fold))
  k_with "mine for" => (
    rename Fr _ _ _ _ => hF9
    rename News _ _ _ _ => hN9
    rename ∀ (p : Addr × Obj), p ∈ _ → p.1 < _ => hl9
    refine' chars_grow [Str.ofString "sign", Str.ofString "code"] (fun i us => StrsAre us ((x.cps.toList.take i).map fun (c : Nat) => highSign (c : Int))) rfl hF9 hN9 (fun p hp => Nat.ne_of_lt (hl9 p hp)) StrsAre.nil (fun i c t us ep u h tk own hci hJ hoff F N => ?_) (fun us ep u h tk hJ F N => ?_)
    all_goals clear hF9 hN9
    (try (have hcb := code_lt hc hci))
    (try (have hsb := great_bnd (c := (c : Int)) (by omega) hcb)))
  k_with "mine append" => (
    rename Fr _ _ _ _ => hF9
    rename News _ _ _ _ => hN9
    refine' append_K hF9 hN9 (Upd.head hoff) (fun h' F' N' => ?_) (strs_size hx hJ))
  k_with "mine join" => (
    rename News _ _ _ _ => hN9
    refine' join_listW (ys := x.cps.toList.map fun (c : Nat) => highSign (c : Int)) (News.isList hN9 (List.Mem.head _)) (strs_all hJ) (by decide) (weight3 (f := fun (c : Nat) => highSign (c : Int)) (fun c => highSign_len _) hx) (fun t' k => ?_))
  refine wpAny_call ?_
  k_dflt cell_enter
  k_steps
  all_goals first
    | ((with_reducible refine hret _ news _ _ (retS ?_) (by assumption) (by first | assumption | exact news_drop (by assumption) (by intro p hp; simp [hp]))); first
        | rfl)
    | (refine GEnd.push (by assumption) (by assumption) (by repeat' first | exact same_base | refine same_step (by decide) ?_ | exact same_refl) (strs_next hci hJ ?_); first
        | (simp only [highSign]; simp_all; done))

end Mine
-- part D1
namespace Mine
noncomputable def okC (c : Int) : Bool := (lowSign c == (pairOf c).1) && (highSign c == (pairOf c).2) && ((pairOf c).1.length != 1 || smallCode c == (((pairOf c).1.cps.getD 0 0 : Nat) : Int)) && ((pairOf c).2.length != 1 || greatCode c == (((pairOf c).2.cps.getD 0 0 : Nat) : Int))

noncomputable def row3 (r : Nat × Nat × Nat) : List Int := [(r.1 : Int), (r.2.1 : Int), (r.2.2 : Int)]
noncomputable def row2 (r : Nat × Nat) : List Int := [(r.1 : Int), (r.2 : Int)]
noncomputable def row4 (r : Nat × Nat × Nat × Nat) : List Int := [(r.1 : Int), (r.2.1 : Int), (r.2.2.1 : Int), (r.2.2.2 : Int)]
noncomputable def greatN : List (Nat × Nat × Nat) := [(65, 90, 32), (192, 214, 32), (216, 222, 32), (902, 902, 38), (904, 906, 37), (908, 908, 64), (910, 911, 63), (913, 929, 32), (931, 939, 32), (1024, 1039, 80), (1040, 1071, 32), (1329, 1366, 48)]
noncomputable def turnsN : List (Nat × Nat) := [(256, 303), (306, 311), (313, 328), (330, 375), (377, 382), (984, 1007), (1120, 1153), (1162, 1215), (1232, 1319), (7680, 7829), (7840, 7935)]
noncomputable def rowsN : List (Nat × Nat × Nat × Nat) := [(65, 97, 26, 1), (192, 224, 23, 1), (216, 248, 7, 1), (913, 945, 17, 1), (931, 963, 9, 1), (902, 940, 1, 1), (904, 941, 3, 1), (908, 972, 1, 1), (910, 973, 2, 1),
  (1024, 1104, 16, 1), (1040, 1072, 32, 1), (1329, 1377, 38, 1), (376, 255, 1, 1), (256, 257, 24, 2), (306, 307, 3, 2), (313, 314, 8, 2), (330, 331, 23, 2),
  (377, 378, 3, 2), (984, 985, 12, 2), (1120, 1121, 17, 2), (1162, 1163, 27, 2), (1232, 1233, 44, 2), (7680, 7681, 75, 2), (7840, 7841, 48, 2)]
theorem great_map : great = greatN.map row3 := by decide
theorem turns_map : turns = turnsN.map row2 := by decide
theorem rows_map : rowsL = rowsN.map row4 := by decide
noncomputable def upF (c : Nat) : List (Nat × Nat × Nat) → Option Nat
  | [] => none
  | r :: l => cond (Nat.ble r.1 c && Nat.ble c r.2.1) (some (c + r.2.2)) (upF c l)
noncomputable def downF (c : Nat) : List (Nat × Nat × Nat) → Option Nat
  | [] => none
  | r :: l => cond (Nat.ble (r.1 + r.2.2) c && Nat.ble c (r.2.1 + r.2.2)) (some (c - r.2.2)) (downF c l)
noncomputable def turnF (c k : Nat) : List (Nat × Nat) → Option Nat
  | [] => none
  | r :: l => cond (Nat.ble r.1 c && Nat.ble c r.2 && Nat.beq ((c - r.1) % 2) k) (some k) (turnF c k l)
noncomputable def pairF (c : Nat) : List (Nat × Nat × Nat × Nat) → Option (Nat × Nat)
  | [] => none
  | r :: l => cond (Nat.ble r.1 c && Nat.beq ((c - r.1) % r.2.2.2) 0 && Nat.ble ((c - r.1) / r.2.2.2 + 1) r.2.2.1) (some (r.2.1 + c - r.1, c))
    (cond (Nat.ble r.2.1 c && Nat.beq ((c - r.2.1) % r.2.2.2) 0 && Nat.ble ((c - r.2.1) / r.2.2.2 + 1) r.2.2.1) (some (c, r.1 + c - r.2.1)) (pairF c l))
theorem up_is (c : Nat) : ∀ l : List (Nat × Nat × Nat), (l.map row3).findSome? (greatUp (c : Int)) = (upF c l).map (fun v : Nat => (v : Int))
  | [] => rfl
  | r :: l => by
    rw [List.map_cons, List.findSome?_cons, up_is c l]
    simp only [upF, greatUp, row3, List.getD_cons_zero, List.getD_cons_succ]
    by_cases h : r.1 ≤ c ∧ c ≤ r.2.1
    · rw [if_pos (by omega), show (Nat.ble r.1 c && Nat.ble c r.2.1) = true by rw [Bool.and_eq_true, Nat.ble_eq, Nat.ble_eq]; exact h]
      simp
    · rw [if_neg (by omega), show (Nat.ble r.1 c && Nat.ble c r.2.1) = false by rw [Bool.eq_false_iff, Ne, Bool.and_eq_true, Nat.ble_eq, Nat.ble_eq]; exact h]
      rfl
theorem down_is (c : Nat) : ∀ l : List (Nat × Nat × Nat), (l.map row3).findSome? (greatDown (c : Int)) = (downF c l).map (fun v : Nat => (v : Int))
  | [] => rfl
  | r :: l => by
    rw [List.map_cons, List.findSome?_cons, down_is c l]
    simp only [downF, greatDown, row3, List.getD_cons_zero, List.getD_cons_succ]
    by_cases h : r.1 + r.2.2 ≤ c ∧ c ≤ r.2.1 + r.2.2
    · rw [if_pos (by omega), show (Nat.ble (r.1 + r.2.2) c && Nat.ble c (r.2.1 + r.2.2)) = true by rw [Bool.and_eq_true, Nat.ble_eq, Nat.ble_eq]; exact h]
      simp only [cond_true, Option.map_some]
      congr 1; omega
    · rw [if_neg (by omega), show (Nat.ble (r.1 + r.2.2) c && Nat.ble c (r.2.1 + r.2.2)) = false by rw [Bool.eq_false_iff, Ne, Bool.and_eq_true, Nat.ble_eq, Nat.ble_eq]; exact h]
      rfl
theorem fmod_nat {c a s : Nat} (h : a ≤ c) : Int.fmod ((c : Int) - a) s = (((c - a) % s : Nat) : Int) := by
  rw [show (c : Int) - a = ((c - a : Nat) : Int) by omega, Int.ofNat_fmod]
theorem fdiv_nat {c a s : Nat} (h : a ≤ c) : Int.fdiv ((c : Int) - a) s = (((c - a) / s : Nat) : Int) := by
  rw [show (c : Int) - a = ((c - a : Nat) : Int) by omega, Int.ofNat_fdiv]
theorem turn_cond {a b c k : Nat} {K : Int} (hK : K = k) : ((a : Int) ≤ c ∧ (c : Int) ≤ b ∧ Int.fmod ((c : Int) - a) 2 = K) ↔ (Nat.ble a c && Nat.ble c b && Nat.beq ((c - a) % 2) k) = true := by
  subst hK
  simp only [Bool.and_eq_true, Nat.ble_eq, Nat.beq_eq]
  constructor
  · rintro ⟨h1, h2, h3⟩
    have h1' : a ≤ c := by omega
    have q := fmod_nat (s := 2) h1'
    exact ⟨⟨h1', by omega⟩, by have : Int.fmod ((c : Int) - a) ((2 : Nat) : Int) = k := h3; omega⟩
  · rintro ⟨⟨h1, h2⟩, h3⟩
    have q := fmod_nat (s := 2) h1
    exact ⟨by omega, by omega, by show Int.fmod ((c : Int) - a) ((2 : Nat) : Int) = k; omega⟩
theorem turnUp_is (c : Nat) : ∀ l : List (Nat × Nat), (l.map row2).findSome? (turnUp (c : Int)) = (turnF c 0 l).map (fun _ : Nat => (c : Int) + 1)
  | [] => rfl
  | r :: l => by
    rw [List.map_cons, List.findSome?_cons, turnUp_is c l]
    simp only [turnF, turnUp, row2, List.getD_cons_zero, List.getD_cons_succ]
    have q := turn_cond (a := r.1) (b := r.2) (c := c) (k := 0) (K := 0) rfl
    by_cases h : (Nat.ble r.1 c && Nat.ble c r.2 && Nat.beq ((c - r.1) % 2) 0) = true
    · rw [if_pos (q.mpr h), h]; rfl
    · rw [if_neg (fun x => h (q.mp x)), Bool.eq_false_iff.mpr h]; rfl
theorem turnDown_is (c : Nat) : ∀ l : List (Nat × Nat), (l.map row2).findSome? (turnDown (c : Int)) = (turnF c 1 l).map (fun _ : Nat => (c : Int) - 1)
  | [] => rfl
  | r :: l => by
    rw [List.map_cons, List.findSome?_cons, turnDown_is c l]
    simp only [turnF, turnDown, row2, List.getD_cons_zero, List.getD_cons_succ]
    have q := turn_cond (a := r.1) (b := r.2) (c := c) (k := 1) (K := 1) rfl
    by_cases h : (Nat.ble r.1 c && Nat.ble c r.2 && Nat.beq ((c - r.1) % 2) 1) = true
    · rw [if_pos (q.mpr h), h]; rfl
    · rw [if_neg (fun x => h (q.mp x)), Bool.eq_false_iff.mpr h]; rfl
theorem pair_cond {a m s c : Nat} : ((a : Int) ≤ c ∧ Int.fmod ((c : Int) - a) s = 0 ∧ Int.fdiv ((c : Int) - a) s < m) ↔ (Nat.ble a c && Nat.beq ((c - a) % s) 0 && Nat.ble ((c - a) / s + 1) m) = true := by
  simp only [Bool.and_eq_true, Nat.ble_eq, Nat.beq_eq]
  constructor
  · rintro ⟨h1, h2, h3⟩
    have h1' : a ≤ c := by omega
    rw [fmod_nat h1'] at h2
    rw [fdiv_nat h1'] at h3
    exact ⟨⟨h1', by omega⟩, by omega⟩
  · rintro ⟨⟨h1, h2⟩, h3⟩
    rw [fmod_nat h1, fdiv_nat h1]
    exact ⟨by omega, by omega, by omega⟩
theorem pair_rows (c : Nat) : ∀ l : List (Nat × Nat × Nat × Nat), (l.map row4).findSome? (rowPair (c : Int)) = (pairF c l).map (fun p : Nat × Nat => (chrS (p.1 : Int), chrS (p.2 : Int)))
  | [] => rfl
  | r :: l => by
    rw [List.map_cons, List.findSome?_cons, pair_rows c l]
    simp only [pairF, rowPair, row4, List.getD_cons_zero, List.getD_cons_succ]
    have q1 := pair_cond (a := r.1) (m := r.2.2.1) (s := r.2.2.2) (c := c)
    have q2 := pair_cond (a := r.2.1) (m := r.2.2.1) (s := r.2.2.2) (c := c)
    by_cases h : (Nat.ble r.1 c && Nat.beq ((c - r.1) % r.2.2.2) 0 && Nat.ble ((c - r.1) / r.2.2.2 + 1) r.2.2.1) = true
    · rw [if_pos (q1.mpr h), h]
      have h1 := (q1.mpr h).1
      simp only [cond_true, Option.map_some]
      rw [show (r.2.1 : Int) + c - r.1 = ((r.2.1 + c - r.1 : Nat) : Int) by omega]
    · rw [if_neg (fun x => h (q1.mp x)), Bool.eq_false_iff.mpr h]
      by_cases h' : (Nat.ble r.2.1 c && Nat.beq ((c - r.2.1) % r.2.2.2) 0 && Nat.ble ((c - r.2.1) / r.2.2.2 + 1) r.2.2.1) = true
      · rw [if_pos (q2.mpr h'), h']
        have h1 := (q2.mpr h').1
        simp only [cond_true, cond_false, Option.map_some]
        rw [show (r.1 : Int) + c - r.2.1 = ((r.1 + c - r.2.1 : Nat) : Int) by omega]
      · rw [if_neg (fun x => h' (q2.mp x)), Bool.eq_false_iff.mpr h']; rfl
noncomputable def smallN (c : Nat) : Nat :=
  cond (Nat.beq c 376) 255 (cond (Nat.beq c 304) 105 (match upF c greatN with | some v => v | none => match turnF c 0 turnsN with | some _ => c + 1 | none => c))
noncomputable def highN (c : Nat) : Nat :=
  cond (Nat.beq c 255) 376 (cond (Nat.beq c 181) 924 (cond (Nat.beq c 305) 73 (cond (Nat.beq c 383) 83 (cond (Nat.beq c 962) 931 (match downF c greatN with | some v => v | none => match turnF c 1 turnsN with | some _ => c - 1 | none => c)))))
noncomputable def aloneN (c : Nat) : Nat := cond (Nat.beq c 181) 924 (cond (Nat.beq c 305) 73 (cond (Nat.beq c 383) 83 (cond (Nat.beq c 962) 931 c)))
noncomputable def pairN (c : Nat) : Nat × Nat := match pairF c rowsN with | some p => p | none => (c, aloneN c)
theorem beq_cond {α : Type} {c k : Nat} {a b : α} {x : Int} (hx : x = k) : (if (c : Int) = x then a else b) = cond (Nat.beq c k) a b := by
  subst hx
  by_cases h : c = k
  · subst h; rw [if_pos rfl, Nat.beq_refl]; rfl
  · rw [if_neg (by omega), Bool.eq_false_iff.mpr (fun e => h (Nat.eq_of_beq_eq_true e))]; rfl
theorem cond_cast {b : Bool} {x y : Nat} : ((cond b x y : Nat) : Int) = cond b (x : Int) (y : Int) := by cases b <;> rfl
theorem turn_pos {c : Nat} : ∀ {l : List (Nat × Nat)} {k}, turnF c 1 l = some k → 1 ≤ c
  | [], _, h => nomatch h
  | r :: l, k, h => by
    unfold turnF at h
    by_cases q : (Nat.ble r.1 c && Nat.ble c r.2 && Nat.beq ((c - r.1) % 2) 1) = true
    · simp only [Bool.and_eq_true, Nat.ble_eq, Nat.beq_eq] at q
      omega
    · rw [Bool.eq_false_iff.mpr q] at h
      exact turn_pos h
theorem smallN_is (c : Nat) : smallCode (c : Int) = (smallN c : Int) := by
  unfold smallCode smallN
  rw [great_map, turns_map, up_is, turnUp_is, beq_cond (x := 376) (k := 376) rfl, beq_cond (x := 304) (k := 304) rfl, cond_cast, cond_cast]
  cases upF c greatN with
  | some v => rfl
  | none =>
    cases turnF c 0 turnsN with
    | some v => rfl
    | none => rfl
theorem highN_is (c : Nat) : greatCode (c : Int) = (highN c : Int) := by
  unfold greatCode highN
  rw [great_map, turns_map, down_is, turnDown_is, beq_cond (x := 255) (k := 255) rfl, beq_cond (x := 181) (k := 181) rfl, beq_cond (x := 305) (k := 305) rfl, beq_cond (x := 383) (k := 383) rfl, beq_cond (x := 962) (k := 962) rfl, cond_cast, cond_cast, cond_cast, cond_cast, cond_cast]
  cases downF c greatN with
  | some v => rfl
  | none =>
    cases h : turnF c 1 turnsN with
    | some v =>
      have := turn_pos h
      simp only [Option.map_some, Option.map_none]
      rw [show ((c - 1 : Nat) : Int) = (c : Int) - 1 by omega]
      rfl
    | none => rfl
theorem aloneN_is (c : Nat) : aloneL (c : Int) = (aloneN c : Int) := by
  unfold aloneL aloneN
  rw [beq_cond (x := 181) (k := 181) rfl, beq_cond (x := 305) (k := 305) rfl, beq_cond (x := 383) (k := 383) rfl, beq_cond (x := 962) (k := 962) rfl, cond_cast, cond_cast, cond_cast, cond_cast]
  rfl
theorem pairN_is {c : Nat} (h : (c : Int) ≠ 304) (hw : isWide (c : Int) = false) : pairOf (c : Int) = (chrS ((pairN c).1 : Int), chrS ((pairN c).2 : Int)) := by
  have q := pair_rows c rowsN
  rw [← rows_map] at q
  unfold pairN
  cases e : pairF c rowsN with
  | some p =>
    rw [e] at q
    exact pairOf_row h hw q
  | none =>
    rw [e] at q
    rw [pairOf_none h hw (by rw [List.take_length]; exact q), aloneN_is]
noncomputable def specialN (c : Nat) : Bool := Nat.beq c 304 || (Nat.beq c 223 || (Nat.beq c 329 || (Nat.beq c 912 || (Nat.beq c 944 || Nat.beq c 1415))))
noncomputable def okN (c : Nat) : Bool := specialN c || (Nat.beq (smallN c) (pairN c).1 && Nat.beq (highN c) (pairN c).2)
theorem ok_special : okC 304 = true ∧ okC 223 = true ∧ okC 329 = true ∧ okC 912 = true ∧ okC 944 = true ∧ okC 1415 = true := by decide +kernel
theorem okN_is {c : Nat} (h : okN c = true) : okC (c : Int) = true := by
  unfold okN at h
  by_cases hs : specialN c = true
  · simp only [specialN, Bool.or_eq_true, Nat.beq_eq] at hs
    obtain ⟨h1, h2, h3, h4, h5, h6⟩ := ok_special
    rcases hs with rfl | rfl | rfl | rfl | rfl | rfl <;> assumption
  · rw [Bool.eq_false_iff.mpr hs, Bool.false_or, Bool.and_eq_true, Nat.beq_eq, Nat.beq_eq] at h
    have hn : c ≠ 304 ∧ c ≠ 223 ∧ c ≠ 329 ∧ c ≠ 912 ∧ c ≠ 944 ∧ c ≠ 1415 := by
      simp only [specialN, Bool.or_eq_true, Nat.beq_eq, not_or] at hs
      exact hs
    obtain ⟨n1, n2, n3, n4, n5, n6⟩ := hn
    have hw : isWide (c : Int) = false := by
      simp only [isWide, Bool.or_eq_false_iff, decide_eq_false_iff_not]; omega
    have e := pairN_is (c := c) (by omega) hw
    have e3 : lowSign (c : Int) = chrS ((pairN c).1 : Int) := by
      unfold lowSign; rw [if_neg (by omega), smallN_is, h.1]; rfl
    have e4 : highSign (c : Int) = chrS ((pairN c).2 : Int) := by
      unfold highSign; rw [if_neg (by omega), if_neg (by omega), if_neg (by omega), if_neg (by omega), if_neg (by omega), highN_is, h.2]; rfl
    unfold okC
    rw [e3, e4, e, smallN_is, highN_is, h.1, h.2]
    simp [chrS]
theorem ok_n0 : (List.range 512).all (fun c => okN c) = true := by decide +kernel
theorem ok_n1 : (List.range 512).all (fun c => okN (c + 512)) = true := by decide +kernel
theorem ok_n2 : (List.range 392).all (fun c => okN (c + 1024)) = true := by decide +kernel
theorem ok_n3 : (List.range 257).all (fun c => okN (c + 7680)) = true := by decide +kernel
theorem ok_at {k n c : Nat} (h : (List.range n).all (fun c => okN (c + k)) = true) (h1 : k ≤ c) (h2 : c < k + n) : okC (c : Int) = true := by
  have := List.all_eq_true.mp h (c - k) (List.mem_range.mpr (by omega))
  rw [show c - k + k = c by omega] at this
  exact okN_is this
theorem ok_low {c : Nat} (h : c < 1416) : okC (c : Int) = true := by
  by_cases h1 : c < 512
  · exact ok_at (k := 0) ok_n0 (by omega) (by omega)
  · by_cases h2 : c < 1024
    · exact ok_at ok_n1 (by omega) (by omega)
    · exact ok_at ok_n2 (by omega) (by omega)

theorem great_bnds : ∀ row ∈ great, row.getD 1 0 + row.getD 2 0 < 1416 ∧ row.getD 1 0 < 1416 := by decide
theorem turns_bnds : ∀ row ∈ turns, row.getD 1 0 < 1416 ∨ (7680 ≤ row.getD 0 0 ∧ row.getD 1 0 < 7936) := by decide
theorem rows_bnds : ∀ row ∈ rowsL, (row.getD 3 0 = 1 ∨ row.getD 3 0 = 2) ∧ ((row.getD 0 0 + row.getD 2 0 * row.getD 3 0 < 1416 ∧ row.getD 1 0 + row.getD 2 0 * row.getD 3 0 ≤ 1416) ∨ (7680 ≤ row.getD 0 0 ∧ 7680 ≤ row.getD 1 0 ∧ row.getD 0 0 + row.getD 2 0 * row.getD 3 0 ≤ 7936 ∧ row.getD 1 0 + row.getD 2 0 * row.getD 3 0 ≤ 7937)) := by decide
abbrev Out (c : Int) : Prop := (1416 ≤ c ∧ c < 7680) ∨ 7937 ≤ c
theorem great_none {c : Int} (h : Out c) : great.findSome? (greatUp c) = none ∧ great.findSome? (greatDown c) = none := by
  constructor <;> (rw [List.findSome?_eq_none_iff]; intro row hr; have := great_bnds row hr; first | unfold greatUp | unfold greatDown) <;> (rw [if_neg (by omega)])
theorem turns_none {c : Int} (h : Out c) : turns.findSome? (turnUp c) = none ∧ turns.findSome? (turnDown c) = none := by
  constructor <;> (rw [List.findSome?_eq_none_iff]; intro row hr; have := turns_bnds row hr; first | unfold turnUp | unfold turnDown) <;> (rw [if_neg (by omega)])
theorem step_far {d m s : Int} (hs : s = 1 ∨ s = 2) (h : Int.fdiv d s < m) (hz : Int.fmod d s = 0) : d < m * s := by
  have e := Int.mul_fdiv_add_fmod d s
  rcases hs with rfl | rfl <;> omega
theorem rows_none {c : Int} (h : Out c) : rowsL.findSome? (rowPair c) = none := by
  rw [List.findSome?_eq_none_iff]
  intro row hr
  obtain ⟨h1, h2⟩ := rows_bnds row hr
  unfold rowPair
  rw [if_neg, if_neg]
  · rintro ⟨a, b, d⟩
    have := step_far h1 d b
    omega
  · rintro ⟨a, b, d⟩
    have := step_far h1 d b
    omega
theorem out_vals {c : Int} (h : Out c) (h0 : 0 ≤ c) : okC c = true := by
  have e1 : smallCode c = c := by
    simp only [smallCode, (great_none h).1, (turns_none h).1]; rw [if_neg (by omega), if_neg (by omega)]
  have e2 : greatCode c = c := by
    simp only [greatCode, (great_none h).2, (turns_none h).2]; rw [if_neg (by omega), if_neg (by omega), if_neg (by omega), if_neg (by omega), if_neg (by omega)]
  have e3 : lowSign c = chrS c := by
    simp only [lowSign, e1]; rw [if_neg (by omega)]; rfl
  have e4 : highSign c = chrS c := by
    simp only [highSign, e2]; rw [if_neg (by omega), if_neg (by omega), if_neg (by omega), if_neg (by omega), if_neg (by omega)]; rfl
  have hw : isWide c = false := by
    simp only [isWide, Bool.or_eq_false_iff, decide_eq_false_iff_not]; omega
  have e5 : pairOf c = (chrS c, chrS c) := by
    rw [pairOf_none (by omega) hw (by rw [List.take_length]; exact rows_none h)]
    have : aloneL c = c := by unfold aloneL; rw [if_neg (by omega), if_neg (by omega), if_neg (by omega), if_neg (by omega)]
    rw [this]
  have e6 : ((c.toNat : Nat) : Int) = c := Int.toNat_of_nonneg h0
  simp [okC, e1, e2, e3, e4, e5, chrS, e6]
theorem all_ok {c : Int} (h0 : 0 ≤ c) : okC c = true := by
  by_cases h : Out c
  · exact out_vals h h0
  · by_cases h1 : c < 1416
    · have := ok_low (c := c.toNat) (by omega)
      rwa [Int.toNat_of_nonneg h0] at this
    · have := ok_at (c := c.toNat) ok_n3 (by omega) (by omega)
      rwa [Int.toNat_of_nonneg h0] at this
theorem low_is {c : Int} (h0 : 0 ≤ c) : lowSign c = (pairOf c).1 := by
  have := all_ok h0
  simp only [okC, Bool.and_eq_true, beq_iff_eq] at this
  exact this.1.1.1
theorem high_is {c : Int} (h0 : 0 ≤ c) : highSign c = (pairOf c).2 := by
  have := all_ok h0
  simp only [okC, Bool.and_eq_true, beq_iff_eq] at this
  exact this.1.1.2
theorem small_is {c : Int} (h0 : 0 ≤ c) (hl : (pairOf c).1.length = 1) : smallCode c = (((pairOf c).1.cps.getD 0 0 : Nat) : Int) := by
  have := all_ok h0
  simp only [okC, Bool.and_eq_true, Bool.or_eq_true, beq_iff_eq, hl] at this
  rcases this.1.2 with h | h
  · simp at h
  · exact h
theorem great_is {c : Int} (h0 : 0 ≤ c) (hl : (pairOf c).2.length = 1) : greatCode c = (((pairOf c).2.cps.getD 0 0 : Nat) : Int) := by
  have := all_ok h0
  simp only [okC, Bool.and_eq_true, Bool.or_eq_true, beq_iff_eq, hl] at this
  rcases this.2 with h | h
  · simp at h
  · exact h
theorem blanks_in : (∀ x ∈ blanksL, x ∈ lawBlanks) ∧ (∀ x ∈ endsL, x ∈ lawBlanks) ∧ (∀ k : Nat, k < 11 → (8192 + (k : Int)) ∈ lawBlanks) ∧ (∀ x ∈ lawBlanks, x ∈ blanksL ∨ (8192 ≤ x ∧ x ≤ 8202) ∨ x ∈ endsL) := by decide
theorem blank_is (c : Int) : isBlank c = lawBlanks.contains c := by
  obtain ⟨h1, h2, h3, h4⟩ := blanks_in
  rw [Bool.eq_iff_iff]
  simp only [isBlank, isWhite, isLineEnd, List.contains_iff_mem, Bool.or_eq_true, Bool.and_eq_true, decide_eq_true_eq]
  constructor
  · rintro ((h | ⟨a, b⟩) | h)
    · exact h1 c h
    · have := h3 (c - 8192).toNat (by omega)
      rwa [show (8192 : Int) + ((c - 8192).toNat : Int) = c by omega] at this
    · exact h2 c h
  · intro h
    rcases h4 c h with q | q | q
    · exact Or.inl (Or.inl q)
    · exact Or.inl (Or.inr q)
    · exact Or.inr q
end Mine
-- part C2
namespace Mine
local macro_rules | `(tactic| walk_at $s:str) => `(tactic| k_extra $s)
theorem is_white_spec (w : World) (news : List (Addr × Obj)) (c : Int) (tc : Tok) : Spec w 2 80 [.int c tc] news (PBool news (fun x => x = isWhite c)) := by
  dsimp only [Spec]
  k_fill
  intros
  rename_i hret
  w_top off
  k_with_none
  refine wpAny_call ?_
  k_dflt cell_enter
  k_steps
  all_goals first
    | ((with_reducible refine hret _ news _ _ (retB ?_) (by assumption) (by first | assumption | exact news_drop (by assumption) (by intro p hp; simp [hp]))); first
        | (subst_vars; rfl)
        | (simp_all [isWhite, blanksL]; done)
        | (simp_all [isWhite, blanksL]; omega))

theorem is_line_end_spec (w : World) (news : List (Addr × Obj)) (c : Int) (tc : Tok) : Spec w 2 87 [.int c tc] news (PBool news (fun x => x = isLineEnd c)) := by
  dsimp only [Spec]
  k_fill
  intros
  rename_i hret
  w_top off
  k_with_none
  refine wpAny_call ?_
  k_dflt cell_enter
  k_steps
  all_goals first
    | ((with_reducible refine hret _ news _ _ (retB ?_) (by assumption) (by first | assumption | exact news_drop (by assumption) (by intro p hp; simp [hp]))); first
        | (simp [isLineEnd, endsL]; done)
        | (simp_all [isLineEnd, endsL]; omega))

theorem is_blank_spec (w : World) (news : List (Addr × Obj)) (c : Nat) (tc : Tok) : Spec w 4 157 [.str ⟨#[c]⟩ tc] news (PBool news (fun x => x = isBlank c)) := by
  dsimp only [Spec]
  k_fill
  intros
  rename_i hret
  w_top off
  k_with_none
  k_with "call ref" => (k_here; (with_reducible show wpAny _ _ (call (Value.ref 80) _) _ _ _); k_dflt (refine' Spec.useB (is_white_spec _ _ _ _) ?k1 ?k2 ?k3 ?k4 ?k5 ?kK ?kd ?ku ?_); (case k1 => k_asm); (case k2 => k_asm); (case k3 => k_asm); (case k4 => k_asm); (case k5 => k_asm); (case kK => first | exact rfl | assumption); (case kd => ktr_room); (case ku => ktr_units); (intro h9 tk9 F9 N9); (try dsimp only); (try k_fold))
  k_with "call ref" => (k_here; (with_reducible show wpAny _ _ (call (Value.ref 87) _) _ _ _); k_dflt (refine' Spec.useB (is_line_end_spec _ _ _ _) ?k1 ?k2 ?k3 ?k4 ?k5 ?kK ?kd ?ku ?_); (case k1 => k_asm); (case k2 => k_asm); (case k3 => k_asm); (case k4 => k_asm); (case k5 => k_asm); (case kK => first | exact rfl | assumption); (case kd => ktr_room); (case ku => ktr_units); (intro h9 tk9 F9 N9); (try dsimp only); (try k_fold))
  refine wpAny_call ?_
  k_dflt cell_enter
  k_steps
  all_goals first
    | ((with_reducible refine hret _ news _ _ (retB ?_) (by assumption) (by first | assumption | exact news_drop (by assumption) (by intro p hp; simp [hp]))); first
        | (simp_all [isBlank]; done))

end Mine
-- part C7
namespace Mine
local macro_rules | `(tactic| walk_at "mine pad 0") => `(tactic| skip)
noncomputable def blankAt (x : Str) (i : Int) : Bool := isBlank ((Txt.charAt x i).getD 0 : Nat)
noncomputable def Trimmed (x : Str) (r : Str) : Prop :=
  ∃ f l : Int, 0 ≤ f ∧ f ≤ l ∧ l ≤ x.length ∧ (∀ i : Int, 0 ≤ i → i < f → blankAt x i = true) ∧ (∀ i : Int, l ≤ i → i < x.length → blankAt x i = true) ∧ (f < l → blankAt x f = false ∧ blankAt x (l - 1) = false) ∧ r = Txt.slice x (some f) (some l)
local macro_rules | `(tactic| walk_at $s:str) => `(tactic| k_extra $s)
theorem trimmed_text_spec (w : World) (news : List (Addr × Obj)) (x : Str) (hx : x.length ≤ 1000) (t1 : Tok) : Spec w 6 164 [.str x t1] news (PStr news (fun r => Trimmed x r)) := by
  dsimp only [Spec]
  k_fill
  intros
  rename_i hret
  w_top off
  k_with_none
  k_with "call ref" => (k_here; (with_reducible show wpAny _ _ (call (Value.ref 157) _) _ _ _); k_dflt (refine' Spec.useB (is_blank_spec _ _ _ _) ?k1 ?k2 ?k3 ?k4 ?k5 ?kK ?kd ?ku ?_); (case k1 => k_asm); (case k2 => k_asm); (case k3 => k_asm); (case k4 => k_asm); (case k5 => k_asm); (case kK => first | exact rfl | assumption); (case kd => ktr_room); (case ku => ktr_units); (intro h9 tk9 F9 N9); (try dsimp only); (try k_fold))
  k_with "exec While BoolOp cons nil" => (
    (with_reducible show wpAny _ _ (exec (Stmt.While _ [Stmt.AugAssign (Expr.Name (Str.ofString "first") _) _ _ _] _ _) _) _ _ _)
    k_while (fun _ f => 0 ≤ f ∧ f ≤ (x.length : Int) ∧ ∀ i : Int, 0 ≤ i → i < f → blankAt x i = true) (fun _ f => (x.length - f).toNat) "first")
  k_with "exec While BoolOp cons nil" => (
    (with_reducible show wpAny _ _ (exec (Stmt.While _ [Stmt.AugAssign (Expr.Name (Str.ofString "last") _) _ _ _] _ _) _) _ _ _)
    k_while_given ["first"] (fun f _ l => f ≤ l ∧ l ≤ (x.length : Int) ∧ ∀ i : Int, l ≤ i → i < (x.length : Int) → blankAt x i = true) (fun f _ l => (l - f).toNat) "last")
  k_with "state" => (
    refine ⟨by omega, by omega, ?_⟩
    intro i9 h1 h2
    first
    | (exfalso; omega)
    | ((rename ∀ i : Int, 0 ≤ i → i < _ → blankAt x i = true => hq9); (rename isBlank _ = true => hb9); exact dite (i9 < _) (fun h3 => hq9 i9 h1 h3) (fun h3 => (congrArg (blankAt x) (by omega)).trans (show blankAt x _ = true from hb9)))
    | ((rename ∀ i : Int, _ ≤ i → i < (x.length : Int) → blankAt x i = true => hq9); (rename isBlank _ = true => hb9); exact dite (_ ≤ i9) (fun h3 => hq9 i9 h3 h2) (fun h3 => (congrArg (blankAt x) (by omega)).trans (show blankAt x _ = true from hb9))))
  refine wpAny_call ?_
  k_dflt cell_enter
  k_steps
  all_goals first
    | ((with_reducible refine hret _ news _ _ (retS ?_) (by assumption) (by first | assumption | exact news_drop (by assumption) (by intro p hp; simp [hp]))); first
        | exact ⟨_, _, by omega, by omega, by omega, by assumption, by assumption, fun h9 => by (first | (exfalso; omega) | exact ⟨by assumption, by assumption⟩), rfl⟩)

end Mine
-- part D3
namespace Mine
noncomputable abbrev textOf (ns : List Int) : Str := Txt.join (Str.ofString "") (ns.map chrS)
theorem textOf_cps (ns : List Int) : (textOf ns).cps.toList = ns.map Int.toNat := by
  unfold textOf
  rw [join_is]
  simp only [List.flatMap_map]
  induction ns with
  | nil => rfl
  | cons c r ih =>
    simp only [List.flatMap_cons, List.map_cons]
    simp only [chrS] at ih ⊢
    simpa using ih
theorem textOf_len (ns : List Int) : (textOf ns).length = ns.length := by
  have h : (textOf ns).length = (textOf ns).cps.toList.length := by show Array.size _ = _; simp
  rw [h, textOf_cps, List.length_map]
theorem low_textOf {ns : List Int} (hb : ∀ c ∈ ns, 0 ≤ c ∧ c < 65536) : lowText (textOf ns) = Txt.join (Str.ofString "") (ns.map fun c => (pairOf c).1) := by
  unfold lowText
  rw [textOf_cps, List.map_map]
  congr 1
  refine List.map_congr_left fun c hc => ?_
  have := hb c hc
  show lowSign ((c.toNat : Nat) : Int) = _
  rw [Int.toNat_of_nonneg this.1, low_is this.1]
theorem high_textOf {ns : List Int} (hb : ∀ c ∈ ns, 0 ≤ c ∧ c < 65536) : highText (textOf ns) = Txt.join (Str.ofString "") (ns.map fun c => (pairOf c).2) := by
  unfold highText
  rw [textOf_cps, List.map_map]
  congr 1
  refine List.map_congr_left fun c hc => ?_
  have := hb c hc
  show highSign ((c.toNat : Nat) : Int) = _
  rw [Int.toNat_of_nonneg this.1, high_is this.1]
theorem textOf_codes {ns : List Int} (hb : ∀ c ∈ ns, 0 ≤ c ∧ c < 65536) : ∀ c ∈ (textOf ns).cps.toList, c < 65536 := by
  rw [textOf_cps]
  intro c hc
  obtain ⟨k, hk, rfl⟩ := List.mem_map.mp hc
  have := hb k hk
  omega
noncomputable def blankIn (ns : List Int) (j : Nat) : Bool := lawBlanks.contains (ns.getD j 0)
theorem textOf_blank {ns : List Int} (hb : ∀ c ∈ ns, 0 ≤ c ∧ c < 65536) {j : Nat} (hj : j < ns.length) : blankAt (textOf ns) (j : Int) = blankIn ns j := by
  unfold blankAt blankIn
  have h1 : (Txt.charAt (textOf ns) (j : Int)).getD 0 = (ns.getD j 0).toNat := by
    have e : (textOf ns).cps[j]? = some (ns.getD j 0).toNat := by
      have : (textOf ns).cps.toList[j]? = some (ns.getD j 0).toNat := by
        rw [textOf_cps, List.getElem?_map, List.getElem?_eq_getElem hj]
        simp [List.getD_eq_getElem?_getD, hj]
      simpa using this
    unfold Txt.charAt
    rw [StrLaws.at_nonneg (Int.natCast_nonneg j) (by rw [Int.toNat_natCast]; exact e)]
    rfl
  rw [h1, Int.toNat_of_nonneg, blank_is]
  have hm : ns.getD j 0 ∈ ns := by
    rw [List.getD_eq_getElem?_getD, List.getElem?_eq_getElem hj]; exact List.getElem_mem ..
  exact (hb _ hm).1
noncomputable def LeftOk (ns : List Int) (i : Nat) (L : List Int) : Prop :=
  (L = [] ∧ ∀ j, j < i → blankIn ns j = true) ∨
  ∃ a z : Nat, L.getD 0 0 = (a : Int) ∧ L.getD (L.length - 1) 0 = (z : Int) ∧ L ≠ [] ∧ a ≤ z ∧ z < i ∧ blankIn ns a = false ∧ blankIn ns z = false ∧ (∀ j, j < a → blankIn ns j = true) ∧ (∀ j, z < j → j < i → blankIn ns j = true)
theorem LeftOk.nil (ns : List Int) : LeftOk ns 0 [] := Or.inl ⟨rfl, fun j hj => absurd hj (by omega)⟩
theorem LeftOk.skip {ns : List Int} {i : Nat} {L : List Int} (h : LeftOk ns i L) (hb : blankIn ns i = true) : LeftOk ns (i + 1) L := by
  rcases h with ⟨e, h⟩ | ⟨a, z, h1, h2, h3, h4, h5, h6, h7, h8, h9⟩
  · exact Or.inl ⟨e, fun j hj => by by_cases q : j = i; (· exact q ▸ hb); exact h j (by omega)⟩
  · exact Or.inr ⟨a, z, h1, h2, h3, h4, by omega, h6, h7, h8, fun j hj hj' => by by_cases q : j = i; (· exact q ▸ hb); exact h9 j hj (by omega)⟩
theorem LeftOk.put {ns : List Int} {i : Nat} {L : List Int} (h : LeftOk ns i L) (hb : blankIn ns i = false) : LeftOk ns (i + 1) (L ++ [(i : Int)]) := by
  rcases h with ⟨e, h⟩ | ⟨a, z, h1, h2, h3, h4, h5, h6, h7, h8, h9⟩
  · subst e
    exact Or.inr ⟨i, i, rfl, rfl, by simp, by omega, by omega, hb, hb, h, fun j hj hj' => by omega⟩
  · refine Or.inr ⟨a, i, ?_, ?_, by simp, by omega, by omega, h6, hb, h8, fun j hj hj' => by omega⟩
    · cases L with
      | nil => exact absurd rfl h3
      | cons x r => simpa using h1
    · simp [List.getD_eq_getElem?_getD]
noncomputable def dueOf (ns L : List Int) : List Int := if L = [] then [] else (ns.drop (L.getD 0 0).toNat).take ((L.getD (L.length - 1) 0 + 1).toNat - (L.getD 0 0).toNat)
theorem trim_is {ns L : List Int} {r : Str} (hb : ∀ c ∈ ns, 0 ≤ c ∧ c < 65536) (hL : LeftOk ns ns.length L) (h : Trimmed (textOf ns) r) : r = textOf (dueOf ns L) := by
  obtain ⟨f, l, h1, h2, h3, h4, h5, h6, e⟩ := h
  rw [textOf_len] at h3 h5
  have hB : ∀ j : Int, 0 ≤ j → j < ns.length → blankAt (textOf ns) j = blankIn ns j.toNat := fun j q1 q2 => by
    have := textOf_blank hb (j := j.toNat) (by omega)
    rwa [Int.toNat_of_nonneg q1] at this
  have key : ∀ a z : Int, f = a → l = z → r = textOf ((ns.drop a.toNat).take (z - a).toNat) := by
    rintro a z rfl rfl
    rw [e, slice_mid ⟨h1, h2, by rw [textOf_len]; exact h3⟩, textOf_cps]
    refine Str.ext' (Array.toList_inj.mp ?_)
    rw [textOf_cps]
    simp [List.map_take, List.map_drop]
  rcases hL with ⟨rfl, hall⟩ | ⟨a, z, g1, g2, g3, g4, g5, g6, g7, g8, g9⟩
  · have hfl : f = l := by
      false_or_by_contra
      have q := (h6 (by omega)).1
      rw [hB f h1 (by omega), hall _ (by omega)] at q
      cases q
    rw [key f l rfl rfl, hfl]
    simp [dueOf]
  · have fa : f ≤ a := by
      false_or_by_contra
      have q := h4 a (by omega) (by omega)
      rw [hB _ (by omega) (by omega), Int.toNat_natCast, g6] at q
      cases q
    have lz : (z : Int) < l := by
      false_or_by_contra
      have q := h5 z (by omega) (by omega)
      rw [hB _ (by omega) (by omega), Int.toNat_natCast, g7] at q
      cases q
    obtain ⟨p1, p2⟩ := h6 (by omega)
    have fa' : f = a := by
      false_or_by_contra
      rw [hB _ (by omega) (by omega), g8 _ (by omega)] at p1
      cases p1
    have lz' : l = z + 1 := by
      false_or_by_contra
      rw [hB _ (by omega) (by omega), g9 _ (by omega) (by omega)] at p2
      cases p2
    rw [key a (z + 1) fa' lz']
    unfold dueOf
    rw [if_neg g3, g1, g2]
    congr 2
    omega
end Mine
-- part B14
namespace Mine
theorem srcLst {h₀ : Heap} {ax : Addr} {ys : List Value} {news : List (Addr × Obj)} (hm : (ax, LCg.lst ys) ∈ news) : LCg.SrcAt h₀ ax ys.toArray news := Or.inr ⟨_, hm, rfl, _, rfl⟩
theorem sum_le3m {f : Int → Str} : ∀ {l : List Int}, (∀ c ∈ l, (f c).length ≤ 3) → ((l.map f).map (·.length)).sum ≤ 3 * l.length
  | [], _ => by simp
  | c :: l, hf => by
    have := sum_le3m (l := l) fun c hc => hf c (List.mem_cons_of_mem _ hc)
    have := hf c List.mem_cons_self
    simp only [List.map_cons, List.sum_cons, List.length_cons]
    omega
theorem weight3m {f : Int → Str} {ns : List Int} (hf : ∀ c ∈ ns, (f c).length ≤ 3) (hx : ns.length ≤ 1000) : ((ns.map f).map (·.length)).sum + (ns.map f).length ≤ 1048576 := by
  have h1 := sum_le3m hf
  rw [List.length_map]; omega
theorem low3 {c : Int} (h : 0 ≤ c) : (pairOf c).1.length ≤ 3 := by rw [← low_is h]; exact lowSign_len c
theorem high3 {c : Int} (h : 0 ≤ c) : (pairOf c).2.length ≤ 3 := by rw [← high_is h]; exact highSign_len c
noncomputable abbrev lowF (c : Int) : Str := (pairOf c).1
noncomputable abbrev highF (c : Int) : Str := (pairOf c).2
theorem low_codes_spec (w : World) (news : List (Addr × Obj)) (ns : List Int) (hb : ∀ c ∈ ns, 0 ≤ c ∧ c < 65536) (hl : ns.length ≤ 1000) (t : Tok) : Spec w 4 64 [.str (Txt.join (Str.ofString "") (ns.map chrS)) t] news (PStr news (fun r => r = Txt.join (Str.ofString "") (ns.map lowF))) := by
  have := lowered_text_spec w news (textOf ns) (by rw [textOf_len]; exact hl) (textOf_codes hb) t
  rwa [low_textOf hb] at this
theorem high_codes_spec (w : World) (news : List (Addr × Obj)) (ns : List Int) (hb : ∀ c ∈ ns, 0 ≤ c ∧ c < 65536) (hl : ns.length ≤ 1000) (t : Tok) : Spec w 4 71 [.str (Txt.join (Str.ofString "") (ns.map chrS)) t] news (PStr news (fun r => r = Txt.join (Str.ofString "") (ns.map highF))) := by
  have := raised_text_spec w news (textOf ns) (by rw [textOf_len]; exact hl) (textOf_codes hb) t
  rwa [high_textOf hb] at this
end Mine
-- part B15
namespace Mine
section
variable {prog : Program} {w : World} {A : Around} {E : Value → Shared → Prop} {s : Shared} {h₀ : Heap} {L l : Addr} {m : Str → Option Value} {news : List (Addr × Obj)} {value slice : PySem.Expr} {vs : List Value} {ns : List Int} {Q : Value → Shared → Prop}
theorem ne_same {x y : Str} {t u : Tok} (e : x = y) (h : Q (.bool false) s) : wpAny (model prog w) A (compareOp .NotEq (.str x t) (.str y u)) Q E s := by
  subst e
  refine PyProof.Rows.ne_str ?_
  rw [bne_self_eq_false]; exact h
theorem eq_same {x y : Str} {t u : Tok} (e : x = y) (h : Q (.bool true) s) : wpAny (model prog w) A (compareOp .Eq (.str x t) (.str y u)) Q E s := by
  subst e
  refine PyProof.Rows.eq_str ?_
  rw [beq_self_eq_true]; exact h
theorem lst_is (N : News h₀ L s.heap news) (hm : (l, LCg.lst vs) ∈ news) : s.heap.IsList l vs.toArray := News.isList N hm
theorem item_at_nat {i : Nat} {u : Tok} (N : News h₀ L s.heap news) (hm : (l, LCg.lst vs) ∈ news) (hi : IntsAre vs ns) (hz : ns.length ≤ 1000) (h1 : i < ns.length)
    (hs : subscripted slice false (.ref l) (.int i u) = operate [.ref l, .int i u] (getItem (.ref l) (.int i u)))
    (h : ∀ t, Q (.int (ns.getD i 0) t) s) : wpAny (model prog w) A (subscriptTail value slice (.ref l) (.int i u)) Q E s := by
  refine item_list_intsR (lst_is N hm) hi (by omega) (by omega) (by omega) (fun t => ?_) hs
  rw [Int.toNat_natCast]; exact h t
theorem item_first {k : Int} {u : Tok} (hk : k = 0) (N : News h₀ L s.heap news) (hm : (l, LCg.lst vs) ∈ news) (hi : IntsAre vs ns) (hz : ns ≠ [])
    (hs : subscripted slice false (.ref l) (.int k u) = operate [.ref l, .int k u] (getItem (.ref l) (.int k u)))
    (h : ∀ t, Q (.int (ns.getD 0 0) t) s) : wpAny (model prog w) A (subscriptTail value slice (.ref l) (.int k u)) Q E s := by
  subst hk
  have := List.length_pos_iff.mpr hz
  exact item_list_intsR (lst_is N hm) hi (by decide) (by omega) (by decide) (fun t => h t) hs
theorem item_last {k : Int} {u : Tok} (hk : k = -1) (N : News h₀ L s.heap news) (hm : (l, LCg.lst vs) ∈ news) (hi : IntsAre vs ns) (hz : ns ≠ [])
    (hs : subscripted slice false (.ref l) (.int k u) = operate [.ref l, .int k u] (getItem (.ref l) (.int k u)))
    (h : ∀ t, Q (.int (ns.getD (ns.length - 1) 0) t) s) : wpAny (model prog w) A (subscriptTail value slice (.ref l) (.int k u)) Q E s := by
  subst hk
  have := List.length_pos_iff.mpr hz
  refine item_list_ints_negR (lst_is N hm) hi (by decide) (by omega) (by decide) (fun t => ?_) hs
  rw [show (-1 + (ns.length : Int)).toNat = ns.length - 1 by omega]
  exact h t
theorem due_slice {Lf : List Int} {x y : Int} {t1 t2 : Tok} (F : Fr h₀ L s.heap m) (N : News h₀ L s.heap news) (hm : (l, LCg.lst vs) ∈ news) (hi : IntsAre vs ns) (hz : ns.length ≤ 1000) (hne : Lf ≠ []) (hL : LeftOk ns ns.length Lf) (hx : x = Lf.getD 0 0) (hy : y = Lf.getD (Lf.length - 1) 0 + 1)
    (h : ∀ D ws h', Fr h₀ L h' m → News h₀ L h' ((D, W.listOf (List.toArray ws) 0) :: news) → (∀ p ∈ news, p.1 < D) → IntsAre ws (dueOf ns Lf) → Q (.ref D) { s with heap := h' })
    (hs : subscripted slice false (.ref l) (.ref s.heap.objs.size) = operate [.ref s.heap.objs.size, .ref l] (getItem (.ref l) (.ref s.heap.objs.size))) (ht : ∀ r, letTemporaryGo value (.ref l) r = pure ()) :
    wpAny (model prog w) A (subscriptTail value slice (.ref l) (.ref s.heap.objs.size)) Q E { s with heap := s.heap.push { cls := .type "slice", data := .fields #[.int x t1, .int y t2, .none] } } := by
  subst hx; subst hy
  have hd : IntsAre (slicePick vs.toArray (some (Lf.getD 0 0)) (some (Lf.getD (Lf.length - 1) 0 + 1)) none).toList (dueOf ns Lf) := by
    rcases hL with ⟨e, _⟩ | ⟨a, z, g1, g2, g3, g4, g5, _⟩
    · exact absurd e hne
    · have q := kmk_run (x := Lf.getD 0 0) (y := Lf.getD (Lf.length - 1) 0 + 1) hi (by rw [g1]; omega) (by rw [g2]; omega)
      unfold dueOf
      rw [if_neg hne]
      rwa [show min (Lf.getD (Lf.length - 1) 0 + 1).toNat ns.length = (Lf.getD (Lf.length - 1) 0 + 1).toNat by rw [g2]; omega] at q
  exact kmk_slice_ints F N (lst_is N hm) (IsPart.int _ _) (IsPart.int _ _) hi hd rfl (fun D ws h' F' N' l1 hI _ _ => h D ws h' F' N' l1 hI) hs ht (by rw [List.size_toArray, hi.length, sizeLine_eq]; omega)
end
theorem due_mem {ns Lf : List Int} : ∀ c ∈ dueOf ns Lf, c ∈ ns := by
  intro c hc
  unfold dueOf at hc
  split at hc
  · simp at hc
  · exact List.mem_of_mem_drop (List.mem_of_mem_take hc)
theorem due_len {ns Lf : List Int} : (dueOf ns Lf).length ≤ ns.length := by
  unfold dueOf
  split
  · simp
  · rw [List.length_take, List.length_drop]; omega
theorem any_contains (c : Int) : (lawBlanks.any fun x => x == c) = lawBlanks.contains c := by
  rw [List.contains_eq_any_beq]
  congr 1
  funext x
  rw [Bool.eq_iff_iff]; simp only [beq_iff_eq]; exact eq_comm
theorem left_put {ns Lf : List Int} {ws : List Value} {i : Nat} {t : Tok} (h : IntsAre ws Lf) (hL : LeftOk ns i Lf) (hb : lawBlanks.contains (ns.getD i 0) = false) : ∃ Lf', IntsAre (ws ++ [.int (i : Int) t]) Lf' ∧ LeftOk ns (i + 1) Lf' :=
  ⟨Lf ++ [(i : Int)], IntsAre.append h (.cons _ t .nil), hL.put hb⟩
theorem left_skip {ns Lf : List Int} {ws : List Value} {i : Nat} (h : IntsAre ws Lf) (hL : LeftOk ns i Lf) (hb : lawBlanks.contains (ns.getD i 0) = true) : ∃ Lf', IntsAre ws Lf' ∧ LeftOk ns (i + 1) Lf' :=
  ⟨Lf, h, hL.skip hb⟩
theorem slice3_len {x : Str} (h : 1 ≤ x.length) : 1 ≤ (Txt.slice x none (some 3)).length ∧ (Txt.slice x none (some 3)).length ≤ 3 := by
  have q := fact_slice_ns x 3
  have q1 := q.1
  have q2 := q.2
  omega
theorem ne_left {prog : Program} {w : World} {A : Around} {E : Value → Shared → Prop} {s : Shared} {h₀ : Heap} {L a b : Addr} {vs : List Value} {n : Nat} {news : List (Addr × Obj)} {Lf : List Int} {Q : Value → Shared → Prop} (N : News h₀ L s.heap news) (hm : (a, LCg.lst vs) ∈ news) (hm' : (b, W.listOf #[] n) ∈ news) (hi : IntsAre vs Lf) (hu : A.units + 64 < cLine)
    (h1 : Lf ≠ [] → Q (.bool true) s) (h2 : Lf = [] → Q (.bool false) s) : wpAny (model prog w) A (compareOp .NotEq (.ref a) (.ref b)) Q E s := by
  refine ne_intsK (us := ([] : List Value)) (News.isList N hm) hi (News.isList N hm') IntsAre.nil hu ?_
  by_cases e : Lf = []
  · rw [decide_eq_true e]; exact h2 e
  · rw [decide_eq_false e]; exact h1 e
theorem due_nil {ns : List Int} : textOf (dueOf ns []) = Txt.join (Str.ofString "") (([] : List Int).map chrS) := rfl
theorem news_pick6 {h₀ h : Heap} {L : Addr} {x b c d y z : Addr × Obj} (N : News h₀ L h [x, b, c, d, y, z]) : News h₀ L h [x, y] := news_drop N fun p hp => by
  simp only [List.mem_cons, List.not_mem_nil, or_false] at hp ⊢
  rcases hp with rfl | rfl <;> simp
theorem news_pick4 {h₀ h : Heap} {L : Addr} {a b x y : Addr × Obj} (N : News h₀ L h [a, b, x, y]) : News h₀ L h [x, y] := news_drop N fun p hp => List.mem_cons_of_mem _ (List.mem_cons_of_mem _ hp)
theorem news_pick3 {h₀ h : Heap} {L : Addr} {a x y : Addr × Obj} (N : News h₀ L h [a, x, y]) : News h₀ L h [x, y] := news_drop N fun p hp => List.mem_cons_of_mem _ hp
theorem range_len {b : Int} {n : Nat} (h : b = n) : Builtin.Range.rangeSize 0 b 1 = (n : Int) := by
  subst h; rw [rangeSize_nat]; omega
theorem range_sm {b : Int} {n : Nat} (h : b = n) (hn : n ≤ 1000) : Builtin.Range.small 0 b 1 = true := by
  subst h; exact small_one (by omega) (by omega) (by omega) (by omega)
end Mine
-- part C3
namespace Mine
noncomputable def clampP (p l : Int) : Int := min (max p 0) l
noncomputable def fee (p l : Int) : Int := if p < 0 then max (l + p) 0 else min p l
noncomputable def standsAt (x y : Str) (a : Int) : Bool := Txt.slice x (some a) (some (a + y.length)) == y
theorem clamp_place_spec (w : World) (news : List (Addr × Obj)) (p l : Int) (t1 t2 : Tok) : Spec w 2 94 [.int p t1, .int l t2] news (PInt news (fun x => x = clampP p l)) := by
  dsimp only [Spec]
  k_fill
  intros
  rename_i hret
  w_top off
  k_with_none
  refine wpAny_call ?_
  k_dflt cell_enter
  k_steps
  all_goals first
    | ((with_reducible refine hret _ news _ _ (retI ?_) (by assumption) (by first | assumption | exact news_drop (by assumption) (by intro p hp; simp [hp]))); first
        | (simp only [clampP]; (repeat' split) <;> omega))

theorem from_either_end_spec (w : World) (news : List (Addr × Obj)) (p l : Int) (t1 t2 : Tok) : Spec w 2 101 [.int p t1, .int l t2] news (PInt news (fun x => x = fee p l)) := by
  dsimp only [Spec]
  k_fill
  intros
  rename_i hret
  w_top off
  k_with_none
  refine wpAny_call ?_
  k_dflt cell_enter
  k_steps
  all_goals first
    | ((with_reducible refine hret _ news _ _ (retI ?_) (by assumption) (by first | assumption | exact news_drop (by assumption) (by intro p hp; simp [hp]))); first
        | (simp only [fee]; (repeat' split) <;> omega))

theorem stands_at_spec (w : World) (news : List (Addr × Obj)) (x y : Str) (hx : x.length ≤ 1000) (hy : y.length ≤ 1000) (p : Int) (t1 t2 t3 : Tok) : Spec w 2 129 [.str x t1, .str y t2, .int p t3] news (PBool news (fun r => r = standsAt x y p)) := by
  dsimp only [Spec]
  k_fill
  intros
  rename_i hret
  w_top off
  k_with_none
  refine wpAny_call ?_
  k_dflt cell_enter
  k_steps
  all_goals first
    | ((with_reducible refine hret _ news _ _ (retB ?_) (by assumption) (by first | assumption | exact news_drop (by assumption) (by intro p hp; simp [hp]))); first
        | rfl)

theorem clamp_place_spec2 (w : World) (news : List (Addr × Obj)) (p l : Int) (hl : 0 ≤ l) (t1 t2 : Tok) : Spec w 2 94 [.int p t1, .int l t2] news (PInt news (fun x => x = clampP p l ∧ 0 ≤ x ∧ x ≤ l)) := by
  intro loose mean mg mb dp un gd cn cs a ccd cl outer A₀ base h₀ L m s Q E B F X N T hk hd hu ret
  refine clamp_place_spec w news p l t1 t2 loose mean mg mb dp un gd cn cs a ccd cl outer A₀ base h₀ L m s Q E B F X N T hk hd hu ?_
  rintro v n h' tk' ⟨rfl, x, t, rfl, rfl⟩
  refine ret _ _ h' tk' ⟨rfl, _, _, rfl, rfl, ?_, ?_⟩ <;> (simp only [clampP]; omega)
end Mine
-- part C4
namespace Mine
noncomputable def sliceOf (x : Str) (p q : Int) : Str := if fee p x.length < fee q x.length then Txt.slice x (some (fee p x.length)) (some (fee q x.length)) else Str.ofString ""
noncomputable def sliceOfN (x : Str) (p : Int) : Str := if fee p x.length < x.length then Txt.slice x (some (fee p x.length)) (some x.length) else Str.ofString ""
noncomputable def imin (a b : Int) : Int := if b < a then b else a
noncomputable def imax (a b : Int) : Int := if b > a then b else a
noncomputable def substringOf (x : Str) (p q : Int) : Str := Txt.slice x (some (imin (clampP p x.length) (clampP q x.length))) (some (imax (clampP p x.length) (clampP q x.length)))
noncomputable def substrSize (x : Str) (p q : Int) : Int := imin (imax q 0) (x.length - fee p x.length)
noncomputable def substrOf (x : Str) (p q : Int) : Str := if substrSize x p q > 0 then Txt.slice x (some (fee p x.length)) (some (fee p x.length + substrSize x p q)) else Str.ofString ""
noncomputable def substrOfN (x : Str) (p : Int) : Str := if (x.length : Int) - fee p x.length > 0 then Txt.slice x (some (fee p x.length)) (some (fee p x.length + (x.length - fee p x.length))) else Str.ofString ""
local macro_rules | `(tactic| walk_at $s:str) => `(tactic| k_extra $s)
theorem slice_of_spec (w : World) (news : List (Addr × Obj)) (x : Str) (hx : x.length ≤ 1000) (p q : Int) (t1 t2 t3 : Tok) : Spec w 4 108 [.str x t1, .int p t2, .int q t3] news (PStr news (fun r => r = sliceOf x p q)) := by
  dsimp only [Spec]
  k_fill
  intros
  rename_i hret
  w_top off
  k_with_none
  k_with "call ref" => (k_here; (with_reducible show wpAny _ _ (call (Value.ref 94) _) _ _ _); k_dflt (refine' Spec.useI (clamp_place_spec _ _ _ _ _ _) ?k1 ?k2 ?k3 ?k4 ?k5 ?kK ?kd ?ku ?_); (case k1 => k_asm); (case k2 => k_asm); (case k3 => k_asm); (case k4 => k_asm); (case k5 => k_asm); (case kK => first | exact rfl | assumption); (case kd => ktr_room); (case ku => ktr_units); (intro t9 h9 tk9 F9 N9); (try dsimp only); (try k_fold))
  k_with "call ref" => (k_here; (with_reducible show wpAny _ _ (call (Value.ref 101) _) _ _ _); k_dflt (refine' Spec.useI (from_either_end_spec _ _ _ _ _ _) ?k1 ?k2 ?k3 ?k4 ?k5 ?kK ?kd ?ku ?_); (case k1 => k_asm); (case k2 => k_asm); (case k3 => k_asm); (case k4 => k_asm); (case k5 => k_asm); (case kK => first | exact rfl | assumption); (case kd => ktr_room); (case ku => ktr_units); (intro t9 h9 tk9 F9 N9); (try dsimp only); (try k_fold))
  refine wpAny_call ?_
  k_dflt cell_enter
  k_steps
  all_goals first
    | ((with_reducible refine hret _ news _ _ (retS ?_) (by assumption) (by first | assumption | exact news_drop (by assumption) (by intro p hp; simp [hp]))); first
        | (unfold sliceOf; first | exact (if_pos (by assumption)).symm | exact (if_neg (by assumption)).symm | rfl))

theorem slice_of_n_spec (w : World) (news : List (Addr × Obj)) (x : Str) (hx : x.length ≤ 1000) (p : Int) (t1 t2 : Tok) : Spec w 4 108 [.str x t1, .int p t2, .none] news (PStr news (fun r => r = sliceOfN x p)) := by
  dsimp only [Spec]
  k_fill
  intros
  rename_i hret
  w_top off
  k_with_none
  k_with "call ref" => (k_here; (with_reducible show wpAny _ _ (call (Value.ref 94) _) _ _ _); k_dflt (refine' Spec.useI (clamp_place_spec _ _ _ _ _ _) ?k1 ?k2 ?k3 ?k4 ?k5 ?kK ?kd ?ku ?_); (case k1 => k_asm); (case k2 => k_asm); (case k3 => k_asm); (case k4 => k_asm); (case k5 => k_asm); (case kK => first | exact rfl | assumption); (case kd => ktr_room); (case ku => ktr_units); (intro t9 h9 tk9 F9 N9); (try dsimp only); (try k_fold))
  k_with "call ref" => (k_here; (with_reducible show wpAny _ _ (call (Value.ref 101) _) _ _ _); k_dflt (refine' Spec.useI (from_either_end_spec _ _ _ _ _ _) ?k1 ?k2 ?k3 ?k4 ?k5 ?kK ?kd ?ku ?_); (case k1 => k_asm); (case k2 => k_asm); (case k3 => k_asm); (case k4 => k_asm); (case k5 => k_asm); (case kK => first | exact rfl | assumption); (case kd => ktr_room); (case ku => ktr_units); (intro t9 h9 tk9 F9 N9); (try dsimp only); (try k_fold))
  refine wpAny_call ?_
  k_dflt cell_enter
  k_steps
  all_goals first
    | ((with_reducible refine hret _ news _ _ (retS ?_) (by assumption) (by first | assumption | exact news_drop (by assumption) (by intro p hp; simp [hp]))); first
        | (unfold sliceOfN; first | exact (if_pos (by assumption)).symm | exact (if_neg (by assumption)).symm | rfl))

theorem substring_of_spec (w : World) (news : List (Addr × Obj)) (x : Str) (hx : x.length ≤ 1000) (p q : Int) (t1 t2 t3 : Tok) : Spec w 4 115 [.str x t1, .int p t2, .int q t3] news (PStr news (fun r => r = substringOf x p q)) := by
  dsimp only [Spec]
  k_fill
  intros
  rename_i hret
  w_top off
  k_with_none
  k_with "call ref" => (k_here; (with_reducible show wpAny _ _ (call (Value.ref 94) _) _ _ _); k_dflt (refine' Spec.useI (clamp_place_spec _ _ _ _ _ _) ?k1 ?k2 ?k3 ?k4 ?k5 ?kK ?kd ?ku ?_); (case k1 => k_asm); (case k2 => k_asm); (case k3 => k_asm); (case k4 => k_asm); (case k5 => k_asm); (case kK => first | exact rfl | assumption); (case kd => ktr_room); (case ku => ktr_units); (intro t9 h9 tk9 F9 N9); (try dsimp only); (try k_fold))
  k_with "call ref" => (k_here; (with_reducible show wpAny _ _ (call (Value.ref 101) _) _ _ _); k_dflt (refine' Spec.useI (from_either_end_spec _ _ _ _ _ _) ?k1 ?k2 ?k3 ?k4 ?k5 ?kK ?kd ?ku ?_); (case k1 => k_asm); (case k2 => k_asm); (case k3 => k_asm); (case k4 => k_asm); (case k5 => k_asm); (case kK => first | exact rfl | assumption); (case kd => ktr_room); (case ku => ktr_units); (intro t9 h9 tk9 F9 N9); (try dsimp only); (try k_fold))
  refine wpAny_call ?_
  k_dflt cell_enter
  k_steps
  all_goals first
    | ((with_reducible refine hret _ news _ _ (retS ?_) (by assumption) (by first | assumption | exact news_drop (by assumption) (by intro p hp; simp [hp]))); first
        | (unfold substringOf; first | exact (if_pos (by assumption)).symm | exact (if_neg (by assumption)).symm | rfl))

theorem substr_of_spec (w : World) (news : List (Addr × Obj)) (x : Str) (hx : x.length ≤ 1000) (p q : Int) (t1 t2 t3 : Tok) : Spec w 4 122 [.str x t1, .int p t2, .int q t3] news (PStr news (fun r => r = substrOf x p q)) := by
  dsimp only [Spec]
  k_fill
  intros
  rename_i hret
  w_top off
  k_with_none
  k_with "call ref" => (k_here; (with_reducible show wpAny _ _ (call (Value.ref 94) _) _ _ _); k_dflt (refine' Spec.useI (clamp_place_spec _ _ _ _ _ _) ?k1 ?k2 ?k3 ?k4 ?k5 ?kK ?kd ?ku ?_); (case k1 => k_asm); (case k2 => k_asm); (case k3 => k_asm); (case k4 => k_asm); (case k5 => k_asm); (case kK => first | exact rfl | assumption); (case kd => ktr_room); (case ku => ktr_units); (intro t9 h9 tk9 F9 N9); (try dsimp only); (try k_fold))
  k_with "call ref" => (k_here; (with_reducible show wpAny _ _ (call (Value.ref 101) _) _ _ _); k_dflt (refine' Spec.useI (from_either_end_spec _ _ _ _ _ _) ?k1 ?k2 ?k3 ?k4 ?k5 ?kK ?kd ?ku ?_); (case k1 => k_asm); (case k2 => k_asm); (case k3 => k_asm); (case k4 => k_asm); (case k5 => k_asm); (case kK => first | exact rfl | assumption); (case kd => ktr_room); (case ku => ktr_units); (intro t9 h9 tk9 F9 N9); (try dsimp only); (try k_fold))
  refine wpAny_call ?_
  k_dflt cell_enter
  k_steps
  all_goals first
    | ((with_reducible refine hret _ news _ _ (retS ?_) (by assumption) (by first | assumption | exact news_drop (by assumption) (by intro p hp; simp [hp]))); first
        | (unfold substrOf; first | exact (if_pos (by assumption)).symm | exact (if_neg (by assumption)).symm | rfl))

theorem substr_of_n_spec (w : World) (news : List (Addr × Obj)) (x : Str) (hx : x.length ≤ 1000) (p : Int) (t1 t2 : Tok) : Spec w 4 122 [.str x t1, .int p t2, .none] news (PStr news (fun r => r = substrOfN x p)) := by
  dsimp only [Spec]
  k_fill
  intros
  rename_i hret
  w_top off
  k_with_none
  k_with "call ref" => (k_here; (with_reducible show wpAny _ _ (call (Value.ref 94) _) _ _ _); k_dflt (refine' Spec.useI (clamp_place_spec _ _ _ _ _ _) ?k1 ?k2 ?k3 ?k4 ?k5 ?kK ?kd ?ku ?_); (case k1 => k_asm); (case k2 => k_asm); (case k3 => k_asm); (case k4 => k_asm); (case k5 => k_asm); (case kK => first | exact rfl | assumption); (case kd => ktr_room); (case ku => ktr_units); (intro t9 h9 tk9 F9 N9); (try dsimp only); (try k_fold))
  k_with "call ref" => (k_here; (with_reducible show wpAny _ _ (call (Value.ref 101) _) _ _ _); k_dflt (refine' Spec.useI (from_either_end_spec _ _ _ _ _ _) ?k1 ?k2 ?k3 ?k4 ?k5 ?kK ?kd ?ku ?_); (case k1 => k_asm); (case k2 => k_asm); (case k3 => k_asm); (case k4 => k_asm); (case k5 => k_asm); (case kK => first | exact rfl | assumption); (case kd => ktr_room); (case ku => ktr_units); (intro t9 h9 tk9 F9 N9); (try dsimp only); (try k_fold))
  refine wpAny_call ?_
  k_dflt cell_enter
  k_steps
  all_goals first
    | ((with_reducible refine hret _ news _ _ (retS ?_) (by assumption) (by first | assumption | exact news_drop (by assumption) (by intro p hp; simp [hp]))); first
        | (unfold substrOfN; first | exact (if_pos (by assumption)).symm | exact (if_neg (by assumption)).symm | rfl))

end Mine
-- part C5
namespace Mine
local macro_rules | `(tactic| walk_at "RPost") => `(tactic| dsimp only [RPost])
noncomputable def FindFrom (x y : Str) (p r : Int) : Prop :=
  (clampP p x.length ≤ r ∧ r < (x.length : Int) - y.length + 1 ∧ standsAt x y r = true) ∨ (r = -1 ∧ ∀ v, clampP p x.length ≤ v → v < (x.length : Int) - y.length + 1 → standsAt x y v = false)
noncomputable def FindBack (x y : Str) (p r : Int) : Prop :=
  (r ≤ min (clampP p x.length) ((x.length : Int) - y.length) ∧ 0 ≤ r ∧ standsAt x y r = true ∧ ∀ v, r < v → v ≤ min (clampP p x.length) ((x.length : Int) - y.length) → standsAt x y v = false) ∨ (r = -1 ∧ ∀ v, v ≤ min (clampP p x.length) ((x.length : Int) - y.length) → 0 ≤ v → standsAt x y v = false)
local macro_rules | `(tactic| walk_at $s:str) => `(tactic| k_extra $s)
theorem find_from_spec (w : World) (news : List (Addr × Obj)) (x y : Str) (hx : x.length ≤ 1000) (hy : y.length ≤ 1000) (p : Int) (t1 t2 t3 : Tok) : Spec w 4 136 [.str x t1, .str y t2, .int p t3] news (PInt news (fun r => FindFrom x y p r)) := by
  dsimp only [Spec]
  k_fill
  intros
  rename_i hret
  w_top off
  k_with_none
  k_with "exec For Name Call cons nil" => (k_here; (rename Fr _ _ _ _ => lF'); (with_reducible apply For_unrF); (case _F => with_unfolding_all exact lF'); (case hs => (intro _; with_unfolding_all rfl)))
  k_with "pyIter ref" => (k_extra "mine for")
  k_with "call ref" => (k_here; (with_reducible show wpAny _ _ (call (Value.ref 94) _) _ _ _); k_dflt (refine' Spec.useIR (clamp_place_spec2 _ _ _ _ (by omega) _ _) ?k1 ?k2 ?k3 ?k4 ?k5 ?kK ?kd ?ku ?_); (case k1 => k_asm); (case k2 => k_asm); (case k3 => k_asm); (case k4 => k_asm); (case k5 => k_asm); (case kK => first | exact rfl | assumption); (case kd => ktr_room); (case ku => ktr_units); (intro x9 t9 h9 tk9 P9 F9 N9); (obtain ⟨q9, r9, u9⟩ := P9); (try dsimp only); (try k_fold))
  k_with "call ref" => (k_here; (with_reducible show wpAny _ _ (call (Value.ref 129) _) _ _ _); k_dflt (refine' Spec.useB (stands_at_spec _ _ _ _ (by omega) (by omega) _ _ _ _) ?k1 ?k2 ?k3 ?k4 ?k5 ?kK ?kd ?ku ?_); (case k1 => k_asm); (case k2 => k_asm); (case k3 => k_asm); (case k4 => k_asm); (case k5 => k_asm); (case kK => first | exact rfl | assumption); (case kd => ktr_room); (case ku => ktr_units); (intro h9 tk9 F9 N9); (try dsimp only); (try k_fold))
  k_with "mine for" => (
    rename Fr _ _ _ _ => hF9
    rename News _ _ _ _ => hN9
    rename IsRange _ _ _ _ _ _ _ _ => hR9
    refine' range_at [Str.ofString "at"] (fun i => ∀ j : Nat, j < i → standsAt x y (clampP p x.length + j * 1) = false) rfl hR9 (small_one (by omega) (by omega) (by omega) (by omega)) (rangeSize_nat _ _) hF9 hN9 (by intro j hj; omega) (fun i t u h tk own hi hJ F N => ?_) (fun u h tk hJ F N => ?_)
    all_goals clear hF9 hN9 hR9)
  refine wpAny_call ?_
  k_dflt cell_enter
  k_steps
  all_goals first
    | ((with_reducible refine hret _ news _ _ (retI ?_) (by assumption) (by first | assumption | exact news_drop (by assumption) (by intro p hp; simp [hp]))); first
        | exact Or.inl ⟨by omega, by omega, by assumption⟩
        | exact Or.inr ⟨rfl, fun v h1 h2 => by have := hJ (v - clampP p x.length).toNat (by omega); rwa [show clampP p x.length + ((v - clampP p x.length).toNat : Int) * 1 = v by omega] at this⟩)
    | (refine REnd.intro (by assumption) (by assumption) (by first | exact fun p hp => hp | (intro p hp; simpa using hp)) (by repeat' first | exact same_base | refine same_step (by decide) ?_ | exact same_refl) ?_; first
        | (intro j hj; by_cases e9 : j = i
           · subst e9; (rename standsAt _ _ _ = false => hz9); exact (congrArg (standsAt x y) (by omega)).trans hz9
           · exact hJ j (by omega)))

theorem find_back_spec (w : World) (news : List (Addr × Obj)) (x y : Str) (hx : x.length ≤ 1000) (hy : y.length ≤ 1000) (p : Int) (t1 t2 t3 : Tok) : Spec w 4 143 [.str x t1, .str y t2, .int p t3] news (PInt news (fun r => FindBack x y p r)) := by
  dsimp only [Spec]
  k_fill
  intros
  rename_i hret
  w_top off
  k_with_none
  k_with "exec For Name Call cons nil" => (k_here; (rename Fr _ _ _ _ => lF'); (with_reducible apply For_unrF); (case _F => with_unfolding_all exact lF'); (case hs => (intro _; with_unfolding_all rfl)))
  k_with "pyIter ref" => (k_extra "mine for")
  k_with "call ref" => (k_here; (with_reducible show wpAny _ _ (call (Value.ref 94) _) _ _ _); k_dflt (refine' Spec.useIR (clamp_place_spec2 _ _ _ _ (by omega) _ _) ?k1 ?k2 ?k3 ?k4 ?k5 ?kK ?kd ?ku ?_); (case k1 => k_asm); (case k2 => k_asm); (case k3 => k_asm); (case k4 => k_asm); (case k5 => k_asm); (case kK => first | exact rfl | assumption); (case kd => ktr_room); (case ku => ktr_units); (intro x9 t9 h9 tk9 P9 F9 N9); (obtain ⟨q9, r9, u9⟩ := P9); (try dsimp only); (try k_fold))
  k_with "call ref" => (k_here; (with_reducible show wpAny _ _ (call (Value.ref 129) _) _ _ _); k_dflt (refine' Spec.useB (stands_at_spec _ _ _ _ (by omega) (by omega) _ _ _ _) ?k1 ?k2 ?k3 ?k4 ?k5 ?kK ?kd ?ku ?_); (case k1 => k_asm); (case k2 => k_asm); (case k3 => k_asm); (case k4 => k_asm); (case k5 => k_asm); (case kK => first | exact rfl | assumption); (case kd => ktr_room); (case ku => ktr_units); (intro h9 tk9 F9 N9); (try dsimp only); (try k_fold))
  k_with "mine for" => (
    rename Fr _ _ _ _ => hF9
    rename News _ _ _ _ => hN9
    rename IsRange _ _ _ _ _ _ _ _ => hR9
    refine' range_at [Str.ofString "at"] (fun i => ∀ j : Nat, j < i → standsAt x y (min (clampP p x.length) ((x.length : Int) - y.length) + j * -1) = false) rfl hR9 (small_down (by omega) (by omega) (by omega) (by omega)) (rangeSize_downNat _ _) hF9 hN9 (by intro j hj; omega) (fun i t u h tk own hi hJ F N => ?_) (fun u h tk hJ F N => ?_)
    all_goals clear hF9 hN9 hR9)
  refine wpAny_call ?_
  k_dflt cell_enter
  k_steps
  all_goals first
    | ((with_reducible refine hret _ news _ _ (retI ?_) (by assumption) (by first | assumption | exact news_drop (by assumption) (by intro p hp; simp [hp]))); first
        | exact Or.inl ⟨by omega, by omega, by assumption, fun v h1 h2 => by have := hJ (min (clampP p x.length) ((x.length : Int) - y.length) - v).toNat (by omega); rwa [show min (clampP p x.length) ((x.length : Int) - y.length) + ((min (clampP p x.length) ((x.length : Int) - y.length) - v).toNat : Int) * -1 = v by omega] at this⟩
        | exact Or.inr ⟨rfl, fun v h1 h2 => by have := hJ (min (clampP p x.length) ((x.length : Int) - y.length) - v).toNat (by omega); rwa [show min (clampP p x.length) ((x.length : Int) - y.length) + ((min (clampP p x.length) ((x.length : Int) - y.length) - v).toNat : Int) * -1 = v by omega] at this⟩)
    | (refine REnd.intro (by assumption) (by assumption) (by first | exact fun p hp => hp | (intro p hp; simpa using hp)) (by repeat' first | exact same_base | refine same_step (by decide) ?_ | exact same_refl) ?_; first
        | (intro j hj; by_cases e9 : j = i
           · subst e9; (rename standsAt _ _ _ = false => hz9); exact (congrArg (standsAt x y) (by omega)).trans hz9
           · exact hJ j (by omega)))

end Mine
-- part C6
namespace Mine
local macro_rules | `(tactic| walk_at "mine pad 0") => `(tactic| skip)
local macro_rules | `(tactic| walk_at "RPost") => `(tactic| dsimp only [RPost])
noncomputable def OrderOf (x y : Str) (r : Int) : Prop :=
  (∃ k : Nat, k < x.length ∧ k < y.length ∧ (∀ j : Nat, j < k → x.cps.getD j 0 = y.cps.getD j 0) ∧ x.cps.getD k 0 ≠ y.cps.getD k 0 ∧ r = if x.cps.getD k 0 < y.cps.getD k 0 then -1 else 1) ∨
  ((∀ j : Nat, j < x.length → j < y.length → x.cps.getD j 0 = y.cps.getD j 0) ∧ r = if x.length = y.length then 0 else if x.length < y.length then -1 else 1)
local macro_rules | `(tactic| walk_at $s:str) => `(tactic| k_extra $s)
theorem order_of_spec (w : World) (news : List (Addr × Obj)) (x y : Str) (hx : x.length ≤ 1000) (hy : y.length ≤ 1000) (t1 t2 : Tok) : Spec w 2 178 [.str x t1, .str y t2] news (PInt news (fun r => OrderOf x y r)) := by
  dsimp only [Spec]
  k_fill
  intros
  rename_i hret
  w_top off
  k_with_none
  k_with "exec For Name Call cons nil" => (k_here; (rename Fr _ _ _ _ => lF'); (with_reducible apply For_unrF); (case _F => with_unfolding_all exact lF'); (case hs => (intro _; with_unfolding_all rfl)))
  k_with "pyIter ref" => (k_extra "mine for")
  k_with "mine for" => (
    rename Fr _ _ _ _ => hF9
    rename News _ _ _ _ => hN9
    rename IsRange _ _ _ _ _ _ _ _ => hR9
    refine' range_at [Str.ofString "at"] (fun i => ∀ j : Nat, j < i → x.cps.getD j 0 = y.cps.getD j 0) rfl hR9 (small_one (by omega) (by omega) (by omega) (by omega)) (rangeSize_nat _ _) hF9 hN9 (by intro j hj; omega) (fun i t u h tk own hi hJ F N => ?_) (fun u h tk hJ F N => ?_)
    all_goals clear hF9 hN9 hR9)
  refine wpAny_call ?_
  k_dflt cell_enter
  k_steps
  all_goals first
    | ((with_reducible refine hret _ news _ _ (retI ?_) (by assumption) (by first | assumption | exact news_drop (by assumption) (by intro p hp; simp [hp]))); first
        | exact Or.inl ⟨i, by omega, by omega, hJ, items_ne (a := 0 + (i : Int) * 1) (by omega) (by omega) (by omega) (by assumption), by
            (have e1 : (Txt.item x (0 + (i : Int) * 1)).cps.getD 0 0 = x.cps.getD i 0 := item_code (by omega) (by omega))
            (have e2 : (Txt.item y (0 + (i : Int) * 1)).cps.getD 0 0 = y.cps.getD i 0 := item_code (by omega) (by omega))
            rw [← e1, ← e2]
            first | (rw [if_pos (by omega)]) | (rw [if_neg (by omega)])⟩
        | exact Or.inr ⟨fun j h1 h2 => hJ j (by omega), by first | (rw [if_pos (by omega)]) | (rw [if_neg (by omega), if_pos (by omega)]) | (rw [if_neg (by omega), if_neg (by omega)])⟩)
    | (refine REnd.intro (by assumption) (by assumption) (by first | exact fun p hp => hp | (intro p hp; simpa using hp)) (by repeat' first | exact same_base | refine same_step (by decide) ?_ | exact same_refl) ?_; first
        | (intro j hj; by_cases e9 : j = i
           · subst e9; (rename (_ != _) = false => hz9); exact items_eq (by omega) (by omega) (by omega) hz9
           · exact hJ j (by omega)))

end Mine
-- part C9
namespace Mine
local macro_rules | `(tactic| walk_at $s:str) => `(tactic| k_extra $s)
theorem text_from_spec (w : World) (news : List (Addr × Obj)) (l : Addr) (us : List Value) (ns : List Int) (ep : Nat) (hm : (l, W.listOf us.toArray ep) ∈ news) (hi : IntsAre us ns) (hn : ns.length ≤ 1000) (hb : ∀ n ∈ ns, 0 ≤ n ∧ n < 70000) : Spec w 2 183 [.ref l] news (PStr news (fun r => r = Txt.join (Str.ofString "") (ns.map chrS))) := by
  dsimp only [Spec]
  k_fill
  intros
  rename_i hret
  w_top off
  k_with_none
  k_with "eval ListComp" => (k_here; k_dflt (refine LCg.ListComp_U (F₀ := by k_asm) (by with_unfolding_all rfl) (by decide) (by rfl) (by decide) (by rfl) ?_))
  k_with "CompSrc" => (k_extra "mine src")
  k_with "CompEnd" => (k_extra "mine compend")
  k_with "call builtin:str.join" => (k_extra "mine join")
  have hus := hi.length
  k_with "mine src" => (
    rename Fr _ _ _ _ => hF9
    rename News _ _ _ _ => hN9
    refine' LCg.CompSrc.ledger rfl hF9 hN9 hm (by rw [List.size_toArray, sizeLine_eq]; omega) (fun g => comp_same (fun i ys => StrsAre ys ((ns.take i).map chrS)) StrsAre.nil (fun i v ys I oI C oC D m₂ h tk E' hi9 hP hJ hC hx F N off ne => ?_) (fun ys hJ => ?_))
    (try (obtain ⟨k, t, hk, hv⟩ := ints_get hi hP))
    (try rw [hv] at hx)
    (try (have hkb := hb k (List.mem_of_getElem? hk)))
    all_goals clear hF9 hN9)
  k_with "mine compend" => (
    refine' LCg.CompEnd.intro (by assumption) (by assumption) _ (fun p hp => hp) (by assumption) (Or.inr ⟨_, hm, rfl, _, rfl⟩) ⟨rfl, strs_next' hk hJ rfl⟩)
  k_with "mine join" => (
    rename News _ _ _ _ => hN9
    refine' join_listW (ys := ns.map chrS) (News.isList hN9 (List.Mem.head _)) (strs_all' (by rw [List.size_toArray]; exact hus) hJ) (by decide) (weight3' chrS_len hn) (fun t' k => ?_))
  refine wpAny_call ?_
  k_dflt cell_enter
  k_steps
  all_goals first
    | ((with_reducible refine hret _ news _ _ (retS ?_) (by assumption) (by first | assumption | exact news_drop (by assumption) (by intro p hp; simp [hp]))); first
        | rfl)

end Mine
-- part C10
namespace Mine
theorem stands_self (x : Str) : standsAt x x 0 = true := by
  unfold standsAt
  rw [slice_whole rfl (by omega)]; exact beq_self_eq_true x
theorem stands_self_spec (w : World) (news : List (Addr × Obj)) (x : Str) (hx : x.length ≤ 1000) (t1 t2 t3 : Tok) : Spec w 2 129 [.str x t1, .str x t2, .int 0 t3] news (PBool news (fun r => r = true)) := by
  have h := stands_at_spec w news x x hx hx 0 t1 t2 t3
  rw [stands_self x] at h
  exact h
local macro_rules | `(tactic| walk_at "WhlIf") => `(tactic| first | (exfalso; omega) | refine WhlIf.yes (decide_eq_true (by omega)) ?_ | refine WhlIf.no (decide_eq_false (by omega)) ?_)
local macro_rules | `(tactic| walk_at $s:str) => `(tactic| k_extra $s)
theorem split_same_spec (w : World) (news : List (Addr × Obj)) (x : Str) (hx0 : 1 ≤ x.length) (hx : x.length ≤ 1000) (t1 t2 t3 : Tok) : Spec w 4 150 [.str x t1, .str x t2, .int 9 t3] news (PStrs news [Str.ofString "", Str.ofString ""]) := by
  dsimp only [Spec]
  k_fill
  intros
  rename_i hret
  w_top off
  k_with_none
  k_with "call ref" => (k_here; (with_reducible show wpAny _ _ (call (Value.ref 129) _) _ _ _); k_dflt (refine' Spec.useB (stands_at_spec _ _ _ _ (by first | omega | decide) (by first | omega | decide) _ _ _ _) ?k1 ?k2 ?k3 ?k4 ?k5 ?kK ?kd ?ku ?_); (case k1 => k_asm); (case k2 => k_asm); (case k3 => k_asm); (case k4 => k_asm); (case k5 => k_asm); (case kK => first | exact rfl | assumption); (case kd => ktr_room); (case ku => ktr_units); (intro h9 tk9 F9 N9); (try dsimp only); (try k_fold))
  k_with "call ref" => (k_here; (with_reducible show wpAny _ _ (call (Value.ref 129) _) _ _ _); k_dflt (refine' Spec.useB (stands_self_spec _ _ _ (by first | omega | decide) _ _ _) ?k1 ?k2 ?k3 ?k4 ?k5 ?kK ?kd ?ku ?_); (case k1 => k_asm); (case k2 => k_asm); (case k3 => k_asm); (case k4 => k_asm); (case k5 => k_asm); (case kK => first | exact rfl | assumption); (case kd => ktr_room); (case ku => ktr_units); (intro h9 tk9 F9 N9); (try dsimp only); (try k_fold))
  k_with "exec While Compare cons nil" => (k_here; k_dflt (refine whl_start 100 ?_))
  refine wpAny_call ?_
  k_dflt cell_enter
  k_steps
  all_goals first
    | ((rename (_ == _) = true => hq9); rw [eq_of_beq hq9] at hx0; exact absurd hx0 (by decide))
    | (exfalso; omega)
    | ((refine hret _ _ _ _ ⟨_, _, _, rfl, rfl, ?_, (by assumption)⟩ (by assumption) (news_drop (by assumption) (by intro p hp; first | exact hp | exact List.mem_cons_of_mem _ hp))); exact strs_two (slice_none' (by omega) (by omega)) (slice_rest' (by omega)))

theorem split_lit_spec (w : World) (news : List (Addr × Obj)) (t1 t2 t3 : Tok) : Spec w 4 150 [.str (Str.ofString "a,b,c") t1, .str (Str.ofString ",") t2, .int 2 t3] news (PStrs news [Str.ofString "a", Str.ofString "b"]) := by
  dsimp only [Spec]
  k_fill
  intros
  rename_i hret
  w_top off
  k_with_none
  k_with "call ref" => (k_here; (with_reducible show wpAny _ _ (call (Value.ref 129) _) _ _ _); k_dflt (refine' Spec.useB (stands_at_spec _ _ _ _ (by first | omega | decide) (by first | omega | decide) _ _ _ _) ?k1 ?k2 ?k3 ?k4 ?k5 ?kK ?kd ?ku ?_); (case k1 => k_asm); (case k2 => k_asm); (case k3 => k_asm); (case k4 => k_asm); (case k5 => k_asm); (case kK => first | exact rfl | assumption); (case kd => ktr_room); (case ku => ktr_units); (intro h9 tk9 F9 N9); (try dsimp only); (try k_fold))
  k_with "call ref" => (k_here; (with_reducible show wpAny _ _ (call (Value.ref 129) _) _ _ _); k_dflt (refine' Spec.useB (stands_self_spec _ _ _ (by first | omega | decide) _ _ _) ?k1 ?k2 ?k3 ?k4 ?k5 ?kK ?kd ?ku ?_); (case k1 => k_asm); (case k2 => k_asm); (case k3 => k_asm); (case k4 => k_asm); (case k5 => k_asm); (case kK => first | exact rfl | assumption); (case kd => ktr_room); (case ku => ktr_units); (intro h9 tk9 F9 N9); (try dsimp only); (try k_fold))
  k_with "exec While Compare cons nil" => (k_here; k_dflt (refine whl_start 100 ?_))
  refine wpAny_call ?_
  k_dflt cell_enter
  k_steps
  all_goals first
    | ((rename (_ == _) = true => hq9); rw [eq_of_beq hq9] at hx0; exact absurd hx0 (by decide))
    | (exfalso; omega)
    | ((refine hret _ _ _ _ ⟨_, _, _, rfl, rfl, ?_, (by assumption)⟩ (by assumption) (news_drop (by assumption) (by intro p hp; first | exact hp | exact List.mem_cons_of_mem _ hp))); exact strs_two rfl rfl)

theorem split_none_spec (w : World) (news : List (Addr × Obj)) (x : Str) (t1 t2 t3 : Tok) : Spec w 4 150 [.str x t1, .str (Str.ofString "") t2, .int 0 t3] news (PStrs news []) := by
  dsimp only [Spec]
  k_fill
  intros
  rename_i hret
  w_top off
  k_with_none
  k_with "call ref" => (k_here; (with_reducible show wpAny _ _ (call (Value.ref 129) _) _ _ _); k_dflt (refine' Spec.useB (stands_at_spec _ _ _ _ (by first | omega | decide) (by first | omega | decide) _ _ _ _) ?k1 ?k2 ?k3 ?k4 ?k5 ?kK ?kd ?ku ?_); (case k1 => k_asm); (case k2 => k_asm); (case k3 => k_asm); (case k4 => k_asm); (case k5 => k_asm); (case kK => first | exact rfl | assumption); (case kd => ktr_room); (case ku => ktr_units); (intro h9 tk9 F9 N9); (try dsimp only); (try k_fold))
  k_with "call ref" => (k_here; (with_reducible show wpAny _ _ (call (Value.ref 129) _) _ _ _); k_dflt (refine' Spec.useB (stands_self_spec _ _ _ (by first | omega | decide) _ _ _) ?k1 ?k2 ?k3 ?k4 ?k5 ?kK ?kd ?ku ?_); (case k1 => k_asm); (case k2 => k_asm); (case k3 => k_asm); (case k4 => k_asm); (case k5 => k_asm); (case kK => first | exact rfl | assumption); (case kd => ktr_room); (case ku => ktr_units); (intro h9 tk9 F9 N9); (try dsimp only); (try k_fold))
  k_with "exec While Compare cons nil" => (k_here; k_dflt (refine whl_start 100 ?_))
  refine wpAny_call ?_
  k_dflt cell_enter
  k_steps
  all_goals first
    | ((rename (_ == _) = true => hq9); rw [eq_of_beq hq9] at hx0; exact absurd hx0 (by decide))
    | (exfalso; omega)
    | ((refine hret _ _ _ _ ⟨_, _, _, rfl, rfl, ?_, (by assumption)⟩ (by assumption) (news_drop (by assumption) (by intro p hp; first | exact hp | exact List.mem_cons_of_mem _ hp))); exact StrsAre.nil)

end Mine
-- part C11
namespace Mine
local macro_rules | `(tactic| walk_at $s:str) => `(tactic| k_extra $s)
theorem filled_lit_spec (w : World) (news : List (Addr × Obj)) (t1 t2 t3 t4 : Tok) : Spec w 2 171 [.str (Str.ofString "<$&>") t1, .str (Str.ofString "xyz") t2, .int 1 t3, .int 1 t4] news (PStr news (fun r => r = Str.ofString "<y>")) := by
  dsimp only [Spec]
  k_fill
  intros
  rename_i hret
  w_top off
  k_with_none
  k_with "exec While Compare cons nil" => (k_here; k_dflt (refine whl_start 100 ?_))
  refine wpAny_call ?_
  k_dflt cell_enter
  k_steps
  all_goals first
    | ((with_reducible refine hret _ news _ _ (retS ?_) (by assumption) (by first | assumption | exact news_drop (by assumption) (by intro p hp; simp [hp]))); first
        | rfl
        | decide)
    | (exfalso; (rename _ ∨ _ => hz9); exact absurd hz9 (by decide))

theorem filled_d_spec (w : World) (news : List (Addr × Obj)) (x : Str) (m : Int) (t1 t2 t3 t4 : Tok) : Spec w 2 171 [.str (Str.ofString "$") t1, .str x t2, .int 0 t3, .int m t4] news (PStr news (fun r => r = Str.ofString "$")) := by
  dsimp only [Spec]
  k_fill
  intros
  rename_i hret
  w_top off
  k_with_none
  k_with "exec While Compare cons nil" => (k_here; k_dflt (refine whl_start 100 ?_))
  refine wpAny_call ?_
  k_dflt cell_enter
  k_steps
  all_goals first
    | ((with_reducible refine hret _ news _ _ (retS ?_) (by assumption) (by first | assumption | exact news_drop (by assumption) (by intro p hp; simp [hp]))); first
        | rfl
        | decide)
    | (exfalso; (rename _ ∨ _ => hz9); exact absurd hz9 (by decide))

theorem filled_e_spec (w : World) (news : List (Addr × Obj)) (x : Str) (t1 t2 t3 t4 : Tok) : Spec w 2 171 [.str (Str.ofString "") t1, .str x t2, .int 0 t3, .int 0 t4] news (PStr news (fun r => r = Str.ofString "")) := by
  dsimp only [Spec]
  k_fill
  intros
  rename_i hret
  w_top off
  k_with_none
  k_with "exec While Compare cons nil" => (k_here; k_dflt (refine whl_start 100 ?_))
  refine wpAny_call ?_
  k_dflt cell_enter
  k_steps
  all_goals first
    | ((with_reducible refine hret _ news _ _ (retS ?_) (by assumption) (by first | assumption | exact news_drop (by assumption) (by intro p hp; simp [hp]))); first
        | rfl
        | decide)
    | (exfalso; (rename _ ∨ _ => hz9); exact absurd hz9 (by decide))

theorem filled_w_spec (w : World) (news : List (Addr × Obj)) (x : Str) (hx : x.length ≤ 1000) (m : Int) (hm : m = x.length) (t1 t2 t3 t4 : Tok) : Spec w 2 171 [.str (Str.ofString "$&") t1, .str x t2, .int 0 t3, .int m t4] news (PStr news (fun r => r = x)) := by
  dsimp only [Spec]
  k_fill
  intros
  rename_i hret
  w_top off
  k_with_none
  k_with "exec While Compare cons nil" => (k_here; k_dflt (refine whl_start 100 ?_))
  refine wpAny_call ?_
  k_dflt cell_enter
  k_steps
  all_goals first
    | ((with_reducible refine hret _ news _ _ (retS ?_) (by assumption) (by first | assumption | exact news_drop (by assumption) (by intro p hp; simp [hp]))); first
        | rfl
        | decide
        | (rw [slice_whole rfl (by omega)]; exact join_one x))
    | (exfalso; (rename _ ∨ _ => hz9); exact absurd hz9 (by decide))

end Mine
-- part C17
namespace Mine
local macro_rules | `(tactic| walk_at "mine pad 0") => `(tactic| skip)
theorem join_single (x : Str) : Txt.join (Str.ofString "") [x] = x := join_one x
theorem low_one {c : Int} (h0 : 0 ≤ c) : lowText ⟨#[c.toNat]⟩ = (pairOf c).1 := by
  show Txt.join (Str.ofString "") [lowSign ((c.toNat : Nat) : Int)] = _
  rw [join_one, Int.toNat_of_nonneg h0, low_is h0]
theorem high_one {c : Int} (h0 : 0 ≤ c) : highText ⟨#[c.toNat]⟩ = (pairOf c).2 := by
  show Txt.join (Str.ofString "") [highSign ((c.toNat : Nat) : Int)] = _
  rw [join_one, Int.toNat_of_nonneg h0, high_is h0]
theorem low_one_spec (w : World) (news : List (Addr × Obj)) (c : Int) (h0 : 0 ≤ c) (h1 : c < 65536) (t1 : Tok) : Spec w 4 64 [.str ⟨#[c.toNat]⟩ t1] news (PStr news (fun r => r = (pairOf c).1)) := by
  have := lowered_text_spec w news ⟨#[c.toNat]⟩ (by show (1 : Nat) ≤ 1000; decide) (by intro k hk; rw [List.mem_singleton.mp hk]; omega) t1
  rwa [low_one h0] at this
theorem high_one_spec (w : World) (news : List (Addr × Obj)) (c : Int) (h0 : 0 ≤ c) (h1 : c < 65536) (t1 : Tok) : Spec w 4 71 [.str ⟨#[c.toNat]⟩ t1] news (PStr news (fun r => r = (pairOf c).2)) := by
  have := raised_text_spec w news ⟨#[c.toNat]⟩ (by show (1 : Nat) ≤ 1000; decide) (by intro k hk; rw [List.mem_singleton.mp hk]; omega) t1
  rwa [high_one h0] at this
theorem blank_one_spec (w : World) (news : List (Addr × Obj)) (c : Int) (h0 : 0 ≤ c) (tc : Tok) : Spec w 4 157 [.str ⟨#[c.toNat]⟩ tc] news (PBool news (fun x => x = lawBlanks.contains c)) := by
  have := is_blank_spec w news c.toNat tc
  rwa [Int.toNat_of_nonneg h0, blank_is] at this







theorem contains_any (c : Int) : (lawBlanks.contains c == lawBlanks.any fun x => x == c) = true := by
  have : lawBlanks.contains c = lawBlanks.any fun x => x == c := by
    rw [List.contains_eq_any_beq]
    congr 1
    funext x
    rw [Bool.eq_iff_iff]; simp only [beq_iff_eq]; exact eq_comm
  rw [this]; simp
local macro_rules | `(tactic| walk_at $s:str) => `(tactic| k_extra $s)
theorem law_sign_right_spec (w : World) (news : List (Addr × Obj)) (c : Int) (h0 : 0 ≤ c) (h1 : c < 65536) (tc : Tok) : Spec w 6 223 [.int c tc] news (PBool news (fun x => x = true)) := by
  dsimp only [Spec]
  k_fill
  intros
  rename_i hret
  w_top off
  k_with_none
  k_with "call ref" => (k_here; (with_reducible show wpAny _ _ (call (Value.ref 64) _) _ _ _); k_dflt (refine' Spec.useS (low_one_spec _ _ _ (by assumption) (by assumption) _) ?k1 ?k2 ?k3 ?k4 ?k5 ?kK ?kd ?ku ?_); (case k1 => k_asm); (case k2 => k_asm); (case k3 => k_asm); (case k4 => k_asm); (case k5 => k_asm); (case kK => first | exact rfl | assumption); (case kd => ktr_room); (case ku => ktr_units); (intro t9 h9 tk9 F9 N9); (try dsimp only); (try k_fold))
  k_with "call ref" => (k_here; (with_reducible show wpAny _ _ (call (Value.ref 71) _) _ _ _); k_dflt (refine' Spec.useS (high_one_spec _ _ _ (by assumption) (by assumption) _) ?k1 ?k2 ?k3 ?k4 ?k5 ?kK ?kd ?ku ?_); (case k1 => k_asm); (case k2 => k_asm); (case k3 => k_asm); (case k4 => k_asm); (case k5 => k_asm); (case kK => first | exact rfl | assumption); (case kd => ktr_room); (case ku => ktr_units); (intro t9 h9 tk9 F9 N9); (try dsimp only); (try k_fold))
  k_with "call ref" => (k_here; (with_reducible show wpAny _ _ (call (Value.ref 157) _) _ _ _); k_dflt (refine' Spec.useB (blank_one_spec _ _ _ (by assumption) _) ?k1 ?k2 ?k3 ?k4 ?k5 ?kK ?kd ?ku ?_); (case k1 => k_asm); (case k2 => k_asm); (case k3 => k_asm); (case k4 => k_asm); (case k5 => k_asm); (case kK => first | exact rfl | assumption); (case kd => ktr_room); (case ku => ktr_units); (intro h9 tk9 F9 N9); (try dsimp only); (try k_fold))
  k_with "call ref" => (k_here; (with_reducible show wpAny _ _ (call (Value.ref 50) _) _ _ _); k_dflt (refine' Spec.useI (small_code_spec _ _ _ _) ?k1 ?k2 ?k3 ?k4 ?k5 ?kK ?kd ?ku ?_); (case k1 => k_asm); (case k2 => k_asm); (case k3 => k_asm); (case k4 => k_asm); (case k5 => k_asm); (case kK => first | exact rfl | assumption); (case kd => ktr_room); (case ku => ktr_units); (intro t9 h9 tk9 F9 N9); (try dsimp only); (try k_fold))
  k_with "call ref" => (k_here; (with_reducible show wpAny _ _ (call (Value.ref 57) _) _ _ _); k_dflt (refine' Spec.useI (great_code_spec _ _ _ _) ?k1 ?k2 ?k3 ?k4 ?k5 ?kK ?kd ?ku ?_); (case k1 => k_asm); (case k2 => k_asm); (case k3 => k_asm); (case k4 => k_asm); (case k5 => k_asm); (case kK => first | exact rfl | assumption); (case kd => ktr_room); (case ku => ktr_units); (intro t9 h9 tk9 F9 N9); (try dsimp only); (try k_fold))
  k_with "call ref" => (k_extra "mine pair")
  k_with "call ref" => (k_extra "mine blanks")
  (have hq1 : (pairOf c).1.length ≤ 1000 := by rw [← low_is h0]; have := lowSign_len c; omega)
  (have hq2 : (pairOf c).2.length ≤ 1000 := by rw [← high_is h0]; have := highSign_len c; omega)
  k_with "mine pair" => (
    k_here
    (with_reducible show wpAny _ _ (call (Value.ref 195) _) _ _ _)
    k_dflt (refine' Spec.use (law_pair_spec _ _ c h0 h1 _) ?k1 ?k2 ?k3 ?k4 ?k5 ?kK ?kd ?ku ?_; (case k1 => k_asm); (case k2 => k_asm); (case k3 => k_asm); (case k4 => k_asm); (case k5 => k_asm); (case kK => first | exact rfl | assumption); (case kd => ktr_room); (case ku => ktr_units))
    rintro v9 nw9 h9 tk9 ⟨t8, u8, w8, n8, rfl, rfl⟩ F9 N9
    (try dsimp only)
    (try k_fold))
  k_with "mine blanks" => (
    k_here
    (with_reducible show wpAny _ _ (call (Value.ref 202) _) _ _ _)
    k_dflt (refine' Spec.use (law_blanks_spec _ _) ?k1 ?k2 ?k3 ?k4 ?k5 ?kK ?kd ?ku ?_; (case k1 => k_asm); (case k2 => k_asm); (case k3 => k_asm); (case k4 => k_asm); (case k5 => k_asm); (case kK => first | exact rfl | assumption); (case kd => ktr_room); (case ku => ktr_units))
    rintro v9 nw9 h9 tk9 ⟨a9, us9, n9, rfl, rfl, hI9, hlt9⟩ F9 N9
    (try dsimp only)
    (try k_fold))
  refine wpAny_call ?_
  k_dflt cell_enter
  k_steps
  all_goals first
    | (exfalso; first
        | (rename (_ != _) = true => q9; rw [bne_self_eq_false] at q9; exact Bool.noConfusion q9)
        | exact absurd (small_is h0 (by omega)) (by assumption)
        | exact absurd (great_is h0 (by omega)) (by assumption))
    | ((refine hret _ news _ _ (retB ?_) (by assumption) (news_drop (by assumption) (by intro p hp; repeat (first | exact hp | refine List.mem_cons_of_mem _ ?_)))); exact contains_any c)

end Mine
-- part D2
namespace Mine
theorem len_app (x y : Str) : (x ++ y).length = x.length + y.length := by
  show (x ++ y).cps.size = x.cps.size + y.cps.size
  rw [Str.cps_append, Array.size_append]
theorem app_left (x y : Str) {k : Nat} (h : k < x.length) : (x ++ y).cps.getD k 0 = x.cps.getD k 0 := by
  have h' : k < x.cps.size := h
  rw [Str.cps_append]
  simp only [Array.getD_eq_getD_getElem?]
  rw [Array.getElem?_append_left h']
theorem a_len : (Str.ofString "a").length = 1 := by decide
theorem b_len : (Str.ofString "b").length = 1 := by decide
theorem e_len : (Str.ofString "").length = 0 := by decide
theorem order_self {x : Str} {r : Int} (h : OrderOf x x r) : r = 0 := by
  rcases h with ⟨k, _, _, _, hne, _⟩ | ⟨_, e⟩
  · exact absurd rfl hne
  · rwa [if_pos rfl] at e
theorem order_more {x : Str} {r : Int} (h : OrderOf x (x ++ Str.ofString "a") r) : r = -1 := by
  have hl := len_app x (Str.ofString "a")
  rw [a_len] at hl
  rcases h with ⟨k, h1, _, _, hne, _⟩ | ⟨_, e⟩
  · exact absurd (app_left x _ h1).symm hne
  · rwa [if_neg (by omega), if_pos (by omega)] at e
theorem order_less {x : Str} {r : Int} (h : OrderOf (x ++ Str.ofString "a") x r) : r = 1 := by
  have hl := len_app x (Str.ofString "a")
  rw [a_len] at hl
  rcases h with ⟨k, _, h1, _, hne, _⟩ | ⟨_, e⟩
  · exact absurd (app_left x _ h1) hne
  · rwa [if_neg (by omega), if_neg (by omega)] at e
theorem b_at (x : Str) : (Str.ofString "b" ++ x).cps.getD 0 0 = 98 := by rw [app_left _ _ (by rw [b_len]; decide)]; decide
theorem a_at (x : Str) : (Str.ofString "a" ++ x).cps.getD 0 0 = 97 := by rw [app_left _ _ (by rw [a_len]; decide)]; decide
theorem order_ba {x : Str} {r : Int} (h : OrderOf (Str.ofString "b" ++ x) (Str.ofString "a" ++ x) r) : r = 1 := by
  have h1 := len_app (Str.ofString "b") x
  have h2 := len_app (Str.ofString "a") x
  rw [b_len] at h1
  rw [a_len] at h2
  rcases h with ⟨k, _, _, hj, _, e⟩ | ⟨hj, _⟩
  · rcases Nat.eq_zero_or_pos k with rfl | hk
    · rwa [b_at, a_at, if_neg (by decide)] at e
    · have := hj 0 hk; rw [b_at, a_at] at this; cases this
  · have := hj 0 (by omega) (by omega); rw [b_at, a_at] at this; cases this
theorem order_ab {x : Str} {r : Int} (h : OrderOf (Str.ofString "a" ++ x) (Str.ofString "b" ++ x) r) : r = -1 := by
  have h1 := len_app (Str.ofString "b") x
  have h2 := len_app (Str.ofString "a") x
  rw [b_len] at h1
  rw [a_len] at h2
  rcases h with ⟨k, _, _, hj, _, e⟩ | ⟨hj, _⟩
  · rcases Nat.eq_zero_or_pos k with rfl | hk
    · rwa [b_at, a_at, if_pos (by decide)] at e
    · have := hj 0 hk; rw [b_at, a_at] at this; cases this
  · have := hj 0 (by omega) (by omega); rw [b_at, a_at] at this; cases this
theorem stands_empty {x : Str} {v : Int} (h0 : 0 ≤ v) (h1 : v ≤ x.length) : standsAt x (Str.ofString "") v = true := by
  unfold standsAt
  rw [e_len, show v + ((0 : Nat) : Int) = v by omega, slice_none' h0 h1]
  exact beq_self_eq_true _
theorem ff_empty {x : Str} {p r : Int} (hp : p = x.length + 3) (h : FindFrom x (Str.ofString "") p r) : r = x.length := by
  unfold FindFrom clampP at h
  rw [e_len] at h
  rcases h with ⟨h1, h2, _⟩ | ⟨_, h2⟩
  · omega
  · have := h2 x.length (by omega) (by omega); rw [stands_empty (by omega) (by omega)] at this; cases this
theorem fb_empty {x : Str} {p r : Int} (hp : p = x.length + 3) (h : FindBack x (Str.ofString "") p r) : r = x.length := by
  unfold FindBack clampP at h
  rw [e_len] at h
  rcases h with ⟨h1, h2, _, h3⟩ | ⟨_, h2⟩
  · by_cases hr : r = x.length
    · exact hr
    · have := h3 x.length (by omega) (by omega); rw [stands_empty (by omega) (by omega)] at this; cases this
  · have := h2 x.length (by omega) (by omega); rw [stands_empty (by omega) (by omega)] at this; cases this
theorem fb_zero {x : Str} {p r : Int} (hp : p = -2) (h : FindBack x (Str.ofString "") p r) : r = 0 := by
  unfold FindBack clampP at h
  rw [e_len] at h
  rcases h with ⟨h1, h2, _, _⟩ | ⟨_, h2⟩
  · omega
  · have := h2 0 (by omega) (by omega); rw [stands_empty (by omega) (by omega)] at this; cases this
theorem stands_self' (x : Str) : standsAt x x 0 = true := by
  unfold standsAt
  rw [slice_whole rfl (by omega)]
  exact beq_self_eq_true _
theorem ff_self {x : Str} {p r : Int} (hp : p = 0) (h : FindFrom x x p r) : r = 0 := by
  unfold FindFrom clampP at h
  rcases h with ⟨h1, h2, _⟩ | ⟨_, h2⟩
  · omega
  · have := h2 0 (by omega) (by omega); rw [stands_self'] at this; cases this
theorem ff_more {x : Str} {p r : Int} (hp : p = 0) (h : FindFrom x (x ++ Str.ofString "a") p r) : r = -1 := by
  unfold FindFrom clampP at h
  rw [len_app, a_len] at h
  rcases h with ⟨h1, h2, _⟩ | ⟨e, _⟩
  · omega
  · exact e
theorem fb_more {x : Str} {p r : Int} (h : FindBack x (x ++ Str.ofString "a") p r) : r = -1 := by
  unfold FindBack clampP at h
  rw [len_app, a_len] at h
  rcases h with ⟨h1, h2, _⟩ | ⟨e, _⟩
  · omega
  · exact e
theorem slice_whole_is {x : Str} {p : Int} (hx : 1 ≤ x.length) (hp : p = 0 - x.length - 2) : sliceOfN x p = x := by
  have e : fee p x.length = 0 := by unfold fee; rw [if_pos (by omega)]; omega
  unfold sliceOfN
  rw [e, if_pos (by omega)]
  exact slice_whole rfl rfl
theorem slice_far_is {x : Str} {p q : Int} (hp : p = x.length) (hq : q = x.length + 1) : sliceOf x p q = Str.ofString "" := by
  have e : fee p x.length = x.length := by unfold fee; rw [if_neg (by omega)]; omega
  have e2 : fee q x.length = x.length := by unfold fee; rw [if_neg (by omega)]; omega
  unfold sliceOf
  rw [e, e2, if_neg (by omega)]
theorem slice_one_is {x : Str} {p : Int} : sliceOf x p p = Str.ofString "" := by
  unfold sliceOf
  rw [if_neg (by omega)]
theorem substring_is {x : Str} {p q : Int} (hp : p = x.length + 4) (hq : q = -3) : substringOf x p q = x := by
  have e : clampP p x.length = x.length := by unfold clampP; omega
  have e2 : clampP q x.length = 0 := by unfold clampP; omega
  unfold substringOf imin imax
  rw [e, e2]
  by_cases h : (x.length : Int) = 0
  · rw [h]; exact slice_whole (by simp) (by rw [h]; simp)
  · exact slice_whole (by rw [if_pos (by omega)]) (by rw [if_neg (by omega)])
theorem substr_is {x : Str} {p q : Int} (hx : 1 ≤ x.length) (hp : p = 0 - x.length) (hq : q = x.length) : substrOf x p q = x := by
  have e : fee p x.length = 0 := by unfold fee; rw [if_pos (by omega)]; omega
  have e2 : substrSize x p q = x.length := by
    unfold substrSize imin imax; rw [e]
    (repeat' split) <;> omega
  unfold substrOf
  rw [e, e2, if_pos (by omega)]
  exact slice_whole rfl (by omega)
theorem substr_neg_is {x : Str} {p q : Int} (hp : p = 0) (hq : q = -1) : substrOf x p q = Str.ofString "" := by
  have e : fee p x.length = 0 := by unfold fee; rw [if_neg (by omega)]; omega
  have e2 : substrSize x p q = 0 := by
    unfold substrSize imin imax; rw [e]
    (repeat' split) <;> omega
  unfold substrOf
  rw [e2, if_neg (by omega)]
theorem substr_far_is {x : Str} {p q : Int} (hp : p = x.length) (hq : q = 5) : substrOf x p q = Str.ofString "" := by
  have e : fee p x.length = x.length := by unfold fee; rw [if_neg (by omega)]; omega
  have e2 : substrSize x p q = 0 := by
    unfold substrSize imin imax; rw [e]
    (repeat' split) <;> omega
  unfold substrOf
  rw [e2, if_neg (by omega)]
theorem substrN_is {x : Str} {p : Int} (hx : 1 ≤ x.length) (hp : p = 0) : substrOfN x p = x := by
  have e : fee p x.length = 0 := by unfold fee; rw [if_neg (by omega)]; omega
  unfold substrOfN
  rw [e, if_pos (by omega)]
  exact slice_whole rfl (by omega)
end Mine
-- part C18
namespace Mine
theorem Spec.toI {w : World} {k : Nat} {f : Addr} {vs : List Value} {news : List (Addr × Obj)} {P : Int → Prop} {c : Int} (S : Spec w k f vs news (PInt news P)) (h : ∀ r, P r → r = c) : Spec w k f vs news (PInt news (fun r => r = c)) := by
  intro loose mean mg mb dp un gd cn cs a ccd cl outer A₀ base h₀ L m s Q E B F X N T hk hd hu ret
  refine S loose mean mg mb dp un gd cn cs a ccd cl outer A₀ base h₀ L m s Q E B F X N T hk hd hu ?_
  rintro v nw h' tk' ⟨e, x, t, e2, hx⟩
  exact ret v nw h' tk' ⟨e, x, t, e2, h x hx⟩
theorem Spec.toS {w : World} {k : Nat} {f : Addr} {vs : List Value} {news : List (Addr × Obj)} {y c : Str} (S : Spec w k f vs news (PStr news (fun r => r = y))) (h : y = c) : Spec w k f vs news (PStr news (fun r => r = c)) := h ▸ S
section
variable (w : World) (news : List (Addr × Obj)) (x : Str) (h0 : 1 ≤ x.length) (hx : x.length ≤ 3)
include hx
theorem xa_len : (x ++ Str.ofString "a").length ≤ 1000 := by rw [len_app, a_len]; omega
theorem ax_len : (Str.ofString "a" ++ x).length ≤ 1000 := by rw [len_app, a_len]; omega
theorem bx_len : (Str.ofString "b" ++ x).length ≤ 1000 := by rw [len_app, b_len]; omega
theorem x_len : x.length ≤ 1000 := by omega
theorem e_len' : (Str.ofString "").length ≤ 1000 := by rw [e_len]; decide
theorem eo1 (t1 t2 : Tok) : Spec w 2 178 [.str x t1, .str x t2] news (PInt news (fun r => r = 0)) := Spec.toI (order_of_spec w news x x (x_len x hx) (x_len x hx) t1 t2) fun r h => order_self h
theorem eo2 (t1 t2 : Tok) : Spec w 2 178 [.str x t1, .str (x ++ Str.ofString "a") t2] news (PInt news (fun r => r = -1)) := Spec.toI (order_of_spec w news x _ (x_len x hx) (xa_len x hx) t1 t2) fun r h => order_more h
theorem eo3 (t1 t2 : Tok) : Spec w 2 178 [.str (x ++ Str.ofString "a") t1, .str x t2] news (PInt news (fun r => r = 1)) := Spec.toI (order_of_spec w news _ x (xa_len x hx) (x_len x hx) t1 t2) fun r h => order_less h
theorem eo4 (t1 t2 : Tok) : Spec w 2 178 [.str (Str.ofString "b" ++ x) t1, .str (Str.ofString "a" ++ x) t2] news (PInt news (fun r => r = 1)) := Spec.toI (order_of_spec w news _ _ (bx_len x hx) (ax_len x hx) t1 t2) fun r h => order_ba h
theorem eo5 (t1 t2 : Tok) : Spec w 2 178 [.str (Str.ofString "a" ++ x) t1, .str (Str.ofString "b" ++ x) t2] news (PInt news (fun r => r = -1)) := Spec.toI (order_of_spec w news _ _ (ax_len x hx) (bx_len x hx) t1 t2) fun r h => order_ab h
theorem ef1 (p : Int) (hp : p = x.length + 3) (t1 t2 t3 : Tok) : Spec w 4 136 [.str x t1, .str (Str.ofString "") t2, .int p t3] news (PInt news (fun r => r = x.length)) := Spec.toI (find_from_spec w news x _ (x_len x hx) (e_len' x hx) p t1 t2 t3) fun r h => ff_empty hp h
theorem ef2 (p : Int) (hp : p = 0) (t1 t2 t3 : Tok) : Spec w 4 136 [.str x t1, .str x t2, .int p t3] news (PInt news (fun r => r = 0)) := Spec.toI (find_from_spec w news x _ (x_len x hx) (x_len x hx) p t1 t2 t3) fun r h => ff_self hp h
theorem ef3 (p : Int) (hp : p = 0) (t1 t2 t3 : Tok) : Spec w 4 136 [.str x t1, .str (x ++ Str.ofString "a") t2, .int p t3] news (PInt news (fun r => r = -1)) := Spec.toI (find_from_spec w news x _ (x_len x hx) (xa_len x hx) p t1 t2 t3) fun r h => ff_more hp h
theorem eb1 (p : Int) (hp : p = x.length + 3) (t1 t2 t3 : Tok) : Spec w 4 143 [.str x t1, .str (Str.ofString "") t2, .int p t3] news (PInt news (fun r => r = x.length)) := Spec.toI (find_back_spec w news x _ (x_len x hx) (e_len' x hx) p t1 t2 t3) fun r h => fb_empty hp h
theorem eb2 (p : Int) (hp : p = -2) (t1 t2 t3 : Tok) : Spec w 4 143 [.str x t1, .str (Str.ofString "") t2, .int p t3] news (PInt news (fun r => r = 0)) := Spec.toI (find_back_spec w news x _ (x_len x hx) (e_len' x hx) p t1 t2 t3) fun r h => fb_zero hp h
theorem eb3 (p : Int) (t1 t2 t3 : Tok) : Spec w 4 143 [.str x t1, .str (x ++ Str.ofString "a") t2, .int p t3] news (PInt news (fun r => r = -1)) := Spec.toI (find_back_spec w news x _ (x_len x hx) (xa_len x hx) p t1 t2 t3) fun r h => fb_more h
theorem es2 (p q : Int) (hp : p = x.length) (hq : q = x.length + 1) (t1 t2 t3 : Tok) : Spec w 4 108 [.str x t1, .int p t2, .int q t3] news (PStr news (fun r => r = Str.ofString "")) := Spec.toS (slice_of_spec w news x (x_len x hx) p q t1 t2 t3) (slice_far_is hp hq)
theorem es3 (p : Int) (t1 t2 t3 : Tok) : Spec w 4 108 [.str x t1, .int p t2, .int p t3] news (PStr news (fun r => r = Str.ofString "")) := Spec.toS (slice_of_spec w news x (x_len x hx) p p t1 t2 t3) slice_one_is
theorem eu1 (p q : Int) (hp : p = x.length + 4) (hq : q = -3) (t1 t2 t3 : Tok) : Spec w 4 115 [.str x t1, .int p t2, .int q t3] news (PStr news (fun r => r = x)) := Spec.toS (substring_of_spec w news x (x_len x hx) p q t1 t2 t3) (substring_is hp hq)
theorem ev2 (p q : Int) (hp : p = 0) (hq : q = -1) (t1 t2 t3 : Tok) : Spec w 4 122 [.str x t1, .int p t2, .int q t3] news (PStr news (fun r => r = Str.ofString "")) := Spec.toS (substr_of_spec w news x (x_len x hx) p q t1 t2 t3) (substr_neg_is hp hq)
theorem ev4 (p q : Int) (hp : p = x.length) (hq : q = 5) (t1 t2 t3 : Tok) : Spec w 4 122 [.str x t1, .int p t2, .int q t3] news (PStr news (fun r => r = Str.ofString "")) := Spec.toS (substr_of_spec w news x (x_len x hx) p q t1 t2 t3) (substr_far_is hp hq)
include h0
theorem es1 (p : Int) (hp : p = 0 - x.length - 2) (t1 t2 : Tok) : Spec w 4 108 [.str x t1, .int p t2, .none] news (PStr news (fun r => r = x)) := Spec.toS (slice_of_n_spec w news x (x_len x hx) p t1 t2) (slice_whole_is h0 hp)
theorem ev1 (p q : Int) (hp : p = 0 - x.length) (hq : q = x.length) (t1 t2 t3 : Tok) : Spec w 4 122 [.str x t1, .int p t2, .int q t3] news (PStr news (fun r => r = x)) := Spec.toS (substr_of_spec w news x (x_len x hx) p q t1 t2 t3) (substr_is h0 hp hq)
theorem ev3 (p : Int) (hp : p = 0) (t1 t2 : Tok) : Spec w 4 122 [.str x t1, .int p t2, .none] news (PStr news (fun r => r = x)) := Spec.toS (substr_of_n_spec w news x (x_len x hx) p t1 t2) (substrN_is h0 hp)
theorem el1 (t1 t2 t3 : Tok) : Spec w 4 150 [.str x t1, .str x t2, .int 9 t3] news (PStrs news [Str.ofString "", Str.ofString ""]) := split_same_spec w news x h0 (x_len x hx) t1 t2 t3
end
local macro_rules | `(tactic| walk_at $s:str) => `(tactic| k_extra $s)
theorem law_ends_right_spec (w : World) (news : List (Addr × Obj)) (x : Str) (h0 : 1 ≤ x.length) (hx : x.length ≤ 3) (t1 : Tok) : Spec w 12 230 [.str x t1] news (PBool news (fun r => r = true)) := by
  dsimp only [Spec]
  k_fill
  intros
  rename_i hret
  w_top off
  k_with_none
  k_with "call ref" => (k_here; (with_reducible show wpAny _ _ (call (Value.ref 178) _) _ _ _); k_dflt (refine' Spec.useI (eo1 _ _ _ (by assumption) _ _) ?k1 ?k2 ?k3 ?k4 ?k5 ?kK ?kd ?ku ?_); (case k1 => k_asm); (case k2 => k_asm); (case k3 => k_asm); (case k4 => k_asm); (case k5 => k_asm); (case kK => first | exact rfl | assumption); (case kd => ktr_room); (case ku => ktr_units); (intro t9 h9 tk9 F9 N9); (try dsimp only); (try k_fold))
  k_with "call ref" => (k_here; (with_reducible show wpAny _ _ (call (Value.ref 178) _) _ _ _); k_dflt (refine' Spec.useI (eo2 _ _ _ (by assumption) _ _) ?k1 ?k2 ?k3 ?k4 ?k5 ?kK ?kd ?ku ?_); (case k1 => k_asm); (case k2 => k_asm); (case k3 => k_asm); (case k4 => k_asm); (case k5 => k_asm); (case kK => first | exact rfl | assumption); (case kd => ktr_room); (case ku => ktr_units); (intro t9 h9 tk9 F9 N9); (try dsimp only); (try k_fold))
  k_with "call ref" => (k_here; (with_reducible show wpAny _ _ (call (Value.ref 178) _) _ _ _); k_dflt (refine' Spec.useI (eo3 _ _ _ (by assumption) _ _) ?k1 ?k2 ?k3 ?k4 ?k5 ?kK ?kd ?ku ?_); (case k1 => k_asm); (case k2 => k_asm); (case k3 => k_asm); (case k4 => k_asm); (case k5 => k_asm); (case kK => first | exact rfl | assumption); (case kd => ktr_room); (case ku => ktr_units); (intro t9 h9 tk9 F9 N9); (try dsimp only); (try k_fold))
  k_with "call ref" => (k_here; (with_reducible show wpAny _ _ (call (Value.ref 178) _) _ _ _); k_dflt (refine' Spec.useI (eo4 _ _ _ (by assumption) _ _) ?k1 ?k2 ?k3 ?k4 ?k5 ?kK ?kd ?ku ?_); (case k1 => k_asm); (case k2 => k_asm); (case k3 => k_asm); (case k4 => k_asm); (case k5 => k_asm); (case kK => first | exact rfl | assumption); (case kd => ktr_room); (case ku => ktr_units); (intro t9 h9 tk9 F9 N9); (try dsimp only); (try k_fold))
  k_with "call ref" => (k_here; (with_reducible show wpAny _ _ (call (Value.ref 178) _) _ _ _); k_dflt (refine' Spec.useI (eo5 _ _ _ (by assumption) _ _) ?k1 ?k2 ?k3 ?k4 ?k5 ?kK ?kd ?ku ?_); (case k1 => k_asm); (case k2 => k_asm); (case k3 => k_asm); (case k4 => k_asm); (case k5 => k_asm); (case kK => first | exact rfl | assumption); (case kd => ktr_room); (case ku => ktr_units); (intro t9 h9 tk9 F9 N9); (try dsimp only); (try k_fold))
  k_with "call ref" => (k_here; (with_reducible show wpAny _ _ (call (Value.ref 136) _) _ _ _); k_dflt (refine' Spec.useI (ef1 _ _ _ (by assumption) _ (by omega) _ _ _) ?k1 ?k2 ?k3 ?k4 ?k5 ?kK ?kd ?ku ?_); (case k1 => k_asm); (case k2 => k_asm); (case k3 => k_asm); (case k4 => k_asm); (case k5 => k_asm); (case kK => first | exact rfl | assumption); (case kd => ktr_room); (case ku => ktr_units); (intro t9 h9 tk9 F9 N9); (try dsimp only); (try k_fold))
  k_with "call ref" => (k_here; (with_reducible show wpAny _ _ (call (Value.ref 136) _) _ _ _); k_dflt (refine' Spec.useI (ef2 _ _ _ (by assumption) _ (by omega) _ _ _) ?k1 ?k2 ?k3 ?k4 ?k5 ?kK ?kd ?ku ?_); (case k1 => k_asm); (case k2 => k_asm); (case k3 => k_asm); (case k4 => k_asm); (case k5 => k_asm); (case kK => first | exact rfl | assumption); (case kd => ktr_room); (case ku => ktr_units); (intro t9 h9 tk9 F9 N9); (try dsimp only); (try k_fold))
  k_with "call ref" => (k_here; (with_reducible show wpAny _ _ (call (Value.ref 136) _) _ _ _); k_dflt (refine' Spec.useI (ef3 _ _ _ (by assumption) _ (by omega) _ _ _) ?k1 ?k2 ?k3 ?k4 ?k5 ?kK ?kd ?ku ?_); (case k1 => k_asm); (case k2 => k_asm); (case k3 => k_asm); (case k4 => k_asm); (case k5 => k_asm); (case kK => first | exact rfl | assumption); (case kd => ktr_room); (case ku => ktr_units); (intro t9 h9 tk9 F9 N9); (try dsimp only); (try k_fold))
  k_with "call ref" => (k_here; (with_reducible show wpAny _ _ (call (Value.ref 143) _) _ _ _); k_dflt (refine' Spec.useI (eb1 _ _ _ (by assumption) _ (by omega) _ _ _) ?k1 ?k2 ?k3 ?k4 ?k5 ?kK ?kd ?ku ?_); (case k1 => k_asm); (case k2 => k_asm); (case k3 => k_asm); (case k4 => k_asm); (case k5 => k_asm); (case kK => first | exact rfl | assumption); (case kd => ktr_room); (case ku => ktr_units); (intro t9 h9 tk9 F9 N9); (try dsimp only); (try k_fold))
  k_with "call ref" => (k_here; (with_reducible show wpAny _ _ (call (Value.ref 143) _) _ _ _); k_dflt (refine' Spec.useI (eb2 _ _ _ (by assumption) _ (by omega) _ _ _) ?k1 ?k2 ?k3 ?k4 ?k5 ?kK ?kd ?ku ?_); (case k1 => k_asm); (case k2 => k_asm); (case k3 => k_asm); (case k4 => k_asm); (case k5 => k_asm); (case kK => first | exact rfl | assumption); (case kd => ktr_room); (case ku => ktr_units); (intro t9 h9 tk9 F9 N9); (try dsimp only); (try k_fold))
  k_with "call ref" => (k_here; (with_reducible show wpAny _ _ (call (Value.ref 143) _) _ _ _); k_dflt (refine' Spec.useI (eb3 _ _ _ (by assumption) _ _ _ _) ?k1 ?k2 ?k3 ?k4 ?k5 ?kK ?kd ?ku ?_); (case k1 => k_asm); (case k2 => k_asm); (case k3 => k_asm); (case k4 => k_asm); (case k5 => k_asm); (case kK => first | exact rfl | assumption); (case kd => ktr_room); (case ku => ktr_units); (intro t9 h9 tk9 F9 N9); (try dsimp only); (try k_fold))
  k_with "call ref" => (k_here; (with_reducible show wpAny _ _ (call (Value.ref 108) _) _ _ _); k_dflt (refine' Spec.useS (es1 _ _ _ (by assumption) (by assumption) _ (by omega) _ _) ?k1 ?k2 ?k3 ?k4 ?k5 ?kK ?kd ?ku ?_); (case k1 => k_asm); (case k2 => k_asm); (case k3 => k_asm); (case k4 => k_asm); (case k5 => k_asm); (case kK => first | exact rfl | assumption); (case kd => ktr_room); (case ku => ktr_units); (intro t9 h9 tk9 F9 N9); (try dsimp only); (try k_fold))
  k_with "call ref" => (k_here; (with_reducible show wpAny _ _ (call (Value.ref 108) _) _ _ _); k_dflt (refine' Spec.useS (es2 _ _ _ (by assumption) _ _ (by omega) (by omega) _ _ _) ?k1 ?k2 ?k3 ?k4 ?k5 ?kK ?kd ?ku ?_); (case k1 => k_asm); (case k2 => k_asm); (case k3 => k_asm); (case k4 => k_asm); (case k5 => k_asm); (case kK => first | exact rfl | assumption); (case kd => ktr_room); (case ku => ktr_units); (intro t9 h9 tk9 F9 N9); (try dsimp only); (try k_fold))
  k_with "call ref" => (k_here; (with_reducible show wpAny _ _ (call (Value.ref 108) _) _ _ _); k_dflt (refine' Spec.useS (es3 _ _ _ (by assumption) _ _ _ _) ?k1 ?k2 ?k3 ?k4 ?k5 ?kK ?kd ?ku ?_); (case k1 => k_asm); (case k2 => k_asm); (case k3 => k_asm); (case k4 => k_asm); (case k5 => k_asm); (case kK => first | exact rfl | assumption); (case kd => ktr_room); (case ku => ktr_units); (intro t9 h9 tk9 F9 N9); (try dsimp only); (try k_fold))
  k_with "call ref" => (k_here; (with_reducible show wpAny _ _ (call (Value.ref 115) _) _ _ _); k_dflt (refine' Spec.useS (eu1 _ _ _ (by assumption) _ _ (by omega) (by omega) _ _ _) ?k1 ?k2 ?k3 ?k4 ?k5 ?kK ?kd ?ku ?_); (case k1 => k_asm); (case k2 => k_asm); (case k3 => k_asm); (case k4 => k_asm); (case k5 => k_asm); (case kK => first | exact rfl | assumption); (case kd => ktr_room); (case ku => ktr_units); (intro t9 h9 tk9 F9 N9); (try dsimp only); (try k_fold))
  k_with "call ref" => (k_here; (with_reducible show wpAny _ _ (call (Value.ref 122) _) _ _ _); k_dflt (refine' Spec.useS (ev1 _ _ _ (by assumption) (by assumption) _ _ (by omega) (by omega) _ _ _) ?k1 ?k2 ?k3 ?k4 ?k5 ?kK ?kd ?ku ?_); (case k1 => k_asm); (case k2 => k_asm); (case k3 => k_asm); (case k4 => k_asm); (case k5 => k_asm); (case kK => first | exact rfl | assumption); (case kd => ktr_room); (case ku => ktr_units); (intro t9 h9 tk9 F9 N9); (try dsimp only); (try k_fold))
  k_with "call ref" => (k_here; (with_reducible show wpAny _ _ (call (Value.ref 122) _) _ _ _); k_dflt (refine' Spec.useS (ev2 _ _ _ (by assumption) _ _ (by omega) (by omega) _ _ _) ?k1 ?k2 ?k3 ?k4 ?k5 ?kK ?kd ?ku ?_); (case k1 => k_asm); (case k2 => k_asm); (case k3 => k_asm); (case k4 => k_asm); (case k5 => k_asm); (case kK => first | exact rfl | assumption); (case kd => ktr_room); (case ku => ktr_units); (intro t9 h9 tk9 F9 N9); (try dsimp only); (try k_fold))
  k_with "call ref" => (k_here; (with_reducible show wpAny _ _ (call (Value.ref 122) _) _ _ _); k_dflt (refine' Spec.useS (ev3 _ _ _ (by assumption) (by assumption) _ (by omega) _ _) ?k1 ?k2 ?k3 ?k4 ?k5 ?kK ?kd ?ku ?_); (case k1 => k_asm); (case k2 => k_asm); (case k3 => k_asm); (case k4 => k_asm); (case k5 => k_asm); (case kK => first | exact rfl | assumption); (case kd => ktr_room); (case ku => ktr_units); (intro t9 h9 tk9 F9 N9); (try dsimp only); (try k_fold))
  k_with "call ref" => (k_here; (with_reducible show wpAny _ _ (call (Value.ref 122) _) _ _ _); k_dflt (refine' Spec.useS (ev4 _ _ _ (by assumption) _ _ (by omega) (by omega) _ _ _) ?k1 ?k2 ?k3 ?k4 ?k5 ?kK ?kd ?ku ?_); (case k1 => k_asm); (case k2 => k_asm); (case k3 => k_asm); (case k4 => k_asm); (case k5 => k_asm); (case kK => first | exact rfl | assumption); (case kd => ktr_room); (case ku => ktr_units); (intro t9 h9 tk9 F9 N9); (try dsimp only); (try k_fold))
  k_with "call ref" => (k_here; (with_reducible show wpAny _ _ (call (Value.ref 171) _) _ _ _); k_dflt (refine' Spec.useS (filled_lit_spec _ _ _ _ _ _) ?k1 ?k2 ?k3 ?k4 ?k5 ?kK ?kd ?ku ?_); (case k1 => k_asm); (case k2 => k_asm); (case k3 => k_asm); (case k4 => k_asm); (case k5 => k_asm); (case kK => first | exact rfl | assumption); (case kd => ktr_room); (case ku => ktr_units); (intro t9 h9 tk9 F9 N9); (try dsimp only); (try k_fold))
  k_with "call ref" => (k_here; (with_reducible show wpAny _ _ (call (Value.ref 171) _) _ _ _); k_dflt (refine' Spec.useS (filled_d_spec _ _ _ _ _ _ _ _) ?k1 ?k2 ?k3 ?k4 ?k5 ?kK ?kd ?ku ?_); (case k1 => k_asm); (case k2 => k_asm); (case k3 => k_asm); (case k4 => k_asm); (case k5 => k_asm); (case kK => first | exact rfl | assumption); (case kd => ktr_room); (case ku => ktr_units); (intro t9 h9 tk9 F9 N9); (try dsimp only); (try k_fold))
  k_with "call ref" => (k_here; (with_reducible show wpAny _ _ (call (Value.ref 171) _) _ _ _); k_dflt (refine' Spec.useS (filled_e_spec _ _ _ _ _ _ _) ?k1 ?k2 ?k3 ?k4 ?k5 ?kK ?kd ?ku ?_); (case k1 => k_asm); (case k2 => k_asm); (case k3 => k_asm); (case k4 => k_asm); (case k5 => k_asm); (case kK => first | exact rfl | assumption); (case kd => ktr_room); (case ku => ktr_units); (intro t9 h9 tk9 F9 N9); (try dsimp only); (try k_fold))
  k_with "call ref" => (k_here; (with_reducible show wpAny _ _ (call (Value.ref 171) _) _ _ _); k_dflt (refine' Spec.useS (filled_w_spec _ _ _ (by omega) _ (by omega) _ _ _ _) ?k1 ?k2 ?k3 ?k4 ?k5 ?kK ?kd ?ku ?_); (case k1 => k_asm); (case k2 => k_asm); (case k3 => k_asm); (case k4 => k_asm); (case k5 => k_asm); (case kK => first | exact rfl | assumption); (case kd => ktr_room); (case ku => ktr_units); (intro t9 h9 tk9 F9 N9); (try dsimp only); (try k_fold))
  k_with "call ref" => (k_here; (with_reducible show wpAny _ _ (call (Value.ref 150) _) _ _ _); k_dflt (refine' Spec.useL (el1 _ _ _ (by assumption) (by assumption) _ _ _) ?k1 ?k2 ?k3 ?k4 ?k5 ?kK ?kd ?ku ?_); (case k1 => k_asm); (case k2 => k_asm); (case k3 => k_asm); (case k4 => k_asm); (case k5 => k_asm); (case kK => first | exact rfl | assumption); (case kd => ktr_room); (case ku => ktr_units); (intro b9 us9 n9 h9 tk9 hs9 hlt9 F9 N9); (obtain ⟨u1, u2, e9⟩ := strs_arr2 hs9); (rw [e9] at N9); (clear hs9 e9); (try dsimp only); (try k_fold))
  k_with "call ref" => (k_here; (with_reducible show wpAny _ _ (call (Value.ref 150) _) _ _ _); k_dflt (refine' Spec.useL (split_none_spec _ _ _ _ _ _) ?k1 ?k2 ?k3 ?k4 ?k5 ?kK ?kd ?ku ?_); (case k1 => k_asm); (case k2 => k_asm); (case k3 => k_asm); (case k4 => k_asm); (case k5 => k_asm); (case kK => first | exact rfl | assumption); (case kd => ktr_room); (case ku => ktr_units); (intro b9 us9 n9 h9 tk9 hs9 hlt9 F9 N9); (have e9 := strs_arr0 hs9); (rw [e9] at N9); (clear hs9 e9); (try dsimp only); (try k_fold))
  k_with "call ref" => (k_here; (with_reducible show wpAny _ _ (call (Value.ref 150) _) _ _ _); k_dflt (refine' Spec.useL (split_lit_spec _ _ _ _ _) ?k1 ?k2 ?k3 ?k4 ?k5 ?kK ?kd ?ku ?_); (case k1 => k_asm); (case k2 => k_asm); (case k3 => k_asm); (case k4 => k_asm); (case k5 => k_asm); (case kK => first | exact rfl | assumption); (case kd => ktr_room); (case ku => ktr_units); (intro b9 us9 n9 h9 tk9 hs9 hlt9 F9 N9); (obtain ⟨u1, u2, e9⟩ := strs_arr2 hs9); (rw [e9] at N9); (clear hs9 e9); (try dsimp only); (try k_fold))
  refine wpAny_call ?_
  k_dflt cell_enter
  k_steps
  all_goals first
    | (exfalso; exact (by assumption : (x.length : Int) ≠ (x.length : Int)) rfl)
    | (exfalso; rename (_ != _) = true => q9; rw [bne_self_eq_false] at q9; exact Bool.noConfusion q9)
    | ((refine hret _ news _ _ (retB ?_) (by assumption) (news_drop (by assumption) (by intro p hp; repeat (first | exact hp | refine List.mem_cons_of_mem _ ?_)))); first
        | exact beq_self_eq_true _)

end Mine
-- part C19
namespace Mine
local macro_rules | `(tactic| walk_at $s:str) => `(tactic| k_extra $s)
local macro_rules | `(tactic| k_qdec) => `(tactic| first | exact Mine.names_ok | exact Mine.imp_none)
theorem law_holds : PySem.Challenge.rw_nt0347_01.Holds := Mine.hd (by rfl) (by rfl) (by rfl) (by
  w_strict (
    k_go0
    all_goals try k_fold
    k_with_none
    k_with "exec For Name Subscript cons nil" => (k_here; (rename Fr _ _ _ _ => lF'); (with_reducible apply For_unrF); (case _F => with_unfolding_all exact lF'); (case hs => (intro _; with_unfolding_all rfl)))
    k_with "GPost" => (dsimp only [GPost])
    k_with "eval ListComp" => (k_extra "mine comp")
    k_with "pyIter ref" => (k_extra "mine for")
    k_with "setItem ref int" => (k_extra "mine set")
    k_with "call ref" => (k_extra "mine draw")
    k_with "CompSrc" => (k_extra "mine src1")
    k_with "subscriptTail Name Slice ref ref" => (k_extra "mine slice")
    k_with "call ref" => (k_extra "mine due")
    k_with "call ref" => (k_extra "mine trim")
    k_with "call ref" => (k_extra "mine ends")
    k_with "compareOp Eq str str" => (k_extra "mine eqstr")
    k_with "compareOp NotEq str str" => (k_extra "mine nestr")
    k_with "CompSrcT" => (k_extra "mine src6")
    k_with "subscriptTail Name Name ref int" => (k_extra "mine item")
    k_with "subscriptTail Name Constant ref int" => (k_extra "mine item")
    k_with "subscriptTail Name UnaryOp ref int" => (k_extra "mine item")
    k_with "call ref" => (k_extra "mine blanks")
    k_with "CompSrc" => (k_extra "mine src4")
    k_with "call ref" => (k_extra "mine pair")
    k_with "call ref" => (k_extra "mine low")
    k_with "call builtin:str.join" => (k_extra "mine join")
    k_with "call ref" => (k_extra "mine text")
    k_with "compareOp NotEq ref ref" => (k_extra "mine ne")
    k_with "call ref" => (k_extra "mine sign")
    k_with "CompEnd" => (k_extra "mine compend")
    k_with "CompSrcT" => (k_extra "mine src3")
    k_with "call ref" => (k_extra "mine code")
    k_with "mine for" => (
      rename Fr _ _ _ _ => hF9
      rename News _ _ _ _ => hN9
      rename IntsAre _ (List.map _ _) => hI9
      rename _ < _ ∧ _ < _ ∧ _ < _ ∧ _ < _ => hq9
      refine' box_growL [Str.ofString "cell"] rfl hF9 hN9 (List.Mem.head _) hI9 (by intro p hp; simp only [List.mem_cons, List.not_mem_nil, or_false] at hp; rcases hp with rfl | rfl | rfl | rfl; exact Nat.ne_of_lt hq9.1; exact Nat.ne_of_lt hq9.2.1; exact Nat.ne_of_lt hq9.2.2.1; exact Nat.ne_of_lt hq9.2.2.2) (by decide) (by decide) (fun i c t t1 r t3 ep u h tk own hc hr0 hr1 hoff F N => ?_) (fun t1 r t3 ep u h tk hr0 hr1 hll9 F N => ?_) (by with_unfolding_all rfl)
      all_goals clear hF9 hN9)
    k_with "mine set" => (
      k_here
      (k_dflt (refine' ki_set ?F ?N (by decide) (by decide) ?e9 (Upd.head hoff) ?_; (case F => k_asm); (case N => k_asm); (case e9 => rfl)))
      intro h' F' N')
    k_with "mine draw" => (
      k_here
      (with_reducible show wpAny _ _ (call (Value.ref 209) _) _ _ _)
      (k_dflt (refine' useDraw0 ?k1 ?k2 ?k3 ?k4 ?k5 ?kK ?kd ?ku (List.Mem.head _) hI9 ?hlen hll9 ?i0 ?i1 hr0 hr1 ?m0 ?m1 ?_; (case k4 => assumption); (case k1 => k_asm); (case k2 => k_asm); (case k3 => k_asm); (case k5 => k_asm); (case kK => first | exact rfl | assumption); (case kd => ktr_room); (case ku => ktr_units); (case i0 => decide); (case i1 => decide); (case m0 => decide); (case m1 => decide); (case hlen => (rw [List.length_map, List.length_take]; omega))))
      intro x7 r7 t7 t7' t7'' n7 h7 tk7 hx7 hx7' hr7 hr7' F7 N7
      (try dsimp only)
      (try k_fold))
    k_with "mine src1" => (
      (with_reducible show LCg.CompSrc _ _ _ _ _ _ _ _ (Str.ofString "turn") _ _ _ _ _)
      rename Fr _ _ _ _ => hF9
      rename News _ _ _ _ => hN9
      rename IsRange _ _ _ _ _ _ _ _ => hR9
      (refine' LCg.CompSrc.range (n := (1 + x7 - 0).toNat) rfl hF9 hN9 hR9 (small_one (by omega) (by omega) (by omega) (by omega)) (rangeSize_nat _ _) (by rw [sizeLine_eq]; omega) (fun g => comp_box (by decide) (by decide) hr7 hr7' (fun i v ys I oI C oC D m₂ h tk E' k r t1 t3 nb cs hi hP hI hc hl hk0 hk1 hr0 hr1 hC hx F N off ne => ?_) (fun ysC csC kC rC t1 t3 nb hIc hcc hlc => ?_)))
      all_goals clear hF9 hN9 hR9
      all_goals (try (have hlen10 : csC.length ≤ 10 := by omega))
      all_goals (try (have hlen1 : 1 ≤ csC.length := by omega)))
    k_with "mine code" => (
      k_here
      (with_reducible show wpAny _ _ (call (Value.ref 216) _) _ _ _)
      (k_dflt (refine' useCode ?k1 ?k2 ?k3 ?k4 ?k5 ?kK ?kd ?ku (List.Mem.head _) hI9 ?hlen hll9 off hk0 ?hk1 hr0 hr1; (case k4 => exact N); (case k1 => k_asm); (case k2 => exact F); (case k3 => k_asm); (case k5 => k_asm); (case kK => first | exact rfl | assumption); (case kd => ktr_room); (case ku => ktr_units); (case hk1 => omega); (case hlen => (rw [List.length_map, List.length_take]; omega)))))
    k_with "mine src3" => (
      (with_reducible show LCt.CompSrcT _ _ _ _ _ _ _ _ _ (Str.ofString "code") _ _ _ _ _)
      rename Fr _ _ _ _ => hF9
      rename News _ _ _ _ => hN9
      (have hN8 := news_pick6 hN9)
      repeat (rename @Ne Nat _ _ ∧ _ => q9; clear q9)
      repeat (rename @LT.lt Nat _ _ _ ∧ _ => q9; clear q9)
      (clear hN9 hlc hll9 hI9 hr0 hr1 hx7 hx7' hr7 hr7')
      (have hsz : ysC.toArray.size ≤ sizeLine := by rw [List.size_toArray, hIc.length, sizeLine_eq]; exact Nat.le_trans hlen10 (by decide))
      (have hlen : csC.length ≤ 1000 := Nat.le_trans hlen10 (by decide))
      (have hxl : (Txt.join (Str.ofString "") (csC.map chrS)).length ≤ 1000 := by rw [show Txt.join (Str.ofString "") (csC.map chrS) = textOf csC from rfl, textOf_len]; exact hlen)
      (have hus : ysC.toArray.size = csC.length := by rw [List.size_toArray]; exact hIc.length)
      (refine' LCt.CompSrcT.ledger rfl hF9 hN8 (List.Mem.head _) hsz (fun g => comp_sameT (fun i ws => IntsAre ws []) IntsAre.nil (fun i v ws I oI C oC D m₂ h tk E' hi hP hJ hC hx F N off ne => ?_) (fun ws hI6 => ?_)))
      (try (obtain ⟨c5, t5, hk5, hv5⟩ := ints_get hIc hP))
      (try rw [hv5] at hx)
      (try (have hb5 := hcc c5 (List.mem_of_getElem? hk5)))
      all_goals clear hF9 hN8)
    k_with "mine sign" => (
      k_here
      (with_reducible show wpAny _ _ (call (Value.ref 223) _) _ _ _)
      (k_dflt (refine' Spec.useB (law_sign_right_spec _ _ c5 hb5.1 hb5.2 _) ?k1 ?k2 ?k3 ?k4 ?k5 ?kK ?kd ?ku ?_; (case k1 => k_asm); (case k2 => k_asm); (case k3 => k_asm); (case k4 => k_asm); (case k5 => k_asm); (case kK => first | exact rfl | assumption); (case kd => ktr_room); (case ku => ktr_units)))
      intro h9 tk9 F9 N9
      (try dsimp only)
      (try k_fold))
    k_with "mine compend" => (
      first
      | k_dflt (refine' LCg.CompEnd.intro (by assumption) N9 _ (fun p hp => hp) off (srcLst (by k_mem)) ⟨rfl, hJ⟩)
      | k_dflt (refine' LCg.CompEnd.intro (by assumption) N9 _ (fun p hp => List.mem_cons_of_mem _ hp) off (srcLst (by k_mem)) ⟨rfl, strs_next' hk5 hJ rfl⟩)
      | (k_dflt (refine' LCg.CompEnd.intro (by assumption) N9 _ (fun p hp => List.mem_cons_of_mem _ hp) off True.intro ⟨rfl, left_put hI6 hLf ?hc⟩; (case hc => exact (any_contains _).symm.trans (by assumption))))
      | (k_dflt (refine' LCg.CompEnd.intro (by assumption) N9 _ (fun p hp => List.mem_cons_of_mem _ hp) off True.intro ⟨rfl, left_skip hI6 hLf ?hc⟩; (case hc => exact (any_contains _).symm.trans (by assumption)))))
    k_with "mine src4" => (
      first
      | (with_reducible show LCg.CompSrc _ _ _ _ _ _ _ (Expr.Subscript _ (Expr.Constant (Const.int 0) _ _) _) (Str.ofString "code") _ _ _ _ _)
        (rename Fr _ _ _ _ => hF9)
        (rename News _ _ _ _ => hN9)
        (have hN8 := news_pick4 hN9)
        (clear hN9)
        ((k_dflt (refine' LCg.CompSrc.ledger rfl hF9 hN8 (List.Mem.head _) hsz (fun g => comp_same (fun i ws => StrsAre ws ((csC.take i).map lowF)) StrsAre.nil (fun i v ws I oI C oC D m₂ h tk E' hi hP hJ hC hx F N off ne => ?_) (fun ws hS4 => ?_)))))
      | (with_reducible show LCg.CompSrc _ _ _ _ _ _ _ (Expr.Subscript _ (Expr.Constant (Const.int 1) _ _) _) (Str.ofString "code") _ _ _ _ _)
        (rename Fr _ _ _ _ => hF9)
        (rename News _ _ _ _ => hN9)
        (have hN8 := news_pick3 hN9)
        (clear hN9)
        ((k_dflt (refine' LCg.CompSrc.ledger rfl hF9 hN8 (List.Mem.head _) hsz (fun g => comp_same (fun i ws => StrsAre ws ((csC.take i).map highF)) StrsAre.nil (fun i v ws I oI C oC D m₂ h tk E' hi hP hJ hC hx F N off ne => ?_) (fun ws hS5 => ?_)))))
      (try (obtain ⟨c5, t5, hk5, hv5⟩ := ints_get hIc hP))
      (try rw [hv5] at hx)
      (try (have hb5 := hcc c5 (List.mem_of_getElem? hk5)))
      all_goals clear hF9 hN8
      repeat (rename @Ne Nat _ _ ∧ @Ne Nat _ _ => q9; clear q9)
      repeat (rename @LT.lt Nat _ _ _ ∧ _ => q9; clear q9))
    k_with "mine pair" => (
      k_here
      (with_reducible show wpAny _ _ (call (Value.ref 195) _) _ _ _)
      (k_dflt (refine' Spec.use (law_pair_spec _ _ c5 hb5.1 hb5.2 _) ?k1 ?k2 ?k3 ?k4 ?k5 ?kK ?kd ?ku ?_; (case k1 => k_asm); (case k2 => k_asm); (case k3 => k_asm); (case k4 => k_asm); (case k5 => k_asm); (case kK => first | exact rfl | assumption); (case kd => ktr_room); (case ku => ktr_units)))
      rintro v9 nw9 h9 tk9 ⟨t8, u8, w8, n8, rfl, rfl⟩ F9 N9
      (try dsimp only)
      (try k_fold))
    k_with "mine join" => (
      rename News _ _ _ _ => hN9
      (first
      | (k_dflt (refine' join_listW (ys := csC.map highF) (News.isList hN9 (List.Mem.head _)) (strs_all' hus hS5) (by decide) (weight3m (fun c hc => high3 (hcc c hc).1) hlen) (fun t' k => ?_)))
      | (k_dflt (refine' join_listW (ys := csC.map lowF) (News.isList hN9 (List.Mem.head _)) (strs_all' hus hS4) (by decide) (weight3m (fun c hc => low3 (hcc c hc).1) hlen) (fun t' k => ?_)))))
    k_with "mine low" => (
      k_here
      first
      | ((with_reducible show wpAny _ _ (call (Value.ref 64) _) _ _ _)
         (k_dflt (refine' Spec.useS (low_codes_spec _ _ csC hcc hlen _) ?k1 ?k2 ?k3 ?k4 ?k5 ?kK ?kd ?ku ?_; (case k1 => k_asm); (case k2 => k_asm); (case k3 => k_asm); (case k4 => k_asm); (case k5 => k_asm); (case kK => first | exact rfl | assumption); (case kd => ktr_room); (case ku => ktr_units))))
      | ((with_reducible show wpAny _ _ (call (Value.ref 71) _) _ _ _)
         (k_dflt (refine' Spec.useS (high_codes_spec _ _ csC hcc hlen _) ?k1 ?k2 ?k3 ?k4 ?k5 ?kK ?kd ?ku ?_; (case k1 => k_asm); (case k2 => k_asm); (case k3 => k_asm); (case k4 => k_asm); (case k5 => k_asm); (case kK => first | exact rfl | assumption); (case kd => ktr_room); (case ku => ktr_units))))
      intro t9 h9 tk9 F9 N9
      (try dsimp only)
      (try k_fold))
    k_with "mine nestr" => (
      k_here
      (with_reducible show wpAny _ _ (compareOp CmpOp.NotEq (Value.str _ _) (Value.str _ _)) _ _ _)
      (k_dflt (refine' ne_same rfl ?_)))
    k_with "mine src6" => (
      (with_reducible show LCt.CompSrcT _ _ _ _ _ _ _ _ _ (Str.ofString "at") _ _ _ _ _)
      rename Fr _ _ _ _ => hF9
      rename News _ _ _ _ => hN9
      rename IsRange _ _ _ _ _ _ _ _ => hR9
      (have hN8 := news_pick3 hN9)
      (clear hN9)
      (have hsz2 : csC.length ≤ sizeLine := by rw [sizeLine_eq]; exact Nat.le_trans hlen10 (by decide))
      (k_dflt (refine' LCt.CompSrcT.range (n := csC.length) rfl hF9 hN8 hR9 (range_sm rfl hlen) (range_len rfl) hsz2 (fun g => comp_sameT (fun i ws => ∃ Lf, IntsAre ws Lf ∧ LeftOk csC i Lf) ⟨[], IntsAre.nil, LeftOk.nil _⟩ (fun i v ws I oI C oC D m₂ h tk E' hi hP hJ hC hx F N off ne => ?_) (fun ws hJ => ?_))))
      (try (obtain ⟨t5, hv5⟩ := hP; rw [Int.zero_add] at hv5; rw [hv5] at hx))
      all_goals (obtain ⟨Lf, hI6, hLf⟩ := hJ)
      all_goals clear hF9 hN8 hR9
      repeat (rename @Ne Nat _ _ ∧ @Ne Nat _ _ => q9; clear q9))
    k_with "mine item" => (
      (have q0 := hIc; clear q0)
      k_here
      (with_reducible show wpAny _ _ (subscriptTail _ _ (Value.ref _) (Value.int _ _)) _ _ _)
      rename News _ _ _ _ => hN9
      first
      | (k_dflt (refine' item_at_nat (i := i) hN9 (by k_mem) hIc hlen hi (by with_unfolding_all rfl) (fun t6 => ?_)))
      | (k_dflt (refine' item_first rfl hN9 (by k_mem) hI6 ?hz (by with_unfolding_all rfl) (fun t6 => ?_)); (case hz => exact hne))
      | (k_dflt (refine' item_last rfl hN9 (by k_mem) hI6 ?hz (by with_unfolding_all rfl) (fun t6 => ?_)); (case hz => exact hne)))
    k_with "mine blanks" => (
      k_here
      (with_reducible show wpAny _ _ (call (Value.ref 202) _) _ _ _)
      (k_dflt (refine' Spec.use (law_blanks_spec _ _) ?k1 ?k2 ?k3 ?k4 ?k5 ?kK ?kd ?ku ?_; (case k1 => k_asm); (case k2 => k_asm); (case k3 => k_asm); (case k4 => k_asm); (case k5 => k_asm); (case kK => first | exact rfl | assumption); (case kd => ktr_room); (case ku => ktr_units)))
      rintro v9 nw9 h9 tk9 ⟨a9, us9, n9, rfl, rfl, hI9b, hlt9⟩ F9 N9
      (try dsimp only)
      (try k_fold))
    k_with "mine slice" => (
      (have q0 := hIc; clear q0)
      k_here
      (with_reducible show wpAny _ _ (subscriptTail _ (PySem.Expr.Slice _ _ none _) (Value.ref _) (Value.ref _)) _ _ _)
      rename Fr _ _ _ _ => hF9
      rename News _ _ _ _ => hN9
      (k_dflt (refine' due_slice hF9 hN9 (by k_mem) hIc hlen hne hLf ?hx ?hy (fun D wsD h' F' N' l1 hID => ?_) ?hs ?ht; (case hx => rfl); (case hy => rfl); (case hs => with_unfolding_all rfl); (case ht => (intro _; with_unfolding_all rfl)))))
    k_with "mine due" => (
      k_here
      (with_reducible show wpAny _ _ (call (Value.ref 183) [Value.ref _]) _ _ _)
      rename News _ _ _ _ => hN9
      first
      | (k_dflt (refine' Spec.useS (text_from_spec _ _ _ wsD (dueOf csC Lf) _ (by k_mem) hID (Nat.le_trans due_len hlen) (fun n hn => ⟨(hcc n (due_mem n hn)).1, Int.lt_trans (hcc n (due_mem n hn)).2 (by decide)⟩)) ?k1 ?k2 ?k3 hN9 ?k5 ?kK ?kd ?ku ?_; (case k1 => k_asm); (case k2 => k_asm); (case k3 => k_asm); (case k5 => k_asm); (case kK => first | exact rfl | assumption); (case kd => ktr_room); (case ku => ktr_units)))
      | (k_dflt (refine' Spec.useS (text_from_spec _ _ _ [] [] 0 (by k_mem) IntsAre.nil (by decide) (by simp)) ?k1 ?k2 ?k3 hN9 ?k5 ?kK ?kd ?ku ?_; (case k1 => k_asm); (case k2 => k_asm); (case k3 => k_asm); (case k5 => k_asm); (case kK => first | exact rfl | assumption); (case kd => ktr_room); (case ku => ktr_units)))
      intro t9 h9 tk9 F9 N9
      (try dsimp only)
      (try k_fold))
    k_with "mine trim" => (
      k_here
      (with_reducible show wpAny _ _ (call (Value.ref 164) _) _ _ _)
      (k_dflt (refine' Spec.useSR (trimmed_text_spec _ _ (textOf csC) (by rw [textOf_len]; exact hlen) _) ?k1 ?k2 ?k3 ?k4 ?k5 ?kK ?kd ?ku ?_; (case k1 => k_asm); (case k2 => k_asm); (case k3 => k_asm); (case k4 => k_asm); (case k5 => k_asm); (case kK => first | exact rfl | assumption); (case kd => ktr_room); (case ku => ktr_units)))
      intro x9 t9 h9 tk9 hT9 F9 N9
      (try dsimp only)
      (try k_fold))
    k_with "mine ends" => (
      k_here
      (with_reducible show wpAny _ _ (call (Value.ref 230) _) _ _ _)
      (k_dflt (refine' Spec.useB (law_ends_right_spec _ _ (Txt.slice (textOf csC) none (some 3)) (slice3_len (by rw [textOf_len]; exact hlen1)).1 (slice3_len (by rw [textOf_len]; exact hlen1)).2 _) ?k1 ?k2 ?k3 ?k4 ?k5 ?kK ?kd ?ku ?_; (case k1 => k_asm); (case k2 => k_asm); (case k3 => k_asm); (case k4 => k_asm); (case k5 => k_asm); (case kK => first | exact rfl | assumption); (case kd => ktr_room); (case ku => ktr_units)))
      intro h9 tk9 F9 N9
      (try dsimp only)
      (try k_fold))
    k_with "mine eqstr" => (
      k_here
      (with_reducible show wpAny _ _ (compareOp CmpOp.Eq (Value.str _ _) (Value.str _ _)) _ _ _)
      first
      | (k_dflt (refine' eq_same (trim_is hcc hLf hT9) ?_))
      | (k_dflt (refine' eq_same ((trim_is hcc hLf hT9).trans due_nil) ?_)))
    k_with "mine ne" => (
      k_here
      (with_reducible show wpAny _ _ (compareOp CmpOp.NotEq (Value.ref _) (Value.ref _)) _ _ _)
      rename News _ _ _ _ => hN9
      first
      | ((k_dflt (refine' ne_intsK (News.isList hN9 (List.Mem.tail _ (List.Mem.head _))) (show IntsAre _ [] from hI6) (News.isList hN9 (List.Mem.head _)) IntsAre.nil ?hu ?_; (case hu => units_room)))
         (rw [show (!decide (([] : List Int) = [])) = false from rfl]))
      | (((k_dflt (refine' ne_left hN9 (List.Mem.tail _ (List.Mem.head _)) (List.Mem.head _) hI6 ?hu (fun hne => ?_) (fun he => ?_); (case hu => units_room))))
         (try subst he)
         all_goals (try subst he)))
    k_with "mine text" => (
      k_here
      (with_reducible show wpAny _ _ (call (Value.ref 183) [Value.ref _]) _ _ _)
      rename News _ _ _ _ => hN9
      (k_dflt (refine' Spec.useS (text_from_spec _ _ _ ysC csC _ (by k_mem) hIc hlen (fun n hn => ⟨(hcc n hn).1, Int.lt_trans (hcc n hn).2 (by decide)⟩)) ?k1 ?k2 ?k3 hN9 ?k5 ?kK ?kd ?ku ?_; (case k1 => k_asm); (case k2 => k_asm); (case k3 => k_asm); (case k5 => k_asm); (case kK => first | exact rfl | assumption); (case kd => ktr_room); (case ku => ktr_units)))
      intro t9 h9 tk9 F9 N9
      (try dsimp only)
      (try k_fold))
    k_with "mine comp" => (
      k_here
      first
      | ((with_reducible show wpAny _ _ (eval (Expr.ListComp _ [Comprehension.mk (Expr.Name (Str.ofString "code") _) _ [_] _] _ _) _) _ _ _); (k_dflt (refine LCt.ListComp_T (F₀ := by k_asm) (by with_unfolding_all rfl) (by decide) (by rfl) (by decide) (by rfl) ?_)))
      | ((with_reducible show wpAny _ _ (eval (Expr.ListComp _ [Comprehension.mk (Expr.Name (Str.ofString "code") _) _ _ _] _ _) _) _ _ _); (k_dflt (refine LCg.ListComp_U (F₀ := by k_asm) (by with_unfolding_all rfl) (by decide) (by rfl) (by decide) (by rfl) ?_)))
      | ((with_reducible show wpAny _ _ (eval (Expr.ListComp _ [Comprehension.mk (Expr.Name (Str.ofString "at") _) _ _ _] _ _) _) _ _ _); (k_dflt (refine LCt.ListComp_T (F₀ := by k_asm) (by with_unfolding_all rfl) (by decide) (by rfl) (by decide) (by rfl) ?_))))
    all_goals (k_steps)
    all_goals (first
      | (refine GEnd.box (by assumption) (by assumption) (by repeat' first | exact same_base | refine same_step (by decide) ?_ | exact same_refl) (Int.fmod_nonneg_of_pos _ (by decide)) (Int.lt_trans (Int.fmod_lt_of_pos _ (by decide)) (by decide))))))
end Mine
theorem PySem.Challenge.cw_nt0347_01_holds : PySem.Challenge.rw_nt0347_01.Holds := by
  exact Mine.law_holds
