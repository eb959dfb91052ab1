import PyProof.Rows.All
import Wide.All
import OpenK.AllK
import Wide.FinOn
import PySem.Challenge.RW_pf0381_01
set_option Elab.async false
set_option rowWalk.seconds 0
section
open PySem PySem.W PyProof.Rows
set_option maxRecDepth 100000
set_option maxHeartbeats 8000000
namespace Mine
theorem left_of {p q : Program} {loose : List Str} {Xt : Shared → Bool} {α : Type} {Yf : Shared → α} {Ya : World → α} {N : Nat} {H₀ : Params → Heap} {gs₀ : Array GenState} {d₀ : Drawn} {k₀ : Nat} {m₀ : Nat} {ann : Option Value} {M : Nat} {r : World → OsState → Option Shared}
    (open_ : ∀ w : World, (fencedOpening treeTable p w N).map (fun s => (s.heap, s.gens, s.drawn, s.toks)) = some (H₀ w.params, gs₀, d₀, k₀))
    (size : ∀ w : World, ((H₀ w.params).isNs mainGlobals && gs₀.size == 0, (H₀ w.params).objs.size, (H₀ w.params).nsMap mainGlobals "__annotations__") = (true, m₀, ann))
    (run : ∀ (w : World) (os : OsState), topRun treeTable p w m₀ ann M ⟨H₀ w.params, gs₀, d₀, k₀, os⟩ (topStub p) = r w os) (le : Nat.ble M N = true)
    (l1 : ∀ w os, (r w os).map (fun s => staticsOk (importedModules p.main.body) (H₀ w.params) s.heap && namesBound p s.heap && gensDone s && laidKept (H₀ w.params) s.heap) = some true)
    (l2 : ∀ w os, (r w os).map (openSeen q loose (importedModules p.main.body) Xt true) = some (openGood q loose))
    (l3 : ∀ w os, (r w os).map Yf = some (Ya w)) : LeftO p q loose Xt Yf Ya N := fun w => by
  obtain ⟨⟨h, gs, d, k, os⟩, e, e'⟩ := Option.map_eq_some_iff.mp (open_ w)
  obtain ⟨rfl, rfl, rfl, rfl⟩ : h = H₀ w.params ∧ gs = gs₀ ∧ d = d₀ ∧ k = k₀ := by simpa using e'
  obtain ⟨z1, z2, z3⟩ : _ ∧ _ ∧ _ := by simpa only [Prod.mk.injEq] using size w
  obtain ⟨s, hs, x1⟩ := Option.map_eq_some_iff.mp (l1 w os)
  have x2 := l2 w os
  have x3 := l3 w os
  rw [hs] at x2 x3
  have ru := topRun_mono (N - M) _ _ _ _ ((run w os).trans hs)
  rw [show M + (N - M) = N by have := Nat.le_of_ble_eq_true le; omega] at ru
  have t : topFrom treeTable p w N ⟨H₀ w.params, gs, d, k, os⟩ = some s := by
    unfold topFrom
    dsimp only
    rw [z1, z2, z3, ru]
    show (match staticsOk (importedModules p.main.body) (H₀ w.params) s.heap && namesBound p s.heap && gensDone s && laidKept (H₀ w.params) s.heap with | true => _ | false => _) = _
    rw [x1]
  unfold openEnds
  rw [e]
  show (topFrom treeTable p w N _).map _ = _
  rw [t]
  exact congrArg some (Prod.ext (Option.some.inj x2) (Option.some.inj x3))
theorem map_pair {α β γ : Type} {o : Option α} {f : α → β} {g : α → γ} {b : β} {c : γ} (h1 : o.map f = some b) (h2 : o.map g = some c) : o.map (fun s => (f s, g s)) = some (b, c) := by
  cases o with
  | none => cases h1
  | some x => cases h1; cases h2; rfl
theorem map_and {α : Type} {o : Option α} {f g : α → Bool} (h1 : o.map f = some true) (h2 : o.map g = some true) : o.map (fun s => f s && g s) = some true := by
  cases o with
  | none => cases h1
  | some x => simp only [Option.map_some, Option.some.injEq] at h1 h2 ⊢; rw [h1, h2]; rfl
noncomputable def q : Program := (fun (l : List Stmt) (_ : l.Sublist PySem.Challenge.pw_pf0381_01.main.body) => { PySem.Challenge.pw_pf0381_01 with main := { PySem.Challenge.pw_pf0381_01.main with body := l } }) _ (by
  delta PySem.Challenge.pw_pf0381_01
  dsimp only
  refine .cons_cons _ (.cons _ (.cons_cons _ (.cons_cons _ (.cons _ (.cons_cons _ (.cons_cons _ (.cons _ (.cons_cons _ (.cons_cons _ (.cons_cons _ (.cons_cons _ (.cons_cons _ (.cons_cons _ (.cons_cons _ (.cons _ (.cons_cons _ (.cons_cons _ (.cons_cons _ (.cons_cons _ (.cons_cons _ (.cons_cons _ (.cons_cons _ (.cons_cons _ (.cons_cons _ (.cons_cons _ .slnil))))))))))))))))))))))))))
noncomputable def loose : List PySem.Str := [PySem.Str.ofString "SettingError", PySem.Str.ofString "COLOURS"]
noncomputable def lv : List (PySem.Str × WData) := [(PySem.Str.ofString "COLOURS", .tuple [.str (PySem.Str.ofString "green"), .str (PySem.Str.ofString "yellow"), .str (PySem.Str.ofString "red")])]
-- the top's run over a tree of objects, by the library's quick twins of the machine
noncomputable abbrev pw := PySem.Challenge.pw_pf0381_01
noncomputable abbrev p0 : Pos := ⟨0, 0, 0, 0⟩
noncomputable abbrev ann : Option Value := some (.ref 6)
noncomputable def ev : Env := { scope := pw.main.scope, locals := mainNs, globals := mainNs, cells := [], code := .ref 13, frame := some 14 }
noncomputable def bE : List Stmt := behindTheImports pw
noncomputable def cE : Code := .body bE ev
noncomputable abbrev s0 (w : World) (os : OsState) : Shared := ⟨boot_heap w.params, #[], boot_drawn, boot_toks, os⟩
noncomputable def sa (w : World) (os : OsState) : Shared := ((topGo treeTable pw w 11 ann 12 (s0 w os) (topStub pw)).map (·.1)).getD (s0 w os)
noncomputable def treeOf (h : Heap) : BT := (List.range 15).foldl (fun t i => t.ins i ((h.objs[i]?).getD default)) .nil
noncomputable def sb (w : World) (os : OsState) : SharedT := ⟨treeOf (sa w os).heap, 15, {}, #[], {}, 187, os⟩
noncomputable def rt (w : World) (os : OsState) : Option (Flow × SharedT × Code × Pos) := Fast.tw10110043849684766642 Fast.tw14364793385576792824 pw w 11 ann 1 1945 (sb w os) (piecesOf bE ev cE p0 [topFrame p0])
noncomputable def rn (w : World) (os : OsState) : Option Shared := (rt w os).map fun r => r.2.1.abs
noncomputable def xt (s : Shared) : Bool := xlAt q lv s && recOk (RowW.records (PySem.Challenge.rw_pf0381_01.row.toRowW)) s
noncomputable abbrev mods := importedModules pw.main.body
noncomputable def lookT (w : World) (s : Shared) : Bool := staticsOk mods (boot_heap w.params) s.heap && namesBound pw s.heap && gensDone s && laidKept (boot_heap w.params) s.heap
theorem pre_ok (w : World) (os : OsState) : topGo treeTable pw w 11 ann 12 (s0 w os) (topStub pw) = some (sa w os, ⟨denote treeTable cE, cE, p0, [topFrame p0]⟩) := by kernel_rfl
theorem block_ok (w : World) (os : OsState) : segRun treeTable pw w 11 ann 1 1 (sa w os) (blockOf bE ev cE p0 [topFrame p0]) = some (.next, (sb w os).abs, cE, p0) := by kernel_rfl
theorem fin_ok (w : World) (s : SharedT) (p' : Pos) : topRun treeTable pw w 11 ann 2 s.abs ⟨doneF .next, cE, p', [topFrame p0]⟩ = some s.abs := by kernel_rfl
theorem looks_ok (w : World) (os : OsState) : (rt w os).map (fun r => ((r.1, r.2.2.1), lookT w r.2.1.abs, openSeen q loose mods xt true r.2.1.abs)) = some ((.next, cE), true, openGood q loose) := by kernel_rfl
theorem un_pair {α β γ : Type} {o : Option α} {f : α → β} {g : α → γ} {b : β} {c : γ} (h : o.map (fun s => (f s, g s)) = some (b, c)) : o.map f = some b ∧ o.map g = some c := by
  cases o with
  | none => cases h
  | some x => cases h; exact ⟨rfl, rfl⟩
theorem of_rt {α : Type} {w : World} {os : OsState} {f : Shared → α} {b : α} (h : (rt w os).map (fun r => f r.2.1.abs) = some b) : (rn w os).map f = some b := by
  unfold rn
  rw [Option.map_map]
  exact h
theorem rn_run (w : World) (os : OsState) : topRun treeTable pw w 11 ann (12 + (1 + (1945 + 2))) (s0 w os) (topStub pw) = rn w os := by
  have h := (un_pair (looks_ok w os)).1
  have e : rt w os = segRunT treeTable pw w 11 ann 1 1945 (sb w os) (piecesOf bE ev cE p0 [topFrame p0]) := by
    rw [Fast.te10110043849684766642, Fast.te14364793385576792824]; rfl
  cases hr : rt w os with
  | none => rw [hr] at h; cases h
  | some r =>
    obtain ⟨f, s', c, p'⟩ := r
    rw [hr] at h
    obtain ⟨rfl, rfl⟩ : f = .next ∧ c = cE := Prod.mk.inj (Option.some.inj h)
    have g := segRun_of (e.symm.trans hr)
    have k := piece_app (rest := []) g (piece_nil (env := ev) (fin_ok w s' p'))
    rw [List.append_nil] at k
    have z := go_top (pre_ok w os) (piece_block (block_ok w os) k)
    rw [z]
    unfold rn
    rw [hr]
    rfl
theorem said : OpenLaw.wellSaid PySem.Challenge.rw_pf0381_01 = true := by
  rw [Fast.te9446332074065402090]
  kernel_rfl
theorem open_ok (w : World) : (fencedOpening treeTable PySem.Challenge.pw_pf0381_01 w 4002).map (fun s => (s.heap, s.gens, s.drawn, s.toks)) = some (boot_heap w.params, Array.mk [], boot_drawn, boot_toks) :=
  boot_open (by kernel_rfl) (by decide) (fun s => by kernel_rfl) w
theorem size_ok (w : World) : ((boot_heap w.params).isNs mainGlobals && (#[] : Array GenState).size == 0, (boot_heap w.params).objs.size, (boot_heap w.params).nsMap mainGlobals "__annotations__") = (true, 11, some (.ref 6)) := by kernel_rfl
section
local macro_rules | `(tactic| k_head) => `(tactic| x_head)
local macro_rules | `(tactic| o_law) => `(tactic| refine holds_law said fun _ => ?_)
local macro_rules | `(tactic| o_head $H) => `(tactic| (
  refine' PySem.W.holds_open (q := q) (loose := loose) (Xt := xt) (XP := XL q lv) (Yf := Hook.obs $H) (Ya := Hook.val $H) (YP := Hook.says $H) (N := 4002)
    (left_of open_ok size_ok rn_run rfl ?l1 ?l2 ?l3) (Hook.of $H) (Hook.keeps $H) (fun s e => xl_of s (Bool.and_eq_true_iff.mp e).1) XL.keeps ?z1 ?z2 ?z3 (fun s e => recFacts_of (Bool.and_eq_true_iff.mp e).2) ?z4 ?z5 ?z6 ⟨rfl, rfl, rfl, rfl, rfl, by decide +kernel⟩ ?hw ?hc
  (case z1 => rfl)
  (case z2 => rfl)
  (case z3 => rfl)
  (case z4 => rfl)
  (case z5 => exact row_said said)
  (case z6 => decide +kernel)
  (case l1 => exact fun w os => of_rt (un_pair (un_pair (looks_ok w os)).2).1)
  (case l2 => exact fun w os => of_rt (un_pair (un_pair (looks_ok w os)).2).2)
  (case l3 => exact fun w os => of_rt (by kernel_rfl))))
open_top hd for PySem.Challenge.rw_pf0381_01
end
end Mine
end
section
open PySem PySem.W PySem.Calls PyProof.Rows PySem.Spec
set_option maxRecDepth 100000
set_option maxHeartbeats 4000000
namespace Mine
noncomputable def dropK (a : Addr) : Frag → Frag
  | [] => []
  | p :: r => match Nat.beq p.1 a with
    | true => dropK a r
    | false => p :: dropK a r
theorem dropK_hit {a : Addr} {p : Addr × Obj} {r : Frag} (h : Nat.beq p.1 a = true) : dropK a (p :: r) = dropK a r := by rw [dropK, h]
theorem dropK_miss {a : Addr} {p : Addr × Obj} {r : Frag} (h : Nat.beq p.1 a = false) : dropK a (p :: r) = p :: dropK a r := by rw [dropK, h]
structure SK (K l : Frag) : Prop where
  is : True
theorem SK.skip {a : Addr} {o : Obj} {r l : Frag} (_ : Nat.beq a 257 = true) (_ : SK r l) : SK ((a, o) :: r) l := ⟨trivial⟩
theorem SK.keep {p : Addr × Obj} {r l : Frag} (_ : SK r l) : SK (p :: r) (p :: l) := ⟨trivial⟩
theorem SK.nil : SK [] [] := ⟨trivial⟩
/-- what is left of the written part without the one table that the lambdas grow -/
noncomputable def kf : Params → Frag := fun P => (fun (l : Frag) (_ : SK (hd.heap_1 P) l) => l) _ (by
  delta hd.heap_1
  repeat (first | exact SK.nil | (apply SK.skip rfl) | (apply SK.keep)))
theorem kf_is (P : Params) : dropK 257 (hd.heap_1 P) = kf P := by kernel_rfl
end Mine
end
section
open PySem PySem.W PySem.Calls PyProof.Rows PySem.Spec
set_option maxRecDepth 100000
namespace Mine
def Claim (w : World) (p : Program) (loose : List Str) (mean : ExcName → Option Value) (mg mb : Str → Option Value) (f : Addr) (vs : List Value) (news : List (Addr × Obj)) (dn : Nat) (Post : Value → List (Addr × Obj) → Prop) : Prop :=
  ∀ (dp un : Nat) (gd : Option (List Code)) (cn : Str) (cs : Scope) (a : Addr) (ccd : Value) (cl : List (Str × Addr)) (outer : List Env) (A₀ : Around) (base h₀ : Heap) (L : Addr) (m : Str → Option Value) (hp : Heap) (sg : Array GenState) (sd : Drawn) (stk : Nat) (sos : OsState) (Q E : Value → Shared → Prop),
    Below A₀ base outer h₀ → Fr h₀ L hp m → (kf w.params).In h₀ → News h₀ L hp news → Top p loose mean mg mb h₀ → cs.kind = .function →
    dp + dn < recursionLimit → un + 8 * dn < cLine →
    (∀ v news' h' tk', Post v news' → Fr h₀ L h' m → News h₀ L h' news' → Q v ⟨h', sg, sd, tk', sos⟩) →
    wpAny (model PySem.Challenge.rw_pf0381_01.row.prog w) (ktrTop dp un gd cn cs L a ccd cl outer) (call (.ref f) vs) Q E ⟨hp, sg, sd, stk, sos⟩
theorem Claim.use {w : World} {p : Program} {loose : List Str} {mean : ExcName → Option Value} {mg mb : Str → Option Value} {f : Addr} {vs : List Value} {news : List (Addr × Obj)} {dn : Nat} {Post : Value → List (Addr × Obj) → Prop} (C : Claim w p loose mean mg mb f vs news dn Post)
    {dp un : Nat} {gd : Option (List Code)} {cn : Str} {cs : Scope} {a : Addr} {ccd : Value} {cl : List (Str × Addr)} {outer : List Env} {A₀ : Around} {base h₀ : Heap} {L : Addr} {m : Str → Option Value} {hp : Heap} {sg : Array GenState} {sd : Drawn} {stk : Nat} {sos : OsState} {Q E : Value → Shared → Prop}
    (B : Below A₀ base outer h₀) (F : Fr h₀ L hp m) (X : (kf w.params).In h₀) (N : News h₀ L hp news) (T : Top p loose mean mg mb h₀) (hk : cs.kind = .function) (h1 : dp + dn < recursionLimit) (h2 : un + 8 * dn < cLine)
    (ret : ∀ v news' h' tk', Post v news' → Fr h₀ L h' m → News h₀ L h' news' → Q v ⟨h', sg, sd, tk', sos⟩) :
    wpAny (model PySem.Challenge.rw_pf0381_01.row.prog w) (ktrTop dp un gd cn cs L a ccd cl outer) (call (.ref f) vs) Q E ⟨hp, sg, sd, stk, sos⟩ := C _ _ _ _ _ _ _ _ _ _ _ _ _ _ _ _ _ _ _ _ _ B F X N T hk h1 h2 ret
/-- the same, what it gives said to a taker: no things to take apart at the call -/
def ClaimK (w : World) (p : Program) (loose : List Str) (mean : ExcName → Option Value) (mg mb : Str → Option Value) (f : Addr) (vs : List Value) (news : List (Addr × Obj)) (dn : Nat) (K : (Value → List (Addr × Obj) → Prop) → Prop) : Prop :=
  ∀ (dp un : Nat) (gd : Option (List Code)) (cn : Str) (cs : Scope) (a : Addr) (ccd : Value) (cl : List (Str × Addr)) (outer : List Env) (A₀ : Around) (base h₀ : Heap) (L : Addr) (m : Str → Option Value) (hp : Heap) (sg : Array GenState) (sd : Drawn) (stk : Nat) (sos : OsState) (Q E : Value → Shared → Prop),
    Below A₀ base outer h₀ → Fr h₀ L hp m → (kf w.params).In h₀ → News h₀ L hp news → Top p loose mean mg mb h₀ → cs.kind = .function →
    dp + dn < recursionLimit → un + 8 * dn < cLine →
    K (fun v news' => ∀ h' tk', Fr h₀ L h' m → News h₀ L h' news' → Q v ⟨h', sg, sd, tk', sos⟩) →
    wpAny (model PySem.Challenge.rw_pf0381_01.row.prog w) (ktrTop dp un gd cn cs L a ccd cl outer) (call (.ref f) vs) Q E ⟨hp, sg, sd, stk, sos⟩
theorem Claim.toK {w : World} {p : Program} {loose : List Str} {mean : ExcName → Option Value} {mg mb : Str → Option Value} {f : Addr} {vs : List Value} {news : List (Addr × Obj)} {dn : Nat} {Post : Value → List (Addr × Obj) → Prop} {K : (Value → List (Addr × Obj) → Prop) → Prop} (C : Claim w p loose mean mg mb f vs news dn Post)
    (h : ∀ R, K R → ∀ v news', Post v news' → R v news') : ClaimK w p loose mean mg mb f vs news dn K :=
  fun _ _ _ _ _ _ _ _ _ _ _ _ _ _ _ _ _ _ _ _ _ B F X N T hk h1 h2 k => C _ _ _ _ _ _ _ _ _ _ _ _ _ _ _ _ _ _ _ _ _ B F X N T hk h1 h2 fun v news' h' tk' hp F' N' => h _ k v news' hp h' tk' F' N'
theorem ClaimK.use {w : World} {p : Program} {loose : List Str} {mean : ExcName → Option Value} {mg mb : Str → Option Value} {f : Addr} {vs : List Value} {news : List (Addr × Obj)} {dn : Nat} {K : (Value → List (Addr × Obj) → Prop) → Prop} (C : ClaimK w p loose mean mg mb f vs news dn K)
    {dp un : Nat} {gd : Option (List Code)} {cn : Str} {cs : Scope} {a : Addr} {ccd : Value} {cl : List (Str × Addr)} {outer : List Env} {A₀ : Around} {base h₀ : Heap} {L : Addr} {m : Str → Option Value} {hp : Heap} {sg : Array GenState} {sd : Drawn} {stk : Nat} {sos : OsState} {Q E : Value → Shared → Prop}
    (B : Below A₀ base outer h₀) (F : Fr h₀ L hp m) (X : (kf w.params).In h₀) (N : News h₀ L hp news) (T : Top p loose mean mg mb h₀) (hk : cs.kind = .function) (h1 : dp + dn < recursionLimit) (h2 : un + 8 * dn < cLine)
    (ret : K (fun v news' => ∀ h' tk', Fr h₀ L h' m → News h₀ L h' news' → Q v ⟨h', sg, sd, tk', sos⟩)) :
    wpAny (model PySem.Challenge.rw_pf0381_01.row.prog w) (ktrTop dp un gd cn cs L a ccd cl outer) (call (.ref f) vs) Q E ⟨hp, sg, sd, stk, sos⟩ := C _ _ _ _ _ _ _ _ _ _ _ _ _ _ _ _ _ _ _ _ _ B F X N T hk h1 h2 ret
theorem Claim.k1 {w : World} {p : Program} {loose : List Str} {mean : ExcName → Option Value} {mg mb : Str → Option Value} {f : Addr} {vs : List Value} {news : List (Addr × Obj)} {dn : Nat} {V : Tok → Value} {N : List (Addr × Obj)}
    (C : Claim w p loose mean mg mb f vs news dn (fun v news' => (∃ t, v = V t) ∧ news' = N)) : ClaimK w p loose mean mg mb f vs news dn (fun R => ∀ t, R (V t) N) :=
  C.toK (by rintro R k v news' ⟨⟨t, rfl⟩, rfl⟩; exact k t)
theorem Claim.k2 {w : World} {p : Program} {loose : List Str} {mean : ExcName → Option Value} {mg mb : Str → Option Value} {f : Addr} {vs : List Value} {news : List (Addr × Obj)} {dn : Nat} {V : Tok → Tok → Value} {N : Tok → Tok → List (Addr × Obj)}
    (C : Claim w p loose mean mg mb f vs news dn (fun v news' => ∃ t u, v = V t u ∧ news' = N t u)) : ClaimK w p loose mean mg mb f vs news dn (fun R => ∀ t u, R (V t u) (N t u)) :=
  C.toK (by rintro R k v news' ⟨t, u, rfl, rfl⟩; exact k t u)
theorem Claim.k5 {w : World} {p : Program} {loose : List Str} {mean : ExcName → Option Value} {mg mb : Str → Option Value} {f : Addr} {vs : List Value} {news : List (Addr × Obj)} {dn : Nat} {V : Tok → Tok → Tok → Tok → Tok → Value} {N : Tok → Tok → Tok → Tok → Tok → List (Addr × Obj)}
    (C : Claim w p loose mean mg mb f vs news dn (fun v news' => ∃ t a b c d, v = V t a b c d ∧ news' = N t a b c d)) : ClaimK w p loose mean mg mb f vs news dn (fun R => ∀ t a b c d, R (V t a b c d) (N t a b c d)) :=
  C.toK (by rintro R k v news' ⟨t, a, b, c, d, rfl, rfl⟩; exact k t a b c d)
theorem fin {Post : Value → List (Addr × Obj) → Prop} {h₀ : Heap} {L : Addr} {m : Str → Option Value} {sg : Array GenState} {sd : Drawn} {sos : OsState} {Q : Value → Shared → Prop}
    (hret : ∀ v news' h' tk', Post v news' → Fr h₀ L h' m → News h₀ L h' news' → Q v ⟨h', sg, sd, tk', sos⟩) {v : Value} {news' : List (Addr × Obj)} {h' : Heap} {tk' : Nat}
    (F : Fr h₀ L h' m) (N : News h₀ L h' news') (p : Post v news') : Q v ⟨h', sg, sd, tk', sos⟩ := hret v news' h' tk' p F N
theorem sub_front {h₀ h : Heap} {L : Addr} {l l' : List (Addr × Obj)} (N : News h₀ L h l) (hs : ∀ q ∈ l', q ∈ l) : News h₀ L h l' := fun q hq => N q (hs q hq)
/-- the source: a list of two ints -/
abbrev srcO (a b : Int) (ta tb : Tok) (n : Nat) : Obj := listOf [Value.int a ta, Value.int b tb].toArray n
section
variable {α : Type} {M : Model} {A : Around} {x : Sem α} {Q : α → Shared → Prop} {E : Value → Shared → Prop} {h h' : Heap} {g : Array GenState} {d : Drawn} {t tk n k : Nat} {os : OsState}
-- a state's parts read off (the walk's rules nest them)
theorem norm_a (r : wpAny M A x Q E ⟨h', g, d, tk + n + k, os⟩) : wpAny M A x Q E ⟨h', (⟨h, g, d, tk, os⟩ : Shared).gens, (⟨h, g, d, tk, os⟩ : Shared).drawn, (⟨h, g, d, tk, os⟩ : Shared).toks + n + k, (⟨h, g, d, tk, os⟩ : Shared).os⟩ := r
theorem norm_b (r : wpAny M A x Q E ⟨h', g, d, tk + n, os⟩) : wpAny M A x Q E ⟨h', (⟨h, g, d, tk, os⟩ : Shared).gens, (⟨h, g, d, tk, os⟩ : Shared).drawn, (⟨h, g, d, tk, os⟩ : Shared).toks + n, (⟨h, g, d, tk, os⟩ : Shared).os⟩ := r
theorem norm_c (r : wpAny M A x Q E ⟨h', g, d, tk, os⟩) : wpAny M A x Q E ⟨h', (⟨h, g, d, tk, os⟩ : Shared).gens, (⟨h, g, d, tk, os⟩ : Shared).drawn, (⟨h, g, d, tk, os⟩ : Shared).toks, (⟨h, g, d, tk, os⟩ : Shared).os⟩ := r
theorem norm_d (r : wpAny M A x Q E ⟨h', g, d, t, os⟩) : wpAny M A x Q E ⟨h', (⟨h, g, d, tk, os⟩ : Shared).gens, (⟨h, g, d, tk, os⟩ : Shared).drawn, t, (⟨h, g, d, tk, os⟩ : Shared).os⟩ := r
end
end Mine
end
section
open PySem PySem.W PySem.Calls PyProof.Rows PySem.Spec
set_option maxRecDepth 100000
set_option maxHeartbeats 8000000
namespace Mine
theorem anew_Tk : True := by
  w_top off
  exact True.intro
theorem getD0 (a b : Int) : [a, b].getD (Int.toNat 0) 0 = a := rfl
theorem getD1 (a b : Int) : [a, b].getD (Int.toNat 1) 0 = b := rfl
theorem mulOk_of {a b : Int} (h1 : 0 ≤ a) (h2 : a < 2147483648) : IntMulOk a b := PySem.IntMulOk.of_left (PySem.intBits_le_64 (by omega) (by omega))
theorem fm_lo (x : Int) : 0 ≤ x.fmod 2147483647 := PySem.W.fmod_lo x (by decide)
theorem fm_hi (x : Int) : x.fmod 2147483647 < 2147483648 := Int.lt_trans (PySem.W.fmod_hi x (by decide)) (by decide)
local macro_rules | `(tactic| k_all) => `(tactic| assumption)
local macro_rules | `(tactic| mul_fits) => `(tactic| k_dflt (exact mulOk_of (fm_lo _) (fm_hi _)))
theorem take_ok {w : World} {p : Program} {loose : List Str} {mean : ExcName → Option Value} {mg mb : Str → Option Value}
    {src : Addr} {a b : Int} {ta tb : Tok} {n : Nat} {rest : List (Addr × Obj)} {top : Int} {tt : Tok} (ha : 0 ≤ a) (hb : 0 ≤ b) (hb2 : b < 2147483647) (ht : 0 < top) (ht2 : top ≤ 100) (hrest : ∀ q ∈ rest, q.1 ≠ src) :
    Claim w p loose mean mg mb 213 [.ref src, .int top tt] ((src, srcO a b ta tb n) :: rest) 1
      (fun v news' => ∃ d t a' b' ta' tb', v = .int d t ∧ 0 ≤ d ∧ d < top ∧ 0 ≤ a' ∧ a' ≤ a ∧ 0 ≤ b' ∧ b' < 2147483647 ∧ news' = (src, srcO a' b' ta' tb' n) :: rest) := by
  unfold Claim
  k_fill
  intro dp un gd cn cs aa ccd cl outer A₀ base h₀ L m zh zg zd zk zo Q E B F X N T hk hd hu hret
  refine wpAny_call ?_
  k_dflt cell_enter
  k_steps
  · refine hret _ _ _ _ ⟨_, _, _, _, _, _, rfl, ?_, ?_, ?_, ?_, ?_, ?_, rfl⟩ (by k_asm) (by k_asm)
    · exact PySem.W.fmod_lo _ ht
    · exact PySem.W.fmod_hi _ ht
    · rw [getD0, Int.fdiv_eq_ediv_of_nonneg _ (by omega)]; exact Int.ediv_nonneg ha (by omega)
    · rw [getD0, Int.fdiv_eq_ediv_of_nonneg _ (by omega)]; exact Int.ediv_le_self _ ha
    · exact hb
    · exact hb2
  · refine hret _ _ _ _ ⟨_, _, _, _, _, _, rfl, ?_, ?_, ?_, ?_, ?_, ?_, rfl⟩ (by k_asm) (by k_asm)
    · exact PySem.W.fmod_lo _ ht
    · exact PySem.W.fmod_hi _ ht
    · exact ha
    · exact Int.le_refl _
    · exact fm_lo _
    · exact PySem.W.fmod_hi _ (by decide)
theorem take_k7 {w : World} {p : Program} {loose : List Str} {mean : ExcName → Option Value} {mg mb : Str → Option Value} {f : Addr} {vs : List Value} {news : List (Addr × Obj)} {dn : Nat} {a top : Int} {NL : Int → Int → Tok → Tok → List (Addr × Obj)}
    (C : Claim w p loose mean mg mb f vs news dn (fun v news' => ∃ d t a' b' ta' tb', v = .int d t ∧ 0 ≤ d ∧ d < top ∧ 0 ≤ a' ∧ a' ≤ a ∧ 0 ≤ b' ∧ b' < 2147483647 ∧ news' = NL a' b' ta' tb')) :
    ClaimK w p loose mean mg mb f vs news dn (fun R => ∀ (d : Int) (t : Tok) (a' b' : Int) (ta' tb' : Tok), 0 ≤ d → d < top → 0 ≤ a' → a' ≤ a → 0 ≤ b' → b' < 2147483647 → R (.int d t) (NL a' b' ta' tb')) :=
  C.toK (by
    rintro R k v news' ⟨d, t, a', b', ta', tb', rfl, h1, h2, h3, h4, h5, h6, rfl⟩
    exact k d t a' b' ta' tb' h1 h2 h3 h4 h5 h6)
end Mine
end
section
open PySem PySem.W PySem.Calls PyProof.Rows PySem.Spec
set_option maxRecDepth 100000
set_option maxHeartbeats 8000000
namespace Mine
theorem anew_On : True := by
  w_top off
  exact True.intro
theorem ne_cons {d : Addr} {q : Addr × Obj} {l : List (Addr × Obj)} (h : q.1 ≠ d) (hl : ∀ q ∈ l, q.1 ≠ d) : ∀ x ∈ q :: l, x.1 ≠ d := List.forall_mem_cons.mpr ⟨h, hl⟩
theorem item_at {value slice : PySem.Expr} {prog : Program} {w : World} {A : Around} {E : Value → Shared → Prop} {s : Shared} {h₀ : Heap} {L l : Addr} {news : List (Addr × Obj)} {vs : List Value} {n : Nat} {k : Int} {u : Tok} {Q : Value → Shared → Prop} (N : News h₀ L s.heap news) (hm : (l, listOf vs.toArray n) ∈ news)
    (h0 : 0 ≤ k) (h1 : k < (vs.length : Int)) (hfit : vs.length ≤ 1000) (h : ∀ v, v ∈ vs → Q v s)
    (hs : subscripted slice false (.ref l) (.int k u) = operate [.ref l, .int k u] (getItem (.ref l) (.int k u)) := by with_unfolding_all rfl) :
    wpAny (model prog w) A (subscriptTail value slice (.ref l) (.int k u)) Q E s := by
  have hl : s.heap.IsList l vs.toArray := ⟨_, (N _ hm).1, rfl, n, rfl⟩
  have hk : k.toNat < vs.length := by omega
  exact tail_any hl.typeIs slot_list_getitem.lookup (wpAny_getItem_list hl h0 (by omega) (by simp [hk]) (h _ (List.getElem_mem hk))) hs
theorem len_at {prog : Program} {w : World} {A : Around} {E : Value → Shared → Prop} {s : Shared} {h₀ : Heap} {L l : Addr} {news : List (Addr × Obj)} {vs : List Value} {n : Nat} {Q : Value → Shared → Prop} (N : News h₀ L s.heap news) (hm : (l, listOf vs.toArray n) ∈ news)
    (hfit : vs.length ≤ 1000) (h : Q (.int (vs.length : Int) (s.toks + 1)) { s with toks := s.toks + 1 + 1 }) : wpAny (model prog w) A (call (.builtin "len") [.ref l]) Q E s := by
  have hl : s.heap.IsList l vs.toArray := ⟨_, (N _ hm).1, rfl, n, rfl⟩
  have e2 : vs.toArray.size = vs.length := by simp
  exact len_list hl (by rw [e2]; omega) (by rw [e2]; exact h)
theorem one_ok {w : World} {p : Program} {loose : List Str} {mean : ExcName → Option Value} {mg mb : Str → Option Value}
    {src th : Addr} {a b : Int} {ta tb : Tok} {n k : Nat} {vs : List Value} {rest : List (Addr × Obj)} (ha : 0 ≤ a) (hb : 0 ≤ b) (hb2 : b < 2147483647) (hv : 0 < vs.length) (hv2 : vs.length ≤ 100) (hst : th ≠ src) (hrest : ∀ q ∈ rest, q.1 ≠ src) :
    Claim w p loose mean mg mb 220 [.ref src, .ref th] ((src, srcO a b ta tb n) :: (th, listOf vs.toArray k) :: rest) 2
      (fun v news' => ∃ a' b' ta' tb', v ∈ vs ∧ 0 ≤ a' ∧ a' ≤ a ∧ 0 ≤ b' ∧ b' < 2147483647 ∧ news' = (src, srcO a' b' ta' tb' n) :: (th, listOf vs.toArray k) :: rest) := by
  unfold Claim
  k_fill
  intro dp un gd cn cs aa ccd cl outer A₀ base h₀ L m zh zg zd zk zo Q E B F X N T hk hd hu hret
  refine wpAny_call ?_
  k_dflt cell_enter
  repeat' (first | (k_unfold; (try dsimp only)) | (k_end; kc_close) | (first | (with_reducible ((k_here; (with_reducible show wpAny _ _ (call (Value.ref 213) _) _ _ _); (k_dflt (refine' ClaimK.use (take_k7 (take_ok ?a1 ?a2 ?a3 ?a4 ?a5 ?a6)) ?kB ?kF ?kX ?kN ?kT ?kK ?kd ?ku ?_; (case kN => k_asm); (case kF => k_asm); (case kB => k_asm); (case kX => k_asm); (case kT => k_asm); (case kK => first | exact rfl | assumption); (case kd => ktr_room); (case ku => ktr_units); (case a1 => assumption); (case a2 => assumption); (case a3 => assumption); (case a4 => omega); (case a5 => omega); (case a6 => first | assumption | exact ne_cons (by assumption) (by assumption)))); (intro d9 t9 a9 b9 ta9 tb9 hd9 hd8 ha9 ha8 hb9 hb8 h9 tk9 F9 N9); (try dsimp only)))) | (with_reducible ((k_here; (with_reducible show wpAny _ _ (subscriptTail _ _ (Value.ref _) (Value.int _ _)) _ _ _); (with_unfolding_all refine' item_at ?k1 ?k2 ?k3 ?k4 ?k5 ?_ ?k7; (case k1 => k_asm); (case k2 => k_mem); (case k3 => assumption); (case k4 => assumption); (case k5 => omega); (case k7 => with_unfolding_all rfl); k_whole); intro v9 hv9))) | (with_reducible ((k_here; (with_reducible show wpAny _ _ (call (Value.builtin "len") [Value.ref _]) _ _ _); k_dflt (refine' len_at ?k1 ?k2 ?k3 ?_; (case k1 => k_asm); (case k2 => k_mem); (case k3 => omega); k_whole)))) | walk1) | (dsimp only; (first | (with_reducible ((k_here; (with_reducible show wpAny _ _ (call (Value.ref 213) _) _ _ _); (k_dflt (refine' ClaimK.use (take_k7 (take_ok ?a1 ?a2 ?a3 ?a4 ?a5 ?a6)) ?kB ?kF ?kX ?kN ?kT ?kK ?kd ?ku ?_; (case kN => k_asm); (case kF => k_asm); (case kB => k_asm); (case kX => k_asm); (case kT => k_asm); (case kK => first | exact rfl | assumption); (case kd => ktr_room); (case ku => ktr_units); (case a1 => assumption); (case a2 => assumption); (case a3 => assumption); (case a4 => omega); (case a5 => omega); (case a6 => first | assumption | exact ne_cons (by assumption) (by assumption)))); (intro d9 t9 a9 b9 ta9 tb9 hd9 hd8 ha9 ha8 hb9 hb8 h9 tk9 F9 N9); (try dsimp only)))) | (with_reducible ((k_here; (with_reducible show wpAny _ _ (subscriptTail _ _ (Value.ref _) (Value.int _ _)) _ _ _); (with_unfolding_all refine' item_at ?k1 ?k2 ?k3 ?k4 ?k5 ?_ ?k7; (case k1 => k_asm); (case k2 => k_mem); (case k3 => assumption); (case k4 => assumption); (case k5 => omega); (case k7 => with_unfolding_all rfl); k_whole); intro v9 hv9))) | (with_reducible ((k_here; (with_reducible show wpAny _ _ (call (Value.builtin "len") [Value.ref _]) _ _ _); k_dflt (refine' len_at ?k1 ?k2 ?k3 ?_; (case k1 => k_asm); (case k2 => k_mem); (case k3 => omega); k_whole)))) | walk1)) | (leave1; walk_say "STEP leave1"; (try dsimp only)) | fail "no step")
  refine fin hret (by k_asm) (by k_asm) ?_
  exact ⟨_, _, _, _, by assumption, by assumption, by assumption, by assumption, by assumption, rfl⟩
end Mine
end
section
open PySem PySem.W PySem.Calls PyProof.Rows PySem.Spec
set_option maxRecDepth 100000
set_option maxHeartbeats 8000000
namespace Mine
theorem anew_Fi : True := by
  w_top off
  exact True.intro
structure BkT where
  h1 : Int
  h2 : Int
  h3 : Int
  h4 : Int
  k1 : Tok
  k2 : Tok
  k3 : Tok
  k4 : Tok
  t1 : Tok
  t2 : Tok
abbrev bkO (r u g t : Int) (K : BkT) (t3 t4 : Tok) : Obj :=
  dictOf [⟨K.h1, .str "rate" K.k1, .int r K.t1⟩, ⟨K.h2, .str "burst" K.k2, .int u K.t2⟩, ⟨K.h3, .str "grains" K.k3, .int g t3⟩, ⟨K.h4, .str "time" K.k4, .int t t4⟩] 4
def fG (r U g t now : Int) : Int := if now ≤ t then g else (if U < g + r * (now - t) then U else g + r * (now - t))
def fT (t now : Int) : Int := if now ≤ t then t else now
theorem fG_old {r U g t now : Int} (h : now ≤ t) : fG r U g t now = g := if_pos h
theorem fT_old {t now : Int} (h : now ≤ t) : fT t now = t := if_pos h
theorem fG_new {r U g t now : Int} (h : ¬ now ≤ t) : fG r U g t now = if U < g + r * (now - t) then U else g + r * (now - t) := if_neg h
theorem fT_new {t now : Int} (h : ¬ now ≤ t) : fT t now = now := if_neg h
/-- what is asked of a bucket's numbers -/
structure BkOk (r u g t : Int) : Prop where
  r0 : 0 ≤ r
  r1 : r ≤ 1000
  u0 : 0 ≤ u
  u1 : u ≤ 1000
  g0 : 0 ≤ g
  g1 : g ≤ 1000000
  t0 : 0 ≤ t
  t1 : t ≤ 10000
local macro_rules | `(tactic| k_all) => `(tactic| assumption)
theorem has_ok {w : World} {p : Program} {loose : List Str} {mean : ExcName → Option Value} {mg mb : Str → Option Value}
    {b d : Addr} {r u g t : Int} {K : BkT} {t3 t4 : Tok} {rest : List (Addr × Obj)} {size now : Int} {ts tn : Tok} (hB : BkOk r u g t) (hn : 0 ≤ now) (hn2 : now ≤ 10000)
    (hs : 0 ≤ size) (hs2 : size ≤ 1000) (hbd : b ≠ d) (hrest : ∀ q ∈ rest, q.1 ≠ d) :
    Claim w p loose mean mg mb 96 [.ref b, .int size ts, .int now tn] ((d, bkO r u g t K t3 t4) :: (b, instObj 127 d) :: rest) 2
      (fun v news' => ∃ t3' t4', v = .bool (decide (size * 100 ≤ fG r (u * 100) g t now)) ∧ news' = (d, bkO r u (fG r (u * 100) g t now) (fT t now) K t3' t4') :: (b, instObj 127 d) :: rest) := by
  unfold Claim
  k_fill
  intro dp un gd cn cs aa ccd cl outer A₀ base h₀ L m zh zg zd zk zo Q E B F X N T hk hd hu hret
  obtain ⟨r0, r1, u0, u1, g0, g1, t0, t1⟩ := hB
  refine wpAny_call ?_
  k_dflt cell_enter
  repeat' (first | (k_unfold; (try dsimp only)) | (k_end; kc_close) | (first | (with_reducible ((k_here; (with_reducible show wpAny _ _ (call (Value.ref _) _) _ _ _); (refine wpAny_call ?_); k_dflt (refine' code_def ?k1 ?k2 ?k3 ?k4 ?k5 ?kA ?kF ?kK ?k6 ?k7 ?k8 ?k9 ?kB ?_ ?c2 ?c3 ?c4 ?c5; (case kA => exact rfl); (case kF => exact rfl); (case kK => first | exact rfl | assumption); (case k1 => k_asm); (case k2 => k_asm); (case k3 => k_asm); (case k4 => k_asm); (case k5 => k_asm); (case k6 => k_is); (case k7 => k_is); (case k8 => ktr_room); (case k9 => exact BindsTo.of_eq rfl); (case c5 => decide); (case kB => exact locs rfl); (case c2 => exact rfl); (case c3 => exact rfl); (case c4 => exact rfl); k_whole; intro g' L' h' FG' F' N' B' X' T'; (try dsimp only); (try k_lift B'); (try k_fold))))) | walk1) | (dsimp only; (first | (with_reducible ((k_here; (with_reducible show wpAny _ _ (call (Value.ref _) _) _ _ _); (refine wpAny_call ?_); k_dflt (refine' code_def ?k1 ?k2 ?k3 ?k4 ?k5 ?kA ?kF ?kK ?k6 ?k7 ?k8 ?k9 ?kB ?_ ?c2 ?c3 ?c4 ?c5; (case kA => exact rfl); (case kF => exact rfl); (case kK => first | exact rfl | assumption); (case k1 => k_asm); (case k2 => k_asm); (case k3 => k_asm); (case k4 => k_asm); (case k5 => k_asm); (case k6 => k_is); (case k7 => k_is); (case k8 => ktr_room); (case k9 => exact BindsTo.of_eq rfl); (case c5 => decide); (case kB => exact locs rfl); (case c2 => exact rfl); (case c3 => exact rfl); (case c4 => exact rfl); k_whole; intro g' L' h' FG' F' N' B' X' T'; (try dsimp only); (try k_lift B'); (try k_fold))))) | walk1)) | (leave1; walk_say "STEP leave1"; (try dsimp only)) | fail "no step")
  · refine fin hret (by k_asm) (by k_asm) ?_
    rw [fG_old (by omega), fT_old (by omega)]
    exact ⟨_, _, rfl, rfl⟩
  · refine fin hret (by k_asm) (by k_asm) ?_
    rw [fG_new (by omega), fT_new (by omega)]
    exact ⟨_, _, rfl, rfl⟩
theorem BkOk.next {r u g t now : Int} (h : BkOk r u g t) (h1 : 0 ≤ now) (h2 : now ≤ 10000) : BkOk r u (fG r (u * 100) g t now) (fT t now) := by
  obtain ⟨r0, r1, u0, u1, g0, g1, t0, t1⟩ := h
  by_cases e : now ≤ t
  · rw [fG_old e, fT_old e]; exact ⟨r0, r1, u0, u1, g0, g1, t0, t1⟩
  · have hm : 0 ≤ r * (now - t) := Int.mul_nonneg r0 (by omega)
    rw [fG_new e, fT_new e]
    split
    · exact ⟨r0, r1, u0, u1, by omega, by omega, h1, h2⟩
    · exact ⟨r0, r1, u0, u1, by omega, by omega, h1, h2⟩
theorem BkOk.less {r u g t x : Int} (h : BkOk r u g t) (h1 : 0 ≤ x) (h2 : x ≤ g) : BkOk r u (g - x) t := by
  obtain ⟨r0, r1, u0, u1, g0, g1, t0, t1⟩ := h
  exact ⟨r0, r1, u0, u1, by omega, by omega, t0, t1⟩
theorem takeb_ok {w : World} {p : Program} {loose : List Str} {mean : ExcName → Option Value} {mg mb : Str → Option Value}
    {b d : Addr} {r u g t : Int} {K : BkT} {t3 t4 : Tok} {rest : List (Addr × Obj)} {size now : Int} {ts tn : Tok} (hB : BkOk r u g t) (hn : 0 ≤ now) (hn2 : now ≤ 10000)
    (hs : 0 ≤ size) (hs2 : size ≤ 1000) (hbd : b ≠ d) (hrest : ∀ q ∈ rest, q.1 ≠ d) :
    Claim w p loose mean mg mb 110 [.ref b, .int size ts, .int now tn] ((d, bkO r u g t K t3 t4) :: (b, instObj 127 d) :: rest) 3
      (fun v news' => ∃ t3' t4', v = .bool (decide (size * 100 ≤ fG r (u * 100) g t now)) ∧ news' = (d, bkO r u (if size * 100 ≤ fG r (u * 100) g t now then fG r (u * 100) g t now - size * 100 else fG r (u * 100) g t now) (fT t now) K t3' t4') :: (b, instObj 127 d) :: rest) := by
  unfold Claim
  k_fill
  intro dp un gd cn cs aa ccd cl outer A₀ base h₀ L m zh zg zd zk zo Q E B F X N T hk hd hu hret
  refine wpAny_call ?_
  k_dflt cell_enter
  repeat' (first | (k_unfold; (try dsimp only)) | (k_end; kc_close) | (first | (with_reducible ((k_here; (with_reducible show wpAny _ _ (call (Value.ref 96) _) _ _ _); (k_dflt (refine' ClaimK.use (Claim.k2 (has_ok ?a1 ?a2 ?a3 ?a4 ?a5 ?a6 ?a7)) ?kB ?kF ?kX ?kN ?kT ?kK ?kd ?ku ?_; (case kN => k_asm); (case kF => k_asm); (case kB => k_asm); (case kX => k_asm); (case kT => k_asm); (case kK => first | exact rfl | assumption); (case kd => ktr_room); (case ku => ktr_units); (case a1 => assumption); (case a2 => assumption); (case a3 => assumption); (case a4 => assumption); (case a5 => assumption); (case a6 => assumption); (case a7 => assumption))); (intro t9 u9 h9 tk9 F9 N9); (try dsimp only)))) | (with_reducible ((k_here; (with_reducible show wpAny _ _ (call (Value.ref _) _) _ _ _); (refine wpAny_call ?_); k_dflt (refine' code_def ?k1 ?k2 ?k3 ?k4 ?k5 ?kA ?kF ?kK ?k6 ?k7 ?k8 ?k9 ?kB ?_ ?c2 ?c3 ?c4 ?c5; (case kA => exact rfl); (case kF => exact rfl); (case kK => first | exact rfl | assumption); (case k1 => k_asm); (case k2 => k_asm); (case k3 => k_asm); (case k4 => k_asm); (case k5 => k_asm); (case k6 => k_is); (case k7 => k_is); (case k8 => ktr_room); (case k9 => exact BindsTo.of_eq rfl); (case c5 => decide); (case kB => exact locs rfl); (case c2 => exact rfl); (case c3 => exact rfl); (case c4 => exact rfl); k_whole; intro g' L' h' FG' F' N' B' X' T'; (try dsimp only); (try k_lift B'); (try k_fold))))) | walk1) | (dsimp only; (first | (with_reducible ((k_here; (with_reducible show wpAny _ _ (call (Value.ref 96) _) _ _ _); (k_dflt (refine' ClaimK.use (Claim.k2 (has_ok ?a1 ?a2 ?a3 ?a4 ?a5 ?a6 ?a7)) ?kB ?kF ?kX ?kN ?kT ?kK ?kd ?ku ?_; (case kN => k_asm); (case kF => k_asm); (case kB => k_asm); (case kX => k_asm); (case kT => k_asm); (case kK => first | exact rfl | assumption); (case kd => ktr_room); (case ku => ktr_units); (case a1 => assumption); (case a2 => assumption); (case a3 => assumption); (case a4 => assumption); (case a5 => assumption); (case a6 => assumption); (case a7 => assumption))); (intro t9 u9 h9 tk9 F9 N9); (try dsimp only)))) | (with_reducible ((k_here; (with_reducible show wpAny _ _ (call (Value.ref _) _) _ _ _); (refine wpAny_call ?_); k_dflt (refine' code_def ?k1 ?k2 ?k3 ?k4 ?k5 ?kA ?kF ?kK ?k6 ?k7 ?k8 ?k9 ?kB ?_ ?c2 ?c3 ?c4 ?c5; (case kA => exact rfl); (case kF => exact rfl); (case kK => first | exact rfl | assumption); (case k1 => k_asm); (case k2 => k_asm); (case k3 => k_asm); (case k4 => k_asm); (case k5 => k_asm); (case k6 => k_is); (case k7 => k_is); (case k8 => ktr_room); (case k9 => exact BindsTo.of_eq rfl); (case c5 => decide); (case kB => exact locs rfl); (case c2 => exact rfl); (case c3 => exact rfl); (case c4 => exact rfl); k_whole; intro g' L' h' FG' F' N' B' X' T'; (try dsimp only); (try k_lift B'); (try k_fold))))) | walk1)) | (leave1; walk_say "STEP leave1"; (try dsimp only)) | fail "no step")
  · refine fin hret (by k_asm) (by k_asm) ?_
    have hc : size * 100 ≤ fG r (u * 100) g t now := by assumption
    rw [if_pos hc, decide_eq_true hc]
    exact ⟨_, _, rfl, rfl⟩
  · refine fin hret (by k_asm) (by k_asm) ?_
    have hc : ¬ size * 100 ≤ fG r (u * 100) g t now := by assumption
    rw [if_neg hc, decide_eq_false hc]
    exact ⟨_, _, rfl, rfl⟩
end Mine
end
section
open PySem PySem.W PySem.Calls PyProof.Rows PySem.Spec
set_option maxRecDepth 100000
set_option maxHeartbeats 8000000
namespace Mine
theorem anew_Cb : True := by
  w_top off
  exact True.intro
inductive Col where
  | g
  | y
  | r
def Col.str : Col → Str
  | .g => Str.ofString "green"
  | .y => Str.ofString "yellow"
  | .r => Str.ofString "red"
theorem lit_g : (Str.mk #[103, 114, 101, 101, 110]) = Str.ofString "green" := by decide +kernel
theorem lit_y : (Str.mk #[121, 101, 108, 108, 111, 119]) = Str.ofString "yellow" := by decide +kernel
theorem lit_r : (Str.mk #[114, 101, 100]) = Str.ofString "red" := by decide +kernel
/-- what a frame comes with, and what that is taken for -/
inductive Come : Bool → Value → Col → Prop where
  | blind (v : Value) : Come false v .g
  | none : Come true .none .g
  | told (c : Col) (t : Tok) : Come true (.str c.str t) c
theorem before_ok {w : World} {p : Program} {loose : List Str} {mean : ExcName → Option Value} {mg mb : Str → Option Value} {news : List (Addr × Obj)} {aw : Bool} {bv : Value} {c : Col} (hc : Come aw bv c) :
    Claim w p loose mean mg mb 139 [bv, .bool aw] news 1 (fun v news' => (∃ t, v = .str c.str t) ∧ news' = news) := by
  unfold Claim
  k_fill
  intro dp un gd cn cs aa ccd cl outer A₀ base h₀ L m zh zg zd zk zo Q E B F X N T hk hd hu hret
  cases hc with
  | blind v =>
    refine wpAny_call ?_
    k_dflt cell_enter
    repeat' (first | (k_unfold; (try dsimp only)) | (k_end; kc_close) | (first | (with_reducible ((k_here; (with_reducible show wpAny _ _ (compareOp CmpOp.NotIn (Value.str _ _) (Value.ref 132)) _ _ _); (with_unfolding_all refine' notin_tuple_strs ?k1 ?k2 ?_; (case k1 => exact tupK (Frag.In.keeps (by k_asm) (Fr.keep (by k_asm))) (by k_is)); (case k2 => kde_strs); k_whole)))) | walk1) | (dsimp only; (first | (with_reducible ((k_here; (with_reducible show wpAny _ _ (compareOp CmpOp.NotIn (Value.str _ _) (Value.ref 132)) _ _ _); (with_unfolding_all refine' notin_tuple_strs ?k1 ?k2 ?_; (case k1 => exact tupK (Frag.In.keeps (by k_asm) (Fr.keep (by k_asm))) (by k_is)); (case k2 => kde_strs); k_whole)))) | walk1)) | (leave1; walk_say "STEP leave1"; (try dsimp only)) | fail "no step")
    exact fin hret (by k_asm) (by k_asm) ⟨⟨_, rfl⟩, rfl⟩
  | none =>
    refine wpAny_call ?_
    k_dflt cell_enter
    repeat' (first | (k_unfold; (try dsimp only)) | (k_end; kc_close) | (first | (with_reducible ((k_here; (with_reducible show wpAny _ _ (compareOp CmpOp.NotIn (Value.str _ _) (Value.ref 132)) _ _ _); (with_unfolding_all refine' notin_tuple_strs ?k1 ?k2 ?_; (case k1 => exact tupK (Frag.In.keeps (by k_asm) (Fr.keep (by k_asm))) (by k_is)); (case k2 => kde_strs); k_whole)))) | walk1) | (dsimp only; (first | (with_reducible ((k_here; (with_reducible show wpAny _ _ (compareOp CmpOp.NotIn (Value.str _ _) (Value.ref 132)) _ _ _); (with_unfolding_all refine' notin_tuple_strs ?k1 ?k2 ?_; (case k1 => exact tupK (Frag.In.keeps (by k_asm) (Fr.keep (by k_asm))) (by k_is)); (case k2 => kde_strs); k_whole)))) | walk1)) | (leave1; walk_say "STEP leave1"; (try dsimp only)) | fail "no step")
    exact fin hret (by k_asm) (by k_asm) ⟨⟨_, rfl⟩, rfl⟩
  | told c t =>
    cases c <;> dsimp only [Col.str] at *
    all_goals (
      refine wpAny_call ?_
      k_dflt cell_enter
      repeat' (first | (k_unfold; (try dsimp only)) | (k_end; kc_close) | (first | (with_reducible ((k_here; (with_reducible show wpAny _ _ (compareOp CmpOp.NotIn (Value.str _ _) (Value.ref 132)) _ _ _); (with_unfolding_all refine' notin_tuple_strs ?k1 ?k2 ?_; (case k1 => exact tupK (Frag.In.keeps (by k_asm) (Fr.keep (by k_asm))) (by k_is)); (case k2 => kde_strs); k_whole)))) | walk1) | (dsimp only; (first | (with_reducible ((k_here; (with_reducible show wpAny _ _ (compareOp CmpOp.NotIn (Value.str _ _) (Value.ref 132)) _ _ _); (with_unfolding_all refine' notin_tuple_strs ?k1 ?k2 ?_; (case k1 => exact tupK (Frag.In.keeps (by k_asm) (Fr.keep (by k_asm))) (by k_is)); (case k2 => kde_strs); k_whole)))) | walk1)) | (leave1; walk_say "STEP leave1"; (try dsimp only)) | fail "no step")
      exact fin hret (by k_asm) (by k_asm) ⟨⟨_, rfl⟩, rfl⟩)
end Mine
end
section
open PySem PySem.W PySem.Calls PyProof.Rows PySem.Spec
set_option maxRecDepth 100000
set_option maxHeartbeats 8000000
namespace Mine
theorem anew_Co : True := by
  w_top off
  exact True.intro
structure TB where
  g1 : Int
  t1 : Int
  g2 : Int
  t2 : Int
def step (r1 u1 r2 u2 : Int) (c : Col) (size now : Int) (B : TB) : Col × TB :=
  match c with
  | .r => (.r, B)
  | .y => if size * 100 ≤ fG r2 (u2 * 100) B.g2 B.t2 now then (.y, { B with g2 := fG r2 (u2 * 100) B.g2 B.t2 now - size * 100, t2 := fT B.t2 now }) else (.r, { B with g2 := fG r2 (u2 * 100) B.g2 B.t2 now, t2 := fT B.t2 now })
  | .g => if size * 100 ≤ fG r2 (u2 * 100) B.g2 B.t2 now then
      (if size * 100 ≤ fG r1 (u1 * 100) B.g1 B.t1 now then (.g, ⟨fG r1 (u1 * 100) B.g1 B.t1 now - size * 100, fT B.t1 now, fG r2 (u2 * 100) B.g2 B.t2 now - size * 100, fT B.t2 now⟩)
        else (.y, ⟨fG r1 (u1 * 100) B.g1 B.t1 now, fT B.t1 now, fG r2 (u2 * 100) B.g2 B.t2 now - size * 100, fT B.t2 now⟩))
      else (.r, { B with g2 := fG r2 (u2 * 100) B.g2 B.t2 now, t2 := fT B.t2 now })
structure PlT where
  h1 : Int
  h2 : Int
  h3 : Int
  k1 : Tok
  k2 : Tok
  k3 : Tok
abbrev plO (K : PlT) (b1 b2 : Addr) (aw : Bool) : Obj :=
  dictOf [⟨K.h1, .str "first" K.k1, .ref b1⟩, ⟨K.h2, .str "peak" K.k2, .ref b2⟩, ⟨K.h3, .str "is_aware" K.k3, .bool aw⟩] 3
/-- where a policer lies -/
structure Pl where
  pp : Addr
  pd : Addr
  b1 : Addr
  d1 : Addr
  b2 : Addr
  d2 : Addr
/-- the places differ where it matters -/
structure Sep (a : Pl) (rest : List (Addr × Obj)) : Prop where
  a1 : a.d1 ≠ a.d2
  a2 : a.b1 ≠ a.d1
  a3 : a.b1 ≠ a.d2
  a4 : a.b2 ≠ a.d1
  a5 : a.b2 ≠ a.d2
  a6 : a.pp ≠ a.d1
  a7 : a.pp ≠ a.d2
  a8 : a.pd ≠ a.d1
  a9 : a.pd ≠ a.d2
  r1 : ∀ q ∈ rest, q.1 ≠ a.d1
  r2 : ∀ q ∈ rest, q.1 ≠ a.d2
/-- the policer's part of the ledger -/
abbrev plL (a : Pl) (KP : PlT) (K1 K2 : BkT) (aw : Bool) (r1 u1 r2 u2 : Int) (B : TB) (x1 x2 x3 x4 : Tok) (rest : List (Addr × Obj)) : List (Addr × Obj) :=
  (a.d2, bkO r2 u2 B.g2 B.t2 K2 x1 x2) :: (a.b2, instObj 127 a.d2) :: (a.d1, bkO r1 u1 B.g1 B.t1 K1 x3 x4) :: (a.b1, instObj 127 a.d1) :: (a.pp, instObj 195 a.pd) :: (a.pd, plO KP a.b1 a.b2 aw) :: rest
theorem swap4 {h₀ h : Heap} {L : Addr} {a b c d : Addr × Obj} {r : List (Addr × Obj)} (N : News h₀ L h (a :: b :: c :: d :: r)) : News h₀ L h (c :: d :: a :: b :: r) :=
  sub_front N fun q hq => by
    simp only [List.mem_cons] at hq ⊢
    rcases hq with h | h | h | h | h <;> simp [h]
local macro_rules | `(tactic| k_all) => `(tactic| assumption)
theorem color_ok {w : World} {p : Program} {loose : List Str} {mean : ExcName → Option Value} {mg mb : Str → Option Value} {pp pd b1 d1 b2 d2 : Addr} {KP : PlT} {K1 K2 : BkT} {aw : Bool} {r1 u1 r2 u2 g1 t1 g2 t2 : Int} {x1 x2 x3 x4 : Tok} {rest : List (Addr × Obj)}
    {size now : Int} {ts tn : Tok} {bv : Value} {c : Col} (hS : Sep ⟨pp, pd, b1, d1, b2, d2⟩ rest) (hB1 : BkOk r1 u1 g1 t1) (hB2 : BkOk r2 u2 g2 t2) (hn : 0 ≤ now) (hn2 : now ≤ 10000) (hs : 0 ≤ size) (hs2 : size ≤ 1000) (hc : Come aw bv c) :
    Claim w p loose mean mg mb 192 [.ref pp, .int size ts, .int now tn, bv] (plL ⟨pp, pd, b1, d1, b2, d2⟩ KP K1 K2 aw r1 u1 r2 u2 ⟨g1, t1, g2, t2⟩ x1 x2 x3 x4 rest) 4
      (fun v news' => ∃ t y1 y2 y3 y4, v = .str (step r1 u1 r2 u2 c size now ⟨g1, t1, g2, t2⟩).1.str t ∧ news' = plL ⟨pp, pd, b1, d1, b2, d2⟩ KP K1 K2 aw r1 u1 r2 u2 (step r1 u1 r2 u2 c size now ⟨g1, t1, g2, t2⟩).2 y1 y2 y3 y4 rest) := by
  unfold Claim
  k_fill
  intro dp un gd cn cs aa ccd cl outer A₀ base h₀ L m zh zg zd zk zo Q E B F X N T hk hd hu hret
  obtain ⟨s1, s2, s3, s4, s5, s6, s7, s8, s9, s10, s11⟩ := hS
  dsimp only at s1 s2 s3 s4 s5 s6 s7 s8 s9 s10 s11
  dsimp only [plL] at N
  cases c <;> dsimp only [Col.str] at *
  · refine wpAny_call ?_
    k_dflt ((refine' code_def ?k1 ?k2 ?k3 ?k4 ?k5 ?kA ?kF ?kK ?k6 ?k7 ?k8 ?k9 ?kB ?_ ?c2 ?c3 ?c4 ?c5; (case kA => exact rfl); (case kF => exact rfl); (case kK => first | exact rfl | assumption); (case k1 => k_asm); (case k2 => k_asm); (case k3 => k_asm); (case k4 => k_asm); (case k5 => k_asm); (case k6 => k_is); (case k7 => k_is); (case k8 => ktr_room); (case k9 => first | exact BindsTo.of_eq rfl | exact binds_K (by k_in) rfl (by k_is) rfl rfl rfl); (case c5 => decide); (case kB => exact locs rfl); (case c2 => exact rfl); (case c3 => exact rfl); (case c4 => exact rfl); k_whole; intro g' L' h' FG' F' N' B' X' T'; (try dsimp only); (try k_lift B'); (try k_fold)))
    repeat' (first | (k_unfold; (try dsimp only)) | (k_end; kc_close) | (first | (with_reducible ((k_here; (with_reducible show wpAny _ _ (call (Value.ref 110) _) _ _ _); (k_dflt (refine' ClaimK.use (Claim.k2 (takeb_ok ?a1 ?a2 ?a3 ?a4 ?a5 ?a6 ?a7)) ?kB ?kF ?kX ?kN ?kT ?kK ?kd ?ku ?_; (case kN => exact swap4 (by k_asm)); (case kF => k_asm); (case kB => k_asm); (case kX => k_asm); (case kT => k_asm); (case kK => first | exact rfl | assumption); (case kd => ktr_room); (case ku => ktr_units); (case a1 => assumption); (case a2 => assumption); (case a3 => assumption); (case a4 => assumption); (case a5 => assumption); (case a6 => assumption); (case a7 => repeat' (first | assumption | exact Ne.symm (by assumption) | refine ne_cons ?_ ?_)))); (intro t9 u9 h9 tk9 F9 N9); (try dsimp only)))) | (with_reducible ((k_here; (with_reducible show wpAny _ _ (call (Value.ref 96) _) _ _ _); (k_dflt (refine' ClaimK.use (Claim.k2 (has_ok ?a1 ?a2 ?a3 ?a4 ?a5 ?a6 ?a7)) ?kB ?kF ?kX ?kN ?kT ?kK ?kd ?ku ?_; (case kN => k_asm); (case kF => k_asm); (case kB => k_asm); (case kX => k_asm); (case kT => k_asm); (case kK => first | exact rfl | assumption); (case kd => ktr_room); (case ku => ktr_units); (case a1 => assumption); (case a2 => assumption); (case a3 => assumption); (case a4 => assumption); (case a5 => assumption); (case a6 => assumption); (case a7 => repeat' (first | assumption | exact Ne.symm (by assumption) | refine ne_cons ?_ ?_)))); (intro t9 u9 h9 tk9 F9 N9); (try dsimp only)))) | (with_reducible ((k_here; (with_reducible show wpAny _ _ (call (Value.ref 139) _) _ _ _); (k_dflt (refine' ClaimK.use (Claim.k1 (before_ok ?a1)) ?kB ?kF ?kX ?kN ?kT ?kK ?kd ?ku ?_; (case kN => k_asm); (case kF => k_asm); (case kB => k_asm); (case kX => k_asm); (case kT => k_asm); (case kK => first | exact rfl | assumption); (case kd => ktr_room); (case ku => ktr_units); (case a1 => assumption))); (intro t9 h9 tk9 F9 N9); (try dsimp only [Col.str])))) | (with_reducible ((k_here; (with_reducible show wpAny _ _ (call (Value.ref 103) _) _ _ _); (refine wpAny_call ?_); k_dflt (refine' code_def ?k1 ?k2 ?k3 ?k4 ?k5 ?kA ?kF ?kK ?k6 ?k7 ?k8 ?k9 ?kB ?_ ?c2 ?c3 ?c4 ?c5; (case kA => exact rfl); (case kF => exact rfl); (case kK => first | exact rfl | assumption); (case k1 => k_asm); (case k2 => k_asm); (case k3 => k_asm); (case k4 => k_asm); (case k5 => k_asm); (case k6 => k_is); (case k7 => k_is); (case k8 => ktr_room); (case k9 => first | exact BindsTo.of_eq rfl | exact binds_K (by k_in) rfl (by k_is) rfl rfl rfl); (case c5 => decide); (case kB => exact locs rfl); (case c2 => exact rfl); (case c3 => exact rfl); (case c4 => exact rfl); k_whole; intro g' L' h' FG' F' N' B' X' T'; (try dsimp only); (try k_lift B'); (try k_fold))))) | walk1) | (dsimp only; (first | (with_reducible ((k_here; (with_reducible show wpAny _ _ (call (Value.ref 110) _) _ _ _); (k_dflt (refine' ClaimK.use (Claim.k2 (takeb_ok ?a1 ?a2 ?a3 ?a4 ?a5 ?a6 ?a7)) ?kB ?kF ?kX ?kN ?kT ?kK ?kd ?ku ?_; (case kN => exact swap4 (by k_asm)); (case kF => k_asm); (case kB => k_asm); (case kX => k_asm); (case kT => k_asm); (case kK => first | exact rfl | assumption); (case kd => ktr_room); (case ku => ktr_units); (case a1 => assumption); (case a2 => assumption); (case a3 => assumption); (case a4 => assumption); (case a5 => assumption); (case a6 => assumption); (case a7 => repeat' (first | assumption | exact Ne.symm (by assumption) | refine ne_cons ?_ ?_)))); (intro t9 u9 h9 tk9 F9 N9); (try dsimp only)))) | (with_reducible ((k_here; (with_reducible show wpAny _ _ (call (Value.ref 96) _) _ _ _); (k_dflt (refine' ClaimK.use (Claim.k2 (has_ok ?a1 ?a2 ?a3 ?a4 ?a5 ?a6 ?a7)) ?kB ?kF ?kX ?kN ?kT ?kK ?kd ?ku ?_; (case kN => k_asm); (case kF => k_asm); (case kB => k_asm); (case kX => k_asm); (case kT => k_asm); (case kK => first | exact rfl | assumption); (case kd => ktr_room); (case ku => ktr_units); (case a1 => assumption); (case a2 => assumption); (case a3 => assumption); (case a4 => assumption); (case a5 => assumption); (case a6 => assumption); (case a7 => repeat' (first | assumption | exact Ne.symm (by assumption) | refine ne_cons ?_ ?_)))); (intro t9 u9 h9 tk9 F9 N9); (try dsimp only)))) | (with_reducible ((k_here; (with_reducible show wpAny _ _ (call (Value.ref 139) _) _ _ _); (k_dflt (refine' ClaimK.use (Claim.k1 (before_ok ?a1)) ?kB ?kF ?kX ?kN ?kT ?kK ?kd ?ku ?_; (case kN => k_asm); (case kF => k_asm); (case kB => k_asm); (case kX => k_asm); (case kT => k_asm); (case kK => first | exact rfl | assumption); (case kd => ktr_room); (case ku => ktr_units); (case a1 => assumption))); (intro t9 h9 tk9 F9 N9); (try dsimp only [Col.str])))) | (with_reducible ((k_here; (with_reducible show wpAny _ _ (call (Value.ref 103) _) _ _ _); (refine wpAny_call ?_); k_dflt (refine' code_def ?k1 ?k2 ?k3 ?k4 ?k5 ?kA ?kF ?kK ?k6 ?k7 ?k8 ?k9 ?kB ?_ ?c2 ?c3 ?c4 ?c5; (case kA => exact rfl); (case kF => exact rfl); (case kK => first | exact rfl | assumption); (case k1 => k_asm); (case k2 => k_asm); (case k3 => k_asm); (case k4 => k_asm); (case k5 => k_asm); (case k6 => k_is); (case k7 => k_is); (case k8 => ktr_room); (case k9 => first | exact BindsTo.of_eq rfl | exact binds_K (by k_in) rfl (by k_is) rfl rfl rfl); (case c5 => decide); (case kB => exact locs rfl); (case c2 => exact rfl); (case c3 => exact rfl); (case c4 => exact rfl); k_whole; intro g' L' h' FG' F' N' B' X' T'; (try dsimp only); (try k_lift B'); (try k_fold))))) | walk1)) | (leave1; walk_say "STEP leave1"; (try dsimp only)) | fail "no step")
    · refine fin hret (by k_asm) (swap4 (by k_asm)) ?_
      have z2 : size * 100 ≤ fG r2 (u2 * 100) g2 t2 now := by assumption
      have z1 : size * 100 ≤ fG r1 (u1 * 100) g1 t1 now := by assumption
      have e : step r1 u1 r2 u2 .g size now ⟨g1, t1, g2, t2⟩ = (.g, ⟨fG r1 (u1 * 100) g1 t1 now - size * 100, fT t1 now, fG r2 (u2 * 100) g2 t2 now - size * 100, fT t2 now⟩) := by
        unfold step; dsimp only; rw [if_pos z2, if_pos z1]
      rw [e, if_pos z1]
      exact ⟨_, _, _, _, _, rfl, rfl⟩
    · refine fin hret (by k_asm) (swap4 (by k_asm)) ?_
      have z2 : size * 100 ≤ fG r2 (u2 * 100) g2 t2 now := by assumption
      have z1 : ¬ size * 100 ≤ fG r1 (u1 * 100) g1 t1 now := by assumption
      have e : step r1 u1 r2 u2 .g size now ⟨g1, t1, g2, t2⟩ = (.y, ⟨fG r1 (u1 * 100) g1 t1 now, fT t1 now, fG r2 (u2 * 100) g2 t2 now - size * 100, fT t2 now⟩) := by
        unfold step; dsimp only; rw [if_pos z2, if_neg z1]
      rw [e, if_neg z1]
      exact ⟨_, _, _, _, _, rfl, rfl⟩
    · refine fin hret (by k_asm) (by k_asm) ?_
      have z2 : ¬ size * 100 ≤ fG r2 (u2 * 100) g2 t2 now := by assumption
      have e : step r1 u1 r2 u2 .g size now ⟨g1, t1, g2, t2⟩ = (.r, ⟨g1, t1, fG r2 (u2 * 100) g2 t2 now, fT t2 now⟩) := by
        unfold step; dsimp only; rw [if_neg z2]
      rw [e]
      exact ⟨_, _, _, _, _, rfl, rfl⟩
  · refine wpAny_call ?_
    k_dflt ((refine' code_def ?k1 ?k2 ?k3 ?k4 ?k5 ?kA ?kF ?kK ?k6 ?k7 ?k8 ?k9 ?kB ?_ ?c2 ?c3 ?c4 ?c5; (case kA => exact rfl); (case kF => exact rfl); (case kK => first | exact rfl | assumption); (case k1 => k_asm); (case k2 => k_asm); (case k3 => k_asm); (case k4 => k_asm); (case k5 => k_asm); (case k6 => k_is); (case k7 => k_is); (case k8 => ktr_room); (case k9 => first | exact BindsTo.of_eq rfl | exact binds_K (by k_in) rfl (by k_is) rfl rfl rfl); (case c5 => decide); (case kB => exact locs rfl); (case c2 => exact rfl); (case c3 => exact rfl); (case c4 => exact rfl); k_whole; intro g' L' h' FG' F' N' B' X' T'; (try dsimp only); (try k_lift B'); (try k_fold)))
    repeat' (first | (k_unfold; (try dsimp only)) | (k_end; kc_close) | (first | (with_reducible ((k_here; (with_reducible show wpAny _ _ (call (Value.ref 110) _) _ _ _); (k_dflt (refine' ClaimK.use (Claim.k2 (takeb_ok ?a1 ?a2 ?a3 ?a4 ?a5 ?a6 ?a7)) ?kB ?kF ?kX ?kN ?kT ?kK ?kd ?ku ?_; (case kN => exact swap4 (by k_asm)); (case kF => k_asm); (case kB => k_asm); (case kX => k_asm); (case kT => k_asm); (case kK => first | exact rfl | assumption); (case kd => ktr_room); (case ku => ktr_units); (case a1 => assumption); (case a2 => assumption); (case a3 => assumption); (case a4 => assumption); (case a5 => assumption); (case a6 => assumption); (case a7 => repeat' (first | assumption | exact Ne.symm (by assumption) | refine ne_cons ?_ ?_)))); (intro t9 u9 h9 tk9 F9 N9); (try dsimp only)))) | (with_reducible ((k_here; (with_reducible show wpAny _ _ (call (Value.ref 96) _) _ _ _); (k_dflt (refine' ClaimK.use (Claim.k2 (has_ok ?a1 ?a2 ?a3 ?a4 ?a5 ?a6 ?a7)) ?kB ?kF ?kX ?kN ?kT ?kK ?kd ?ku ?_; (case kN => k_asm); (case kF => k_asm); (case kB => k_asm); (case kX => k_asm); (case kT => k_asm); (case kK => first | exact rfl | assumption); (case kd => ktr_room); (case ku => ktr_units); (case a1 => assumption); (case a2 => assumption); (case a3 => assumption); (case a4 => assumption); (case a5 => assumption); (case a6 => assumption); (case a7 => repeat' (first | assumption | exact Ne.symm (by assumption) | refine ne_cons ?_ ?_)))); (intro t9 u9 h9 tk9 F9 N9); (try dsimp only)))) | (with_reducible ((k_here; (with_reducible show wpAny _ _ (call (Value.ref 139) _) _ _ _); (k_dflt (refine' ClaimK.use (Claim.k1 (before_ok ?a1)) ?kB ?kF ?kX ?kN ?kT ?kK ?kd ?ku ?_; (case kN => k_asm); (case kF => k_asm); (case kB => k_asm); (case kX => k_asm); (case kT => k_asm); (case kK => first | exact rfl | assumption); (case kd => ktr_room); (case ku => ktr_units); (case a1 => assumption))); (intro t9 h9 tk9 F9 N9); (try dsimp only [Col.str])))) | (with_reducible ((k_here; (with_reducible show wpAny _ _ (call (Value.ref 103) _) _ _ _); (refine wpAny_call ?_); k_dflt (refine' code_def ?k1 ?k2 ?k3 ?k4 ?k5 ?kA ?kF ?kK ?k6 ?k7 ?k8 ?k9 ?kB ?_ ?c2 ?c3 ?c4 ?c5; (case kA => exact rfl); (case kF => exact rfl); (case kK => first | exact rfl | assumption); (case k1 => k_asm); (case k2 => k_asm); (case k3 => k_asm); (case k4 => k_asm); (case k5 => k_asm); (case k6 => k_is); (case k7 => k_is); (case k8 => ktr_room); (case k9 => first | exact BindsTo.of_eq rfl | exact binds_K (by k_in) rfl (by k_is) rfl rfl rfl); (case c5 => decide); (case kB => exact locs rfl); (case c2 => exact rfl); (case c3 => exact rfl); (case c4 => exact rfl); k_whole; intro g' L' h' FG' F' N' B' X' T'; (try dsimp only); (try k_lift B'); (try k_fold))))) | walk1) | (dsimp only; (first | (with_reducible ((k_here; (with_reducible show wpAny _ _ (call (Value.ref 110) _) _ _ _); (k_dflt (refine' ClaimK.use (Claim.k2 (takeb_ok ?a1 ?a2 ?a3 ?a4 ?a5 ?a6 ?a7)) ?kB ?kF ?kX ?kN ?kT ?kK ?kd ?ku ?_; (case kN => exact swap4 (by k_asm)); (case kF => k_asm); (case kB => k_asm); (case kX => k_asm); (case kT => k_asm); (case kK => first | exact rfl | assumption); (case kd => ktr_room); (case ku => ktr_units); (case a1 => assumption); (case a2 => assumption); (case a3 => assumption); (case a4 => assumption); (case a5 => assumption); (case a6 => assumption); (case a7 => repeat' (first | assumption | exact Ne.symm (by assumption) | refine ne_cons ?_ ?_)))); (intro t9 u9 h9 tk9 F9 N9); (try dsimp only)))) | (with_reducible ((k_here; (with_reducible show wpAny _ _ (call (Value.ref 96) _) _ _ _); (k_dflt (refine' ClaimK.use (Claim.k2 (has_ok ?a1 ?a2 ?a3 ?a4 ?a5 ?a6 ?a7)) ?kB ?kF ?kX ?kN ?kT ?kK ?kd ?ku ?_; (case kN => k_asm); (case kF => k_asm); (case kB => k_asm); (case kX => k_asm); (case kT => k_asm); (case kK => first | exact rfl | assumption); (case kd => ktr_room); (case ku => ktr_units); (case a1 => assumption); (case a2 => assumption); (case a3 => assumption); (case a4 => assumption); (case a5 => assumption); (case a6 => assumption); (case a7 => repeat' (first | assumption | exact Ne.symm (by assumption) | refine ne_cons ?_ ?_)))); (intro t9 u9 h9 tk9 F9 N9); (try dsimp only)))) | (with_reducible ((k_here; (with_reducible show wpAny _ _ (call (Value.ref 139) _) _ _ _); (k_dflt (refine' ClaimK.use (Claim.k1 (before_ok ?a1)) ?kB ?kF ?kX ?kN ?kT ?kK ?kd ?ku ?_; (case kN => k_asm); (case kF => k_asm); (case kB => k_asm); (case kX => k_asm); (case kT => k_asm); (case kK => first | exact rfl | assumption); (case kd => ktr_room); (case ku => ktr_units); (case a1 => assumption))); (intro t9 h9 tk9 F9 N9); (try dsimp only [Col.str])))) | (with_reducible ((k_here; (with_reducible show wpAny _ _ (call (Value.ref 103) _) _ _ _); (refine wpAny_call ?_); k_dflt (refine' code_def ?k1 ?k2 ?k3 ?k4 ?k5 ?kA ?kF ?kK ?k6 ?k7 ?k8 ?k9 ?kB ?_ ?c2 ?c3 ?c4 ?c5; (case kA => exact rfl); (case kF => exact rfl); (case kK => first | exact rfl | assumption); (case k1 => k_asm); (case k2 => k_asm); (case k3 => k_asm); (case k4 => k_asm); (case k5 => k_asm); (case k6 => k_is); (case k7 => k_is); (case k8 => ktr_room); (case k9 => first | exact BindsTo.of_eq rfl | exact binds_K (by k_in) rfl (by k_is) rfl rfl rfl); (case c5 => decide); (case kB => exact locs rfl); (case c2 => exact rfl); (case c3 => exact rfl); (case c4 => exact rfl); k_whole; intro g' L' h' FG' F' N' B' X' T'; (try dsimp only); (try k_lift B'); (try k_fold))))) | walk1)) | (leave1; walk_say "STEP leave1"; (try dsimp only)) | fail "no step")
    · refine fin hret (by k_asm) (by k_asm) ?_
      have z2 : size * 100 ≤ fG r2 (u2 * 100) g2 t2 now := by assumption
      have e : step r1 u1 r2 u2 .y size now ⟨g1, t1, g2, t2⟩ = (.y, ⟨g1, t1, fG r2 (u2 * 100) g2 t2 now - size * 100, fT t2 now⟩) := by
        unfold step; dsimp only; rw [if_pos z2]
      rw [e]
      exact ⟨_, _, _, _, _, rfl, rfl⟩
    · refine fin hret (by k_asm) (by k_asm) ?_
      have z2 : ¬ size * 100 ≤ fG r2 (u2 * 100) g2 t2 now := by assumption
      have e : step r1 u1 r2 u2 .y size now ⟨g1, t1, g2, t2⟩ = (.r, ⟨g1, t1, fG r2 (u2 * 100) g2 t2 now, fT t2 now⟩) := by
        unfold step; dsimp only; rw [if_neg z2]
      rw [e]
      exact ⟨_, _, _, _, _, rfl, rfl⟩
  · refine wpAny_call ?_
    k_dflt ((refine' code_def ?k1 ?k2 ?k3 ?k4 ?k5 ?kA ?kF ?kK ?k6 ?k7 ?k8 ?k9 ?kB ?_ ?c2 ?c3 ?c4 ?c5; (case kA => exact rfl); (case kF => exact rfl); (case kK => first | exact rfl | assumption); (case k1 => k_asm); (case k2 => k_asm); (case k3 => k_asm); (case k4 => k_asm); (case k5 => k_asm); (case k6 => k_is); (case k7 => k_is); (case k8 => ktr_room); (case k9 => first | exact BindsTo.of_eq rfl | exact binds_K (by k_in) rfl (by k_is) rfl rfl rfl); (case c5 => decide); (case kB => exact locs rfl); (case c2 => exact rfl); (case c3 => exact rfl); (case c4 => exact rfl); k_whole; intro g' L' h' FG' F' N' B' X' T'; (try dsimp only); (try k_lift B'); (try k_fold)))
    repeat' (first | (k_unfold; (try dsimp only)) | (k_end; kc_close) | (first | (with_reducible ((k_here; (with_reducible show wpAny _ _ (call (Value.ref 110) _) _ _ _); (k_dflt (refine' ClaimK.use (Claim.k2 (takeb_ok ?a1 ?a2 ?a3 ?a4 ?a5 ?a6 ?a7)) ?kB ?kF ?kX ?kN ?kT ?kK ?kd ?ku ?_; (case kN => exact swap4 (by k_asm)); (case kF => k_asm); (case kB => k_asm); (case kX => k_asm); (case kT => k_asm); (case kK => first | exact rfl | assumption); (case kd => ktr_room); (case ku => ktr_units); (case a1 => assumption); (case a2 => assumption); (case a3 => assumption); (case a4 => assumption); (case a5 => assumption); (case a6 => assumption); (case a7 => repeat' (first | assumption | exact Ne.symm (by assumption) | refine ne_cons ?_ ?_)))); (intro t9 u9 h9 tk9 F9 N9); (try dsimp only)))) | (with_reducible ((k_here; (with_reducible show wpAny _ _ (call (Value.ref 96) _) _ _ _); (k_dflt (refine' ClaimK.use (Claim.k2 (has_ok ?a1 ?a2 ?a3 ?a4 ?a5 ?a6 ?a7)) ?kB ?kF ?kX ?kN ?kT ?kK ?kd ?ku ?_; (case kN => k_asm); (case kF => k_asm); (case kB => k_asm); (case kX => k_asm); (case kT => k_asm); (case kK => first | exact rfl | assumption); (case kd => ktr_room); (case ku => ktr_units); (case a1 => assumption); (case a2 => assumption); (case a3 => assumption); (case a4 => assumption); (case a5 => assumption); (case a6 => assumption); (case a7 => repeat' (first | assumption | exact Ne.symm (by assumption) | refine ne_cons ?_ ?_)))); (intro t9 u9 h9 tk9 F9 N9); (try dsimp only)))) | (with_reducible ((k_here; (with_reducible show wpAny _ _ (call (Value.ref 139) _) _ _ _); (k_dflt (refine' ClaimK.use (Claim.k1 (before_ok ?a1)) ?kB ?kF ?kX ?kN ?kT ?kK ?kd ?ku ?_; (case kN => k_asm); (case kF => k_asm); (case kB => k_asm); (case kX => k_asm); (case kT => k_asm); (case kK => first | exact rfl | assumption); (case kd => ktr_room); (case ku => ktr_units); (case a1 => assumption))); (intro t9 h9 tk9 F9 N9); (try dsimp only [Col.str])))) | (with_reducible ((k_here; (with_reducible show wpAny _ _ (call (Value.ref 103) _) _ _ _); (refine wpAny_call ?_); k_dflt (refine' code_def ?k1 ?k2 ?k3 ?k4 ?k5 ?kA ?kF ?kK ?k6 ?k7 ?k8 ?k9 ?kB ?_ ?c2 ?c3 ?c4 ?c5; (case kA => exact rfl); (case kF => exact rfl); (case kK => first | exact rfl | assumption); (case k1 => k_asm); (case k2 => k_asm); (case k3 => k_asm); (case k4 => k_asm); (case k5 => k_asm); (case k6 => k_is); (case k7 => k_is); (case k8 => ktr_room); (case k9 => first | exact BindsTo.of_eq rfl | exact binds_K (by k_in) rfl (by k_is) rfl rfl rfl); (case c5 => decide); (case kB => exact locs rfl); (case c2 => exact rfl); (case c3 => exact rfl); (case c4 => exact rfl); k_whole; intro g' L' h' FG' F' N' B' X' T'; (try dsimp only); (try k_lift B'); (try k_fold))))) | walk1) | (dsimp only; (first | (with_reducible ((k_here; (with_reducible show wpAny _ _ (call (Value.ref 110) _) _ _ _); (k_dflt (refine' ClaimK.use (Claim.k2 (takeb_ok ?a1 ?a2 ?a3 ?a4 ?a5 ?a6 ?a7)) ?kB ?kF ?kX ?kN ?kT ?kK ?kd ?ku ?_; (case kN => exact swap4 (by k_asm)); (case kF => k_asm); (case kB => k_asm); (case kX => k_asm); (case kT => k_asm); (case kK => first | exact rfl | assumption); (case kd => ktr_room); (case ku => ktr_units); (case a1 => assumption); (case a2 => assumption); (case a3 => assumption); (case a4 => assumption); (case a5 => assumption); (case a6 => assumption); (case a7 => repeat' (first | assumption | exact Ne.symm (by assumption) | refine ne_cons ?_ ?_)))); (intro t9 u9 h9 tk9 F9 N9); (try dsimp only)))) | (with_reducible ((k_here; (with_reducible show wpAny _ _ (call (Value.ref 96) _) _ _ _); (k_dflt (refine' ClaimK.use (Claim.k2 (has_ok ?a1 ?a2 ?a3 ?a4 ?a5 ?a6 ?a7)) ?kB ?kF ?kX ?kN ?kT ?kK ?kd ?ku ?_; (case kN => k_asm); (case kF => k_asm); (case kB => k_asm); (case kX => k_asm); (case kT => k_asm); (case kK => first | exact rfl | assumption); (case kd => ktr_room); (case ku => ktr_units); (case a1 => assumption); (case a2 => assumption); (case a3 => assumption); (case a4 => assumption); (case a5 => assumption); (case a6 => assumption); (case a7 => repeat' (first | assumption | exact Ne.symm (by assumption) | refine ne_cons ?_ ?_)))); (intro t9 u9 h9 tk9 F9 N9); (try dsimp only)))) | (with_reducible ((k_here; (with_reducible show wpAny _ _ (call (Value.ref 139) _) _ _ _); (k_dflt (refine' ClaimK.use (Claim.k1 (before_ok ?a1)) ?kB ?kF ?kX ?kN ?kT ?kK ?kd ?ku ?_; (case kN => k_asm); (case kF => k_asm); (case kB => k_asm); (case kX => k_asm); (case kT => k_asm); (case kK => first | exact rfl | assumption); (case kd => ktr_room); (case ku => ktr_units); (case a1 => assumption))); (intro t9 h9 tk9 F9 N9); (try dsimp only [Col.str])))) | (with_reducible ((k_here; (with_reducible show wpAny _ _ (call (Value.ref 103) _) _ _ _); (refine wpAny_call ?_); k_dflt (refine' code_def ?k1 ?k2 ?k3 ?k4 ?k5 ?kA ?kF ?kK ?k6 ?k7 ?k8 ?k9 ?kB ?_ ?c2 ?c3 ?c4 ?c5; (case kA => exact rfl); (case kF => exact rfl); (case kK => first | exact rfl | assumption); (case k1 => k_asm); (case k2 => k_asm); (case k3 => k_asm); (case k4 => k_asm); (case k5 => k_asm); (case k6 => k_is); (case k7 => k_is); (case k8 => ktr_room); (case k9 => first | exact BindsTo.of_eq rfl | exact binds_K (by k_in) rfl (by k_is) rfl rfl rfl); (case c5 => decide); (case kB => exact locs rfl); (case c2 => exact rfl); (case c3 => exact rfl); (case c4 => exact rfl); k_whole; intro g' L' h' FG' F' N' B' X' T'; (try dsimp only); (try k_lift B'); (try k_fold))))) | walk1)) | (leave1; walk_say "STEP leave1"; (try dsimp only)) | fail "no step")
    refine fin hret (by k_asm) (by k_asm) ?_
    exact ⟨_, _, _, _, _, rfl, rfl⟩
end Mine
end
section
open PySem PySem.W PySem.Calls PyProof.Rows PySem.Spec
set_option maxRecDepth 100000
set_option maxHeartbeats 8000000
namespace Mine
theorem anew_Rm : True := by
  w_top off
  exact True.intro
abbrev tupO (t g : Int) (k1 k2 : Tok) : Obj := { cls := .type "tuple", data := .seq [Value.int t k1, Value.int g k2].toArray }
inductive Pairs (news : List (Addr × Obj)) : List Value → List (Int × Int) → Prop where
  | nil : Pairs news [] []
  | cons {a : Addr} {t g : Int} {k1 k2 : Tok} {vs : List Value} {sp : List (Int × Int)} : (a, tupO t g k1 k2) ∈ news → Pairs news vs sp → Pairs news (.ref a :: vs) ((t, g) :: sp)
theorem Pairs.len {news : List (Addr × Obj)} {vs : List Value} {sp : List (Int × Int)} (h : Pairs news vs sp) : vs.length = sp.length := by
  induction h with
  | nil => rfl
  | cons _ _ ih => simp [ih]
theorem Pairs.app {news : List (Addr × Obj)} {vs ws : List Value} {sp sq : List (Int × Int)} (h : Pairs news vs sp) (k : Pairs news ws sq) : Pairs news (vs ++ ws) (sp ++ sq) := by
  induction h with
  | nil => exact k
  | cons hm _ ih => exact .cons hm ih
theorem Pairs.rev {news : List (Addr × Obj)} {vs : List Value} {sp : List (Int × Int)} (h : Pairs news vs sp) : Pairs news vs.reverse sp.reverse := by
  induction h with
  | nil => exact .nil
  | cons hm _ ih =>
    rw [List.reverse_cons, List.reverse_cons]
    exact ih.app (.cons hm .nil)
theorem Pairs.mono {news news' : List (Addr × Obj)} {vs : List Value} {sp : List (Int × Int)} (h : Pairs news vs sp) (hs : ∀ q ∈ news, q ∈ news') : Pairs news' vs sp := by
  induction h with
  | nil => exact .nil
  | cons hm _ ih => exact .cons (hs _ hm) ih
theorem Pairs.at {news : List (Addr × Obj)} {vs : List Value} {sp : List (Int × Int)} (h : Pairs news vs sp) : ∀ {i : Nat} {v : Value}, vs[i]? = some v → ∃ a t g k1 k2, v = .ref a ∧ (a, tupO t g k1 k2) ∈ news ∧ sp[i]? = some (t, g) := by
  induction h with
  | nil => intro i v e; simp at e
  | cons hm _ ih =>
    intro i v e
    cases i with
    | zero => simp at e; subst e; exact ⟨_, _, _, _, _, rfl, hm, rfl⟩
    | succ i => exact ih (by simpa using e)
theorem eq_at {m m' : Str → Option Value} {x : Str} {v : Value} (hx : m x = some v) (e : ∀ y, m' y = m y) : ∀ y, (if y = x then some v else m' y) = m y := by
  intro y
  by_cases hy : y = x
  · rw [if_pos hy, hy, hx]
  · rw [if_neg hy]; exact e y
theorem fr_eq {h₀ h : Heap} {L : Addr} {m m' : Str → Option Value} (F : Fr h₀ L h m) (e : ∀ y, m' y = m y) : Fr h₀ L h m' := by
  have : m' = m := funext e
  rw [this]; exact F
def TurnEnd (h₀ : Heap) (L : Addr) (keep : List (Addr × Obj)) (J : (Str → Option Value) → Prop) (f : Flow) (s₁ s₂ : Shared) : Prop :=
  f = .next ∧ ∃ h' tk m', s₂ = { s₁ with heap := h', toks := tk } ∧ Fr h₀ L h' m' ∧ News h₀ L h' keep ∧ J m'
theorem TurnEnd.intro {h₀ : Heap} {L : Addr} {keep : List (Addr × Obj)} {J : (Str → Option Value) → Prop} {s₁ : Shared} {h' : Heap} {tk : Nat} {m' : Str → Option Value} (F : Fr h₀ L h' m') (N : News h₀ L h' keep) (hj : J m') :
    TurnEnd h₀ L keep J .next s₁ { s₁ with heap := h', toks := tk } := ⟨rfl, h', tk, m', rfl, F, N, hj⟩
theorem tup_loop {prog : Program} {w : World} {A : Around} {E : Value → Shared → Prop} {s : Shared} {env : Env} {h₀ : Heap} {target : Expr} {body : List Stmt} {Q : Flow → Shared → Prop} {l : Addr} {vs : List Value} {n : Nat} {m₀ : Str → Option Value} {news : List (Addr × Obj)}
    (J : Nat → (Str → Option Value) → Prop) (hh : A.handled = none) (F : Fr h₀ env.locals s.heap m₀) (N : News h₀ env.locals s.heap news) (hm : (l, listOf vs.toArray n) ∈ news) (hj : J 0 m₀)
    (turn : ∀ i v m₁ s₁ own, vs[i]? = some v → J i m₁ → Fr h₀ env.locals s₁.heap m₁ → News h₀ env.locals s₁.heap (own ++ news) →
      wpAny (model prog w) A (assign target env v) (fun _ s₃ => wpAny (model prog w) A (execs body env) (fun f s₂ => TurnEnd h₀ env.locals (own ++ news) (J (i + 1)) f s₁ s₂) E s₃) E s₁)
    (done : ∀ m₁ h tk, J vs.length m₁ → Fr h₀ env.locals h m₁ → News h₀ env.locals h news → Q .next { s with heap := h, toks := tk }) :
    wpAny (model prog w) A (pyIter (.ref l)) (fun it s₂ => LoopAtT prog w A h₀ env target body Q E it s₂) E s := by
  have hls : s.heap.IsList l vs.toArray := ⟨_, (N _ hm).1, rfl, n, rfl⟩
  have hne : l ≠ s.heap.objs.size := Nat.ne_of_lt (Heap.lt_size (N _ hm).1)
  refine wpAny_pyIter_list hls ?_
  have W := Walks.list (prog := prog) (w := w) hh s.heap.objs.size l hne vs.toArray
  have hlen : vs.toArray.size = vs.length := by simp
  rw [hlen] at W
  refine ⟨_, _, _, vs.length, _, _, m₀, news, (fun i m nx => nx = news ∧ J i m), rfl, W, ?_, ?_, ?_, ⟨⟨_, Heap.get?_push_size _ rfl, rfl, rfl⟩, hls.at fun o e => Heap.get?_push_of_some _ e⟩, F.push _, (fun p hp => ⟨Heap.get?_push_of_some _ (N p hp).1, (N p hp).2⟩), (fun i s' v Q' st hQ' => letGo_listiter st.1 hQ'), ⟨rfl, hj⟩, ?_, ?_⟩
  · intro hx
    rcases List.mem_cons.mp hx with e | hx
    · exact absurd F.ns.lt (e ▸ Nat.lt_irrefl _)
    · exact (N _ hm).2.1 (List.mem_singleton.mp hx).symm
  · intro b hb
    rw [List.mem_singleton.mp hb]
    exact next_is_new F
  · intro q hq hI
    exact absurd (Heap.lt_size (N q hq).1) ((List.mem_singleton.mp hI) ▸ Nat.lt_irrefl _)
  · rintro i v m₁ news₁ s₁ own hi hP ⟨rfl, hJ⟩ hoff hown hget hall hst F₁ N₁
    have hv : vs[i]? = some v := by simpa using hP
    refine wpAny_mono (turn i v m₁ s₁ own hv hJ F₁ N₁) (fun _ s₃ h₃ => wpAny_mono h₃ (fun f s₂ h₂ => ?_) fun _ _ e => e) fun _ _ e => e
    obtain ⟨rfl, h', tk, m', e, F', N', hj'⟩ := h₂
    exact ⟨rfl, h', tk, m', _, e, F', N', hoff, rfl, hj'⟩
  · rintro h' tk m' news' F' N' _ ⟨rfl, hJ⟩
    exact done m' h' tk hJ F' N'
/-- one earlier spending, from the last on: the least room so far, what is gone so far -/
def roomStep (r B now : Int) (st : Int × Int) (e : Int × Int) : Int × Int :=
  (if B + r * (now - e.1) - (st.2 + e.2) < st.1 then B + r * (now - e.1) - (st.2 + e.2) else st.1, st.2 + e.2)
def room (sp : List (Int × Int)) (r B now : Int) : Int := (sp.reverse.foldl (roomStep r B now) (B, 0)).1
local macro_rules | `(tactic| k_all) => `(tactic| assumption)
def RoomJ (sp : List (Int × Int)) (r B now : Int) (tr tB tn : Tok) (i : Nat) (m : Str → Option Value) : Prop :=
  ∃ tf tg, m (Str.ofString "found") = some (.int ((sp.reverse.take i).foldl (roomStep r B now) (B, 0)).1 tf) ∧ m (Str.ofString "gone") = some (.int ((sp.reverse.take i).foldl (roomStep r B now) (B, 0)).2 tg) ∧
    m (Str.ofString "burst") = some (.int B tB) ∧ m (Str.ofString "rate") = some (.int r tr) ∧ m (Str.ofString "now") = some (.int now tn)
theorem fold_next {α β : Type} {f : β → α → β} {b : β} {l : List α} {i : Nat} {a : α} (h : l[i]? = some a) : (l.take (i + 1)).foldl f b = f ((l.take i).foldl f b) a := by
  rw [List.take_add_one, h, List.foldl_append]; rfl
theorem cons_in {h₀ h : Heap} {L : Addr} {q : Addr × Obj} {l l' : List (Addr × Obj)} (N : News h₀ L h (l' ++ l)) (hm : q ∈ l) : News h₀ L h (q :: (l' ++ l)) :=
  sub_front N fun x hx => by
    rcases List.mem_cons.mp hx with rfl | hx
    · exact List.mem_append.mpr (.inr hm)
    · exact hx
theorem room_ok {w : World} {p : Program} {loose : List Str} {mean : ExcName → Option Value} {mg mb : Str → Option Value} {l : Addr} {vs : List Value} {n : Nat} {sp : List (Int × Int)} {r B now : Int} {tr tB tn : Tok} {rest : List (Addr × Obj)}
    (hp : Pairs rest vs sp) (hl : sp.length ≤ 100) (hn : 0 ≤ now) (hn2 : now ≤ 10000) (hr : 0 ≤ r) (hr2 : r ≤ 1000) (hB : 0 ≤ B) (hB2 : B ≤ 100000) :
    Claim w p loose mean mg mb 227 [.ref l, .int r tr, .int B tB, .int now tn] ((l, listOf vs.toArray n) :: rest) 1
      (fun v news' => (∃ t, v = .int (room sp r B now) t) ∧ news' = (l, listOf vs.toArray n) :: rest) := by
  unfold Claim
  k_fill
  intro dp un gd cn cs aa ccd cl outer A₀ base h₀ L m zh zg zd zk zo Q E Bl F X N T hk hd hu hret
  refine wpAny_call ?_
  k_dflt cell_enter
  repeat' (first | (k_unfold; (try dsimp only)) | (k_end; kc_close) | (first | (with_reducible ((k_here; (with_reducible show wpAny _ _ (subscriptTail _ (PySem.Expr.Slice none none (some _) _) (Value.ref _) (Value.ref _)) _ _ _); k_dflt (refine' krv_lit ?F ?N ?l ?k ?e ?_ ?s ?t ?z; (case F => k_asm); (case N => k_asm); (case l => kmk_list); (case k => exact IsPart.int _ _); (case e => exact rfl); (case s => with_unfolding_all rfl); (case t => kmk_pure); (case z => (simp only [List.size_toArray, PySem.sizeLine_eq]; omega))); intro D' h' F' N' l1; (try k_lt l1)))) | walk1) | (dsimp only; (first | (with_reducible ((k_here; (with_reducible show wpAny _ _ (subscriptTail _ (PySem.Expr.Slice none none (some _) _) (Value.ref _) (Value.ref _)) _ _ _); k_dflt (refine' krv_lit ?F ?N ?l ?k ?e ?_ ?s ?t ?z; (case F => k_asm); (case N => k_asm); (case l => kmk_list); (case k => exact IsPart.int _ _); (case e => exact rfl); (case s => with_unfolding_all rfl); (case t => kmk_pure); (case z => (simp only [List.size_toArray, PySem.sizeLine_eq]; omega))); intro D' h' F' N' l1; (try k_lt l1)))) | walk1)) | (leave1; walk_say "STEP leave1"; (try dsimp only)) | fail "no step")
  rename Fr _ _ _ _ => lF
  refine For_invTF lF ?_ (by intro _; rfl)
  have hvl := hp.len
  repeat' (first | (k_unfold; (try dsimp only)) | ((fail_if_success (with_reducible show wpAny _ _ (pyIter _) _ _ _)); first | (first | (with_reducible ((k_here; (with_reducible show wpAny _ _ (subscriptTail _ (PySem.Expr.Slice none none (some _) _) (Value.ref _) (Value.ref _)) _ _ _); k_dflt (refine' krv_lit ?F ?N ?l ?k ?e ?_ ?s ?t ?z; (case F => k_asm); (case N => k_asm); (case l => kmk_list); (case k => exact IsPart.int _ _); (case e => exact rfl); (case s => with_unfolding_all rfl); (case t => kmk_pure); (case z => (simp only [List.size_toArray, PySem.sizeLine_eq]; omega))); intro D' h' F' N' l1; (try k_lt l1)))) | walk1) | (dsimp only; (first | (with_reducible ((k_here; (with_reducible show wpAny _ _ (subscriptTail _ (PySem.Expr.Slice none none (some _) _) (Value.ref _) (Value.ref _)) _ _ _); k_dflt (refine' krv_lit ?F ?N ?l ?k ?e ?_ ?s ?t ?z; (case F => k_asm); (case N => k_asm); (case l => kmk_list); (case k => exact IsPart.int _ _); (case e => exact rfl); (case s => with_unfolding_all rfl); (case t => kmk_pure); (case z => (simp only [List.size_toArray, PySem.sizeLine_eq]; omega))); intro D' h' F' N' l1; (try k_lt l1)))) | walk1))))
  rename Fr _ _ _ _ => lF2
  rename News _ _ _ _ => lN2
  refine tup_loop (n := 0) (RoomJ sp r B now tr tB tn) rfl lF2 lN2 (List.Mem.head _) ⟨_, _, rfl, rfl, rfl, rfl, rfl⟩ ?_ ?_
  · intro i v m₁ s₁ own hv hJ F₁ N₁
    obtain ⟨tf, tg, j1, j2, j3, j4, j5⟩ := hJ
    obtain ⟨a, t, g, k1, k2, rfl, hm, hsp⟩ := hp.rev.at hv
    have F₂ := fr_eq F₁ (eq_at j1 (eq_at j2 (eq_at j3 (eq_at j4 (eq_at j5 fun _ => rfl)))))
    have N₂ := cons_in N₁ (List.Mem.tail _ (List.Mem.tail _ (List.Mem.tail _ hm)))
    clear F₁ N₁ lF lF2 lN2
    repeat' (first | (k_unfold; (try dsimp only)) | (k_end; kc_close) | (first | (with_reducible ((k_here; (with_reducible show wpAny _ _ (subscriptTail _ (PySem.Expr.Slice none none (some _) _) (Value.ref _) (Value.ref _)) _ _ _); k_dflt (refine' krv_lit ?F ?N ?l ?k ?e ?_ ?s ?t ?z; (case F => k_asm); (case N => k_asm); (case l => kmk_list); (case k => exact IsPart.int _ _); (case e => exact rfl); (case s => with_unfolding_all rfl); (case t => kmk_pure); (case z => (simp only [List.size_toArray, PySem.sizeLine_eq]; omega))); intro D' h' F' N' l1; (try k_lt l1)))) | walk1) | (dsimp only; (first | (with_reducible ((k_here; (with_reducible show wpAny _ _ (subscriptTail _ (PySem.Expr.Slice none none (some _) _) (Value.ref _) (Value.ref _)) _ _ _); k_dflt (refine' krv_lit ?F ?N ?l ?k ?e ?_ ?s ?t ?z; (case F => k_asm); (case N => k_asm); (case l => kmk_list); (case k => exact IsPart.int _ _); (case e => exact rfl); (case s => with_unfolding_all rfl); (case t => kmk_pure); (case z => (simp only [List.size_toArray, PySem.sizeLine_eq]; omega))); intro D' h' F' N' l1; (try k_lt l1)))) | walk1)) | (leave1; walk_say "STEP leave1"; (try dsimp only)) | fail "no step")
    refine TurnEnd.intro (by k_asm) (sub_front (by k_asm) fun q hq => List.Mem.tail _ hq) ?_
    unfold RoomJ
    rw [fold_next hsp]
    exact ⟨_, _, rfl, rfl, rfl, rfl, rfl⟩
  · intro m₁ h tk hJ F₁ N₁
    obtain ⟨tf, tg, j1, j2, j3, j4, j5⟩ := hJ
    have F₂ := fr_eq F₁ (eq_at j1 fun _ => rfl)
    clear F₁ lF lF2 lN2
    repeat' (first | (k_unfold; (try dsimp only)) | (k_end; kc_close) | (first | (with_reducible ((k_here; (with_reducible show wpAny _ _ (subscriptTail _ (PySem.Expr.Slice none none (some _) _) (Value.ref _) (Value.ref _)) _ _ _); k_dflt (refine' krv_lit ?F ?N ?l ?k ?e ?_ ?s ?t ?z; (case F => k_asm); (case N => k_asm); (case l => kmk_list); (case k => exact IsPart.int _ _); (case e => exact rfl); (case s => with_unfolding_all rfl); (case t => kmk_pure); (case z => (simp only [List.size_toArray, PySem.sizeLine_eq]; omega))); intro D' h' F' N' l1; (try k_lt l1)))) | walk1) | (dsimp only; (first | (with_reducible ((k_here; (with_reducible show wpAny _ _ (subscriptTail _ (PySem.Expr.Slice none none (some _) _) (Value.ref _) (Value.ref _)) _ _ _); k_dflt (refine' krv_lit ?F ?N ?l ?k ?e ?_ ?s ?t ?z; (case F => k_asm); (case N => k_asm); (case l => kmk_list); (case k => exact IsPart.int _ _); (case e => exact rfl); (case s => with_unfolding_all rfl); (case t => kmk_pure); (case z => (simp only [List.size_toArray, PySem.sizeLine_eq]; omega))); intro D' h' F' N' l1; (try k_lt l1)))) | walk1)) | (leave1; walk_say "STEP leave1"; (try dsimp only)) | fail "no step")
    refine fin hret (by k_asm) (sub_front (by k_asm) (fun q hq => List.Mem.tail _ (List.Mem.tail _ hq))) ⟨⟨tf, ?_⟩, rfl⟩
    have e : sp.reverse.take vs.reverse.length = sp.reverse := by rw [List.length_reverse, hvl, ← List.length_reverse]; exact List.take_length
    rw [e]; rfl
end Mine
end
section
open PySem PySem.W PySem.Calls PyProof.Rows PySem.Spec
set_option maxRecDepth 100000
set_option maxHeartbeats 8000000
namespace Mine
theorem anew_Mk : True := by
  w_top off
  exact True.intro
/-- a policer made behind all that stood -/
structure Fresh (a : Pl) (news : List (Addr × Obj)) : Prop where
  o : ∀ q ∈ news, q.1 < a.pd
  f1 : @LT.lt Nat _ a.pd a.pp
  f2 : @LT.lt Nat _ a.pp a.d1
  f3 : @LT.lt Nat _ a.d1 a.b1
  f4 : @LT.lt Nat _ a.b1 a.d2
  f5 : @LT.lt Nat _ a.d2 a.b2
theorem Fresh.sep {a : Pl} {news : List (Addr × Obj)} (f : Fresh a news) : Sep a news := by
  obtain ⟨pp, pd, b1, d1, b2, d2⟩ := a
  obtain ⟨o, f1, f2, f3, f4, f5⟩ := f
  dsimp only at o f1 f2 f3 f4 f5
  refine ⟨neN ?_, neN ?_, neN ?_, neN ?_, neN ?_, neN ?_, neN ?_, neN ?_, neN ?_, fun q hq => neN ?_, fun q hq => neN ?_⟩
  all_goals (try dsimp only)
  all_goals first
    | omega
    | (have z : @LT.lt Nat _ q.1 pd := o q hq; omega)
theorem Claim.km {w : World} {p : Program} {loose : List Str} {mean : ExcName → Option Value} {mg mb : Str → Option Value} {f : Addr} {vs : List Value} {news : List (Addr × Obj)} {dn : Nat} {NL : Pl → PlT → BkT → BkT → Tok → Tok → Tok → Tok → List (Addr × Obj)}
    (C : Claim w p loose mean mg mb f vs news dn (fun v news' => ∃ a KP K1 K2 x1 x2 x3 x4, v = .ref a.pp ∧ news' = NL a KP K1 K2 x1 x2 x3 x4 ∧ Fresh a news)) :
    ClaimK w p loose mean mg mb f vs news dn (fun R => ∀ (pp pd b1 d1 b2 d2 : Addr) (KP : PlT) (K1 K2 : BkT) (x1 x2 x3 x4 : Tok), Sep ⟨pp, pd, b1, d1, b2, d2⟩ news → (∀ q ∈ news, q.1 < pd) → @LT.lt Nat _ pd pp → @LT.lt Nat _ pp d1 → @LT.lt Nat _ d1 b1 → @LT.lt Nat _ b1 d2 → @LT.lt Nat _ d2 b2 →
      R (.ref pp) (NL ⟨pp, pd, b1, d1, b2, d2⟩ KP K1 K2 x1 x2 x3 x4)) :=
  C.toK (by
    rintro R k v news' ⟨⟨pp, pd, b1, d1, b2, d2⟩, KP, K1, K2, x1, x2, x3, x4, rfl, rfl, g⟩
    exact k pp pd b1 d1 b2 d2 KP K1 K2 x1 x2 x3 x4 g.sep g.o g.f1 g.f2 g.f3 g.f4 g.f5)
theorem swap2s {h₀ h : Heap} {L : Addr} {a b c d : Addr × Obj} {r : List (Addr × Obj)} (N : News h₀ L h (a :: b :: c :: d :: r)) : News h₀ L h (b :: a :: d :: c :: r) :=
  sub_front N fun q hq => by
    simp only [List.mem_cons] at hq ⊢
    rcases hq with h | h | h | h | h <;> simp [h]
local macro_rules | `(tactic| k_all) => `(tactic| assumption)
theorem mk_ok {w : World} {p : Program} {loose : List Str} {mean : ExcName → Option Value} {mg mb : Str → Option Value} {r1 u1 r2 u2 : Int} {t1 t2 t3 t4 : Tok} {aw : Bool} {news : List (Addr × Obj)}
    (hr : 0 ≤ r1) (hr2 : r1 ≤ r2) (hr3 : r2 ≤ 1000) (hu : 1 ≤ u1) (hu2 : 1 ≤ u2) (hv : u1 ≤ 1000) (hv2 : u2 ≤ 1000) :
    Claim w p loose mean mg mb 195 [.int r1 t1, .int u1 t2, .int r2 t3, .int u2 t4, .bool aw] news 4
      (fun v news' => ∃ a KP K1 K2 x1 x2 x3 x4, v = .ref a.pp ∧ news' = plL a KP K1 K2 aw r1 u1 r2 u2 ⟨u1 * 100, 0, u2 * 100, 0⟩ x1 x2 x3 x4 news ∧ Fresh a news) := by
  unfold Claim
  k_fill
  intro dp un gd cn cs aa ccd cl outer A₀ base h₀ L m zh zg zd zk zo Q E Bl F X N T hk hd hu hret
  (first | (with_reducible ((k_here; (with_reducible show wpAny _ _ (call (Value.ref 195) _) _ _ _); k_dflt (refine' call_cls ?k1 ?k2 ?k3 ?k4 ?k5 ?k6 ?_; (case k1 => k_asm); (case k2 => k_asm); (case k3 => k_asm); (case k4 => k_is); (case k5 => k_is); (case k6 => k_is); k_whole; intro x' d' h' F' N' l1 l2; (try k_lt l1); (try k_lt2 l2); (refine' code_def ?k1 ?k2 ?k3 ?k4 ?k5 ?kA ?kF ?kK ?k6 ?k7 ?k8 ?k9 ?kB ?_ ?c2 ?c3 ?c4 ?c5; (case kA => exact rfl); (case kF => exact rfl); (case kK => first | exact rfl | assumption); (case k1 => k_asm); (case k2 => k_asm); (case k3 => k_asm); (case k4 => k_asm); (case k5 => k_asm); (case k6 => k_is); (case k7 => k_is); (case k8 => ktr_room); (case k9 => first | exact BindsTo.of_eq rfl | exact binds_K (by k_in) rfl (by k_is) rfl rfl rfl); (case c5 => decide); (case kB => exact locs rfl); (case c2 => exact rfl); (case c3 => exact rfl); (case c4 => exact rfl); k_whole; intro g' L' h' FG' F' N' B' X' T'; (try dsimp only); (try k_lift B'); (try k_fold)))))) | (with_reducible ((k_here; (with_reducible show wpAny _ _ (call (Value.ref 127) _) _ _ _); k_dflt (refine' call_cls ?k1 ?k2 ?k3 ?k4 ?k5 ?k6 ?_; (case k1 => k_asm); (case k2 => k_asm); (case k3 => k_asm); (case k4 => k_is); (case k5 => k_is); (case k6 => k_is); k_whole; intro x' d' h' F' N' l1 l2; (try k_lt l1); (try k_lt2 l2); (refine' code_def ?k1 ?k2 ?k3 ?k4 ?k5 ?kA ?kF ?kK ?k6 ?k7 ?k8 ?k9 ?kB ?_ ?c2 ?c3 ?c4 ?c5; (case kA => exact rfl); (case kF => exact rfl); (case kK => first | exact rfl | assumption); (case k1 => k_asm); (case k2 => k_asm); (case k3 => k_asm); (case k4 => k_asm); (case k5 => k_asm); (case k6 => k_is); (case k7 => k_is); (case k8 => ktr_room); (case k9 => first | exact BindsTo.of_eq rfl | exact binds_K (by k_in) rfl (by k_is) rfl rfl rfl); (case c5 => decide); (case kB => exact locs rfl); (case c2 => exact rfl); (case c3 => exact rfl); (case c4 => exact rfl); k_whole; intro g' L' h' FG' F' N' B' X' T'; (try dsimp only); (try k_lift B'); (try k_fold)))))) | walk1)
  repeat' (first | (k_unfold; (try dsimp only)) | (k_end; kc_close) | (first | (with_reducible ((k_here; (with_reducible show wpAny _ _ (call (Value.ref 195) _) _ _ _); k_dflt (refine' call_cls ?k1 ?k2 ?k3 ?k4 ?k5 ?k6 ?_; (case k1 => k_asm); (case k2 => k_asm); (case k3 => k_asm); (case k4 => k_is); (case k5 => k_is); (case k6 => k_is); k_whole; intro x' d' h' F' N' l1 l2; (try k_lt l1); (try k_lt2 l2); (refine' code_def ?k1 ?k2 ?k3 ?k4 ?k5 ?kA ?kF ?kK ?k6 ?k7 ?k8 ?k9 ?kB ?_ ?c2 ?c3 ?c4 ?c5; (case kA => exact rfl); (case kF => exact rfl); (case kK => first | exact rfl | assumption); (case k1 => k_asm); (case k2 => k_asm); (case k3 => k_asm); (case k4 => k_asm); (case k5 => k_asm); (case k6 => k_is); (case k7 => k_is); (case k8 => ktr_room); (case k9 => first | exact BindsTo.of_eq rfl | exact binds_K (by k_in) rfl (by k_is) rfl rfl rfl); (case c5 => decide); (case kB => exact locs rfl); (case c2 => exact rfl); (case c3 => exact rfl); (case c4 => exact rfl); k_whole; intro g' L' h' FG' F' N' B' X' T'; (try dsimp only); (try k_lift B'); (try k_fold)))))) | (with_reducible ((k_here; (with_reducible show wpAny _ _ (call (Value.ref 127) _) _ _ _); k_dflt (refine' call_cls ?k1 ?k2 ?k3 ?k4 ?k5 ?k6 ?_; (case k1 => k_asm); (case k2 => k_asm); (case k3 => k_asm); (case k4 => k_is); (case k5 => k_is); (case k6 => k_is); k_whole; intro x' d' h' F' N' l1 l2; (try k_lt l1); (try k_lt2 l2); (refine' code_def ?k1 ?k2 ?k3 ?k4 ?k5 ?kA ?kF ?kK ?k6 ?k7 ?k8 ?k9 ?kB ?_ ?c2 ?c3 ?c4 ?c5; (case kA => exact rfl); (case kF => exact rfl); (case kK => first | exact rfl | assumption); (case k1 => k_asm); (case k2 => k_asm); (case k3 => k_asm); (case k4 => k_asm); (case k5 => k_asm); (case k6 => k_is); (case k7 => k_is); (case k8 => ktr_room); (case k9 => first | exact BindsTo.of_eq rfl | exact binds_K (by k_in) rfl (by k_is) rfl rfl rfl); (case c5 => decide); (case kB => exact locs rfl); (case c2 => exact rfl); (case c3 => exact rfl); (case c4 => exact rfl); k_whole; intro g' L' h' FG' F' N' B' X' T'; (try dsimp only); (try k_lift B'); (try k_fold)))))) | walk1) | (dsimp only; (first | (with_reducible ((k_here; (with_reducible show wpAny _ _ (call (Value.ref 195) _) _ _ _); k_dflt (refine' call_cls ?k1 ?k2 ?k3 ?k4 ?k5 ?k6 ?_; (case k1 => k_asm); (case k2 => k_asm); (case k3 => k_asm); (case k4 => k_is); (case k5 => k_is); (case k6 => k_is); k_whole; intro x' d' h' F' N' l1 l2; (try k_lt l1); (try k_lt2 l2); (refine' code_def ?k1 ?k2 ?k3 ?k4 ?k5 ?kA ?kF ?kK ?k6 ?k7 ?k8 ?k9 ?kB ?_ ?c2 ?c3 ?c4 ?c5; (case kA => exact rfl); (case kF => exact rfl); (case kK => first | exact rfl | assumption); (case k1 => k_asm); (case k2 => k_asm); (case k3 => k_asm); (case k4 => k_asm); (case k5 => k_asm); (case k6 => k_is); (case k7 => k_is); (case k8 => ktr_room); (case k9 => first | exact BindsTo.of_eq rfl | exact binds_K (by k_in) rfl (by k_is) rfl rfl rfl); (case c5 => decide); (case kB => exact locs rfl); (case c2 => exact rfl); (case c3 => exact rfl); (case c4 => exact rfl); k_whole; intro g' L' h' FG' F' N' B' X' T'; (try dsimp only); (try k_lift B'); (try k_fold)))))) | (with_reducible ((k_here; (with_reducible show wpAny _ _ (call (Value.ref 127) _) _ _ _); k_dflt (refine' call_cls ?k1 ?k2 ?k3 ?k4 ?k5 ?k6 ?_; (case k1 => k_asm); (case k2 => k_asm); (case k3 => k_asm); (case k4 => k_is); (case k5 => k_is); (case k6 => k_is); k_whole; intro x' d' h' F' N' l1 l2; (try k_lt l1); (try k_lt2 l2); (refine' code_def ?k1 ?k2 ?k3 ?k4 ?k5 ?kA ?kF ?kK ?k6 ?k7 ?k8 ?k9 ?kB ?_ ?c2 ?c3 ?c4 ?c5; (case kA => exact rfl); (case kF => exact rfl); (case kK => first | exact rfl | assumption); (case k1 => k_asm); (case k2 => k_asm); (case k3 => k_asm); (case k4 => k_asm); (case k5 => k_asm); (case k6 => k_is); (case k7 => k_is); (case k8 => ktr_room); (case k9 => first | exact BindsTo.of_eq rfl | exact binds_K (by k_in) rfl (by k_is) rfl rfl rfl); (case c5 => decide); (case kB => exact locs rfl); (case c2 => exact rfl); (case c3 => exact rfl); (case c4 => exact rfl); k_whole; intro g' L' h' FG' F' N' B' X' T'; (try dsimp only); (try k_lift B'); (try k_fold)))))) | walk1)) | (leave1; walk_say "STEP leave1"; (try dsimp only)) | fail "no step")
  refine fin hret (by k_asm) (swap2s (by k_asm)) ?_
  refine ⟨⟨_, _, _, _, _, _⟩, ⟨_, _, _, _, _, _⟩, ⟨_, _, _, _, _, _, _, _, _, _⟩, ⟨_, _, _, _, _, _, _, _, _, _⟩, _, _, _, _, rfl, rfl, ?_⟩
  refine ⟨by assumption, ?_, ?_, ?_, ?_, ?_⟩
  all_goals ((try dsimp only); omega)
end Mine
end
section
open PySem PySem.W PySem.Calls PyProof.Rows PySem.Spec
set_option maxRecDepth 100000
set_option maxHeartbeats 8000000
namespace Mine
theorem anew_Du : True := by
  w_top off
  exact True.intro
theorem room_in {w : World} {p : Program} {loose : List Str} {mean : ExcName → Option Value} {mg mb : Str → Option Value} {l : Addr} {vs : List Value} {n : Nat} {sp : List (Int × Int)} {r B now : Int} {tr tB tn : Tok} {news : List (Addr × Obj)}
    (hm : (l, listOf vs.toArray n) ∈ news) (hp : Pairs news vs sp) (hl : sp.length ≤ 100) (hn : 0 ≤ now) (hn2 : now ≤ 10000) (hr : 0 ≤ r) (hr2 : r ≤ 1000) (hB : 0 ≤ B) (hB2 : B ≤ 100000) :
    Claim w p loose mean mg mb 227 [.ref l, .int r tr, .int B tB, .int now tn] news 1 (fun v news' => (∃ t, v = .int (room sp r B now) t) ∧ news' = news) := by
  unfold Claim
  intro dp un gd cn cs aa ccd cl outer A₀ base h₀ L m zh zg zd zk zo Q E Bl F X N T hk hd hu hret
  refine Claim.use (room_ok (n := n) (rest := news) hp hl hn hn2 hr hr2 hB hB2) Bl F X (sub_front N fun q hq => ?_) T hk hd hu ?_
  · rcases List.mem_cons.mp hq with rfl | hq
    · exact hm
    · exact hq
  · rintro v news' h' tk' ⟨hv, rfl⟩ F' N'
    exact hret v news h' tk' ⟨hv, rfl⟩ F' (sub_front N' fun q hq => List.Mem.tail _ hq)
abbrev hdP (r1 B1 r2 B2 : Int) (t1 t2 t3 t4 : Tok) (ln lf : Addr) : List (Str × Value) :=
  [(Str.ofString "rate", .int r1 t1), (Str.ofString "peak", .int r2 t2), (Str.ofString "burst", .int B1 t3), (Str.ofString "whole", .int B2 t4), (Str.ofString "near", .ref ln), (Str.ofString "far", .ref lf)]
structure LS where
  near : List (Int × Int)
  far : List (Int × Int)
def due (r1 B1 r2 B2 : Int) (c : Col) (size now : Int) (S : LS) : Col × LS :=
  match c with
  | .r => (.r, S)
  | .y => if room S.far r2 B2 now < 100 * size then (.r, S) else (.y, { S with far := S.far ++ [(now, 100 * size)] })
  | .g => if room S.far r2 B2 now < 100 * size then (.r, S)
      else (if room S.near r1 B1 now < 100 * size then (.y, { S with far := S.far ++ [(now, 100 * size)] }) else (.g, ⟨S.near ++ [(now, 100 * size)], S.far ++ [(now, 100 * size)]⟩))
theorem rot1 {h₀ h : Heap} {L : Addr} {d a b c : Addr × Obj} {r : List (Addr × Obj)} (N : News h₀ L h (d :: a :: b :: c :: r)) : News h₀ L h (a :: b :: c :: ([d] ++ r)) :=
  sub_front N fun q hq => by
    simp only [List.mem_cons, List.mem_append, List.not_mem_nil, or_false] at hq ⊢
    rcases hq with h | h | h | h | h <;> simp [h]
theorem rot2 {h₀ h : Heap} {L : Addr} {d e a b c : Addr × Obj} {r : List (Addr × Obj)} (N : News h₀ L h (d :: e :: a :: b :: c :: r)) : News h₀ L h (a :: b :: c :: ([d, e] ++ r)) :=
  sub_front N fun q hq => by
    simp only [List.mem_cons, List.mem_append, List.not_mem_nil, or_false] at hq ⊢
    rcases hq with h | h | h | (h | h) | h <;> simp [h]
/-- what _law_due leaves -/
def DueP (hh ln lf : Addr) (o : Obj) (rest Y : List (Addr × Obj)) (R : Col × LS) (old : List (Addr × Obj)) (v : Value) (news' : List (Addr × Obj)) : Prop :=
  ∃ t add vf' vn' nf' nn', v = .str R.1.str t ∧ news' = (lf, listOf (List.toArray vf') nf') :: (ln, listOf (List.toArray vn') nn') :: (hh, o) :: (add ++ rest) ∧ Pairs (add ++ Y) vf' R.2.far ∧ Pairs (add ++ Y) vn' R.2.near ∧ ∀ q ∈ add, ∀ p ∈ old, @LT.lt Nat _ p.1 q.1
theorem lt_one {d : Addr × Obj} {old : List (Addr × Obj)} (h : AllLt d.1 old) : ∀ q ∈ [d], ∀ p ∈ old, @LT.lt Nat _ p.1 q.1 := by
  intro q hq p hp
  rw [List.mem_singleton.mp hq]
  exact kst_ltOf h p hp
theorem lt_two {d e : Addr × Obj} {old : List (Addr × Obj)} (h : AllLt d.1 old) (h2 : AllLt e.1 old) : ∀ q ∈ [d, e], ∀ p ∈ old, @LT.lt Nat _ p.1 q.1 := by
  intro q hq p hp
  simp only [List.mem_cons, List.not_mem_nil, or_false] at hq
  rcases hq with rfl | rfl
  · exact kst_ltOf h p hp
  · exact kst_ltOf h2 p hp
local macro_rules | `(tactic| k_all) => `(tactic| assumption)
theorem due_ok {w : World} {p : Program} {loose : List Str} {mean : ExcName → Option Value} {mg mb : Str → Option Value} {hh ln lf : Addr} {o : Obj} {r1 B1 r2 B2 : Int} {t1 t2 t3 t4 : Tok} {nn nf : Nat} {vn vf : List Value} {near far : List (Int × Int)} {rest Y : List (Addr × Obj)} {size now : Int} {ts tn tc : Tok} {c : Col}
    (hD : o.IsDictOf (PySem.strKind PySem.Challenge.rw_pf0381_01.row.prog w) (hdP r1 B1 r2 B2 t1 t2 t3 t4 ln lf)) (hpn0 : Pairs Y vn near) (hpf0 : Pairs Y vf far) (hY : ∀ q ∈ Y, q ∈ rest) (hln : near.length ≤ 100) (hlf : far.length ≤ 100) (hn : 0 ≤ now) (hn2 : now ≤ 10000) (hs : 0 ≤ size) (hs2 : size ≤ 1000) (q1 : 0 ≤ r1) (q2 : r1 ≤ 1000) (q3 : 0 ≤ r2) (q4 : r2 ≤ 1000) (q5 : 0 ≤ B1) (q6 : B1 ≤ 100000) (q7 : 0 ≤ B2) (q8 : B2 ≤ 100000)
    (d1 : lf ≠ ln) (d2 : hh ≠ ln) (d3 : hh ≠ lf) (d4 : ∀ q ∈ rest, q.1 ≠ lf) (d5 : ∀ q ∈ rest, q.1 ≠ ln) :
    Claim w p loose mean mg mb 234 [.ref hh, .int size ts, .int now tn, .str c.str tc] ((lf, listOf vf.toArray nf) :: (ln, listOf vn.toArray nn) :: (hh, o) :: rest) 2
      (DueP hh ln lf o rest Y (due r1 B1 r2 B2 c size now ⟨near, far⟩) ((lf, listOf vf.toArray nf) :: (ln, listOf vn.toArray nn) :: (hh, o) :: rest)) := by
  unfold Claim
  k_fill
  intro dp un gd cn cs aa ccd cl outer A₀ base h₀ L m zh zg zd zk zo Q E B F X N T hk hd hu hret
  have hpn := hpn0.mono hY
  have hpf := hpf0.mono hY
  have hvn := hpn.len
  have e1 := neN d1
  have e2 := neN d2
  have e3 := neN d3
  have hvf := hpf.len
  cases c <;> dsimp only [Col.str] at *
  · refine wpAny_call ?_
    k_dflt ((refine' code_def ?k1 ?k2 ?k3 ?k4 ?k5 ?kA ?kF ?kK ?k6 ?k7 ?k8 ?k9 ?kB ?_ ?c2 ?c3 ?c4 ?c5; (case kA => exact rfl); (case kF => exact rfl); (case kK => first | exact rfl | assumption); (case k1 => k_asm); (case k2 => k_asm); (case k3 => k_asm); (case k4 => k_asm); (case k5 => k_asm); (case k6 => k_is); (case k7 => k_is); (case k8 => ktr_room); (case k9 => first | exact BindsTo.of_eq rfl | exact binds_K (by k_in) rfl (by k_is) rfl rfl rfl); (case c5 => decide); (case kB => exact locs rfl); (case c2 => exact rfl); (case c3 => exact rfl); (case c4 => exact rfl); k_whole; intro g' L' h' FG' F' N' B' X' T'; (try dsimp only); (try k_lift B'); (try k_fold)))
    repeat' (first | (k_unfold; (try dsimp only)) | (k_end; kc_close) | (first | (with_reducible ((k_here; (with_reducible show wpAny _ _ (call (Value.builtin _) [Value.ref _, _]) _ _ _); k_dflt (refine' append_K ?k1 ?k2 ?k3 ?_ ?z; (case k1 => k_asm); (case k2 => k_asm); (case k3 => k_upd); (case z => (simp only [List.size_toArray, PySem.sizeLine_eq]; omega)); k_whole); intro h' F' N'; (try simp only [List.push_toArray] at N')))) | (with_reducible ((k_here; (with_reducible show wpAny _ _ (subscriptTail _ _ (Value.ref _) (Value.str _ _)) _ _ _); k_dflt (refine kda_item (knd := PySem.strKind _ _) (by k_asm) (by k_mem) (by k_asm) (strKind_is _ _ _ _) (by rfl) ?_)))) | (with_reducible ((k_here; (with_reducible show wpAny _ _ (call (Value.ref 227) _) _ _ _); (k_dflt (refine' ClaimK.use (Claim.k1 (room_in ?a1 ?a2 ?a3 ?a4 ?a5 ?a6 ?a7 ?a8 ?a9)) ?kB ?kF ?kX ?kN ?kT ?kK ?kd ?ku ?_; (case kN => k_asm); (case a1 => k_mem); (case a2 => (refine Pairs.mono (by assumption) ?_; (intro q hq); repeat' (first | assumption | apply List.Mem.tail))); (case kF => k_asm); (case kB => k_asm); (case kX => k_asm); (case kT => k_asm); (case kK => first | exact rfl | assumption); (case kd => ktr_room); (case ku => ktr_units); (case a3 => assumption); (case a4 => assumption); (case a5 => assumption); (case a6 => assumption); (case a7 => assumption); (case a8 => assumption); (case a9 => assumption))); (intro t9 h9 tk9 F9 N9); (try dsimp only)))) | walk1) | (dsimp only; (first | (with_reducible ((k_here; (with_reducible show wpAny _ _ (call (Value.builtin _) [Value.ref _, _]) _ _ _); k_dflt (refine' append_K ?k1 ?k2 ?k3 ?_ ?z; (case k1 => k_asm); (case k2 => k_asm); (case k3 => k_upd); (case z => (simp only [List.size_toArray, PySem.sizeLine_eq]; omega)); k_whole); intro h' F' N'; (try simp only [List.push_toArray] at N')))) | (with_reducible ((k_here; (with_reducible show wpAny _ _ (subscriptTail _ _ (Value.ref _) (Value.str _ _)) _ _ _); k_dflt (refine kda_item (knd := PySem.strKind _ _) (by k_asm) (by k_mem) (by k_asm) (strKind_is _ _ _ _) (by rfl) ?_)))) | (with_reducible ((k_here; (with_reducible show wpAny _ _ (call (Value.ref 227) _) _ _ _); (k_dflt (refine' ClaimK.use (Claim.k1 (room_in ?a1 ?a2 ?a3 ?a4 ?a5 ?a6 ?a7 ?a8 ?a9)) ?kB ?kF ?kX ?kN ?kT ?kK ?kd ?ku ?_; (case kN => k_asm); (case a1 => k_mem); (case a2 => (refine Pairs.mono (by assumption) ?_; (intro q hq); repeat' (first | assumption | apply List.Mem.tail))); (case kF => k_asm); (case kB => k_asm); (case kX => k_asm); (case kT => k_asm); (case kK => first | exact rfl | assumption); (case kd => ktr_room); (case ku => ktr_units); (case a3 => assumption); (case a4 => assumption); (case a5 => assumption); (case a6 => assumption); (case a7 => assumption); (case a8 => assumption); (case a9 => assumption))); (intro t9 h9 tk9 F9 N9); (try dsimp only)))) | walk1)) | (leave1; walk_say "STEP leave1"; (try dsimp only)) | fail "no step")
    · refine fin hret (by k_asm) (by k_asm) ?_
      have z : room far r2 B2 now < 100 * size := by assumption
      have e : due r1 B1 r2 B2 .g size now ⟨near, far⟩ = (.r, ⟨near, far⟩) := by unfold due; dsimp only; rw [if_pos z]
      rw [e]
      exact ⟨_, [], _, _, _, _, rfl, rfl, hpf0, hpn0, fun _ h => (nomatch h)⟩
    · refine fin hret (by k_asm) (rot1 (by k_asm)) ?_
      have z : ¬ room far r2 B2 now < 100 * size := by assumption
      have z2 : room near r1 B1 now < 100 * size := by assumption
      have e : due r1 B1 r2 B2 .g size now ⟨near, far⟩ = (.y, ⟨near, far ++ [(now, 100 * size)]⟩) := by unfold due; dsimp only; rw [if_neg z, if_pos z2]
      rw [e]
      refine ⟨_, _, _, _, _, _, rfl, rfl, (hpf0.mono fun q hq => List.mem_append.mpr (.inr hq)).app (.cons (List.Mem.head _) .nil), hpn0.mono fun q hq => List.mem_append.mpr (.inr hq), lt_one ?_⟩
      assumption
    · refine fin hret (by k_asm) (rot2 (by k_asm)) ?_
      have z : ¬ room far r2 B2 now < 100 * size := by assumption
      have z2 : ¬ room near r1 B1 now < 100 * size := by assumption
      have e : due r1 B1 r2 B2 .g size now ⟨near, far⟩ = (.g, ⟨near ++ [(now, 100 * size)], far ++ [(now, 100 * size)]⟩) := by unfold due; dsimp only; rw [if_neg z, if_neg z2]
      rw [e]
      refine ⟨_, _, _, _, _, _, rfl, rfl, (hpf0.mono fun q hq => List.mem_append.mpr (.inr hq)).app (.cons (List.Mem.tail _ (List.Mem.head _)) .nil), (hpn0.mono fun q hq => List.mem_append.mpr (.inr hq)).app (.cons (List.Mem.head _) .nil), lt_two ?_ ?_⟩
      · rename (_ ∧ _) => lz
        exact lz.2
      · assumption
  · refine wpAny_call ?_
    k_dflt ((refine' code_def ?k1 ?k2 ?k3 ?k4 ?k5 ?kA ?kF ?kK ?k6 ?k7 ?k8 ?k9 ?kB ?_ ?c2 ?c3 ?c4 ?c5; (case kA => exact rfl); (case kF => exact rfl); (case kK => first | exact rfl | assumption); (case k1 => k_asm); (case k2 => k_asm); (case k3 => k_asm); (case k4 => k_asm); (case k5 => k_asm); (case k6 => k_is); (case k7 => k_is); (case k8 => ktr_room); (case k9 => first | exact BindsTo.of_eq rfl | exact binds_K (by k_in) rfl (by k_is) rfl rfl rfl); (case c5 => decide); (case kB => exact locs rfl); (case c2 => exact rfl); (case c3 => exact rfl); (case c4 => exact rfl); k_whole; intro g' L' h' FG' F' N' B' X' T'; (try dsimp only); (try k_lift B'); (try k_fold)))
    repeat' (first | (k_unfold; (try dsimp only)) | (k_end; kc_close) | (first | (with_reducible ((k_here; (with_reducible show wpAny _ _ (call (Value.builtin _) [Value.ref _, _]) _ _ _); k_dflt (refine' append_K ?k1 ?k2 ?k3 ?_ ?z; (case k1 => k_asm); (case k2 => k_asm); (case k3 => k_upd); (case z => (simp only [List.size_toArray, PySem.sizeLine_eq]; omega)); k_whole); intro h' F' N'; (try simp only [List.push_toArray] at N')))) | (with_reducible ((k_here; (with_reducible show wpAny _ _ (subscriptTail _ _ (Value.ref _) (Value.str _ _)) _ _ _); k_dflt (refine kda_item (knd := PySem.strKind _ _) (by k_asm) (by k_mem) (by k_asm) (strKind_is _ _ _ _) (by rfl) ?_)))) | (with_reducible ((k_here; (with_reducible show wpAny _ _ (call (Value.ref 227) _) _ _ _); (k_dflt (refine' ClaimK.use (Claim.k1 (room_in ?a1 ?a2 ?a3 ?a4 ?a5 ?a6 ?a7 ?a8 ?a9)) ?kB ?kF ?kX ?kN ?kT ?kK ?kd ?ku ?_; (case kN => k_asm); (case a1 => k_mem); (case a2 => (refine Pairs.mono (by assumption) ?_; (intro q hq); repeat' (first | assumption | apply List.Mem.tail))); (case kF => k_asm); (case kB => k_asm); (case kX => k_asm); (case kT => k_asm); (case kK => first | exact rfl | assumption); (case kd => ktr_room); (case ku => ktr_units); (case a3 => assumption); (case a4 => assumption); (case a5 => assumption); (case a6 => assumption); (case a7 => assumption); (case a8 => assumption); (case a9 => assumption))); (intro t9 h9 tk9 F9 N9); (try dsimp only)))) | walk1) | (dsimp only; (first | (with_reducible ((k_here; (with_reducible show wpAny _ _ (call (Value.builtin _) [Value.ref _, _]) _ _ _); k_dflt (refine' append_K ?k1 ?k2 ?k3 ?_ ?z; (case k1 => k_asm); (case k2 => k_asm); (case k3 => k_upd); (case z => (simp only [List.size_toArray, PySem.sizeLine_eq]; omega)); k_whole); intro h' F' N'; (try simp only [List.push_toArray] at N')))) | (with_reducible ((k_here; (with_reducible show wpAny _ _ (subscriptTail _ _ (Value.ref _) (Value.str _ _)) _ _ _); k_dflt (refine kda_item (knd := PySem.strKind _ _) (by k_asm) (by k_mem) (by k_asm) (strKind_is _ _ _ _) (by rfl) ?_)))) | (with_reducible ((k_here; (with_reducible show wpAny _ _ (call (Value.ref 227) _) _ _ _); (k_dflt (refine' ClaimK.use (Claim.k1 (room_in ?a1 ?a2 ?a3 ?a4 ?a5 ?a6 ?a7 ?a8 ?a9)) ?kB ?kF ?kX ?kN ?kT ?kK ?kd ?ku ?_; (case kN => k_asm); (case a1 => k_mem); (case a2 => (refine Pairs.mono (by assumption) ?_; (intro q hq); repeat' (first | assumption | apply List.Mem.tail))); (case kF => k_asm); (case kB => k_asm); (case kX => k_asm); (case kT => k_asm); (case kK => first | exact rfl | assumption); (case kd => ktr_room); (case ku => ktr_units); (case a3 => assumption); (case a4 => assumption); (case a5 => assumption); (case a6 => assumption); (case a7 => assumption); (case a8 => assumption); (case a9 => assumption))); (intro t9 h9 tk9 F9 N9); (try dsimp only)))) | walk1)) | (leave1; walk_say "STEP leave1"; (try dsimp only)) | fail "no step")
    · refine fin hret (by k_asm) (by k_asm) ?_
      have z : room far r2 B2 now < 100 * size := by assumption
      have e : due r1 B1 r2 B2 .y size now ⟨near, far⟩ = (.r, ⟨near, far⟩) := by unfold due; dsimp only; rw [if_pos z]
      rw [e]
      exact ⟨_, [], _, _, _, _, rfl, rfl, hpf0, hpn0, fun _ h => (nomatch h)⟩
    · refine fin hret (by k_asm) (rot1 (by k_asm)) ?_
      have z : ¬ room far r2 B2 now < 100 * size := by assumption
      have e : due r1 B1 r2 B2 .y size now ⟨near, far⟩ = (.y, ⟨near, far ++ [(now, 100 * size)]⟩) := by unfold due; dsimp only; rw [if_neg z]
      rw [e]
      refine ⟨_, _, _, _, _, _, rfl, rfl, (hpf0.mono fun q hq => List.mem_append.mpr (.inr hq)).app (.cons (List.Mem.head _) .nil), hpn0.mono fun q hq => List.mem_append.mpr (.inr hq), lt_one ?_⟩
      assumption
  · refine wpAny_call ?_
    k_dflt ((refine' code_def ?k1 ?k2 ?k3 ?k4 ?k5 ?kA ?kF ?kK ?k6 ?k7 ?k8 ?k9 ?kB ?_ ?c2 ?c3 ?c4 ?c5; (case kA => exact rfl); (case kF => exact rfl); (case kK => first | exact rfl | assumption); (case k1 => k_asm); (case k2 => k_asm); (case k3 => k_asm); (case k4 => k_asm); (case k5 => k_asm); (case k6 => k_is); (case k7 => k_is); (case k8 => ktr_room); (case k9 => first | exact BindsTo.of_eq rfl | exact binds_K (by k_in) rfl (by k_is) rfl rfl rfl); (case c5 => decide); (case kB => exact locs rfl); (case c2 => exact rfl); (case c3 => exact rfl); (case c4 => exact rfl); k_whole; intro g' L' h' FG' F' N' B' X' T'; (try dsimp only); (try k_lift B'); (try k_fold)))
    repeat' (first | (k_unfold; (try dsimp only)) | (k_end; kc_close) | (first | (with_reducible ((k_here; (with_reducible show wpAny _ _ (call (Value.builtin _) [Value.ref _, _]) _ _ _); k_dflt (refine' append_K ?k1 ?k2 ?k3 ?_ ?z; (case k1 => k_asm); (case k2 => k_asm); (case k3 => k_upd); (case z => (simp only [List.size_toArray, PySem.sizeLine_eq]; omega)); k_whole); intro h' F' N'; (try simp only [List.push_toArray] at N')))) | (with_reducible ((k_here; (with_reducible show wpAny _ _ (subscriptTail _ _ (Value.ref _) (Value.str _ _)) _ _ _); k_dflt (refine kda_item (knd := PySem.strKind _ _) (by k_asm) (by k_mem) (by k_asm) (strKind_is _ _ _ _) (by rfl) ?_)))) | (with_reducible ((k_here; (with_reducible show wpAny _ _ (call (Value.ref 227) _) _ _ _); (k_dflt (refine' ClaimK.use (Claim.k1 (room_in ?a1 ?a2 ?a3 ?a4 ?a5 ?a6 ?a7 ?a8 ?a9)) ?kB ?kF ?kX ?kN ?kT ?kK ?kd ?ku ?_; (case kN => k_asm); (case a1 => k_mem); (case a2 => (refine Pairs.mono (by assumption) ?_; (intro q hq); repeat' (first | assumption | apply List.Mem.tail))); (case kF => k_asm); (case kB => k_asm); (case kX => k_asm); (case kT => k_asm); (case kK => first | exact rfl | assumption); (case kd => ktr_room); (case ku => ktr_units); (case a3 => assumption); (case a4 => assumption); (case a5 => assumption); (case a6 => assumption); (case a7 => assumption); (case a8 => assumption); (case a9 => assumption))); (intro t9 h9 tk9 F9 N9); (try dsimp only)))) | walk1) | (dsimp only; (first | (with_reducible ((k_here; (with_reducible show wpAny _ _ (call (Value.builtin _) [Value.ref _, _]) _ _ _); k_dflt (refine' append_K ?k1 ?k2 ?k3 ?_ ?z; (case k1 => k_asm); (case k2 => k_asm); (case k3 => k_upd); (case z => (simp only [List.size_toArray, PySem.sizeLine_eq]; omega)); k_whole); intro h' F' N'; (try simp only [List.push_toArray] at N')))) | (with_reducible ((k_here; (with_reducible show wpAny _ _ (subscriptTail _ _ (Value.ref _) (Value.str _ _)) _ _ _); k_dflt (refine kda_item (knd := PySem.strKind _ _) (by k_asm) (by k_mem) (by k_asm) (strKind_is _ _ _ _) (by rfl) ?_)))) | (with_reducible ((k_here; (with_reducible show wpAny _ _ (call (Value.ref 227) _) _ _ _); (k_dflt (refine' ClaimK.use (Claim.k1 (room_in ?a1 ?a2 ?a3 ?a4 ?a5 ?a6 ?a7 ?a8 ?a9)) ?kB ?kF ?kX ?kN ?kT ?kK ?kd ?ku ?_; (case kN => k_asm); (case a1 => k_mem); (case a2 => (refine Pairs.mono (by assumption) ?_; (intro q hq); repeat' (first | assumption | apply List.Mem.tail))); (case kF => k_asm); (case kB => k_asm); (case kX => k_asm); (case kT => k_asm); (case kK => first | exact rfl | assumption); (case kd => ktr_room); (case ku => ktr_units); (case a3 => assumption); (case a4 => assumption); (case a5 => assumption); (case a6 => assumption); (case a7 => assumption); (case a8 => assumption); (case a9 => assumption))); (intro t9 h9 tk9 F9 N9); (try dsimp only)))) | walk1)) | (leave1; walk_say "STEP leave1"; (try dsimp only)) | fail "no step")
    refine fin hret (by k_asm) (by k_asm) ?_
    exact ⟨_, [], _, _, _, _, rfl, rfl, hpf0, hpn0, fun _ h => (nomatch h)⟩
end Mine
end
section
open PySem PySem.W PySem.Calls PyProof.Rows PySem.Spec
set_option maxRecDepth 100000
set_option maxHeartbeats 8000000
namespace Mine
theorem anew_Wi : True := by
  w_top off
  exact True.intro
theorem range_loop {prog : Program} {w : World} {A : Around} {E : Value → Shared → Prop} {s : Shared} {env : Env} {h₀ : Heap} {x : Str} {body : List Stmt} {Q : Flow → Shared → Prop} {r : Addr} {b₀ : Int} {t₀ u₀ v₀ : Tok} {n : Nat} {m₀ : Str → Option Value} {news : List (Addr × Obj)}
    (J : Nat → (Str → Option Value) → List (Addr × Obj) → Prop)
    (hh : A.handled = none) (hr : IsRange s.heap r 0 b₀ 1 t₀ u₀ v₀) (hsmall : Builtin.Range.small 0 b₀ 1 = true) (hsz : Builtin.Range.rangeSize 0 b₀ 1 = (n : Int)) (F : Fr h₀ env.locals s.heap m₀) (N : News h₀ env.locals s.heap news) (hj : J 0 m₀ news)
    (turn : ∀ i t m₁ nx h tk own, i < n → OwnOff own (nx.map (·.1)) → J i m₁ nx → Fr h₀ env.locals h (fun y => if y = x then some (.int (i : Int) t) else m₁ y) → News h₀ env.locals h (nx ++ own) →
      wpAny (model prog w) A (execs body env) (InvPostG h₀ env.locals (J (i + 1)) own { s with heap := h, toks := tk } Q) E { s with heap := h, toks := tk })
    (done : ∀ m₁ nx h tk, J n m₁ nx → Fr h₀ env.locals h m₁ → News h₀ env.locals h nx → Q .next { s with heap := h, toks := tk }) :
    wpAny (model prog w) A (pyIter (.ref r)) (fun it s₂ => LoopAtV prog w A h₀ env x body Q E it s₂) E s := by
  refine wpAny_pyIter_range hr hsmall ?_
  have W : Walks prog w A s.heap.objs.size [s.heap.objs.size] [s.heap.objs.size] n (fun i v => i < n ∧ ∃ t, v = .int (0 + i * 1) t)
      (fun i h => IsRangeIter h s.heap.objs.size (0 + (i : Nat) * 1) ((n : Int) - (i : Nat)) 1) := (Walks.range hh _ 0 1 n).bound
  refine kdr_loop J W (fun _ h => h) (fun _ h => h) ?_ ?_ ?_ ?_ (by show IsRangeIter _ _ _ _ _; rw [hsz]; simpa using Heap.get?_push_size _ rfl) (F.push _) (fun q hq => ⟨Heap.get?_push_of_some _ (N q hq).1, (N q hq).2⟩) hj ?_ ?_
  · intro i h hi b hb
    rw [List.mem_singleton.mp hb]
    exact ⟨_, hi⟩
  · intro hm
    exact absurd F.ns.lt ((List.mem_singleton.mp hm) ▸ Nat.lt_irrefl _)
  · intro b hb
    rw [List.mem_singleton.mp hb]
    exact next_is_new F
  · intro q hq hI
    exact absurd (Heap.lt_size (N q hq).1) ((List.mem_singleton.mp hI) ▸ Nat.lt_irrefl _)
  · rintro i v m₁ nx h tk own hi ⟨_, t, rfl⟩ hoff hJ F₁ N₁
    have e1 : (0 : Int) + (i : Int) * 1 = (i : Int) := by omega
    rw [e1] at F₁
    exact turn i t m₁ nx h tk own hi hoff hJ F₁ N₁
  · exact done
/-- a row of the stream: its time, its size, its colour -/
structure Row where
  time : Int
  size : Int
  col : Col
abbrev tripO (e : Row) (k1 k2 k3 : Tok) : Obj := { cls := .type "tuple", data := .seq [Value.int e.time k1, Value.int e.size k2, Value.str e.col.str k3].toArray }
inductive Trips (news : List (Addr × Obj)) : List Value → List Row → Prop where
  | nil : Trips news [] []
  | cons {a : Addr} {e : Row} {k1 k2 k3 : Tok} {vs : List Value} {rw : List Row} : (a, tripO e k1 k2 k3) ∈ news → Trips news vs rw → Trips news (.ref a :: vs) (e :: rw)
theorem Trips.len {news : List (Addr × Obj)} {vs : List Value} {rw : List Row} (h : Trips news vs rw) : vs.length = rw.length := by
  induction h with
  | nil => rfl
  | cons _ _ ih => simp [ih]
theorem Trips.app {news : List (Addr × Obj)} {vs ws : List Value} {sp sq : List Row} (h : Trips news vs sp) (k : Trips news ws sq) : Trips news (vs ++ ws) (sp ++ sq) := by
  induction h with
  | nil => exact k
  | cons hm _ ih => exact .cons hm ih
theorem Trips.mono {news news' : List (Addr × Obj)} {vs : List Value} {sp : List Row} (h : Trips news vs sp) (hs : ∀ q ∈ news, q ∈ news') : Trips news' vs sp := by
  induction h with
  | nil => exact .nil
  | cons hm _ ih => exact .cons (hs _ hm) ih
theorem Trips.drop {news : List (Addr × Obj)} {vs : List Value} {sp : List Row} (h : Trips news vs sp) : ∀ i, Trips news (vs.drop i) (sp.drop i) := by
  induction h with
  | nil => intro i; simp; exact .nil
  | cons hm h ih =>
    intro i
    cases i with
    | zero => exact .cons hm h
    | succ i => exact ih i
theorem Trips.at {news : List (Addr × Obj)} {vs : List Value} {sp : List Row} (h : Trips news vs sp) : ∀ {i : Nat} {v : Value}, vs[i]? = some v → ∃ a e k1 k2 k3, v = .ref a ∧ (a, tripO e k1 k2 k3) ∈ news ∧ sp[i]? = some e := by
  induction h with
  | nil => intro i v e; simp at e
  | cons hm _ ih =>
    intro i v e
    cases i with
    | zero => simp at e; subst e; exact ⟨_, _, _, _, _, rfl, hm, rfl⟩
    | succ i => exact ih (by simpa using e)
def hasC (ys : List Str) (c : Col) : Bool := ys.any (· == c.str)
def octs (ys : List Str) (l : List Row) : Int := l.foldl (fun o e => o + e.size * (if hasC ys e.col = true then 1 else 0)) 0
/-- the octets of these colours stay within rate and burst of each stretch -/
def Within (ys : List Str) (r B : Int) (rw : List Row) : Prop :=
  ∀ i j e0 e, rw[i]? = some e0 → (rw.drop i)[j]? = some e → 100 * octs ys ((rw.drop i).take (j + 1)) ≤ B + r * (e.time - e0.time)
theorem item_nth {value slice : PySem.Expr} {prog : Program} {w : World} {A : Around} {E : Value → Shared → Prop} {s : Shared} {h₀ : Heap} {L l : Addr} {news : List (Addr × Obj)} {vs : List Value} {n i : Nat} {u : Tok} {v : Value} {Q : Value → Shared → Prop} (N : News h₀ L s.heap news) (hm : (l, listOf vs.toArray n) ∈ news)
    (hx : vs[i]? = some v) (hfit : vs.length ≤ 1000) (h : Q v s)
    (hs : subscripted slice false (.ref l) (.int (i : Int) u) = operate [.ref l, .int (i : Int) u] (getItem (.ref l) (.int (i : Int) u)) := by with_unfolding_all rfl) :
    wpAny (model prog w) A (subscriptTail value slice (.ref l) (.int (i : Int) u)) Q E s := by
  have hl : s.heap.IsList l vs.toArray := ⟨_, (N _ hm).1, rfl, n, rfl⟩
  have hk : i < vs.length := (List.getElem?_eq_some_iff.mp hx).1
  exact tail_any hl.typeIs slot_list_getitem.lookup (wpAny_getItem_list hl (by omega) (by omega) (by simpa using hx) h) hs
theorem pick_drop (vs : List Value) (i : Nat) (h : i ≤ vs.length) : (slicePick vs.toArray (some (i : Int)) none none).toList = vs.drop i := by
  rw [slicePick_from vs.toArray i (by simpa using h)]
local macro_rules | `(tactic| k_all) => `(tactic| assumption)
theorem eq_if {m m' : Str → Option Value} {x : Str} {v : Option Value} (e : ∀ y, m' y = m y) : ∀ y, (if y = x then v else m' y) = (if y = x then v else m y) := by
  intro y
  by_cases hy : y = x
  · rw [if_pos hy, if_pos hy]
  · rw [if_neg hy, if_neg hy]; exact e y
theorem cons_in0 {h₀ h : Heap} {L : Addr} {q : Addr × Obj} {l : List (Addr × Obj)} (N : News h₀ L h l) (hm : q ∈ l) : News h₀ L h (q :: l) :=
  sub_front N fun x hx => by
    rcases List.mem_cons.mp hx with rfl | hx
    · exact hm
    · exact hx
theorem mid4 {h₀ h : Heap} {L : Addr} {q a b c d : Addr × Obj} {o r : List (Addr × Obj)} (N : News h₀ L h (q :: (o ++ a :: b :: c :: d :: r))) : News h₀ L h (q :: a :: b :: c :: d :: (o ++ r)) :=
  sub_front N fun x hx => by
    simp only [List.mem_cons, List.mem_append] at hx ⊢
    rcases hx with h | h | h | h | h | h | h <;> simp [h]
theorem mid4' {h₀ h : Heap} {L : Addr} {q a b c d : Addr × Obj} {o r : List (Addr × Obj)} (N : News h₀ L h (q :: a :: b :: c :: d :: (o ++ r))) : News h₀ L h (o ++ a :: b :: c :: d :: r) :=
  sub_front N fun x hx => by
    simp only [List.mem_cons, List.mem_append] at hx ⊢
    rcases hx with h | h | h | h | h | h <;> simp [h]
theorem oct_next {ys : List Str} {l : List Row} {j : Nat} {e : Row} (h : l[j]? = some e) : octs ys (l.take (j + 1)) = octs ys (l.take j) + e.size * (if ys.any (· == e.col.str) = true then 1 else 0) := by
  unfold octs
  rw [fold_next h]; rfl
def WithJ (rl cl0 : Addr) (r B : Int) (tr tB : Tok) (LD : List (Addr × Obj)) (_i : Nat) (m : Str → Option Value) (nx : List (Addr × Obj)) : Prop :=
  nx = LD ∧ m (Str.ofString "rows") = some (.ref rl) ∧ m (Str.ofString "rate") = some (.int r tr) ∧ m (Str.ofString "burst") = some (.int B tB) ∧ m (Str.ofString "colours") = some (.ref cl0)
def WithI (rl cl0 : Addr) (r B : Int) (tr tB : Tok) (ys : List Str) (l : List Row) (i : Nat) (ti : Tok) (j : Nat) (m : Str → Option Value) : Prop :=
  (∃ to, m (Str.ofString "octets") = some (.int (octs ys (l.take j)) to)) ∧ m (Str.ofString "first") = some (.int (i : Int) ti) ∧ m (Str.ofString "rows") = some (.ref rl) ∧ m (Str.ofString "rate") = some (.int r tr) ∧ m (Str.ofString "burst") = some (.int B tB) ∧ m (Str.ofString "colours") = some (.ref cl0)
theorem within_ok {w : World} {p : Program} {loose : List Str} {mean : ExcName → Option Value} {mg mb : Str → Option Value} {rl cl0 : Addr} {vs cvs : List Value} {rw : List Row} {ys : List Str} {r B : Int} {tr tB : Tok} {n nc : Nat} {rest : List (Addr × Obj)}
    (hp : Trips rest vs rw) (hl : rw.length ≤ 100) (hys : StrsAre cvs ys) (hr : 0 ≤ r) (hr2 : r ≤ 1000) (hW : Within ys r B rw) :
    Claim w p loose mean mg mb 241 [.ref rl, .int r tr, .int B tB, .ref cl0] ((rl, listOf vs.toArray n) :: (cl0, listOf cvs.toArray nc) :: rest) 1
      (fun v news' => v = .bool true ∧ news' = (rl, listOf vs.toArray n) :: (cl0, listOf cvs.toArray nc) :: rest) := by
  unfold Claim
  k_fill
  intro dp un gd cn cs aa ccd cl outer A₀ base h₀ L m zh zg zd zk zo Q E Bl F X N T hk hd hu hret
  have hvl := hp.len
  refine wpAny_call ?_
  k_dflt cell_enter
  repeat' (first | (k_unfold; (try dsimp only)) | ((fail_if_success (with_reducible show wpAny _ _ (pyIter _) _ _ _)); first | (first | (with_reducible ((k_here; (with_reducible show wpAny _ _ (compareOp CmpOp.In (Value.str _ _) (Value.ref _)) _ _ _); (with_unfolding_all refine' in_list_strs ?k1 ?k2 ?_; (case k1 => exact News.isList (by k_asm) (by repeat' (first | exact List.Mem.head _ | apply List.Mem.tail | refine List.mem_append.mpr (.inr ?_)))); (case k2 => assumption); k_whole)))) | (with_reducible ((k_here; (with_reducible show wpAny _ _ (subscriptTail _ (PySem.Expr.Slice (some _) none none _) (Value.ref _) (Value.ref _)) _ _ _); k_dflt (refine' kmk_slice_lit ?slF ?slN ?sll ?slp ?slq (pick_drop _ _ ?sle) ?_ ?sls ?slt ?slz; (case slF => k_asm); (case slN => k_asm); (case sll => kmk_list); (case slp => exact IsPart.int _ _); (case slq => exact IsPart.none); (case sle => omega); (case sls => with_unfolding_all rfl); (case slt => kmk_pure); (case slz => (simp only [List.size_toArray, PySem.sizeLine_eq]; omega))); intro D' h' F' N' l1; (try k_lt l1)))) | (with_reducible ((k_here; (with_reducible show wpAny _ _ (subscriptTail _ _ (Value.ref _) (Value.int (Nat.cast _) _)) _ _ _); (with_unfolding_all refine' item_nth ?k1 ?k2 ?k3 ?k5 ?_ ?k7; (case k1 => k_asm); (case k2 => k_mem); (case k3 => assumption); (case k5 => omega); (case k7 => with_unfolding_all rfl); k_whole)))) | (with_reducible ((k_here; (with_reducible show wpAny _ _ (call (Value.builtin "len") [Value.ref _]) _ _ _); k_dflt (refine' len_at ?k1 ?k2 ?k3 ?_; (case k1 => k_asm); (case k2 => k_mem); (case k3 => omega); k_whole)))) | walk1) | (dsimp only; (first | (with_reducible ((k_here; (with_reducible show wpAny _ _ (compareOp CmpOp.In (Value.str _ _) (Value.ref _)) _ _ _); (with_unfolding_all refine' in_list_strs ?k1 ?k2 ?_; (case k1 => exact News.isList (by k_asm) (by repeat' (first | exact List.Mem.head _ | apply List.Mem.tail | refine List.mem_append.mpr (.inr ?_)))); (case k2 => assumption); k_whole)))) | (with_reducible ((k_here; (with_reducible show wpAny _ _ (subscriptTail _ (PySem.Expr.Slice (some _) none none _) (Value.ref _) (Value.ref _)) _ _ _); k_dflt (refine' kmk_slice_lit ?slF ?slN ?sll ?slp ?slq (pick_drop _ _ ?sle) ?_ ?sls ?slt ?slz; (case slF => k_asm); (case slN => k_asm); (case sll => kmk_list); (case slp => exact IsPart.int _ _); (case slq => exact IsPart.none); (case sle => omega); (case sls => with_unfolding_all rfl); (case slt => kmk_pure); (case slz => (simp only [List.size_toArray, PySem.sizeLine_eq]; omega))); intro D' h' F' N' l1; (try k_lt l1)))) | (with_reducible ((k_here; (with_reducible show wpAny _ _ (subscriptTail _ _ (Value.ref _) (Value.int (Nat.cast _) _)) _ _ _); (with_unfolding_all refine' item_nth ?k1 ?k2 ?k3 ?k5 ?_ ?k7; (case k1 => k_asm); (case k2 => k_mem); (case k3 => assumption); (case k5 => omega); (case k7 => with_unfolding_all rfl); k_whole)))) | (with_reducible ((k_here; (with_reducible show wpAny _ _ (call (Value.builtin "len") [Value.ref _]) _ _ _); k_dflt (refine' len_at ?k1 ?k2 ?k3 ?_; (case k1 => k_asm); (case k2 => k_mem); (case k3 => omega); k_whole)))) | walk1))))
  rename Fr _ _ _ _ => lF
  rename News _ _ _ _ => lN
  rename IsRange _ _ _ _ _ _ _ _ => lR
  refine range_loop (n := vs.length) (WithJ rl cl0 r B tr tB ((rl, listOf vs.toArray n) :: (cl0, listOf cvs.toArray nc) :: rest)) rfl lR (small_one (by omega) (by omega) (by omega) (by omega)) (rangeSize_nat _ _) lF lN ⟨rfl, rfl, rfl, rfl, rfl⟩ ?_ ?_
  · rintro i t m₁ nx h tk own hi hoff ⟨rfl, j1, j2, j3, j4⟩ F₁ N₁
    have F₂ := fr_eq F₁ (eq_if (eq_at j1 (eq_at j2 (eq_at j3 (eq_at j4 fun _ => rfl)))))
    obtain ⟨v0, hv0⟩ : ∃ v, vs[i]? = some v := ⟨vs[i], by simp [hi]⟩
    obtain ⟨a0, e0, k1, k2, k3, rfl, hm0, he0⟩ := hp.at hv0
    simp only [List.cons_append] at N₁
    have N₂ := cons_in0 N₁ (List.Mem.tail _ (List.Mem.tail _ (List.mem_append.mpr (.inl hm0))))
    clear F₁ N₁ lF lN
    repeat' (first | (k_unfold; (try dsimp only)) | ((fail_if_success (with_reducible show wpAny _ _ (exec (Stmt.For _ _ _ _ _) _) _ _ _)); first | (first | (with_reducible ((k_here; (with_reducible show wpAny _ _ (compareOp CmpOp.In (Value.str _ _) (Value.ref _)) _ _ _); (with_unfolding_all refine' in_list_strs ?k1 ?k2 ?_; (case k1 => exact News.isList (by k_asm) (by repeat' (first | exact List.Mem.head _ | apply List.Mem.tail | refine List.mem_append.mpr (.inr ?_)))); (case k2 => assumption); k_whole)))) | (with_reducible ((k_here; (with_reducible show wpAny _ _ (subscriptTail _ (PySem.Expr.Slice (some _) none none _) (Value.ref _) (Value.ref _)) _ _ _); k_dflt (refine' kmk_slice_lit ?slF ?slN ?sll ?slp ?slq (pick_drop _ _ ?sle) ?_ ?sls ?slt ?slz; (case slF => k_asm); (case slN => k_asm); (case sll => kmk_list); (case slp => exact IsPart.int _ _); (case slq => exact IsPart.none); (case sle => omega); (case sls => with_unfolding_all rfl); (case slt => kmk_pure); (case slz => (simp only [List.size_toArray, PySem.sizeLine_eq]; omega))); intro D' h' F' N' l1; (try k_lt l1)))) | (with_reducible ((k_here; (with_reducible show wpAny _ _ (subscriptTail _ _ (Value.ref _) (Value.int (Nat.cast _) _)) _ _ _); (with_unfolding_all refine' item_nth ?k1 ?k2 ?k3 ?k5 ?_ ?k7; (case k1 => k_asm); (case k2 => k_mem); (case k3 => assumption); (case k5 => omega); (case k7 => with_unfolding_all rfl); k_whole)))) | (with_reducible ((k_here; (with_reducible show wpAny _ _ (call (Value.builtin "len") [Value.ref _]) _ _ _); k_dflt (refine' len_at ?k1 ?k2 ?k3 ?_; (case k1 => k_asm); (case k2 => k_mem); (case k3 => omega); k_whole)))) | walk1) | (dsimp only; (first | (with_reducible ((k_here; (with_reducible show wpAny _ _ (compareOp CmpOp.In (Value.str _ _) (Value.ref _)) _ _ _); (with_unfolding_all refine' in_list_strs ?k1 ?k2 ?_; (case k1 => exact News.isList (by k_asm) (by repeat' (first | exact List.Mem.head _ | apply List.Mem.tail | refine List.mem_append.mpr (.inr ?_)))); (case k2 => assumption); k_whole)))) | (with_reducible ((k_here; (with_reducible show wpAny _ _ (subscriptTail _ (PySem.Expr.Slice (some _) none none _) (Value.ref _) (Value.ref _)) _ _ _); k_dflt (refine' kmk_slice_lit ?slF ?slN ?sll ?slp ?slq (pick_drop _ _ ?sle) ?_ ?sls ?slt ?slz; (case slF => k_asm); (case slN => k_asm); (case sll => kmk_list); (case slp => exact IsPart.int _ _); (case slq => exact IsPart.none); (case sle => omega); (case sls => with_unfolding_all rfl); (case slt => kmk_pure); (case slz => (simp only [List.size_toArray, PySem.sizeLine_eq]; omega))); intro D' h' F' N' l1; (try k_lt l1)))) | (with_reducible ((k_here; (with_reducible show wpAny _ _ (subscriptTail _ _ (Value.ref _) (Value.int (Nat.cast _) _)) _ _ _); (with_unfolding_all refine' item_nth ?k1 ?k2 ?k3 ?k5 ?_ ?k7; (case k1 => k_asm); (case k2 => k_mem); (case k3 => assumption); (case k5 => omega); (case k7 => with_unfolding_all rfl); k_whole)))) | (with_reducible ((k_here; (with_reducible show wpAny _ _ (call (Value.builtin "len") [Value.ref _]) _ _ _); k_dflt (refine' len_at ?k1 ?k2 ?k3 ?_; (case k1 => k_asm); (case k2 => k_mem); (case k3 => omega); k_whole)))) | walk1))))
    rename Fr _ _ _ _ => lF
    refine For_invTF lF ?_ (by intro _; rfl)
    repeat' (first | (k_unfold; (try dsimp only)) | ((fail_if_success (with_reducible show wpAny _ _ (pyIter _) _ _ _)); first | (first | (with_reducible ((k_here; (with_reducible show wpAny _ _ (compareOp CmpOp.In (Value.str _ _) (Value.ref _)) _ _ _); (with_unfolding_all refine' in_list_strs ?k1 ?k2 ?_; (case k1 => exact News.isList (by k_asm) (by repeat' (first | exact List.Mem.head _ | apply List.Mem.tail | refine List.mem_append.mpr (.inr ?_)))); (case k2 => assumption); k_whole)))) | (with_reducible ((k_here; (with_reducible show wpAny _ _ (subscriptTail _ (PySem.Expr.Slice (some _) none none _) (Value.ref _) (Value.ref _)) _ _ _); k_dflt (refine' kmk_slice_lit ?slF ?slN ?sll ?slp ?slq (pick_drop _ _ ?sle) ?_ ?sls ?slt ?slz; (case slF => k_asm); (case slN => k_asm); (case sll => kmk_list); (case slp => exact IsPart.int _ _); (case slq => exact IsPart.none); (case sle => omega); (case sls => with_unfolding_all rfl); (case slt => kmk_pure); (case slz => (simp only [List.size_toArray, PySem.sizeLine_eq]; omega))); intro D' h' F' N' l1; (try k_lt l1)))) | (with_reducible ((k_here; (with_reducible show wpAny _ _ (subscriptTail _ _ (Value.ref _) (Value.int (Nat.cast _) _)) _ _ _); (with_unfolding_all refine' item_nth ?k1 ?k2 ?k3 ?k5 ?_ ?k7; (case k1 => k_asm); (case k2 => k_mem); (case k3 => assumption); (case k5 => omega); (case k7 => with_unfolding_all rfl); k_whole)))) | (with_reducible ((k_here; (with_reducible show wpAny _ _ (call (Value.builtin "len") [Value.ref _]) _ _ _); k_dflt (refine' len_at ?k1 ?k2 ?k3 ?_; (case k1 => k_asm); (case k2 => k_mem); (case k3 => omega); k_whole)))) | walk1) | (dsimp only; (first | (with_reducible ((k_here; (with_reducible show wpAny _ _ (compareOp CmpOp.In (Value.str _ _) (Value.ref _)) _ _ _); (with_unfolding_all refine' in_list_strs ?k1 ?k2 ?_; (case k1 => exact News.isList (by k_asm) (by repeat' (first | exact List.Mem.head _ | apply List.Mem.tail | refine List.mem_append.mpr (.inr ?_)))); (case k2 => assumption); k_whole)))) | (with_reducible ((k_here; (with_reducible show wpAny _ _ (subscriptTail _ (PySem.Expr.Slice (some _) none none _) (Value.ref _) (Value.ref _)) _ _ _); k_dflt (refine' kmk_slice_lit ?slF ?slN ?sll ?slp ?slq (pick_drop _ _ ?sle) ?_ ?sls ?slt ?slz; (case slF => k_asm); (case slN => k_asm); (case sll => kmk_list); (case slp => exact IsPart.int _ _); (case slq => exact IsPart.none); (case sle => omega); (case sls => with_unfolding_all rfl); (case slt => kmk_pure); (case slz => (simp only [List.size_toArray, PySem.sizeLine_eq]; omega))); intro D' h' F' N' l1; (try k_lt l1)))) | (with_reducible ((k_here; (with_reducible show wpAny _ _ (subscriptTail _ _ (Value.ref _) (Value.int (Nat.cast _) _)) _ _ _); (with_unfolding_all refine' item_nth ?k1 ?k2 ?k3 ?k5 ?_ ?k7; (case k1 => k_asm); (case k2 => k_mem); (case k3 => assumption); (case k5 => omega); (case k7 => with_unfolding_all rfl); k_whole)))) | (with_reducible ((k_here; (with_reducible show wpAny _ _ (call (Value.builtin "len") [Value.ref _]) _ _ _); k_dflt (refine' len_at ?k1 ?k2 ?k3 ?_; (case k1 => k_asm); (case k2 => k_mem); (case k3 => omega); k_whole)))) | walk1))))
    rename Fr _ _ _ _ => lF2
    rename News _ _ _ _ => lN2
    have hdr := (hp.drop i).len
    refine tup_loop (n := 0) (WithI rl cl0 r B tr tB ys (rw.drop i) i t) rfl lF2 lN2 (List.Mem.head _) ⟨⟨_, rfl⟩, rfl, rfl, rfl, rfl, rfl⟩ ?_ ?_
    · rintro j v m₂ s₁ own2 hv ⟨⟨to, g0⟩, g1, g2, g3, g4, g5⟩ F₃ N₃
      obtain ⟨a1, e1, x1, x2, x3, rfl, hm1, he1⟩ := (hp.drop i).at hv
      have F₄ := fr_eq F₃ (eq_at g0 (eq_at g1 (eq_at g2 (eq_at g3 (eq_at g4 (eq_at g5 fun _ => rfl))))))
      have N₄ := cons_in N₃ (List.Mem.tail _ (List.Mem.tail _ (List.Mem.tail _ (List.Mem.tail _ (List.mem_append.mpr (.inl hm1))))))
      have N₄ := mid4 N₄
      clear F₃ N₃ lF2 lN2
      repeat' (first | (k_unfold; (try dsimp only)) | first | (first | (with_reducible ((k_here; (with_reducible show wpAny _ _ (compareOp CmpOp.In (Value.str _ _) (Value.ref _)) _ _ _); (with_unfolding_all refine' in_list_strs ?k1 ?k2 ?_; (case k1 => exact News.isList (by k_asm) (by repeat' (first | exact List.Mem.head _ | apply List.Mem.tail | refine List.mem_append.mpr (.inr ?_)))); (case k2 => assumption); k_whole)))) | (with_reducible ((k_here; (with_reducible show wpAny _ _ (subscriptTail _ (PySem.Expr.Slice (some _) none none _) (Value.ref _) (Value.ref _)) _ _ _); k_dflt (refine' kmk_slice_lit ?slF ?slN ?sll ?slp ?slq (pick_drop _ _ ?sle) ?_ ?sls ?slt ?slz; (case slF => k_asm); (case slN => k_asm); (case sll => kmk_list); (case slp => exact IsPart.int _ _); (case slq => exact IsPart.none); (case sle => omega); (case sls => with_unfolding_all rfl); (case slt => kmk_pure); (case slz => (simp only [List.size_toArray, PySem.sizeLine_eq]; omega))); intro D' h' F' N' l1; (try k_lt l1)))) | (with_reducible ((k_here; (with_reducible show wpAny _ _ (subscriptTail _ _ (Value.ref _) (Value.int (Nat.cast _) _)) _ _ _); (with_unfolding_all refine' item_nth ?k1 ?k2 ?k3 ?k5 ?_ ?k7; (case k1 => k_asm); (case k2 => k_mem); (case k3 => assumption); (case k5 => omega); (case k7 => with_unfolding_all rfl); k_whole)))) | (with_reducible ((k_here; (with_reducible show wpAny _ _ (call (Value.builtin "len") [Value.ref _]) _ _ _); k_dflt (refine' len_at ?k1 ?k2 ?k3 ?_; (case k1 => k_asm); (case k2 => k_mem); (case k3 => omega); k_whole)))) | walk1) | (dsimp only; (first | (with_reducible ((k_here; (with_reducible show wpAny _ _ (compareOp CmpOp.In (Value.str _ _) (Value.ref _)) _ _ _); (with_unfolding_all refine' in_list_strs ?k1 ?k2 ?_; (case k1 => exact News.isList (by k_asm) (by repeat' (first | exact List.Mem.head _ | apply List.Mem.tail | refine List.mem_append.mpr (.inr ?_)))); (case k2 => assumption); k_whole)))) | (with_reducible ((k_here; (with_reducible show wpAny _ _ (subscriptTail _ (PySem.Expr.Slice (some _) none none _) (Value.ref _) (Value.ref _)) _ _ _); k_dflt (refine' kmk_slice_lit ?slF ?slN ?sll ?slp ?slq (pick_drop _ _ ?sle) ?_ ?sls ?slt ?slz; (case slF => k_asm); (case slN => k_asm); (case sll => kmk_list); (case slp => exact IsPart.int _ _); (case slq => exact IsPart.none); (case sle => omega); (case sls => with_unfolding_all rfl); (case slt => kmk_pure); (case slz => (simp only [List.size_toArray, PySem.sizeLine_eq]; omega))); intro D' h' F' N' l1; (try k_lt l1)))) | (with_reducible ((k_here; (with_reducible show wpAny _ _ (subscriptTail _ _ (Value.ref _) (Value.int (Nat.cast _) _)) _ _ _); (with_unfolding_all refine' item_nth ?k1 ?k2 ?k3 ?k5 ?_ ?k7; (case k1 => k_asm); (case k2 => k_mem); (case k3 => assumption); (case k5 => omega); (case k7 => with_unfolding_all rfl); k_whole)))) | (with_reducible ((k_here; (with_reducible show wpAny _ _ (call (Value.builtin "len") [Value.ref _]) _ _ _); k_dflt (refine' len_at ?k1 ?k2 ?k3 ?_; (case k1 => k_asm); (case k2 => k_mem); (case k3 => omega); k_whole)))) | walk1)))
      · exfalso
        have hb := hW i j e0 e1 he0 he1
        rw [oct_next he1] at hb
        have z : ¬ B + r * (e1.time - e0.time) ≥ 100 * (octs ys ((rw.drop i).take j) + e1.size * (if ys.any (· == e1.col.str) = true then 1 else 0)) := by omega
        exact z hb
      · refine TurnEnd.intro (by k_asm) (mid4' (by k_asm)) ?_
        unfold WithI
        rw [oct_next he1]
        exact ⟨⟨_, rfl⟩, rfl, rfl, rfl, rfl, rfl⟩
    · rintro m₂ h₂ tk₂ ⟨⟨to, g0⟩, g1, g2, g3, g4, g5⟩ F₃ N₃
      clear lF2 lN2
      repeat' (first | (k_unfold; (try dsimp only)) | (k_end; kc_close) | (first | (with_reducible ((k_here; (with_reducible show wpAny _ _ (compareOp CmpOp.In (Value.str _ _) (Value.ref _)) _ _ _); (with_unfolding_all refine' in_list_strs ?k1 ?k2 ?_; (case k1 => exact News.isList (by k_asm) (by repeat' (first | exact List.Mem.head _ | apply List.Mem.tail | refine List.mem_append.mpr (.inr ?_)))); (case k2 => assumption); k_whole)))) | (with_reducible ((k_here; (with_reducible show wpAny _ _ (subscriptTail _ (PySem.Expr.Slice (some _) none none _) (Value.ref _) (Value.ref _)) _ _ _); k_dflt (refine' kmk_slice_lit ?slF ?slN ?sll ?slp ?slq (pick_drop _ _ ?sle) ?_ ?sls ?slt ?slz; (case slF => k_asm); (case slN => k_asm); (case sll => kmk_list); (case slp => exact IsPart.int _ _); (case slq => exact IsPart.none); (case sle => omega); (case sls => with_unfolding_all rfl); (case slt => kmk_pure); (case slz => (simp only [List.size_toArray, PySem.sizeLine_eq]; omega))); intro D' h' F' N' l1; (try k_lt l1)))) | (with_reducible ((k_here; (with_reducible show wpAny _ _ (subscriptTail _ _ (Value.ref _) (Value.int (Nat.cast _) _)) _ _ _); (with_unfolding_all refine' item_nth ?k1 ?k2 ?k3 ?k5 ?_ ?k7; (case k1 => k_asm); (case k2 => k_mem); (case k3 => assumption); (case k5 => omega); (case k7 => with_unfolding_all rfl); k_whole)))) | (with_reducible ((k_here; (with_reducible show wpAny _ _ (call (Value.builtin "len") [Value.ref _]) _ _ _); k_dflt (refine' len_at ?k1 ?k2 ?k3 ?_; (case k1 => k_asm); (case k2 => k_mem); (case k3 => omega); k_whole)))) | walk1) | (dsimp only; (first | (with_reducible ((k_here; (with_reducible show wpAny _ _ (compareOp CmpOp.In (Value.str _ _) (Value.ref _)) _ _ _); (with_unfolding_all refine' in_list_strs ?k1 ?k2 ?_; (case k1 => exact News.isList (by k_asm) (by repeat' (first | exact List.Mem.head _ | apply List.Mem.tail | refine List.mem_append.mpr (.inr ?_)))); (case k2 => assumption); k_whole)))) | (with_reducible ((k_here; (with_reducible show wpAny _ _ (subscriptTail _ (PySem.Expr.Slice (some _) none none _) (Value.ref _) (Value.ref _)) _ _ _); k_dflt (refine' kmk_slice_lit ?slF ?slN ?sll ?slp ?slq (pick_drop _ _ ?sle) ?_ ?sls ?slt ?slz; (case slF => k_asm); (case slN => k_asm); (case sll => kmk_list); (case slp => exact IsPart.int _ _); (case slq => exact IsPart.none); (case sle => omega); (case sls => with_unfolding_all rfl); (case slt => kmk_pure); (case slz => (simp only [List.size_toArray, PySem.sizeLine_eq]; omega))); intro D' h' F' N' l1; (try k_lt l1)))) | (with_reducible ((k_here; (with_reducible show wpAny _ _ (subscriptTail _ _ (Value.ref _) (Value.int (Nat.cast _) _)) _ _ _); (with_unfolding_all refine' item_nth ?k1 ?k2 ?k3 ?k5 ?_ ?k7; (case k1 => k_asm); (case k2 => k_mem); (case k3 => assumption); (case k5 => omega); (case k7 => with_unfolding_all rfl); k_whole)))) | (with_reducible ((k_here; (with_reducible show wpAny _ _ (call (Value.builtin "len") [Value.ref _]) _ _ _); k_dflt (refine' len_at ?k1 ?k2 ?k3 ?_; (case k1 => k_asm); (case k2 => k_mem); (case k3 => omega); k_whole)))) | walk1)) | (leave1; walk_say "STEP leave1"; (try dsimp only)) | fail "no step")
      refine InvEndG.intro (by k_asm) (by k_asm) ⟨rfl, g2, g3, g4, g5⟩ hoff ?_ ?_
      · intro p hp; simp only [List.mem_cons, List.mem_append] at hp ⊢; rcases hp with h | h | h <;> simp [h]
      · intro p hp; exact List.Mem.tail _ (List.Mem.tail _ (List.Mem.tail _ (List.Mem.tail _ (List.mem_append.mpr (.inr hp)))))
  · rintro m₁ nx h tk ⟨rfl, j1, j2, j3, j4⟩ F₁ N₁
    clear lF lN
    repeat' (first | (k_unfold; (try dsimp only)) | (k_end; kc_close) | (first | (with_reducible ((k_here; (with_reducible show wpAny _ _ (compareOp CmpOp.In (Value.str _ _) (Value.ref _)) _ _ _); (with_unfolding_all refine' in_list_strs ?k1 ?k2 ?_; (case k1 => exact News.isList (by k_asm) (by repeat' (first | exact List.Mem.head _ | apply List.Mem.tail | refine List.mem_append.mpr (.inr ?_)))); (case k2 => assumption); k_whole)))) | (with_reducible ((k_here; (with_reducible show wpAny _ _ (subscriptTail _ (PySem.Expr.Slice (some _) none none _) (Value.ref _) (Value.ref _)) _ _ _); k_dflt (refine' kmk_slice_lit ?slF ?slN ?sll ?slp ?slq (pick_drop _ _ ?sle) ?_ ?sls ?slt ?slz; (case slF => k_asm); (case slN => k_asm); (case sll => kmk_list); (case slp => exact IsPart.int _ _); (case slq => exact IsPart.none); (case sle => omega); (case sls => with_unfolding_all rfl); (case slt => kmk_pure); (case slz => (simp only [List.size_toArray, PySem.sizeLine_eq]; omega))); intro D' h' F' N' l1; (try k_lt l1)))) | (with_reducible ((k_here; (with_reducible show wpAny _ _ (subscriptTail _ _ (Value.ref _) (Value.int (Nat.cast _) _)) _ _ _); (with_unfolding_all refine' item_nth ?k1 ?k2 ?k3 ?k5 ?_ ?k7; (case k1 => k_asm); (case k2 => k_mem); (case k3 => assumption); (case k5 => omega); (case k7 => with_unfolding_all rfl); k_whole)))) | (with_reducible ((k_here; (with_reducible show wpAny _ _ (call (Value.builtin "len") [Value.ref _]) _ _ _); k_dflt (refine' len_at ?k1 ?k2 ?k3 ?_; (case k1 => k_asm); (case k2 => k_mem); (case k3 => omega); k_whole)))) | walk1) | (dsimp only; (first | (with_reducible ((k_here; (with_reducible show wpAny _ _ (compareOp CmpOp.In (Value.str _ _) (Value.ref _)) _ _ _); (with_unfolding_all refine' in_list_strs ?k1 ?k2 ?_; (case k1 => exact News.isList (by k_asm) (by repeat' (first | exact List.Mem.head _ | apply List.Mem.tail | refine List.mem_append.mpr (.inr ?_)))); (case k2 => assumption); k_whole)))) | (with_reducible ((k_here; (with_reducible show wpAny _ _ (subscriptTail _ (PySem.Expr.Slice (some _) none none _) (Value.ref _) (Value.ref _)) _ _ _); k_dflt (refine' kmk_slice_lit ?slF ?slN ?sll ?slp ?slq (pick_drop _ _ ?sle) ?_ ?sls ?slt ?slz; (case slF => k_asm); (case slN => k_asm); (case sll => kmk_list); (case slp => exact IsPart.int _ _); (case slq => exact IsPart.none); (case sle => omega); (case sls => with_unfolding_all rfl); (case slt => kmk_pure); (case slz => (simp only [List.size_toArray, PySem.sizeLine_eq]; omega))); intro D' h' F' N' l1; (try k_lt l1)))) | (with_reducible ((k_here; (with_reducible show wpAny _ _ (subscriptTail _ _ (Value.ref _) (Value.int (Nat.cast _) _)) _ _ _); (with_unfolding_all refine' item_nth ?k1 ?k2 ?k3 ?k5 ?_ ?k7; (case k1 => k_asm); (case k2 => k_mem); (case k3 => assumption); (case k5 => omega); (case k7 => with_unfolding_all rfl); k_whole)))) | (with_reducible ((k_here; (with_reducible show wpAny _ _ (call (Value.builtin "len") [Value.ref _]) _ _ _); k_dflt (refine' len_at ?k1 ?k2 ?k3 ?_; (case k1 => k_asm); (case k2 => k_mem); (case k3 => omega); k_whole)))) | walk1)) | (leave1; walk_say "STEP leave1"; (try dsimp only)) | fail "no step")
    exact fin hret (by k_asm) (by k_asm) ⟨rfl, rfl⟩
end Mine
end
section
open PySem PySem.W PySem.Calls PyProof.Rows PySem.Spec
set_option maxRecDepth 100000
namespace Mine
/-! the plain law: two buckets against the least room since any earlier spending -/
theorem min_as (a b : Int) : (if b < a then b else a) = min a b := by omega
theorem fG_min {r U g t now : Int} (h : t ≤ now) (hg : g ≤ U) : fG r U g t now = min U (g + r * (now - t)) := by
  unfold fG
  split
  · have e : now = t := by omega
    rw [e, Int.sub_self, Int.mul_zero]; omega
  · split <;> omega
theorem fT_eq {t now : Int} (h : t ≤ now) : fT t now = now := by
  unfold fT; split <;> omega
theorem rs_shift {r B now : Int} : ∀ (l : List (Int × Int)) (f c d : Int), (l.foldl (roomStep r B now) (f - d, c + d)).1 = (l.foldl (roomStep r B now) (f, c)).1 - d
  | [], f, c, d => rfl
  | e :: l, f, c, d => by
    have h1 : roomStep r B now (f - d, c + d) e = ((roomStep r B now (f, c) e).1 - d, (roomStep r B now (f, c) e).2 + d) := by
      unfold roomStep
      refine Prod.ext ?_ ?_
      · dsimp only; split <;> split <;> omega
      · dsimp only; omega
    rw [List.foldl_cons, List.foldl_cons, h1, rs_shift l]
theorem rs_min {r B now : Int} : ∀ (l : List (Int × Int)) (a b c : Int), (l.foldl (roomStep r B now) (min a b, c)).1 = min a (l.foldl (roomStep r B now) (b, c)).1
  | [], a, b, c => rfl
  | e :: l, a, b, c => by
    have h1 : roomStep r B now (min a b, c) e = (min a (roomStep r B now (b, c) e).1, (roomStep r B now (b, c) e).2) := by
      unfold roomStep
      refine Prod.ext ?_ rfl
      dsimp only; split <;> split <;> omega
    rw [List.foldl_cons, List.foldl_cons, h1, rs_min l]
theorem rs_time {r B now now' : Int} : ∀ (l : List (Int × Int)) (f c : Int), (l.foldl (roomStep r B now') (f + r * (now' - now), c)).1 = (l.foldl (roomStep r B now) (f, c)).1 + r * (now' - now)
  | [], f, c => rfl
  | e :: l, f, c => by
    have h1 : roomStep r B now' (f + r * (now' - now), c) e = ((roomStep r B now (f, c) e).1 + r * (now' - now), (roomStep r B now (f, c) e).2) := by
      unfold roomStep
      refine Prod.ext ?_ rfl
      have hx : r * (now' - e.1) = r * (now - e.1) + r * (now' - now) := by rw [← Int.mul_add]; congr 1; omega
      dsimp only; rw [hx]; split <;> split <;> omega
    rw [List.foldl_cons, List.foldl_cons, h1, rs_time l]
theorem room_app {sp : List (Int × Int)} {r B now now' x : Int} : room (sp ++ [(now, x)]) r B now' = min B (room sp r B now + r * (now' - now) - x) := by
  unfold room
  rw [List.reverse_append, List.reverse_singleton, List.singleton_append, List.foldl_cons]
  have h1 : roomStep r B now' (B, 0) (now, x) = (min B ((B + r * (now' - now)) - x), 0 + x) := by
    unfold roomStep
    refine Prod.ext ?_ rfl
    dsimp only; split <;> omega
  rw [h1, rs_min, rs_shift, rs_time]
theorem room_nil {r B now : Int} : room [] r B now = B := rfl
/-- the bucket knows what the list of spendings says -/
structure BI (r U g t : Int) (sp : List (Int × Int)) (last : Int) : Prop where
  t0 : 0 ≤ t
  tl : t ≤ last
  g0 : 0 ≤ g
  gU : g ≤ U
  rm : ∀ now, last ≤ now → room sp r U now = fG r U g t now
theorem BI.start {r U : Int} (hr : 0 ≤ r) (hU : 0 ≤ U) : BI r U U 0 [] 0 := by
  refine ⟨Int.le_refl _, Int.le_refl _, hU, Int.le_refl _, fun now hn => ?_⟩
  have := Int.mul_nonneg hr (show 0 ≤ now - 0 by omega)
  rw [room_nil, fG_min hn (Int.le_refl _)]; omega
theorem fG_up {r U g t now : Int} (hr : 0 ≤ r) (h : t ≤ now) (h0 : 0 ≤ g) (hg : g ≤ U) : 0 ≤ fG r U g t now ∧ fG r U g t now ≤ U := by
  have := Int.mul_nonneg hr (show 0 ≤ now - t by omega)
  rw [fG_min h hg]; omega
theorem fG_two {r U g t now now' : Int} (hr : 0 ≤ r) (h : t ≤ now) (h' : now ≤ now') (h0 : 0 ≤ g) (hg : g ≤ U) : fG r U (fG r U g t now) now now' = fG r U g t now' := by
  have a := Int.mul_nonneg hr (show 0 ≤ now - t by omega)
  have b := Int.mul_nonneg hr (show 0 ≤ now' - now by omega)
  have hx : r * (now' - t) = r * (now - t) + r * (now' - now) := by rw [← Int.mul_add]; congr 1; omega
  rw [fG_min h' (fG_up hr h h0 hg).2, fG_min h hg, fG_min (by omega) hg, hx]; omega
theorem BI.fill {r U g t last now : Int} {sp : List (Int × Int)} (hr : 0 ≤ r) (b : BI r U g t sp last) (h : last ≤ now) : BI r U (fG r U g t now) (fT t now) sp now := by
  obtain ⟨t0, tl, g0, gU, rm⟩ := b
  have ht : t ≤ now := by omega
  have hu := fG_up hr ht g0 gU
  rw [fT_eq ht]
  exact ⟨by omega, by omega, hu.1, hu.2, fun n hn => by rw [rm n (by omega), fG_two hr ht hn g0 gU]⟩
theorem BI.later {r U g t last now : Int} {sp : List (Int × Int)} (b : BI r U g t sp last) (h : last ≤ now) : BI r U g t sp now := by
  obtain ⟨t0, tl, g0, gU, rm⟩ := b
  exact ⟨t0, by omega, g0, gU, fun n hn => rm n (by omega)⟩
theorem BI.spend {r U g t last now x : Int} {sp : List (Int × Int)} (hr : 0 ≤ r) (b : BI r U g t sp last) (h : last ≤ now) (h0 : 0 ≤ x) (hx : x ≤ fG r U g t now) : BI r U (fG r U g t now - x) (fT t now) (sp ++ [(now, x)]) now := by
  obtain ⟨t0, tl, g0, gU, rm⟩ := b
  have ht : t ≤ now := by omega
  have hu := fG_up hr ht g0 gU
  rw [fT_eq ht]
  refine ⟨by omega, by omega, by omega, by omega, fun n hn => ?_⟩
  rw [room_app, rm now (by omega), fG_min hn (by omega)]
  congr 1; omega
/-- no stretch of rows took more than came; the room now -/
structure WI (ys : List Str) (r U : Int) (rw : List Row) (lv last : Int) : Prop where
  w : Within ys r U rw
  l : ∀ i e0, rw[i]? = some e0 → 100 * octs ys (rw.drop i) + lv ≤ U + r * (last - e0.time)
theorem octs_app {ys : List Str} {l : List Row} {e : Row} : octs ys (l ++ [e]) = octs ys l + e.size * (if hasC ys e.col = true then 1 else 0) := by
  unfold octs; rw [List.foldl_append]; rfl
theorem WI.start {ys : List Str} {r U lv last : Int} : WI ys r U [] lv last := ⟨fun i j e0 e h => by simp at h, fun i e0 h => by simp at h⟩
theorem WI.add {ys : List Str} {r U lv last lv' : Int} {rw : List Row} {e : Row} (hw : WI ys r U rw lv last) (h1 : lv' + 100 * (e.size * (if hasC ys e.col = true then 1 else 0)) ≤ lv + r * (e.time - last)) (h2 : lv' + 100 * (e.size * (if hasC ys e.col = true then 1 else 0)) ≤ U) (h0 : 0 ≤ lv') : WI ys r U (rw ++ [e]) lv' e.time := by
  obtain ⟨w, l⟩ := hw
  have key : ∀ i e0, (rw ++ [e])[i]? = some e0 → 100 * octs ys ((rw ++ [e]).drop i) + lv' ≤ U + r * (e.time - e0.time) := by
    intro i e0 hi
    by_cases hl : i < rw.length
    · rw [List.getElem?_append_left hl] at hi
      have := l i e0 hi
      rw [List.drop_append_of_le_length (by omega), octs_app]
      have hx : r * (e.time - e0.time) = r * (last - e0.time) + r * (e.time - last) := by rw [← Int.mul_add]; congr 1; omega
      rw [hx]; omega
    · have hlen := (List.getElem?_eq_some_iff.mp hi).1
      have hi2 : i = rw.length := by simp at hlen; omega
      subst hi2
      rw [List.getElem?_append_right (Nat.le_refl _), Nat.sub_self] at hi
      simp at hi
      subst hi
      rw [List.drop_left, Int.sub_self, Int.mul_zero]
      have e1 : octs ys [e] = e.size * (if hasC ys e.col = true then 1 else 0) := by
        have := @octs_app ys [] e
        rw [List.nil_append] at this
        rw [this]; show (0 : Int) + _ = _; omega
      rw [e1]; omega
  refine ⟨fun i j e0 e1 hi hj => ?_, key⟩
  by_cases hl : i + j < rw.length
  · have hi' : rw[i]? = some e0 := by rw [List.getElem?_append_left (by omega)] at hi; exact hi
    rw [List.drop_append_of_le_length (by omega)] at hj ⊢
    rw [List.getElem?_append_left (by rw [List.length_drop]; omega)] at hj
    rw [List.take_append_of_le_length (by rw [List.length_drop]; omega)]
    exact w i j e0 e1 hi' hj
  · have hlen := (List.getElem?_eq_some_iff.mp hj).1
    rw [List.length_drop, List.length_append, List.length_singleton] at hlen
    have hk := key i e0 hi
    have hj2 : (rw ++ [e])[i + j]? = some e1 := by rw [List.getElem?_drop] at hj; exact hj
    have hij : i + j = rw.length := by omega
    rw [hij, List.getElem?_append_right (Nat.le_refl _), Nat.sub_self] at hj2
    simp at hj2
    subst hj2
    rw [List.take_of_length_le (by rw [List.length_drop, List.length_append, List.length_singleton]; omega)]
    omega
def Col.rank : Col → Nat
  | .g => 0
  | .y => 1
  | .r => 2
structure PI (r1 u1 r2 u2 : Int) (B : TB) (S : LS) (rw : List Row) (now : Int) : Prop where
  b1 : BI r1 (u1 * 100) B.g1 B.t1 S.near now
  b2 : BI r2 (u2 * 100) B.g2 B.t2 S.far now
  w1 : WI [Str.ofString "green"] r1 (u1 * 100) rw (fG r1 (u1 * 100) B.g1 B.t1 now) now
  w2 : WI [Str.ofString "green", Str.ofString "yellow"] r2 (u2 * 100) rw (fG r2 (u2 * 100) B.g2 B.t2 now) now
theorem PI.start {r1 u1 r2 u2 : Int} (h1 : 0 ≤ r1) (h2 : 0 ≤ r2) (h3 : 0 ≤ u1) (h4 : 0 ≤ u2) : PI r1 u1 r2 u2 ⟨u1 * 100, 0, u2 * 100, 0⟩ ⟨[], []⟩ [] 0 :=
  ⟨BI.start h1 (by omega), BI.start h2 (by omega), WI.start, WI.start⟩
/-- how full it is goes up by no more than what comes -/
theorem fG_more {r U g t last now : Int} (hr : 0 ≤ r) (h : t ≤ last) (h' : last ≤ now) (h0 : 0 ≤ g) (hg : g ≤ U) : fG r U g t now ≤ fG r U g t last + r * (now - last) := by
  have a := Int.mul_nonneg hr (show 0 ≤ last - t by omega)
  have b := Int.mul_nonneg hr (show 0 ≤ now - last by omega)
  have hx : r * (now - t) = r * (last - t) + r * (now - last) := by rw [← Int.mul_add]; congr 1; omega
  rw [fG_min h hg, fG_min (by omega) hg, hx]; omega
theorem WI.keep {ys : List Str} {r U g t last now size : Int} {c : Col} {rw : List Row} {sp : List (Int × Int)} (hr : 0 ≤ r) (b : BI r U g t sp last) (h : last ≤ now) (hw : WI ys r U rw (fG r U g t last) last) (hc : hasC ys c = false) :
    WI ys r U (rw ++ [⟨now, size, c⟩]) (fG r U g t now) now := by
  obtain ⟨t0, tl, g0, gU, rm⟩ := b
  have a := fG_more hr tl h g0 gU
  have u := fG_up hr (show t ≤ now by omega) g0 gU
  refine WI.add (e := ⟨now, size, c⟩) hw ?_ ?_ u.1 <;> (dsimp only; rw [hc]; simp; omega)
theorem fG_self {r U g t now : Int} (h : now ≤ t) : fG r U g t now = g := if_pos h
theorem WI.fill {ys : List Str} {r U g t last now size : Int} {c : Col} {rw : List Row} {sp : List (Int × Int)} (hr : 0 ≤ r) (b : BI r U g t sp last) (h : last ≤ now) (hw : WI ys r U rw (fG r U g t last) last) (hc : hasC ys c = false) :
    WI ys r U (rw ++ [⟨now, size, c⟩]) (fG r U (fG r U g t now) (fT t now) now) now := by
  have ht : t ≤ now := by have := b.tl; omega
  rw [fT_eq ht, fG_self (Int.le_refl _)]
  exact WI.keep hr b h hw hc
theorem WI.spend {ys : List Str} {r U g t last now size : Int} {c : Col} {rw : List Row} {sp : List (Int × Int)} (hr : 0 ≤ r) (b : BI r U g t sp last) (h : last ≤ now) (hw : WI ys r U rw (fG r U g t last) last) (hc : hasC ys c = true) (hx : size * 100 ≤ fG r U g t now) :
    WI ys r U (rw ++ [⟨now, size, c⟩]) (fG r U (fG r U g t now - size * 100) (fT t now) now) now := by
  have ht : t ≤ now := by have := b.tl; omega
  obtain ⟨t0, tl, g0, gU, rm⟩ := b
  have a := fG_more hr tl h g0 gU
  have u := fG_up hr ht g0 gU
  rw [fT_eq ht, fG_self (Int.le_refl _)]
  refine WI.add (e := ⟨now, size, c⟩) hw ?_ ?_ (by omega) <;> (dsimp only; rw [hc]; simp; omega)
theorem PI.turn {r1 u1 r2 u2 last now size : Int} {B : TB} {S : LS} {rw : List Row} {c : Col} (h1 : 0 ≤ r1) (h2 : 0 ≤ r2) (P : PI r1 u1 r2 u2 B S rw last) (h : last ≤ now) (hs : 0 ≤ size) :
    (step r1 u1 r2 u2 c size now B).1 = (due r1 (100 * u1) r2 (100 * u2) c size now S).1 ∧ c.rank ≤ (step r1 u1 r2 u2 c size now B).1.rank ∧
    PI r1 u1 r2 u2 (step r1 u1 r2 u2 c size now B).2 (due r1 (100 * u1) r2 (100 * u2) c size now S).2 (rw ++ [⟨now, size, (step r1 u1 r2 u2 c size now B).1⟩]) now := by
  obtain ⟨b1, b2, w1, w2⟩ := P
  have e1 := b1.rm now h
  have e2 := b2.rm now h
  have m1 : 100 * u1 = u1 * 100 := Int.mul_comm _ _
  have m2 : 100 * u2 = u2 * 100 := Int.mul_comm _ _
  have m3 : 100 * size = size * 100 := Int.mul_comm _ _
  have i1 : hasC [Str.ofString "green"] .y = false := by decide +kernel
  have i2 : hasC [Str.ofString "green"] .r = false := by decide +kernel
  have i3 : hasC [Str.ofString "green"] .g = true := by decide +kernel
  have i4 : hasC [Str.ofString "green", Str.ofString "yellow"] .r = false := by decide +kernel
  have i5 : hasC [Str.ofString "green", Str.ofString "yellow"] .g = true := by decide +kernel
  have i6 : hasC [Str.ofString "green", Str.ofString "yellow"] .y = true := by decide +kernel
  unfold step due
  rw [m1, m2, m3]
  cases c with
  | r =>
    exact ⟨rfl, Nat.le_refl _, b1.later h, b2.later h, WI.keep h1 b1 h w1 i2, WI.keep h2 b2 h w2 i4⟩
  | y =>
    dsimp only
    rw [e2]
    by_cases hz : size * 100 ≤ fG r2 (u2 * 100) B.g2 B.t2 now
    · rw [if_pos hz, if_neg (show ¬ fG r2 (u2 * 100) B.g2 B.t2 now < size * 100 by omega)]
      exact ⟨rfl, Nat.le_refl _, b1.later h, b2.spend h2 h (by omega) hz, WI.keep h1 b1 h w1 i1, WI.spend h2 b2 h w2 i6 hz⟩
    · rw [if_neg hz, if_pos (show fG r2 (u2 * 100) B.g2 B.t2 now < size * 100 by omega)]
      exact ⟨rfl, Nat.le_of_ble_eq_true rfl, b1.later h, b2.fill h2 h, WI.keep h1 b1 h w1 i2, WI.fill h2 b2 h w2 i4⟩
  | g =>
    dsimp only
    rw [e2, e1]
    by_cases hz : size * 100 ≤ fG r2 (u2 * 100) B.g2 B.t2 now
    · rw [if_pos hz, if_neg (show ¬ fG r2 (u2 * 100) B.g2 B.t2 now < size * 100 by omega)]
      by_cases hy : size * 100 ≤ fG r1 (u1 * 100) B.g1 B.t1 now
      · rw [if_pos hy, if_neg (show ¬ fG r1 (u1 * 100) B.g1 B.t1 now < size * 100 by omega)]
        exact ⟨rfl, Nat.le_refl _, b1.spend h1 h (by omega) hy, b2.spend h2 h (by omega) hz, WI.spend h1 b1 h w1 i3 hy, WI.spend h2 b2 h w2 i5 hz⟩
      · rw [if_neg hy, if_pos (show fG r1 (u1 * 100) B.g1 B.t1 now < size * 100 by omega)]
        exact ⟨rfl, Nat.le_of_ble_eq_true rfl, b1.fill h1 h, b2.spend h2 h (by omega) hz, WI.fill h1 b1 h w1 i1, WI.spend h2 b2 h w2 i6 hz⟩
    · rw [if_neg hz, if_pos (show fG r2 (u2 * 100) B.g2 B.t2 now < size * 100 by omega)]
      exact ⟨rfl, Nat.le_of_ble_eq_true rfl, b1.later h, b2.fill h2 h, WI.keep h1 b1 h w1 i2, WI.fill h2 b2 h w2 i4⟩
theorem PI.ok {r1 u1 r2 u2 now : Int} {B : TB} {S : LS} {rw : List Row} (P : PI r1 u1 r2 u2 B S rw now) (h1 : 0 ≤ r1) (h2 : r1 ≤ 1000) (h3 : 0 ≤ r2) (h4 : r2 ≤ 1000) (h5 : 0 ≤ u1) (h6 : u1 ≤ 1000) (h7 : 0 ≤ u2) (h8 : u2 ≤ 1000) (hn : now ≤ 10000) :
    BkOk r1 u1 B.g1 B.t1 ∧ BkOk r2 u2 B.g2 B.t2 := by
  obtain ⟨⟨a1, a2, a3, a4, _⟩, ⟨c1, c2, c3, c4, _⟩, _, _⟩ := P
  exact ⟨⟨h1, h2, h5, h6, a3, by omega, a1, by omega⟩, ⟨h3, h4, h7, h8, c3, by omega, c1, by omega⟩⟩
end Mine
end
section
open PySem PySem.W PySem.Calls PyProof.Rows PySem.Spec
set_option maxRecDepth 100000
set_option maxHeartbeats 8000000
namespace Mine
theorem cons_sub {q : Addr × Obj} {l l' : List (Addr × Obj)} (h : q ∈ l) (h' : ∀ x ∈ l', x ∈ l) : ∀ x ∈ q :: l', x ∈ l := by
  intro x hx
  rcases List.mem_cons.mp hx with rfl | hx
  · exact h
  · exact h' x hx
/-- where the loop's things lie -/
structure AD where
  src : Addr
  lf : Addr
  ln : Addr
  hh : Addr
  rl : Addr
  ol : Addr
  pp : Addr
  pd : Addr
  b1 : Addr
  d1 : Addr
  b2 : Addr
  d2 : Addr
structure Ord (A : AD) : Prop where
  o1 : @LT.lt Nat _ A.src A.pd
  o2 : @LT.lt Nat _ A.pd A.pp
  o3 : @LT.lt Nat _ A.pp A.d1
  o4 : @LT.lt Nat _ A.d1 A.b1
  o5 : @LT.lt Nat _ A.b1 A.d2
  o6 : @LT.lt Nat _ A.d2 A.b2
  o7 : @LT.lt Nat _ A.b2 A.rl
  o8 : @LT.lt Nat _ A.rl A.hh
  o9 : @LT.lt Nat _ A.hh A.ln
  oa : @LT.lt Nat _ A.ln A.lf
  ob : @LT.lt Nat _ A.lf A.ol
structure Off (A : AD) (X : List (Addr × Obj)) : Prop where
  s : ∀ q ∈ X, q.1 ≠ A.src
  f : ∀ q ∈ X, q.1 ≠ A.lf
  n : ∀ q ∈ X, q.1 ≠ A.ln
  r : ∀ q ∈ X, q.1 ≠ A.rl
  d1 : ∀ q ∈ X, q.1 ≠ A.d1
  d2 : ∀ q ∈ X, q.1 ≠ A.d2
abbrev LG (A : AD) (so fo no ho ro oo : Obj) (KP : PlT) (K1 K2 : BkT) (aw : Bool) (r1 u1 r2 u2 : Int) (B : TB) (x1 x2 x3 x4 : Tok) (X : List (Addr × Obj)) : List (Addr × Obj) :=
  (A.src, so) :: (A.lf, fo) :: (A.ln, no) :: (A.hh, ho) :: (A.rl, ro) :: (A.ol, oo) :: plL ⟨A.pp, A.pd, A.b1, A.d1, A.b2, A.d2⟩ KP K1 K2 aw r1 u1 r2 u2 B x1 x2 x3 x4 X
theorem color_in {w : World} {p : Program} {loose : List Str} {mean : ExcName → Option Value} {mg mb : Str → Option Value} {A : AD} {so fo no ho ro oo : Obj} {KP : PlT} {K1 K2 : BkT} {aw : Bool} {r1 u1 r2 u2 : Int} {B : TB} {x1 x2 x3 x4 : Tok} {X : List (Addr × Obj)}
    {size now : Int} {ts tn : Tok} {bv : Value} {c : Col} (hA : Ord A) (hX : Off A X) (hB1 : BkOk r1 u1 B.g1 B.t1) (hB2 : BkOk r2 u2 B.g2 B.t2) (hn : 0 ≤ now) (hn2 : now ≤ 10000) (hs : 0 ≤ size) (hs2 : size ≤ 1000) (hc : Come aw bv c) :
    Claim w p loose mean mg mb 192 [.ref A.pp, .int size ts, .int now tn, bv] (LG A so fo no ho ro oo KP K1 K2 aw r1 u1 r2 u2 B x1 x2 x3 x4 X) 4
      (fun v news' => ∃ t y1 y2 y3 y4 c' B', v = .str c'.str t ∧ step r1 u1 r2 u2 c size now B = (c', B') ∧ news' = LG A so fo no ho ro oo KP K1 K2 aw r1 u1 r2 u2 B' y1 y2 y3 y4 X) := by
  unfold Claim
  intro dp un gd cn cs aa ccd cl outer A₀ base h₀ L m zh zg zd zk zo Q E Bl F Xd N T hk hd hu hret
  obtain ⟨src, lf, ln, hh, rl, ol, pp, pd, b1, d1, b2, d2⟩ := A
  obtain ⟨o1, o2, o3, o4, o5, o6, o7, o8, o9, oa, ob⟩ := hA
  obtain ⟨z1, z2, z3, z4, z5, z6⟩ := hX
  dsimp only at o1 o2 o3 o4 o5 o6 o7 o8 o9 oa ob z1 z2 z3 z4 z5 z6
  have hS : Sep ⟨pp, pd, b1, d1, b2, d2⟩ ((src, so) :: (lf, fo) :: (ln, no) :: (hh, ho) :: (rl, ro) :: (ol, oo) :: X) := by
    refine ⟨neN ?_, neN ?_, neN ?_, neN ?_, neN ?_, neN ?_, neN ?_, neN ?_, neN ?_, ne_cons (neN ?_) (ne_cons (neN ?_) (ne_cons (neN ?_) (ne_cons (neN ?_) (ne_cons (neN ?_) (ne_cons (neN ?_) z5))))), ne_cons (neN ?_) (ne_cons (neN ?_) (ne_cons (neN ?_) (ne_cons (neN ?_) (ne_cons (neN ?_) (ne_cons (neN ?_) z6)))))⟩ <;> (dsimp only; omega)
  refine Claim.use (color_ok (x1 := x1) (x2 := x2) (x3 := x3) (x4 := x4) (KP := KP) (K1 := K1) (K2 := K2) hS hB1 hB2 hn hn2 hs hs2 hc) Bl F Xd (sub_front N ?_) T hk hd hu ?_
  · dsimp only [LG, plL]
    repeat' (first | refine cons_sub (by k_mem) ?_)
    intro x hx
    repeat' (first | exact hx | apply List.Mem.tail)
  · rintro v news' h' tk' ⟨t, y1, y2, y3, y4, e, rfl⟩ F' N'
    refine hret v _ h' tk' ⟨t, y1, y2, y3, y4, _, _, e, rfl, rfl⟩ F' (sub_front N' ?_)
    dsimp only [LG, plL]
    repeat' (first | refine cons_sub (by k_mem) ?_)
    intro x hx
    repeat' (first | exact hx | apply List.Mem.tail)
theorem due_in {w : World} {p : Program} {loose : List Str} {mean : ExcName → Option Value} {mg mb : Str → Option Value} {A : AD} {so ho ro oo : Obj} {KP : PlT} {K1 K2 : BkT} {aw : Bool} {r1 u1 r2 u2 : Int} {B : TB} {x1 x2 x3 x4 : Tok} {X Y : List (Addr × Obj)}
    {B1 B2 : Int} {t1 t2 t3 t4 : Tok} {nn nf : Nat} {vn vf : List Value} {near far : List (Int × Int)} {size now : Int} {ts tn tc : Tok} {c : Col} (hA : Ord A) (hX : Off A X)
    (hD : ho.IsDictOf (PySem.strKind PySem.Challenge.rw_pf0381_01.row.prog w) (hdP r1 B1 r2 B2 t1 t2 t3 t4 A.ln A.lf)) (hpn0 : Pairs Y vn near) (hpf0 : Pairs Y vf far) (hY : ∀ q ∈ Y, q ∈ X) (hln : near.length ≤ 100) (hlf : far.length ≤ 100) (hn : 0 ≤ now) (hn2 : now ≤ 10000) (hs : 0 ≤ size) (hs2 : size ≤ 1000) (q1 : 0 ≤ r1) (q2 : r1 ≤ 1000) (q3 : 0 ≤ r2) (q4 : r2 ≤ 1000) (q5 : 0 ≤ B1) (q6 : B1 ≤ 100000) (q7 : 0 ≤ B2) (q8 : B2 ≤ 100000) :
    Claim w p loose mean mg mb 234 [.ref A.hh, .int size ts, .int now tn, .str c.str tc] (LG A so (listOf vf.toArray nf) (listOf vn.toArray nn) ho ro oo KP K1 K2 aw r1 u1 r2 u2 B x1 x2 x3 x4 X) 2
      (fun v news' => ∃ t add vf' vn' nf' nn' c' S', v = .str c'.str t ∧ due r1 B1 r2 B2 c size now ⟨near, far⟩ = (c', S') ∧ news' = LG A so (listOf (List.toArray vf') nf') (listOf (List.toArray vn') nn') ho ro oo KP K1 K2 aw r1 u1 r2 u2 B x1 x2 x3 x4 (add ++ X) ∧
        Pairs (add ++ Y) vf' S'.far ∧ Pairs (add ++ Y) vn' S'.near ∧ ∀ q ∈ add, ∀ p ∈ LG A so (listOf vf.toArray nf) (listOf vn.toArray nn) ho ro oo KP K1 K2 aw r1 u1 r2 u2 B x1 x2 x3 x4 X, @LT.lt Nat _ p.1 q.1) := by
  unfold Claim
  intro dp un gd cn cs aa ccd cl outer A₀ base h₀ L m zh zg zd zk zo Q E Bl F Xd N T hk hd hu hret
  obtain ⟨src, lf, ln, hh, rl, ol, pp, pd, b1, d1, b2, d2⟩ := A
  obtain ⟨o1, o2, o3, o4, o5, o6, o7, o8, o9, oa, ob⟩ := hA
  obtain ⟨z1, z2, z3, z4, z5, z6⟩ := hX
  dsimp only at o1 o2 o3 o4 o5 o6 o7 o8 o9 oa ob z1 z2 z3 z4 z5 z6
  have hff : ∀ q ∈ ((src, so) :: (rl, ro) :: (ol, oo) :: plL ⟨pp, pd, b1, d1, b2, d2⟩ KP K1 K2 aw r1 u1 r2 u2 B x1 x2 x3 x4 X), q.1 ≠ lf := by
    dsimp only [plL]
    repeat' (first | exact z2 | refine ne_cons (neN ?_) ?_)
    all_goals (dsimp only; omega)
  have hfn : ∀ q ∈ ((src, so) :: (rl, ro) :: (ol, oo) :: plL ⟨pp, pd, b1, d1, b2, d2⟩ KP K1 K2 aw r1 u1 r2 u2 B x1 x2 x3 x4 X), q.1 ≠ ln := by
    dsimp only [plL]
    repeat' (first | exact z3 | refine ne_cons (neN ?_) ?_)
    all_goals (dsimp only; omega)
  refine Claim.use (due_ok (Y := Y) (nn := nn) (nf := nf) (rest := (src, so) :: (rl, ro) :: (ol, oo) :: plL ⟨pp, pd, b1, d1, b2, d2⟩ KP K1 K2 aw r1 u1 r2 u2 B x1 x2 x3 x4 X) hD hpn0 hpf0 ?_ hln hlf hn hn2 hs hs2 q1 q2 q3 q4 q5 q6 q7 q8 (neN ?_) (neN ?_) (neN ?_) hff hfn) Bl F Xd (sub_front N ?_) T hk hd hu ?_
  · intro q hq
    have := hY q hq
    repeat' (first | exact this | apply List.Mem.tail)
  · dsimp only; omega
  · dsimp only; omega
  · dsimp only; omega
  · dsimp only [LG, plL]
    repeat' (first | refine cons_sub (by k_mem) ?_)
    intro x hx
    repeat' (first | exact hx | apply List.Mem.tail)
  · rintro v news' h' tk' ⟨t, add, vf', vn', nf', nn', e, rfl, g1, g2, g3⟩ F' N'
    refine hret v _ h' tk' ⟨t, add, vf', vn', nf', nn', _, _, e, rfl, rfl, g1, g2, fun q hq p hp => g3 q hq p ?_⟩ F' (sub_front N' ?_)
    · revert p
      dsimp only [LG, plL]
      repeat' (first | refine cons_sub (by k_mem) ?_)
      intro x hx
      repeat' (first | exact hx | apply List.Mem.tail)
    · dsimp only [LG, plL]
      iterate 12 refine cons_sub (by (repeat' (first | exact List.Mem.head _ | apply List.Mem.tail | refine List.mem_append.mpr (.inr ?_)))) ?_
      intro x hx
      rcases List.mem_append.mp hx with h | h
      · exact List.Mem.tail _ (List.Mem.tail _ (List.Mem.tail _ (List.mem_append.mpr (.inl h))))
      · refine List.Mem.tail _ (List.Mem.tail _ (List.Mem.tail _ (List.mem_append.mpr (.inr ?_))))
        repeat' (first | exact h | apply List.Mem.tail)
end Mine
end
section
open PySem PySem.W PySem.Calls PyProof.Rows PySem.Spec
set_option maxRecDepth 100000
set_option maxHeartbeats 8000000
namespace Mine
theorem memB {v : Value} {t1 t2 t3 t4 : Tok} (h : v ∈ [Value.none, Value.str (Str.ofString "green") t1, Value.str (Str.ofString "yellow") t2, Value.str (Str.ofString "red") t3, Value.str (Str.ofString "green") t4]) : v = .none ∨ ∃ c t, v = .str (Col.str c) t := by
  simp only [List.mem_cons, List.not_mem_nil, or_false] at h
  rcases h with h | h | h | h | h
  · exact .inl h
  · exact .inr ⟨.g, t1, h⟩
  · exact .inr ⟨.y, t2, h⟩
  · exact .inr ⟨.r, t3, h⟩
  · exact .inr ⟨.g, t4, h⟩
theorem due_len {r1 B1 r2 B2 size now : Int} {c : Col} {S : LS} : (due r1 B1 r2 B2 c size now S).2.near.length ≤ S.near.length + 1 ∧ (due r1 B1 r2 B2 c size now S).2.far.length ≤ S.far.length + 1 := by
  unfold due
  cases c with
  | r => exact ⟨Nat.le_succ _, Nat.le_succ _⟩
  | y =>
    dsimp only
    split
    · exact ⟨Nat.le_succ _, Nat.le_succ _⟩
    · exact ⟨Nat.le_succ _, by simp⟩
  | g =>
    dsimp only
    split
    · exact ⟨Nat.le_succ _, Nat.le_succ _⟩
    · split
      · exact ⟨Nat.le_succ _, by simp⟩
      · exact ⟨by simp, by simp⟩
theorem PI.both {r1 u1 r2 u2 last now size : Int} {B B' : TB} {near far : List (Int × Int)} {S' : LS} {rw : List Row} {c c' c'' : Col} (P : PI r1 u1 r2 u2 B ⟨near, far⟩ rw last) (e1 : step r1 u1 r2 u2 c size now B = (c', B')) (e2 : due r1 (100 * u1) r2 (100 * u2) c size now ⟨near, far⟩ = (c'', S'))
    (h1 : 0 ≤ r1) (h2 : 0 ≤ r2) (h : last ≤ now) (hs : 0 ≤ size) :
    c'' = c' ∧ c.rank ≤ c'.rank ∧ PI r1 u1 r2 u2 B' S' (rw ++ [⟨now, size, c'⟩]) now ∧ S'.near.length ≤ near.length + 1 ∧ S'.far.length ≤ far.length + 1 := by
  have T := PI.turn (c := c) h1 h2 P h hs
  have D := @due_len r1 (100 * u1) r2 (100 * u2) size now c ⟨near, far⟩
  rw [e1, e2] at T
  rw [e2] at D
  exact ⟨T.1.symm, T.2.1, T.2.2, D.1, D.2⟩
theorem Off.add {A : AD} {so fo no ho ro oo : Obj} {KP : PlT} {K1 K2 : BkT} {aw : Bool} {r1 u1 r2 u2 : Int} {B : TB} {x1 x2 x3 x4 : Tok} {X add : List (Addr × Obj)} (hX : Off A X) (g : ∀ q ∈ add, ∀ p ∈ LG A so fo no ho ro oo KP K1 K2 aw r1 u1 r2 u2 B x1 x2 x3 x4 X, @LT.lt Nat _ p.1 q.1) : Off A (add ++ X) := by
  obtain ⟨z1, z2, z3, z4, z5, z6⟩ := hX
  have k : ∀ a : Addr, (∃ o, (a, o) ∈ LG A so fo no ho ro oo KP K1 K2 aw r1 u1 r2 u2 B x1 x2 x3 x4 X) → (∀ q ∈ X, q.1 ≠ a) → ∀ q ∈ add ++ X, q.1 ≠ a := by
    rintro a ⟨o, ha⟩ hz q hq
    rcases List.mem_append.mp hq with h | h
    · have := g q h _ ha
      exact neN (by omega)
    · exact hz q h
  refine ⟨k _ ⟨_, List.Mem.head _⟩ z1, k _ ⟨_, List.Mem.tail _ (List.Mem.head _)⟩ z2, k _ ⟨_, List.Mem.tail _ (List.Mem.tail _ (List.Mem.head _))⟩ z3, k _ ⟨_, List.Mem.tail _ (List.Mem.tail _ (List.Mem.tail _ (List.Mem.tail _ (List.Mem.head _))))⟩ z4, k _ ⟨_, List.Mem.tail _ (List.Mem.tail _ (List.Mem.tail _ (List.Mem.tail _ (List.Mem.tail _ (List.Mem.tail _ (List.Mem.tail _ (List.Mem.tail _ (List.Mem.head _))))))))⟩ z5, k _ ⟨_, List.Mem.tail _ (List.Mem.tail _ (List.Mem.tail _ (List.Mem.tail _ (List.Mem.tail _ (List.Mem.tail _ (List.Mem.head _))))))⟩ z6⟩
abbrev orO (t1 t2 t3 : Tok) : Obj := listOf #[Value.str (Str.ofString "green") t1, Value.str (Str.ofString "yellow") t2, Value.str (Str.ofString "red") t3] 0
theorem index_col {prog : Program} {w : World} {A : Around} {E : Value → Shared → Prop} {s : Shared} {h₀ : Heap} {L D : Addr} {news : List (Addr × Obj)} {c : Col} {t t1 t2 t3 : Tok} {Q : Value → Shared → Prop} (N : News h₀ L s.heap news) (hm : (D, orO t1 t2 t3) ∈ news)
    (h : Q (.int (c.rank : Int) s.toks) { s with toks := s.toks + 1 }) : wpAny (model prog w) A (call (.builtin "list.index") [.ref D, .str c.str t]) Q E s := by
  have hs : StrsAre [Value.str (Str.ofString "green") t1, Value.str (Str.ofString "yellow") t2, Value.str (Str.ofString "red") t3] [Str.ofString "green", Str.ofString "yellow", Str.ofString "red"] := .cons _ _ (.cons _ _ (.cons _ _ .nil))
  refine call_meets PySem.F.slot_list_index ⟨_, (N _ hm).1, rfl⟩ PySem.F.entry_list_index (PySem.F.args_list_index_2 _ _)
    (MeetsSeq.list_index D _ 0 (.str c.str t) (isStrOf c.str) (fun y hy => eq_isStrOf c.str t hs y (by simpa using hy)) c.rank (by cases c <;> exact Nat.le_of_ble_eq_true rfl) (by cases c <;> decide) (by cases c <;> exact beq_self_eq_true _) ?_) ⟨(N _ hm).1, h⟩
  intro i hi hlt
  have hi3 : i = 0 ∨ i = 1 := by cases c <;> simp only [Col.rank] at hlt <;> omega
  rcases hi3 with rfl | rfl
  · cases c
    · exact absurd hlt (by decide)
    · show (Str.ofString "green" == Str.ofString "yellow") = false
      decide +kernel
    · show (Str.ofString "green" == Str.ofString "red") = false
      decide +kernel
  · cases c
    · exact absurd hlt (by decide)
    · exact absurd hlt (by decide)
    · show (Str.ofString "yellow" == Str.ofString "red") = false
      decide +kernel
theorem ne_same {prog : Program} {w : World} {A : Around} {E : Value → Shared → Prop} {s : Shared} {x : Str} {t u : Tok} {Q : Value → Shared → Prop} (h : Q (.bool false) s) : wpAny (model prog w) A (compareOp .NotEq (.str x t) (.str x u)) Q E s := by
  refine PyProof.Rows.ne_str ?_
  rw [bne_self_eq_false]
  exact h
theorem within_in {w : World} {p : Program} {loose : List Str} {mean : ExcName → Option Value} {mg mb : Str → Option Value} {rl cl0 : Addr} {vs cvs : List Value} {rw : List Row} {ys : List Str} {r B : Int} {tr tB : Tok} {n nc : Nat} {news : List (Addr × Obj)}
    (hm : (rl, listOf vs.toArray n) ∈ news) (hm2 : (cl0, listOf cvs.toArray nc) ∈ news) (hp : Trips news vs rw) (hl : rw.length ≤ 100) (hys : StrsAre cvs ys) (hr : 0 ≤ r) (hr2 : r ≤ 1000) (hW : Within ys r B rw) :
    Claim w p loose mean mg mb 241 [.ref rl, .int r tr, .int B tB, .ref cl0] news 1 (fun v news' => v = .bool true ∧ news' = news) := by
  unfold Claim
  intro dp un gd cn cs aa ccd cl outer A₀ base h₀ L m zh zg zd zk zo Q E Bl F X N T hk hd hu hret
  refine Claim.use (within_ok (n := n) (nc := nc) hp hl hys hr hr2 hW) Bl F X (sub_front N (cons_sub hm (cons_sub hm2 fun _ h => h))) T hk hd hu ?_
  rintro v news' h' tk' ⟨rfl, rfl⟩ F' N'
  exact hret _ news h' tk' ⟨rfl, rfl⟩ F' (sub_front N' fun q hq => List.Mem.tail _ (List.Mem.tail _ hq))
def LJ (rest : List (Addr × Obj)) (A : AD) (n : Nat) (ho oo : Obj) (KP : PlT) (K1 K2 : BkT) (aw : Bool) (r1 mo u1 u2 : Int) (tr tm tu th : Tok) (i : Nat) (m : Str → Option Value) (nx : List (Addr × Obj)) : Prop :=
  ∃ (a b : Int) (ta tb tn : Tok) (vf vn vr : List Value) (nf nn nr : Nat) (B : TB) (near far : List (Int × Int)) (rw : List Row) (now : Int) (x1 x2 x3 x4 : Tok) (X : List (Addr × Obj)),
    nx = LG A (srcO a b ta tb n) (listOf vf.toArray nf) (listOf vn.toArray nn) ho (listOf vr.toArray nr) oo KP K1 K2 aw r1 u1 (r1 + mo) u2 B x1 x2 x3 x4 X ∧
    (Off A X ∧ Pairs X vf far ∧ Pairs X vn near ∧ Trips X vr rw ∧ PI r1 u1 (r1 + mo) u2 B ⟨near, far⟩ rw now ∧ ∀ q ∈ rest, q ∈ X) ∧
    (0 ≤ a ∧ 0 ≤ b ∧ b < 2147483647 ∧ 0 ≤ now ∧ now ≤ 60 * (i : Int) ∧ near.length ≤ i ∧ far.length ≤ i ∧ rw.length ≤ i) ∧
    m (Str.ofString "source") = some (.ref A.src) ∧ m (Str.ofString "is_aware") = some (.bool aw) ∧ m (Str.ofString "rate") = some (.int r1 tr) ∧ m (Str.ofString "more") = some (.int mo tm) ∧ m (Str.ofString "burst") = some (.int u1 tu) ∧ m (Str.ofString "whole") = some (.int u2 th) ∧
    m (Str.ofString "policer") = some (.ref A.pp) ∧ m (Str.ofString "rows") = some (.ref A.rl) ∧ m (Str.ofString "now") = some (.int now tn) ∧ m (Str.ofString "held") = some (.ref A.hh) ∧ m (Str.ofString "order") = some (.ref A.ol)
theorem LJ.use {rest : List (Addr × Obj)} {A : AD} {n : Nat} {ho oo : Obj} {KP : PlT} {K1 K2 : BkT} {aw : Bool} {r1 mo u1 u2 : Int} {tr tm tu th : Tok} {i : Nat} {m : Str → Option Value} {nx : List (Addr × Obj)} {P : Prop} (h : LJ rest A n ho oo KP K1 K2 aw r1 mo u1 u2 tr tm tu th i m nx)
    (k : ∀ (a b : Int) (ta tb tn : Tok) (vf vn vr : List Value) (nf nn nr : Nat) (B : TB) (near far : List (Int × Int)) (rw : List Row) (now : Int) (x1 x2 x3 x4 : Tok) (X : List (Addr × Obj)),
      nx = LG A (srcO a b ta tb n) (listOf vf.toArray nf) (listOf vn.toArray nn) ho (listOf vr.toArray nr) oo KP K1 K2 aw r1 u1 (r1 + mo) u2 B x1 x2 x3 x4 X →
      Off A X → Pairs X vf far → Pairs X vn near → Trips X vr rw → PI r1 u1 (r1 + mo) u2 B ⟨near, far⟩ rw now → (∀ q ∈ rest, q ∈ X) →
      0 ≤ a → 0 ≤ b → b < 2147483647 → 0 ≤ now → now ≤ 60 * (i : Int) → near.length ≤ i → far.length ≤ i → rw.length ≤ i →
      m (Str.ofString "source") = some (.ref A.src) → m (Str.ofString "is_aware") = some (.bool aw) → m (Str.ofString "rate") = some (.int r1 tr) → m (Str.ofString "more") = some (.int mo tm) → m (Str.ofString "burst") = some (.int u1 tu) → m (Str.ofString "whole") = some (.int u2 th) →
      m (Str.ofString "policer") = some (.ref A.pp) → m (Str.ofString "rows") = some (.ref A.rl) → m (Str.ofString "now") = some (.int now tn) → m (Str.ofString "held") = some (.ref A.hh) → m (Str.ofString "order") = some (.ref A.ol) → P) : P := by
  obtain ⟨a1, b1, ta1, tb1, tn1, vf, vn, vr, nf, nn, nr, B, near, far, rw, now, x1, x2, x3, x4, X, e, ⟨hX, hpf, hpn, htr, hPI, hres⟩, ⟨ha1, hb1, hb12, hn1, hn2, hl1, hl2, hl3⟩, j1, j2, j3, j4, j5, j6, j7, j8, j9, ja, jb⟩ := h
  exact k a1 b1 ta1 tb1 tn1 vf vn vr nf nn nr B near far rw now x1 x2 x3 x4 X e hX hpf hpn htr hPI hres ha1 hb1 hb12 hn1 hn2 hl1 hl2 hl3 j1 j2 j3 j4 j5 j6 j7 j8 j9 ja jb
theorem to_loop {w : World} {h₀ h : Heap} {L : Addr} {m : Str → Option Value} {src lf ln hh rl ol pp pd b1 d1 b2 d2 : Addr} {ho oo : Obj} {a b : Int} {ta tb tn : Tok} {n : Nat} {KP : PlT} {K1 K2 : BkT} {aw : Bool} {r1 mo u1 u2 : Int} {tr tm tu th k1 k2 k3 k4 : Tok} {x1 x2 x3 x4 : Tok} {rest : List (Addr × Obj)} {q1 : Addr × Obj} {rest0 L9 : List (Addr × Obj)}
    (_F : Fr h₀ L h m) (N : News h₀ L h ((src, srcO a b ta tb n) :: (ol, oo) :: (lf, listOf #[] 0) :: (ln, listOf #[] 0) :: (hh, ho) :: q1 :: (rl, listOf #[] 0) :: (d2, bkO (r1 + mo) u2 (u2 * 100) 0 K2 x1 x2) :: (b2, instObj 127 d2) :: (d1, bkO r1 u1 (u1 * 100) 0 K1 x3 x4) :: (b1, instObj 127 d1) :: (pp, instObj 195 pd) :: (pd, plO KP b1 b2 aw) :: rest0))
    (hD : ho.IsDictOf (PySem.strKind PySem.Challenge.rw_pf0381_01.row.prog w) (hdP r1 (100 * u1) (r1 + mo) (100 * u2) k1 k2 k3 k4 ln lf))
    (m1 : m (Str.ofString "source") = some (.ref src)) (m2 : m (Str.ofString "is_aware") = some (.bool aw)) (m3 : m (Str.ofString "rate") = some (.int r1 tr)) (m4 : m (Str.ofString "more") = some (.int mo tm)) (m5 : m (Str.ofString "burst") = some (.int u1 tu)) (m6 : m (Str.ofString "whole") = some (.int u2 th))
    (m7 : m (Str.ofString "policer") = some (.ref pp)) (m8 : m (Str.ofString "rows") = some (.ref rl)) (m9 : m (Str.ofString "now") = some (.int 0 tn)) (ma : m (Str.ofString "held") = some (.ref hh)) (mb : m (Str.ofString "order") = some (.ref ol))
    (z1 : ∀ q ∈ rest, q.1 ≠ src) (ho9 : ∀ q ∈ L9, @LT.lt Nat _ q.1 pd) (hs0 : ∀ q ∈ rest, q ∈ rest0) (hs9 : ∀ q ∈ rest, q ∈ L9)
    (o1 : @LT.lt Nat _ src pd) (o2 : @LT.lt Nat _ pd pp) (o3 : @LT.lt Nat _ pp d1) (o4 : @LT.lt Nat _ d1 b1) (o5 : @LT.lt Nat _ b1 d2) (o6 : @LT.lt Nat _ d2 b2) (o7 : @LT.lt Nat _ b2 rl) (o8 : @LT.lt Nat _ rl hh) (o9 : @LT.lt Nat _ hh ln) (oa : @LT.lt Nat _ ln lf) (ob : @LT.lt Nat _ lf ol)
    (ha : 0 ≤ a) (hb : 0 ≤ b) (hb2 : b < 2147483647) (hr : 0 ≤ r1) (hmo : 0 ≤ mo) (hu1 : 0 ≤ u1) (hu2 : 0 ≤ u2) :
    ∃ (A : AD) (nx : List (Addr × Obj)), Ord A ∧ A.src = src ∧ ho.IsDictOf (PySem.strKind PySem.Challenge.rw_pf0381_01.row.prog w) (hdP r1 (100 * u1) (r1 + mo) (100 * u2) k1 k2 k3 k4 A.ln A.lf) ∧ News h₀ L h nx ∧ LJ rest A n ho oo KP K1 K2 aw r1 mo u1 u2 tr tm tu th 0 m nx := by
  have ho : ∀ q ∈ rest, @LT.lt Nat _ q.1 pd := fun q hq => ho9 q (hs9 q hq)
  have z2 : ∀ q ∈ rest, q.1 ≠ lf := fun q hq => neN (by have := ho q hq; omega)
  have z3 : ∀ q ∈ rest, q.1 ≠ ln := fun q hq => neN (by have := ho q hq; omega)
  have z4 : ∀ q ∈ rest, q.1 ≠ rl := fun q hq => neN (by have := ho q hq; omega)
  have z5 : ∀ q ∈ rest, q.1 ≠ d1 := fun q hq => neN (by have := ho q hq; omega)
  have z6 : ∀ q ∈ rest, q.1 ≠ d2 := fun q hq => neN (by have := ho q hq; omega)
  refine ⟨⟨src, lf, ln, hh, rl, ol, pp, pd, b1, d1, b2, d2⟩, _, ⟨o1, o2, o3, o4, o5, o6, o7, o8, o9, oa, ob⟩, rfl, hD, sub_front N ?_, a, b, ta, tb, tn, [], [], [], 0, 0, 0, ⟨u1 * 100, 0, u2 * 100, 0⟩, [], [], [], 0, x1, x2, x3, x4, rest, rfl, ⟨⟨z1, z2, z3, z4, z5, z6⟩, .nil, .nil, .nil, PI.start hr (by omega) hu1 hu2, fun _ h => h⟩, ⟨ha, hb, hb2, Int.le_refl _, Int.le_refl _, Nat.le_refl _, Nat.le_refl _, Nat.le_refl _⟩, m1, m2, m3, m4, m5, m6, m7, m8, m9, ma, mb⟩
  dsimp only [LG, plL]
  iterate 12 refine cons_sub (by k_mem) ?_
  intro x hx
  have hx' := hs0 x hx
  repeat' (first | exact hx' | apply List.Mem.tail)
theorem size_add (d : Nat) : Builtin.Range.rangeSize 0 (4 + (d : Int)) 1 = ((4 + d : Nat) : Int) := by
  rw [rangeSize_nat]; omega
theorem Off.own {A : AD} {so fo no ho ro oo : Obj} {KP : PlT} {K1 K2 : BkT} {aw : Bool} {r1 u1 r2 u2 : Int} {B : TB} {x1 x2 x3 x4 : Tok} {X own : List (Addr × Obj)} (hX : Off A X) (g : OwnOff own ((LG A so fo no ho ro oo KP K1 K2 aw r1 u1 r2 u2 B x1 x2 x3 x4 X).map (·.1))) : Off A (X ++ own) := by
  obtain ⟨z1, z2, z3, z4, z5, z6⟩ := hX
  have k : ∀ a : Addr, a ∈ ((LG A so fo no ho ro oo KP K1 K2 aw r1 u1 r2 u2 B x1 x2 x3 x4 X).map (·.1)) → (∀ q ∈ X, q.1 ≠ a) → ∀ q ∈ X ++ own, q.1 ≠ a := by
    intro a ha hz q hq
    rcases List.mem_append.mp hq with h | h
    · exact hz q h
    · exact g q h a ha
  refine ⟨k _ ?_ z1, k _ ?_ z2, k _ ?_ z3, k _ ?_ z4, k _ ?_ z5, k _ ?_ z6⟩ <;> (dsimp only [LG, plL, List.map]; simp)
theorem range_loop4 {prog : Program} {w : World} {A : Around} {E : Value → Shared → Prop} {s : Shared} {env : Env} {h₀ : Heap} {x : Str} {body : List Stmt} {Q : Flow → Shared → Prop} {r : Addr} {d : Nat} {t₀ u₀ v₀ : Tok} {m₀ : Str → Option Value} {news : List (Addr × Obj)} {J : Nat → (Str → Option Value) → List (Addr × Obj) → Prop} (hj : J 0 m₀ news)
    (hh : A.handled = none) (hr : IsRange s.heap r 0 (4 + (d : Int)) 1 t₀ u₀ v₀) (hd : (d : Int) < 7) (F : Fr h₀ env.locals s.heap m₀) (N : News h₀ env.locals s.heap news)
    (turn : ∀ i t m₁ nx h tk own, i < 11 → OwnOff own (nx.map (·.1)) → J i m₁ nx → Fr h₀ env.locals h (fun y => if y = x then some (.int (i : Int) t) else m₁ y) → News h₀ env.locals h (nx ++ own) →
      wpAny (model prog w) A (execs body env) (InvPostG h₀ env.locals (J (i + 1)) own { s with heap := h, toks := tk } Q) E { s with heap := h, toks := tk })
    (done : ∀ i m₁ nx h tk, i < 11 → J i m₁ nx → Fr h₀ env.locals h m₁ → News h₀ env.locals h nx → Q .next { s with heap := h, toks := tk }) :
    wpAny (model prog w) A (pyIter (.ref r)) (fun it s₂ => LoopAtV prog w A h₀ env x body Q E it s₂) E s :=
  range_loop (n := 4 + d) J hh hr (small_one (by omega) (by omega) (by omega) (by omega)) (size_add d) F N hj (fun i t m₁ nx h tk own hi => turn i t m₁ nx h tk own (by omega)) (fun m₁ nx h tk => done _ m₁ nx h tk (by omega))
end Mine
end
section
open PySem PySem.W PySem.Calls PyProof.Rows PySem.Spec
set_option maxRecDepth 100000
set_option maxHeartbeats 8000000
namespace Mine
theorem Off.sub {A : AD} {X Y : List (Addr × Obj)} (h : Off A Y) (k : ∀ q ∈ X, q ∈ Y) : Off A X :=
  ⟨fun q hq => h.s q (k q hq), fun q hq => h.f q (k q hq), fun q hq => h.n q (k q hq), fun q hq => h.r q (k q hq), fun q hq => h.d1 q (k q hq), fun q hq => h.d2 q (k q hq)⟩
theorem turn_end {h₀ h' : Heap} {L : Addr} {m' : Str → Option Value} {s₁ : Shared} {tk : Nat} {own rest X X0 add : List (Addr × Obj)} {A : AD} {n i : Nat} {ho oo so0 fo0 no0 ro0 so1 fo1 no1 ro1 : Obj} {KP : PlT} {K1 K2 : BkT} {aw : Bool} {r1 mo u1 u2 : Int} {tr tm tu th : Tok} {D : Addr} {now size : Int} {c : Col} {k1 k2 k3 ta tb tn x1 x2 x3 x4 y1 y2 y3 y4 w1 w2 w3 w4 : Tok}
    {a b : Int} {vf vn vr : List Value} {nf nn nr : Nat} {B B0 B1 : TB} {S : LS} {rw : List Row}
    (F : Fr h₀ L h' m') (N : News h₀ L h' ((D, { cls := .type "tuple", data := .seq #[Value.int now k1, Value.int size k2, Value.str c.str k3] }) :: (A.src, srcO a b ta tb n) :: (A.lf, listOf vf.toArray nf) :: (A.ln, listOf vn.toArray nn) :: (A.hh, ho) :: (A.rl, listOf (vr ++ [Value.ref D]).toArray nr) :: (A.ol, oo) ::
      (A.d2, bkO (r1 + mo) u2 B.g2 B.t2 K2 x1 x2) :: (A.b2, instObj 127 A.d2) :: (A.d1, bkO r1 u1 B.g1 B.t1 K1 x3 x4) :: (A.b1, instObj 127 A.d1) :: (A.pp, instObj 195 A.pd) :: (A.pd, plO KP A.b1 A.b2 aw) :: (add ++ X0)))
    (hX0 : X0 = X ++ own) (hoff : OwnOff own ((LG A so0 fo0 no0 ho ro0 oo KP K1 K2 aw r1 u1 (r1 + mo) u2 B0 y1 y2 y3 y4 X).map (·.1)))
    (g9 : ∀ q ∈ add, ∀ p ∈ LG A so1 fo1 no1 ho ro1 oo KP K1 K2 aw r1 u1 (r1 + mo) u2 B1 w1 w2 w3 w4 X0, @LT.lt Nat _ p.1 q.1)
    (l1 : A.src < D ∧ A.lf < D ∧ A.ln < D ∧ A.hh < D ∧ A.rl < D ∧ A.ol < D ∧ A.d2 < D ∧ A.b2 < D ∧ A.d1 < D ∧ A.b1 < D ∧ A.pp < D ∧ A.pd < D ∧ AllLt D (add ++ X0))
    (hXo : Off A X0) (p9 : Pairs (add ++ X) vf S.far) (q9 : Pairs (add ++ X) vn S.near) (htr : Trips X vr rw) (z3 : PI r1 u1 (r1 + mo) u2 B S (rw ++ [⟨now, size, c⟩]) now) (hres : ∀ q ∈ rest, q ∈ X)
    (ha : 0 ≤ a) (hb : 0 ≤ b) (hb2 : b < 2147483647) (hn : 0 ≤ now) (hn2 : now ≤ 60 * ((i + 1 : Nat) : Int)) (hl1 : S.near.length ≤ i + 1) (hl2 : S.far.length ≤ i + 1) (hl3 : rw.length ≤ i)
    (m1 : m' (Str.ofString "source") = some (.ref A.src)) (m2 : m' (Str.ofString "is_aware") = some (.bool aw)) (m3 : m' (Str.ofString "rate") = some (.int r1 tr)) (m4 : m' (Str.ofString "more") = some (.int mo tm)) (m5 : m' (Str.ofString "burst") = some (.int u1 tu)) (m6 : m' (Str.ofString "whole") = some (.int u2 th))
    (m7 : m' (Str.ofString "policer") = some (.ref A.pp)) (m8 : m' (Str.ofString "rows") = some (.ref A.rl)) (m9 : m' (Str.ofString "now") = some (.int now tn)) (ma : m' (Str.ofString "held") = some (.ref A.hh)) (mb : m' (Str.ofString "order") = some (.ref A.ol)) :
    InvEndG h₀ L (LJ rest A n ho oo KP K1 K2 aw r1 mo u1 u2 tr tm tu th (i + 1)) own s₁ { s₁ with heap := h', toks := tk } := by
  have hXX : ∀ q ∈ X, q ∈ X0 := fun q hq => hX0 ▸ List.mem_append.mpr (.inl hq)
  have hoX : ∀ q ∈ own, q ∈ X0 := fun q hq => hX0 ▸ List.mem_append.mpr (.inr hq)
  have hsub : ∀ q ∈ add ++ X, q ∈ add ++ X0 := by
    intro q hq
    rcases List.mem_append.mp hq with h | h
    · exact List.mem_append.mpr (.inl h)
    · exact List.mem_append.mpr (.inr (hXX q h))
  have hoffX := (Off.add hXo g9).sub hsub
  obtain ⟨l01, l02, l03, l04, l05, l06, l07, l08, l09, l10, l11, l12, l13⟩ := l1
  have hD := kst_ltOf l13
  have hX' : Off A ((D, tripO ⟨now, size, c⟩ k1 k2 k3) :: (add ++ X)) := by
    obtain ⟨e1, e2, e3, e4, e5, e6⟩ := hoffX
    exact ⟨ne_cons (Nat.ne_of_gt l01) e1, ne_cons (Nat.ne_of_gt l02) e2, ne_cons (Nat.ne_of_gt l03) e3, ne_cons (Nat.ne_of_gt l05) e4, ne_cons (Nat.ne_of_gt l09) e5, ne_cons (Nat.ne_of_gt l07) e6⟩
  have hup : ∀ q ∈ add ++ X, q ∈ (D, tripO ⟨now, size, c⟩ k1 k2 k3) :: (add ++ X) := fun q hq => List.Mem.tail _ hq
  refine InvEndG.intro F N (nx := LG A (srcO a b ta tb n) (listOf vf.toArray nf) (listOf vn.toArray nn) ho (listOf (vr ++ [Value.ref D]).toArray nr) oo KP K1 K2 aw r1 u1 (r1 + mo) u2 B x1 x2 x3 x4 ((D, tripO ⟨now, size, c⟩ k1 k2 k3) :: (add ++ X)))
    ⟨a, b, ta, tb, tn, vf, vn, vr ++ [Value.ref D], nf, nn, nr, B, S.near, S.far, rw ++ [⟨now, size, c⟩], now, x1, x2, x3, x4, _, rfl, ⟨hX', p9.mono hup, q9.mono hup, (htr.mono fun q hq => List.Mem.tail _ (List.mem_append.mpr (.inr hq))).app (.cons (List.Mem.head _) .nil), z3, fun q hq => List.Mem.tail _ (List.mem_append.mpr (.inr (hres q hq)))⟩,
      ⟨ha, hb, hb2, hn, hn2, hl1, hl2, by simp; omega⟩, m1, m2, m3, m4, m5, m6, m7, m8, m9, ma, mb⟩ ?_ ?_ ?_
  · intro p hp x hx
    have old : x ∈ ((LG A so0 fo0 no0 ho ro0 oo KP K1 K2 aw r1 u1 (r1 + mo) u2 B0 y1 y2 y3 y4 X).map (·.1)) → p.1 ≠ x := hoff p hp x
    have hpD : @LT.lt Nat _ p.1 D := hD p (List.mem_append.mpr (.inr (hoX p hp)))
    simp only [LG, plL, List.map_cons, List.mem_cons, List.map_append, List.mem_append] at hx old
    rcases hx with h | h | h | h | h | h | h | h | h | h | h | h | h | h | h
    · exact old (by simp [h])
    · exact old (by simp [h])
    · exact old (by simp [h])
    · exact old (by simp [h])
    · exact old (by simp [h])
    · exact old (by simp [h])
    · exact old (by simp [h])
    · exact old (by simp [h])
    · exact old (by simp [h])
    · exact old (by simp [h])
    · exact old (by simp [h])
    · exact old (by simp [h])
    · rw [h]; exact Nat.ne_of_lt hpD
    · obtain ⟨q, hq, rfl⟩ := List.mem_map.mp h
      have := g9 q hq p (by
        have := hoX p hp
        dsimp only [LG, plL]
        repeat' (first | exact this | apply List.Mem.tail))
      exact Nat.ne_of_lt this
    · exact old (by simp only [h, or_true])
  · intro p hp
    revert p
    dsimp only [LG, plL]
    iterate 12 refine cons_sub (by k_mem) ?_
    refine cons_sub (List.Mem.head _) ?_
    intro q hq
    have := hsub q hq
    iterate 13 apply List.Mem.tail
    exact this
  · intro p hp
    iterate 13 apply List.Mem.tail
    exact List.mem_append.mpr (.inr (hoX p hp))
end Mine
end
section
open PySem PySem.W PySem.Calls PyProof.Rows PySem.Spec
set_option maxRecDepth 100000
set_option maxHeartbeats 8000000
namespace Mine
theorem anew_Sr : True := by
  w_top off
  exact True.intro
inductive Front (d : Addr) (o : Obj) : List (Addr × Obj) → List (Addr × Obj) → Prop where
  | head {r : List (Addr × Obj)} : Front d o ((d, o) :: r) r
  | tail {q : Addr × Obj} {r r' : List (Addr × Obj)} : Front d o r r' → Front d o (q :: r) (q :: r')
theorem Front.sub {d : Addr} {o : Obj} {l r : List (Addr × Obj)} (f : Front d o l r) : ∀ q ∈ (d, o) :: r, q ∈ l := by
  induction f with
  | head => exact fun q hq => hq
  | tail _ ih =>
    intro q hq
    simp only [List.mem_cons] at hq ih ⊢
    rcases hq with h | h | h
    · exact .inr (ih q (.inl h))
    · exact .inl h
    · exact .inr (ih q (.inr h))
theorem Front.news {h₀ h : Heap} {L : Addr} {d : Addr} {o : Obj} {l r : List (Addr × Obj)} (N : News h₀ L h l) (f : Front d o l r) : News h₀ L h ((d, o) :: r) := sub_front N f.sub
theorem one_mem {w : World} {p : Program} {loose : List Str} {mean : ExcName → Option Value} {mg mb : Str → Option Value}
    {src th : Addr} {a b : Int} {ta tb : Tok} {n k : Nat} {vs : List Value} {rest : List (Addr × Obj)} (ha : 0 ≤ a) (hb : 0 ≤ b) (hb2 : b < 2147483647) (hv : 0 < vs.length) (hv2 : vs.length ≤ 100) (hm : (th, listOf vs.toArray k) ∈ rest) (hrest : ∀ q ∈ rest, q.1 ≠ src) :
    Claim w p loose mean mg mb 220 [.ref src, .ref th] ((src, srcO a b ta tb n) :: rest) 2
      (fun v news' => ∃ a' b' ta' tb', v ∈ vs ∧ 0 ≤ a' ∧ a' ≤ a ∧ 0 ≤ b' ∧ b' < 2147483647 ∧ news' = (src, srcO a' b' ta' tb' n) :: rest) := by
  unfold Claim
  intro dp un gd cn cs aa ccd cl outer A₀ base h₀ L m zh zg zd zk zo Q E Bl F X N T hk hd hu hret
  refine Claim.use (one_ok (ta := ta) (tb := tb) (n := n) (k := k) (rest := rest) ha hb hb2 hv hv2 (hrest _ hm) hrest) Bl F X (sub_front N fun q hq => ?_) T hk hd hu ?_
  · simp only [List.mem_cons] at hq ⊢
    rcases hq with h | h | h
    · exact .inl h
    · exact .inr (h ▸ hm)
    · exact .inr h
  · rintro v news' h' tk' ⟨a', b', ta', tb', h1, h2, h3, h4, h5, rfl⟩ F' N'
    refine hret v _ h' tk' ⟨a', b', ta', tb', h1, h2, h3, h4, h5, rfl⟩ F' (sub_front N' fun q hq => ?_)
    simp only [List.mem_cons] at hq ⊢
    rcases hq with h | h <;> simp [h]
theorem one_drop {w : World} {p : Program} {loose : List Str} {mean : ExcName → Option Value} {mg mb : Str → Option Value}
    {src th : Addr} {a b : Int} {ta tb : Tok} {n k : Nat} {vs : List Value} {rest rest2 : List (Addr × Obj)} (ha : 0 ≤ a) (hb : 0 ≤ b) (hb2 : b < 2147483647) (hv : 0 < vs.length) (hv2 : vs.length ≤ 100) (hm : Front th (listOf vs.toArray k) rest rest2) (hrest : ∀ q ∈ rest, q.1 ≠ src) :
    Claim w p loose mean mg mb 220 [.ref src, .ref th] ((src, srcO a b ta tb n) :: rest) 2
      (fun v news' => ∃ a' b' ta' tb', v ∈ vs ∧ 0 ≤ a' ∧ a' ≤ a ∧ 0 ≤ b' ∧ b' < 2147483647 ∧ news' = (src, srcO a' b' ta' tb' n) :: rest2) := by
  unfold Claim
  intro dp un gd cn cs aa ccd cl outer A₀ base h₀ L m zh zg zd zk zo Q E Bl F X N T hk hd hu hret
  refine Claim.use (one_mem (ta := ta) (tb := tb) (n := n) (k := k) (rest := rest) ha hb hb2 hv hv2 (hm.sub _ List.mem_cons_self) hrest) Bl F X N T hk hd hu ?_
  rintro v news' h' tk' ⟨a', b', ta', tb', h1, h2, h3, h4, h5, rfl⟩ F' N'
  exact hret v _ h' tk' ⟨a', b', ta', tb', h1, h2, h3, h4, h5, rfl⟩ F' (sub_front N' fun q hq => (List.mem_cons.mp hq).elim (fun e => e ▸ List.mem_cons_self) fun h => List.mem_cons_of_mem _ (hm.sub q (List.mem_cons_of_mem _ h)))
inductive IntsIn (lo hi : Int) : List Value → Prop where
  | nil : IntsIn lo hi []
  | cons {i : Int} {t : Tok} {vs : List Value} : lo ≤ i → i ≤ hi → IntsIn lo hi vs → IntsIn lo hi (.int i t :: vs)
theorem IntsIn.mem {lo hi : Int} {v : Value} {vs : List Value} (h : IntsIn lo hi vs) (hv : v ∈ vs) : ∃ i t, v = .int i t ∧ lo ≤ i ∧ i ≤ hi := by
  induction h with
  | nil => cases hv
  | cons a b _ ih =>
    rcases List.mem_cons.mp hv with rfl | hv
    · exact ⟨_, _, rfl, a, b⟩
    · exact ih hv
section
variable {w : World} {p : Program} {loose : List Str} {mean : ExcName → Option Value} {mg mb : Str → Option Value} {src th : Addr} {a b : Int} {ta tb : Tok} {n k : Nat} {vs : List Value} {rest rest2 : List (Addr × Obj)}
theorem draw_k {lo hi : Int} (ha : 0 ≤ a) (hb : 0 ≤ b) (hb2 : b < 2147483647) (hv : 0 < vs.length) (hv2 : vs.length ≤ 100) (hm : Front th (listOf vs.toArray k) rest rest2) (hrest : ∀ q ∈ rest, q.1 ≠ src) (hin : IntsIn lo hi vs) :
    ClaimK w p loose mean mg mb 220 [.ref src, .ref th] ((src, srcO a b ta tb n) :: rest) 2
      (fun R => ∀ (i : Int) (u : Tok) (a' b' : Int) (ta' tb' : Tok), lo ≤ i → i ≤ hi → 0 ≤ a' → 0 ≤ b' → b' < 2147483647 → R (.int i u) ((src, srcO a' b' ta' tb' n) :: rest2)) :=
  Claim.toK (one_drop ha hb hb2 hv hv2 hm hrest) (by
    rintro R kk v news' ⟨a', b', ta', tb', h1, h2, h3, h4, h5, rfl⟩
    obtain ⟨i, u, rfl, i1, i2⟩ := hin.mem h1
    exact kk i u a' b' ta' tb' i1 i2 h2 h4 h5)
theorem drawB_k (ha : 0 ≤ a) (hb : 0 ≤ b) (hb2 : b < 2147483647) (hv : 0 < vs.length) (hv2 : vs.length ≤ 100) (hm : Front th (listOf vs.toArray k) rest rest2) (hrest : ∀ q ∈ rest, q.1 ≠ src) (hi : ∀ v ∈ vs, v = .none ∨ ∃ c t, v = .str (Col.str c) t) :
    ClaimK w p loose mean mg mb 220 [.ref src, .ref th] ((src, srcO a b ta tb n) :: rest) 2
      (fun R => ∀ (v : Value) (a' b' : Int) (ta' tb' : Tok), (v = .none ∨ ∃ c t, v = .str (Col.str c) t) → 0 ≤ a' → 0 ≤ b' → b' < 2147483647 → R v ((src, srcO a' b' ta' tb' n) :: rest2)) :=
  Claim.toK (one_drop ha hb hb2 hv hv2 hm hrest) (by
    rintro R kk v news' ⟨a', b', ta', tb', h1, h2, h3, h4, h5, rfl⟩
    exact kk v a' b' ta' tb' (hi v h1) h2 h4 h5)
end
section
variable {w : World} {p : Program} {loose : List Str} {mean : ExcName → Option Value} {mg mb : Str → Option Value}
theorem take_k {src : Addr} {a b : Int} {ta tb : Tok} {n : Nat} {rest : List (Addr × Obj)} {top : Int} {tt : Tok} (ha : 0 ≤ a) (hb : 0 ≤ b) (hb2 : b < 2147483647) (ht : 0 < top) (ht2 : top ≤ 100) (hrest : ∀ q ∈ rest, q.1 ≠ src) :
    ClaimK w p loose mean mg mb 213 [.ref src, .int top tt] ((src, srcO a b ta tb n) :: rest) 1
      (fun R => ∀ (d : Nat) (t : Tok) (a' b' : Int) (ta' tb' : Tok), (d : Int) < top → 0 ≤ a' → 0 ≤ b' → b' < 2147483647 → R (.int (d : Int) t) ((src, srcO a' b' ta' tb' n) :: rest)) :=
  Claim.toK (take_ok ha hb hb2 ht ht2 hrest) (by
    rintro R kk v news' ⟨d, t, a', b', ta', tb', rfl, h1, h2, h3, h4, h5, h6, rfl⟩
    obtain ⟨e, rfl⟩ := Int.eq_ofNat_of_zero_le h1
    exact kk e t a' b' ta' tb' h2 h3 h5 h6)
theorem mk_k {r1 u1 r2 u2 : Int} {t1 t2 t3 t4 : Tok} {aw : Bool} {news : List (Addr × Obj)}
    (hr : 0 ≤ r1) (hr2 : r1 ≤ r2) (hr3 : r2 ≤ 1000) (hu : 1 ≤ u1) (hu2 : 1 ≤ u2) (hv : u1 ≤ 1000) (hv2 : u2 ≤ 1000) :
    ClaimK w p loose mean mg mb 195 [.int r1 t1, .int u1 t2, .int r2 t3, .int u2 t4, .bool aw] news 4
      (fun R => ∀ (pp pd b1 d1 b2 d2 : Addr) (KP : PlT) (K1 K2 : BkT) (x1 x2 x3 x4 : Tok), (∀ q ∈ news, q.1 < pd) → @LT.lt Nat _ pd pp → @LT.lt Nat _ pp d1 → @LT.lt Nat _ d1 b1 → @LT.lt Nat _ b1 d2 → @LT.lt Nat _ d2 b2 →
        R (.ref pp) (plL ⟨pp, pd, b1, d1, b2, d2⟩ KP K1 K2 aw r1 u1 r2 u2 ⟨u1 * 100, 0, u2 * 100, 0⟩ x1 x2 x3 x4 news)) :=
  Claim.toK (mk_ok hr hr2 hr3 hu hu2 hv hv2) (by
    rintro R kk v news' ⟨⟨pp, pd, b1, d1, b2, d2⟩, KP, K1, K2, x1, x2, x3, x4, rfl, rfl, ⟨o, f1, f2, f3, f4, f5⟩⟩
    exact kk pp pd b1 d1 b2 d2 KP K1 K2 x1 x2 x3 x4 o f1 f2 f3 f4 f5)
theorem color_k {A : AD} {so fo no ho ro oo : Obj} {KP : PlT} {K1 K2 : BkT} {aw : Bool} {r1 u1 r2 u2 : Int} {B : TB} {x1 x2 x3 x4 : Tok} {X : List (Addr × Obj)}
    {size now : Int} {ts tn : Tok} {bv : Value} {c : Col} (hA : Ord A) (hX : Off A X) (hB1 : BkOk r1 u1 B.g1 B.t1) (hB2 : BkOk r2 u2 B.g2 B.t2) (hn : 0 ≤ now) (hn2 : now ≤ 10000) (hs : 0 ≤ size) (hs2 : size ≤ 1000) (hc : Come aw bv c) :
    ClaimK w p loose mean mg mb 192 [.ref A.pp, .int size ts, .int now tn, bv] (LG A so fo no ho ro oo KP K1 K2 aw r1 u1 r2 u2 B x1 x2 x3 x4 X) 4
      (fun R => ∀ (t y1 y2 y3 y4 : Tok) (c' : Col) (B' : TB), step r1 u1 r2 u2 c size now B = (c', B') → R (.str c'.str t) (LG A so fo no ho ro oo KP K1 K2 aw r1 u1 r2 u2 B' y1 y2 y3 y4 X)) :=
  Claim.toK (color_in hA hX hB1 hB2 hn hn2 hs hs2 hc) (by
    rintro R kk v news' ⟨t, y1, y2, y3, y4, c', B', rfl, hs, rfl⟩
    exact kk t y1 y2 y3 y4 c' B' hs)
theorem due_k {A : AD} {so ho ro oo : Obj} {KP : PlT} {K1 K2 : BkT} {aw : Bool} {r1 u1 r2 u2 : Int} {B0 B : TB} {x1 x2 x3 x4 : Tok} {X Y : List (Addr × Obj)} {rw : List Row} {last : Int}
    {t1 t2 t3 t4 : Tok} {nn nf : Nat} {vn vf : List Value} {near far : List (Int × Int)} {size now : Int} {ts tn tc : Tok} {c c1 : Col} (hA : Ord A) (hX : Off A X)
    (hD : ho.IsDictOf (PySem.strKind PySem.Challenge.rw_pf0381_01.row.prog w) (hdP r1 (100 * u1) r2 (100 * u2) t1 t2 t3 t4 A.ln A.lf)) (hpn0 : Pairs Y vn near) (hpf0 : Pairs Y vf far) (hY : ∀ q ∈ Y, q ∈ X) (hln : near.length ≤ 100) (hlf : far.length ≤ 100) (hn : 0 ≤ now) (hn2 : now ≤ 10000) (hs : 0 ≤ size) (hs2 : size ≤ 1000)
    (q1 : 0 ≤ r1) (q2 : r1 ≤ 1000) (q3 : 0 ≤ r2) (q4 : r2 ≤ 1000) (q5 : 0 ≤ 100 * u1) (q6 : 100 * u1 ≤ 100000) (q7 : 0 ≤ 100 * u2) (q8 : 100 * u2 ≤ 100000) (hla : last ≤ now)
    (hPI : PI r1 u1 r2 u2 B0 ⟨near, far⟩ rw last) (hst : step r1 u1 r2 u2 c size now B0 = (c1, B)) :
    ClaimK w p loose mean mg mb 234 [.ref A.hh, .int size ts, .int now tn, .str c.str tc] (LG A so (listOf vf.toArray nf) (listOf vn.toArray nn) ho ro oo KP K1 K2 aw r1 u1 r2 u2 B x1 x2 x3 x4 X) 2
      (fun R => ∀ (t : Tok) (add : List (Addr × Obj)) (vf' vn' : List Value) (nf' nn' : Nat) (S' : LS), c.rank ≤ c1.rank → PI r1 u1 r2 u2 B S' (rw ++ [⟨now, size, c1⟩]) now → S'.near.length ≤ near.length + 1 → S'.far.length ≤ far.length + 1 →
        (∀ q ∈ add ++ X, q.1 ≠ A.src) → (∀ q ∈ add ++ X, q.1 ≠ A.lf) → (∀ q ∈ add ++ X, q.1 ≠ A.ln) → (∀ q ∈ add ++ X, q.1 ≠ A.rl) → (∀ q ∈ add ++ X, q.1 ≠ A.d1) → (∀ q ∈ add ++ X, q.1 ≠ A.d2) →
        Pairs (add ++ Y) vf' S'.far → Pairs (add ++ Y) vn' S'.near → (∀ q ∈ add, ∀ p ∈ LG A so (listOf vf.toArray nf) (listOf vn.toArray nn) ho ro oo KP K1 K2 aw r1 u1 r2 u2 B x1 x2 x3 x4 X, @LT.lt Nat _ p.1 q.1) →
        R (.str c1.str t) (LG A so (listOf (List.toArray vf') nf') (listOf (List.toArray vn') nn') ho ro oo KP K1 K2 aw r1 u1 r2 u2 B x1 x2 x3 x4 (add ++ X))) :=
  Claim.toK (due_in hA hX hD hpn0 hpf0 hY hln hlf hn hn2 hs hs2 q1 q2 q3 q4 q5 q6 q7 q8) (by
    rintro R kk v news' ⟨t, add, vf', vn', nf', nn', c2, S', rfl, hd, rfl, p9, q9, g9⟩
    obtain ⟨w1, w2, w3, w4, w5, w6⟩ := Off.add hX g9
    obtain ⟨rfl, z2, z3, z4, z5⟩ := PI.both hPI hst hd q1 q3 hla hs
    exact kk t add vf' vn' nf' nn' S' z2 z3 z4 z5 w1 w2 w3 w4 w5 w6 p9 q9 g9)
theorem within_k {rl cl0 : Addr} {vs cvs : List Value} {rw : List Row} {ys : List Str} {r B : Int} {tr tB : Tok} {n nc : Nat} {news : List (Addr × Obj)}
    (hm : (rl, listOf vs.toArray n) ∈ news) (hm2 : (cl0, listOf cvs.toArray nc) ∈ news) (hp : Trips news vs rw) (hl : rw.length ≤ 100) (hys : StrsAre cvs ys) (hr : 0 ≤ r) (hr2 : r ≤ 1000) (hW : Within ys r B rw) :
    ClaimK w p loose mean mg mb 241 [.ref rl, .int r tr, .int B tB, .ref cl0] news 1 (fun R => R (.bool true) news) :=
  Claim.toK (within_in hm hm2 hp hl hys hr hr2 hW) (by rintro R kk v news' ⟨rfl, rfl⟩; exact kk)
end
local macro_rules | `(tactic| k_all) => `(tactic| assumption)
def ComeP (aw : Bool) (V : Value) (hp : Heap) (g : Array GenState) (d : Drawn) (os : OsState) (v : Value) (s' : Shared) : Prop := ∃ c tc tk, v = .str (Col.str c) tc ∧ Come aw V c ∧ s' = ⟨hp, g, d, tk, os⟩
theorem come_cut {M : Model} {A : Around} {x : Expr} {env : Env} {aw : Bool} {V : Value} {hp : Heap} {g : Array GenState} {d : Drawn} {t : Nat} {os : OsState} {Q E : Value → Shared → Prop} (_hv : V = .none ∨ ∃ c t, V = .str (Col.str c) t)
    (h : wpAny M A (eval x env) (ComeP aw V hp g d os) E ⟨hp, g, d, t, os⟩) (k : ∀ c tc tk, Come aw V c → Q (.str (Col.str c) tc) ⟨hp, g, d, tk, os⟩) : wpAny M A (eval x env) Q E ⟨hp, g, d, t, os⟩ :=
  wpAny_mono h (fun v s' => by rintro ⟨c, tc, tk, rfl, hc, rfl⟩; exact k c tc tk hc) fun _ _ e => e
theorem stream_ok {w : World} {p : Program} {loose : List Str} {mean : ExcName → Option Value} {mg mb : Str → Option Value} {src : Addr} {a b : Int} {ta tb : Tok} {n : Nat} {rest : List (Addr × Obj)} {aw : Bool} (ha : 0 ≤ a) (hb : 0 ≤ b) (hb2 : b < 2147483647) (hrest : ∀ q ∈ rest, q.1 ≠ src) :
    Claim w p loose mean mg mb 248 [.ref src, .bool aw] ((src, srcO a b ta tb n) :: rest) 12
      (fun v news' => ∃ a' b' ta' tb', v = .bool true ∧ 0 ≤ a' ∧ 0 ≤ b' ∧ b' < 2147483647 ∧ news' = (src, srcO a' b' ta' tb' n) :: rest) := by
  unfold Claim
  k_fill
  intro dp un gd cn cs aa ccd cl outer A₀ base h₀ L m zh zg zd zk zo Q E Bl F X N T hk hd hu hret
  refine wpAny_call ?_
  k_dflt ((refine' code_def ?k1 ?k2 ?k3 ?k4 ?k5 ?kA ?kF ?kK ?k6 ?k7 ?k8 ?k9 ?kB ?_ ?c2 ?c3 ?c4 ?c5; (case kA => exact rfl); (case kF => exact rfl); (case kK => first | exact rfl | assumption); (case k1 => k_asm); (case k2 => k_asm); (case k3 => k_asm); (case k4 => k_asm); (case k5 => k_asm); (case k6 => k_is); (case k7 => k_is); (case k8 => ktr_room); (case k9 => first | exact BindsTo.of_eq rfl | exact binds_K (by k_in) rfl (by k_is) rfl rfl rfl); (case c5 => decide); (case kB => exact locs rfl); (case c2 => exact rfl); (case c3 => exact rfl); (case c4 => exact rfl); k_whole; intro g' L' h' FG' F' N' B' X' T'; (try dsimp only); (try k_lift B'); (try k_fold)))
  repeat' (first | (k_unfold; (try dsimp only)) | ((fail_if_success (with_reducible show wpAny _ _ (pyIter _) _ _ _)); first | (first | (with_reducible ((k_here; (with_reducible show wpAny _ _ (call (Value.builtin _) [Value.ref _, _]) _ _ _); k_dflt (refine' append_K ?k1 ?k2 ?k3 ?_ ?z; (case k1 => k_asm); (case k2 => k_asm); (case k3 => k_upd); (case z => (simp only [List.size_toArray, PySem.sizeLine_eq]; omega)); k_whole); intro h' F' N'; (try simp only [List.push_toArray] at N')))) | (with_reducible ((k_here; (with_reducible show wpAny _ _ (call (Value.builtin _) [Value.ref _, Value.str _ _]) _ _ _); k_dflt (refine' index_col (c := .g) ?k1 ?k2 ?_; (case k1 => k_asm); (case k2 => k_mem))))) | (with_reducible ((k_here; (with_reducible show wpAny _ _ (call (Value.builtin _) [Value.ref _, Value.str _ _]) _ _ _); k_dflt (refine' index_col ?k1 ?k2 ?_; (case k1 => k_asm); (case k2 => k_mem))))) | (with_reducible ((k_here; (with_reducible show wpAny _ _ (compareOp CmpOp.NotEq (Value.str _ _) (Value.str _ _)) _ _ _); (refine ne_same ?_)))) | (with_reducible ((k_here; (with_reducible show wpAny _ _ (call (Value.ref 241) _) _ _ _); (k_dflt (refine' ClaimK.use (within_k ?a1 ?a2 ?a3 ?a4 ?a5 ?a6 ?a7 ?a8) ?kB ?kF ?kX ?kN ?kT ?kK ?kd ?ku ?_; (case kN => k_asm); (case kF => k_asm); (case kB => k_asm); (case kX => k_asm); (case kT => k_asm); (case kK => first | exact rfl | assumption); (case kd => ktr_room); (case ku => ktr_units); (case a1 => k_mem); (case a2 => k_mem); (case a3 => (refine Trips.mono (by assumption) ?_; (intro q hq); repeat' (first | assumption | apply List.Mem.tail))); (case a4 => omega); (case a5 => first | exact .cons _ _ .nil | exact .cons _ _ (.cons _ _ .nil)); (case a6 => omega); (case a7 => omega); (case a8 => assumption))); (intro h9 tk9 F9 N9); (try dsimp only)))) | (with_reducible ((k_here; (with_reducible show wpAny _ _ (call (Value.ref 234) _) _ _ _); (k_dflt (refine' ClaimK.use (due_k ?a1 ?a2 ?a3 ?a4 ?a5 ?a6 ?a7 ?a8 ?a9 ?a10 ?a11 ?a12 ?a13 ?a14 ?a15 ?a16 ?a17 ?a18 ?a19 ?a20 ?a21 ?a22 ?a23) ?kB ?kF ?kX ?kN ?kT ?kK ?kd ?ku ?_; (case kF => k_asm); (case kB => k_asm); (case kX => k_asm); (case kT => k_asm); (case kK => first | exact rfl | assumption); (case kd => ktr_room); (case ku => ktr_units); (case a1 => assumption); (case a2 => assumption); (case a3 => assumption); (case kN => (refine' sub_front ?n1 ?n2; (case n1 => k_asm); (case n2 => (dsimp only [LG, plL]; (iterate 12 refine cons_sub (by k_mem) ?_); (intro x hx); (repeat' (first | exact hx | apply List.Mem.tail)))))); (case a4 => assumption); (case a5 => assumption); (case a6 => assumption); (case a22 => assumption); (case a23 => assumption); (case a7 => omega); (case a8 => omega); (case a9 => omega); (case a10 => omega); (case a11 => omega); (case a12 => omega); (case a13 => omega); (case a14 => omega); (case a15 => omega); (case a16 => omega); (case a17 => omega); (case a18 => omega); (case a19 => omega); (case a20 => omega); (case a21 => omega))); (intro t9 ad9 vf9 vn9 nf9 nn9 S9 z2 z3 z4 z5 w1 w2 w3 w4 w5 w6 p9 q9 g9 h9 tk9 F9 N9); (dsimp only [LG, plL] at N9)))) | (with_reducible ((k_here; (with_reducible show wpAny _ _ (call (Value.ref 192) _) _ _ _); (k_dflt (refine' ClaimK.use (color_k ?a1 ?a2 ?a3 ?a4 ?a5 ?a6 ?a7 ?a8 ?a9) ?kB ?kF ?kX ?kN ?kT ?kK ?kd ?ku ?_; (case kF => k_asm); (case kB => k_asm); (case kX => k_asm); (case kT => k_asm); (case kK => first | exact rfl | assumption); (case kd => ktr_room); (case ku => ktr_units); (case a1 => assumption); (case a2 => assumption); (case a3 => assumption); (case a4 => assumption); (case kN => (refine' sub_front ?n1 ?n2; (case n1 => k_asm); (case n2 => (dsimp only [LG, plL]; (iterate 12 refine cons_sub (by k_mem) ?_); (intro x hx); (repeat' (first | exact hx | apply List.Mem.tail)))))); (case a5 => omega); (case a6 => omega); (case a7 => omega); (case a8 => omega); (case a9 => first | assumption | exact Come.blind _ | exact Come.none | exact Come.told _ _))); (intro t9 y1 y2 y3 y4 c9 B9 hs9 h9 tk9 F9 N9); (dsimp only [LG, plL] at N9)))) | (with_reducible ((k_here; (with_reducible show wpAny _ _ (call (Value.ref 213) _) _ _ _); (k_dflt (refine' ClaimK.use (take_k ?a1 ?a2 ?a3 ?a4 ?a5 ?a6) ?kB ?kF ?kX ?kN ?kT ?kK ?kd ?ku ?_; (case kN => exact Front.news (by k_asm) (by repeat' (first | exact Front.head | apply Front.tail))); (case kF => k_asm); (case kB => k_asm); (case kX => k_asm); (case kT => k_asm); (case kK => first | exact rfl | assumption); (case kd => ktr_room); (case ku => ktr_units); (case a1 => assumption); (case a2 => assumption); (case a3 => assumption); (case a4 => omega); (case a5 => omega); (case a6 => k_all))); (intro d9 t9 a9 b9 ta9 tb9 hd9 ha9 hb9 hb8 h9 tk9 F9 N9); (try dsimp only)))) | (with_reducible ((k_here; (with_reducible show wpAny _ _ (call (Value.ref 195) _) _ _ _); (k_dflt (refine' ClaimK.use (mk_k ?a1 ?a2 ?a3 ?a4 ?a5 ?a6 ?a7) ?kB ?kF ?kX ?kN ?kT ?kK ?kd ?ku ?_; (case kN => k_asm); (case kF => k_asm); (case kB => k_asm); (case kX => k_asm); (case kT => k_asm); (case kK => first | exact rfl | assumption); (case kd => ktr_room); (case ku => ktr_units); (case a1 => omega); (case a2 => omega); (case a3 => omega); (case a4 => omega); (case a5 => omega); (case a6 => omega); (case a7 => omega))); (intro pp9 pd9 b91 d91 b92 d92 KP9 K91 K92 y91 y92 y93 y94 o9 f91 f92 f93 f94 f95 h9 tk9 F9 N9); dsimp only [plL] at N9; (have o9c := o9); (try k_lt o9); (try dsimp only)))) | (with_reducible ((k_here; (with_reducible show wpAny _ _ (call (Value.ref 220) _) _ _ _); (first | ((k_dflt (refine' ClaimK.use (draw_k ?a1 ?a2 ?a3 ?a4 ?a5 ?a6 ?a7 ?a8) ?kB ?kF ?kX ?kN ?kT ?kK ?kd ?ku ?_; (case kN => exact Front.news (by k_asm) (by repeat' (first | exact Front.head | apply Front.tail))); (case kF => k_asm); (case kB => k_asm); (case kX => k_asm); (case kT => k_asm); (case kK => first | exact rfl | assumption); (case kd => ktr_room); (case ku => ktr_units); (case a1 => assumption); (case a2 => assumption); (case a3 => assumption); (case a6 => repeat' (first | exact Front.head | apply Front.tail)); (case a4 => exact Nat.zero_lt_succ _); (case a5 => exact Nat.le_of_ble_eq_true rfl); (case a7 => k_all); (case a8 => first | ((show IntsIn 1 31 _); (repeat (refine IntsIn.cons (by decide) (by decide) ?_)); exact IntsIn.nil) | ((show IntsIn 0 60 _); (repeat (refine IntsIn.cons (by decide) (by decide) ?_)); exact IntsIn.nil) | ((show IntsIn 0 100 _); (repeat (refine IntsIn.cons (by decide) (by decide) ?_)); exact IntsIn.nil)))); intro i9 u9 a9 b9 ta9 tb9 ii9 ij9 ha9 hb9 hb8 h9 tk9 F9 N9) | ((k_dflt (refine' ClaimK.use (drawB_k ?a1 ?a2 ?a3 ?a4 ?a5 ?a6 ?a7 ?a8) ?kB ?kF ?kX ?kN ?kT ?kK ?kd ?ku ?_; (case kN => exact Front.news (by k_asm) (by repeat' (first | exact Front.head | apply Front.tail))); (case kF => k_asm); (case kB => k_asm); (case kX => k_asm); (case kT => k_asm); (case kK => first | exact rfl | assumption); (case kd => ktr_room); (case ku => ktr_units); (case a1 => assumption); (case a2 => assumption); (case a3 => assumption); (case a6 => repeat' (first | exact Front.head | apply Front.tail)); (case a4 => exact Nat.zero_lt_succ _); (case a5 => exact Nat.le_of_ble_eq_true rfl); (case a7 => k_all); (case a8 => intro v hv; exact memB hv))); intro v9 a9 b9 ta9 tb9 mb9 ha9 hb9 hb8 h9 tk9 F9 N9)); (try dsimp only)))) | walk1) | (dsimp only; (first | (with_reducible ((k_here; (with_reducible show wpAny _ _ (call (Value.builtin _) [Value.ref _, _]) _ _ _); k_dflt (refine' append_K ?k1 ?k2 ?k3 ?_ ?z; (case k1 => k_asm); (case k2 => k_asm); (case k3 => k_upd); (case z => (simp only [List.size_toArray, PySem.sizeLine_eq]; omega)); k_whole); intro h' F' N'; (try simp only [List.push_toArray] at N')))) | (with_reducible ((k_here; (with_reducible show wpAny _ _ (call (Value.builtin _) [Value.ref _, Value.str _ _]) _ _ _); k_dflt (refine' index_col (c := .g) ?k1 ?k2 ?_; (case k1 => k_asm); (case k2 => k_mem))))) | (with_reducible ((k_here; (with_reducible show wpAny _ _ (call (Value.builtin _) [Value.ref _, Value.str _ _]) _ _ _); k_dflt (refine' index_col ?k1 ?k2 ?_; (case k1 => k_asm); (case k2 => k_mem))))) | (with_reducible ((k_here; (with_reducible show wpAny _ _ (compareOp CmpOp.NotEq (Value.str _ _) (Value.str _ _)) _ _ _); (refine ne_same ?_)))) | (with_reducible ((k_here; (with_reducible show wpAny _ _ (call (Value.ref 241) _) _ _ _); (k_dflt (refine' ClaimK.use (within_k ?a1 ?a2 ?a3 ?a4 ?a5 ?a6 ?a7 ?a8) ?kB ?kF ?kX ?kN ?kT ?kK ?kd ?ku ?_; (case kN => k_asm); (case kF => k_asm); (case kB => k_asm); (case kX => k_asm); (case kT => k_asm); (case kK => first | exact rfl | assumption); (case kd => ktr_room); (case ku => ktr_units); (case a1 => k_mem); (case a2 => k_mem); (case a3 => (refine Trips.mono (by assumption) ?_; (intro q hq); repeat' (first | assumption | apply List.Mem.tail))); (case a4 => omega); (case a5 => first | exact .cons _ _ .nil | exact .cons _ _ (.cons _ _ .nil)); (case a6 => omega); (case a7 => omega); (case a8 => assumption))); (intro h9 tk9 F9 N9); (try dsimp only)))) | (with_reducible ((k_here; (with_reducible show wpAny _ _ (call (Value.ref 234) _) _ _ _); (k_dflt (refine' ClaimK.use (due_k ?a1 ?a2 ?a3 ?a4 ?a5 ?a6 ?a7 ?a8 ?a9 ?a10 ?a11 ?a12 ?a13 ?a14 ?a15 ?a16 ?a17 ?a18 ?a19 ?a20 ?a21 ?a22 ?a23) ?kB ?kF ?kX ?kN ?kT ?kK ?kd ?ku ?_; (case kF => k_asm); (case kB => k_asm); (case kX => k_asm); (case kT => k_asm); (case kK => first | exact rfl | assumption); (case kd => ktr_room); (case ku => ktr_units); (case a1 => assumption); (case a2 => assumption); (case a3 => assumption); (case kN => (refine' sub_front ?n1 ?n2; (case n1 => k_asm); (case n2 => (dsimp only [LG, plL]; (iterate 12 refine cons_sub (by k_mem) ?_); (intro x hx); (repeat' (first | exact hx | apply List.Mem.tail)))))); (case a4 => assumption); (case a5 => assumption); (case a6 => assumption); (case a22 => assumption); (case a23 => assumption); (case a7 => omega); (case a8 => omega); (case a9 => omega); (case a10 => omega); (case a11 => omega); (case a12 => omega); (case a13 => omega); (case a14 => omega); (case a15 => omega); (case a16 => omega); (case a17 => omega); (case a18 => omega); (case a19 => omega); (case a20 => omega); (case a21 => omega))); (intro t9 ad9 vf9 vn9 nf9 nn9 S9 z2 z3 z4 z5 w1 w2 w3 w4 w5 w6 p9 q9 g9 h9 tk9 F9 N9); (dsimp only [LG, plL] at N9)))) | (with_reducible ((k_here; (with_reducible show wpAny _ _ (call (Value.ref 192) _) _ _ _); (k_dflt (refine' ClaimK.use (color_k ?a1 ?a2 ?a3 ?a4 ?a5 ?a6 ?a7 ?a8 ?a9) ?kB ?kF ?kX ?kN ?kT ?kK ?kd ?ku ?_; (case kF => k_asm); (case kB => k_asm); (case kX => k_asm); (case kT => k_asm); (case kK => first | exact rfl | assumption); (case kd => ktr_room); (case ku => ktr_units); (case a1 => assumption); (case a2 => assumption); (case a3 => assumption); (case a4 => assumption); (case kN => (refine' sub_front ?n1 ?n2; (case n1 => k_asm); (case n2 => (dsimp only [LG, plL]; (iterate 12 refine cons_sub (by k_mem) ?_); (intro x hx); (repeat' (first | exact hx | apply List.Mem.tail)))))); (case a5 => omega); (case a6 => omega); (case a7 => omega); (case a8 => omega); (case a9 => first | assumption | exact Come.blind _ | exact Come.none | exact Come.told _ _))); (intro t9 y1 y2 y3 y4 c9 B9 hs9 h9 tk9 F9 N9); (dsimp only [LG, plL] at N9)))) | (with_reducible ((k_here; (with_reducible show wpAny _ _ (call (Value.ref 213) _) _ _ _); (k_dflt (refine' ClaimK.use (take_k ?a1 ?a2 ?a3 ?a4 ?a5 ?a6) ?kB ?kF ?kX ?kN ?kT ?kK ?kd ?ku ?_; (case kN => exact Front.news (by k_asm) (by repeat' (first | exact Front.head | apply Front.tail))); (case kF => k_asm); (case kB => k_asm); (case kX => k_asm); (case kT => k_asm); (case kK => first | exact rfl | assumption); (case kd => ktr_room); (case ku => ktr_units); (case a1 => assumption); (case a2 => assumption); (case a3 => assumption); (case a4 => omega); (case a5 => omega); (case a6 => k_all))); (intro d9 t9 a9 b9 ta9 tb9 hd9 ha9 hb9 hb8 h9 tk9 F9 N9); (try dsimp only)))) | (with_reducible ((k_here; (with_reducible show wpAny _ _ (call (Value.ref 195) _) _ _ _); (k_dflt (refine' ClaimK.use (mk_k ?a1 ?a2 ?a3 ?a4 ?a5 ?a6 ?a7) ?kB ?kF ?kX ?kN ?kT ?kK ?kd ?ku ?_; (case kN => k_asm); (case kF => k_asm); (case kB => k_asm); (case kX => k_asm); (case kT => k_asm); (case kK => first | exact rfl | assumption); (case kd => ktr_room); (case ku => ktr_units); (case a1 => omega); (case a2 => omega); (case a3 => omega); (case a4 => omega); (case a5 => omega); (case a6 => omega); (case a7 => omega))); (intro pp9 pd9 b91 d91 b92 d92 KP9 K91 K92 y91 y92 y93 y94 o9 f91 f92 f93 f94 f95 h9 tk9 F9 N9); dsimp only [plL] at N9; (have o9c := o9); (try k_lt o9); (try dsimp only)))) | (with_reducible ((k_here; (with_reducible show wpAny _ _ (call (Value.ref 220) _) _ _ _); (first | ((k_dflt (refine' ClaimK.use (draw_k ?a1 ?a2 ?a3 ?a4 ?a5 ?a6 ?a7 ?a8) ?kB ?kF ?kX ?kN ?kT ?kK ?kd ?ku ?_; (case kN => exact Front.news (by k_asm) (by repeat' (first | exact Front.head | apply Front.tail))); (case kF => k_asm); (case kB => k_asm); (case kX => k_asm); (case kT => k_asm); (case kK => first | exact rfl | assumption); (case kd => ktr_room); (case ku => ktr_units); (case a1 => assumption); (case a2 => assumption); (case a3 => assumption); (case a6 => repeat' (first | exact Front.head | apply Front.tail)); (case a4 => exact Nat.zero_lt_succ _); (case a5 => exact Nat.le_of_ble_eq_true rfl); (case a7 => k_all); (case a8 => first | ((show IntsIn 1 31 _); (repeat (refine IntsIn.cons (by decide) (by decide) ?_)); exact IntsIn.nil) | ((show IntsIn 0 60 _); (repeat (refine IntsIn.cons (by decide) (by decide) ?_)); exact IntsIn.nil) | ((show IntsIn 0 100 _); (repeat (refine IntsIn.cons (by decide) (by decide) ?_)); exact IntsIn.nil)))); intro i9 u9 a9 b9 ta9 tb9 ii9 ij9 ha9 hb9 hb8 h9 tk9 F9 N9) | ((k_dflt (refine' ClaimK.use (drawB_k ?a1 ?a2 ?a3 ?a4 ?a5 ?a6 ?a7 ?a8) ?kB ?kF ?kX ?kN ?kT ?kK ?kd ?ku ?_; (case kN => exact Front.news (by k_asm) (by repeat' (first | exact Front.head | apply Front.tail))); (case kF => k_asm); (case kB => k_asm); (case kX => k_asm); (case kT => k_asm); (case kK => first | exact rfl | assumption); (case kd => ktr_room); (case ku => ktr_units); (case a1 => assumption); (case a2 => assumption); (case a3 => assumption); (case a6 => repeat' (first | exact Front.head | apply Front.tail)); (case a4 => exact Nat.zero_lt_succ _); (case a5 => exact Nat.le_of_ble_eq_true rfl); (case a7 => k_all); (case a8 => intro v hv; exact memB hv))); intro v9 a9 b9 ta9 tb9 mb9 ha9 hb9 hb8 h9 tk9 F9 N9)); (try dsimp only)))) | walk1))))
  rename IsRange _ _ _ _ _ _ _ _ => lR
  rename Fr _ _ _ _ => lF
  rename News _ _ _ _ => lN
  obtain ⟨A, nx, hA, hsrc, hD, hN, hJ⟩ := to_loop lF lN (by assumption) rfl rfl rfl rfl rfl rfl rfl rfl rfl rfl rfl (by assumption) (by assumption) (by intro q hq; repeat' (first | exact hq | apply List.Mem.tail)) (by intro q hq; repeat' (first | exact hq | apply List.Mem.tail)) (by omega) (by omega) (by omega) (by omega) (by omega) (by omega) (by omega) (by omega) (by omega) (by omega) (by omega) (by omega) (by omega) (by omega) (by omega) (by omega) (by omega) (by omega)
  subst hsrc
  refine range_loop4 hJ rfl lR (by omega) lF hN ?_ ?_
  · intro i t m₁ nx' h tk own hi hoff hJ1 F₁ N₁
    refine LJ.use hJ1 ?_
    intro a1 b1 ta1 tb1 tn1 vf vn vr nf nn nr B near far rw now x1 x2 x3 x4 X e9 hX hpf hpn htr hPI hres ha1 hb1 hb12 hn1 hn2 hl1 hl2 hl3 j1 j2 j3 j4 j5 j6 j7 j8 j9 ja jb
    clear hJ1
    subst e9
    have F₂ := fr_eq F₁ (eq_if (eq_at j1 (eq_at j2 (eq_at j7 (eq_at j8 (eq_at j9 (eq_at ja (eq_at jb (eq_at j3 (eq_at j4 (eq_at j5 (eq_at j6 fun _ => rfl))))))))))))
    have hXo := Off.own hX hoff
    obtain ⟨X0, hX0⟩ : ∃ X0, X0 = X ++ own := ⟨_, rfl⟩
    have hYX : ∀ q ∈ X, q ∈ X0 := fun q hq => hX0 ▸ List.mem_append.mpr (.inl hq)
    dsimp only [LG, plL] at N₁
    simp only [List.cons_append] at N₁
    rw [← hX0] at N₁ hXo
    obtain ⟨hk1, hk2⟩ := hPI.ok (by omega) (by omega) (by omega) (by omega) (by omega) (by omega) (by omega) (by omega) (by omega)
    have hvl := htr.len
    have hA' := hA
    have hXo' := hXo
    obtain ⟨o1, o2, o3, o4, o5, o6, o7, o8, o9, oa, ob⟩ := hA'
    obtain ⟨w1, w2, w3, w4, w5, w6⟩ := hXo'
    clear F₁ lF hN hJ lR
    repeat (rename (_ ∧ _) => lz; clear lz)
    repeat' (first | (k_unfold; (try dsimp only)) | ((fail_if_success (with_reducible show wpAny _ _ (eval (Expr.IfExp _ _ _ _) _) _ _ _)); first | (first | (with_reducible ((k_here; (with_reducible show wpAny _ _ (call (Value.builtin _) [Value.ref _, _]) _ _ _); k_dflt (refine' append_K ?k1 ?k2 ?k3 ?_ ?z; (case k1 => k_asm); (case k2 => k_asm); (case k3 => k_upd); (case z => (simp only [List.size_toArray, PySem.sizeLine_eq]; omega)); k_whole); intro h' F' N'; (try simp only [List.push_toArray] at N')))) | (with_reducible ((k_here; (with_reducible show wpAny _ _ (call (Value.builtin _) [Value.ref _, Value.str _ _]) _ _ _); k_dflt (refine' index_col (c := .g) ?k1 ?k2 ?_; (case k1 => k_asm); (case k2 => k_mem))))) | (with_reducible ((k_here; (with_reducible show wpAny _ _ (call (Value.builtin _) [Value.ref _, Value.str _ _]) _ _ _); k_dflt (refine' index_col ?k1 ?k2 ?_; (case k1 => k_asm); (case k2 => k_mem))))) | (with_reducible ((k_here; (with_reducible show wpAny _ _ (compareOp CmpOp.NotEq (Value.str _ _) (Value.str _ _)) _ _ _); (refine ne_same ?_)))) | (with_reducible ((k_here; (with_reducible show wpAny _ _ (call (Value.ref 241) _) _ _ _); (k_dflt (refine' ClaimK.use (within_k ?a1 ?a2 ?a3 ?a4 ?a5 ?a6 ?a7 ?a8) ?kB ?kF ?kX ?kN ?kT ?kK ?kd ?ku ?_; (case kN => k_asm); (case kF => k_asm); (case kB => k_asm); (case kX => k_asm); (case kT => k_asm); (case kK => first | exact rfl | assumption); (case kd => ktr_room); (case ku => ktr_units); (case a1 => k_mem); (case a2 => k_mem); (case a3 => (refine Trips.mono (by assumption) ?_; (intro q hq); repeat' (first | assumption | apply List.Mem.tail))); (case a4 => omega); (case a5 => first | exact .cons _ _ .nil | exact .cons _ _ (.cons _ _ .nil)); (case a6 => omega); (case a7 => omega); (case a8 => assumption))); (intro h9 tk9 F9 N9); (try dsimp only)))) | (with_reducible ((k_here; (with_reducible show wpAny _ _ (call (Value.ref 234) _) _ _ _); (k_dflt (refine' ClaimK.use (due_k ?a1 ?a2 ?a3 ?a4 ?a5 ?a6 ?a7 ?a8 ?a9 ?a10 ?a11 ?a12 ?a13 ?a14 ?a15 ?a16 ?a17 ?a18 ?a19 ?a20 ?a21 ?a22 ?a23) ?kB ?kF ?kX ?kN ?kT ?kK ?kd ?ku ?_; (case kF => k_asm); (case kB => k_asm); (case kX => k_asm); (case kT => k_asm); (case kK => first | exact rfl | assumption); (case kd => ktr_room); (case ku => ktr_units); (case a1 => assumption); (case a2 => assumption); (case a3 => assumption); (case kN => (refine' sub_front ?n1 ?n2; (case n1 => k_asm); (case n2 => (dsimp only [LG, plL]; (iterate 12 refine cons_sub (by k_mem) ?_); (intro x hx); (repeat' (first | exact hx | apply List.Mem.tail)))))); (case a4 => assumption); (case a5 => assumption); (case a6 => assumption); (case a22 => assumption); (case a23 => assumption); (case a7 => omega); (case a8 => omega); (case a9 => omega); (case a10 => omega); (case a11 => omega); (case a12 => omega); (case a13 => omega); (case a14 => omega); (case a15 => omega); (case a16 => omega); (case a17 => omega); (case a18 => omega); (case a19 => omega); (case a20 => omega); (case a21 => omega))); (intro t9 ad9 vf9 vn9 nf9 nn9 S9 z2 z3 z4 z5 w1 w2 w3 w4 w5 w6 p9 q9 g9 h9 tk9 F9 N9); (dsimp only [LG, plL] at N9)))) | (with_reducible ((k_here; (with_reducible show wpAny _ _ (call (Value.ref 192) _) _ _ _); (k_dflt (refine' ClaimK.use (color_k ?a1 ?a2 ?a3 ?a4 ?a5 ?a6 ?a7 ?a8 ?a9) ?kB ?kF ?kX ?kN ?kT ?kK ?kd ?ku ?_; (case kF => k_asm); (case kB => k_asm); (case kX => k_asm); (case kT => k_asm); (case kK => first | exact rfl | assumption); (case kd => ktr_room); (case ku => ktr_units); (case a1 => assumption); (case a2 => assumption); (case a3 => assumption); (case a4 => assumption); (case kN => (refine' sub_front ?n1 ?n2; (case n1 => k_asm); (case n2 => (dsimp only [LG, plL]; (iterate 12 refine cons_sub (by k_mem) ?_); (intro x hx); (repeat' (first | exact hx | apply List.Mem.tail)))))); (case a5 => omega); (case a6 => omega); (case a7 => omega); (case a8 => omega); (case a9 => first | assumption | exact Come.blind _ | exact Come.none | exact Come.told _ _))); (intro t9 y1 y2 y3 y4 c9 B9 hs9 h9 tk9 F9 N9); (dsimp only [LG, plL] at N9)))) | (with_reducible ((k_here; (with_reducible show wpAny _ _ (call (Value.ref 213) _) _ _ _); (k_dflt (refine' ClaimK.use (take_k ?a1 ?a2 ?a3 ?a4 ?a5 ?a6) ?kB ?kF ?kX ?kN ?kT ?kK ?kd ?ku ?_; (case kN => exact Front.news (by k_asm) (by repeat' (first | exact Front.head | apply Front.tail))); (case kF => k_asm); (case kB => k_asm); (case kX => k_asm); (case kT => k_asm); (case kK => first | exact rfl | assumption); (case kd => ktr_room); (case ku => ktr_units); (case a1 => assumption); (case a2 => assumption); (case a3 => assumption); (case a4 => omega); (case a5 => omega); (case a6 => k_all))); (intro d9 t9 a9 b9 ta9 tb9 hd9 ha9 hb9 hb8 h9 tk9 F9 N9); (try dsimp only)))) | (with_reducible ((k_here; (with_reducible show wpAny _ _ (call (Value.ref 195) _) _ _ _); (k_dflt (refine' ClaimK.use (mk_k ?a1 ?a2 ?a3 ?a4 ?a5 ?a6 ?a7) ?kB ?kF ?kX ?kN ?kT ?kK ?kd ?ku ?_; (case kN => k_asm); (case kF => k_asm); (case kB => k_asm); (case kX => k_asm); (case kT => k_asm); (case kK => first | exact rfl | assumption); (case kd => ktr_room); (case ku => ktr_units); (case a1 => omega); (case a2 => omega); (case a3 => omega); (case a4 => omega); (case a5 => omega); (case a6 => omega); (case a7 => omega))); (intro pp9 pd9 b91 d91 b92 d92 KP9 K91 K92 y91 y92 y93 y94 o9 f91 f92 f93 f94 f95 h9 tk9 F9 N9); dsimp only [plL] at N9; (have o9c := o9); (try k_lt o9); (try dsimp only)))) | (with_reducible ((k_here; (with_reducible show wpAny _ _ (call (Value.ref 220) _) _ _ _); (first | ((k_dflt (refine' ClaimK.use (draw_k ?a1 ?a2 ?a3 ?a4 ?a5 ?a6 ?a7 ?a8) ?kB ?kF ?kX ?kN ?kT ?kK ?kd ?ku ?_; (case kN => exact Front.news (by k_asm) (by repeat' (first | exact Front.head | apply Front.tail))); (case kF => k_asm); (case kB => k_asm); (case kX => k_asm); (case kT => k_asm); (case kK => first | exact rfl | assumption); (case kd => ktr_room); (case ku => ktr_units); (case a1 => assumption); (case a2 => assumption); (case a3 => assumption); (case a6 => repeat' (first | exact Front.head | apply Front.tail)); (case a4 => exact Nat.zero_lt_succ _); (case a5 => exact Nat.le_of_ble_eq_true rfl); (case a7 => k_all); (case a8 => first | ((show IntsIn 1 31 _); (repeat (refine IntsIn.cons (by decide) (by decide) ?_)); exact IntsIn.nil) | ((show IntsIn 0 60 _); (repeat (refine IntsIn.cons (by decide) (by decide) ?_)); exact IntsIn.nil) | ((show IntsIn 0 100 _); (repeat (refine IntsIn.cons (by decide) (by decide) ?_)); exact IntsIn.nil)))); intro i9 u9 a9 b9 ta9 tb9 ii9 ij9 ha9 hb9 hb8 h9 tk9 F9 N9) | ((k_dflt (refine' ClaimK.use (drawB_k ?a1 ?a2 ?a3 ?a4 ?a5 ?a6 ?a7 ?a8) ?kB ?kF ?kX ?kN ?kT ?kK ?kd ?ku ?_; (case kN => exact Front.news (by k_asm) (by repeat' (first | exact Front.head | apply Front.tail))); (case kF => k_asm); (case kB => k_asm); (case kX => k_asm); (case kT => k_asm); (case kK => first | exact rfl | assumption); (case kd => ktr_room); (case ku => ktr_units); (case a1 => assumption); (case a2 => assumption); (case a3 => assumption); (case a6 => repeat' (first | exact Front.head | apply Front.tail)); (case a4 => exact Nat.zero_lt_succ _); (case a5 => exact Nat.le_of_ble_eq_true rfl); (case a7 => k_all); (case a8 => intro v hv; exact memB hv))); intro v9 a9 b9 ta9 tb9 mb9 ha9 hb9 hb8 h9 tk9 F9 N9)); (try dsimp only)))) | walk1) | (dsimp only; (first | (with_reducible ((k_here; (with_reducible show wpAny _ _ (call (Value.builtin _) [Value.ref _, _]) _ _ _); k_dflt (refine' append_K ?k1 ?k2 ?k3 ?_ ?z; (case k1 => k_asm); (case k2 => k_asm); (case k3 => k_upd); (case z => (simp only [List.size_toArray, PySem.sizeLine_eq]; omega)); k_whole); intro h' F' N'; (try simp only [List.push_toArray] at N')))) | (with_reducible ((k_here; (with_reducible show wpAny _ _ (call (Value.builtin _) [Value.ref _, Value.str _ _]) _ _ _); k_dflt (refine' index_col (c := .g) ?k1 ?k2 ?_; (case k1 => k_asm); (case k2 => k_mem))))) | (with_reducible ((k_here; (with_reducible show wpAny _ _ (call (Value.builtin _) [Value.ref _, Value.str _ _]) _ _ _); k_dflt (refine' index_col ?k1 ?k2 ?_; (case k1 => k_asm); (case k2 => k_mem))))) | (with_reducible ((k_here; (with_reducible show wpAny _ _ (compareOp CmpOp.NotEq (Value.str _ _) (Value.str _ _)) _ _ _); (refine ne_same ?_)))) | (with_reducible ((k_here; (with_reducible show wpAny _ _ (call (Value.ref 241) _) _ _ _); (k_dflt (refine' ClaimK.use (within_k ?a1 ?a2 ?a3 ?a4 ?a5 ?a6 ?a7 ?a8) ?kB ?kF ?kX ?kN ?kT ?kK ?kd ?ku ?_; (case kN => k_asm); (case kF => k_asm); (case kB => k_asm); (case kX => k_asm); (case kT => k_asm); (case kK => first | exact rfl | assumption); (case kd => ktr_room); (case ku => ktr_units); (case a1 => k_mem); (case a2 => k_mem); (case a3 => (refine Trips.mono (by assumption) ?_; (intro q hq); repeat' (first | assumption | apply List.Mem.tail))); (case a4 => omega); (case a5 => first | exact .cons _ _ .nil | exact .cons _ _ (.cons _ _ .nil)); (case a6 => omega); (case a7 => omega); (case a8 => assumption))); (intro h9 tk9 F9 N9); (try dsimp only)))) | (with_reducible ((k_here; (with_reducible show wpAny _ _ (call (Value.ref 234) _) _ _ _); (k_dflt (refine' ClaimK.use (due_k ?a1 ?a2 ?a3 ?a4 ?a5 ?a6 ?a7 ?a8 ?a9 ?a10 ?a11 ?a12 ?a13 ?a14 ?a15 ?a16 ?a17 ?a18 ?a19 ?a20 ?a21 ?a22 ?a23) ?kB ?kF ?kX ?kN ?kT ?kK ?kd ?ku ?_; (case kF => k_asm); (case kB => k_asm); (case kX => k_asm); (case kT => k_asm); (case kK => first | exact rfl | assumption); (case kd => ktr_room); (case ku => ktr_units); (case a1 => assumption); (case a2 => assumption); (case a3 => assumption); (case kN => (refine' sub_front ?n1 ?n2; (case n1 => k_asm); (case n2 => (dsimp only [LG, plL]; (iterate 12 refine cons_sub (by k_mem) ?_); (intro x hx); (repeat' (first | exact hx | apply List.Mem.tail)))))); (case a4 => assumption); (case a5 => assumption); (case a6 => assumption); (case a22 => assumption); (case a23 => assumption); (case a7 => omega); (case a8 => omega); (case a9 => omega); (case a10 => omega); (case a11 => omega); (case a12 => omega); (case a13 => omega); (case a14 => omega); (case a15 => omega); (case a16 => omega); (case a17 => omega); (case a18 => omega); (case a19 => omega); (case a20 => omega); (case a21 => omega))); (intro t9 ad9 vf9 vn9 nf9 nn9 S9 z2 z3 z4 z5 w1 w2 w3 w4 w5 w6 p9 q9 g9 h9 tk9 F9 N9); (dsimp only [LG, plL] at N9)))) | (with_reducible ((k_here; (with_reducible show wpAny _ _ (call (Value.ref 192) _) _ _ _); (k_dflt (refine' ClaimK.use (color_k ?a1 ?a2 ?a3 ?a4 ?a5 ?a6 ?a7 ?a8 ?a9) ?kB ?kF ?kX ?kN ?kT ?kK ?kd ?ku ?_; (case kF => k_asm); (case kB => k_asm); (case kX => k_asm); (case kT => k_asm); (case kK => first | exact rfl | assumption); (case kd => ktr_room); (case ku => ktr_units); (case a1 => assumption); (case a2 => assumption); (case a3 => assumption); (case a4 => assumption); (case kN => (refine' sub_front ?n1 ?n2; (case n1 => k_asm); (case n2 => (dsimp only [LG, plL]; (iterate 12 refine cons_sub (by k_mem) ?_); (intro x hx); (repeat' (first | exact hx | apply List.Mem.tail)))))); (case a5 => omega); (case a6 => omega); (case a7 => omega); (case a8 => omega); (case a9 => first | assumption | exact Come.blind _ | exact Come.none | exact Come.told _ _))); (intro t9 y1 y2 y3 y4 c9 B9 hs9 h9 tk9 F9 N9); (dsimp only [LG, plL] at N9)))) | (with_reducible ((k_here; (with_reducible show wpAny _ _ (call (Value.ref 213) _) _ _ _); (k_dflt (refine' ClaimK.use (take_k ?a1 ?a2 ?a3 ?a4 ?a5 ?a6) ?kB ?kF ?kX ?kN ?kT ?kK ?kd ?ku ?_; (case kN => exact Front.news (by k_asm) (by repeat' (first | exact Front.head | apply Front.tail))); (case kF => k_asm); (case kB => k_asm); (case kX => k_asm); (case kT => k_asm); (case kK => first | exact rfl | assumption); (case kd => ktr_room); (case ku => ktr_units); (case a1 => assumption); (case a2 => assumption); (case a3 => assumption); (case a4 => omega); (case a5 => omega); (case a6 => k_all))); (intro d9 t9 a9 b9 ta9 tb9 hd9 ha9 hb9 hb8 h9 tk9 F9 N9); (try dsimp only)))) | (with_reducible ((k_here; (with_reducible show wpAny _ _ (call (Value.ref 195) _) _ _ _); (k_dflt (refine' ClaimK.use (mk_k ?a1 ?a2 ?a3 ?a4 ?a5 ?a6 ?a7) ?kB ?kF ?kX ?kN ?kT ?kK ?kd ?ku ?_; (case kN => k_asm); (case kF => k_asm); (case kB => k_asm); (case kX => k_asm); (case kT => k_asm); (case kK => first | exact rfl | assumption); (case kd => ktr_room); (case ku => ktr_units); (case a1 => omega); (case a2 => omega); (case a3 => omega); (case a4 => omega); (case a5 => omega); (case a6 => omega); (case a7 => omega))); (intro pp9 pd9 b91 d91 b92 d92 KP9 K91 K92 y91 y92 y93 y94 o9 f91 f92 f93 f94 f95 h9 tk9 F9 N9); dsimp only [plL] at N9; (have o9c := o9); (try k_lt o9); (try dsimp only)))) | (with_reducible ((k_here; (with_reducible show wpAny _ _ (call (Value.ref 220) _) _ _ _); (first | ((k_dflt (refine' ClaimK.use (draw_k ?a1 ?a2 ?a3 ?a4 ?a5 ?a6 ?a7 ?a8) ?kB ?kF ?kX ?kN ?kT ?kK ?kd ?ku ?_; (case kN => exact Front.news (by k_asm) (by repeat' (first | exact Front.head | apply Front.tail))); (case kF => k_asm); (case kB => k_asm); (case kX => k_asm); (case kT => k_asm); (case kK => first | exact rfl | assumption); (case kd => ktr_room); (case ku => ktr_units); (case a1 => assumption); (case a2 => assumption); (case a3 => assumption); (case a6 => repeat' (first | exact Front.head | apply Front.tail)); (case a4 => exact Nat.zero_lt_succ _); (case a5 => exact Nat.le_of_ble_eq_true rfl); (case a7 => k_all); (case a8 => first | ((show IntsIn 1 31 _); (repeat (refine IntsIn.cons (by decide) (by decide) ?_)); exact IntsIn.nil) | ((show IntsIn 0 60 _); (repeat (refine IntsIn.cons (by decide) (by decide) ?_)); exact IntsIn.nil) | ((show IntsIn 0 100 _); (repeat (refine IntsIn.cons (by decide) (by decide) ?_)); exact IntsIn.nil)))); intro i9 u9 a9 b9 ta9 tb9 ii9 ij9 ha9 hb9 hb8 h9 tk9 F9 N9) | ((k_dflt (refine' ClaimK.use (drawB_k ?a1 ?a2 ?a3 ?a4 ?a5 ?a6 ?a7 ?a8) ?kB ?kF ?kX ?kN ?kT ?kK ?kd ?ku ?_; (case kN => exact Front.news (by k_asm) (by repeat' (first | exact Front.head | apply Front.tail))); (case kF => k_asm); (case kB => k_asm); (case kX => k_asm); (case kT => k_asm); (case kK => first | exact rfl | assumption); (case kd => ktr_room); (case ku => ktr_units); (case a1 => assumption); (case a2 => assumption); (case a3 => assumption); (case a6 => repeat' (first | exact Front.head | apply Front.tail)); (case a4 => exact Nat.zero_lt_succ _); (case a5 => exact Nat.le_of_ble_eq_true rfl); (case a7 => k_all); (case a8 => intro v hv; exact memB hv))); intro v9 a9 b9 ta9 tb9 mb9 ha9 hb9 hb8 h9 tk9 F9 N9)); (try dsimp only)))) | walk1))))
    rename (_ = Value.none ∨ _) => hv
    refine come_cut (aw := aw) hv ?_ ?_
    · rcases hv with hv | ⟨c, u, hv⟩ <;> subst hv <;> cases aw
      all_goals repeat' (first | (k_unfold; (try dsimp only)) | (k_end; kc_close) | (first | (with_reducible ((k_here; (with_reducible show wpAny _ _ (call (Value.builtin _) [Value.ref _, _]) _ _ _); k_dflt (refine' append_K ?k1 ?k2 ?k3 ?_ ?z; (case k1 => k_asm); (case k2 => k_asm); (case k3 => k_upd); (case z => (simp only [List.size_toArray, PySem.sizeLine_eq]; omega)); k_whole); intro h' F' N'; (try simp only [List.push_toArray] at N')))) | (with_reducible ((k_here; (with_reducible show wpAny _ _ (call (Value.builtin _) [Value.ref _, Value.str _ _]) _ _ _); k_dflt (refine' index_col (c := .g) ?k1 ?k2 ?_; (case k1 => k_asm); (case k2 => k_mem))))) | (with_reducible ((k_here; (with_reducible show wpAny _ _ (call (Value.builtin _) [Value.ref _, Value.str _ _]) _ _ _); k_dflt (refine' index_col ?k1 ?k2 ?_; (case k1 => k_asm); (case k2 => k_mem))))) | (with_reducible ((k_here; (with_reducible show wpAny _ _ (compareOp CmpOp.NotEq (Value.str _ _) (Value.str _ _)) _ _ _); (refine ne_same ?_)))) | (with_reducible ((k_here; (with_reducible show wpAny _ _ (call (Value.ref 241) _) _ _ _); (k_dflt (refine' ClaimK.use (within_k ?a1 ?a2 ?a3 ?a4 ?a5 ?a6 ?a7 ?a8) ?kB ?kF ?kX ?kN ?kT ?kK ?kd ?ku ?_; (case kN => k_asm); (case kF => k_asm); (case kB => k_asm); (case kX => k_asm); (case kT => k_asm); (case kK => first | exact rfl | assumption); (case kd => ktr_room); (case ku => ktr_units); (case a1 => k_mem); (case a2 => k_mem); (case a3 => (refine Trips.mono (by assumption) ?_; (intro q hq); repeat' (first | assumption | apply List.Mem.tail))); (case a4 => omega); (case a5 => first | exact .cons _ _ .nil | exact .cons _ _ (.cons _ _ .nil)); (case a6 => omega); (case a7 => omega); (case a8 => assumption))); (intro h9 tk9 F9 N9); (try dsimp only)))) | (with_reducible ((k_here; (with_reducible show wpAny _ _ (call (Value.ref 234) _) _ _ _); (k_dflt (refine' ClaimK.use (due_k ?a1 ?a2 ?a3 ?a4 ?a5 ?a6 ?a7 ?a8 ?a9 ?a10 ?a11 ?a12 ?a13 ?a14 ?a15 ?a16 ?a17 ?a18 ?a19 ?a20 ?a21 ?a22 ?a23) ?kB ?kF ?kX ?kN ?kT ?kK ?kd ?ku ?_; (case kF => k_asm); (case kB => k_asm); (case kX => k_asm); (case kT => k_asm); (case kK => first | exact rfl | assumption); (case kd => ktr_room); (case ku => ktr_units); (case a1 => assumption); (case a2 => assumption); (case a3 => assumption); (case kN => (refine' sub_front ?n1 ?n2; (case n1 => k_asm); (case n2 => (dsimp only [LG, plL]; (iterate 12 refine cons_sub (by k_mem) ?_); (intro x hx); (repeat' (first | exact hx | apply List.Mem.tail)))))); (case a4 => assumption); (case a5 => assumption); (case a6 => assumption); (case a22 => assumption); (case a23 => assumption); (case a7 => omega); (case a8 => omega); (case a9 => omega); (case a10 => omega); (case a11 => omega); (case a12 => omega); (case a13 => omega); (case a14 => omega); (case a15 => omega); (case a16 => omega); (case a17 => omega); (case a18 => omega); (case a19 => omega); (case a20 => omega); (case a21 => omega))); (intro t9 ad9 vf9 vn9 nf9 nn9 S9 z2 z3 z4 z5 w1 w2 w3 w4 w5 w6 p9 q9 g9 h9 tk9 F9 N9); (dsimp only [LG, plL] at N9)))) | (with_reducible ((k_here; (with_reducible show wpAny _ _ (call (Value.ref 192) _) _ _ _); (k_dflt (refine' ClaimK.use (color_k ?a1 ?a2 ?a3 ?a4 ?a5 ?a6 ?a7 ?a8 ?a9) ?kB ?kF ?kX ?kN ?kT ?kK ?kd ?ku ?_; (case kF => k_asm); (case kB => k_asm); (case kX => k_asm); (case kT => k_asm); (case kK => first | exact rfl | assumption); (case kd => ktr_room); (case ku => ktr_units); (case a1 => assumption); (case a2 => assumption); (case a3 => assumption); (case a4 => assumption); (case kN => (refine' sub_front ?n1 ?n2; (case n1 => k_asm); (case n2 => (dsimp only [LG, plL]; (iterate 12 refine cons_sub (by k_mem) ?_); (intro x hx); (repeat' (first | exact hx | apply List.Mem.tail)))))); (case a5 => omega); (case a6 => omega); (case a7 => omega); (case a8 => omega); (case a9 => first | assumption | exact Come.blind _ | exact Come.none | exact Come.told _ _))); (intro t9 y1 y2 y3 y4 c9 B9 hs9 h9 tk9 F9 N9); (dsimp only [LG, plL] at N9)))) | (with_reducible ((k_here; (with_reducible show wpAny _ _ (call (Value.ref 213) _) _ _ _); (k_dflt (refine' ClaimK.use (take_k ?a1 ?a2 ?a3 ?a4 ?a5 ?a6) ?kB ?kF ?kX ?kN ?kT ?kK ?kd ?ku ?_; (case kN => exact Front.news (by k_asm) (by repeat' (first | exact Front.head | apply Front.tail))); (case kF => k_asm); (case kB => k_asm); (case kX => k_asm); (case kT => k_asm); (case kK => first | exact rfl | assumption); (case kd => ktr_room); (case ku => ktr_units); (case a1 => assumption); (case a2 => assumption); (case a3 => assumption); (case a4 => omega); (case a5 => omega); (case a6 => k_all))); (intro d9 t9 a9 b9 ta9 tb9 hd9 ha9 hb9 hb8 h9 tk9 F9 N9); (try dsimp only)))) | (with_reducible ((k_here; (with_reducible show wpAny _ _ (call (Value.ref 195) _) _ _ _); (k_dflt (refine' ClaimK.use (mk_k ?a1 ?a2 ?a3 ?a4 ?a5 ?a6 ?a7) ?kB ?kF ?kX ?kN ?kT ?kK ?kd ?ku ?_; (case kN => k_asm); (case kF => k_asm); (case kB => k_asm); (case kX => k_asm); (case kT => k_asm); (case kK => first | exact rfl | assumption); (case kd => ktr_room); (case ku => ktr_units); (case a1 => omega); (case a2 => omega); (case a3 => omega); (case a4 => omega); (case a5 => omega); (case a6 => omega); (case a7 => omega))); (intro pp9 pd9 b91 d91 b92 d92 KP9 K91 K92 y91 y92 y93 y94 o9 f91 f92 f93 f94 f95 h9 tk9 F9 N9); dsimp only [plL] at N9; (have o9c := o9); (try k_lt o9); (try dsimp only)))) | (with_reducible ((k_here; (with_reducible show wpAny _ _ (call (Value.ref 220) _) _ _ _); (first | ((k_dflt (refine' ClaimK.use (draw_k ?a1 ?a2 ?a3 ?a4 ?a5 ?a6 ?a7 ?a8) ?kB ?kF ?kX ?kN ?kT ?kK ?kd ?ku ?_; (case kN => exact Front.news (by k_asm) (by repeat' (first | exact Front.head | apply Front.tail))); (case kF => k_asm); (case kB => k_asm); (case kX => k_asm); (case kT => k_asm); (case kK => first | exact rfl | assumption); (case kd => ktr_room); (case ku => ktr_units); (case a1 => assumption); (case a2 => assumption); (case a3 => assumption); (case a6 => repeat' (first | exact Front.head | apply Front.tail)); (case a4 => exact Nat.zero_lt_succ _); (case a5 => exact Nat.le_of_ble_eq_true rfl); (case a7 => k_all); (case a8 => first | ((show IntsIn 1 31 _); (repeat (refine IntsIn.cons (by decide) (by decide) ?_)); exact IntsIn.nil) | ((show IntsIn 0 60 _); (repeat (refine IntsIn.cons (by decide) (by decide) ?_)); exact IntsIn.nil) | ((show IntsIn 0 100 _); (repeat (refine IntsIn.cons (by decide) (by decide) ?_)); exact IntsIn.nil)))); intro i9 u9 a9 b9 ta9 tb9 ii9 ij9 ha9 hb9 hb8 h9 tk9 F9 N9) | ((k_dflt (refine' ClaimK.use (drawB_k ?a1 ?a2 ?a3 ?a4 ?a5 ?a6 ?a7 ?a8) ?kB ?kF ?kX ?kN ?kT ?kK ?kd ?ku ?_; (case kN => exact Front.news (by k_asm) (by repeat' (first | exact Front.head | apply Front.tail))); (case kF => k_asm); (case kB => k_asm); (case kX => k_asm); (case kT => k_asm); (case kK => first | exact rfl | assumption); (case kd => ktr_room); (case ku => ktr_units); (case a1 => assumption); (case a2 => assumption); (case a3 => assumption); (case a6 => repeat' (first | exact Front.head | apply Front.tail)); (case a4 => exact Nat.zero_lt_succ _); (case a5 => exact Nat.le_of_ble_eq_true rfl); (case a7 => k_all); (case a8 => intro v hv; exact memB hv))); intro v9 a9 b9 ta9 tb9 mb9 ha9 hb9 hb8 h9 tk9 F9 N9)); (try dsimp only)))) | walk1) | (dsimp only; (first | (with_reducible ((k_here; (with_reducible show wpAny _ _ (call (Value.builtin _) [Value.ref _, _]) _ _ _); k_dflt (refine' append_K ?k1 ?k2 ?k3 ?_ ?z; (case k1 => k_asm); (case k2 => k_asm); (case k3 => k_upd); (case z => (simp only [List.size_toArray, PySem.sizeLine_eq]; omega)); k_whole); intro h' F' N'; (try simp only [List.push_toArray] at N')))) | (with_reducible ((k_here; (with_reducible show wpAny _ _ (call (Value.builtin _) [Value.ref _, Value.str _ _]) _ _ _); k_dflt (refine' index_col (c := .g) ?k1 ?k2 ?_; (case k1 => k_asm); (case k2 => k_mem))))) | (with_reducible ((k_here; (with_reducible show wpAny _ _ (call (Value.builtin _) [Value.ref _, Value.str _ _]) _ _ _); k_dflt (refine' index_col ?k1 ?k2 ?_; (case k1 => k_asm); (case k2 => k_mem))))) | (with_reducible ((k_here; (with_reducible show wpAny _ _ (compareOp CmpOp.NotEq (Value.str _ _) (Value.str _ _)) _ _ _); (refine ne_same ?_)))) | (with_reducible ((k_here; (with_reducible show wpAny _ _ (call (Value.ref 241) _) _ _ _); (k_dflt (refine' ClaimK.use (within_k ?a1 ?a2 ?a3 ?a4 ?a5 ?a6 ?a7 ?a8) ?kB ?kF ?kX ?kN ?kT ?kK ?kd ?ku ?_; (case kN => k_asm); (case kF => k_asm); (case kB => k_asm); (case kX => k_asm); (case kT => k_asm); (case kK => first | exact rfl | assumption); (case kd => ktr_room); (case ku => ktr_units); (case a1 => k_mem); (case a2 => k_mem); (case a3 => (refine Trips.mono (by assumption) ?_; (intro q hq); repeat' (first | assumption | apply List.Mem.tail))); (case a4 => omega); (case a5 => first | exact .cons _ _ .nil | exact .cons _ _ (.cons _ _ .nil)); (case a6 => omega); (case a7 => omega); (case a8 => assumption))); (intro h9 tk9 F9 N9); (try dsimp only)))) | (with_reducible ((k_here; (with_reducible show wpAny _ _ (call (Value.ref 234) _) _ _ _); (k_dflt (refine' ClaimK.use (due_k ?a1 ?a2 ?a3 ?a4 ?a5 ?a6 ?a7 ?a8 ?a9 ?a10 ?a11 ?a12 ?a13 ?a14 ?a15 ?a16 ?a17 ?a18 ?a19 ?a20 ?a21 ?a22 ?a23) ?kB ?kF ?kX ?kN ?kT ?kK ?kd ?ku ?_; (case kF => k_asm); (case kB => k_asm); (case kX => k_asm); (case kT => k_asm); (case kK => first | exact rfl | assumption); (case kd => ktr_room); (case ku => ktr_units); (case a1 => assumption); (case a2 => assumption); (case a3 => assumption); (case kN => (refine' sub_front ?n1 ?n2; (case n1 => k_asm); (case n2 => (dsimp only [LG, plL]; (iterate 12 refine cons_sub (by k_mem) ?_); (intro x hx); (repeat' (first | exact hx | apply List.Mem.tail)))))); (case a4 => assumption); (case a5 => assumption); (case a6 => assumption); (case a22 => assumption); (case a23 => assumption); (case a7 => omega); (case a8 => omega); (case a9 => omega); (case a10 => omega); (case a11 => omega); (case a12 => omega); (case a13 => omega); (case a14 => omega); (case a15 => omega); (case a16 => omega); (case a17 => omega); (case a18 => omega); (case a19 => omega); (case a20 => omega); (case a21 => omega))); (intro t9 ad9 vf9 vn9 nf9 nn9 S9 z2 z3 z4 z5 w1 w2 w3 w4 w5 w6 p9 q9 g9 h9 tk9 F9 N9); (dsimp only [LG, plL] at N9)))) | (with_reducible ((k_here; (with_reducible show wpAny _ _ (call (Value.ref 192) _) _ _ _); (k_dflt (refine' ClaimK.use (color_k ?a1 ?a2 ?a3 ?a4 ?a5 ?a6 ?a7 ?a8 ?a9) ?kB ?kF ?kX ?kN ?kT ?kK ?kd ?ku ?_; (case kF => k_asm); (case kB => k_asm); (case kX => k_asm); (case kT => k_asm); (case kK => first | exact rfl | assumption); (case kd => ktr_room); (case ku => ktr_units); (case a1 => assumption); (case a2 => assumption); (case a3 => assumption); (case a4 => assumption); (case kN => (refine' sub_front ?n1 ?n2; (case n1 => k_asm); (case n2 => (dsimp only [LG, plL]; (iterate 12 refine cons_sub (by k_mem) ?_); (intro x hx); (repeat' (first | exact hx | apply List.Mem.tail)))))); (case a5 => omega); (case a6 => omega); (case a7 => omega); (case a8 => omega); (case a9 => first | assumption | exact Come.blind _ | exact Come.none | exact Come.told _ _))); (intro t9 y1 y2 y3 y4 c9 B9 hs9 h9 tk9 F9 N9); (dsimp only [LG, plL] at N9)))) | (with_reducible ((k_here; (with_reducible show wpAny _ _ (call (Value.ref 213) _) _ _ _); (k_dflt (refine' ClaimK.use (take_k ?a1 ?a2 ?a3 ?a4 ?a5 ?a6) ?kB ?kF ?kX ?kN ?kT ?kK ?kd ?ku ?_; (case kN => exact Front.news (by k_asm) (by repeat' (first | exact Front.head | apply Front.tail))); (case kF => k_asm); (case kB => k_asm); (case kX => k_asm); (case kT => k_asm); (case kK => first | exact rfl | assumption); (case kd => ktr_room); (case ku => ktr_units); (case a1 => assumption); (case a2 => assumption); (case a3 => assumption); (case a4 => omega); (case a5 => omega); (case a6 => k_all))); (intro d9 t9 a9 b9 ta9 tb9 hd9 ha9 hb9 hb8 h9 tk9 F9 N9); (try dsimp only)))) | (with_reducible ((k_here; (with_reducible show wpAny _ _ (call (Value.ref 195) _) _ _ _); (k_dflt (refine' ClaimK.use (mk_k ?a1 ?a2 ?a3 ?a4 ?a5 ?a6 ?a7) ?kB ?kF ?kX ?kN ?kT ?kK ?kd ?ku ?_; (case kN => k_asm); (case kF => k_asm); (case kB => k_asm); (case kX => k_asm); (case kT => k_asm); (case kK => first | exact rfl | assumption); (case kd => ktr_room); (case ku => ktr_units); (case a1 => omega); (case a2 => omega); (case a3 => omega); (case a4 => omega); (case a5 => omega); (case a6 => omega); (case a7 => omega))); (intro pp9 pd9 b91 d91 b92 d92 KP9 K91 K92 y91 y92 y93 y94 o9 f91 f92 f93 f94 f95 h9 tk9 F9 N9); dsimp only [plL] at N9; (have o9c := o9); (try k_lt o9); (try dsimp only)))) | (with_reducible ((k_here; (with_reducible show wpAny _ _ (call (Value.ref 220) _) _ _ _); (first | ((k_dflt (refine' ClaimK.use (draw_k ?a1 ?a2 ?a3 ?a4 ?a5 ?a6 ?a7 ?a8) ?kB ?kF ?kX ?kN ?kT ?kK ?kd ?ku ?_; (case kN => exact Front.news (by k_asm) (by repeat' (first | exact Front.head | apply Front.tail))); (case kF => k_asm); (case kB => k_asm); (case kX => k_asm); (case kT => k_asm); (case kK => first | exact rfl | assumption); (case kd => ktr_room); (case ku => ktr_units); (case a1 => assumption); (case a2 => assumption); (case a3 => assumption); (case a6 => repeat' (first | exact Front.head | apply Front.tail)); (case a4 => exact Nat.zero_lt_succ _); (case a5 => exact Nat.le_of_ble_eq_true rfl); (case a7 => k_all); (case a8 => first | ((show IntsIn 1 31 _); (repeat (refine IntsIn.cons (by decide) (by decide) ?_)); exact IntsIn.nil) | ((show IntsIn 0 60 _); (repeat (refine IntsIn.cons (by decide) (by decide) ?_)); exact IntsIn.nil) | ((show IntsIn 0 100 _); (repeat (refine IntsIn.cons (by decide) (by decide) ?_)); exact IntsIn.nil)))); intro i9 u9 a9 b9 ta9 tb9 ii9 ij9 ha9 hb9 hb8 h9 tk9 F9 N9) | ((k_dflt (refine' ClaimK.use (drawB_k ?a1 ?a2 ?a3 ?a4 ?a5 ?a6 ?a7 ?a8) ?kB ?kF ?kX ?kN ?kT ?kK ?kd ?ku ?_; (case kN => exact Front.news (by k_asm) (by repeat' (first | exact Front.head | apply Front.tail))); (case kF => k_asm); (case kB => k_asm); (case kX => k_asm); (case kT => k_asm); (case kK => first | exact rfl | assumption); (case kd => ktr_room); (case ku => ktr_units); (case a1 => assumption); (case a2 => assumption); (case a3 => assumption); (case a6 => repeat' (first | exact Front.head | apply Front.tail)); (case a4 => exact Nat.zero_lt_succ _); (case a5 => exact Nat.le_of_ble_eq_true rfl); (case a7 => k_all); (case a8 => intro v hv; exact memB hv))); intro v9 a9 b9 ta9 tb9 mb9 ha9 hb9 hb8 h9 tk9 F9 N9)); (try dsimp only)))) | walk1)) | (leave1; walk_say "STEP leave1"; (try dsimp only)) | fail "no step")
      all_goals first
        | exact ⟨.g, _, _, rfl, .blind _, rfl⟩
        | exact ⟨.g, _, _, rfl, .none, rfl⟩
        | exact ⟨_, _, _, rfl, .told _ _, rfl⟩
    intro c tc tk hcome
    repeat' (first | (k_unfold; (try dsimp only)) | (k_end; kc_close) | (first | (with_reducible ((k_here; (with_reducible show wpAny _ _ (call (Value.builtin _) [Value.ref _, _]) _ _ _); k_dflt (refine' append_K ?k1 ?k2 ?k3 ?_ ?z; (case k1 => k_asm); (case k2 => k_asm); (case k3 => k_upd); (case z => (simp only [List.size_toArray, PySem.sizeLine_eq]; omega)); k_whole); intro h' F' N'; (try simp only [List.push_toArray] at N')))) | (with_reducible ((k_here; (with_reducible show wpAny _ _ (call (Value.builtin _) [Value.ref _, Value.str _ _]) _ _ _); k_dflt (refine' index_col (c := .g) ?k1 ?k2 ?_; (case k1 => k_asm); (case k2 => k_mem))))) | (with_reducible ((k_here; (with_reducible show wpAny _ _ (call (Value.builtin _) [Value.ref _, Value.str _ _]) _ _ _); k_dflt (refine' index_col ?k1 ?k2 ?_; (case k1 => k_asm); (case k2 => k_mem))))) | (with_reducible ((k_here; (with_reducible show wpAny _ _ (compareOp CmpOp.NotEq (Value.str _ _) (Value.str _ _)) _ _ _); (refine ne_same ?_)))) | (with_reducible ((k_here; (with_reducible show wpAny _ _ (call (Value.ref 241) _) _ _ _); (k_dflt (refine' ClaimK.use (within_k ?a1 ?a2 ?a3 ?a4 ?a5 ?a6 ?a7 ?a8) ?kB ?kF ?kX ?kN ?kT ?kK ?kd ?ku ?_; (case kN => k_asm); (case kF => k_asm); (case kB => k_asm); (case kX => k_asm); (case kT => k_asm); (case kK => first | exact rfl | assumption); (case kd => ktr_room); (case ku => ktr_units); (case a1 => k_mem); (case a2 => k_mem); (case a3 => (refine Trips.mono (by assumption) ?_; (intro q hq); repeat' (first | assumption | apply List.Mem.tail))); (case a4 => omega); (case a5 => first | exact .cons _ _ .nil | exact .cons _ _ (.cons _ _ .nil)); (case a6 => omega); (case a7 => omega); (case a8 => assumption))); (intro h9 tk9 F9 N9); (try dsimp only)))) | (with_reducible ((k_here; (with_reducible show wpAny _ _ (call (Value.ref 234) _) _ _ _); (k_dflt (refine' ClaimK.use (due_k ?a1 ?a2 ?a3 ?a4 ?a5 ?a6 ?a7 ?a8 ?a9 ?a10 ?a11 ?a12 ?a13 ?a14 ?a15 ?a16 ?a17 ?a18 ?a19 ?a20 ?a21 ?a22 ?a23) ?kB ?kF ?kX ?kN ?kT ?kK ?kd ?ku ?_; (case kF => k_asm); (case kB => k_asm); (case kX => k_asm); (case kT => k_asm); (case kK => first | exact rfl | assumption); (case kd => ktr_room); (case ku => ktr_units); (case a1 => assumption); (case a2 => assumption); (case a3 => assumption); (case kN => (refine' sub_front ?n1 ?n2; (case n1 => k_asm); (case n2 => (dsimp only [LG, plL]; (iterate 12 refine cons_sub (by k_mem) ?_); (intro x hx); (repeat' (first | exact hx | apply List.Mem.tail)))))); (case a4 => assumption); (case a5 => assumption); (case a6 => assumption); (case a22 => assumption); (case a23 => assumption); (case a7 => omega); (case a8 => omega); (case a9 => omega); (case a10 => omega); (case a11 => omega); (case a12 => omega); (case a13 => omega); (case a14 => omega); (case a15 => omega); (case a16 => omega); (case a17 => omega); (case a18 => omega); (case a19 => omega); (case a20 => omega); (case a21 => omega))); (intro t9 ad9 vf9 vn9 nf9 nn9 S9 z2 z3 z4 z5 w1 w2 w3 w4 w5 w6 p9 q9 g9 h9 tk9 F9 N9); (dsimp only [LG, plL] at N9)))) | (with_reducible ((k_here; (with_reducible show wpAny _ _ (call (Value.ref 192) _) _ _ _); (k_dflt (refine' ClaimK.use (color_k ?a1 ?a2 ?a3 ?a4 ?a5 ?a6 ?a7 ?a8 ?a9) ?kB ?kF ?kX ?kN ?kT ?kK ?kd ?ku ?_; (case kF => k_asm); (case kB => k_asm); (case kX => k_asm); (case kT => k_asm); (case kK => first | exact rfl | assumption); (case kd => ktr_room); (case ku => ktr_units); (case a1 => assumption); (case a2 => assumption); (case a3 => assumption); (case a4 => assumption); (case kN => (refine' sub_front ?n1 ?n2; (case n1 => k_asm); (case n2 => (dsimp only [LG, plL]; (iterate 12 refine cons_sub (by k_mem) ?_); (intro x hx); (repeat' (first | exact hx | apply List.Mem.tail)))))); (case a5 => omega); (case a6 => omega); (case a7 => omega); (case a8 => omega); (case a9 => first | assumption | exact Come.blind _ | exact Come.none | exact Come.told _ _))); (intro t9 y1 y2 y3 y4 c9 B9 hs9 h9 tk9 F9 N9); (dsimp only [LG, plL] at N9)))) | (with_reducible ((k_here; (with_reducible show wpAny _ _ (call (Value.ref 213) _) _ _ _); (k_dflt (refine' ClaimK.use (take_k ?a1 ?a2 ?a3 ?a4 ?a5 ?a6) ?kB ?kF ?kX ?kN ?kT ?kK ?kd ?ku ?_; (case kN => exact Front.news (by k_asm) (by repeat' (first | exact Front.head | apply Front.tail))); (case kF => k_asm); (case kB => k_asm); (case kX => k_asm); (case kT => k_asm); (case kK => first | exact rfl | assumption); (case kd => ktr_room); (case ku => ktr_units); (case a1 => assumption); (case a2 => assumption); (case a3 => assumption); (case a4 => omega); (case a5 => omega); (case a6 => k_all))); (intro d9 t9 a9 b9 ta9 tb9 hd9 ha9 hb9 hb8 h9 tk9 F9 N9); (try dsimp only)))) | (with_reducible ((k_here; (with_reducible show wpAny _ _ (call (Value.ref 195) _) _ _ _); (k_dflt (refine' ClaimK.use (mk_k ?a1 ?a2 ?a3 ?a4 ?a5 ?a6 ?a7) ?kB ?kF ?kX ?kN ?kT ?kK ?kd ?ku ?_; (case kN => k_asm); (case kF => k_asm); (case kB => k_asm); (case kX => k_asm); (case kT => k_asm); (case kK => first | exact rfl | assumption); (case kd => ktr_room); (case ku => ktr_units); (case a1 => omega); (case a2 => omega); (case a3 => omega); (case a4 => omega); (case a5 => omega); (case a6 => omega); (case a7 => omega))); (intro pp9 pd9 b91 d91 b92 d92 KP9 K91 K92 y91 y92 y93 y94 o9 f91 f92 f93 f94 f95 h9 tk9 F9 N9); dsimp only [plL] at N9; (have o9c := o9); (try k_lt o9); (try dsimp only)))) | (with_reducible ((k_here; (with_reducible show wpAny _ _ (call (Value.ref 220) _) _ _ _); (first | ((k_dflt (refine' ClaimK.use (draw_k ?a1 ?a2 ?a3 ?a4 ?a5 ?a6 ?a7 ?a8) ?kB ?kF ?kX ?kN ?kT ?kK ?kd ?ku ?_; (case kN => exact Front.news (by k_asm) (by repeat' (first | exact Front.head | apply Front.tail))); (case kF => k_asm); (case kB => k_asm); (case kX => k_asm); (case kT => k_asm); (case kK => first | exact rfl | assumption); (case kd => ktr_room); (case ku => ktr_units); (case a1 => assumption); (case a2 => assumption); (case a3 => assumption); (case a6 => repeat' (first | exact Front.head | apply Front.tail)); (case a4 => exact Nat.zero_lt_succ _); (case a5 => exact Nat.le_of_ble_eq_true rfl); (case a7 => k_all); (case a8 => first | ((show IntsIn 1 31 _); (repeat (refine IntsIn.cons (by decide) (by decide) ?_)); exact IntsIn.nil) | ((show IntsIn 0 60 _); (repeat (refine IntsIn.cons (by decide) (by decide) ?_)); exact IntsIn.nil) | ((show IntsIn 0 100 _); (repeat (refine IntsIn.cons (by decide) (by decide) ?_)); exact IntsIn.nil)))); intro i9 u9 a9 b9 ta9 tb9 ii9 ij9 ha9 hb9 hb8 h9 tk9 F9 N9) | ((k_dflt (refine' ClaimK.use (drawB_k ?a1 ?a2 ?a3 ?a4 ?a5 ?a6 ?a7 ?a8) ?kB ?kF ?kX ?kN ?kT ?kK ?kd ?ku ?_; (case kN => exact Front.news (by k_asm) (by repeat' (first | exact Front.head | apply Front.tail))); (case kF => k_asm); (case kB => k_asm); (case kX => k_asm); (case kT => k_asm); (case kK => first | exact rfl | assumption); (case kd => ktr_room); (case ku => ktr_units); (case a1 => assumption); (case a2 => assumption); (case a3 => assumption); (case a6 => repeat' (first | exact Front.head | apply Front.tail)); (case a4 => exact Nat.zero_lt_succ _); (case a5 => exact Nat.le_of_ble_eq_true rfl); (case a7 => k_all); (case a8 => intro v hv; exact memB hv))); intro v9 a9 b9 ta9 tb9 mb9 ha9 hb9 hb8 h9 tk9 F9 N9)); (try dsimp only)))) | walk1) | (dsimp only; (first | (with_reducible ((k_here; (with_reducible show wpAny _ _ (call (Value.builtin _) [Value.ref _, _]) _ _ _); k_dflt (refine' append_K ?k1 ?k2 ?k3 ?_ ?z; (case k1 => k_asm); (case k2 => k_asm); (case k3 => k_upd); (case z => (simp only [List.size_toArray, PySem.sizeLine_eq]; omega)); k_whole); intro h' F' N'; (try simp only [List.push_toArray] at N')))) | (with_reducible ((k_here; (with_reducible show wpAny _ _ (call (Value.builtin _) [Value.ref _, Value.str _ _]) _ _ _); k_dflt (refine' index_col (c := .g) ?k1 ?k2 ?_; (case k1 => k_asm); (case k2 => k_mem))))) | (with_reducible ((k_here; (with_reducible show wpAny _ _ (call (Value.builtin _) [Value.ref _, Value.str _ _]) _ _ _); k_dflt (refine' index_col ?k1 ?k2 ?_; (case k1 => k_asm); (case k2 => k_mem))))) | (with_reducible ((k_here; (with_reducible show wpAny _ _ (compareOp CmpOp.NotEq (Value.str _ _) (Value.str _ _)) _ _ _); (refine ne_same ?_)))) | (with_reducible ((k_here; (with_reducible show wpAny _ _ (call (Value.ref 241) _) _ _ _); (k_dflt (refine' ClaimK.use (within_k ?a1 ?a2 ?a3 ?a4 ?a5 ?a6 ?a7 ?a8) ?kB ?kF ?kX ?kN ?kT ?kK ?kd ?ku ?_; (case kN => k_asm); (case kF => k_asm); (case kB => k_asm); (case kX => k_asm); (case kT => k_asm); (case kK => first | exact rfl | assumption); (case kd => ktr_room); (case ku => ktr_units); (case a1 => k_mem); (case a2 => k_mem); (case a3 => (refine Trips.mono (by assumption) ?_; (intro q hq); repeat' (first | assumption | apply List.Mem.tail))); (case a4 => omega); (case a5 => first | exact .cons _ _ .nil | exact .cons _ _ (.cons _ _ .nil)); (case a6 => omega); (case a7 => omega); (case a8 => assumption))); (intro h9 tk9 F9 N9); (try dsimp only)))) | (with_reducible ((k_here; (with_reducible show wpAny _ _ (call (Value.ref 234) _) _ _ _); (k_dflt (refine' ClaimK.use (due_k ?a1 ?a2 ?a3 ?a4 ?a5 ?a6 ?a7 ?a8 ?a9 ?a10 ?a11 ?a12 ?a13 ?a14 ?a15 ?a16 ?a17 ?a18 ?a19 ?a20 ?a21 ?a22 ?a23) ?kB ?kF ?kX ?kN ?kT ?kK ?kd ?ku ?_; (case kF => k_asm); (case kB => k_asm); (case kX => k_asm); (case kT => k_asm); (case kK => first | exact rfl | assumption); (case kd => ktr_room); (case ku => ktr_units); (case a1 => assumption); (case a2 => assumption); (case a3 => assumption); (case kN => (refine' sub_front ?n1 ?n2; (case n1 => k_asm); (case n2 => (dsimp only [LG, plL]; (iterate 12 refine cons_sub (by k_mem) ?_); (intro x hx); (repeat' (first | exact hx | apply List.Mem.tail)))))); (case a4 => assumption); (case a5 => assumption); (case a6 => assumption); (case a22 => assumption); (case a23 => assumption); (case a7 => omega); (case a8 => omega); (case a9 => omega); (case a10 => omega); (case a11 => omega); (case a12 => omega); (case a13 => omega); (case a14 => omega); (case a15 => omega); (case a16 => omega); (case a17 => omega); (case a18 => omega); (case a19 => omega); (case a20 => omega); (case a21 => omega))); (intro t9 ad9 vf9 vn9 nf9 nn9 S9 z2 z3 z4 z5 w1 w2 w3 w4 w5 w6 p9 q9 g9 h9 tk9 F9 N9); (dsimp only [LG, plL] at N9)))) | (with_reducible ((k_here; (with_reducible show wpAny _ _ (call (Value.ref 192) _) _ _ _); (k_dflt (refine' ClaimK.use (color_k ?a1 ?a2 ?a3 ?a4 ?a5 ?a6 ?a7 ?a8 ?a9) ?kB ?kF ?kX ?kN ?kT ?kK ?kd ?ku ?_; (case kF => k_asm); (case kB => k_asm); (case kX => k_asm); (case kT => k_asm); (case kK => first | exact rfl | assumption); (case kd => ktr_room); (case ku => ktr_units); (case a1 => assumption); (case a2 => assumption); (case a3 => assumption); (case a4 => assumption); (case kN => (refine' sub_front ?n1 ?n2; (case n1 => k_asm); (case n2 => (dsimp only [LG, plL]; (iterate 12 refine cons_sub (by k_mem) ?_); (intro x hx); (repeat' (first | exact hx | apply List.Mem.tail)))))); (case a5 => omega); (case a6 => omega); (case a7 => omega); (case a8 => omega); (case a9 => first | assumption | exact Come.blind _ | exact Come.none | exact Come.told _ _))); (intro t9 y1 y2 y3 y4 c9 B9 hs9 h9 tk9 F9 N9); (dsimp only [LG, plL] at N9)))) | (with_reducible ((k_here; (with_reducible show wpAny _ _ (call (Value.ref 213) _) _ _ _); (k_dflt (refine' ClaimK.use (take_k ?a1 ?a2 ?a3 ?a4 ?a5 ?a6) ?kB ?kF ?kX ?kN ?kT ?kK ?kd ?ku ?_; (case kN => exact Front.news (by k_asm) (by repeat' (first | exact Front.head | apply Front.tail))); (case kF => k_asm); (case kB => k_asm); (case kX => k_asm); (case kT => k_asm); (case kK => first | exact rfl | assumption); (case kd => ktr_room); (case ku => ktr_units); (case a1 => assumption); (case a2 => assumption); (case a3 => assumption); (case a4 => omega); (case a5 => omega); (case a6 => k_all))); (intro d9 t9 a9 b9 ta9 tb9 hd9 ha9 hb9 hb8 h9 tk9 F9 N9); (try dsimp only)))) | (with_reducible ((k_here; (with_reducible show wpAny _ _ (call (Value.ref 195) _) _ _ _); (k_dflt (refine' ClaimK.use (mk_k ?a1 ?a2 ?a3 ?a4 ?a5 ?a6 ?a7) ?kB ?kF ?kX ?kN ?kT ?kK ?kd ?ku ?_; (case kN => k_asm); (case kF => k_asm); (case kB => k_asm); (case kX => k_asm); (case kT => k_asm); (case kK => first | exact rfl | assumption); (case kd => ktr_room); (case ku => ktr_units); (case a1 => omega); (case a2 => omega); (case a3 => omega); (case a4 => omega); (case a5 => omega); (case a6 => omega); (case a7 => omega))); (intro pp9 pd9 b91 d91 b92 d92 KP9 K91 K92 y91 y92 y93 y94 o9 f91 f92 f93 f94 f95 h9 tk9 F9 N9); dsimp only [plL] at N9; (have o9c := o9); (try k_lt o9); (try dsimp only)))) | (with_reducible ((k_here; (with_reducible show wpAny _ _ (call (Value.ref 220) _) _ _ _); (first | ((k_dflt (refine' ClaimK.use (draw_k ?a1 ?a2 ?a3 ?a4 ?a5 ?a6 ?a7 ?a8) ?kB ?kF ?kX ?kN ?kT ?kK ?kd ?ku ?_; (case kN => exact Front.news (by k_asm) (by repeat' (first | exact Front.head | apply Front.tail))); (case kF => k_asm); (case kB => k_asm); (case kX => k_asm); (case kT => k_asm); (case kK => first | exact rfl | assumption); (case kd => ktr_room); (case ku => ktr_units); (case a1 => assumption); (case a2 => assumption); (case a3 => assumption); (case a6 => repeat' (first | exact Front.head | apply Front.tail)); (case a4 => exact Nat.zero_lt_succ _); (case a5 => exact Nat.le_of_ble_eq_true rfl); (case a7 => k_all); (case a8 => first | ((show IntsIn 1 31 _); (repeat (refine IntsIn.cons (by decide) (by decide) ?_)); exact IntsIn.nil) | ((show IntsIn 0 60 _); (repeat (refine IntsIn.cons (by decide) (by decide) ?_)); exact IntsIn.nil) | ((show IntsIn 0 100 _); (repeat (refine IntsIn.cons (by decide) (by decide) ?_)); exact IntsIn.nil)))); intro i9 u9 a9 b9 ta9 tb9 ii9 ij9 ha9 hb9 hb8 h9 tk9 F9 N9) | ((k_dflt (refine' ClaimK.use (drawB_k ?a1 ?a2 ?a3 ?a4 ?a5 ?a6 ?a7 ?a8) ?kB ?kF ?kX ?kN ?kT ?kK ?kd ?ku ?_; (case kN => exact Front.news (by k_asm) (by repeat' (first | exact Front.head | apply Front.tail))); (case kF => k_asm); (case kB => k_asm); (case kX => k_asm); (case kT => k_asm); (case kK => first | exact rfl | assumption); (case kd => ktr_room); (case ku => ktr_units); (case a1 => assumption); (case a2 => assumption); (case a3 => assumption); (case a6 => repeat' (first | exact Front.head | apply Front.tail)); (case a4 => exact Nat.zero_lt_succ _); (case a5 => exact Nat.le_of_ble_eq_true rfl); (case a7 => k_all); (case a8 => intro v hv; exact memB hv))); intro v9 a9 b9 ta9 tb9 mb9 ha9 hb9 hb8 h9 tk9 F9 N9)); (try dsimp only)))) | walk1)) | (leave1; walk_say "STEP leave1"; (try dsimp only)) | fail "no step")
    all_goals (
      rename Fr _ _ _ _ => lF3
      rename News _ _ _ _ => lN3
      exact turn_end lF3 lN3 hX0 hoff (by assumption) (by assumption) hXo (by assumption) (by assumption) htr (by assumption) hres (by omega) (by omega) (by omega) (by omega) (by omega) (by omega) (by omega) hl3 rfl rfl rfl rfl rfl rfl rfl rfl rfl rfl rfl)
  · intro i m₁ nx' h tk hi hJ1 F₁ N₁
    refine LJ.use hJ1 ?_
    intro a1 b1 ta1 tb1 tn1 vf vn vr nf nn nr B near far rw now x1 x2 x3 x4 X e9 hX hpf hpn htr hPI hres ha1 hb1 hb12 hn1 hn2 hl1 hl2 hl3 j1 j2 j3 j4 j5 j6 j7 j8 j9 ja jb
    clear hJ1
    subst e9
    have F₂ := fr_eq F₁ (eq_at j8 (eq_at j3 (eq_at j5 (eq_at j4 (eq_at j6 (eq_at jb fun _ => rfl))))))
    dsimp only [LG, plL] at N₁
    have hW1 := hPI.w1.w
    have hW2 := hPI.w2.w
    rw [Int.mul_comm] at hW1 hW2
    clear F₁ lF hN hJ lR
    repeat (rename (_ ∧ _) => lz; clear lz)
    repeat' (first | (k_unfold; (try dsimp only)) | (k_end; kc_close) | (first | (with_reducible ((k_here; (with_reducible show wpAny _ _ (call (Value.builtin _) [Value.ref _, _]) _ _ _); k_dflt (refine' append_K ?k1 ?k2 ?k3 ?_ ?z; (case k1 => k_asm); (case k2 => k_asm); (case k3 => k_upd); (case z => (simp only [List.size_toArray, PySem.sizeLine_eq]; omega)); k_whole); intro h' F' N'; (try simp only [List.push_toArray] at N')))) | (with_reducible ((k_here; (with_reducible show wpAny _ _ (call (Value.builtin _) [Value.ref _, Value.str _ _]) _ _ _); k_dflt (refine' index_col (c := .g) ?k1 ?k2 ?_; (case k1 => k_asm); (case k2 => k_mem))))) | (with_reducible ((k_here; (with_reducible show wpAny _ _ (call (Value.builtin _) [Value.ref _, Value.str _ _]) _ _ _); k_dflt (refine' index_col ?k1 ?k2 ?_; (case k1 => k_asm); (case k2 => k_mem))))) | (with_reducible ((k_here; (with_reducible show wpAny _ _ (compareOp CmpOp.NotEq (Value.str _ _) (Value.str _ _)) _ _ _); (refine ne_same ?_)))) | (with_reducible ((k_here; (with_reducible show wpAny _ _ (call (Value.ref 241) _) _ _ _); (k_dflt (refine' ClaimK.use (within_k ?a1 ?a2 ?a3 ?a4 ?a5 ?a6 ?a7 ?a8) ?kB ?kF ?kX ?kN ?kT ?kK ?kd ?ku ?_; (case kN => k_asm); (case kF => k_asm); (case kB => k_asm); (case kX => k_asm); (case kT => k_asm); (case kK => first | exact rfl | assumption); (case kd => ktr_room); (case ku => ktr_units); (case a1 => k_mem); (case a2 => k_mem); (case a3 => (refine Trips.mono (by assumption) ?_; (intro q hq); repeat' (first | assumption | apply List.Mem.tail))); (case a4 => omega); (case a5 => first | exact .cons _ _ .nil | exact .cons _ _ (.cons _ _ .nil)); (case a6 => omega); (case a7 => omega); (case a8 => assumption))); (intro h9 tk9 F9 N9); (try dsimp only)))) | (with_reducible ((k_here; (with_reducible show wpAny _ _ (call (Value.ref 234) _) _ _ _); (k_dflt (refine' ClaimK.use (due_k ?a1 ?a2 ?a3 ?a4 ?a5 ?a6 ?a7 ?a8 ?a9 ?a10 ?a11 ?a12 ?a13 ?a14 ?a15 ?a16 ?a17 ?a18 ?a19 ?a20 ?a21 ?a22 ?a23) ?kB ?kF ?kX ?kN ?kT ?kK ?kd ?ku ?_; (case kF => k_asm); (case kB => k_asm); (case kX => k_asm); (case kT => k_asm); (case kK => first | exact rfl | assumption); (case kd => ktr_room); (case ku => ktr_units); (case a1 => assumption); (case a2 => assumption); (case a3 => assumption); (case kN => (refine' sub_front ?n1 ?n2; (case n1 => k_asm); (case n2 => (dsimp only [LG, plL]; (iterate 12 refine cons_sub (by k_mem) ?_); (intro x hx); (repeat' (first | exact hx | apply List.Mem.tail)))))); (case a4 => assumption); (case a5 => assumption); (case a6 => assumption); (case a22 => assumption); (case a23 => assumption); (case a7 => omega); (case a8 => omega); (case a9 => omega); (case a10 => omega); (case a11 => omega); (case a12 => omega); (case a13 => omega); (case a14 => omega); (case a15 => omega); (case a16 => omega); (case a17 => omega); (case a18 => omega); (case a19 => omega); (case a20 => omega); (case a21 => omega))); (intro t9 ad9 vf9 vn9 nf9 nn9 S9 z2 z3 z4 z5 w1 w2 w3 w4 w5 w6 p9 q9 g9 h9 tk9 F9 N9); (dsimp only [LG, plL] at N9)))) | (with_reducible ((k_here; (with_reducible show wpAny _ _ (call (Value.ref 192) _) _ _ _); (k_dflt (refine' ClaimK.use (color_k ?a1 ?a2 ?a3 ?a4 ?a5 ?a6 ?a7 ?a8 ?a9) ?kB ?kF ?kX ?kN ?kT ?kK ?kd ?ku ?_; (case kF => k_asm); (case kB => k_asm); (case kX => k_asm); (case kT => k_asm); (case kK => first | exact rfl | assumption); (case kd => ktr_room); (case ku => ktr_units); (case a1 => assumption); (case a2 => assumption); (case a3 => assumption); (case a4 => assumption); (case kN => (refine' sub_front ?n1 ?n2; (case n1 => k_asm); (case n2 => (dsimp only [LG, plL]; (iterate 12 refine cons_sub (by k_mem) ?_); (intro x hx); (repeat' (first | exact hx | apply List.Mem.tail)))))); (case a5 => omega); (case a6 => omega); (case a7 => omega); (case a8 => omega); (case a9 => first | assumption | exact Come.blind _ | exact Come.none | exact Come.told _ _))); (intro t9 y1 y2 y3 y4 c9 B9 hs9 h9 tk9 F9 N9); (dsimp only [LG, plL] at N9)))) | (with_reducible ((k_here; (with_reducible show wpAny _ _ (call (Value.ref 213) _) _ _ _); (k_dflt (refine' ClaimK.use (take_k ?a1 ?a2 ?a3 ?a4 ?a5 ?a6) ?kB ?kF ?kX ?kN ?kT ?kK ?kd ?ku ?_; (case kN => exact Front.news (by k_asm) (by repeat' (first | exact Front.head | apply Front.tail))); (case kF => k_asm); (case kB => k_asm); (case kX => k_asm); (case kT => k_asm); (case kK => first | exact rfl | assumption); (case kd => ktr_room); (case ku => ktr_units); (case a1 => assumption); (case a2 => assumption); (case a3 => assumption); (case a4 => omega); (case a5 => omega); (case a6 => k_all))); (intro d9 t9 a9 b9 ta9 tb9 hd9 ha9 hb9 hb8 h9 tk9 F9 N9); (try dsimp only)))) | (with_reducible ((k_here; (with_reducible show wpAny _ _ (call (Value.ref 195) _) _ _ _); (k_dflt (refine' ClaimK.use (mk_k ?a1 ?a2 ?a3 ?a4 ?a5 ?a6 ?a7) ?kB ?kF ?kX ?kN ?kT ?kK ?kd ?ku ?_; (case kN => k_asm); (case kF => k_asm); (case kB => k_asm); (case kX => k_asm); (case kT => k_asm); (case kK => first | exact rfl | assumption); (case kd => ktr_room); (case ku => ktr_units); (case a1 => omega); (case a2 => omega); (case a3 => omega); (case a4 => omega); (case a5 => omega); (case a6 => omega); (case a7 => omega))); (intro pp9 pd9 b91 d91 b92 d92 KP9 K91 K92 y91 y92 y93 y94 o9 f91 f92 f93 f94 f95 h9 tk9 F9 N9); dsimp only [plL] at N9; (have o9c := o9); (try k_lt o9); (try dsimp only)))) | (with_reducible ((k_here; (with_reducible show wpAny _ _ (call (Value.ref 220) _) _ _ _); (first | ((k_dflt (refine' ClaimK.use (draw_k ?a1 ?a2 ?a3 ?a4 ?a5 ?a6 ?a7 ?a8) ?kB ?kF ?kX ?kN ?kT ?kK ?kd ?ku ?_; (case kN => exact Front.news (by k_asm) (by repeat' (first | exact Front.head | apply Front.tail))); (case kF => k_asm); (case kB => k_asm); (case kX => k_asm); (case kT => k_asm); (case kK => first | exact rfl | assumption); (case kd => ktr_room); (case ku => ktr_units); (case a1 => assumption); (case a2 => assumption); (case a3 => assumption); (case a6 => repeat' (first | exact Front.head | apply Front.tail)); (case a4 => exact Nat.zero_lt_succ _); (case a5 => exact Nat.le_of_ble_eq_true rfl); (case a7 => k_all); (case a8 => first | ((show IntsIn 1 31 _); (repeat (refine IntsIn.cons (by decide) (by decide) ?_)); exact IntsIn.nil) | ((show IntsIn 0 60 _); (repeat (refine IntsIn.cons (by decide) (by decide) ?_)); exact IntsIn.nil) | ((show IntsIn 0 100 _); (repeat (refine IntsIn.cons (by decide) (by decide) ?_)); exact IntsIn.nil)))); intro i9 u9 a9 b9 ta9 tb9 ii9 ij9 ha9 hb9 hb8 h9 tk9 F9 N9) | ((k_dflt (refine' ClaimK.use (drawB_k ?a1 ?a2 ?a3 ?a4 ?a5 ?a6 ?a7 ?a8) ?kB ?kF ?kX ?kN ?kT ?kK ?kd ?ku ?_; (case kN => exact Front.news (by k_asm) (by repeat' (first | exact Front.head | apply Front.tail))); (case kF => k_asm); (case kB => k_asm); (case kX => k_asm); (case kT => k_asm); (case kK => first | exact rfl | assumption); (case kd => ktr_room); (case ku => ktr_units); (case a1 => assumption); (case a2 => assumption); (case a3 => assumption); (case a6 => repeat' (first | exact Front.head | apply Front.tail)); (case a4 => exact Nat.zero_lt_succ _); (case a5 => exact Nat.le_of_ble_eq_true rfl); (case a7 => k_all); (case a8 => intro v hv; exact memB hv))); intro v9 a9 b9 ta9 tb9 mb9 ha9 hb9 hb8 h9 tk9 F9 N9)); (try dsimp only)))) | walk1) | (dsimp only; (first | (with_reducible ((k_here; (with_reducible show wpAny _ _ (call (Value.builtin _) [Value.ref _, _]) _ _ _); k_dflt (refine' append_K ?k1 ?k2 ?k3 ?_ ?z; (case k1 => k_asm); (case k2 => k_asm); (case k3 => k_upd); (case z => (simp only [List.size_toArray, PySem.sizeLine_eq]; omega)); k_whole); intro h' F' N'; (try simp only [List.push_toArray] at N')))) | (with_reducible ((k_here; (with_reducible show wpAny _ _ (call (Value.builtin _) [Value.ref _, Value.str _ _]) _ _ _); k_dflt (refine' index_col (c := .g) ?k1 ?k2 ?_; (case k1 => k_asm); (case k2 => k_mem))))) | (with_reducible ((k_here; (with_reducible show wpAny _ _ (call (Value.builtin _) [Value.ref _, Value.str _ _]) _ _ _); k_dflt (refine' index_col ?k1 ?k2 ?_; (case k1 => k_asm); (case k2 => k_mem))))) | (with_reducible ((k_here; (with_reducible show wpAny _ _ (compareOp CmpOp.NotEq (Value.str _ _) (Value.str _ _)) _ _ _); (refine ne_same ?_)))) | (with_reducible ((k_here; (with_reducible show wpAny _ _ (call (Value.ref 241) _) _ _ _); (k_dflt (refine' ClaimK.use (within_k ?a1 ?a2 ?a3 ?a4 ?a5 ?a6 ?a7 ?a8) ?kB ?kF ?kX ?kN ?kT ?kK ?kd ?ku ?_; (case kN => k_asm); (case kF => k_asm); (case kB => k_asm); (case kX => k_asm); (case kT => k_asm); (case kK => first | exact rfl | assumption); (case kd => ktr_room); (case ku => ktr_units); (case a1 => k_mem); (case a2 => k_mem); (case a3 => (refine Trips.mono (by assumption) ?_; (intro q hq); repeat' (first | assumption | apply List.Mem.tail))); (case a4 => omega); (case a5 => first | exact .cons _ _ .nil | exact .cons _ _ (.cons _ _ .nil)); (case a6 => omega); (case a7 => omega); (case a8 => assumption))); (intro h9 tk9 F9 N9); (try dsimp only)))) | (with_reducible ((k_here; (with_reducible show wpAny _ _ (call (Value.ref 234) _) _ _ _); (k_dflt (refine' ClaimK.use (due_k ?a1 ?a2 ?a3 ?a4 ?a5 ?a6 ?a7 ?a8 ?a9 ?a10 ?a11 ?a12 ?a13 ?a14 ?a15 ?a16 ?a17 ?a18 ?a19 ?a20 ?a21 ?a22 ?a23) ?kB ?kF ?kX ?kN ?kT ?kK ?kd ?ku ?_; (case kF => k_asm); (case kB => k_asm); (case kX => k_asm); (case kT => k_asm); (case kK => first | exact rfl | assumption); (case kd => ktr_room); (case ku => ktr_units); (case a1 => assumption); (case a2 => assumption); (case a3 => assumption); (case kN => (refine' sub_front ?n1 ?n2; (case n1 => k_asm); (case n2 => (dsimp only [LG, plL]; (iterate 12 refine cons_sub (by k_mem) ?_); (intro x hx); (repeat' (first | exact hx | apply List.Mem.tail)))))); (case a4 => assumption); (case a5 => assumption); (case a6 => assumption); (case a22 => assumption); (case a23 => assumption); (case a7 => omega); (case a8 => omega); (case a9 => omega); (case a10 => omega); (case a11 => omega); (case a12 => omega); (case a13 => omega); (case a14 => omega); (case a15 => omega); (case a16 => omega); (case a17 => omega); (case a18 => omega); (case a19 => omega); (case a20 => omega); (case a21 => omega))); (intro t9 ad9 vf9 vn9 nf9 nn9 S9 z2 z3 z4 z5 w1 w2 w3 w4 w5 w6 p9 q9 g9 h9 tk9 F9 N9); (dsimp only [LG, plL] at N9)))) | (with_reducible ((k_here; (with_reducible show wpAny _ _ (call (Value.ref 192) _) _ _ _); (k_dflt (refine' ClaimK.use (color_k ?a1 ?a2 ?a3 ?a4 ?a5 ?a6 ?a7 ?a8 ?a9) ?kB ?kF ?kX ?kN ?kT ?kK ?kd ?ku ?_; (case kF => k_asm); (case kB => k_asm); (case kX => k_asm); (case kT => k_asm); (case kK => first | exact rfl | assumption); (case kd => ktr_room); (case ku => ktr_units); (case a1 => assumption); (case a2 => assumption); (case a3 => assumption); (case a4 => assumption); (case kN => (refine' sub_front ?n1 ?n2; (case n1 => k_asm); (case n2 => (dsimp only [LG, plL]; (iterate 12 refine cons_sub (by k_mem) ?_); (intro x hx); (repeat' (first | exact hx | apply List.Mem.tail)))))); (case a5 => omega); (case a6 => omega); (case a7 => omega); (case a8 => omega); (case a9 => first | assumption | exact Come.blind _ | exact Come.none | exact Come.told _ _))); (intro t9 y1 y2 y3 y4 c9 B9 hs9 h9 tk9 F9 N9); (dsimp only [LG, plL] at N9)))) | (with_reducible ((k_here; (with_reducible show wpAny _ _ (call (Value.ref 213) _) _ _ _); (k_dflt (refine' ClaimK.use (take_k ?a1 ?a2 ?a3 ?a4 ?a5 ?a6) ?kB ?kF ?kX ?kN ?kT ?kK ?kd ?ku ?_; (case kN => exact Front.news (by k_asm) (by repeat' (first | exact Front.head | apply Front.tail))); (case kF => k_asm); (case kB => k_asm); (case kX => k_asm); (case kT => k_asm); (case kK => first | exact rfl | assumption); (case kd => ktr_room); (case ku => ktr_units); (case a1 => assumption); (case a2 => assumption); (case a3 => assumption); (case a4 => omega); (case a5 => omega); (case a6 => k_all))); (intro d9 t9 a9 b9 ta9 tb9 hd9 ha9 hb9 hb8 h9 tk9 F9 N9); (try dsimp only)))) | (with_reducible ((k_here; (with_reducible show wpAny _ _ (call (Value.ref 195) _) _ _ _); (k_dflt (refine' ClaimK.use (mk_k ?a1 ?a2 ?a3 ?a4 ?a5 ?a6 ?a7) ?kB ?kF ?kX ?kN ?kT ?kK ?kd ?ku ?_; (case kN => k_asm); (case kF => k_asm); (case kB => k_asm); (case kX => k_asm); (case kT => k_asm); (case kK => first | exact rfl | assumption); (case kd => ktr_room); (case ku => ktr_units); (case a1 => omega); (case a2 => omega); (case a3 => omega); (case a4 => omega); (case a5 => omega); (case a6 => omega); (case a7 => omega))); (intro pp9 pd9 b91 d91 b92 d92 KP9 K91 K92 y91 y92 y93 y94 o9 f91 f92 f93 f94 f95 h9 tk9 F9 N9); dsimp only [plL] at N9; (have o9c := o9); (try k_lt o9); (try dsimp only)))) | (with_reducible ((k_here; (with_reducible show wpAny _ _ (call (Value.ref 220) _) _ _ _); (first | ((k_dflt (refine' ClaimK.use (draw_k ?a1 ?a2 ?a3 ?a4 ?a5 ?a6 ?a7 ?a8) ?kB ?kF ?kX ?kN ?kT ?kK ?kd ?ku ?_; (case kN => exact Front.news (by k_asm) (by repeat' (first | exact Front.head | apply Front.tail))); (case kF => k_asm); (case kB => k_asm); (case kX => k_asm); (case kT => k_asm); (case kK => first | exact rfl | assumption); (case kd => ktr_room); (case ku => ktr_units); (case a1 => assumption); (case a2 => assumption); (case a3 => assumption); (case a6 => repeat' (first | exact Front.head | apply Front.tail)); (case a4 => exact Nat.zero_lt_succ _); (case a5 => exact Nat.le_of_ble_eq_true rfl); (case a7 => k_all); (case a8 => first | ((show IntsIn 1 31 _); (repeat (refine IntsIn.cons (by decide) (by decide) ?_)); exact IntsIn.nil) | ((show IntsIn 0 60 _); (repeat (refine IntsIn.cons (by decide) (by decide) ?_)); exact IntsIn.nil) | ((show IntsIn 0 100 _); (repeat (refine IntsIn.cons (by decide) (by decide) ?_)); exact IntsIn.nil)))); intro i9 u9 a9 b9 ta9 tb9 ii9 ij9 ha9 hb9 hb8 h9 tk9 F9 N9) | ((k_dflt (refine' ClaimK.use (drawB_k ?a1 ?a2 ?a3 ?a4 ?a5 ?a6 ?a7 ?a8) ?kB ?kF ?kX ?kN ?kT ?kK ?kd ?ku ?_; (case kN => exact Front.news (by k_asm) (by repeat' (first | exact Front.head | apply Front.tail))); (case kF => k_asm); (case kB => k_asm); (case kX => k_asm); (case kT => k_asm); (case kK => first | exact rfl | assumption); (case kd => ktr_room); (case ku => ktr_units); (case a1 => assumption); (case a2 => assumption); (case a3 => assumption); (case a6 => repeat' (first | exact Front.head | apply Front.tail)); (case a4 => exact Nat.zero_lt_succ _); (case a5 => exact Nat.le_of_ble_eq_true rfl); (case a7 => k_all); (case a8 => intro v hv; exact memB hv))); intro v9 a9 b9 ta9 tb9 mb9 ha9 hb9 hb8 h9 tk9 F9 N9)); (try dsimp only)))) | walk1)) | (leave1; walk_say "STEP leave1"; (try dsimp only)) | fail "no step")
    rename News _ _ _ _ => lN3
    refine fin hret (by k_asm) (sub_front lN3 (cons_sub ?_ fun q hq => ?_)) ⟨a1, b1, ta1, tb1, rfl, ha1, hb1, hb12, rfl⟩
    · k_mem
    · have hq' := hres q hq
      repeat' (first | exact hq' | apply List.Mem.tail)
theorem stream_k {w : World} {p : Program} {loose : List Str} {mean : ExcName → Option Value} {mg mb : Str → Option Value} {f : Addr} {vs : List Value} {news : List (Addr × Obj)} {dn : Nat} {NL : Int → Int → Tok → Tok → List (Addr × Obj)}
    (C : Claim w p loose mean mg mb f vs news dn (fun v news' => ∃ a' b' ta' tb', v = .bool true ∧ 0 ≤ a' ∧ 0 ≤ b' ∧ b' < 2147483647 ∧ news' = NL a' b' ta' tb')) :
    ClaimK w p loose mean mg mb f vs news dn (fun R => ∀ (a' b' : Int) (ta' tb' : Tok), 0 ≤ a' → 0 ≤ b' → b' < 2147483647 → R (.bool true) (NL a' b' ta' tb')) :=
  C.toK (by
    rintro R k v news' ⟨a', b', ta', tb', rfl, h1, h2, h3, rfl⟩
    exact k a' b' ta' tb' h1 h2 h3)
end Mine
end
section
open PySem PySem.W PySem.Calls PyProof.Rows PySem.Spec
set_option maxRecDepth 100000
set_option maxHeartbeats 8000000
namespace Mine
theorem dropK_lookup : ∀ {K : Frag} {a : Addr} {o : Obj}, (dropK 257 K).lookup a = some o → a ≠ 257 ∧ K.lookup a = some o
  | [], _, _, e => by cases e
  | (b, x) :: r, a, o, e => by
    cases hb : Nat.beq b 257 with
    | true =>
      rw [dropK_hit hb] at e
      obtain ⟨h1, h2⟩ := dropK_lookup e
      refine ⟨h1, ?_⟩
      have : b = 257 := Nat.eq_of_beq_eq_true hb
      rw [List.lookup_cons, this, show (a == 257) = false from by simpa using h1]
      exact h2
    | false =>
      rw [dropK_miss hb] at e
      rw [List.lookup_cons] at e ⊢
      cases hab : a == b with
      | true =>
        rw [hab] at e
        refine ⟨fun q => Nat.ne_of_beq_eq_false hb ?_, e⟩
        rw [← eq_of_beq hab, q]
      | false =>
        rw [hab] at e
        exact dropK_lookup e
theorem ghost_kf {P : Params} {h : Heap} (X : (hd.heap_1 P).In h) : (kf P).In (ghostOf h [(259, 257)]) := fun a o e => by
  rw [← kf_is P] at e
  obtain ⟨hne, e'⟩ := dropK_lookup e
  refine ghost_ne (X a o e') ?_
  intro hm
  exact hne (List.mem_singleton.mp hm)
end Mine
end
section
open PySem PySem.W PySem.Calls PyProof.Rows PySem.Spec
set_option maxRecDepth 100000
set_option maxHeartbeats 2000000
namespace Mine
theorem anew_Po : True := by
  w_top off
  exact True.intro
local macro_rules | `(tactic| k_all) => `(tactic| assumption)
theorem mx0 (x : Int) : 0 ≤ (if -1 - x > x then -1 - x else x) := by split <;> omega
theorem ind0 (c : Prop) [Decidable c] : (0 : Int) ≤ (if c then 1 else 0) := by split <;> omega
theorem fmx (x : Int) : x.fmod 2147483647 < 2147483647 := PySem.W.fmod_hi x (by decide)
theorem pool_ok {w : World} {p : Program} {loose : List Str} {mean : ExcName → Option Value} {mg mb : Str → Option Value} {sc : Addr} {vs : List Value} {ns : List Int} {k : Int} {tk0 : Tok} {news : List (Addr × Obj)}
  (dp un : Nat) (gd : Option (List Code)) (cn : Str) (cs : Scope) (a : Addr) (ccd : Value) (cl : List (Str × Addr)) (outer : List Env) (A₀ : Around) (base h₀ : Heap) (L : Addr) (m : Str → Option Value) (s : Shared) (Q E : Value → Shared → Prop) :
    base.IsList sc vs.toArray → IntsAre vs ns → ns.length ≤ 63 → (k = 0 ∨ k = 1) →
    Below A₀ base outer h₀ → Fr h₀ L s.heap m → (kf w.params).In h₀ → News h₀ L s.heap news → Top p loose mean mg mb h₀ → cs.kind = .function →
    dp + 3 < recursionLimit → un + 24 < cLine →
    (∀ v news' h' tk', (∃ l a b ta tb n, v = .ref l ∧ news' = (l, srcO a b ta tb n) :: news ∧ 0 ≤ a ∧ 0 ≤ b ∧ b < 2147483647 ∧ ∀ q : Addr × Obj, q ∈ news → q.1 ≠ l) → Fr h₀ L h' m → News h₀ L h' news' → Q v { s with heap := h', toks := tk' }) →
    wpAny (model PySem.Challenge.rw_pf0381_01.row.prog w) (ktrTop dp un gd cn cs L a ccd cl outer) (call (.ref 206) [.ref sc, .int k tk0]) Q E s := by
  k_fill
  intro hl hi hlen hk0 B F X N T hk hd hu hret
  rcases hk0 with rfl | rfl
  all_goals (
    refine wpAny_call ?_
    k_dflt cell_enter
    repeat' (first | (k_unfold; (try dsimp only)) | ((fail_if_success (with_reducible show LeaveK _ _ _ _ _ _ _)); first | walk1 | (dsimp only; walk1))))
  all_goals walk1
  all_goals (
    refine hret _ _ _ _ ⟨_, _, _, _, _, _, rfl, rfl, ?_, ?_, ?_, ?_⟩ (by k_asm) (by k_asm)
    · exact Int.mul_nonneg (mx0 _) (ind0 _)
    · exact fm_lo _
    · exact fmx _
    · exact fun q hq => Nat.ne_of_lt ((by assumption : ∀ x : Addr × Obj, x ∈ news → x.1 < _) q hq))
end Mine
end
section
open PySem PySem.W PySem.Calls PyProof.Rows PySem.Spec
set_option maxRecDepth 100000
set_option maxHeartbeats 8000000
namespace Mine
theorem anew_Ta : True := by
  w_top off
  exact True.intro
section
local macro_rules | `(tactic| k_all) => `(tactic| assumption)
theorem color3_ok {w : World} {p : Program} {loose : List Str} {mean : ExcName → Option Value} {mg mb : Str → Option Value} {pp pd b1 d1 b2 d2 : Addr} {KP : PlT} {K1 K2 : BkT} {r1 u1 r2 u2 g1 t1 g2 t2 : Int} {x1 x2 x3 x4 : Tok} {rest : List (Addr × Obj)}
    {size now : Int} {ts tn : Tok} (hS : Sep ⟨pp, pd, b1, d1, b2, d2⟩ rest) (hB1 : BkOk r1 u1 g1 t1) (hB2 : BkOk r2 u2 g2 t2) (hn : 0 ≤ now) (hn2 : now ≤ 10000) (hs : 0 ≤ size) (hs2 : size ≤ 1000) :
    Claim w p loose mean mg mb 192 [.ref pp, .int size ts, .int now tn] (plL ⟨pp, pd, b1, d1, b2, d2⟩ KP K1 K2 false r1 u1 r2 u2 ⟨g1, t1, g2, t2⟩ x1 x2 x3 x4 rest) 4
      (fun v news' => ∃ t y1 y2 y3 y4, v = .str (step r1 u1 r2 u2 .g size now ⟨g1, t1, g2, t2⟩).1.str t ∧ news' = plL ⟨pp, pd, b1, d1, b2, d2⟩ KP K1 K2 false r1 u1 r2 u2 (step r1 u1 r2 u2 .g size now ⟨g1, t1, g2, t2⟩).2 y1 y2 y3 y4 rest) := by
  unfold Claim
  k_fill
  intro dp un gd cn cs aa ccd cl outer A₀ base h₀ L m zh zg zd zk zo Q E B F X N T hk hd hu hret
  obtain ⟨s1, s2, s3, s4, s5, s6, s7, s8, s9, s10, s11⟩ := hS
  dsimp only at s1 s2 s3 s4 s5 s6 s7 s8 s9 s10 s11
  dsimp only [plL] at N
  have hc : Come false .none .g := .blind _
  refine wpAny_call ?_
  k_dflt ((refine' code_def ?k1 ?k2 ?k3 ?k4 ?k5 ?kA ?kF ?kK ?k6 ?k7 ?k8 ?k9 ?kB ?_ ?c2 ?c3 ?c4 ?c5; (case kA => exact rfl); (case kF => exact rfl); (case kK => first | exact rfl | assumption); (case k1 => k_asm); (case k2 => k_asm); (case k3 => k_asm); (case k4 => k_asm); (case k5 => k_asm); (case k6 => k_is); (case k7 => k_is); (case k8 => ktr_room); (case k9 => first | exact BindsTo.of_eq rfl | exact binds_K (by k_in) rfl (by k_is) rfl rfl rfl); (case c5 => decide); (case kB => exact locs rfl); (case c2 => exact rfl); (case c3 => exact rfl); (case c4 => exact rfl); k_whole; intro g' L' h' FG' F' N' B' X' T'; (try dsimp only); (try k_lift B'); (try k_fold)))
  repeat' (first | (k_unfold; (try dsimp only)) | (k_end; kc_close) | (first | (with_reducible ((k_here; (with_reducible show wpAny _ _ (call (Value.ref 110) _) _ _ _); (k_dflt (refine' ClaimK.use (Claim.k2 (takeb_ok ?a1 ?a2 ?a3 ?a4 ?a5 ?a6 ?a7)) ?kB ?kF ?kX ?kN ?kT ?kK ?kd ?ku ?_; (case kN => exact swap4 (by k_asm)); (case kF => k_asm); (case kB => k_asm); (case kX => k_asm); (case kT => k_asm); (case kK => first | exact rfl | assumption); (case kd => ktr_room); (case ku => ktr_units); (case a1 => assumption); (case a2 => assumption); (case a3 => assumption); (case a4 => assumption); (case a5 => assumption); (case a6 => assumption); (case a7 => repeat' (first | assumption | exact Ne.symm (by assumption) | refine ne_cons ?_ ?_)))); (intro t9 u9 h9 tk9 F9 N9); (try dsimp only)))) | (with_reducible ((k_here; (with_reducible show wpAny _ _ (call (Value.ref 96) _) _ _ _); (k_dflt (refine' ClaimK.use (Claim.k2 (has_ok ?a1 ?a2 ?a3 ?a4 ?a5 ?a6 ?a7)) ?kB ?kF ?kX ?kN ?kT ?kK ?kd ?ku ?_; (case kN => k_asm); (case kF => k_asm); (case kB => k_asm); (case kX => k_asm); (case kT => k_asm); (case kK => first | exact rfl | assumption); (case kd => ktr_room); (case ku => ktr_units); (case a1 => assumption); (case a2 => assumption); (case a3 => assumption); (case a4 => assumption); (case a5 => assumption); (case a6 => assumption); (case a7 => repeat' (first | assumption | exact Ne.symm (by assumption) | refine ne_cons ?_ ?_)))); (intro t9 u9 h9 tk9 F9 N9); (try dsimp only)))) | (with_reducible ((k_here; (with_reducible show wpAny _ _ (call (Value.ref 139) _) _ _ _); (k_dflt (refine' ClaimK.use (Claim.k1 (before_ok ?a1)) ?kB ?kF ?kX ?kN ?kT ?kK ?kd ?ku ?_; (case kN => k_asm); (case kF => k_asm); (case kB => k_asm); (case kX => k_asm); (case kT => k_asm); (case kK => first | exact rfl | assumption); (case kd => ktr_room); (case ku => ktr_units); (case a1 => assumption))); (intro t9 h9 tk9 F9 N9); (try dsimp only [Col.str])))) | (with_reducible ((k_here; (with_reducible show wpAny _ _ (call (Value.ref 103) _) _ _ _); (refine wpAny_call ?_); k_dflt (refine' code_def ?k1 ?k2 ?k3 ?k4 ?k5 ?kA ?kF ?kK ?k6 ?k7 ?k8 ?k9 ?kB ?_ ?c2 ?c3 ?c4 ?c5; (case kA => exact rfl); (case kF => exact rfl); (case kK => first | exact rfl | assumption); (case k1 => k_asm); (case k2 => k_asm); (case k3 => k_asm); (case k4 => k_asm); (case k5 => k_asm); (case k6 => k_is); (case k7 => k_is); (case k8 => ktr_room); (case k9 => first | exact BindsTo.of_eq rfl | exact binds_K (by k_in) rfl (by k_is) rfl rfl rfl); (case c5 => decide); (case kB => exact locs rfl); (case c2 => exact rfl); (case c3 => exact rfl); (case c4 => exact rfl); k_whole; intro g' L' h' FG' F' N' B' X' T'; (try dsimp only); (try k_lift B'); (try k_fold))))) | walk1) | (dsimp only; (first | (with_reducible ((k_here; (with_reducible show wpAny _ _ (call (Value.ref 110) _) _ _ _); (k_dflt (refine' ClaimK.use (Claim.k2 (takeb_ok ?a1 ?a2 ?a3 ?a4 ?a5 ?a6 ?a7)) ?kB ?kF ?kX ?kN ?kT ?kK ?kd ?ku ?_; (case kN => exact swap4 (by k_asm)); (case kF => k_asm); (case kB => k_asm); (case kX => k_asm); (case kT => k_asm); (case kK => first | exact rfl | assumption); (case kd => ktr_room); (case ku => ktr_units); (case a1 => assumption); (case a2 => assumption); (case a3 => assumption); (case a4 => assumption); (case a5 => assumption); (case a6 => assumption); (case a7 => repeat' (first | assumption | exact Ne.symm (by assumption) | refine ne_cons ?_ ?_)))); (intro t9 u9 h9 tk9 F9 N9); (try dsimp only)))) | (with_reducible ((k_here; (with_reducible show wpAny _ _ (call (Value.ref 96) _) _ _ _); (k_dflt (refine' ClaimK.use (Claim.k2 (has_ok ?a1 ?a2 ?a3 ?a4 ?a5 ?a6 ?a7)) ?kB ?kF ?kX ?kN ?kT ?kK ?kd ?ku ?_; (case kN => k_asm); (case kF => k_asm); (case kB => k_asm); (case kX => k_asm); (case kT => k_asm); (case kK => first | exact rfl | assumption); (case kd => ktr_room); (case ku => ktr_units); (case a1 => assumption); (case a2 => assumption); (case a3 => assumption); (case a4 => assumption); (case a5 => assumption); (case a6 => assumption); (case a7 => repeat' (first | assumption | exact Ne.symm (by assumption) | refine ne_cons ?_ ?_)))); (intro t9 u9 h9 tk9 F9 N9); (try dsimp only)))) | (with_reducible ((k_here; (with_reducible show wpAny _ _ (call (Value.ref 139) _) _ _ _); (k_dflt (refine' ClaimK.use (Claim.k1 (before_ok ?a1)) ?kB ?kF ?kX ?kN ?kT ?kK ?kd ?ku ?_; (case kN => k_asm); (case kF => k_asm); (case kB => k_asm); (case kX => k_asm); (case kT => k_asm); (case kK => first | exact rfl | assumption); (case kd => ktr_room); (case ku => ktr_units); (case a1 => assumption))); (intro t9 h9 tk9 F9 N9); (try dsimp only [Col.str])))) | (with_reducible ((k_here; (with_reducible show wpAny _ _ (call (Value.ref 103) _) _ _ _); (refine wpAny_call ?_); k_dflt (refine' code_def ?k1 ?k2 ?k3 ?k4 ?k5 ?kA ?kF ?kK ?k6 ?k7 ?k8 ?k9 ?kB ?_ ?c2 ?c3 ?c4 ?c5; (case kA => exact rfl); (case kF => exact rfl); (case kK => first | exact rfl | assumption); (case k1 => k_asm); (case k2 => k_asm); (case k3 => k_asm); (case k4 => k_asm); (case k5 => k_asm); (case k6 => k_is); (case k7 => k_is); (case k8 => ktr_room); (case k9 => first | exact BindsTo.of_eq rfl | exact binds_K (by k_in) rfl (by k_is) rfl rfl rfl); (case c5 => decide); (case kB => exact locs rfl); (case c2 => exact rfl); (case c3 => exact rfl); (case c4 => exact rfl); k_whole; intro g' L' h' FG' F' N' B' X' T'; (try dsimp only); (try k_lift B'); (try k_fold))))) | walk1)) | (leave1; walk_say "STEP leave1"; (try dsimp only)) | fail "no step")
  · refine fin hret (by k_asm) (swap4 (by k_asm)) ?_
    have z2 : size * 100 ≤ fG r2 (u2 * 100) g2 t2 now := by assumption
    have z1 : size * 100 ≤ fG r1 (u1 * 100) g1 t1 now := by assumption
    have e : step r1 u1 r2 u2 .g size now ⟨g1, t1, g2, t2⟩ = (.g, ⟨fG r1 (u1 * 100) g1 t1 now - size * 100, fT t1 now, fG r2 (u2 * 100) g2 t2 now - size * 100, fT t2 now⟩) := by
      unfold step; dsimp only; rw [if_pos z2, if_pos z1]
    rw [e, if_pos z1]
    exact ⟨_, _, _, _, _, rfl, rfl⟩
  · refine fin hret (by k_asm) (swap4 (by k_asm)) ?_
    have z2 : size * 100 ≤ fG r2 (u2 * 100) g2 t2 now := by assumption
    have z1 : ¬ size * 100 ≤ fG r1 (u1 * 100) g1 t1 now := by assumption
    have e : step r1 u1 r2 u2 .g size now ⟨g1, t1, g2, t2⟩ = (.y, ⟨fG r1 (u1 * 100) g1 t1 now, fT t1 now, fG r2 (u2 * 100) g2 t2 now - size * 100, fT t2 now⟩) := by
      unfold step; dsimp only; rw [if_pos z2, if_neg z1]
    rw [e, if_neg z1]
    exact ⟨_, _, _, _, _, rfl, rfl⟩
  · refine fin hret (by k_asm) (by k_asm) ?_
    have z2 : ¬ size * 100 ≤ fG r2 (u2 * 100) g2 t2 now := by assumption
    have e : step r1 u1 r2 u2 .g size now ⟨g1, t1, g2, t2⟩ = (.r, ⟨g1, t1, fG r2 (u2 * 100) g2 t2 now, fT t2 now⟩) := by
      unfold step; dsimp only; rw [if_neg z2]
    rw [e]
    exact ⟨_, _, _, _, _, rfl, rfl⟩
end
section
local macro_rules | `(tactic| k_all) => `(tactic| assumption)
theorem mk4_ok {w : World} {p : Program} {loose : List Str} {mean : ExcName → Option Value} {mg mb : Str → Option Value} {r1 u1 r2 u2 : Int} {t1 t2 t3 t4 : Tok} {news : List (Addr × Obj)}
    (hr : 0 ≤ r1) (hr2 : r1 ≤ r2) (hr3 : r2 ≤ 1000) (hu : 1 ≤ u1) (hu2 : 1 ≤ u2) (hv : u1 ≤ 1000) (hv2 : u2 ≤ 1000) :
    Claim w p loose mean mg mb 195 [.int r1 t1, .int u1 t2, .int r2 t3, .int u2 t4] news 4
      (fun v news' => ∃ a KP K1 K2 x1 x2 x3 x4, v = .ref a.pp ∧ news' = plL a KP K1 K2 false r1 u1 r2 u2 ⟨u1 * 100, 0, u2 * 100, 0⟩ x1 x2 x3 x4 news ∧ Fresh a news) := by
  unfold Claim
  k_fill
  intro dp un gd cn cs aa ccd cl outer A₀ base h₀ L m zh zg zd zk zo Q E Bl F X N T hk hd hu hret
  (first | (with_reducible ((k_here; (with_reducible show wpAny _ _ (call (Value.ref 195) _) _ _ _); k_dflt (refine' call_cls ?k1 ?k2 ?k3 ?k4 ?k5 ?k6 ?_; (case k1 => k_asm); (case k2 => k_asm); (case k3 => k_asm); (case k4 => k_is); (case k5 => k_is); (case k6 => k_is); k_whole; intro x' d' h' F' N' l1 l2; (try k_lt l1); (try k_lt2 l2); (refine' code_def ?k1 ?k2 ?k3 ?k4 ?k5 ?kA ?kF ?kK ?k6 ?k7 ?k8 ?k9 ?kB ?_ ?c2 ?c3 ?c4 ?c5; (case kA => exact rfl); (case kF => exact rfl); (case kK => first | exact rfl | assumption); (case k1 => k_asm); (case k2 => k_asm); (case k3 => k_asm); (case k4 => k_asm); (case k5 => k_asm); (case k6 => k_is); (case k7 => k_is); (case k8 => ktr_room); (case k9 => first | exact BindsTo.of_eq rfl | exact binds_K (by k_in) rfl (by k_is) rfl rfl rfl); (case c5 => decide); (case kB => exact locs rfl); (case c2 => exact rfl); (case c3 => exact rfl); (case c4 => exact rfl); k_whole; intro g' L' h' FG' F' N' B' X' T'; (try dsimp only); (try k_lift B'); (try k_fold)))))) | (with_reducible ((k_here; (with_reducible show wpAny _ _ (call (Value.ref 127) _) _ _ _); k_dflt (refine' call_cls ?k1 ?k2 ?k3 ?k4 ?k5 ?k6 ?_; (case k1 => k_asm); (case k2 => k_asm); (case k3 => k_asm); (case k4 => k_is); (case k5 => k_is); (case k6 => k_is); k_whole; intro x' d' h' F' N' l1 l2; (try k_lt l1); (try k_lt2 l2); (refine' code_def ?k1 ?k2 ?k3 ?k4 ?k5 ?kA ?kF ?kK ?k6 ?k7 ?k8 ?k9 ?kB ?_ ?c2 ?c3 ?c4 ?c5; (case kA => exact rfl); (case kF => exact rfl); (case kK => first | exact rfl | assumption); (case k1 => k_asm); (case k2 => k_asm); (case k3 => k_asm); (case k4 => k_asm); (case k5 => k_asm); (case k6 => k_is); (case k7 => k_is); (case k8 => ktr_room); (case k9 => first | exact BindsTo.of_eq rfl | exact binds_K (by k_in) rfl (by k_is) rfl rfl rfl); (case c5 => decide); (case kB => exact locs rfl); (case c2 => exact rfl); (case c3 => exact rfl); (case c4 => exact rfl); k_whole; intro g' L' h' FG' F' N' B' X' T'; (try dsimp only); (try k_lift B'); (try k_fold)))))) | walk1)
  repeat' (first | (k_unfold; (try dsimp only)) | (k_end; kc_close) | (first | (with_reducible ((k_here; (with_reducible show wpAny _ _ (call (Value.ref 195) _) _ _ _); k_dflt (refine' call_cls ?k1 ?k2 ?k3 ?k4 ?k5 ?k6 ?_; (case k1 => k_asm); (case k2 => k_asm); (case k3 => k_asm); (case k4 => k_is); (case k5 => k_is); (case k6 => k_is); k_whole; intro x' d' h' F' N' l1 l2; (try k_lt l1); (try k_lt2 l2); (refine' code_def ?k1 ?k2 ?k3 ?k4 ?k5 ?kA ?kF ?kK ?k6 ?k7 ?k8 ?k9 ?kB ?_ ?c2 ?c3 ?c4 ?c5; (case kA => exact rfl); (case kF => exact rfl); (case kK => first | exact rfl | assumption); (case k1 => k_asm); (case k2 => k_asm); (case k3 => k_asm); (case k4 => k_asm); (case k5 => k_asm); (case k6 => k_is); (case k7 => k_is); (case k8 => ktr_room); (case k9 => first | exact BindsTo.of_eq rfl | exact binds_K (by k_in) rfl (by k_is) rfl rfl rfl); (case c5 => decide); (case kB => exact locs rfl); (case c2 => exact rfl); (case c3 => exact rfl); (case c4 => exact rfl); k_whole; intro g' L' h' FG' F' N' B' X' T'; (try dsimp only); (try k_lift B'); (try k_fold)))))) | (with_reducible ((k_here; (with_reducible show wpAny _ _ (call (Value.ref 127) _) _ _ _); k_dflt (refine' call_cls ?k1 ?k2 ?k3 ?k4 ?k5 ?k6 ?_; (case k1 => k_asm); (case k2 => k_asm); (case k3 => k_asm); (case k4 => k_is); (case k5 => k_is); (case k6 => k_is); k_whole; intro x' d' h' F' N' l1 l2; (try k_lt l1); (try k_lt2 l2); (refine' code_def ?k1 ?k2 ?k3 ?k4 ?k5 ?kA ?kF ?kK ?k6 ?k7 ?k8 ?k9 ?kB ?_ ?c2 ?c3 ?c4 ?c5; (case kA => exact rfl); (case kF => exact rfl); (case kK => first | exact rfl | assumption); (case k1 => k_asm); (case k2 => k_asm); (case k3 => k_asm); (case k4 => k_asm); (case k5 => k_asm); (case k6 => k_is); (case k7 => k_is); (case k8 => ktr_room); (case k9 => first | exact BindsTo.of_eq rfl | exact binds_K (by k_in) rfl (by k_is) rfl rfl rfl); (case c5 => decide); (case kB => exact locs rfl); (case c2 => exact rfl); (case c3 => exact rfl); (case c4 => exact rfl); k_whole; intro g' L' h' FG' F' N' B' X' T'; (try dsimp only); (try k_lift B'); (try k_fold)))))) | walk1) | (dsimp only; (first | (with_reducible ((k_here; (with_reducible show wpAny _ _ (call (Value.ref 195) _) _ _ _); k_dflt (refine' call_cls ?k1 ?k2 ?k3 ?k4 ?k5 ?k6 ?_; (case k1 => k_asm); (case k2 => k_asm); (case k3 => k_asm); (case k4 => k_is); (case k5 => k_is); (case k6 => k_is); k_whole; intro x' d' h' F' N' l1 l2; (try k_lt l1); (try k_lt2 l2); (refine' code_def ?k1 ?k2 ?k3 ?k4 ?k5 ?kA ?kF ?kK ?k6 ?k7 ?k8 ?k9 ?kB ?_ ?c2 ?c3 ?c4 ?c5; (case kA => exact rfl); (case kF => exact rfl); (case kK => first | exact rfl | assumption); (case k1 => k_asm); (case k2 => k_asm); (case k3 => k_asm); (case k4 => k_asm); (case k5 => k_asm); (case k6 => k_is); (case k7 => k_is); (case k8 => ktr_room); (case k9 => first | exact BindsTo.of_eq rfl | exact binds_K (by k_in) rfl (by k_is) rfl rfl rfl); (case c5 => decide); (case kB => exact locs rfl); (case c2 => exact rfl); (case c3 => exact rfl); (case c4 => exact rfl); k_whole; intro g' L' h' FG' F' N' B' X' T'; (try dsimp only); (try k_lift B'); (try k_fold)))))) | (with_reducible ((k_here; (with_reducible show wpAny _ _ (call (Value.ref 127) _) _ _ _); k_dflt (refine' call_cls ?k1 ?k2 ?k3 ?k4 ?k5 ?k6 ?_; (case k1 => k_asm); (case k2 => k_asm); (case k3 => k_asm); (case k4 => k_is); (case k5 => k_is); (case k6 => k_is); k_whole; intro x' d' h' F' N' l1 l2; (try k_lt l1); (try k_lt2 l2); (refine' code_def ?k1 ?k2 ?k3 ?k4 ?k5 ?kA ?kF ?kK ?k6 ?k7 ?k8 ?k9 ?kB ?_ ?c2 ?c3 ?c4 ?c5; (case kA => exact rfl); (case kF => exact rfl); (case kK => first | exact rfl | assumption); (case k1 => k_asm); (case k2 => k_asm); (case k3 => k_asm); (case k4 => k_asm); (case k5 => k_asm); (case k6 => k_is); (case k7 => k_is); (case k8 => ktr_room); (case k9 => first | exact BindsTo.of_eq rfl | exact binds_K (by k_in) rfl (by k_is) rfl rfl rfl); (case c5 => decide); (case kB => exact locs rfl); (case c2 => exact rfl); (case c3 => exact rfl); (case c4 => exact rfl); k_whole; intro g' L' h' FG' F' N' B' X' T'; (try dsimp only); (try k_lift B'); (try k_fold)))))) | walk1)) | (leave1; walk_say "STEP leave1"; (try dsimp only)) | fail "no step")
  refine fin hret (by k_asm) (swap2s (by k_asm)) ?_
  refine ⟨⟨_, _, _, _, _, _⟩, ⟨_, _, _, _, _, _⟩, ⟨_, _, _, _, _, _, _, _, _, _⟩, ⟨_, _, _, _, _, _, _, _, _, _⟩, _, _, _, _, rfl, rfl, ?_⟩
  refine ⟨by assumption, ?_, ?_, ?_, ?_, ?_⟩
  all_goals ((try dsimp only); omega)
end
end Mine
end
section
open PySem PySem.W PySem.Calls PyProof.Rows PySem.Spec
set_option maxRecDepth 100000
set_option maxHeartbeats 4000000
namespace Mine
/-- an exception made with its own things -/
structure MadeD (h h' : Heap) (e : Addr) (cls : Value) (args : List Value) : Prop where
  keeps : ∀ b o, h.get? b = some o → h'.get? b = some o
  new : h.get? e = none
  there : ∃ t d, h'.get? e = some { cls := cls, dict := some d, data := .fields #[.ref t, .none, .none, .none, .bool false, .none] } ∧ h.get? t = none ∧
    h'.get? t = some { cls := .type "tuple", data := .seq args.toArray }
section
variable {M : Model} {A : Around} {E : Value → Shared → Prop} {s : Shared} {env : Env}
variable {nm q : Str} {C N : Addr} {bs bm : List Value} {hdct : Bool} {sn : List Str} {sub : List Value} {ab : Bool} {col : Option Bool} {dd : Option Addr} {k0 k1 k2 k3 k5 : Option Value} {newId : String}
theorem raiseStmt_D {x : Sem Value} {Q : Flow → Shared → Prop} (hbase : bm.contains (.type "BaseException") = true) (hh : A.handled = none)
    (h : wpAny M A x (fun v s₁ => ∃ e t d, v = .ref e ∧ s₁.heap.get? C = some (excClassObj nm q C N bs bm hdct sn sub ab col dd k0 k1 k2 k3 k5 newId) ∧
      s₁.heap.get? e = some { cls := .ref C, dict := some d, data := .fields #[.ref t, .none, .none, .none, .bool false, .none] } ∧ E (.ref e) s₁) E s) :
    wpAny M A (raiseStmt env (some x) none) Q E s := by
  have hcB : (Value.ref C :: bm).contains (.type "BaseException") = true := by rw [List.contains_cons, hbase, Bool.or_true]
  unfold raiseStmt
  refine wpAny_bind (wpAny_mono h (fun v s₁ h₁ => ?_) fun _ _ x => x)
  obtain ⟨e, t, d0, rfl, hC, he, hE⟩ := h₁
  obtain ⟨hp, g, d, tk, os⟩ := s₁
  repeat (first | with_reducible refine wpAny_loadPart_at he ?_ | with_reducible refine wpAny_loadPart_at hC ?_ | (with_reducible refine wpAny_isSubtype_exc hC ?_; rw [hcB]) | wp_step)
  exact wpAny_raiseNew_none hh hE
theorem Raise_D {x : Expr} {pos : Pos} {Q : Flow → Shared → Prop} (hbase : bm.contains (.type "BaseException") = true) (hh : A.handled = none)
    (h : wpAny M A (eval x env) (fun v s₁ => ∃ e t d, v = .ref e ∧ s₁.heap.get? C = some (excClassObj nm q C N bs bm hdct sn sub ab col dd k0 k1 k2 k3 k5 newId) ∧
      s₁.heap.get? e = some { cls := .ref C, dict := some d, data := .fields #[.ref t, .none, .none, .none, .bool false, .none] } ∧ E (.ref e) s₁) E s) :
    wpAny M A (exec (.Raise (some x) none pos) env) Q E s := by
  rw [arm_exec_Raise]
  first
    | exact wpAny_bind (wpAny_standAt (raiseStmt_D hbase hh (wpAny_bind (wpAny_mono h (fun v s₁ h₁ => wpAny_bind (wpAny_standAt (wpAny_pure h₁))) fun _ _ x => x))))
    | (simp only [evalOpt, Option.map]; exact wpAny_bind (wpAny_standAt (raiseStmt_D hbase hh (wpAny_bind (wpAny_mono h (fun v s₁ h₁ => wpAny_bind (wpAny_standAt (wpAny_pure h₁))) fun _ _ x => x)))))
end
section
variable {M : Model} {A : Around} {E : Value → Shared → Prop} {s' : Shared} {base g h : Heap} {outer : List Env} {L a e : Addr} {m : Str → Option Value} {name : Str} {scope : Scope} {cd : Value} {Q : Unit → Shared → Prop} {news : List (Addr × Obj)}
theorem leaves_madeD {env : Env} {args : List Value} {cls : Value} (hfr : A.frames = some (env :: outer)) (hf : env.frame = some L) (hkb : base.StaysIn h) (hl : h.FunFrames base (env :: outer)) (hx : MadeD h s'.heap e cls args)
    (hQ : ∀ h' t, Heap.FlyingW base outer e cls (.ref t) h' → h'.TupAt t args → base.get? t = none → s'.heap.UpToSlots h' → Q () { s' with heap := h' }) : wpAny M A (leaving env (.ref e)) Q E s' := by
  obtain ⟨t, d, he, htn, ht⟩ := hx.there
  have fresh : ∀ b, h.get? b = none → base.get? b = none := fun b hb => by
    cases hq : base.get? b with
    | none => rfl
    | some o' => have := hkb b o' hq; rw [hb] at this; cases this
  refine wpAny_leaving_firstW (a0 := .ref t) hfr (hl.of_keeps fun b o hb _ => ⟨o, hx.keeps b o hb, rfl⟩) hf he (fun b o hb => hx.keeps b o (hkb b o hb)) (fresh e hx.new) rfl rfl rfl fun h' hL => ?_
  obtain ⟨k1, ⟨_, _, k2⟩, k3, k4⟩ := hL
  exact hQ h' t ⟨k1, fresh e hx.new, k2, k3⟩ (Heap.TupAt.of_slots ⟨_, _, ht, rfl, rfl⟩ k4) (fresh t htn) k4
theorem leave_raiseD {cls : Value} {vs : List Value} (K : Below A base outer g) (hx : MadeD h s'.heap e cls vs) (F : Fr g L h m) (N : News g L h news)
    (hQ : ∀ h' t, RaisedS base g outer e cls t vs news h' → RaisedK base outer e cls t vs news h' → g.UpToSlots h' → Q () { s' with heap := h' }) (hk : scope.kind = .function := by rfl) :
    wpAny M (A.deeper (envOf name scope L a cd)) (leaving (envOf name scope L a cd) (.ref e)) Q E s' := by
  have K' := K.push (name := name) (a := a) (cd := cd) F hk
  have hin : ∀ env ∈ (envOf name scope L a cd :: outer), ∀ b, env.frame = some b → b ∈ (envOf name scope L a cd :: outer).filterMap (·.frame) := fun env he b hb => List.mem_filterMap.mpr ⟨env, he, hb⟩
  have st : base.StaysIn (hideAll h ((envOf name scope L a cd :: outer).filterMap (·.frame))) := fun b o q => hideAll_get _ (K'.stays b o q) fun hm => by
    rw [(K'.frames.mem hm).1] at q; cases q
  have sg : ∀ b o, g.get? b = some o → b ∉ outer.filterMap (·.frame) → (hideAll h ((envOf name scope L a cd :: outer).filterMap (·.frame))).get? b = some o := fun b o q nm => hideAll_get _ (F.keep b o q) fun hm => by
    rcases kts_mem hm with z | z
    · rw [z, kts_self F] at q
      cases q
    · exact nm z
  have hl : ∀ q ∈ news, (hideAll h ((envOf name scope L a cd :: outer).filterMap (·.frame))).get? q.1 = some q.2 ∧ g.get? q.1 = none ∧ base.get? q.1 = none := fun q hq => by
    refine ⟨hideAll_get _ (N q hq).1 fun hm => ?_, (N q hq).2.2, fresh_of_stays K.stays (N q hq).2.2⟩
    obtain ⟨env, he, hf⟩ := List.mem_filterMap.mp hm
    rcases List.mem_cons.mp he with rfl | he
    · exact (N q hq).2.1 (Option.some.inj hf).symm
    · obtain ⟨o, ho, _⟩ := (K.frames.mem (List.mem_filterMap.mpr ⟨env, he, hf⟩)).2
      rw [(N q hq).2.2] at ho; cases ho
  exact leaves_madeD K'.stack rfl (fun b o q => of_hideAll _ q) (funFrames_hide K'.frames hin) hx fun h' t x1 x2 x3 x4 =>
    have R : RaisedS base g outer e cls t vs news h' := ⟨⟨_, st, sg, hl, x1, x3⟩, x2⟩
    hQ h' t R R.toK (((Heap.UpToSlots.of_keeps F.keep).trans (Heap.UpToSlots.of_keeps hx.keeps)).trans x4)
end
end Mine
end
section
open PySem PySem.W PySem.W.X PySem.Calls PyProof.Rows PySem.Spec
set_option maxRecDepth 100000
set_option maxHeartbeats 4000000
namespace Mine
theorem anew_My : True := by
  w_top off
  exact True.intro
theorem mem_madeD {h h' : Heap} {news : List (Addr × Obj)} {e t d : Addr} {C : Value} {args : List Value} (D : Mem h h' [] news)
    (he : (e, ({ cls := C, dict := some d, data := .fields #[.ref t, .none, .none, .none, .bool false, .none] } : Obj)) ∈ news) (ht : (t, ({ cls := .type "tuple", data := .seq args.toArray } : Obj)) ∈ news) : MadeD h h' e C args :=
  ⟨fun b o hb => D.keep b o hb (by rw [Bool.or_eq_true]; exact .inr rfl), (D.nw _ he).2, t, d, (D.nw _ he).1, (D.nw _ ht).2, (D.nw _ ht).1⟩
theorem mk_close {h h' : Heap} {news : List (Addr × Obj)} {Q : Value → Shared → Prop} {g g' : Array GenState} {d : Drawn} {tk : Nat} {os : OsState} {e t dd : Addr} {C : Value} {args : List Value}
    (hq : ∀ h' e t', MadeD h h' e C args → Q (.ref e) ⟨h', g, d, t', os⟩) (D : Mem h h' [] news) (eg : g' = g)
    (he : (e, ({ cls := C, dict := some dd, data := .fields #[.ref t, .none, .none, .none, .bool false, .none] } : Obj)) ∈ news) (ht : (t, ({ cls := .type "tuple", data := .seq args.toArray } : Obj)) ∈ news) : Q (.ref e) ⟨h', g', d, tk, os⟩ := by
  subst eg; exact hq h' e tk (mem_madeD D he ht)
local macro_rules | `(tactic| x_close) => `(tactic| exact mk_close (by assumption) (by assumption) (by first | rfl | assumption | (symm; assumption)) (by repeat (first | exact List.Mem.head _ | apply List.Mem.tail)) (by repeat (first | exact List.Mem.head _ | apply List.Mem.tail)))
theorem builtins_at {P : Params} {h : Heap} (X : (kf P).In h) : h.get? (nat_lit 0) = some ⟨.type "dict", none, (boot_o_0 P).data, #[]⟩ := X (nat_lit 0) _ (by kernel_rfl)
theorem mkexc_a (p : Program) (w : World) (gd : Option (List Code)) (fs : Option (List Env)) (h : Heap) (g : Array GenState) (d : Drawn) (t : Nat) (os : OsState) (Q E : Value → Shared → Prop) (x : Str) (tx : Tok) :
    (kf w.params).In h → (∀ h' e t', MadeD h h' e (.ref 59) [.str x tx] → Q (.ref e) ⟨h', g, d, t', os⟩) →
    wpAny (model p w) { handled := none, depth := 307, frames := fs, guards := gd, units := 20 } (call (.ref 59) [.str x tx]) Q E ⟨h, g, d, t, os⟩ := by
  k_fill
  intro X hq
  have H0 := builtins_at X
  x_run
theorem mkexc_b (p : Program) (w : World) (gd : Option (List Code)) (fs : Option (List Env)) (h : Heap) (g : Array GenState) (d : Drawn) (t : Nat) (os : OsState) (Q E : Value → Shared → Prop) (x : Str) (tx : Tok) :
    (kf w.params).In h → (∀ h' e t', MadeD h h' e (.ref 59) [.str x tx] → Q (.ref e) ⟨h', g, d, t', os⟩) →
    wpAny (model p w) { handled := none, depth := 309, frames := fs, guards := gd, units := 24 } (call (.ref 59) [.str x tx]) Q E ⟨h, g, d, t, os⟩ := by
  k_fill
  intro X hq
  have H0 := builtins_at X
  x_run
theorem mkexc_c (p : Program) (w : World) (gd : Option (List Code)) (fs : Option (List Env)) (h : Heap) (g : Array GenState) (d : Drawn) (t : Nat) (os : OsState) (Q E : Value → Shared → Prop) (x : Str) (tx : Tok) :
    (kf w.params).In h → (∀ h' e t', MadeD h h' e (.ref 59) [.str x tx] → Q (.ref e) ⟨h', g, d, t', os⟩) →
    wpAny (model p w) { handled := none, depth := 307, frames := fs, guards := gd, units := 22 } (call (.ref 59) [.str x tx]) Q E ⟨h, g, d, t, os⟩ := by
  k_fill
  intro X hq
  have H0 := builtins_at X
  x_run
end Mine
end
section
open PySem PySem.W PySem.Calls PyProof.Rows PySem.Spec
set_option maxRecDepth 100000
set_option maxHeartbeats 2000000
namespace Mine
abbrev noPar : Arguments := { posonlyargs := [], args := [], vararg := none, kwonlyargs := [], kw_defaults := [], kwarg := none, defaults := [] }
/-- a lambda's object and its code's -/
def LamIs (fo : Obj) (c' : Addr) (oc : Obj) (body : Expr) (scope : Scope) : Prop :=
  ∃ name qual pm ctv vs t, fo = kla_obj name qual noPar body scope [] pm c' ctv ∧ oc.data = .fields vs ∧ vs[1]? = some (.str qual t)
theorem lam_new {M : Model} {A : Around} {E : Value → Shared → Prop} {s : Shared} {h₀ : Heap} {L a c P : Addr} {m mg mb : Str → Option Value} {cn : Str} {cs : Scope} {ccd : Value} {cl : List (Str × Addr)} {news rest : List (Addr × Obj)}
    {p : Program} {loose : List Str} {mean : ExcName → Option Value} {body : Expr} {scope : Scope} {ts : List Value} {pos : Pos} {Q : Value → Shared → Prop}
    (F : Fr h₀ L s.heap m) (N : News h₀ L s.heap news) (T : Top p loose mean mg mb h₀) (C : CodeHd h₀ c P) (hcd : ccd = .ref c) (U : Front P (tabObj ts.toArray) news rest) (hne : ∀ q ∈ rest, q.1 ≠ P) (ht : TriplesOk ts) (hnf : codeAmong pos ts = none)
    (hcl : closureFor scope (envX cn cs L a ccd cl) = pure [])
    (h : ∀ f c' oc fo h' tk, Fr h₀ L h' m → News h₀ L h' ((P, tabObj (ts ++ [rawInt pos.line, rawInt pos.col, .ref c']).toArray) :: (f, fo) :: (c', oc) :: rest) →
      LamIs fo c' oc body scope → (∀ q ∈ (f, fo) :: (c', oc) :: rest, q.1 ≠ P) → Q (.ref f) { s with heap := h', toks := tk }) :
    wpAny M A (eval (.Lambda noPar body scope pos) (envX cn cs L a ccd cl)) Q E s := by
  refine kla_eval (show defaultsOf noPar (envX cn cs L a ccd cl) = ([], []) from rfl) ?_
  have N1 := Front.news N U
  refine kla_nest (c := c) (P := P) (ps := ts.toArray) F N1 T C hcd (UpdF.head hne) ht hnf hcl ?_
  intro f c' oc vs t ctv h' tk F' N' d1 d2 l1 l2
  have hP : @LT.lt Nat _ P c' := l1 (P, tabObj ts.toArray) (List.Mem.head _)
  refine h f c' oc (kla_obj "<lambda>" ((envX cn cs L a ccd cl).qual ++ "<lambda>") noPar body scope [] ((mg "__name__").getD .none) c' ctv) h' tk F' (sub_front N' ?_) ⟨_, _, _, ctv, vs, t, rfl, d1, d2⟩ ?_
  · intro q hq
    simp only [List.mem_cons, List.append_toArray] at hq ⊢
    rcases hq with h | h | h | h
    · exact .inr (.inr (.inl h))
    · exact .inl h
    · exact .inr (.inl h)
    · exact .inr (.inr (.inr h))
  · refine ne_cons ?_ (ne_cons ?_ hne)
    · exact Nat.ne_of_gt (Nat.lt_trans hP l2)
    · exact Nat.ne_of_gt hP
end Mine
end
section
open PySem PySem.W PySem.Calls PyProof.Rows PySem.Spec
set_option maxRecDepth 100000
set_option maxHeartbeats 1000000
namespace Mine
theorem anew_Rf : True := by
  w_top off
  exact True.intro
/-- a SettingError flies out of the frame -/
def Flies (base h₀ : Heap) (L : Addr) (env : Env) (outer : List Env) (news : List (Addr × Obj)) (s : Shared) (v : Value) (s' : Shared) : Prop :=
  ∃ e t vs g₂ m' h' tk, v = .ref e ∧ s' = { s with heap := h', toks := tk } ∧ Fr h₀ L g₂ m' ∧ RaisedS base g₂ (env :: outer) e (.ref 59) t vs news h' ∧ g₂.UpToSlots h'
/-- the body of the lambda raises -/
structure LamR (w : World) (p : Program) (loose : List Str) (mean : ExcName → Option Value) (mg mb : Str → Option Value) (body : Expr) (scope : Scope) : Prop where
  raise : ∀ (qual : Str) (L a : Addr) (ccd : Value) (gd : Option (List Code)) (outer : List Env) (A₀ : Around) (base h₀ : Heap) (m : Str → Option Value) (s : Shared) (Q E : Value → Shared → Prop) (news : List (Addr × Obj)),
    Below A₀ base outer h₀ → Fr h₀ L s.heap m → (kf w.params).In h₀ → News h₀ L s.heap news → Top p loose mean mg mb h₀ →
    (∀ v s', Flies base h₀ L (envX qual scope L a ccd []) outer news s v s' → E v s') →
    wpAny (model PySem.Challenge.rw_pf0381_01.row.prog w) (ktrTop 305 16 gd qual scope L a ccd [] outer) (eval body (envX qual scope L a ccd [])) Q E s
theorem refused_ok {w : World} {p : Program} {loose : List Str} {mean : ExcName → Option Value} {mg mb : Str → Option Value} {body : Expr} {scope : Scope} (hL : LamR w p loose mean mg mb body scope)
    (hco : scope.isCoroutine = false) (hgen : scope.isGenerator = false) (hks : scope.kind = .function) (hcell : ∀ x ∈ scope.names, x.2 ≠ .cell) {f c' : Addr} {fo oc : Obj} {news : List (Addr × Obj)} (hl : LamIs fo c' oc body scope) (m1 : (f, fo) ∈ news) (m2 : (c', oc) ∈ news)
    (gd : Option (List Code)) (cn : Str) (cs : Scope) (a : Addr) (ccd : Value) (outer : List Env) (A₀ : Around) (base h₀ : Heap) (L : Addr) (m : Str → Option Value) (s : Shared) (Q E : Value → Shared → Prop) :
    Below A₀ base outer h₀ → Fr h₀ L s.heap m → (kf w.params).In h₀ → News h₀ L s.heap news → Top p loose mean mg mb h₀ → (kf w.params).In base → Top p loose mean mg mb base → KtsDicts (outer.filterMap (·.frame)) h₀ → cs.kind = .function →
    (∀ h₀' h' tk', KtsTurn (outer.filterMap (·.frame)) h₀ h₀' → Fr h₀' L h' m → News h₀' L h' news → Below A₀ base outer h₀' → KtsDicts (outer.filterMap (·.frame)) h₀' → Q (.bool true) { s with heap := h', toks := tk' }) →
    wpAny (model PySem.Challenge.rw_pf0381_01.row.prog w) (ktrTop 303 10 gd cn cs L a ccd [] outer) (call (.ref 255) [.ref f]) Q E s := by
  k_fill
  obtain ⟨name, qual, pm, ctv, vs, t, rfl, d1, d2⟩ := hl
  intro B F X N T XB TB D hk hret
  refine wpAny_call ?_
  k_dflt (refine' code_defS ?k1 ?k2 ?k3 ?k4 ?k5 ?XB ?TB ?D ?T0 ?kA ?k6 ?k7 ?k8 ?k9 ?kB ?_ ?cK ?c2 ?c3 ?c4 ?c5; (case kA => exact rfl); (case k2 => k_asm); (case k1 => k_asm); (case XB => assumption); (case TB => assumption); (case D => assumption); (case T0 => first | assumption | exact KtsTurn.refl); (case k3 => k_asm); (case k4 => k_asm); (case k5 => k_asm); (case k6 => k_is); (case k7 => k_is); (case k8 => ktr_room); (case k9 => first | exact binds_K (by k_in) rfl (by k_is) rfl rfl rfl | exact BindsTo.of_eq rfl | fail "kts_go: no rule for these arguments"); (case kB => exact locs rfl); (case cK => first | exact rfl | assumption); (case c2 => exact rfl); (case c3 => exact rfl); (case c4 => exact rfl); (case c5 => decide); k_whole; intro g' L' h' FG' F' N' B' X' T' D'; (try dsimp only); (try k_lift B'); (try k_fold))
  repeat' (first | (k_unfold; (try dsimp only)) | ((fail_if_success (with_reducible show wpAny _ _ (callWith _ _ _ _ _) _ _ _)); first | walk1 | (dsimp only; walk1)))
  refine callWith_F0 (FnAt.of (by k_asm) m1) ?_
  dsimp only [List.nil_append]
  refine wpAny_call ?_
  refine kla_code (by k_asm) (by k_asm) (by k_asm) (by k_asm) (by k_asm) rfl rfl rfl m1 (codeRec_news (by k_asm) m2 d1 d2) (by ktr_room) rfl (locs rfl) ?_ hco hgen hks hcell
  intro g2 L2 h2 FG2 F2 N2 B2 X2 T2
  refine hL.raise qual L2 f (.ref c') gd _ _ base g2 _ _ _ _ news B2 F2 X2 N2 T2 ?_
  rintro v s2 ⟨e, t3, vs3, g3, m3, h3, tk3, rfl, rfl, FG3, R3, U3⟩
  refine leave_onS B2 FG3 R3 U3 ?_
  intro h4 R4 R4' U4
  dsimp only
  refine caught_SO0 R4 FG2 (by assumption) U4 XB TB D' KtsTurn.refl (by k_is) (by kts_isx) ?_
  intro h5 g5 n5 T5 F5 N5 G5 N5' K5 X5 P5 D5
  clear N5 F2 N2 FG3 R3 U3 R4 R4' U4 FG2 B2 X2 T2 FG' B' X' T' D' N
  k_steps
  exact hret _ _ _ (by assumption) (by assumption) (by assumption) (by assumption) (by assumption)
end Mine
end
section
open PySem PySem.W PySem.Calls PyProof.Rows PySem.Spec
set_option maxRecDepth 100000
set_option maxHeartbeats 1000000
namespace Mine
theorem anew_Br : True := by
  w_top off
  exact True.intro
/-- the call raises a SettingError -/
def RCall (w : World) (p : Program) (loose : List Str) (mean : ExcName → Option Value) (mg mb : Str → Option Value) (dp un : Nat) (f : Addr) (vs : List Value) (news : List (Addr × Obj)) : Prop :=
  ∀ (gd : Option (List Code)) (cn : Str) (cs : Scope) (L a : Addr) (ccd : Value) (outer : List Env) (A₀ : Around) (base h₀ : Heap) (m : Str → Option Value) (s : Shared) (Q E : Value → Shared → Prop),
    Below A₀ base outer h₀ → Fr h₀ L s.heap m → (kf w.params).In h₀ → News h₀ L s.heap news → Top p loose mean mg mb h₀ → cs.kind = .function →
    (∀ v s', Flies base h₀ L (envX cn cs L a ccd []) outer news s v s' → E v s') →
    wpAny (model PySem.Challenge.rw_pf0381_01.row.prog w) (ktrTop dp un gd cn cs L a ccd [] outer) (call (.ref f) vs) Q E s
theorem raisedS_sub {base G : Heap} {l : List Env} {e : Addr} {cls : Value} {t : Addr} {vs : List Value} {news news' : List (Addr × Obj)} {h : Heap} (R : RaisedS base G l e cls t vs news h) (hs : ∀ q ∈ news', q ∈ news) : RaisedS base G l e cls t vs news' h := by
  obtain ⟨⟨B, h1, h2, h3, h4, h5⟩, h6⟩ := R
  exact ⟨⟨B, h1, h2, fun q hq => h3 q (hs q hq), h4, h5⟩, h6⟩
local macro_rules | `(tactic| k_all) => `(tactic| assumption)
theorem bucket_r {w : World} {p : Program} {loose : List Str} {mean : ExcName → Option Value} {mg mb : Str → Option Value} {r b : Int} {t1 t2 : Tok} {news : List (Addr × Obj)} (hr : 0 ≤ r → b < 1) : RCall w p loose mean mg mb 307 20 127 [.int r t1, .int b t2] news := by
  unfold RCall
  k_fill
  intro gd cn cs L a ccd outer A₀ base h₀ m s Q E B F X N T hk hE
  k_dflt (refine' call_cls ?k1 ?k2 ?k3 ?k4 ?k5 ?k6 ?_; (case k1 => k_asm); (case k2 => k_asm); (case k3 => k_asm); (case k4 => k_is); (case k5 => k_is); (case k6 => k_is); k_whole)
  intro x' d' h' F' N' l1 l2
  (try k_lt l1); (try k_lt2 l2)
  refine' code_def ?k1 ?k2 ?k3 ?k4 ?k5 ?kA ?kF ?kK ?k6 ?k7 ?k8 ?k9 ?kB ?_ ?c2 ?c3 ?c4 ?c5; (case kA => exact rfl); (case kF => exact rfl); (case kK => first | exact rfl | assumption); (case k1 => k_asm); (case k2 => k_asm); (case k3 => k_asm); (case k4 => k_asm); (case k5 => k_asm); (case k6 => k_is); (case k7 => k_is); (case k8 => ktr_room); (case k9 => first | exact BindsTo.of_eq rfl | exact binds_K (by k_in) rfl (by k_is) rfl rfl rfl); (case c5 => decide); (case kB => exact locs rfl); (case c2 => exact rfl); (case c3 => exact rfl); (case c4 => exact rfl); k_whole
  intro g1 L1 h1 FG1 F1 N1 B1 X1 T1
  (try dsimp only); (try k_lift B1); (try k_fold)
  repeat' (first | (k_unfold; (try dsimp only)) | ((fail_if_success (with_reducible show wpAny _ _ (exec (Stmt.Raise _ _ _) _) _ _ _)); first | walk1 | (dsimp only; walk1)))
  all_goals first
    | (exfalso; omega)
    | skip
  all_goals (
    obtain ⟨nm, q', N9, bs, bm, hdct, sn, sub, ab, col, dd, k0, k1, k2, k3, k5, newId, hC, hbase, _⟩ := kts_cls (C := 59) (T := "BaseException") X1 (by kts_isx)
    refine Raise_D (nm := nm) (q := q') (C := 59) (N := N9) (bs := bs) (bm := bm) (hdct := hdct) (sn := sn) (sub := sub) (ab := ab) (col := col) (dd := dd) (k0 := k0) (k1 := k1) (k2 := k2) (k3 := k3) (k5 := k5) (newId := newId) hbase rfl ?_
    repeat' (first | (k_unfold; (try dsimp only)) | ((fail_if_success (with_reducible show wpAny _ _ (call _ _) _ _ _)); first | walk1 | (dsimp only; walk1))))
  all_goals (
    refine mkexc_b _ w gd _ _ _ _ _ _ _ _ _ _ (Frag.In.keeps X1 (Fr.keep (by k_asm))) ?_
    intro h5 e5 t5 M5
    obtain ⟨t6, d6, he6, _, _⟩ := M5.there
    refine ⟨e5, t6, d6, rfl, M5.keeps _ _ (Fr.keep (by k_asm) _ _ hC), he6, ?_⟩
    refine leave_raiseD B1 M5 (by k_asm) (by k_asm) ?_
    intro h6 t7 R6 R6' U6
    exact hE _ _ ⟨e5, t7, _, g1, _, h6, _, rfl, rfl, FG1, raisedS_sub R6 (fun q hq => List.Mem.tail _ (List.Mem.tail _ hq)), U6⟩)
end Mine
end
section
open PySem PySem.W PySem.Calls PyProof.Rows PySem.Spec
set_option maxRecDepth 100000
set_option maxHeartbeats 2000000
namespace Mine
theorem anew_Ls : True := by
  w_top off
  exact True.intro
abbrev lscope (nm : Str) : Scope := { kind := .function, names := [(nm, .globalImplicit)], isGenerator := false, isCoroutine := false }
section
local macro_rules | `(tactic| k_all) => `(tactic| assumption)
theorem lamr1 {w : World} {p : Program} {loose : List Str} {mean : ExcName → Option Value} {mg mb : Str → Option Value} {pa pb p0 p1 p2 p3 : Pos} : LamR w p loose mean mg mb (.Call (.Name "TwoRate" pa) [(.Constant (.int 9) 0 p0), (.Constant (.int 5) 0 p1), (.Constant (.int 8) 0 p2), (.Constant (.int 5) 0 p3)] [] pb) (lscope "TwoRate") := by
  refine ⟨?_⟩
  k_fill
  intro qual L a ccd gd outer A₀ base h₀ m s Q E news B F X N T hE
  repeat' (first | (k_unfold; (try dsimp only)) | ((fail_if_success (with_reducible show wpAny _ _ (call (Value.ref _) _) _ _ _)); first | (first | (with_reducible ((k_here; (with_reducible show wpAny _ _ (call (Value.ref 127) _) _ _ _); k_dflt (refine' call_cls ?k1 ?k2 ?k3 ?k4 ?k5 ?k6 ?_; (case k1 => k_asm); (case k2 => k_asm); (case k3 => k_asm); (case k4 => k_is); (case k5 => k_is); (case k6 => k_is); k_whole; intro x' d' h' F' N' l1 l2; (try k_lt l1); (try k_lt2 l2); (refine' code_def ?k1 ?k2 ?k3 ?k4 ?k5 ?kA ?kF ?kK ?k6 ?k7 ?k8 ?k9 ?kB ?_ ?c2 ?c3 ?c4 ?c5; (case kA => exact rfl); (case kF => exact rfl); (case kK => first | exact rfl | assumption); (case k1 => k_asm); (case k2 => k_asm); (case k3 => k_asm); (case k4 => k_asm); (case k5 => k_asm); (case k6 => k_is); (case k7 => k_is); (case k8 => ktr_room); (case k9 => first | exact BindsTo.of_eq rfl | exact binds_K (by k_in) rfl (by k_is) rfl rfl rfl); (case c5 => decide); (case kB => exact locs rfl); (case c2 => exact rfl); (case c3 => exact rfl); (case c4 => exact rfl); k_whole; intro g' L' h' FG' F' N' B' X' T'; (try dsimp only); (try k_lift B'); (try k_fold)))))) | walk1) | (dsimp only; (first | (with_reducible ((k_here; (with_reducible show wpAny _ _ (call (Value.ref 127) _) _ _ _); k_dflt (refine' call_cls ?k1 ?k2 ?k3 ?k4 ?k5 ?k6 ?_; (case k1 => k_asm); (case k2 => k_asm); (case k3 => k_asm); (case k4 => k_is); (case k5 => k_is); (case k6 => k_is); k_whole; intro x' d' h' F' N' l1 l2; (try k_lt l1); (try k_lt2 l2); (refine' code_def ?k1 ?k2 ?k3 ?k4 ?k5 ?kA ?kF ?kK ?k6 ?k7 ?k8 ?k9 ?kB ?_ ?c2 ?c3 ?c4 ?c5; (case kA => exact rfl); (case kF => exact rfl); (case kK => first | exact rfl | assumption); (case k1 => k_asm); (case k2 => k_asm); (case k3 => k_asm); (case k4 => k_asm); (case k5 => k_asm); (case k6 => k_is); (case k7 => k_is); (case k8 => ktr_room); (case k9 => first | exact BindsTo.of_eq rfl | exact binds_K (by k_in) rfl (by k_is) rfl rfl rfl); (case c5 => decide); (case kB => exact locs rfl); (case c2 => exact rfl); (case c3 => exact rfl); (case c4 => exact rfl); k_whole; intro g' L' h' FG' F' N' B' X' T'; (try dsimp only); (try k_lift B'); (try k_fold)))))) | walk1))))
  k_dflt (refine' call_cls ?k1 ?k2 ?k3 ?k4 ?k5 ?k6 ?_; (case k1 => k_asm); (case k2 => k_asm); (case k3 => k_asm); (case k4 => k_is); (case k5 => k_is); (case k6 => k_is); k_whole)
  intro x' d' h' F' N' l1 l2
  (try k_lt l1); (try k_lt2 l2)
  refine' code_def ?k1 ?k2 ?k3 ?k4 ?k5 ?kA ?kF ?kK ?k6 ?k7 ?k8 ?k9 ?kB ?_ ?c2 ?c3 ?c4 ?c5; (case kA => exact rfl); (case kF => exact rfl); (case kK => first | exact rfl | assumption); (case k1 => k_asm); (case k2 => k_asm); (case k3 => k_asm); (case k4 => k_asm); (case k5 => k_asm); (case k6 => k_is); (case k7 => k_is); (case k8 => ktr_room); (case k9 => first | exact BindsTo.of_eq rfl | exact binds_K (by k_in) rfl (by k_is) rfl rfl rfl); (case c5 => decide); (case kB => exact locs rfl); (case c2 => exact rfl); (case c3 => exact rfl); (case c4 => exact rfl); k_whole
  intro g1 L1 h1 FG1 F1 N1 B1 X1 T1
  (try dsimp only); (try k_lift B1); (try k_fold)
  repeat' (first | (k_unfold; (try dsimp only)) | ((fail_if_success (with_reducible show wpAny _ _ (exec (Stmt.Raise _ _ _) _) _ _ _)); first | (first | (with_reducible ((k_here; (with_reducible show wpAny _ _ (call (Value.ref 127) _) _ _ _); k_dflt (refine' call_cls ?k1 ?k2 ?k3 ?k4 ?k5 ?k6 ?_; (case k1 => k_asm); (case k2 => k_asm); (case k3 => k_asm); (case k4 => k_is); (case k5 => k_is); (case k6 => k_is); k_whole; intro x' d' h' F' N' l1 l2; (try k_lt l1); (try k_lt2 l2); (refine' code_def ?k1 ?k2 ?k3 ?k4 ?k5 ?kA ?kF ?kK ?k6 ?k7 ?k8 ?k9 ?kB ?_ ?c2 ?c3 ?c4 ?c5; (case kA => exact rfl); (case kF => exact rfl); (case kK => first | exact rfl | assumption); (case k1 => k_asm); (case k2 => k_asm); (case k3 => k_asm); (case k4 => k_asm); (case k5 => k_asm); (case k6 => k_is); (case k7 => k_is); (case k8 => ktr_room); (case k9 => first | exact BindsTo.of_eq rfl | exact binds_K (by k_in) rfl (by k_is) rfl rfl rfl); (case c5 => decide); (case kB => exact locs rfl); (case c2 => exact rfl); (case c3 => exact rfl); (case c4 => exact rfl); k_whole; intro g' L' h' FG' F' N' B' X' T'; (try dsimp only); (try k_lift B'); (try k_fold)))))) | walk1) | (dsimp only; (first | (with_reducible ((k_here; (with_reducible show wpAny _ _ (call (Value.ref 127) _) _ _ _); k_dflt (refine' call_cls ?k1 ?k2 ?k3 ?k4 ?k5 ?k6 ?_; (case k1 => k_asm); (case k2 => k_asm); (case k3 => k_asm); (case k4 => k_is); (case k5 => k_is); (case k6 => k_is); k_whole; intro x' d' h' F' N' l1 l2; (try k_lt l1); (try k_lt2 l2); (refine' code_def ?k1 ?k2 ?k3 ?k4 ?k5 ?kA ?kF ?kK ?k6 ?k7 ?k8 ?k9 ?kB ?_ ?c2 ?c3 ?c4 ?c5; (case kA => exact rfl); (case kF => exact rfl); (case kK => first | exact rfl | assumption); (case k1 => k_asm); (case k2 => k_asm); (case k3 => k_asm); (case k4 => k_asm); (case k5 => k_asm); (case k6 => k_is); (case k7 => k_is); (case k8 => ktr_room); (case k9 => first | exact BindsTo.of_eq rfl | exact binds_K (by k_in) rfl (by k_is) rfl rfl rfl); (case c5 => decide); (case kB => exact locs rfl); (case c2 => exact rfl); (case c3 => exact rfl); (case c4 => exact rfl); k_whole; intro g' L' h' FG' F' N' B' X' T'; (try dsimp only); (try k_lift B'); (try k_fold)))))) | walk1))))
  obtain ⟨nm, q', N9, bs, bm, hdct, sn, sub, ab, col, dd, k0, k1, k2, k3, k5, newId, hC, hbase, _⟩ := kts_cls (C := 59) (T := "BaseException") X1 (by kts_isx)
  refine Raise_D (nm := nm) (q := q') (C := 59) (N := N9) (bs := bs) (bm := bm) (hdct := hdct) (sn := sn) (sub := sub) (ab := ab) (col := col) (dd := dd) (k0 := k0) (k1 := k1) (k2 := k2) (k3 := k3) (k5 := k5) (newId := newId) hbase rfl ?_
  repeat' (first | (k_unfold; (try dsimp only)) | ((fail_if_success (with_reducible show wpAny _ _ (call (Value.ref _) _) _ _ _)); first | (first | (with_reducible ((k_here; (with_reducible show wpAny _ _ (call (Value.ref 127) _) _ _ _); k_dflt (refine' call_cls ?k1 ?k2 ?k3 ?k4 ?k5 ?k6 ?_; (case k1 => k_asm); (case k2 => k_asm); (case k3 => k_asm); (case k4 => k_is); (case k5 => k_is); (case k6 => k_is); k_whole; intro x' d' h' F' N' l1 l2; (try k_lt l1); (try k_lt2 l2); (refine' code_def ?k1 ?k2 ?k3 ?k4 ?k5 ?kA ?kF ?kK ?k6 ?k7 ?k8 ?k9 ?kB ?_ ?c2 ?c3 ?c4 ?c5; (case kA => exact rfl); (case kF => exact rfl); (case kK => first | exact rfl | assumption); (case k1 => k_asm); (case k2 => k_asm); (case k3 => k_asm); (case k4 => k_asm); (case k5 => k_asm); (case k6 => k_is); (case k7 => k_is); (case k8 => ktr_room); (case k9 => first | exact BindsTo.of_eq rfl | exact binds_K (by k_in) rfl (by k_is) rfl rfl rfl); (case c5 => decide); (case kB => exact locs rfl); (case c2 => exact rfl); (case c3 => exact rfl); (case c4 => exact rfl); k_whole; intro g' L' h' FG' F' N' B' X' T'; (try dsimp only); (try k_lift B'); (try k_fold)))))) | walk1) | (dsimp only; (first | (with_reducible ((k_here; (with_reducible show wpAny _ _ (call (Value.ref 127) _) _ _ _); k_dflt (refine' call_cls ?k1 ?k2 ?k3 ?k4 ?k5 ?k6 ?_; (case k1 => k_asm); (case k2 => k_asm); (case k3 => k_asm); (case k4 => k_is); (case k5 => k_is); (case k6 => k_is); k_whole; intro x' d' h' F' N' l1 l2; (try k_lt l1); (try k_lt2 l2); (refine' code_def ?k1 ?k2 ?k3 ?k4 ?k5 ?kA ?kF ?kK ?k6 ?k7 ?k8 ?k9 ?kB ?_ ?c2 ?c3 ?c4 ?c5; (case kA => exact rfl); (case kF => exact rfl); (case kK => first | exact rfl | assumption); (case k1 => k_asm); (case k2 => k_asm); (case k3 => k_asm); (case k4 => k_asm); (case k5 => k_asm); (case k6 => k_is); (case k7 => k_is); (case k8 => ktr_room); (case k9 => first | exact BindsTo.of_eq rfl | exact binds_K (by k_in) rfl (by k_is) rfl rfl rfl); (case c5 => decide); (case kB => exact locs rfl); (case c2 => exact rfl); (case c3 => exact rfl); (case c4 => exact rfl); k_whole; intro g' L' h' FG' F' N' B' X' T'; (try dsimp only); (try k_lift B'); (try k_fold)))))) | walk1))))
  refine mkexc_a _ w gd _ _ _ _ _ _ _ _ _ _ (Frag.In.keeps X1 (Fr.keep (by k_asm))) ?_
  intro h5 e5 t5 M5
  obtain ⟨t6, d6, he6, _, _⟩ := M5.there
  refine ⟨e5, t6, d6, rfl, M5.keeps _ _ (Fr.keep (by k_asm) _ _ hC), he6, ?_⟩
  refine leave_raiseD B1 M5 (by k_asm) (by k_asm) ?_
  intro h6 t7 R6 R6' U6
  exact hE _ _ ⟨e5, t7, _, g1, _, h6, _, rfl, rfl, FG1, raisedS_sub R6 (fun q hq => by repeat' (first | exact hq | apply List.Mem.tail)), U6⟩
theorem lamr2 {w : World} {p : Program} {loose : List Str} {mean : ExcName → Option Value} {mg mb : Str → Option Value} {pa pb p0 p1 p2 p3 : Pos} : LamR w p loose mean mg mb (.Call (.Name "TwoRate" pa) [(.Constant (.int 1) 0 p0), (.Constant (.int 0) 0 p1), (.Constant (.int 2) 0 p2), (.Constant (.int 5) 0 p3)] [] pb) (lscope "TwoRate") := by
  refine ⟨?_⟩
  k_fill
  intro qual L a ccd gd outer A₀ base h₀ m s Q E news B F X N T hE
  repeat' (first | (k_unfold; (try dsimp only)) | ((fail_if_success (with_reducible show wpAny _ _ (call (Value.ref _) _) _ _ _)); first | (first | (with_reducible ((k_here; (with_reducible show wpAny _ _ (call (Value.ref 127) _) _ _ _); k_dflt (refine' call_cls ?k1 ?k2 ?k3 ?k4 ?k5 ?k6 ?_; (case k1 => k_asm); (case k2 => k_asm); (case k3 => k_asm); (case k4 => k_is); (case k5 => k_is); (case k6 => k_is); k_whole; intro x' d' h' F' N' l1 l2; (try k_lt l1); (try k_lt2 l2); (refine' code_def ?k1 ?k2 ?k3 ?k4 ?k5 ?kA ?kF ?kK ?k6 ?k7 ?k8 ?k9 ?kB ?_ ?c2 ?c3 ?c4 ?c5; (case kA => exact rfl); (case kF => exact rfl); (case kK => first | exact rfl | assumption); (case k1 => k_asm); (case k2 => k_asm); (case k3 => k_asm); (case k4 => k_asm); (case k5 => k_asm); (case k6 => k_is); (case k7 => k_is); (case k8 => ktr_room); (case k9 => first | exact BindsTo.of_eq rfl | exact binds_K (by k_in) rfl (by k_is) rfl rfl rfl); (case c5 => decide); (case kB => exact locs rfl); (case c2 => exact rfl); (case c3 => exact rfl); (case c4 => exact rfl); k_whole; intro g' L' h' FG' F' N' B' X' T'; (try dsimp only); (try k_lift B'); (try k_fold)))))) | walk1) | (dsimp only; (first | (with_reducible ((k_here; (with_reducible show wpAny _ _ (call (Value.ref 127) _) _ _ _); k_dflt (refine' call_cls ?k1 ?k2 ?k3 ?k4 ?k5 ?k6 ?_; (case k1 => k_asm); (case k2 => k_asm); (case k3 => k_asm); (case k4 => k_is); (case k5 => k_is); (case k6 => k_is); k_whole; intro x' d' h' F' N' l1 l2; (try k_lt l1); (try k_lt2 l2); (refine' code_def ?k1 ?k2 ?k3 ?k4 ?k5 ?kA ?kF ?kK ?k6 ?k7 ?k8 ?k9 ?kB ?_ ?c2 ?c3 ?c4 ?c5; (case kA => exact rfl); (case kF => exact rfl); (case kK => first | exact rfl | assumption); (case k1 => k_asm); (case k2 => k_asm); (case k3 => k_asm); (case k4 => k_asm); (case k5 => k_asm); (case k6 => k_is); (case k7 => k_is); (case k8 => ktr_room); (case k9 => first | exact BindsTo.of_eq rfl | exact binds_K (by k_in) rfl (by k_is) rfl rfl rfl); (case c5 => decide); (case kB => exact locs rfl); (case c2 => exact rfl); (case c3 => exact rfl); (case c4 => exact rfl); k_whole; intro g' L' h' FG' F' N' B' X' T'; (try dsimp only); (try k_lift B'); (try k_fold)))))) | walk1))))
  k_dflt (refine' call_cls ?k1 ?k2 ?k3 ?k4 ?k5 ?k6 ?_; (case k1 => k_asm); (case k2 => k_asm); (case k3 => k_asm); (case k4 => k_is); (case k5 => k_is); (case k6 => k_is); k_whole)
  intro x' d' h' F' N' l1 l2
  (try k_lt l1); (try k_lt2 l2)
  refine' code_def ?k1 ?k2 ?k3 ?k4 ?k5 ?kA ?kF ?kK ?k6 ?k7 ?k8 ?k9 ?kB ?_ ?c2 ?c3 ?c4 ?c5; (case kA => exact rfl); (case kF => exact rfl); (case kK => first | exact rfl | assumption); (case k1 => k_asm); (case k2 => k_asm); (case k3 => k_asm); (case k4 => k_asm); (case k5 => k_asm); (case k6 => k_is); (case k7 => k_is); (case k8 => ktr_room); (case k9 => first | exact BindsTo.of_eq rfl | exact binds_K (by k_in) rfl (by k_is) rfl rfl rfl); (case c5 => decide); (case kB => exact locs rfl); (case c2 => exact rfl); (case c3 => exact rfl); (case c4 => exact rfl); k_whole
  intro g1 L1 h1 FG1 F1 N1 B1 X1 T1
  (try dsimp only); (try k_lift B1); (try k_fold)
  repeat' (first | (k_unfold; (try dsimp only)) | ((fail_if_success (with_reducible show wpAny _ _ (call (Value.ref _) _) _ _ _)); first | (first | (with_reducible ((k_here; (with_reducible show wpAny _ _ (call (Value.ref 127) _) _ _ _); k_dflt (refine' call_cls ?k1 ?k2 ?k3 ?k4 ?k5 ?k6 ?_; (case k1 => k_asm); (case k2 => k_asm); (case k3 => k_asm); (case k4 => k_is); (case k5 => k_is); (case k6 => k_is); k_whole; intro x' d' h' F' N' l1 l2; (try k_lt l1); (try k_lt2 l2); (refine' code_def ?k1 ?k2 ?k3 ?k4 ?k5 ?kA ?kF ?kK ?k6 ?k7 ?k8 ?k9 ?kB ?_ ?c2 ?c3 ?c4 ?c5; (case kA => exact rfl); (case kF => exact rfl); (case kK => first | exact rfl | assumption); (case k1 => k_asm); (case k2 => k_asm); (case k3 => k_asm); (case k4 => k_asm); (case k5 => k_asm); (case k6 => k_is); (case k7 => k_is); (case k8 => ktr_room); (case k9 => first | exact BindsTo.of_eq rfl | exact binds_K (by k_in) rfl (by k_is) rfl rfl rfl); (case c5 => decide); (case kB => exact locs rfl); (case c2 => exact rfl); (case c3 => exact rfl); (case c4 => exact rfl); k_whole; intro g' L' h' FG' F' N' B' X' T'; (try dsimp only); (try k_lift B'); (try k_fold)))))) | walk1) | (dsimp only; (first | (with_reducible ((k_here; (with_reducible show wpAny _ _ (call (Value.ref 127) _) _ _ _); k_dflt (refine' call_cls ?k1 ?k2 ?k3 ?k4 ?k5 ?k6 ?_; (case k1 => k_asm); (case k2 => k_asm); (case k3 => k_asm); (case k4 => k_is); (case k5 => k_is); (case k6 => k_is); k_whole; intro x' d' h' F' N' l1 l2; (try k_lt l1); (try k_lt2 l2); (refine' code_def ?k1 ?k2 ?k3 ?k4 ?k5 ?kA ?kF ?kK ?k6 ?k7 ?k8 ?k9 ?kB ?_ ?c2 ?c3 ?c4 ?c5; (case kA => exact rfl); (case kF => exact rfl); (case kK => first | exact rfl | assumption); (case k1 => k_asm); (case k2 => k_asm); (case k3 => k_asm); (case k4 => k_asm); (case k5 => k_asm); (case k6 => k_is); (case k7 => k_is); (case k8 => ktr_room); (case k9 => first | exact BindsTo.of_eq rfl | exact binds_K (by k_in) rfl (by k_is) rfl rfl rfl); (case c5 => decide); (case kB => exact locs rfl); (case c2 => exact rfl); (case c3 => exact rfl); (case c4 => exact rfl); k_whole; intro g' L' h' FG' F' N' B' X' T'; (try dsimp only); (try k_lift B'); (try k_fold)))))) | walk1))))
  refine bucket_r (by omega) gd _ _ _ _ _ _ _ _ _ _ _ _ _ B1 (by k_asm) X1 (by k_asm) T1 rfl ?_
  rintro v9 s9 ⟨e9, t9, vs9, g9, m9, h9, tk9, rfl, rfl, FG9, R9, U9⟩
  refine leave_onS B1 FG9 R9 U9 ?_
  intro h8 R8 R8' U8
  exact hE _ _ ⟨e9, t9, _, g1, _, h8, _, rfl, rfl, FG1, raisedS_sub R8 (fun q hq => by repeat' (first | exact hq | apply List.Mem.tail)), U8⟩
theorem lamr3 {w : World} {p : Program} {loose : List Str} {mean : ExcName → Option Value} {mg mb : Str → Option Value} {pa pb p0 p1 p2 p3 : Pos} : LamR w p loose mean mg mb (.Call (.Name "TwoRate" pa) [(.Constant (.int 1) 0 p0), (.Constant (.int 5) 0 p1), (.Constant (.int 2) 0 p2), (.Constant (.int 0) 0 p3)] [] pb) (lscope "TwoRate") := by
  refine ⟨?_⟩
  k_fill
  intro qual L a ccd gd outer A₀ base h₀ m s Q E news B F X N T hE
  repeat' (first | (k_unfold; (try dsimp only)) | ((fail_if_success (with_reducible show wpAny _ _ (call (Value.ref _) _) _ _ _)); first | (first | (with_reducible ((k_here; (with_reducible show wpAny _ _ (call (Value.ref 127) _) _ _ _); k_dflt (refine' call_cls ?k1 ?k2 ?k3 ?k4 ?k5 ?k6 ?_; (case k1 => k_asm); (case k2 => k_asm); (case k3 => k_asm); (case k4 => k_is); (case k5 => k_is); (case k6 => k_is); k_whole; intro x' d' h' F' N' l1 l2; (try k_lt l1); (try k_lt2 l2); (refine' code_def ?k1 ?k2 ?k3 ?k4 ?k5 ?kA ?kF ?kK ?k6 ?k7 ?k8 ?k9 ?kB ?_ ?c2 ?c3 ?c4 ?c5; (case kA => exact rfl); (case kF => exact rfl); (case kK => first | exact rfl | assumption); (case k1 => k_asm); (case k2 => k_asm); (case k3 => k_asm); (case k4 => k_asm); (case k5 => k_asm); (case k6 => k_is); (case k7 => k_is); (case k8 => ktr_room); (case k9 => first | exact BindsTo.of_eq rfl | exact binds_K (by k_in) rfl (by k_is) rfl rfl rfl); (case c5 => decide); (case kB => exact locs rfl); (case c2 => exact rfl); (case c3 => exact rfl); (case c4 => exact rfl); k_whole; intro g' L' h' FG' F' N' B' X' T'; (try dsimp only); (try k_lift B'); (try k_fold)))))) | walk1) | (dsimp only; (first | (with_reducible ((k_here; (with_reducible show wpAny _ _ (call (Value.ref 127) _) _ _ _); k_dflt (refine' call_cls ?k1 ?k2 ?k3 ?k4 ?k5 ?k6 ?_; (case k1 => k_asm); (case k2 => k_asm); (case k3 => k_asm); (case k4 => k_is); (case k5 => k_is); (case k6 => k_is); k_whole; intro x' d' h' F' N' l1 l2; (try k_lt l1); (try k_lt2 l2); (refine' code_def ?k1 ?k2 ?k3 ?k4 ?k5 ?kA ?kF ?kK ?k6 ?k7 ?k8 ?k9 ?kB ?_ ?c2 ?c3 ?c4 ?c5; (case kA => exact rfl); (case kF => exact rfl); (case kK => first | exact rfl | assumption); (case k1 => k_asm); (case k2 => k_asm); (case k3 => k_asm); (case k4 => k_asm); (case k5 => k_asm); (case k6 => k_is); (case k7 => k_is); (case k8 => ktr_room); (case k9 => first | exact BindsTo.of_eq rfl | exact binds_K (by k_in) rfl (by k_is) rfl rfl rfl); (case c5 => decide); (case kB => exact locs rfl); (case c2 => exact rfl); (case c3 => exact rfl); (case c4 => exact rfl); k_whole; intro g' L' h' FG' F' N' B' X' T'; (try dsimp only); (try k_lift B'); (try k_fold)))))) | walk1))))
  k_dflt (refine' call_cls ?k1 ?k2 ?k3 ?k4 ?k5 ?k6 ?_; (case k1 => k_asm); (case k2 => k_asm); (case k3 => k_asm); (case k4 => k_is); (case k5 => k_is); (case k6 => k_is); k_whole)
  intro x' d' h' F' N' l1 l2
  (try k_lt l1); (try k_lt2 l2)
  refine' code_def ?k1 ?k2 ?k3 ?k4 ?k5 ?kA ?kF ?kK ?k6 ?k7 ?k8 ?k9 ?kB ?_ ?c2 ?c3 ?c4 ?c5; (case kA => exact rfl); (case kF => exact rfl); (case kK => first | exact rfl | assumption); (case k1 => k_asm); (case k2 => k_asm); (case k3 => k_asm); (case k4 => k_asm); (case k5 => k_asm); (case k6 => k_is); (case k7 => k_is); (case k8 => ktr_room); (case k9 => first | exact BindsTo.of_eq rfl | exact binds_K (by k_in) rfl (by k_is) rfl rfl rfl); (case c5 => decide); (case kB => exact locs rfl); (case c2 => exact rfl); (case c3 => exact rfl); (case c4 => exact rfl); k_whole
  intro g1 L1 h1 FG1 F1 N1 B1 X1 T1
  (try dsimp only); (try k_lift B1); (try k_fold)
  repeat' (first | (k_unfold; (try dsimp only)) | ((fail_if_success (with_reducible show wpAny _ _ (call (Value.ref _) _) _ _ _)); first | (first | (with_reducible ((k_here; (with_reducible show wpAny _ _ (call (Value.ref 127) _) _ _ _); k_dflt (refine' call_cls ?k1 ?k2 ?k3 ?k4 ?k5 ?k6 ?_; (case k1 => k_asm); (case k2 => k_asm); (case k3 => k_asm); (case k4 => k_is); (case k5 => k_is); (case k6 => k_is); k_whole; intro x' d' h' F' N' l1 l2; (try k_lt l1); (try k_lt2 l2); (refine' code_def ?k1 ?k2 ?k3 ?k4 ?k5 ?kA ?kF ?kK ?k6 ?k7 ?k8 ?k9 ?kB ?_ ?c2 ?c3 ?c4 ?c5; (case kA => exact rfl); (case kF => exact rfl); (case kK => first | exact rfl | assumption); (case k1 => k_asm); (case k2 => k_asm); (case k3 => k_asm); (case k4 => k_asm); (case k5 => k_asm); (case k6 => k_is); (case k7 => k_is); (case k8 => ktr_room); (case k9 => first | exact BindsTo.of_eq rfl | exact binds_K (by k_in) rfl (by k_is) rfl rfl rfl); (case c5 => decide); (case kB => exact locs rfl); (case c2 => exact rfl); (case c3 => exact rfl); (case c4 => exact rfl); k_whole; intro g' L' h' FG' F' N' B' X' T'; (try dsimp only); (try k_lift B'); (try k_fold)))))) | walk1) | (dsimp only; (first | (with_reducible ((k_here; (with_reducible show wpAny _ _ (call (Value.ref 127) _) _ _ _); k_dflt (refine' call_cls ?k1 ?k2 ?k3 ?k4 ?k5 ?k6 ?_; (case k1 => k_asm); (case k2 => k_asm); (case k3 => k_asm); (case k4 => k_is); (case k5 => k_is); (case k6 => k_is); k_whole; intro x' d' h' F' N' l1 l2; (try k_lt l1); (try k_lt2 l2); (refine' code_def ?k1 ?k2 ?k3 ?k4 ?k5 ?kA ?kF ?kK ?k6 ?k7 ?k8 ?k9 ?kB ?_ ?c2 ?c3 ?c4 ?c5; (case kA => exact rfl); (case kF => exact rfl); (case kK => first | exact rfl | assumption); (case k1 => k_asm); (case k2 => k_asm); (case k3 => k_asm); (case k4 => k_asm); (case k5 => k_asm); (case k6 => k_is); (case k7 => k_is); (case k8 => ktr_room); (case k9 => first | exact BindsTo.of_eq rfl | exact binds_K (by k_in) rfl (by k_is) rfl rfl rfl); (case c5 => decide); (case kB => exact locs rfl); (case c2 => exact rfl); (case c3 => exact rfl); (case c4 => exact rfl); k_whole; intro g' L' h' FG' F' N' B' X' T'; (try dsimp only); (try k_lift B'); (try k_fold)))))) | walk1))))
  (first | (with_reducible ((k_here; (with_reducible show wpAny _ _ (call (Value.ref 127) _) _ _ _); k_dflt (refine' call_cls ?k1 ?k2 ?k3 ?k4 ?k5 ?k6 ?_; (case k1 => k_asm); (case k2 => k_asm); (case k3 => k_asm); (case k4 => k_is); (case k5 => k_is); (case k6 => k_is); k_whole; intro x' d' h' F' N' l1 l2; (try k_lt l1); (try k_lt2 l2); (refine' code_def ?k1 ?k2 ?k3 ?k4 ?k5 ?kA ?kF ?kK ?k6 ?k7 ?k8 ?k9 ?kB ?_ ?c2 ?c3 ?c4 ?c5; (case kA => exact rfl); (case kF => exact rfl); (case kK => first | exact rfl | assumption); (case k1 => k_asm); (case k2 => k_asm); (case k3 => k_asm); (case k4 => k_asm); (case k5 => k_asm); (case k6 => k_is); (case k7 => k_is); (case k8 => ktr_room); (case k9 => first | exact BindsTo.of_eq rfl | exact binds_K (by k_in) rfl (by k_is) rfl rfl rfl); (case c5 => decide); (case kB => exact locs rfl); (case c2 => exact rfl); (case c3 => exact rfl); (case c4 => exact rfl); k_whole; intro g' L' h' FG' F' N' B' X' T'; (try dsimp only); (try k_lift B'); (try k_fold)))))) | walk1)
  repeat' (first | (k_unfold; (try dsimp only)) | ((fail_if_success (with_reducible show wpAny _ _ (call (Value.ref _) _) _ _ _)); first | (first | (with_reducible ((k_here; (with_reducible show wpAny _ _ (call (Value.ref 127) _) _ _ _); k_dflt (refine' call_cls ?k1 ?k2 ?k3 ?k4 ?k5 ?k6 ?_; (case k1 => k_asm); (case k2 => k_asm); (case k3 => k_asm); (case k4 => k_is); (case k5 => k_is); (case k6 => k_is); k_whole; intro x' d' h' F' N' l1 l2; (try k_lt l1); (try k_lt2 l2); (refine' code_def ?k1 ?k2 ?k3 ?k4 ?k5 ?kA ?kF ?kK ?k6 ?k7 ?k8 ?k9 ?kB ?_ ?c2 ?c3 ?c4 ?c5; (case kA => exact rfl); (case kF => exact rfl); (case kK => first | exact rfl | assumption); (case k1 => k_asm); (case k2 => k_asm); (case k3 => k_asm); (case k4 => k_asm); (case k5 => k_asm); (case k6 => k_is); (case k7 => k_is); (case k8 => ktr_room); (case k9 => first | exact BindsTo.of_eq rfl | exact binds_K (by k_in) rfl (by k_is) rfl rfl rfl); (case c5 => decide); (case kB => exact locs rfl); (case c2 => exact rfl); (case c3 => exact rfl); (case c4 => exact rfl); k_whole; intro g' L' h' FG' F' N' B' X' T'; (try dsimp only); (try k_lift B'); (try k_fold)))))) | walk1) | (dsimp only; (first | (with_reducible ((k_here; (with_reducible show wpAny _ _ (call (Value.ref 127) _) _ _ _); k_dflt (refine' call_cls ?k1 ?k2 ?k3 ?k4 ?k5 ?k6 ?_; (case k1 => k_asm); (case k2 => k_asm); (case k3 => k_asm); (case k4 => k_is); (case k5 => k_is); (case k6 => k_is); k_whole; intro x' d' h' F' N' l1 l2; (try k_lt l1); (try k_lt2 l2); (refine' code_def ?k1 ?k2 ?k3 ?k4 ?k5 ?kA ?kF ?kK ?k6 ?k7 ?k8 ?k9 ?kB ?_ ?c2 ?c3 ?c4 ?c5; (case kA => exact rfl); (case kF => exact rfl); (case kK => first | exact rfl | assumption); (case k1 => k_asm); (case k2 => k_asm); (case k3 => k_asm); (case k4 => k_asm); (case k5 => k_asm); (case k6 => k_is); (case k7 => k_is); (case k8 => ktr_room); (case k9 => first | exact BindsTo.of_eq rfl | exact binds_K (by k_in) rfl (by k_is) rfl rfl rfl); (case c5 => decide); (case kB => exact locs rfl); (case c2 => exact rfl); (case c3 => exact rfl); (case c4 => exact rfl); k_whole; intro g' L' h' FG' F' N' B' X' T'; (try dsimp only); (try k_lift B'); (try k_fold)))))) | walk1))))
  refine bucket_r (by omega) gd _ _ _ _ _ _ _ _ _ _ _ _ _ B1 (by k_asm) X1 (by k_asm) T1 rfl ?_
  rintro v9 s9 ⟨e9, t9, vs9, g9, m9, h9, tk9, rfl, rfl, FG9, R9, U9⟩
  refine leave_onS B1 FG9 R9 U9 ?_
  intro h8 R8 R8' U8
  exact hE _ _ ⟨e9, t9, _, g1, _, h8, _, rfl, rfl, FG1, raisedS_sub R8 (fun q hq => by repeat' (first | exact hq | apply List.Mem.tail)), U8⟩
theorem lamr4 {w : World} {p : Program} {loose : List Str} {mean : ExcName → Option Value} {mg mb : Str → Option Value} {pa pb p0 q0 p1 p2 p3 : Pos} : LamR w p loose mean mg mb (.Call (.Name "TwoRate" pa) [(.UnaryOp .USub (.Constant (.int 1) 0 p0) q0), (.Constant (.int 5) 0 p1), (.Constant (.int 2) 0 p2), (.Constant (.int 5) 0 p3)] [] pb) (lscope "TwoRate") := by
  refine ⟨?_⟩
  k_fill
  intro qual L a ccd gd outer A₀ base h₀ m s Q E news B F X N T hE
  repeat' (first | (k_unfold; (try dsimp only)) | ((fail_if_success (with_reducible show wpAny _ _ (call (Value.ref _) _) _ _ _)); first | (first | (with_reducible ((k_here; (with_reducible show wpAny _ _ (call (Value.ref 127) _) _ _ _); k_dflt (refine' call_cls ?k1 ?k2 ?k3 ?k4 ?k5 ?k6 ?_; (case k1 => k_asm); (case k2 => k_asm); (case k3 => k_asm); (case k4 => k_is); (case k5 => k_is); (case k6 => k_is); k_whole; intro x' d' h' F' N' l1 l2; (try k_lt l1); (try k_lt2 l2); (refine' code_def ?k1 ?k2 ?k3 ?k4 ?k5 ?kA ?kF ?kK ?k6 ?k7 ?k8 ?k9 ?kB ?_ ?c2 ?c3 ?c4 ?c5; (case kA => exact rfl); (case kF => exact rfl); (case kK => first | exact rfl | assumption); (case k1 => k_asm); (case k2 => k_asm); (case k3 => k_asm); (case k4 => k_asm); (case k5 => k_asm); (case k6 => k_is); (case k7 => k_is); (case k8 => ktr_room); (case k9 => first | exact BindsTo.of_eq rfl | exact binds_K (by k_in) rfl (by k_is) rfl rfl rfl); (case c5 => decide); (case kB => exact locs rfl); (case c2 => exact rfl); (case c3 => exact rfl); (case c4 => exact rfl); k_whole; intro g' L' h' FG' F' N' B' X' T'; (try dsimp only); (try k_lift B'); (try k_fold)))))) | walk1) | (dsimp only; (first | (with_reducible ((k_here; (with_reducible show wpAny _ _ (call (Value.ref 127) _) _ _ _); k_dflt (refine' call_cls ?k1 ?k2 ?k3 ?k4 ?k5 ?k6 ?_; (case k1 => k_asm); (case k2 => k_asm); (case k3 => k_asm); (case k4 => k_is); (case k5 => k_is); (case k6 => k_is); k_whole; intro x' d' h' F' N' l1 l2; (try k_lt l1); (try k_lt2 l2); (refine' code_def ?k1 ?k2 ?k3 ?k4 ?k5 ?kA ?kF ?kK ?k6 ?k7 ?k8 ?k9 ?kB ?_ ?c2 ?c3 ?c4 ?c5; (case kA => exact rfl); (case kF => exact rfl); (case kK => first | exact rfl | assumption); (case k1 => k_asm); (case k2 => k_asm); (case k3 => k_asm); (case k4 => k_asm); (case k5 => k_asm); (case k6 => k_is); (case k7 => k_is); (case k8 => ktr_room); (case k9 => first | exact BindsTo.of_eq rfl | exact binds_K (by k_in) rfl (by k_is) rfl rfl rfl); (case c5 => decide); (case kB => exact locs rfl); (case c2 => exact rfl); (case c3 => exact rfl); (case c4 => exact rfl); k_whole; intro g' L' h' FG' F' N' B' X' T'; (try dsimp only); (try k_lift B'); (try k_fold)))))) | walk1))))
  k_dflt (refine' call_cls ?k1 ?k2 ?k3 ?k4 ?k5 ?k6 ?_; (case k1 => k_asm); (case k2 => k_asm); (case k3 => k_asm); (case k4 => k_is); (case k5 => k_is); (case k6 => k_is); k_whole)
  intro x' d' h' F' N' l1 l2
  (try k_lt l1); (try k_lt2 l2)
  refine' code_def ?k1 ?k2 ?k3 ?k4 ?k5 ?kA ?kF ?kK ?k6 ?k7 ?k8 ?k9 ?kB ?_ ?c2 ?c3 ?c4 ?c5; (case kA => exact rfl); (case kF => exact rfl); (case kK => first | exact rfl | assumption); (case k1 => k_asm); (case k2 => k_asm); (case k3 => k_asm); (case k4 => k_asm); (case k5 => k_asm); (case k6 => k_is); (case k7 => k_is); (case k8 => ktr_room); (case k9 => first | exact BindsTo.of_eq rfl | exact binds_K (by k_in) rfl (by k_is) rfl rfl rfl); (case c5 => decide); (case kB => exact locs rfl); (case c2 => exact rfl); (case c3 => exact rfl); (case c4 => exact rfl); k_whole
  intro g1 L1 h1 FG1 F1 N1 B1 X1 T1
  (try dsimp only); (try k_lift B1); (try k_fold)
  repeat' (first | (k_unfold; (try dsimp only)) | ((fail_if_success (with_reducible show wpAny _ _ (call (Value.ref _) _) _ _ _)); first | (first | (with_reducible ((k_here; (with_reducible show wpAny _ _ (call (Value.ref 127) _) _ _ _); k_dflt (refine' call_cls ?k1 ?k2 ?k3 ?k4 ?k5 ?k6 ?_; (case k1 => k_asm); (case k2 => k_asm); (case k3 => k_asm); (case k4 => k_is); (case k5 => k_is); (case k6 => k_is); k_whole; intro x' d' h' F' N' l1 l2; (try k_lt l1); (try k_lt2 l2); (refine' code_def ?k1 ?k2 ?k3 ?k4 ?k5 ?kA ?kF ?kK ?k6 ?k7 ?k8 ?k9 ?kB ?_ ?c2 ?c3 ?c4 ?c5; (case kA => exact rfl); (case kF => exact rfl); (case kK => first | exact rfl | assumption); (case k1 => k_asm); (case k2 => k_asm); (case k3 => k_asm); (case k4 => k_asm); (case k5 => k_asm); (case k6 => k_is); (case k7 => k_is); (case k8 => ktr_room); (case k9 => first | exact BindsTo.of_eq rfl | exact binds_K (by k_in) rfl (by k_is) rfl rfl rfl); (case c5 => decide); (case kB => exact locs rfl); (case c2 => exact rfl); (case c3 => exact rfl); (case c4 => exact rfl); k_whole; intro g' L' h' FG' F' N' B' X' T'; (try dsimp only); (try k_lift B'); (try k_fold)))))) | walk1) | (dsimp only; (first | (with_reducible ((k_here; (with_reducible show wpAny _ _ (call (Value.ref 127) _) _ _ _); k_dflt (refine' call_cls ?k1 ?k2 ?k3 ?k4 ?k5 ?k6 ?_; (case k1 => k_asm); (case k2 => k_asm); (case k3 => k_asm); (case k4 => k_is); (case k5 => k_is); (case k6 => k_is); k_whole; intro x' d' h' F' N' l1 l2; (try k_lt l1); (try k_lt2 l2); (refine' code_def ?k1 ?k2 ?k3 ?k4 ?k5 ?kA ?kF ?kK ?k6 ?k7 ?k8 ?k9 ?kB ?_ ?c2 ?c3 ?c4 ?c5; (case kA => exact rfl); (case kF => exact rfl); (case kK => first | exact rfl | assumption); (case k1 => k_asm); (case k2 => k_asm); (case k3 => k_asm); (case k4 => k_asm); (case k5 => k_asm); (case k6 => k_is); (case k7 => k_is); (case k8 => ktr_room); (case k9 => first | exact BindsTo.of_eq rfl | exact binds_K (by k_in) rfl (by k_is) rfl rfl rfl); (case c5 => decide); (case kB => exact locs rfl); (case c2 => exact rfl); (case c3 => exact rfl); (case c4 => exact rfl); k_whole; intro g' L' h' FG' F' N' B' X' T'; (try dsimp only); (try k_lift B'); (try k_fold)))))) | walk1))))
  refine bucket_r (by omega) gd _ _ _ _ _ _ _ _ _ _ _ _ _ B1 (by k_asm) X1 (by k_asm) T1 rfl ?_
  rintro v9 s9 ⟨e9, t9, vs9, g9, m9, h9, tk9, rfl, rfl, FG9, R9, U9⟩
  refine leave_onS B1 FG9 R9 U9 ?_
  intro h8 R8 R8' U8
  exact hE _ _ ⟨e9, t9, _, g1, _, h8, _, rfl, rfl, FG1, raisedS_sub R8 (fun q hq => by repeat' (first | exact hq | apply List.Mem.tail)), U8⟩
theorem lamr5 {w : World} {p : Program} {loose : List Str} {mean : ExcName → Option Value} {mg mb : Str → Option Value} {pa pb p0 q0 p1 p2 : Pos} : LamR w p loose mean mg mb (.Call (.Name "SingleRate" pa) [(.UnaryOp .USub (.Constant (.int 1) 0 p0) q0), (.Constant (.int 5) 0 p1), (.Constant (.int 5) 0 p2)] [] pb) (lscope "SingleRate") := by
  refine ⟨?_⟩
  k_fill
  intro qual L a ccd gd outer A₀ base h₀ m s Q E news B F X N T hE
  repeat' (first | (k_unfold; (try dsimp only)) | ((fail_if_success (with_reducible show wpAny _ _ (call (Value.ref _) _) _ _ _)); first | (first | (with_reducible ((k_here; (with_reducible show wpAny _ _ (call (Value.ref 127) _) _ _ _); k_dflt (refine' call_cls ?k1 ?k2 ?k3 ?k4 ?k5 ?k6 ?_; (case k1 => k_asm); (case k2 => k_asm); (case k3 => k_asm); (case k4 => k_is); (case k5 => k_is); (case k6 => k_is); k_whole; intro x' d' h' F' N' l1 l2; (try k_lt l1); (try k_lt2 l2); (refine' code_def ?k1 ?k2 ?k3 ?k4 ?k5 ?kA ?kF ?kK ?k6 ?k7 ?k8 ?k9 ?kB ?_ ?c2 ?c3 ?c4 ?c5; (case kA => exact rfl); (case kF => exact rfl); (case kK => first | exact rfl | assumption); (case k1 => k_asm); (case k2 => k_asm); (case k3 => k_asm); (case k4 => k_asm); (case k5 => k_asm); (case k6 => k_is); (case k7 => k_is); (case k8 => ktr_room); (case k9 => first | exact BindsTo.of_eq rfl | exact binds_K (by k_in) rfl (by k_is) rfl rfl rfl); (case c5 => decide); (case kB => exact locs rfl); (case c2 => exact rfl); (case c3 => exact rfl); (case c4 => exact rfl); k_whole; intro g' L' h' FG' F' N' B' X' T'; (try dsimp only); (try k_lift B'); (try k_fold)))))) | walk1) | (dsimp only; (first | (with_reducible ((k_here; (with_reducible show wpAny _ _ (call (Value.ref 127) _) _ _ _); k_dflt (refine' call_cls ?k1 ?k2 ?k3 ?k4 ?k5 ?k6 ?_; (case k1 => k_asm); (case k2 => k_asm); (case k3 => k_asm); (case k4 => k_is); (case k5 => k_is); (case k6 => k_is); k_whole; intro x' d' h' F' N' l1 l2; (try k_lt l1); (try k_lt2 l2); (refine' code_def ?k1 ?k2 ?k3 ?k4 ?k5 ?kA ?kF ?kK ?k6 ?k7 ?k8 ?k9 ?kB ?_ ?c2 ?c3 ?c4 ?c5; (case kA => exact rfl); (case kF => exact rfl); (case kK => first | exact rfl | assumption); (case k1 => k_asm); (case k2 => k_asm); (case k3 => k_asm); (case k4 => k_asm); (case k5 => k_asm); (case k6 => k_is); (case k7 => k_is); (case k8 => ktr_room); (case k9 => first | exact BindsTo.of_eq rfl | exact binds_K (by k_in) rfl (by k_is) rfl rfl rfl); (case c5 => decide); (case kB => exact locs rfl); (case c2 => exact rfl); (case c3 => exact rfl); (case c4 => exact rfl); k_whole; intro g' L' h' FG' F' N' B' X' T'; (try dsimp only); (try k_lift B'); (try k_fold)))))) | walk1))))
  k_dflt (refine' call_cls ?k1 ?k2 ?k3 ?k4 ?k5 ?k6 ?_; (case k1 => k_asm); (case k2 => k_asm); (case k3 => k_asm); (case k4 => k_is); (case k5 => k_is); (case k6 => k_is); k_whole)
  intro x' d' h' F' N' l1 l2
  (try k_lt l1); (try k_lt2 l2)
  refine' code_def ?k1 ?k2 ?k3 ?k4 ?k5 ?kA ?kF ?kK ?k6 ?k7 ?k8 ?k9 ?kB ?_ ?c2 ?c3 ?c4 ?c5; (case kA => exact rfl); (case kF => exact rfl); (case kK => first | exact rfl | assumption); (case k1 => k_asm); (case k2 => k_asm); (case k3 => k_asm); (case k4 => k_asm); (case k5 => k_asm); (case k6 => k_is); (case k7 => k_is); (case k8 => ktr_room); (case k9 => first | exact BindsTo.of_eq rfl | exact binds_K (by k_in) rfl (by k_is) rfl rfl rfl); (case c5 => decide); (case kB => exact locs rfl); (case c2 => exact rfl); (case c3 => exact rfl); (case c4 => exact rfl); k_whole
  intro g1 L1 h1 FG1 F1 N1 B1 X1 T1
  (try dsimp only); (try k_lift B1); (try k_fold)
  repeat' (first | (k_unfold; (try dsimp only)) | ((fail_if_success (with_reducible show wpAny _ _ (call (Value.ref _) _) _ _ _)); first | (first | (with_reducible ((k_here; (with_reducible show wpAny _ _ (call (Value.ref 127) _) _ _ _); k_dflt (refine' call_cls ?k1 ?k2 ?k3 ?k4 ?k5 ?k6 ?_; (case k1 => k_asm); (case k2 => k_asm); (case k3 => k_asm); (case k4 => k_is); (case k5 => k_is); (case k6 => k_is); k_whole; intro x' d' h' F' N' l1 l2; (try k_lt l1); (try k_lt2 l2); (refine' code_def ?k1 ?k2 ?k3 ?k4 ?k5 ?kA ?kF ?kK ?k6 ?k7 ?k8 ?k9 ?kB ?_ ?c2 ?c3 ?c4 ?c5; (case kA => exact rfl); (case kF => exact rfl); (case kK => first | exact rfl | assumption); (case k1 => k_asm); (case k2 => k_asm); (case k3 => k_asm); (case k4 => k_asm); (case k5 => k_asm); (case k6 => k_is); (case k7 => k_is); (case k8 => ktr_room); (case k9 => first | exact BindsTo.of_eq rfl | exact binds_K (by k_in) rfl (by k_is) rfl rfl rfl); (case c5 => decide); (case kB => exact locs rfl); (case c2 => exact rfl); (case c3 => exact rfl); (case c4 => exact rfl); k_whole; intro g' L' h' FG' F' N' B' X' T'; (try dsimp only); (try k_lift B'); (try k_fold)))))) | walk1) | (dsimp only; (first | (with_reducible ((k_here; (with_reducible show wpAny _ _ (call (Value.ref 127) _) _ _ _); k_dflt (refine' call_cls ?k1 ?k2 ?k3 ?k4 ?k5 ?k6 ?_; (case k1 => k_asm); (case k2 => k_asm); (case k3 => k_asm); (case k4 => k_is); (case k5 => k_is); (case k6 => k_is); k_whole; intro x' d' h' F' N' l1 l2; (try k_lt l1); (try k_lt2 l2); (refine' code_def ?k1 ?k2 ?k3 ?k4 ?k5 ?kA ?kF ?kK ?k6 ?k7 ?k8 ?k9 ?kB ?_ ?c2 ?c3 ?c4 ?c5; (case kA => exact rfl); (case kF => exact rfl); (case kK => first | exact rfl | assumption); (case k1 => k_asm); (case k2 => k_asm); (case k3 => k_asm); (case k4 => k_asm); (case k5 => k_asm); (case k6 => k_is); (case k7 => k_is); (case k8 => ktr_room); (case k9 => first | exact BindsTo.of_eq rfl | exact binds_K (by k_in) rfl (by k_is) rfl rfl rfl); (case c5 => decide); (case kB => exact locs rfl); (case c2 => exact rfl); (case c3 => exact rfl); (case c4 => exact rfl); k_whole; intro g' L' h' FG' F' N' B' X' T'; (try dsimp only); (try k_lift B'); (try k_fold)))))) | walk1))))
  refine bucket_r (by omega) gd _ _ _ _ _ _ _ _ _ _ _ _ _ B1 (by k_asm) X1 (by k_asm) T1 rfl ?_
  rintro v9 s9 ⟨e9, t9, vs9, g9, m9, h9, tk9, rfl, rfl, FG9, R9, U9⟩
  refine leave_onS B1 FG9 R9 U9 ?_
  intro h8 R8 R8' U8
  exact hE _ _ ⟨e9, t9, _, g1, _, h8, _, rfl, rfl, FG1, raisedS_sub R8 (fun q hq => by repeat' (first | exact hq | apply List.Mem.tail)), U8⟩
theorem lamr6 {w : World} {p : Program} {loose : List Str} {mean : ExcName → Option Value} {mg mb : Str → Option Value} {pa pb p0 p1 p2 : Pos} : LamR w p loose mean mg mb (.Call (.Name "SingleRate" pa) [(.Constant (.int 1) 0 p0), (.Constant (.int 5) 0 p1), (.Constant (.int 0) 0 p2)] [] pb) (lscope "SingleRate") := by
  refine ⟨?_⟩
  k_fill
  intro qual L a ccd gd outer A₀ base h₀ m s Q E news B F X N T hE
  repeat' (first | (k_unfold; (try dsimp only)) | ((fail_if_success (with_reducible show wpAny _ _ (call (Value.ref _) _) _ _ _)); first | (first | (with_reducible ((k_here; (with_reducible show wpAny _ _ (call (Value.ref 127) _) _ _ _); k_dflt (refine' call_cls ?k1 ?k2 ?k3 ?k4 ?k5 ?k6 ?_; (case k1 => k_asm); (case k2 => k_asm); (case k3 => k_asm); (case k4 => k_is); (case k5 => k_is); (case k6 => k_is); k_whole; intro x' d' h' F' N' l1 l2; (try k_lt l1); (try k_lt2 l2); (refine' code_def ?k1 ?k2 ?k3 ?k4 ?k5 ?kA ?kF ?kK ?k6 ?k7 ?k8 ?k9 ?kB ?_ ?c2 ?c3 ?c4 ?c5; (case kA => exact rfl); (case kF => exact rfl); (case kK => first | exact rfl | assumption); (case k1 => k_asm); (case k2 => k_asm); (case k3 => k_asm); (case k4 => k_asm); (case k5 => k_asm); (case k6 => k_is); (case k7 => k_is); (case k8 => ktr_room); (case k9 => first | exact BindsTo.of_eq rfl | exact binds_K (by k_in) rfl (by k_is) rfl rfl rfl); (case c5 => decide); (case kB => exact locs rfl); (case c2 => exact rfl); (case c3 => exact rfl); (case c4 => exact rfl); k_whole; intro g' L' h' FG' F' N' B' X' T'; (try dsimp only); (try k_lift B'); (try k_fold)))))) | walk1) | (dsimp only; (first | (with_reducible ((k_here; (with_reducible show wpAny _ _ (call (Value.ref 127) _) _ _ _); k_dflt (refine' call_cls ?k1 ?k2 ?k3 ?k4 ?k5 ?k6 ?_; (case k1 => k_asm); (case k2 => k_asm); (case k3 => k_asm); (case k4 => k_is); (case k5 => k_is); (case k6 => k_is); k_whole; intro x' d' h' F' N' l1 l2; (try k_lt l1); (try k_lt2 l2); (refine' code_def ?k1 ?k2 ?k3 ?k4 ?k5 ?kA ?kF ?kK ?k6 ?k7 ?k8 ?k9 ?kB ?_ ?c2 ?c3 ?c4 ?c5; (case kA => exact rfl); (case kF => exact rfl); (case kK => first | exact rfl | assumption); (case k1 => k_asm); (case k2 => k_asm); (case k3 => k_asm); (case k4 => k_asm); (case k5 => k_asm); (case k6 => k_is); (case k7 => k_is); (case k8 => ktr_room); (case k9 => first | exact BindsTo.of_eq rfl | exact binds_K (by k_in) rfl (by k_is) rfl rfl rfl); (case c5 => decide); (case kB => exact locs rfl); (case c2 => exact rfl); (case c3 => exact rfl); (case c4 => exact rfl); k_whole; intro g' L' h' FG' F' N' B' X' T'; (try dsimp only); (try k_lift B'); (try k_fold)))))) | walk1))))
  k_dflt (refine' call_cls ?k1 ?k2 ?k3 ?k4 ?k5 ?k6 ?_; (case k1 => k_asm); (case k2 => k_asm); (case k3 => k_asm); (case k4 => k_is); (case k5 => k_is); (case k6 => k_is); k_whole)
  intro x' d' h' F' N' l1 l2
  (try k_lt l1); (try k_lt2 l2)
  refine' code_def ?k1 ?k2 ?k3 ?k4 ?k5 ?kA ?kF ?kK ?k6 ?k7 ?k8 ?k9 ?kB ?_ ?c2 ?c3 ?c4 ?c5; (case kA => exact rfl); (case kF => exact rfl); (case kK => first | exact rfl | assumption); (case k1 => k_asm); (case k2 => k_asm); (case k3 => k_asm); (case k4 => k_asm); (case k5 => k_asm); (case k6 => k_is); (case k7 => k_is); (case k8 => ktr_room); (case k9 => first | exact BindsTo.of_eq rfl | exact binds_K (by k_in) rfl (by k_is) rfl rfl rfl); (case c5 => decide); (case kB => exact locs rfl); (case c2 => exact rfl); (case c3 => exact rfl); (case c4 => exact rfl); k_whole
  intro g1 L1 h1 FG1 F1 N1 B1 X1 T1
  (try dsimp only); (try k_lift B1); (try k_fold)
  repeat' (first | (k_unfold; (try dsimp only)) | ((fail_if_success (with_reducible show wpAny _ _ (call (Value.ref _) _) _ _ _)); first | (first | (with_reducible ((k_here; (with_reducible show wpAny _ _ (call (Value.ref 127) _) _ _ _); k_dflt (refine' call_cls ?k1 ?k2 ?k3 ?k4 ?k5 ?k6 ?_; (case k1 => k_asm); (case k2 => k_asm); (case k3 => k_asm); (case k4 => k_is); (case k5 => k_is); (case k6 => k_is); k_whole; intro x' d' h' F' N' l1 l2; (try k_lt l1); (try k_lt2 l2); (refine' code_def ?k1 ?k2 ?k3 ?k4 ?k5 ?kA ?kF ?kK ?k6 ?k7 ?k8 ?k9 ?kB ?_ ?c2 ?c3 ?c4 ?c5; (case kA => exact rfl); (case kF => exact rfl); (case kK => first | exact rfl | assumption); (case k1 => k_asm); (case k2 => k_asm); (case k3 => k_asm); (case k4 => k_asm); (case k5 => k_asm); (case k6 => k_is); (case k7 => k_is); (case k8 => ktr_room); (case k9 => first | exact BindsTo.of_eq rfl | exact binds_K (by k_in) rfl (by k_is) rfl rfl rfl); (case c5 => decide); (case kB => exact locs rfl); (case c2 => exact rfl); (case c3 => exact rfl); (case c4 => exact rfl); k_whole; intro g' L' h' FG' F' N' B' X' T'; (try dsimp only); (try k_lift B'); (try k_fold)))))) | walk1) | (dsimp only; (first | (with_reducible ((k_here; (with_reducible show wpAny _ _ (call (Value.ref 127) _) _ _ _); k_dflt (refine' call_cls ?k1 ?k2 ?k3 ?k4 ?k5 ?k6 ?_; (case k1 => k_asm); (case k2 => k_asm); (case k3 => k_asm); (case k4 => k_is); (case k5 => k_is); (case k6 => k_is); k_whole; intro x' d' h' F' N' l1 l2; (try k_lt l1); (try k_lt2 l2); (refine' code_def ?k1 ?k2 ?k3 ?k4 ?k5 ?kA ?kF ?kK ?k6 ?k7 ?k8 ?k9 ?kB ?_ ?c2 ?c3 ?c4 ?c5; (case kA => exact rfl); (case kF => exact rfl); (case kK => first | exact rfl | assumption); (case k1 => k_asm); (case k2 => k_asm); (case k3 => k_asm); (case k4 => k_asm); (case k5 => k_asm); (case k6 => k_is); (case k7 => k_is); (case k8 => ktr_room); (case k9 => first | exact BindsTo.of_eq rfl | exact binds_K (by k_in) rfl (by k_is) rfl rfl rfl); (case c5 => decide); (case kB => exact locs rfl); (case c2 => exact rfl); (case c3 => exact rfl); (case c4 => exact rfl); k_whole; intro g' L' h' FG' F' N' B' X' T'; (try dsimp only); (try k_lift B'); (try k_fold)))))) | walk1))))
  (first | (with_reducible ((k_here; (with_reducible show wpAny _ _ (call (Value.ref 127) _) _ _ _); k_dflt (refine' call_cls ?k1 ?k2 ?k3 ?k4 ?k5 ?k6 ?_; (case k1 => k_asm); (case k2 => k_asm); (case k3 => k_asm); (case k4 => k_is); (case k5 => k_is); (case k6 => k_is); k_whole; intro x' d' h' F' N' l1 l2; (try k_lt l1); (try k_lt2 l2); (refine' code_def ?k1 ?k2 ?k3 ?k4 ?k5 ?kA ?kF ?kK ?k6 ?k7 ?k8 ?k9 ?kB ?_ ?c2 ?c3 ?c4 ?c5; (case kA => exact rfl); (case kF => exact rfl); (case kK => first | exact rfl | assumption); (case k1 => k_asm); (case k2 => k_asm); (case k3 => k_asm); (case k4 => k_asm); (case k5 => k_asm); (case k6 => k_is); (case k7 => k_is); (case k8 => ktr_room); (case k9 => first | exact BindsTo.of_eq rfl | exact binds_K (by k_in) rfl (by k_is) rfl rfl rfl); (case c5 => decide); (case kB => exact locs rfl); (case c2 => exact rfl); (case c3 => exact rfl); (case c4 => exact rfl); k_whole; intro g' L' h' FG' F' N' B' X' T'; (try dsimp only); (try k_lift B'); (try k_fold)))))) | walk1)
  repeat' (first | (k_unfold; (try dsimp only)) | ((fail_if_success (with_reducible show wpAny _ _ (call (Value.ref _) _) _ _ _)); first | (first | (with_reducible ((k_here; (with_reducible show wpAny _ _ (call (Value.ref 127) _) _ _ _); k_dflt (refine' call_cls ?k1 ?k2 ?k3 ?k4 ?k5 ?k6 ?_; (case k1 => k_asm); (case k2 => k_asm); (case k3 => k_asm); (case k4 => k_is); (case k5 => k_is); (case k6 => k_is); k_whole; intro x' d' h' F' N' l1 l2; (try k_lt l1); (try k_lt2 l2); (refine' code_def ?k1 ?k2 ?k3 ?k4 ?k5 ?kA ?kF ?kK ?k6 ?k7 ?k8 ?k9 ?kB ?_ ?c2 ?c3 ?c4 ?c5; (case kA => exact rfl); (case kF => exact rfl); (case kK => first | exact rfl | assumption); (case k1 => k_asm); (case k2 => k_asm); (case k3 => k_asm); (case k4 => k_asm); (case k5 => k_asm); (case k6 => k_is); (case k7 => k_is); (case k8 => ktr_room); (case k9 => first | exact BindsTo.of_eq rfl | exact binds_K (by k_in) rfl (by k_is) rfl rfl rfl); (case c5 => decide); (case kB => exact locs rfl); (case c2 => exact rfl); (case c3 => exact rfl); (case c4 => exact rfl); k_whole; intro g' L' h' FG' F' N' B' X' T'; (try dsimp only); (try k_lift B'); (try k_fold)))))) | walk1) | (dsimp only; (first | (with_reducible ((k_here; (with_reducible show wpAny _ _ (call (Value.ref 127) _) _ _ _); k_dflt (refine' call_cls ?k1 ?k2 ?k3 ?k4 ?k5 ?k6 ?_; (case k1 => k_asm); (case k2 => k_asm); (case k3 => k_asm); (case k4 => k_is); (case k5 => k_is); (case k6 => k_is); k_whole; intro x' d' h' F' N' l1 l2; (try k_lt l1); (try k_lt2 l2); (refine' code_def ?k1 ?k2 ?k3 ?k4 ?k5 ?kA ?kF ?kK ?k6 ?k7 ?k8 ?k9 ?kB ?_ ?c2 ?c3 ?c4 ?c5; (case kA => exact rfl); (case kF => exact rfl); (case kK => first | exact rfl | assumption); (case k1 => k_asm); (case k2 => k_asm); (case k3 => k_asm); (case k4 => k_asm); (case k5 => k_asm); (case k6 => k_is); (case k7 => k_is); (case k8 => ktr_room); (case k9 => first | exact BindsTo.of_eq rfl | exact binds_K (by k_in) rfl (by k_is) rfl rfl rfl); (case c5 => decide); (case kB => exact locs rfl); (case c2 => exact rfl); (case c3 => exact rfl); (case c4 => exact rfl); k_whole; intro g' L' h' FG' F' N' B' X' T'; (try dsimp only); (try k_lift B'); (try k_fold)))))) | walk1))))
  refine bucket_r (by omega) gd _ _ _ _ _ _ _ _ _ _ _ _ _ B1 (by k_asm) X1 (by k_asm) T1 rfl ?_
  rintro v9 s9 ⟨e9, t9, vs9, g9, m9, h9, tk9, rfl, rfl, FG9, R9, U9⟩
  refine leave_onS B1 FG9 R9 U9 ?_
  intro h8 R8 R8' U8
  exact hE _ _ ⟨e9, t9, _, g1, _, h8, _, rfl, rfl, FG1, raisedS_sub R8 (fun q hq => by repeat' (first | exact hq | apply List.Mem.tail)), U8⟩
end
end Mine
end
section
open PySem PySem.W PySem.Calls PyProof.Rows PySem.Spec
set_option maxRecDepth 100000
set_option maxHeartbeats 2000000
namespace Mine
theorem anew_Lt : True := by
  w_top off
  exact True.intro
section
local macro_rules | `(tactic| k_all) => `(tactic| assumption)
theorem before_blue {w : World} {p : Program} {loose : List Str} {mean : ExcName → Option Value} {mg mb : Str → Option Value} {tx : Tok} {news : List (Addr × Obj)} : RCall w p loose mean mg mb 306 19 139 [.str (Str.ofString "blue") tx, .bool true] news := by
  unfold RCall
  k_fill
  intro gd cn cs L a ccd outer A₀ base h₀ m s Q E B F X N T hk hE
  refine wpAny_call ?_
  refine' code_def ?k1 ?k2 ?k3 ?k4 ?k5 ?kA ?kF ?kK ?k6 ?k7 ?k8 ?k9 ?kB ?_ ?c2 ?c3 ?c4 ?c5; (case kA => exact rfl); (case kF => exact rfl); (case kK => first | exact rfl | assumption); (case k1 => k_asm); (case k2 => k_asm); (case k3 => k_asm); (case k4 => k_asm); (case k5 => k_asm); (case k6 => k_is); (case k7 => k_is); (case k8 => ktr_room); (case k9 => first | exact BindsTo.of_eq rfl | exact binds_K (by k_in) rfl (by k_is) rfl rfl rfl); (case c5 => decide); (case kB => exact locs rfl); (case c2 => exact rfl); (case c3 => exact rfl); (case c4 => exact rfl); k_whole
  intro g1 L1 h1 FG1 F1 N1 B1 X1 T1
  (try dsimp only); (try k_lift B1); (try k_fold)
  repeat' (first | (k_unfold; (try dsimp only)) | ((fail_if_success (with_reducible show wpAny _ _ (exec (Stmt.Raise _ _ _) _) _ _ _)); first | (first | (with_reducible ((k_here; (with_reducible show wpAny _ _ (compareOp CmpOp.NotIn (Value.str _ _) (Value.ref 132)) _ _ _); (with_unfolding_all refine' notin_tuple_strs ?k1 ?k2 ?_; (case k1 => exact tupK (Frag.In.keeps (by k_asm) (Fr.keep (by k_asm))) (by k_is)); (case k2 => kde_strs); k_whole)))) | (with_reducible ((k_here; (with_reducible show wpAny _ _ (call (Value.ref 127) _) _ _ _); k_dflt (refine' call_cls ?k1 ?k2 ?k3 ?k4 ?k5 ?k6 ?_; (case k1 => k_asm); (case k2 => k_asm); (case k3 => k_asm); (case k4 => k_is); (case k5 => k_is); (case k6 => k_is); k_whole; intro x' d' h' F' N' l1 l2; (try k_lt l1); (try k_lt2 l2); (refine' code_def ?k1 ?k2 ?k3 ?k4 ?k5 ?kA ?kF ?kK ?k6 ?k7 ?k8 ?k9 ?kB ?_ ?c2 ?c3 ?c4 ?c5; (case kA => exact rfl); (case kF => exact rfl); (case kK => first | exact rfl | assumption); (case k1 => k_asm); (case k2 => k_asm); (case k3 => k_asm); (case k4 => k_asm); (case k5 => k_asm); (case k6 => k_is); (case k7 => k_is); (case k8 => ktr_room); (case k9 => first | exact BindsTo.of_eq rfl | exact binds_K (by k_in) rfl (by k_is) rfl rfl rfl); (case c5 => decide); (case kB => exact locs rfl); (case c2 => exact rfl); (case c3 => exact rfl); (case c4 => exact rfl); k_whole; intro g' L' h' FG' F' N' B' X' T'; (try dsimp only); (try k_lift B'); (try k_fold)))))) | walk1) | (dsimp only; (first | (with_reducible ((k_here; (with_reducible show wpAny _ _ (compareOp CmpOp.NotIn (Value.str _ _) (Value.ref 132)) _ _ _); (with_unfolding_all refine' notin_tuple_strs ?k1 ?k2 ?_; (case k1 => exact tupK (Frag.In.keeps (by k_asm) (Fr.keep (by k_asm))) (by k_is)); (case k2 => kde_strs); k_whole)))) | (with_reducible ((k_here; (with_reducible show wpAny _ _ (call (Value.ref 127) _) _ _ _); k_dflt (refine' call_cls ?k1 ?k2 ?k3 ?k4 ?k5 ?k6 ?_; (case k1 => k_asm); (case k2 => k_asm); (case k3 => k_asm); (case k4 => k_is); (case k5 => k_is); (case k6 => k_is); k_whole; intro x' d' h' F' N' l1 l2; (try k_lt l1); (try k_lt2 l2); (refine' code_def ?k1 ?k2 ?k3 ?k4 ?k5 ?kA ?kF ?kK ?k6 ?k7 ?k8 ?k9 ?kB ?_ ?c2 ?c3 ?c4 ?c5; (case kA => exact rfl); (case kF => exact rfl); (case kK => first | exact rfl | assumption); (case k1 => k_asm); (case k2 => k_asm); (case k3 => k_asm); (case k4 => k_asm); (case k5 => k_asm); (case k6 => k_is); (case k7 => k_is); (case k8 => ktr_room); (case k9 => first | exact BindsTo.of_eq rfl | exact binds_K (by k_in) rfl (by k_is) rfl rfl rfl); (case c5 => decide); (case kB => exact locs rfl); (case c2 => exact rfl); (case c3 => exact rfl); (case c4 => exact rfl); k_whole; intro g' L' h' FG' F' N' B' X' T'; (try dsimp only); (try k_lift B'); (try k_fold)))))) | walk1))))
  obtain ⟨nm, q', N9, bs, bm, hdct, sn, sub, ab, col, dd, k0, k1, k2, k3, k5, newId, hC, hbase, _⟩ := kts_cls (C := 59) (T := "BaseException") X1 (by kts_isx)
  refine Raise_D (nm := nm) (q := q') (C := 59) (N := N9) (bs := bs) (bm := bm) (hdct := hdct) (sn := sn) (sub := sub) (ab := ab) (col := col) (dd := dd) (k0 := k0) (k1 := k1) (k2 := k2) (k3 := k3) (k5 := k5) (newId := newId) hbase rfl ?_
  repeat' (first | (k_unfold; (try dsimp only)) | ((fail_if_success (with_reducible show wpAny _ _ (call (Value.ref _) _) _ _ _)); first | (first | (with_reducible ((k_here; (with_reducible show wpAny _ _ (compareOp CmpOp.NotIn (Value.str _ _) (Value.ref 132)) _ _ _); (with_unfolding_all refine' notin_tuple_strs ?k1 ?k2 ?_; (case k1 => exact tupK (Frag.In.keeps (by k_asm) (Fr.keep (by k_asm))) (by k_is)); (case k2 => kde_strs); k_whole)))) | (with_reducible ((k_here; (with_reducible show wpAny _ _ (call (Value.ref 127) _) _ _ _); k_dflt (refine' call_cls ?k1 ?k2 ?k3 ?k4 ?k5 ?k6 ?_; (case k1 => k_asm); (case k2 => k_asm); (case k3 => k_asm); (case k4 => k_is); (case k5 => k_is); (case k6 => k_is); k_whole; intro x' d' h' F' N' l1 l2; (try k_lt l1); (try k_lt2 l2); (refine' code_def ?k1 ?k2 ?k3 ?k4 ?k5 ?kA ?kF ?kK ?k6 ?k7 ?k8 ?k9 ?kB ?_ ?c2 ?c3 ?c4 ?c5; (case kA => exact rfl); (case kF => exact rfl); (case kK => first | exact rfl | assumption); (case k1 => k_asm); (case k2 => k_asm); (case k3 => k_asm); (case k4 => k_asm); (case k5 => k_asm); (case k6 => k_is); (case k7 => k_is); (case k8 => ktr_room); (case k9 => first | exact BindsTo.of_eq rfl | exact binds_K (by k_in) rfl (by k_is) rfl rfl rfl); (case c5 => decide); (case kB => exact locs rfl); (case c2 => exact rfl); (case c3 => exact rfl); (case c4 => exact rfl); k_whole; intro g' L' h' FG' F' N' B' X' T'; (try dsimp only); (try k_lift B'); (try k_fold)))))) | walk1) | (dsimp only; (first | (with_reducible ((k_here; (with_reducible show wpAny _ _ (compareOp CmpOp.NotIn (Value.str _ _) (Value.ref 132)) _ _ _); (with_unfolding_all refine' notin_tuple_strs ?k1 ?k2 ?_; (case k1 => exact tupK (Frag.In.keeps (by k_asm) (Fr.keep (by k_asm))) (by k_is)); (case k2 => kde_strs); k_whole)))) | (with_reducible ((k_here; (with_reducible show wpAny _ _ (call (Value.ref 127) _) _ _ _); k_dflt (refine' call_cls ?k1 ?k2 ?k3 ?k4 ?k5 ?k6 ?_; (case k1 => k_asm); (case k2 => k_asm); (case k3 => k_asm); (case k4 => k_is); (case k5 => k_is); (case k6 => k_is); k_whole; intro x' d' h' F' N' l1 l2; (try k_lt l1); (try k_lt2 l2); (refine' code_def ?k1 ?k2 ?k3 ?k4 ?k5 ?kA ?kF ?kK ?k6 ?k7 ?k8 ?k9 ?kB ?_ ?c2 ?c3 ?c4 ?c5; (case kA => exact rfl); (case kF => exact rfl); (case kK => first | exact rfl | assumption); (case k1 => k_asm); (case k2 => k_asm); (case k3 => k_asm); (case k4 => k_asm); (case k5 => k_asm); (case k6 => k_is); (case k7 => k_is); (case k8 => ktr_room); (case k9 => first | exact BindsTo.of_eq rfl | exact binds_K (by k_in) rfl (by k_is) rfl rfl rfl); (case c5 => decide); (case kB => exact locs rfl); (case c2 => exact rfl); (case c3 => exact rfl); (case c4 => exact rfl); k_whole; intro g' L' h' FG' F' N' B' X' T'; (try dsimp only); (try k_lift B'); (try k_fold)))))) | walk1))))
  refine mkexc_c _ w gd _ _ _ _ _ _ _ _ _ _ (Frag.In.keeps X1 (Fr.keep (by k_asm))) ?_
  intro h5 e5 t5 M5
  obtain ⟨t6, d6, he6, _, _⟩ := M5.there
  refine ⟨e5, t6, d6, rfl, M5.keeps _ _ (Fr.keep (by k_asm) _ _ hC), he6, ?_⟩
  refine leave_raiseD B1 M5 (by k_asm) (by k_asm) ?_
  intro h6 t7 R6 R6' U6
  exact hE _ _ ⟨e5, t7, _, g1, _, h6, _, rfl, rfl, FG1, raisedS_sub R6 (fun q hq => by repeat' (first | exact hq | apply List.Mem.tail)), U6⟩
theorem before_none {w : World} {p : Program} {loose : List Str} {mean : ExcName → Option Value} {mg mb : Str → Option Value} {tx : Tok} {news : List (Addr × Obj)} : RCall w p loose mean mg mb 306 19 139 [.str (Str.ofString "") tx, .bool true] news := by
  unfold RCall
  k_fill
  intro gd cn cs L a ccd outer A₀ base h₀ m s Q E B F X N T hk hE
  refine wpAny_call ?_
  refine' code_def ?k1 ?k2 ?k3 ?k4 ?k5 ?kA ?kF ?kK ?k6 ?k7 ?k8 ?k9 ?kB ?_ ?c2 ?c3 ?c4 ?c5; (case kA => exact rfl); (case kF => exact rfl); (case kK => first | exact rfl | assumption); (case k1 => k_asm); (case k2 => k_asm); (case k3 => k_asm); (case k4 => k_asm); (case k5 => k_asm); (case k6 => k_is); (case k7 => k_is); (case k8 => ktr_room); (case k9 => first | exact BindsTo.of_eq rfl | exact binds_K (by k_in) rfl (by k_is) rfl rfl rfl); (case c5 => decide); (case kB => exact locs rfl); (case c2 => exact rfl); (case c3 => exact rfl); (case c4 => exact rfl); k_whole
  intro g1 L1 h1 FG1 F1 N1 B1 X1 T1
  (try dsimp only); (try k_lift B1); (try k_fold)
  repeat' (first | (k_unfold; (try dsimp only)) | ((fail_if_success (with_reducible show wpAny _ _ (exec (Stmt.Raise _ _ _) _) _ _ _)); first | (first | (with_reducible ((k_here; (with_reducible show wpAny _ _ (compareOp CmpOp.NotIn (Value.str _ _) (Value.ref 132)) _ _ _); (with_unfolding_all refine' notin_tuple_strs ?k1 ?k2 ?_; (case k1 => exact tupK (Frag.In.keeps (by k_asm) (Fr.keep (by k_asm))) (by k_is)); (case k2 => kde_strs); k_whole)))) | (with_reducible ((k_here; (with_reducible show wpAny _ _ (call (Value.ref 127) _) _ _ _); k_dflt (refine' call_cls ?k1 ?k2 ?k3 ?k4 ?k5 ?k6 ?_; (case k1 => k_asm); (case k2 => k_asm); (case k3 => k_asm); (case k4 => k_is); (case k5 => k_is); (case k6 => k_is); k_whole; intro x' d' h' F' N' l1 l2; (try k_lt l1); (try k_lt2 l2); (refine' code_def ?k1 ?k2 ?k3 ?k4 ?k5 ?kA ?kF ?kK ?k6 ?k7 ?k8 ?k9 ?kB ?_ ?c2 ?c3 ?c4 ?c5; (case kA => exact rfl); (case kF => exact rfl); (case kK => first | exact rfl | assumption); (case k1 => k_asm); (case k2 => k_asm); (case k3 => k_asm); (case k4 => k_asm); (case k5 => k_asm); (case k6 => k_is); (case k7 => k_is); (case k8 => ktr_room); (case k9 => first | exact BindsTo.of_eq rfl | exact binds_K (by k_in) rfl (by k_is) rfl rfl rfl); (case c5 => decide); (case kB => exact locs rfl); (case c2 => exact rfl); (case c3 => exact rfl); (case c4 => exact rfl); k_whole; intro g' L' h' FG' F' N' B' X' T'; (try dsimp only); (try k_lift B'); (try k_fold)))))) | walk1) | (dsimp only; (first | (with_reducible ((k_here; (with_reducible show wpAny _ _ (compareOp CmpOp.NotIn (Value.str _ _) (Value.ref 132)) _ _ _); (with_unfolding_all refine' notin_tuple_strs ?k1 ?k2 ?_; (case k1 => exact tupK (Frag.In.keeps (by k_asm) (Fr.keep (by k_asm))) (by k_is)); (case k2 => kde_strs); k_whole)))) | (with_reducible ((k_here; (with_reducible show wpAny _ _ (call (Value.ref 127) _) _ _ _); k_dflt (refine' call_cls ?k1 ?k2 ?k3 ?k4 ?k5 ?k6 ?_; (case k1 => k_asm); (case k2 => k_asm); (case k3 => k_asm); (case k4 => k_is); (case k5 => k_is); (case k6 => k_is); k_whole; intro x' d' h' F' N' l1 l2; (try k_lt l1); (try k_lt2 l2); (refine' code_def ?k1 ?k2 ?k3 ?k4 ?k5 ?kA ?kF ?kK ?k6 ?k7 ?k8 ?k9 ?kB ?_ ?c2 ?c3 ?c4 ?c5; (case kA => exact rfl); (case kF => exact rfl); (case kK => first | exact rfl | assumption); (case k1 => k_asm); (case k2 => k_asm); (case k3 => k_asm); (case k4 => k_asm); (case k5 => k_asm); (case k6 => k_is); (case k7 => k_is); (case k8 => ktr_room); (case k9 => first | exact BindsTo.of_eq rfl | exact binds_K (by k_in) rfl (by k_is) rfl rfl rfl); (case c5 => decide); (case kB => exact locs rfl); (case c2 => exact rfl); (case c3 => exact rfl); (case c4 => exact rfl); k_whole; intro g' L' h' FG' F' N' B' X' T'; (try dsimp only); (try k_lift B'); (try k_fold)))))) | walk1))))
  obtain ⟨nm, q', N9, bs, bm, hdct, sn, sub, ab, col, dd, k0, k1, k2, k3, k5, newId, hC, hbase, _⟩ := kts_cls (C := 59) (T := "BaseException") X1 (by kts_isx)
  refine Raise_D (nm := nm) (q := q') (C := 59) (N := N9) (bs := bs) (bm := bm) (hdct := hdct) (sn := sn) (sub := sub) (ab := ab) (col := col) (dd := dd) (k0 := k0) (k1 := k1) (k2 := k2) (k3 := k3) (k5 := k5) (newId := newId) hbase rfl ?_
  repeat' (first | (k_unfold; (try dsimp only)) | ((fail_if_success (with_reducible show wpAny _ _ (call (Value.ref _) _) _ _ _)); first | (first | (with_reducible ((k_here; (with_reducible show wpAny _ _ (compareOp CmpOp.NotIn (Value.str _ _) (Value.ref 132)) _ _ _); (with_unfolding_all refine' notin_tuple_strs ?k1 ?k2 ?_; (case k1 => exact tupK (Frag.In.keeps (by k_asm) (Fr.keep (by k_asm))) (by k_is)); (case k2 => kde_strs); k_whole)))) | (with_reducible ((k_here; (with_reducible show wpAny _ _ (call (Value.ref 127) _) _ _ _); k_dflt (refine' call_cls ?k1 ?k2 ?k3 ?k4 ?k5 ?k6 ?_; (case k1 => k_asm); (case k2 => k_asm); (case k3 => k_asm); (case k4 => k_is); (case k5 => k_is); (case k6 => k_is); k_whole; intro x' d' h' F' N' l1 l2; (try k_lt l1); (try k_lt2 l2); (refine' code_def ?k1 ?k2 ?k3 ?k4 ?k5 ?kA ?kF ?kK ?k6 ?k7 ?k8 ?k9 ?kB ?_ ?c2 ?c3 ?c4 ?c5; (case kA => exact rfl); (case kF => exact rfl); (case kK => first | exact rfl | assumption); (case k1 => k_asm); (case k2 => k_asm); (case k3 => k_asm); (case k4 => k_asm); (case k5 => k_asm); (case k6 => k_is); (case k7 => k_is); (case k8 => ktr_room); (case k9 => first | exact BindsTo.of_eq rfl | exact binds_K (by k_in) rfl (by k_is) rfl rfl rfl); (case c5 => decide); (case kB => exact locs rfl); (case c2 => exact rfl); (case c3 => exact rfl); (case c4 => exact rfl); k_whole; intro g' L' h' FG' F' N' B' X' T'; (try dsimp only); (try k_lift B'); (try k_fold)))))) | walk1) | (dsimp only; (first | (with_reducible ((k_here; (with_reducible show wpAny _ _ (compareOp CmpOp.NotIn (Value.str _ _) (Value.ref 132)) _ _ _); (with_unfolding_all refine' notin_tuple_strs ?k1 ?k2 ?_; (case k1 => exact tupK (Frag.In.keeps (by k_asm) (Fr.keep (by k_asm))) (by k_is)); (case k2 => kde_strs); k_whole)))) | (with_reducible ((k_here; (with_reducible show wpAny _ _ (call (Value.ref 127) _) _ _ _); k_dflt (refine' call_cls ?k1 ?k2 ?k3 ?k4 ?k5 ?k6 ?_; (case k1 => k_asm); (case k2 => k_asm); (case k3 => k_asm); (case k4 => k_is); (case k5 => k_is); (case k6 => k_is); k_whole; intro x' d' h' F' N' l1 l2; (try k_lt l1); (try k_lt2 l2); (refine' code_def ?k1 ?k2 ?k3 ?k4 ?k5 ?kA ?kF ?kK ?k6 ?k7 ?k8 ?k9 ?kB ?_ ?c2 ?c3 ?c4 ?c5; (case kA => exact rfl); (case kF => exact rfl); (case kK => first | exact rfl | assumption); (case k1 => k_asm); (case k2 => k_asm); (case k3 => k_asm); (case k4 => k_asm); (case k5 => k_asm); (case k6 => k_is); (case k7 => k_is); (case k8 => ktr_room); (case k9 => first | exact BindsTo.of_eq rfl | exact binds_K (by k_in) rfl (by k_is) rfl rfl rfl); (case c5 => decide); (case kB => exact locs rfl); (case c2 => exact rfl); (case c3 => exact rfl); (case c4 => exact rfl); k_whole; intro g' L' h' FG' F' N' B' X' T'; (try dsimp only); (try k_lift B'); (try k_fold)))))) | walk1))))
  refine mkexc_c _ w gd _ _ _ _ _ _ _ _ _ _ (Frag.In.keeps X1 (Fr.keep (by k_asm))) ?_
  intro h5 e5 t5 M5
  obtain ⟨t6, d6, he6, _, _⟩ := M5.there
  refine ⟨e5, t6, d6, rfl, M5.keeps _ _ (Fr.keep (by k_asm) _ _ hC), he6, ?_⟩
  refine leave_raiseD B1 M5 (by k_asm) (by k_asm) ?_
  intro h6 t7 R6 R6' U6
  exact hE _ _ ⟨e5, t7, _, g1, _, h6, _, rfl, rfl, FG1, raisedS_sub R6 (fun q hq => by repeat' (first | exact hq | apply List.Mem.tail)), U6⟩
theorem lamr7 {w : World} {p : Program} {loose : List Str} {mean : ExcName → Option Value} {mg mb : Str → Option Value} : LamR w p loose mean mg mb (.Call (.Attribute (.Call (.Name "TwoRate" ⟨168, 8, 168, 15⟩) [(.Constant (.int 1) 0 ⟨168, 16, 168, 17⟩), (.Constant (.int 5) 0 ⟨168, 19, 168, 20⟩), (.Constant (.int 2) 0 ⟨168, 22, 168, 23⟩), (.Constant (.int 5) 0 ⟨168, 25, 168, 26⟩), .Constant (.bool true) 0 ⟨168, 28, 168, 32⟩] [] ⟨168, 8, 168, 33⟩) "color" ⟨168, 8, 168, 39⟩) [.Constant (.int 1) 0 ⟨168, 40, 168, 41⟩, .Constant (.int 0) 0 ⟨168, 43, 168, 44⟩, .Constant (.str (Str.ofString "blue")) 0 ⟨168, 46, 168, 52⟩] [] ⟨168, 8, 168, 53⟩) (lscope "TwoRate") := by
  refine ⟨?_⟩
  k_fill
  intro qual L a ccd gd outer A₀ base h₀ m s Q E news B F X N T hE
  repeat' (first | (k_unfold; (try dsimp only)) | ((fail_if_success (with_reducible show wpAny _ _ (call (Value.ref 192) _) _ _ _)); first | (first | (with_reducible ((k_here; (with_reducible show wpAny _ _ (call (Value.ref 165) _) _ _ _); k_dflt (refine' call_cls ?k1 ?k2 ?k3 ?k4 ?k5 ?k6 ?_; (case k1 => k_asm); (case k2 => k_asm); (case k3 => k_asm); (case k4 => k_is); (case k5 => k_is); (case k6 => k_is); k_whole; intro x' d' h' F' N' l1 l2; (try k_lt l1); (try k_lt2 l2); (refine' code_def ?k1 ?k2 ?k3 ?k4 ?k5 ?kA ?kF ?kK ?k6 ?k7 ?k8 ?k9 ?kB ?_ ?c2 ?c3 ?c4 ?c5; (case kA => exact rfl); (case kF => exact rfl); (case kK => first | exact rfl | assumption); (case k1 => k_asm); (case k2 => k_asm); (case k3 => k_asm); (case k4 => k_asm); (case k5 => k_asm); (case k6 => k_is); (case k7 => k_is); (case k8 => ktr_room); (case k9 => first | exact BindsTo.of_eq rfl | exact binds_K (by k_in) rfl (by k_is) rfl rfl rfl); (case c5 => decide); (case kB => exact locs rfl); (case c2 => exact rfl); (case c3 => exact rfl); (case c4 => exact rfl); k_whole; intro g' L' h' FG' F' N' B' X' T'; (try dsimp only); (try k_lift B'); (try k_fold)))))) | (with_reducible ((k_here; (with_reducible show wpAny _ _ (call (Value.ref 195) _) _ _ _); (k_dflt (refine' ClaimK.use (Claim.km (mk_ok ?a1 ?a2 ?a3 ?a4 ?a5 ?a6 ?a7)) ?kB ?kF ?kX ?kN ?kT ?kK ?kd ?ku ?_; (case kN => k_asm); (case kF => k_asm); (case kB => k_asm); (case kX => k_asm); (case kT => k_asm); (case kK => first | exact rfl | assumption); (case kd => ktr_room); (case ku => ktr_units); (case a1 => omega); (case a2 => omega); (case a3 => omega); (case a4 => omega); (case a5 => omega); (case a6 => omega); (case a7 => omega))); (intro pp9 pd9 b91 d91 b92 d92 KP9 K91 K92 y91 y92 y93 y94 S9 o9 f91 f92 f93 f94 f95 h9 tk9 F9 N9); dsimp only [plL] at N9; (try k_lt o9); (try dsimp only)))) | (with_reducible ((k_here; (with_reducible show wpAny _ _ (compareOp CmpOp.NotIn (Value.str _ _) (Value.ref 132)) _ _ _); (with_unfolding_all refine' notin_tuple_strs ?k1 ?k2 ?_; (case k1 => exact tupK (Frag.In.keeps (by k_asm) (Fr.keep (by k_asm))) (by k_is)); (case k2 => kde_strs); k_whole)))) | (with_reducible ((k_here; (with_reducible show wpAny _ _ (call (Value.ref 127) _) _ _ _); k_dflt (refine' call_cls ?k1 ?k2 ?k3 ?k4 ?k5 ?k6 ?_; (case k1 => k_asm); (case k2 => k_asm); (case k3 => k_asm); (case k4 => k_is); (case k5 => k_is); (case k6 => k_is); k_whole; intro x' d' h' F' N' l1 l2; (try k_lt l1); (try k_lt2 l2); (refine' code_def ?k1 ?k2 ?k3 ?k4 ?k5 ?kA ?kF ?kK ?k6 ?k7 ?k8 ?k9 ?kB ?_ ?c2 ?c3 ?c4 ?c5; (case kA => exact rfl); (case kF => exact rfl); (case kK => first | exact rfl | assumption); (case k1 => k_asm); (case k2 => k_asm); (case k3 => k_asm); (case k4 => k_asm); (case k5 => k_asm); (case k6 => k_is); (case k7 => k_is); (case k8 => ktr_room); (case k9 => first | exact BindsTo.of_eq rfl | exact binds_K (by k_in) rfl (by k_is) rfl rfl rfl); (case c5 => decide); (case kB => exact locs rfl); (case c2 => exact rfl); (case c3 => exact rfl); (case c4 => exact rfl); k_whole; intro g' L' h' FG' F' N' B' X' T'; (try dsimp only); (try k_lift B'); (try k_fold)))))) | walk1) | (dsimp only; (first | (with_reducible ((k_here; (with_reducible show wpAny _ _ (call (Value.ref 165) _) _ _ _); k_dflt (refine' call_cls ?k1 ?k2 ?k3 ?k4 ?k5 ?k6 ?_; (case k1 => k_asm); (case k2 => k_asm); (case k3 => k_asm); (case k4 => k_is); (case k5 => k_is); (case k6 => k_is); k_whole; intro x' d' h' F' N' l1 l2; (try k_lt l1); (try k_lt2 l2); (refine' code_def ?k1 ?k2 ?k3 ?k4 ?k5 ?kA ?kF ?kK ?k6 ?k7 ?k8 ?k9 ?kB ?_ ?c2 ?c3 ?c4 ?c5; (case kA => exact rfl); (case kF => exact rfl); (case kK => first | exact rfl | assumption); (case k1 => k_asm); (case k2 => k_asm); (case k3 => k_asm); (case k4 => k_asm); (case k5 => k_asm); (case k6 => k_is); (case k7 => k_is); (case k8 => ktr_room); (case k9 => first | exact BindsTo.of_eq rfl | exact binds_K (by k_in) rfl (by k_is) rfl rfl rfl); (case c5 => decide); (case kB => exact locs rfl); (case c2 => exact rfl); (case c3 => exact rfl); (case c4 => exact rfl); k_whole; intro g' L' h' FG' F' N' B' X' T'; (try dsimp only); (try k_lift B'); (try k_fold)))))) | (with_reducible ((k_here; (with_reducible show wpAny _ _ (call (Value.ref 195) _) _ _ _); (k_dflt (refine' ClaimK.use (Claim.km (mk_ok ?a1 ?a2 ?a3 ?a4 ?a5 ?a6 ?a7)) ?kB ?kF ?kX ?kN ?kT ?kK ?kd ?ku ?_; (case kN => k_asm); (case kF => k_asm); (case kB => k_asm); (case kX => k_asm); (case kT => k_asm); (case kK => first | exact rfl | assumption); (case kd => ktr_room); (case ku => ktr_units); (case a1 => omega); (case a2 => omega); (case a3 => omega); (case a4 => omega); (case a5 => omega); (case a6 => omega); (case a7 => omega))); (intro pp9 pd9 b91 d91 b92 d92 KP9 K91 K92 y91 y92 y93 y94 S9 o9 f91 f92 f93 f94 f95 h9 tk9 F9 N9); dsimp only [plL] at N9; (try k_lt o9); (try dsimp only)))) | (with_reducible ((k_here; (with_reducible show wpAny _ _ (compareOp CmpOp.NotIn (Value.str _ _) (Value.ref 132)) _ _ _); (with_unfolding_all refine' notin_tuple_strs ?k1 ?k2 ?_; (case k1 => exact tupK (Frag.In.keeps (by k_asm) (Fr.keep (by k_asm))) (by k_is)); (case k2 => kde_strs); k_whole)))) | (with_reducible ((k_here; (with_reducible show wpAny _ _ (call (Value.ref 127) _) _ _ _); k_dflt (refine' call_cls ?k1 ?k2 ?k3 ?k4 ?k5 ?k6 ?_; (case k1 => k_asm); (case k2 => k_asm); (case k3 => k_asm); (case k4 => k_is); (case k5 => k_is); (case k6 => k_is); k_whole; intro x' d' h' F' N' l1 l2; (try k_lt l1); (try k_lt2 l2); (refine' code_def ?k1 ?k2 ?k3 ?k4 ?k5 ?kA ?kF ?kK ?k6 ?k7 ?k8 ?k9 ?kB ?_ ?c2 ?c3 ?c4 ?c5; (case kA => exact rfl); (case kF => exact rfl); (case kK => first | exact rfl | assumption); (case k1 => k_asm); (case k2 => k_asm); (case k3 => k_asm); (case k4 => k_asm); (case k5 => k_asm); (case k6 => k_is); (case k7 => k_is); (case k8 => ktr_room); (case k9 => first | exact BindsTo.of_eq rfl | exact binds_K (by k_in) rfl (by k_is) rfl rfl rfl); (case c5 => decide); (case kB => exact locs rfl); (case c2 => exact rfl); (case c3 => exact rfl); (case c4 => exact rfl); k_whole; intro g' L' h' FG' F' N' B' X' T'; (try dsimp only); (try k_lift B'); (try k_fold)))))) | walk1))))
  refine wpAny_call ?_
  refine' code_def ?k1 ?k2 ?k3 ?k4 ?k5 ?kA ?kF ?kK ?k6 ?k7 ?k8 ?k9 ?kB ?_ ?c2 ?c3 ?c4 ?c5; (case kA => exact rfl); (case kF => exact rfl); (case kK => first | exact rfl | assumption); (case k1 => k_asm); (case k2 => k_asm); (case k3 => k_asm); (case k4 => k_asm); (case k5 => k_asm); (case k6 => k_is); (case k7 => k_is); (case k8 => ktr_room); (case k9 => first | exact BindsTo.of_eq rfl | exact binds_K (by k_in) rfl (by k_is) rfl rfl rfl); (case c5 => decide); (case kB => exact locs rfl); (case c2 => exact rfl); (case c3 => exact rfl); (case c4 => exact rfl); k_whole
  intro g1 L1 h1 FG1 F1 N1 B1 X1 T1
  (try dsimp only); (try k_lift B1); (try k_fold)
  repeat' (first | (k_unfold; (try dsimp only)) | ((fail_if_success (with_reducible show wpAny _ _ (call (Value.ref 139) _) _ _ _)); first | (first | (with_reducible ((k_here; (with_reducible show wpAny _ _ (call (Value.ref 165) _) _ _ _); k_dflt (refine' call_cls ?k1 ?k2 ?k3 ?k4 ?k5 ?k6 ?_; (case k1 => k_asm); (case k2 => k_asm); (case k3 => k_asm); (case k4 => k_is); (case k5 => k_is); (case k6 => k_is); k_whole; intro x' d' h' F' N' l1 l2; (try k_lt l1); (try k_lt2 l2); (refine' code_def ?k1 ?k2 ?k3 ?k4 ?k5 ?kA ?kF ?kK ?k6 ?k7 ?k8 ?k9 ?kB ?_ ?c2 ?c3 ?c4 ?c5; (case kA => exact rfl); (case kF => exact rfl); (case kK => first | exact rfl | assumption); (case k1 => k_asm); (case k2 => k_asm); (case k3 => k_asm); (case k4 => k_asm); (case k5 => k_asm); (case k6 => k_is); (case k7 => k_is); (case k8 => ktr_room); (case k9 => first | exact BindsTo.of_eq rfl | exact binds_K (by k_in) rfl (by k_is) rfl rfl rfl); (case c5 => decide); (case kB => exact locs rfl); (case c2 => exact rfl); (case c3 => exact rfl); (case c4 => exact rfl); k_whole; intro g' L' h' FG' F' N' B' X' T'; (try dsimp only); (try k_lift B'); (try k_fold)))))) | (with_reducible ((k_here; (with_reducible show wpAny _ _ (call (Value.ref 195) _) _ _ _); (k_dflt (refine' ClaimK.use (Claim.km (mk_ok ?a1 ?a2 ?a3 ?a4 ?a5 ?a6 ?a7)) ?kB ?kF ?kX ?kN ?kT ?kK ?kd ?ku ?_; (case kN => k_asm); (case kF => k_asm); (case kB => k_asm); (case kX => k_asm); (case kT => k_asm); (case kK => first | exact rfl | assumption); (case kd => ktr_room); (case ku => ktr_units); (case a1 => omega); (case a2 => omega); (case a3 => omega); (case a4 => omega); (case a5 => omega); (case a6 => omega); (case a7 => omega))); (intro pp9 pd9 b91 d91 b92 d92 KP9 K91 K92 y91 y92 y93 y94 S9 o9 f91 f92 f93 f94 f95 h9 tk9 F9 N9); dsimp only [plL] at N9; (try k_lt o9); (try dsimp only)))) | (with_reducible ((k_here; (with_reducible show wpAny _ _ (compareOp CmpOp.NotIn (Value.str _ _) (Value.ref 132)) _ _ _); (with_unfolding_all refine' notin_tuple_strs ?k1 ?k2 ?_; (case k1 => exact tupK (Frag.In.keeps (by k_asm) (Fr.keep (by k_asm))) (by k_is)); (case k2 => kde_strs); k_whole)))) | (with_reducible ((k_here; (with_reducible show wpAny _ _ (call (Value.ref 127) _) _ _ _); k_dflt (refine' call_cls ?k1 ?k2 ?k3 ?k4 ?k5 ?k6 ?_; (case k1 => k_asm); (case k2 => k_asm); (case k3 => k_asm); (case k4 => k_is); (case k5 => k_is); (case k6 => k_is); k_whole; intro x' d' h' F' N' l1 l2; (try k_lt l1); (try k_lt2 l2); (refine' code_def ?k1 ?k2 ?k3 ?k4 ?k5 ?kA ?kF ?kK ?k6 ?k7 ?k8 ?k9 ?kB ?_ ?c2 ?c3 ?c4 ?c5; (case kA => exact rfl); (case kF => exact rfl); (case kK => first | exact rfl | assumption); (case k1 => k_asm); (case k2 => k_asm); (case k3 => k_asm); (case k4 => k_asm); (case k5 => k_asm); (case k6 => k_is); (case k7 => k_is); (case k8 => ktr_room); (case k9 => first | exact BindsTo.of_eq rfl | exact binds_K (by k_in) rfl (by k_is) rfl rfl rfl); (case c5 => decide); (case kB => exact locs rfl); (case c2 => exact rfl); (case c3 => exact rfl); (case c4 => exact rfl); k_whole; intro g' L' h' FG' F' N' B' X' T'; (try dsimp only); (try k_lift B'); (try k_fold)))))) | walk1) | (dsimp only; (first | (with_reducible ((k_here; (with_reducible show wpAny _ _ (call (Value.ref 165) _) _ _ _); k_dflt (refine' call_cls ?k1 ?k2 ?k3 ?k4 ?k5 ?k6 ?_; (case k1 => k_asm); (case k2 => k_asm); (case k3 => k_asm); (case k4 => k_is); (case k5 => k_is); (case k6 => k_is); k_whole; intro x' d' h' F' N' l1 l2; (try k_lt l1); (try k_lt2 l2); (refine' code_def ?k1 ?k2 ?k3 ?k4 ?k5 ?kA ?kF ?kK ?k6 ?k7 ?k8 ?k9 ?kB ?_ ?c2 ?c3 ?c4 ?c5; (case kA => exact rfl); (case kF => exact rfl); (case kK => first | exact rfl | assumption); (case k1 => k_asm); (case k2 => k_asm); (case k3 => k_asm); (case k4 => k_asm); (case k5 => k_asm); (case k6 => k_is); (case k7 => k_is); (case k8 => ktr_room); (case k9 => first | exact BindsTo.of_eq rfl | exact binds_K (by k_in) rfl (by k_is) rfl rfl rfl); (case c5 => decide); (case kB => exact locs rfl); (case c2 => exact rfl); (case c3 => exact rfl); (case c4 => exact rfl); k_whole; intro g' L' h' FG' F' N' B' X' T'; (try dsimp only); (try k_lift B'); (try k_fold)))))) | (with_reducible ((k_here; (with_reducible show wpAny _ _ (call (Value.ref 195) _) _ _ _); (k_dflt (refine' ClaimK.use (Claim.km (mk_ok ?a1 ?a2 ?a3 ?a4 ?a5 ?a6 ?a7)) ?kB ?kF ?kX ?kN ?kT ?kK ?kd ?ku ?_; (case kN => k_asm); (case kF => k_asm); (case kB => k_asm); (case kX => k_asm); (case kT => k_asm); (case kK => first | exact rfl | assumption); (case kd => ktr_room); (case ku => ktr_units); (case a1 => omega); (case a2 => omega); (case a3 => omega); (case a4 => omega); (case a5 => omega); (case a6 => omega); (case a7 => omega))); (intro pp9 pd9 b91 d91 b92 d92 KP9 K91 K92 y91 y92 y93 y94 S9 o9 f91 f92 f93 f94 f95 h9 tk9 F9 N9); dsimp only [plL] at N9; (try k_lt o9); (try dsimp only)))) | (with_reducible ((k_here; (with_reducible show wpAny _ _ (compareOp CmpOp.NotIn (Value.str _ _) (Value.ref 132)) _ _ _); (with_unfolding_all refine' notin_tuple_strs ?k1 ?k2 ?_; (case k1 => exact tupK (Frag.In.keeps (by k_asm) (Fr.keep (by k_asm))) (by k_is)); (case k2 => kde_strs); k_whole)))) | (with_reducible ((k_here; (with_reducible show wpAny _ _ (call (Value.ref 127) _) _ _ _); k_dflt (refine' call_cls ?k1 ?k2 ?k3 ?k4 ?k5 ?k6 ?_; (case k1 => k_asm); (case k2 => k_asm); (case k3 => k_asm); (case k4 => k_is); (case k5 => k_is); (case k6 => k_is); k_whole; intro x' d' h' F' N' l1 l2; (try k_lt l1); (try k_lt2 l2); (refine' code_def ?k1 ?k2 ?k3 ?k4 ?k5 ?kA ?kF ?kK ?k6 ?k7 ?k8 ?k9 ?kB ?_ ?c2 ?c3 ?c4 ?c5; (case kA => exact rfl); (case kF => exact rfl); (case kK => first | exact rfl | assumption); (case k1 => k_asm); (case k2 => k_asm); (case k3 => k_asm); (case k4 => k_asm); (case k5 => k_asm); (case k6 => k_is); (case k7 => k_is); (case k8 => ktr_room); (case k9 => first | exact BindsTo.of_eq rfl | exact binds_K (by k_in) rfl (by k_is) rfl rfl rfl); (case c5 => decide); (case kB => exact locs rfl); (case c2 => exact rfl); (case c3 => exact rfl); (case c4 => exact rfl); k_whole; intro g' L' h' FG' F' N' B' X' T'; (try dsimp only); (try k_lift B'); (try k_fold)))))) | walk1))))
  refine before_blue gd _ _ _ _ _ _ _ _ _ _ _ _ _ B1 (by k_asm) X1 (by k_asm) T1 rfl ?_
  rintro v9 s9 ⟨e9, t9, vs9, g9, m9, h9, tk9, rfl, rfl, FG9, R9, U9⟩
  refine leave_onS B1 FG9 R9 U9 ?_
  intro h8 R8 R8' U8
  exact hE _ _ ⟨e9, t9, _, g1, _, h8, _, rfl, rfl, FG1, raisedS_sub R8 (fun q hq => by repeat' (first | exact hq | apply List.Mem.tail)), U8⟩
theorem lamr8 {w : World} {p : Program} {loose : List Str} {mean : ExcName → Option Value} {mg mb : Str → Option Value} : LamR w p loose mean mg mb (.Call (.Attribute (.Call (.Name "SingleRate" ⟨170, 8, 170, 18⟩) [(.Constant (.int 1) 0 ⟨170, 19, 170, 20⟩), (.Constant (.int 5) 0 ⟨170, 22, 170, 23⟩), (.Constant (.int 5) 0 ⟨170, 25, 170, 26⟩), .Constant (.bool true) 0 ⟨170, 28, 170, 32⟩] [] ⟨170, 8, 170, 33⟩) "color" ⟨170, 8, 170, 39⟩) [.Constant (.int 1) 0 ⟨170, 40, 170, 41⟩, .Constant (.int 0) 0 ⟨170, 43, 170, 44⟩, .Constant (.str (Str.ofString "")) 0 ⟨170, 46, 170, 48⟩] [] ⟨170, 8, 170, 49⟩) (lscope "SingleRate") := by
  refine ⟨?_⟩
  k_fill
  intro qual L a ccd gd outer A₀ base h₀ m s Q E news B F X N T hE
  repeat' (first | (k_unfold; (try dsimp only)) | ((fail_if_success (with_reducible show wpAny _ _ (call (Value.ref 162) _) _ _ _)); first | (first | (with_reducible ((k_here; (with_reducible show wpAny _ _ (call (Value.ref 165) _) _ _ _); k_dflt (refine' call_cls ?k1 ?k2 ?k3 ?k4 ?k5 ?k6 ?_; (case k1 => k_asm); (case k2 => k_asm); (case k3 => k_asm); (case k4 => k_is); (case k5 => k_is); (case k6 => k_is); k_whole; intro x' d' h' F' N' l1 l2; (try k_lt l1); (try k_lt2 l2); (refine' code_def ?k1 ?k2 ?k3 ?k4 ?k5 ?kA ?kF ?kK ?k6 ?k7 ?k8 ?k9 ?kB ?_ ?c2 ?c3 ?c4 ?c5; (case kA => exact rfl); (case kF => exact rfl); (case kK => first | exact rfl | assumption); (case k1 => k_asm); (case k2 => k_asm); (case k3 => k_asm); (case k4 => k_asm); (case k5 => k_asm); (case k6 => k_is); (case k7 => k_is); (case k8 => ktr_room); (case k9 => first | exact BindsTo.of_eq rfl | exact binds_K (by k_in) rfl (by k_is) rfl rfl rfl); (case c5 => decide); (case kB => exact locs rfl); (case c2 => exact rfl); (case c3 => exact rfl); (case c4 => exact rfl); k_whole; intro g' L' h' FG' F' N' B' X' T'; (try dsimp only); (try k_lift B'); (try k_fold)))))) | (with_reducible ((k_here; (with_reducible show wpAny _ _ (call (Value.ref 195) _) _ _ _); (k_dflt (refine' ClaimK.use (Claim.km (mk_ok ?a1 ?a2 ?a3 ?a4 ?a5 ?a6 ?a7)) ?kB ?kF ?kX ?kN ?kT ?kK ?kd ?ku ?_; (case kN => k_asm); (case kF => k_asm); (case kB => k_asm); (case kX => k_asm); (case kT => k_asm); (case kK => first | exact rfl | assumption); (case kd => ktr_room); (case ku => ktr_units); (case a1 => omega); (case a2 => omega); (case a3 => omega); (case a4 => omega); (case a5 => omega); (case a6 => omega); (case a7 => omega))); (intro pp9 pd9 b91 d91 b92 d92 KP9 K91 K92 y91 y92 y93 y94 S9 o9 f91 f92 f93 f94 f95 h9 tk9 F9 N9); dsimp only [plL] at N9; (try k_lt o9); (try dsimp only)))) | (with_reducible ((k_here; (with_reducible show wpAny _ _ (compareOp CmpOp.NotIn (Value.str _ _) (Value.ref 132)) _ _ _); (with_unfolding_all refine' notin_tuple_strs ?k1 ?k2 ?_; (case k1 => exact tupK (Frag.In.keeps (by k_asm) (Fr.keep (by k_asm))) (by k_is)); (case k2 => kde_strs); k_whole)))) | (with_reducible ((k_here; (with_reducible show wpAny _ _ (call (Value.ref 127) _) _ _ _); k_dflt (refine' call_cls ?k1 ?k2 ?k3 ?k4 ?k5 ?k6 ?_; (case k1 => k_asm); (case k2 => k_asm); (case k3 => k_asm); (case k4 => k_is); (case k5 => k_is); (case k6 => k_is); k_whole; intro x' d' h' F' N' l1 l2; (try k_lt l1); (try k_lt2 l2); (refine' code_def ?k1 ?k2 ?k3 ?k4 ?k5 ?kA ?kF ?kK ?k6 ?k7 ?k8 ?k9 ?kB ?_ ?c2 ?c3 ?c4 ?c5; (case kA => exact rfl); (case kF => exact rfl); (case kK => first | exact rfl | assumption); (case k1 => k_asm); (case k2 => k_asm); (case k3 => k_asm); (case k4 => k_asm); (case k5 => k_asm); (case k6 => k_is); (case k7 => k_is); (case k8 => ktr_room); (case k9 => first | exact BindsTo.of_eq rfl | exact binds_K (by k_in) rfl (by k_is) rfl rfl rfl); (case c5 => decide); (case kB => exact locs rfl); (case c2 => exact rfl); (case c3 => exact rfl); (case c4 => exact rfl); k_whole; intro g' L' h' FG' F' N' B' X' T'; (try dsimp only); (try k_lift B'); (try k_fold)))))) | walk1) | (dsimp only; (first | (with_reducible ((k_here; (with_reducible show wpAny _ _ (call (Value.ref 165) _) _ _ _); k_dflt (refine' call_cls ?k1 ?k2 ?k3 ?k4 ?k5 ?k6 ?_; (case k1 => k_asm); (case k2 => k_asm); (case k3 => k_asm); (case k4 => k_is); (case k5 => k_is); (case k6 => k_is); k_whole; intro x' d' h' F' N' l1 l2; (try k_lt l1); (try k_lt2 l2); (refine' code_def ?k1 ?k2 ?k3 ?k4 ?k5 ?kA ?kF ?kK ?k6 ?k7 ?k8 ?k9 ?kB ?_ ?c2 ?c3 ?c4 ?c5; (case kA => exact rfl); (case kF => exact rfl); (case kK => first | exact rfl | assumption); (case k1 => k_asm); (case k2 => k_asm); (case k3 => k_asm); (case k4 => k_asm); (case k5 => k_asm); (case k6 => k_is); (case k7 => k_is); (case k8 => ktr_room); (case k9 => first | exact BindsTo.of_eq rfl | exact binds_K (by k_in) rfl (by k_is) rfl rfl rfl); (case c5 => decide); (case kB => exact locs rfl); (case c2 => exact rfl); (case c3 => exact rfl); (case c4 => exact rfl); k_whole; intro g' L' h' FG' F' N' B' X' T'; (try dsimp only); (try k_lift B'); (try k_fold)))))) | (with_reducible ((k_here; (with_reducible show wpAny _ _ (call (Value.ref 195) _) _ _ _); (k_dflt (refine' ClaimK.use (Claim.km (mk_ok ?a1 ?a2 ?a3 ?a4 ?a5 ?a6 ?a7)) ?kB ?kF ?kX ?kN ?kT ?kK ?kd ?ku ?_; (case kN => k_asm); (case kF => k_asm); (case kB => k_asm); (case kX => k_asm); (case kT => k_asm); (case kK => first | exact rfl | assumption); (case kd => ktr_room); (case ku => ktr_units); (case a1 => omega); (case a2 => omega); (case a3 => omega); (case a4 => omega); (case a5 => omega); (case a6 => omega); (case a7 => omega))); (intro pp9 pd9 b91 d91 b92 d92 KP9 K91 K92 y91 y92 y93 y94 S9 o9 f91 f92 f93 f94 f95 h9 tk9 F9 N9); dsimp only [plL] at N9; (try k_lt o9); (try dsimp only)))) | (with_reducible ((k_here; (with_reducible show wpAny _ _ (compareOp CmpOp.NotIn (Value.str _ _) (Value.ref 132)) _ _ _); (with_unfolding_all refine' notin_tuple_strs ?k1 ?k2 ?_; (case k1 => exact tupK (Frag.In.keeps (by k_asm) (Fr.keep (by k_asm))) (by k_is)); (case k2 => kde_strs); k_whole)))) | (with_reducible ((k_here; (with_reducible show wpAny _ _ (call (Value.ref 127) _) _ _ _); k_dflt (refine' call_cls ?k1 ?k2 ?k3 ?k4 ?k5 ?k6 ?_; (case k1 => k_asm); (case k2 => k_asm); (case k3 => k_asm); (case k4 => k_is); (case k5 => k_is); (case k6 => k_is); k_whole; intro x' d' h' F' N' l1 l2; (try k_lt l1); (try k_lt2 l2); (refine' code_def ?k1 ?k2 ?k3 ?k4 ?k5 ?kA ?kF ?kK ?k6 ?k7 ?k8 ?k9 ?kB ?_ ?c2 ?c3 ?c4 ?c5; (case kA => exact rfl); (case kF => exact rfl); (case kK => first | exact rfl | assumption); (case k1 => k_asm); (case k2 => k_asm); (case k3 => k_asm); (case k4 => k_asm); (case k5 => k_asm); (case k6 => k_is); (case k7 => k_is); (case k8 => ktr_room); (case k9 => first | exact BindsTo.of_eq rfl | exact binds_K (by k_in) rfl (by k_is) rfl rfl rfl); (case c5 => decide); (case kB => exact locs rfl); (case c2 => exact rfl); (case c3 => exact rfl); (case c4 => exact rfl); k_whole; intro g' L' h' FG' F' N' B' X' T'; (try dsimp only); (try k_lift B'); (try k_fold)))))) | walk1))))
  refine wpAny_call ?_
  refine' code_def ?k1 ?k2 ?k3 ?k4 ?k5 ?kA ?kF ?kK ?k6 ?k7 ?k8 ?k9 ?kB ?_ ?c2 ?c3 ?c4 ?c5; (case kA => exact rfl); (case kF => exact rfl); (case kK => first | exact rfl | assumption); (case k1 => k_asm); (case k2 => k_asm); (case k3 => k_asm); (case k4 => k_asm); (case k5 => k_asm); (case k6 => k_is); (case k7 => k_is); (case k8 => ktr_room); (case k9 => first | exact BindsTo.of_eq rfl | exact binds_K (by k_in) rfl (by k_is) rfl rfl rfl); (case c5 => decide); (case kB => exact locs rfl); (case c2 => exact rfl); (case c3 => exact rfl); (case c4 => exact rfl); k_whole
  intro g1 L1 h1 FG1 F1 N1 B1 X1 T1
  (try dsimp only); (try k_lift B1); (try k_fold)
  repeat' (first | (k_unfold; (try dsimp only)) | ((fail_if_success (with_reducible show wpAny _ _ (call (Value.ref 139) _) _ _ _)); first | (first | (with_reducible ((k_here; (with_reducible show wpAny _ _ (call (Value.ref 165) _) _ _ _); k_dflt (refine' call_cls ?k1 ?k2 ?k3 ?k4 ?k5 ?k6 ?_; (case k1 => k_asm); (case k2 => k_asm); (case k3 => k_asm); (case k4 => k_is); (case k5 => k_is); (case k6 => k_is); k_whole; intro x' d' h' F' N' l1 l2; (try k_lt l1); (try k_lt2 l2); (refine' code_def ?k1 ?k2 ?k3 ?k4 ?k5 ?kA ?kF ?kK ?k6 ?k7 ?k8 ?k9 ?kB ?_ ?c2 ?c3 ?c4 ?c5; (case kA => exact rfl); (case kF => exact rfl); (case kK => first | exact rfl | assumption); (case k1 => k_asm); (case k2 => k_asm); (case k3 => k_asm); (case k4 => k_asm); (case k5 => k_asm); (case k6 => k_is); (case k7 => k_is); (case k8 => ktr_room); (case k9 => first | exact BindsTo.of_eq rfl | exact binds_K (by k_in) rfl (by k_is) rfl rfl rfl); (case c5 => decide); (case kB => exact locs rfl); (case c2 => exact rfl); (case c3 => exact rfl); (case c4 => exact rfl); k_whole; intro g' L' h' FG' F' N' B' X' T'; (try dsimp only); (try k_lift B'); (try k_fold)))))) | (with_reducible ((k_here; (with_reducible show wpAny _ _ (call (Value.ref 195) _) _ _ _); (k_dflt (refine' ClaimK.use (Claim.km (mk_ok ?a1 ?a2 ?a3 ?a4 ?a5 ?a6 ?a7)) ?kB ?kF ?kX ?kN ?kT ?kK ?kd ?ku ?_; (case kN => k_asm); (case kF => k_asm); (case kB => k_asm); (case kX => k_asm); (case kT => k_asm); (case kK => first | exact rfl | assumption); (case kd => ktr_room); (case ku => ktr_units); (case a1 => omega); (case a2 => omega); (case a3 => omega); (case a4 => omega); (case a5 => omega); (case a6 => omega); (case a7 => omega))); (intro pp9 pd9 b91 d91 b92 d92 KP9 K91 K92 y91 y92 y93 y94 S9 o9 f91 f92 f93 f94 f95 h9 tk9 F9 N9); dsimp only [plL] at N9; (try k_lt o9); (try dsimp only)))) | (with_reducible ((k_here; (with_reducible show wpAny _ _ (compareOp CmpOp.NotIn (Value.str _ _) (Value.ref 132)) _ _ _); (with_unfolding_all refine' notin_tuple_strs ?k1 ?k2 ?_; (case k1 => exact tupK (Frag.In.keeps (by k_asm) (Fr.keep (by k_asm))) (by k_is)); (case k2 => kde_strs); k_whole)))) | (with_reducible ((k_here; (with_reducible show wpAny _ _ (call (Value.ref 127) _) _ _ _); k_dflt (refine' call_cls ?k1 ?k2 ?k3 ?k4 ?k5 ?k6 ?_; (case k1 => k_asm); (case k2 => k_asm); (case k3 => k_asm); (case k4 => k_is); (case k5 => k_is); (case k6 => k_is); k_whole; intro x' d' h' F' N' l1 l2; (try k_lt l1); (try k_lt2 l2); (refine' code_def ?k1 ?k2 ?k3 ?k4 ?k5 ?kA ?kF ?kK ?k6 ?k7 ?k8 ?k9 ?kB ?_ ?c2 ?c3 ?c4 ?c5; (case kA => exact rfl); (case kF => exact rfl); (case kK => first | exact rfl | assumption); (case k1 => k_asm); (case k2 => k_asm); (case k3 => k_asm); (case k4 => k_asm); (case k5 => k_asm); (case k6 => k_is); (case k7 => k_is); (case k8 => ktr_room); (case k9 => first | exact BindsTo.of_eq rfl | exact binds_K (by k_in) rfl (by k_is) rfl rfl rfl); (case c5 => decide); (case kB => exact locs rfl); (case c2 => exact rfl); (case c3 => exact rfl); (case c4 => exact rfl); k_whole; intro g' L' h' FG' F' N' B' X' T'; (try dsimp only); (try k_lift B'); (try k_fold)))))) | walk1) | (dsimp only; (first | (with_reducible ((k_here; (with_reducible show wpAny _ _ (call (Value.ref 165) _) _ _ _); k_dflt (refine' call_cls ?k1 ?k2 ?k3 ?k4 ?k5 ?k6 ?_; (case k1 => k_asm); (case k2 => k_asm); (case k3 => k_asm); (case k4 => k_is); (case k5 => k_is); (case k6 => k_is); k_whole; intro x' d' h' F' N' l1 l2; (try k_lt l1); (try k_lt2 l2); (refine' code_def ?k1 ?k2 ?k3 ?k4 ?k5 ?kA ?kF ?kK ?k6 ?k7 ?k8 ?k9 ?kB ?_ ?c2 ?c3 ?c4 ?c5; (case kA => exact rfl); (case kF => exact rfl); (case kK => first | exact rfl | assumption); (case k1 => k_asm); (case k2 => k_asm); (case k3 => k_asm); (case k4 => k_asm); (case k5 => k_asm); (case k6 => k_is); (case k7 => k_is); (case k8 => ktr_room); (case k9 => first | exact BindsTo.of_eq rfl | exact binds_K (by k_in) rfl (by k_is) rfl rfl rfl); (case c5 => decide); (case kB => exact locs rfl); (case c2 => exact rfl); (case c3 => exact rfl); (case c4 => exact rfl); k_whole; intro g' L' h' FG' F' N' B' X' T'; (try dsimp only); (try k_lift B'); (try k_fold)))))) | (with_reducible ((k_here; (with_reducible show wpAny _ _ (call (Value.ref 195) _) _ _ _); (k_dflt (refine' ClaimK.use (Claim.km (mk_ok ?a1 ?a2 ?a3 ?a4 ?a5 ?a6 ?a7)) ?kB ?kF ?kX ?kN ?kT ?kK ?kd ?ku ?_; (case kN => k_asm); (case kF => k_asm); (case kB => k_asm); (case kX => k_asm); (case kT => k_asm); (case kK => first | exact rfl | assumption); (case kd => ktr_room); (case ku => ktr_units); (case a1 => omega); (case a2 => omega); (case a3 => omega); (case a4 => omega); (case a5 => omega); (case a6 => omega); (case a7 => omega))); (intro pp9 pd9 b91 d91 b92 d92 KP9 K91 K92 y91 y92 y93 y94 S9 o9 f91 f92 f93 f94 f95 h9 tk9 F9 N9); dsimp only [plL] at N9; (try k_lt o9); (try dsimp only)))) | (with_reducible ((k_here; (with_reducible show wpAny _ _ (compareOp CmpOp.NotIn (Value.str _ _) (Value.ref 132)) _ _ _); (with_unfolding_all refine' notin_tuple_strs ?k1 ?k2 ?_; (case k1 => exact tupK (Frag.In.keeps (by k_asm) (Fr.keep (by k_asm))) (by k_is)); (case k2 => kde_strs); k_whole)))) | (with_reducible ((k_here; (with_reducible show wpAny _ _ (call (Value.ref 127) _) _ _ _); k_dflt (refine' call_cls ?k1 ?k2 ?k3 ?k4 ?k5 ?k6 ?_; (case k1 => k_asm); (case k2 => k_asm); (case k3 => k_asm); (case k4 => k_is); (case k5 => k_is); (case k6 => k_is); k_whole; intro x' d' h' F' N' l1 l2; (try k_lt l1); (try k_lt2 l2); (refine' code_def ?k1 ?k2 ?k3 ?k4 ?k5 ?kA ?kF ?kK ?k6 ?k7 ?k8 ?k9 ?kB ?_ ?c2 ?c3 ?c4 ?c5; (case kA => exact rfl); (case kF => exact rfl); (case kK => first | exact rfl | assumption); (case k1 => k_asm); (case k2 => k_asm); (case k3 => k_asm); (case k4 => k_asm); (case k5 => k_asm); (case k6 => k_is); (case k7 => k_is); (case k8 => ktr_room); (case k9 => first | exact BindsTo.of_eq rfl | exact binds_K (by k_in) rfl (by k_is) rfl rfl rfl); (case c5 => decide); (case kB => exact locs rfl); (case c2 => exact rfl); (case c3 => exact rfl); (case c4 => exact rfl); k_whole; intro g' L' h' FG' F' N' B' X' T'; (try dsimp only); (try k_lift B'); (try k_fold)))))) | walk1))))
  refine before_none gd _ _ _ _ _ _ _ _ _ _ _ _ _ B1 (by k_asm) X1 (by k_asm) T1 rfl ?_
  rintro v9 s9 ⟨e9, t9, vs9, g9, m9, h9, tk9, rfl, rfl, FG9, R9, U9⟩
  refine leave_onS B1 FG9 R9 U9 ?_
  intro h8 R8 R8' U8
  exact hE _ _ ⟨e9, t9, _, g1, _, h8, _, rfl, rfl, FG1, raisedS_sub R8 (fun q hq => by repeat' (first | exact hq | apply List.Mem.tail)), U8⟩
end
end Mine
end
section
open PySem PySem.W PySem.Calls PyProof.Rows PySem.Spec
set_option maxRecDepth 100000
set_option maxHeartbeats 2000000
namespace Mine
open PyProof.Rows.LCg
/-- the three things that a comprehension makes stand apart -/
structure CompIn (g' : Heap) (L : Addr) (m : Str → Option Value) (news : List (Addr × Obj)) (wl I C D : Addr) (vs : List Value) (i : Nat) (h : Heap) : Prop where
  F : Fr g' L h m
  N : News g' L h ((D, lst []) :: news)
  it : h.IsListIter I wl i
  c : ∃ m', h.Ns C m'
structure CompAt (g : Heap) (L : Addr) (news : List (Addr × Obj)) (wl I C D : Addr) : Prop where
  gI : g.get? I = none
  gC : g.get? C = none
  IL : L ≠ I
  CL : C ≠ L
  IC : I ≠ C
  ID : D ≠ I
  CD : D ≠ C
  nI : ∀ q ∈ news, q.1 ≠ I
  nC : ∀ q ∈ news, q.1 ≠ C
theorem comp_ok {prog : Program} {w : World} {A : Around} {E : Value → Shared → Prop} {s : Shared} {env : Env} {g : Heap} {L : Addr} {m : Str → Option Value} {news : List (Addr × Obj)} {wl : Addr} {vs : List Value} {n0 : Nat} {Gd : Heap → Prop}
    {elt iter ct : Expr} {x : Str} {px pos : Pos} {scope : Scope} {cl : List (Str × Addr)} {Q : Value → Shared → Prop}
    (hG : Gd g) (hnone : ∀ g', Gd g' → ∀ b, g.get? b = none → g'.get? b = none) (F : Fr g L s.heap m) (N : News g L s.heap news) (hm : (wl, listOf vs.toArray n0) ∈ news) (hh : A.handled = none)
    (hclos : closureFor scope env = pure cl) (hcell : ∀ y ∈ scope.names, y.2 ≠ .cell) (hkind : scope.kind = .function)
    (hnames : ∀ y ∈ scope.names, y.2 = .local → scope.names.lookup y.1 = some .local) (hx : scope.names.lookup x = some .local)
    (hiter : ∀ Q' : Value → Shared → Prop, Q' (.ref wl) s → wpAny (model prog w) A (eval iter env) Q' E s)
    (turn : ∀ (i : Nat) (v : Value) (g' : Heap) (C : Addr) (oC : Obj) (m₂ : Str → Option Value) (news' : List (Addr × Obj)) (s₁ : Shared) (Q' : Bool → Shared → Prop) (E' : Value → Shared → Prop), vs[i]? = some v → Gd g' → Fr g' L s₁.heap m → News g' L s₁.heap news' → (∀ q ∈ news, q ∈ news') → (C, oC) ∈ news' → NsObj oC m₂ → m₂ x = some v →
      (∀ (g'' h'' : Heap) (tk'' : Nat), Gd g'' → Fr g'' L h'' m → News g'' L h'' news' → Q' false { s₁ with heap := h'', toks := tk'' }) →
      wpAny (model prog w) A (isTrue ct (compEnvC scope cl C env) (eval ct (compEnvC scope cl C env))) Q' E' s₁)
    (done : ∀ (g' h' : Heap) (tk : Nat) (D : Addr), Gd g' → Fr g' L h' m → News g' L h' ((D, lst []) :: news) → Q (.ref D) { s with heap := h', toks := tk })
    (hs : ∀ x, foldedSetIterable iter env x = pure x := by intro _; rfl) :
    wpAny (model prog w) A (eval (.ListComp elt [⟨.Name x px, iter, [ct], 0⟩] scope pos) env) Q E s := by
  rw [eval_ListComp]
  refine wpAny_comprehension_free (use := none) rfl hs hclos hkind hnames (hiter _ ?_)
  have hl : s.heap.IsList wl vs.toArray := ⟨_, (N _ hm).1, rfl, n0, rfl⟩
  have hlt : wl < s.heap.objs.size := Heap.lt_size (N _ hm).1
  refine wpAny_pyIter_list hl ?_
  refine wpAny_newObj_type (wpAny_newFunctionEnv hcell (by intro y hy; simp at hy) (fun h₁ hns₁ hsb₁ => ?_) hkind)
  dsimp only at hns₁ hsb₁ ⊢
  generalize hIo : ({ cls := .type "list_iterator", data := .fields #[.ref wl, .int 0 0] } : Obj) = oI at hns₁ hsb₁ ⊢
  have sD : (s.heap.push oI).objs.size = s.heap.objs.size + 1 := Heap.size_push _ _
  have sC : ∀ o, ((s.heap.push oI).push o).objs.size = s.heap.objs.size + 2 := fun o => by rw [Heap.size_push, sD]
  rw [sC] at hns₁ hsb₁
  rw [sD, sC]
  have old : ∀ b o, b ≠ s.heap.objs.size + 2 → ((s.heap.push oI).push { cls := .type "list", dict := none, data := .seq ([] : List Value).toArray }).get? b = some o → h₁.get? b = some o := fun b o hb e => hsb₁.extBut b o hb (Heap.get?_push_of_some _ e)
  have old0 : ∀ b o, s.heap.get? b = some o → h₁.get? b = some o := fun b o e => old b o (Nat.ne_of_lt (Nat.lt_of_lt_of_le (Heap.lt_size e) (Nat.le_add_right _ _))) (Heap.get?_push_of_some _ (Heap.get?_push_of_some _ e))
  have hD : h₁.get? (s.heap.objs.size + 1) = some (lst []) := old _ _ (Nat.ne_of_lt (Nat.lt_succ_self _)) (by rw [← sD]; exact Heap.get?_push_size _ rfl)
  have hI : h₁.get? s.heap.objs.size = some oI := old _ _ (Nat.ne_of_lt (Nat.lt_add_of_pos_right (by decide))) (Heap.get?_push_of_some _ (by rw [← hIo]; exact Heap.get?_push_size _ rfl))
  have fresh : ∀ k, g.get? (s.heap.objs.size + k) = none := fun k => Heap.get?_none_of_le (Nat.le_trans (Nat.le_of_lt (Nat.lt_of_le_of_lt F.above F.ns.lt)) (Nat.le_add_right _ _))
  have hLlt : L < s.heap.objs.size := F.ns.lt
  have nlt : ∀ q ∈ news, q.1 < s.heap.objs.size := fun q hq => Heap.lt_size (N q hq).1
  have P : CompAt g L news wl s.heap.objs.size (s.heap.objs.size + 2) (s.heap.objs.size + 1) :=
    ⟨fresh 0, fresh 2, Nat.ne_of_lt hLlt, Nat.ne_of_gt (Nat.lt_of_lt_of_le hLlt (Nat.le_add_right _ _)), Nat.ne_of_lt (Nat.lt_add_of_pos_right (by decide)), Nat.ne_of_gt (Nat.lt_succ_self _), Nat.ne_of_lt (Nat.lt_succ_self _),
      fun q hq => Nat.ne_of_lt (nlt q hq), fun q hq => Nat.ne_of_lt (Nat.lt_of_lt_of_le (nlt q hq) (Nat.le_add_right _ _))⟩
  have start : CompIn g L m news wl s.heap.objs.size (s.heap.objs.size + 2) (s.heap.objs.size + 1) vs 0 h₁ := by
    refine ⟨F.keeps old0, fun q hq => ?_, ⟨_, hI, ?_, ?_⟩, ⟨_, hns₁⟩⟩
    · rcases List.mem_cons.mp hq with rfl | hq
      · exact ⟨hD, Nat.ne_of_gt (Nat.lt_succ_of_lt hLlt), fresh 1⟩
      · exact ⟨old0 _ _ (N q hq).1, (N q hq).2⟩
    · rw [← hIo]
    · rw [← hIo]; rfl
  have W := Walks.list (prog := prog) (w := w) hh s.heap.objs.size wl (Nat.ne_of_lt hlt) vs.toArray
  have hsz : vs.toArray.size = vs.length := by simp
  rw [hsz] at W
  have hC0 : s.heap.objs.size + 2 = s.heap.objs.size + 2 := rfl
  generalize hCe : s.heap.objs.size + 2 = C at *
  generalize hDe : s.heap.objs.size + 1 = D at *
  generalize hIe : s.heap.objs.size = I at *
  obtain ⟨gI, gC, pIL, pCL, pIC, pID, pCD, nI, nC⟩ := P
  have loop : ∀ (tk0 : Nat) (pos' : Pos), codeAny (model prog w) A (.compLoop (.ListComp elt [⟨.Name x px, iter, [ct], 0⟩] scope pos) 0 (.ref I) (.ref D) (compEnvC scope cl C env)) (compPost (model prog w) A E none Q (.ref D) C) { s with heap := h₁, toks := tk0 } := by
    intro tk0 pos'
    refine codeAny_compLoop_tests (fun k s' => ∃ g' h' tk i, s' = { s with heap := h', toks := tk } ∧ i ≤ vs.length ∧ k = vs.length + 1 - i ∧ Gd g' ∧ CompIn g' L m news wl I C D vs i h') ?_ (vs.length + 1) ⟨g, h₁, _, 0, rfl, Nat.zero_le _, rfl, hG, start⟩
    rintro k s' ⟨g', h', tk, i, rfl, hi, rfl, hG', ⟨F', N', it', m', hn'⟩⟩
    have hlist : h'.IsList wl vs.toArray := ⟨_, (N' _ (List.mem_cons_of_mem _ hm)).1, rfl, n0, rfl⟩
    have gI' := hnone g' hG' I gI
    have gC' := hnone g' hG' C gC
    by_cases hlt2 : i < vs.length
    · refine W.item i _ _ _ hlt2 ⟨it', hlist⟩ fun v h₂ tk₂ hPv hst₂ hk₂ => ?_
      refine wpAny_assign_Name (wpAny_storeName_local (lookup_relabel_local hx) (hn'.at' fun o e => hk₂ _ o (by simpa using Ne.symm pIC) e) (fun h₃ hn₃ hs₃ => ?_) (by simp [compEnvC, relabel, hkind]))
      refine wpAny_tests_one ?_
      obtain ⟨oJ, heI, hr⟩ := hst₂.1
      obtain ⟨oC, heC, hoC⟩ := ns_obj hn₃
      have F₃ : Fr g' L h₃ m := (fr_but F' hk₂ pIL gI').change hs₃ pCL gC'
      have N₂ : News g' L h₂ ((D, lst []) :: news) := news_but N' hk₂ (ne_cons pID nI)
      have N₃ : News g' L h₃ ((I, oJ) :: (C, oC) :: (D, lst []) :: news) := fun q hq => by
        rcases List.mem_cons.mp hq with rfl | hq
        · exact ⟨hs₃.extBut _ _ pIC heI, Ne.symm pIL, gI'⟩
        · rcases List.mem_cons.mp hq with rfl | hq
          · exact ⟨heC, pCL, gC'⟩
          · have z := N₂ q hq
            refine ⟨hs₃.extBut _ _ ?_ z.1, z.2⟩
            rcases List.mem_cons.mp hq with rfl | hq
            · exact pCD
            · exact nC q hq
      refine turn i v g' C oC _ _ _ _ _ (by simpa using hPv) hG' F₃ N₃ (fun q hq => List.mem_cons_of_mem _ (List.mem_cons_of_mem _ (List.mem_cons_of_mem _ hq))) (List.mem_cons_of_mem _ List.mem_cons_self) hoC (by simp) ?_
      intro g'' h'' tk'' hG'' F'' N''
      simp only [Bool.false_eq_true, if_false]
      exact ⟨vs.length + 1 - (i + 1), by omega, g'', h'', tk'', i + 1, rfl, hlt2, rfl, hG'', ⟨F'', sub_front N'' fun q hq => List.mem_cons_of_mem _ (List.mem_cons_of_mem _ hq), ⟨oJ, (N'' _ List.mem_cons_self).1, hr⟩, ⟨_, hoC.ns (N'' _ (List.mem_cons_of_mem _ List.mem_cons_self)).1⟩⟩⟩
    · obtain rfl : i = vs.length := Nat.le_antisymm hi (Nat.not_lt.mp hlt2)
      refine W.done _ _ _ ⟨it', hlist⟩ fun h₂ tk₂ hk₂ => ?_
      refine ⟨m', hn'.at' fun o e => hk₂ _ o (by simpa using Ne.symm pIC) e, fun h'' hs'' => done g' h'' tk₂ D hG' ((fr_but F' hk₂ pIL gI').change hs'' pCL gC') ?_⟩
      have N₂ : News g' L h₂ ((D, lst []) :: news) := news_but N' hk₂ (ne_cons pID nI)
      intro q hq
      have z := N₂ q hq
      refine ⟨hs''.extBut _ _ ?_ z.1, z.2⟩
      rcases List.mem_cons.mp hq with rfl | hq
      · exact pCD
      · exact nC q hq
  exact codeAny_compStart_list (loop _ pos) (W.self 0 _ _ _ ⟨start.it, ⟨_, (start.N _ (List.mem_cons_of_mem _ hm)).1, rfl, n0, rfl⟩⟩ (loop _ pos))
end Mine
end
section
open PySem PySem.W PySem.Calls PyProof.Rows PySem.Spec
set_option maxRecDepth 100000
set_option maxHeartbeats 1000000
namespace Mine
theorem anew_Tn : True := by
  w_top off
  exact True.intro
/-- the value is a lambda whose body raises -/
def Refus (w : World) (p : Program) (loose : List Str) (mean : ExcName → Option Value) (mg mb : Str → Option Value) (news : List (Addr × Obj)) (v : Value) : Prop :=
  ∃ f c' fo oc body scope, v = .ref f ∧ LamIs fo c' oc body scope ∧ (f, fo) ∈ news ∧ (c', oc) ∈ news ∧ LamR w p loose mean mg mb body scope ∧
    scope.isCoroutine = false ∧ scope.isGenerator = false ∧ scope.kind = .function ∧ ∀ x ∈ scope.names, x.2 ≠ .cell
abbrev cscope : Scope := { kind := .function, names := [(".0", .local), ("call", .local), ("_law_refused", .globalImplicit)], isGenerator := false, isCoroutine := false }
section
local macro_rules | `(tactic| k_all) => `(tactic| assumption)
theorem turn_ok {w : World} {p : Program} {loose : List Str} {mean : ExcName → Option Value} {mg mb : Str → Option Value} {news : List (Addr × Obj)} {v : Value} (hR : Refus w p loose mean mg mb news v)
    (gd : Option (List Code)) (cn : Str) (cs : Scope) (a : Addr) (ccd : Value) (outer : List Env) (A₀ : Around) (base g : Heap) (L C : Addr) (oC : Obj) (m m₂ : Str → Option Value) (s : Shared) (Q : Bool → Shared → Prop) (E : Value → Shared → Prop) (p1 p2 p3 p4 : Pos) :
    Below A₀ base outer g → Fr g L s.heap m → (kf w.params).In g → News g L s.heap news → Top p loose mean mg mb g → (kf w.params).In base → Top p loose mean mg mb base → KtsDicts (outer.filterMap (·.frame)) g → cs.kind = .function →
    (C, oC) ∈ news → LCg.NsObj oC m₂ → m₂ (Str.ofString "call") = some v →
    (∀ g' h' tk', KtsTurn (outer.filterMap (·.frame)) g g' → Fr g' L h' m → News g' L h' news → Below A₀ base outer g' → KtsDicts (outer.filterMap (·.frame)) g' → Q false { s with heap := h', toks := tk' }) →
    wpAny (model PySem.Challenge.rw_pf0381_01.row.prog w) (ktrTop 303 10 gd cn cs L a ccd [] outer)
      (isTrue (.UnaryOp .Not (.Call (.Name "_law_refused" p1) [.Name "call" p2] [] p3) p4) (compEnvC cscope [] C (envX cn cs L a ccd [])) (eval (.UnaryOp .Not (.Call (.Name "_law_refused" p1) [.Name "call" p2] [] p3) p4) (compEnvC cscope [] C (envX cn cs L a ccd [])))) Q E s := by
  k_fill
  intro B F X N T XB TB D hk hC hns hmx hret
  obtain ⟨f, c', fo, oc, body, scope, rfl, hl, m1, m2, hL, s1, s2, s3, s4⟩ := hR
  repeat' (first | (k_unfold; (try dsimp only)) | ((fail_if_success (with_reducible show wpAny _ _ (call (Value.ref _) _) _ _ _)); first | walk1 | (dsimp only; walk1)))
  refine refused_ok hL s1 s2 s3 s4 hl m1 m2 gd cn cs a ccd outer A₀ base g L m _ _ _ B F X N T XB TB D hk ?_
  intro g' h' tk' T5 F5 N5 B5 D5
  k_steps
  exact hret g' h' tk' T5 F5 N5 B5 D5
end
theorem Refus.mono {w : World} {p : Program} {loose : List Str} {mean : ExcName → Option Value} {mg mb : Str → Option Value} {news news' : List (Addr × Obj)} {v : Value} (h : Refus w p loose mean mg mb news v) (hs : ∀ q ∈ news, q ∈ news') : Refus w p loose mean mg mb news' v := by
  obtain ⟨f, c', fo, oc, body, scope, h0, hl, m1, m2, r⟩ := h
  exact ⟨f, c', fo, oc, body, scope, h0, hl, hs _ m1, hs _ m2, r⟩
theorem refus_of {w : World} {p : Program} {loose : List Str} {mean : ExcName → Option Value} {mg mb : Str → Option Value} {news : List (Addr × Obj)} {f c' : Addr} {fo oc : Obj} {body : Expr} {scope : Scope} (m1 : (f, fo) ∈ news) (hl : LamIs fo c' oc body scope) (m2 : (c', oc) ∈ news) (hL : LamR w p loose mean mg mb body scope)
    (s1 : scope.isCoroutine = false) (s2 : scope.isGenerator = false) (s3 : scope.kind = .function) (s4 : ∀ x ∈ scope.names, x.2 ≠ .cell) : Refus w p loose mean mg mb news (.ref f) := ⟨f, c', fo, oc, body, scope, rfl, hl, m1, m2, hL, s1, s2, s3, s4⟩
theorem pack {w : World} {p : Program} {loose : List Str} {mean : ExcName → Option Value} {mg mb : Str → Option Value} {h₀ h : Heap} {L wl : Addr} {news : List (Addr × Obj)} {vs : List Value} {n : Nat} {ps : Array Value} (N : News h₀ L h news) (hm : (wl, listOf vs.toArray n) ∈ news) (ht : (257, tabObj ps) ∈ news) (hR : ∀ v ∈ vs, Refus w p loose mean mg mb news v) :
    ∃ news0, News h₀ L h news0 ∧ (wl, listOf vs.toArray n) ∈ news0 ∧ (257, tabObj ps) ∈ news0 ∧ ∀ v ∈ vs, Refus w p loose mean mg mb news0 v := ⟨news, N, hm, ht, hR⟩
end Mine
end
section
open PySem PySem.W PySem.Calls PyProof.Rows PySem.Spec
set_option maxRecDepth 100000
set_option maxHeartbeats 2000000
namespace Mine
theorem cs6 : step 1 5 1 5 .g 1 0 ⟨5 * 100, 0, 5 * 100, 0⟩ = (.g, ⟨400, 0, 400, 0⟩) := rfl
theorem cs7 : step 0 1 0 1 .g 0 0 ⟨1 * 100, 0, 1 * 100, 0⟩ = (.g, ⟨100, 0, 100, 0⟩) := rfl
theorem color3_to {w : World} {p : Program} {loose : List Str} {mean : ExcName → Option Value} {mg mb : Str → Option Value} {pp pd b1 d1 b2 d2 : Addr} {KP : PlT} {K1 K2 : BkT} {r1 u1 r2 u2 g1 t1 g2 t2 : Int} {x1 x2 x3 x4 : Tok} {rest : List (Addr × Obj)}
    {size now : Int} {ts tn : Tok} {c' : Col} {g1' t1' g2' t2' : Int} (hst : step r1 u1 r2 u2 .g size now ⟨g1, t1, g2, t2⟩ = (c', ⟨g1', t1', g2', t2'⟩)) (hS : Sep ⟨pp, pd, b1, d1, b2, d2⟩ rest) (hB1 : BkOk r1 u1 g1 t1) (hB2 : BkOk r2 u2 g2 t2) (hn : 0 ≤ now) (hn2 : now ≤ 10000) (hs : 0 ≤ size) (hs2 : size ≤ 1000) :
    Claim w p loose mean mg mb 192 [.ref pp, .int size ts, .int now tn] (plL ⟨pp, pd, b1, d1, b2, d2⟩ KP K1 K2 false r1 u1 r2 u2 ⟨g1, t1, g2, t2⟩ x1 x2 x3 x4 rest) 4
      (fun v news' => ∃ t y1 y2 y3 y4, v = .str c'.str t ∧ news' = plL ⟨pp, pd, b1, d1, b2, d2⟩ KP K1 K2 false r1 u1 r2 u2 ⟨g1', t1', g2', t2'⟩ y1 y2 y3 y4 rest) := by
  have h := color3_ok (w := w) (p := p) (loose := loose) (mean := mean) (mg := mg) (mb := mb) (KP := KP) (K1 := K1) (K2 := K2) (x1 := x1) (x2 := x2) (x3 := x3) (x4 := x4) (ts := ts) (tn := tn) hS hB1 hB2 hn hn2 hs hs2
  rw [hst] at h
  exact h
theorem color4_to {w : World} {p : Program} {loose : List Str} {mean : ExcName → Option Value} {mg mb : Str → Option Value} {pp pd b1 d1 b2 d2 : Addr} {KP : PlT} {K1 K2 : BkT} {r1 u1 r2 u2 g1 t1 g2 t2 : Int} {x1 x2 x3 x4 : Tok} {rest : List (Addr × Obj)}
    {size now : Int} {ts tn : Tok} {bv : Value} {c' : Col} {g1' t1' g2' t2' : Int} (hst : step r1 u1 r2 u2 .g size now ⟨g1, t1, g2, t2⟩ = (c', ⟨g1', t1', g2', t2'⟩)) (hS : Sep ⟨pp, pd, b1, d1, b2, d2⟩ rest) (hB1 : BkOk r1 u1 g1 t1) (hB2 : BkOk r2 u2 g2 t2) (hn : 0 ≤ now) (hn2 : now ≤ 10000) (hs : 0 ≤ size) (hs2 : size ≤ 1000) :
    Claim w p loose mean mg mb 192 [.ref pp, .int size ts, .int now tn, bv] (plL ⟨pp, pd, b1, d1, b2, d2⟩ KP K1 K2 false r1 u1 r2 u2 ⟨g1, t1, g2, t2⟩ x1 x2 x3 x4 rest) 4
      (fun v news' => ∃ t y1 y2 y3 y4, v = .str c'.str t ∧ news' = plL ⟨pp, pd, b1, d1, b2, d2⟩ KP K1 K2 false r1 u1 r2 u2 ⟨g1', t1', g2', t2'⟩ y1 y2 y3 y4 rest) := by
  have h := color_ok (w := w) (p := p) (loose := loose) (mean := mean) (mg := mg) (mb := mb) (KP := KP) (K1 := K1) (K2 := K2) (x1 := x1) (x2 := x2) (x3 := x3) (x4 := x4) (ts := ts) (tn := tn) hS hB1 hB2 hn hn2 hs hs2 (Come.blind bv)
  rw [hst] at h
  exact h
end Mine
end
section
open PySem PySem.W PySem.Calls PyProof.Rows PySem.Spec
set_option maxRecDepth 100000
set_option maxHeartbeats 4000000
namespace Mine
theorem anew_Sg : True := by
  w_top off
  exact True.intro
abbrev sgO (K : PlT) (b1 b2 : Addr) : Obj :=
  dictOf [⟨K.h1, .str "first" K.k1, .ref b1⟩, ⟨K.h2, .str "second" K.k2, .ref b2⟩, ⟨K.h3, .str "is_aware" K.k3, .bool false⟩] 3
abbrev sgL (a : Pl) (KP : PlT) (K1 K2 : BkT) (x1 x2 x3 x4 : Tok) (rest : List (Addr × Obj)) : List (Addr × Obj) :=
  (a.d2, bkO 0 5 500 0 K2 x1 x2) :: (a.b2, instObj 127 a.d2) :: (a.d1, bkO 1 5 500 0 K1 x3 x4) :: (a.b1, instObj 127 a.d1) :: (a.pp, instObj 165 a.pd) :: (a.pd, sgO KP a.b1 a.b2) :: rest
section
local macro_rules | `(tactic| k_all) => `(tactic| assumption)
theorem sgmk_ok {w : World} {p : Program} {loose : List Str} {mean : ExcName → Option Value} {mg mb : Str → Option Value} {t1 t2 t3 : Tok} {news : List (Addr × Obj)} :
    Claim w p loose mean mg mb 165 [.int 1 t1, .int 5 t2, .int 5 t3] news 4
      (fun v news' => ∃ a KP K1 K2 x1 x2 x3 x4, v = .ref a.pp ∧ news' = sgL a KP K1 K2 x1 x2 x3 x4 news ∧ Fresh a news) := by
  unfold Claim
  k_fill
  intro dp un gd cn cs aa ccd cl outer A₀ base h₀ L m zh zg zd zk zo Q E Bl F X N T hk hd hu hret
  (first | (with_reducible ((k_here; (with_reducible show wpAny _ _ (call (Value.ref 139) _) _ _ _); (k_dflt (refine' ClaimK.use (Claim.k1 (before_ok ?a1)) ?kB ?kF ?kX ?kN ?kT ?kK ?kd ?ku ?_; (case kN => k_asm); (case kF => k_asm); (case kB => k_asm); (case kX => k_asm); (case kT => k_asm); (case kK => first | exact rfl | assumption); (case kd => ktr_room); (case ku => ktr_units); (case a1 => exact Come.blind _))); (intro t9 h9 tk9 F9 N9); (try dsimp only [Col.str])))) | (with_reducible ((k_here; (with_reducible show wpAny _ _ (call (Value.ref 165) _) _ _ _); k_dflt (refine' call_cls ?k1 ?k2 ?k3 ?k4 ?k5 ?k6 ?_; (case k1 => k_asm); (case k2 => k_asm); (case k3 => k_asm); (case k4 => k_is); (case k5 => k_is); (case k6 => k_is); k_whole; intro x' d' h' F' N' l1 l2; (try k_lt l1); (try k_lt2 l2); (refine' code_def ?k1 ?k2 ?k3 ?k4 ?k5 ?kA ?kF ?kK ?k6 ?k7 ?k8 ?k9 ?kB ?_ ?c2 ?c3 ?c4 ?c5; (case kA => exact rfl); (case kF => exact rfl); (case kK => first | exact rfl | assumption); (case k1 => k_asm); (case k2 => k_asm); (case k3 => k_asm); (case k4 => k_asm); (case k5 => k_asm); (case k6 => k_is); (case k7 => k_is); (case k8 => ktr_room); (case k9 => first | exact BindsTo.of_eq rfl | exact binds_K (by k_in) rfl (by k_is) rfl rfl rfl); (case c5 => decide); (case kB => exact locs rfl); (case c2 => exact rfl); (case c3 => exact rfl); (case c4 => exact rfl); k_whole; intro g' L' h' FG' F' N' B' X' T'; (try dsimp only); (try k_lift B'); (try k_fold)))))) | (with_reducible ((k_here; (with_reducible show wpAny _ _ (call (Value.ref 127) _) _ _ _); k_dflt (refine' call_cls ?k1 ?k2 ?k3 ?k4 ?k5 ?k6 ?_; (case k1 => k_asm); (case k2 => k_asm); (case k3 => k_asm); (case k4 => k_is); (case k5 => k_is); (case k6 => k_is); k_whole; intro x' d' h' F' N' l1 l2; (try k_lt l1); (try k_lt2 l2); (refine' code_def ?k1 ?k2 ?k3 ?k4 ?k5 ?kA ?kF ?kK ?k6 ?k7 ?k8 ?k9 ?kB ?_ ?c2 ?c3 ?c4 ?c5; (case kA => exact rfl); (case kF => exact rfl); (case kK => first | exact rfl | assumption); (case k1 => k_asm); (case k2 => k_asm); (case k3 => k_asm); (case k4 => k_asm); (case k5 => k_asm); (case k6 => k_is); (case k7 => k_is); (case k8 => ktr_room); (case k9 => first | exact BindsTo.of_eq rfl | exact binds_K (by k_in) rfl (by k_is) rfl rfl rfl); (case c5 => decide); (case kB => exact locs rfl); (case c2 => exact rfl); (case c3 => exact rfl); (case c4 => exact rfl); k_whole; intro g' L' h' FG' F' N' B' X' T'; (try dsimp only); (try k_lift B'); (try k_fold)))))) | (with_reducible ((k_here; (with_reducible show wpAny _ _ (call (Value.ref _) _) _ _ _); (refine wpAny_call ?_); k_dflt (refine' code_def ?k1 ?k2 ?k3 ?k4 ?k5 ?kA ?kF ?kK ?k6 ?k7 ?k8 ?k9 ?kB ?_ ?c2 ?c3 ?c4 ?c5; (case kA => exact rfl); (case kF => exact rfl); (case kK => first | exact rfl | assumption); (case k1 => k_asm); (case k2 => k_asm); (case k3 => k_asm); (case k4 => k_asm); (case k5 => k_asm); (case k6 => k_is); (case k7 => k_is); (case k8 => ktr_room); (case k9 => first | exact BindsTo.of_eq rfl | exact binds_K (by k_in) rfl (by k_is) rfl rfl rfl); (case c5 => decide); (case kB => exact locs rfl); (case c2 => exact rfl); (case c3 => exact rfl); (case c4 => exact rfl); k_whole; intro g' L' h' FG' F' N' B' X' T'; (try dsimp only); (try k_lift B'); (try k_fold))))) | walk1)
  repeat' (first | (k_unfold; (try dsimp only)) | (k_end; kc_close) | (first | (with_reducible ((k_here; (with_reducible show wpAny _ _ (call (Value.ref 139) _) _ _ _); (k_dflt (refine' ClaimK.use (Claim.k1 (before_ok ?a1)) ?kB ?kF ?kX ?kN ?kT ?kK ?kd ?ku ?_; (case kN => k_asm); (case kF => k_asm); (case kB => k_asm); (case kX => k_asm); (case kT => k_asm); (case kK => first | exact rfl | assumption); (case kd => ktr_room); (case ku => ktr_units); (case a1 => exact Come.blind _))); (intro t9 h9 tk9 F9 N9); (try dsimp only [Col.str])))) | (with_reducible ((k_here; (with_reducible show wpAny _ _ (call (Value.ref 165) _) _ _ _); k_dflt (refine' call_cls ?k1 ?k2 ?k3 ?k4 ?k5 ?k6 ?_; (case k1 => k_asm); (case k2 => k_asm); (case k3 => k_asm); (case k4 => k_is); (case k5 => k_is); (case k6 => k_is); k_whole; intro x' d' h' F' N' l1 l2; (try k_lt l1); (try k_lt2 l2); (refine' code_def ?k1 ?k2 ?k3 ?k4 ?k5 ?kA ?kF ?kK ?k6 ?k7 ?k8 ?k9 ?kB ?_ ?c2 ?c3 ?c4 ?c5; (case kA => exact rfl); (case kF => exact rfl); (case kK => first | exact rfl | assumption); (case k1 => k_asm); (case k2 => k_asm); (case k3 => k_asm); (case k4 => k_asm); (case k5 => k_asm); (case k6 => k_is); (case k7 => k_is); (case k8 => ktr_room); (case k9 => first | exact BindsTo.of_eq rfl | exact binds_K (by k_in) rfl (by k_is) rfl rfl rfl); (case c5 => decide); (case kB => exact locs rfl); (case c2 => exact rfl); (case c3 => exact rfl); (case c4 => exact rfl); k_whole; intro g' L' h' FG' F' N' B' X' T'; (try dsimp only); (try k_lift B'); (try k_fold)))))) | (with_reducible ((k_here; (with_reducible show wpAny _ _ (call (Value.ref 127) _) _ _ _); k_dflt (refine' call_cls ?k1 ?k2 ?k3 ?k4 ?k5 ?k6 ?_; (case k1 => k_asm); (case k2 => k_asm); (case k3 => k_asm); (case k4 => k_is); (case k5 => k_is); (case k6 => k_is); k_whole; intro x' d' h' F' N' l1 l2; (try k_lt l1); (try k_lt2 l2); (refine' code_def ?k1 ?k2 ?k3 ?k4 ?k5 ?kA ?kF ?kK ?k6 ?k7 ?k8 ?k9 ?kB ?_ ?c2 ?c3 ?c4 ?c5; (case kA => exact rfl); (case kF => exact rfl); (case kK => first | exact rfl | assumption); (case k1 => k_asm); (case k2 => k_asm); (case k3 => k_asm); (case k4 => k_asm); (case k5 => k_asm); (case k6 => k_is); (case k7 => k_is); (case k8 => ktr_room); (case k9 => first | exact BindsTo.of_eq rfl | exact binds_K (by k_in) rfl (by k_is) rfl rfl rfl); (case c5 => decide); (case kB => exact locs rfl); (case c2 => exact rfl); (case c3 => exact rfl); (case c4 => exact rfl); k_whole; intro g' L' h' FG' F' N' B' X' T'; (try dsimp only); (try k_lift B'); (try k_fold)))))) | (with_reducible ((k_here; (with_reducible show wpAny _ _ (call (Value.ref _) _) _ _ _); (refine wpAny_call ?_); k_dflt (refine' code_def ?k1 ?k2 ?k3 ?k4 ?k5 ?kA ?kF ?kK ?k6 ?k7 ?k8 ?k9 ?kB ?_ ?c2 ?c3 ?c4 ?c5; (case kA => exact rfl); (case kF => exact rfl); (case kK => first | exact rfl | assumption); (case k1 => k_asm); (case k2 => k_asm); (case k3 => k_asm); (case k4 => k_asm); (case k5 => k_asm); (case k6 => k_is); (case k7 => k_is); (case k8 => ktr_room); (case k9 => first | exact BindsTo.of_eq rfl | exact binds_K (by k_in) rfl (by k_is) rfl rfl rfl); (case c5 => decide); (case kB => exact locs rfl); (case c2 => exact rfl); (case c3 => exact rfl); (case c4 => exact rfl); k_whole; intro g' L' h' FG' F' N' B' X' T'; (try dsimp only); (try k_lift B'); (try k_fold))))) | walk1) | (dsimp only; (first | (with_reducible ((k_here; (with_reducible show wpAny _ _ (call (Value.ref 139) _) _ _ _); (k_dflt (refine' ClaimK.use (Claim.k1 (before_ok ?a1)) ?kB ?kF ?kX ?kN ?kT ?kK ?kd ?ku ?_; (case kN => k_asm); (case kF => k_asm); (case kB => k_asm); (case kX => k_asm); (case kT => k_asm); (case kK => first | exact rfl | assumption); (case kd => ktr_room); (case ku => ktr_units); (case a1 => exact Come.blind _))); (intro t9 h9 tk9 F9 N9); (try dsimp only [Col.str])))) | (with_reducible ((k_here; (with_reducible show wpAny _ _ (call (Value.ref 165) _) _ _ _); k_dflt (refine' call_cls ?k1 ?k2 ?k3 ?k4 ?k5 ?k6 ?_; (case k1 => k_asm); (case k2 => k_asm); (case k3 => k_asm); (case k4 => k_is); (case k5 => k_is); (case k6 => k_is); k_whole; intro x' d' h' F' N' l1 l2; (try k_lt l1); (try k_lt2 l2); (refine' code_def ?k1 ?k2 ?k3 ?k4 ?k5 ?kA ?kF ?kK ?k6 ?k7 ?k8 ?k9 ?kB ?_ ?c2 ?c3 ?c4 ?c5; (case kA => exact rfl); (case kF => exact rfl); (case kK => first | exact rfl | assumption); (case k1 => k_asm); (case k2 => k_asm); (case k3 => k_asm); (case k4 => k_asm); (case k5 => k_asm); (case k6 => k_is); (case k7 => k_is); (case k8 => ktr_room); (case k9 => first | exact BindsTo.of_eq rfl | exact binds_K (by k_in) rfl (by k_is) rfl rfl rfl); (case c5 => decide); (case kB => exact locs rfl); (case c2 => exact rfl); (case c3 => exact rfl); (case c4 => exact rfl); k_whole; intro g' L' h' FG' F' N' B' X' T'; (try dsimp only); (try k_lift B'); (try k_fold)))))) | (with_reducible ((k_here; (with_reducible show wpAny _ _ (call (Value.ref 127) _) _ _ _); k_dflt (refine' call_cls ?k1 ?k2 ?k3 ?k4 ?k5 ?k6 ?_; (case k1 => k_asm); (case k2 => k_asm); (case k3 => k_asm); (case k4 => k_is); (case k5 => k_is); (case k6 => k_is); k_whole; intro x' d' h' F' N' l1 l2; (try k_lt l1); (try k_lt2 l2); (refine' code_def ?k1 ?k2 ?k3 ?k4 ?k5 ?kA ?kF ?kK ?k6 ?k7 ?k8 ?k9 ?kB ?_ ?c2 ?c3 ?c4 ?c5; (case kA => exact rfl); (case kF => exact rfl); (case kK => first | exact rfl | assumption); (case k1 => k_asm); (case k2 => k_asm); (case k3 => k_asm); (case k4 => k_asm); (case k5 => k_asm); (case k6 => k_is); (case k7 => k_is); (case k8 => ktr_room); (case k9 => first | exact BindsTo.of_eq rfl | exact binds_K (by k_in) rfl (by k_is) rfl rfl rfl); (case c5 => decide); (case kB => exact locs rfl); (case c2 => exact rfl); (case c3 => exact rfl); (case c4 => exact rfl); k_whole; intro g' L' h' FG' F' N' B' X' T'; (try dsimp only); (try k_lift B'); (try k_fold)))))) | (with_reducible ((k_here; (with_reducible show wpAny _ _ (call (Value.ref _) _) _ _ _); (refine wpAny_call ?_); k_dflt (refine' code_def ?k1 ?k2 ?k3 ?k4 ?k5 ?kA ?kF ?kK ?k6 ?k7 ?k8 ?k9 ?kB ?_ ?c2 ?c3 ?c4 ?c5; (case kA => exact rfl); (case kF => exact rfl); (case kK => first | exact rfl | assumption); (case k1 => k_asm); (case k2 => k_asm); (case k3 => k_asm); (case k4 => k_asm); (case k5 => k_asm); (case k6 => k_is); (case k7 => k_is); (case k8 => ktr_room); (case k9 => first | exact BindsTo.of_eq rfl | exact binds_K (by k_in) rfl (by k_is) rfl rfl rfl); (case c5 => decide); (case kB => exact locs rfl); (case c2 => exact rfl); (case c3 => exact rfl); (case c4 => exact rfl); k_whole; intro g' L' h' FG' F' N' B' X' T'; (try dsimp only); (try k_lift B'); (try k_fold))))) | walk1)) | (leave1; walk_say "STEP leave1"; (try dsimp only)) | fail "no step")
  refine fin hret (by k_asm) (swap2s (by k_asm)) ?_
  refine ⟨⟨_, _, _, _, _, _⟩, ⟨_, _, _, _, _, _⟩, ⟨_, _, _, _, _, _, _, _, _, _⟩, ⟨_, _, _, _, _, _, _, _, _, _⟩, _, _, _, _, rfl, rfl, ?_⟩
  refine ⟨by assumption, ?_, ?_, ?_, ?_, ?_⟩
  all_goals ((try dsimp only); omega)
theorem take1 {w : World} {p : Program} {loose : List Str} {mean : ExcName → Option Value} {mg mb : Str → Option Value} {b d : Addr} {K : BkT} {t3 t4 ts tn : Tok} {rest : List (Addr × Obj)} (hbd : b ≠ d) (hrest : ∀ q ∈ rest, q.1 ≠ d) :
    Claim w p loose mean mg mb 110 [.ref b, .int 1 ts, .int 0 tn] ((d, bkO 1 5 500 0 K t3 t4) :: (b, instObj 127 d) :: rest) 3
      (fun v news' => ∃ t3' t4', v = .bool true ∧ news' = (d, bkO 1 5 400 0 K t3' t4') :: (b, instObj 127 d) :: rest) :=
  takeb_ok (size := 1) (now := 0) ⟨by decide, by decide, by decide, by decide, by decide, by decide, by decide, by decide⟩ (by decide) (by decide) (by decide) (by decide) hbd hrest
theorem sgcol_ok {w : World} {p : Program} {loose : List Str} {mean : ExcName → Option Value} {mg mb : Str → Option Value} {pp pd b1 d1 b2 d2 : Addr} {KP : PlT} {K1 K2 : BkT} {x1 x2 x3 x4 ts tn : Tok} {bv : Value} {rest : List (Addr × Obj)} (hS : Sep ⟨pp, pd, b1, d1, b2, d2⟩ rest) :
    Claim w p loose mean mg mb 162 [.ref pp, .int 1 ts, .int 0 tn, bv] (sgL ⟨pp, pd, b1, d1, b2, d2⟩ KP K1 K2 x1 x2 x3 x4 rest) 5
      (fun v news' => (∃ t, v = .str (Str.ofString "green") t) ∧ news' = rest) := by
  unfold Claim
  k_fill
  intro dp un gd cn cs aa ccd cl outer A₀ base h₀ L m zh zg zd zk zo Q E B F X N T hk hd hu hret
  obtain ⟨s1, s2, s3, s4, s5, s6, s7, s8, s9, s10, s11⟩ := hS
  dsimp only at s1 s2 s3 s4 s5 s6 s7 s8 s9 s10 s11
  dsimp only [sgL] at N
  refine wpAny_call ?_
  k_dflt ((refine' code_def ?k1 ?k2 ?k3 ?k4 ?k5 ?kA ?kF ?kK ?k6 ?k7 ?k8 ?k9 ?kB ?_ ?c2 ?c3 ?c4 ?c5; (case kA => exact rfl); (case kF => exact rfl); (case kK => first | exact rfl | assumption); (case k1 => k_asm); (case k2 => k_asm); (case k3 => k_asm); (case k4 => k_asm); (case k5 => k_asm); (case k6 => k_is); (case k7 => k_is); (case k8 => ktr_room); (case k9 => first | exact BindsTo.of_eq rfl | exact binds_K (by k_in) rfl (by k_is) rfl rfl rfl); (case c5 => decide); (case kB => exact locs rfl); (case c2 => exact rfl); (case c3 => exact rfl); (case c4 => exact rfl); k_whole; intro g' L' h' FG' F' N' B' X' T'; (try dsimp only); (try k_lift B'); (try k_fold)))
  repeat' (first | (k_unfold; (try dsimp only)) | (k_end; kc_close) | (first | (with_reducible ((k_here; (with_reducible show wpAny _ _ (call (Value.ref 110) _) _ _ _); (k_dflt (refine' ClaimK.use (Claim.k2 (take1 ?a6 ?a7)) ?kB ?kF ?kX ?kN ?kT ?kK ?kd ?ku ?_; (case kN => exact swap4 (by k_asm)); (case kF => k_asm); (case kB => k_asm); (case kX => k_asm); (case kT => k_asm); (case kK => first | exact rfl | assumption); (case kd => ktr_room); (case ku => ktr_units); (case a6 => assumption); (case a7 => repeat' (first | assumption | exact Ne.symm (by assumption) | refine ne_cons ?_ ?_)))); (intro t9 u9 h9 tk9 F9 N9); (try dsimp only)))) | (with_reducible ((k_here; (with_reducible show wpAny _ _ (call (Value.ref 139) _) _ _ _); (k_dflt (refine' ClaimK.use (Claim.k1 (before_ok ?a1)) ?kB ?kF ?kX ?kN ?kT ?kK ?kd ?ku ?_; (case kN => k_asm); (case kF => k_asm); (case kB => k_asm); (case kX => k_asm); (case kT => k_asm); (case kK => first | exact rfl | assumption); (case kd => ktr_room); (case ku => ktr_units); (case a1 => exact Come.blind _))); (intro t9 h9 tk9 F9 N9); (try dsimp only [Col.str])))) | (with_reducible ((k_here; (with_reducible show wpAny _ _ (call (Value.ref 165) _) _ _ _); k_dflt (refine' call_cls ?k1 ?k2 ?k3 ?k4 ?k5 ?k6 ?_; (case k1 => k_asm); (case k2 => k_asm); (case k3 => k_asm); (case k4 => k_is); (case k5 => k_is); (case k6 => k_is); k_whole; intro x' d' h' F' N' l1 l2; (try k_lt l1); (try k_lt2 l2); (refine' code_def ?k1 ?k2 ?k3 ?k4 ?k5 ?kA ?kF ?kK ?k6 ?k7 ?k8 ?k9 ?kB ?_ ?c2 ?c3 ?c4 ?c5; (case kA => exact rfl); (case kF => exact rfl); (case kK => first | exact rfl | assumption); (case k1 => k_asm); (case k2 => k_asm); (case k3 => k_asm); (case k4 => k_asm); (case k5 => k_asm); (case k6 => k_is); (case k7 => k_is); (case k8 => ktr_room); (case k9 => first | exact BindsTo.of_eq rfl | exact binds_K (by k_in) rfl (by k_is) rfl rfl rfl); (case c5 => decide); (case kB => exact locs rfl); (case c2 => exact rfl); (case c3 => exact rfl); (case c4 => exact rfl); k_whole; intro g' L' h' FG' F' N' B' X' T'; (try dsimp only); (try k_lift B'); (try k_fold)))))) | (with_reducible ((k_here; (with_reducible show wpAny _ _ (call (Value.ref 127) _) _ _ _); k_dflt (refine' call_cls ?k1 ?k2 ?k3 ?k4 ?k5 ?k6 ?_; (case k1 => k_asm); (case k2 => k_asm); (case k3 => k_asm); (case k4 => k_is); (case k5 => k_is); (case k6 => k_is); k_whole; intro x' d' h' F' N' l1 l2; (try k_lt l1); (try k_lt2 l2); (refine' code_def ?k1 ?k2 ?k3 ?k4 ?k5 ?kA ?kF ?kK ?k6 ?k7 ?k8 ?k9 ?kB ?_ ?c2 ?c3 ?c4 ?c5; (case kA => exact rfl); (case kF => exact rfl); (case kK => first | exact rfl | assumption); (case k1 => k_asm); (case k2 => k_asm); (case k3 => k_asm); (case k4 => k_asm); (case k5 => k_asm); (case k6 => k_is); (case k7 => k_is); (case k8 => ktr_room); (case k9 => first | exact BindsTo.of_eq rfl | exact binds_K (by k_in) rfl (by k_is) rfl rfl rfl); (case c5 => decide); (case kB => exact locs rfl); (case c2 => exact rfl); (case c3 => exact rfl); (case c4 => exact rfl); k_whole; intro g' L' h' FG' F' N' B' X' T'; (try dsimp only); (try k_lift B'); (try k_fold)))))) | (with_reducible ((k_here; (with_reducible show wpAny _ _ (call (Value.ref _) _) _ _ _); (refine wpAny_call ?_); k_dflt (refine' code_def ?k1 ?k2 ?k3 ?k4 ?k5 ?kA ?kF ?kK ?k6 ?k7 ?k8 ?k9 ?kB ?_ ?c2 ?c3 ?c4 ?c5; (case kA => exact rfl); (case kF => exact rfl); (case kK => first | exact rfl | assumption); (case k1 => k_asm); (case k2 => k_asm); (case k3 => k_asm); (case k4 => k_asm); (case k5 => k_asm); (case k6 => k_is); (case k7 => k_is); (case k8 => ktr_room); (case k9 => first | exact BindsTo.of_eq rfl | exact binds_K (by k_in) rfl (by k_is) rfl rfl rfl); (case c5 => decide); (case kB => exact locs rfl); (case c2 => exact rfl); (case c3 => exact rfl); (case c4 => exact rfl); k_whole; intro g' L' h' FG' F' N' B' X' T'; (try dsimp only); (try k_lift B'); (try k_fold))))) | walk1) | (dsimp only; (first | (with_reducible ((k_here; (with_reducible show wpAny _ _ (call (Value.ref 110) _) _ _ _); (k_dflt (refine' ClaimK.use (Claim.k2 (take1 ?a6 ?a7)) ?kB ?kF ?kX ?kN ?kT ?kK ?kd ?ku ?_; (case kN => exact swap4 (by k_asm)); (case kF => k_asm); (case kB => k_asm); (case kX => k_asm); (case kT => k_asm); (case kK => first | exact rfl | assumption); (case kd => ktr_room); (case ku => ktr_units); (case a6 => assumption); (case a7 => repeat' (first | assumption | exact Ne.symm (by assumption) | refine ne_cons ?_ ?_)))); (intro t9 u9 h9 tk9 F9 N9); (try dsimp only)))) | (with_reducible ((k_here; (with_reducible show wpAny _ _ (call (Value.ref 139) _) _ _ _); (k_dflt (refine' ClaimK.use (Claim.k1 (before_ok ?a1)) ?kB ?kF ?kX ?kN ?kT ?kK ?kd ?ku ?_; (case kN => k_asm); (case kF => k_asm); (case kB => k_asm); (case kX => k_asm); (case kT => k_asm); (case kK => first | exact rfl | assumption); (case kd => ktr_room); (case ku => ktr_units); (case a1 => exact Come.blind _))); (intro t9 h9 tk9 F9 N9); (try dsimp only [Col.str])))) | (with_reducible ((k_here; (with_reducible show wpAny _ _ (call (Value.ref 165) _) _ _ _); k_dflt (refine' call_cls ?k1 ?k2 ?k3 ?k4 ?k5 ?k6 ?_; (case k1 => k_asm); (case k2 => k_asm); (case k3 => k_asm); (case k4 => k_is); (case k5 => k_is); (case k6 => k_is); k_whole; intro x' d' h' F' N' l1 l2; (try k_lt l1); (try k_lt2 l2); (refine' code_def ?k1 ?k2 ?k3 ?k4 ?k5 ?kA ?kF ?kK ?k6 ?k7 ?k8 ?k9 ?kB ?_ ?c2 ?c3 ?c4 ?c5; (case kA => exact rfl); (case kF => exact rfl); (case kK => first | exact rfl | assumption); (case k1 => k_asm); (case k2 => k_asm); (case k3 => k_asm); (case k4 => k_asm); (case k5 => k_asm); (case k6 => k_is); (case k7 => k_is); (case k8 => ktr_room); (case k9 => first | exact BindsTo.of_eq rfl | exact binds_K (by k_in) rfl (by k_is) rfl rfl rfl); (case c5 => decide); (case kB => exact locs rfl); (case c2 => exact rfl); (case c3 => exact rfl); (case c4 => exact rfl); k_whole; intro g' L' h' FG' F' N' B' X' T'; (try dsimp only); (try k_lift B'); (try k_fold)))))) | (with_reducible ((k_here; (with_reducible show wpAny _ _ (call (Value.ref 127) _) _ _ _); k_dflt (refine' call_cls ?k1 ?k2 ?k3 ?k4 ?k5 ?k6 ?_; (case k1 => k_asm); (case k2 => k_asm); (case k3 => k_asm); (case k4 => k_is); (case k5 => k_is); (case k6 => k_is); k_whole; intro x' d' h' F' N' l1 l2; (try k_lt l1); (try k_lt2 l2); (refine' code_def ?k1 ?k2 ?k3 ?k4 ?k5 ?kA ?kF ?kK ?k6 ?k7 ?k8 ?k9 ?kB ?_ ?c2 ?c3 ?c4 ?c5; (case kA => exact rfl); (case kF => exact rfl); (case kK => first | exact rfl | assumption); (case k1 => k_asm); (case k2 => k_asm); (case k3 => k_asm); (case k4 => k_asm); (case k5 => k_asm); (case k6 => k_is); (case k7 => k_is); (case k8 => ktr_room); (case k9 => first | exact BindsTo.of_eq rfl | exact binds_K (by k_in) rfl (by k_is) rfl rfl rfl); (case c5 => decide); (case kB => exact locs rfl); (case c2 => exact rfl); (case c3 => exact rfl); (case c4 => exact rfl); k_whole; intro g' L' h' FG' F' N' B' X' T'; (try dsimp only); (try k_lift B'); (try k_fold)))))) | (with_reducible ((k_here; (with_reducible show wpAny _ _ (call (Value.ref _) _) _ _ _); (refine wpAny_call ?_); k_dflt (refine' code_def ?k1 ?k2 ?k3 ?k4 ?k5 ?kA ?kF ?kK ?k6 ?k7 ?k8 ?k9 ?kB ?_ ?c2 ?c3 ?c4 ?c5; (case kA => exact rfl); (case kF => exact rfl); (case kK => first | exact rfl | assumption); (case k1 => k_asm); (case k2 => k_asm); (case k3 => k_asm); (case k4 => k_asm); (case k5 => k_asm); (case k6 => k_is); (case k7 => k_is); (case k8 => ktr_room); (case k9 => first | exact BindsTo.of_eq rfl | exact binds_K (by k_in) rfl (by k_is) rfl rfl rfl); (case c5 => decide); (case kB => exact locs rfl); (case c2 => exact rfl); (case c3 => exact rfl); (case c4 => exact rfl); k_whole; intro g' L' h' FG' F' N' B' X' T'; (try dsimp only); (try k_lift B'); (try k_fold))))) | walk1)) | (leave1; walk_say "STEP leave1"; (try dsimp only)) | fail "no step")
  exact fin hret (by k_asm) (sub_front (by k_asm) (fun q hq => by repeat' (first | exact hq | apply List.Mem.tail))) ⟨⟨_, rfl⟩, rfl⟩
end
end Mine
end
section
open PySem PySem.W PySem.Calls PyProof.Rows PySem.Spec
set_option maxRecDepth 100000
set_option maxHeartbeats 8000000
namespace Mine
theorem anew_Se : True := by
  w_top off
  exact True.intro
local macro_rules | `(tactic| k_all) => `(tactic| assumption)
theorem ne_nil {d : Addr} : ∀ q ∈ ([] : List (Addr × Obj)), q.1 ≠ d := fun _ h => nomatch h
theorem settings_ok (w : World) (p : Program) (loose : List Str) (mean : ExcName → Option Value) (mg mb : Str → Option Value) (cn : Str) (cs : Scope) (a : Addr) (ccd : Value) (base h₀ : Heap) (L : Addr) (m : Str → Option Value) (s : Shared) (Q E : Value → Shared → Prop) :
    Below callerA base [] h₀ → Fr h₀ L s.heap m → (kf w.params).In h₀ → CodeHd base 259 257 → News h₀ L s.heap [(257, tabObj #[])] → Top p loose mean mg mb h₀ → (kf w.params).In base → Top p loose mean mg mb base → cs.kind = .function →
    (∀ h' tk' ps, Fr h₀ L h' m → News h₀ L h' [(257, tabObj ps)] → Q (.bool true) { s with heap := h', toks := tk' }) →
    wpAny (model PySem.Challenge.rw_pf0381_01.row.prog w) (callerA.deeper (envX cn cs L a ccd [])) (call (.ref 260) []) Q E s := by
  k_fill
  intro B F X C N T XB TB hk hret
  refine wpAny_call ?_
  k_dflt (refine' code_defS0 ?k1 ?k2 ?k3 ?k4 ?k5 ?kA ?k6 ?k7 ?k8 ?k9 ?kB ?_ ?cK ?c2 ?c3 ?c4 ?c5; (case kA => exact rfl); (case k2 => k_asm); (case k1 => k_asm); (case k3 => k_asm); (case k4 => k_asm); (case k5 => k_asm); (case k6 => k_is); (case k7 => k_is); (case k8 => k_room); (case k9 => first | exact binds_K (by k_in) rfl (by k_is) rfl rfl rfl | exact BindsTo.of_eq rfl | fail "kts_go: no rule for these arguments"); (case kB => exact locs rfl); (case cK => first | exact rfl | assumption); (case c2 => exact rfl); (case c3 => exact rfl); (case c4 => exact rfl); (case c5 => decide); k_whole; intro g' L' h' FG' F' N' B' X' T' D'; (try dsimp only); (try k_lift B'); (try k_fold))
  repeat' (first | (k_unfold; (try dsimp only)) | ((fail_if_success (with_reducible show wpAny _ _ (eval (Expr.ListComp _ _ _ _) _) _ _ _)); first | (first | (with_reducible ((k_here; (with_reducible show wpAny _ _ (call (Value.ref 192) _) _ _ _); (k_dflt (refine' ClaimK.use (Claim.k5 (color4_to ?a0 ?a1 ?a2 ?a3 ?a4 ?a5 ?a6 ?a7)) ?kB ?kF ?kX ?kN ?kT ?kK ?kd ?ku ?_; (case kN => k_asm); (case kF => k_asm); (case kB => k_asm); (case kX => k_asm); (case kT => k_asm); (case kK => first | exact rfl | assumption); (case kd => ktr_room); (case ku => ktr_units); (case a0 => first | exact cs6 | exact cs7); (case a1 => assumption); (case a2 => constructor <;> decide); (case a3 => constructor <;> decide); (case a4 => decide); (case a5 => decide); (case a6 => decide); (case a7 => decide))); (intro t9 y91 y92 y93 y94 h9 tk9 F9 N9); dsimp only [plL] at N9; (try dsimp only [Col.str])))) | (with_reducible ((k_here; (with_reducible show wpAny _ _ (call (Value.ref 192) _) _ _ _); (k_dflt (refine' ClaimK.use (Claim.k5 (color3_to ?a0 ?a1 ?a2 ?a3 ?a4 ?a5 ?a6 ?a7)) ?kB ?kF ?kX ?kN ?kT ?kK ?kd ?ku ?_; (case kN => k_asm); (case kF => k_asm); (case kB => k_asm); (case kX => k_asm); (case kT => k_asm); (case kK => first | exact rfl | assumption); (case kd => ktr_room); (case ku => ktr_units); (case a0 => first | exact cs6 | exact cs7); (case a1 => assumption); (case a2 => constructor <;> decide); (case a3 => constructor <;> decide); (case a4 => decide); (case a5 => decide); (case a6 => decide); (case a7 => decide))); (intro t9 y91 y92 y93 y94 h9 tk9 F9 N9); dsimp only [plL] at N9; (try dsimp only [Col.str])))) | (with_reducible ((k_here; (with_reducible show wpAny _ _ (call (Value.ref 195) _) _ _ _); (k_dflt (refine' ClaimK.use (Claim.km (mk4_ok ?a1 ?a2 ?a3 ?a4 ?a5 ?a6 ?a7)) ?kB ?kF ?kX ?kN ?kT ?kK ?kd ?ku ?_; (case kN => k_asm); (case kF => k_asm); (case kB => k_asm); (case kX => k_asm); (case kT => k_asm); (case kK => first | exact rfl | assumption); (case kd => ktr_room); (case ku => ktr_units); (case a1 => decide); (case a2 => decide); (case a3 => decide); (case a4 => decide); (case a5 => decide); (case a6 => decide); (case a7 => decide))); (intro pp9 pd9 b91 d91 b92 d92 KP9 K91 K92 y91 y92 y93 y94 S9 o9 f91 f92 f93 f94 f95 h9 tk9 F9 N9); dsimp only [plL] at N9; (try k_lt o9); (try dsimp only)))) | (with_reducible ((k_here; (with_reducible show wpAny _ _ (call (Value.ref 162) _) _ _ _); (k_dflt (refine' ClaimK.use (Claim.k1 (sgcol_ok ?a1)) ?kB ?kF ?kX ?kN ?kT ?kK ?kd ?ku ?_; (case kN => k_asm); (case kF => k_asm); (case kB => k_asm); (case kX => k_asm); (case kT => k_asm); (case kK => first | exact rfl | assumption); (case kd => ktr_room); (case ku => ktr_units); (case a1 => assumption))); (intro t9 h9 tk9 F9 N9); (try dsimp only)))) | (with_reducible ((k_here; (with_reducible show wpAny _ _ (call (Value.ref 165) _) _ _ _); (k_dflt (refine' ClaimK.use (Claim.km sgmk_ok) ?kB ?kF ?kX ?kN ?kT ?kK ?kd ?ku ?_; (case kN => k_asm); (case kF => k_asm); (case kB => k_asm); (case kX => k_asm); (case kT => k_asm); (case kK => first | exact rfl | assumption); (case kd => ktr_room); (case ku => ktr_units))); (intro pp9 pd9 b91 d91 b92 d92 KP9 K91 K92 y91 y92 y93 y94 S9 o9 f91 f92 f93 f94 f95 h9 tk9 F9 N9); dsimp only [sgL] at N9; (try k_lt o9); (try dsimp only)))) | (with_reducible ((k_here; k_dflt (refine' lam_new ?F ?N ?T ?C ?cd ?U ?ne ?t ?n ?cl ?_; (case F => k_asm); (case N => k_asm); (case T => k_asm); (case cd => exact rfl); (case C => kn_code); (case U => repeat' (first | exact Front.head | apply Front.tail)); (case ne => repeat' (first | assumption | exact ne_nil | refine ne_cons (neN (by omega)) ?_)); (case t => exact True.intro); (case n => rfl); (case cl => exact rfl); k_whole); intro f' c' oc' fo' h' tk' F' N' li' ne'; (try simp only [List.cons_append, List.nil_append] at N'); (try dsimp only at N')))) | walk1) | (dsimp only; (first | (with_reducible ((k_here; (with_reducible show wpAny _ _ (call (Value.ref 192) _) _ _ _); (k_dflt (refine' ClaimK.use (Claim.k5 (color4_to ?a0 ?a1 ?a2 ?a3 ?a4 ?a5 ?a6 ?a7)) ?kB ?kF ?kX ?kN ?kT ?kK ?kd ?ku ?_; (case kN => k_asm); (case kF => k_asm); (case kB => k_asm); (case kX => k_asm); (case kT => k_asm); (case kK => first | exact rfl | assumption); (case kd => ktr_room); (case ku => ktr_units); (case a0 => first | exact cs6 | exact cs7); (case a1 => assumption); (case a2 => constructor <;> decide); (case a3 => constructor <;> decide); (case a4 => decide); (case a5 => decide); (case a6 => decide); (case a7 => decide))); (intro t9 y91 y92 y93 y94 h9 tk9 F9 N9); dsimp only [plL] at N9; (try dsimp only [Col.str])))) | (with_reducible ((k_here; (with_reducible show wpAny _ _ (call (Value.ref 192) _) _ _ _); (k_dflt (refine' ClaimK.use (Claim.k5 (color3_to ?a0 ?a1 ?a2 ?a3 ?a4 ?a5 ?a6 ?a7)) ?kB ?kF ?kX ?kN ?kT ?kK ?kd ?ku ?_; (case kN => k_asm); (case kF => k_asm); (case kB => k_asm); (case kX => k_asm); (case kT => k_asm); (case kK => first | exact rfl | assumption); (case kd => ktr_room); (case ku => ktr_units); (case a0 => first | exact cs6 | exact cs7); (case a1 => assumption); (case a2 => constructor <;> decide); (case a3 => constructor <;> decide); (case a4 => decide); (case a5 => decide); (case a6 => decide); (case a7 => decide))); (intro t9 y91 y92 y93 y94 h9 tk9 F9 N9); dsimp only [plL] at N9; (try dsimp only [Col.str])))) | (with_reducible ((k_here; (with_reducible show wpAny _ _ (call (Value.ref 195) _) _ _ _); (k_dflt (refine' ClaimK.use (Claim.km (mk4_ok ?a1 ?a2 ?a3 ?a4 ?a5 ?a6 ?a7)) ?kB ?kF ?kX ?kN ?kT ?kK ?kd ?ku ?_; (case kN => k_asm); (case kF => k_asm); (case kB => k_asm); (case kX => k_asm); (case kT => k_asm); (case kK => first | exact rfl | assumption); (case kd => ktr_room); (case ku => ktr_units); (case a1 => decide); (case a2 => decide); (case a3 => decide); (case a4 => decide); (case a5 => decide); (case a6 => decide); (case a7 => decide))); (intro pp9 pd9 b91 d91 b92 d92 KP9 K91 K92 y91 y92 y93 y94 S9 o9 f91 f92 f93 f94 f95 h9 tk9 F9 N9); dsimp only [plL] at N9; (try k_lt o9); (try dsimp only)))) | (with_reducible ((k_here; (with_reducible show wpAny _ _ (call (Value.ref 162) _) _ _ _); (k_dflt (refine' ClaimK.use (Claim.k1 (sgcol_ok ?a1)) ?kB ?kF ?kX ?kN ?kT ?kK ?kd ?ku ?_; (case kN => k_asm); (case kF => k_asm); (case kB => k_asm); (case kX => k_asm); (case kT => k_asm); (case kK => first | exact rfl | assumption); (case kd => ktr_room); (case ku => ktr_units); (case a1 => assumption))); (intro t9 h9 tk9 F9 N9); (try dsimp only)))) | (with_reducible ((k_here; (with_reducible show wpAny _ _ (call (Value.ref 165) _) _ _ _); (k_dflt (refine' ClaimK.use (Claim.km sgmk_ok) ?kB ?kF ?kX ?kN ?kT ?kK ?kd ?ku ?_; (case kN => k_asm); (case kF => k_asm); (case kB => k_asm); (case kX => k_asm); (case kT => k_asm); (case kK => first | exact rfl | assumption); (case kd => ktr_room); (case ku => ktr_units))); (intro pp9 pd9 b91 d91 b92 d92 KP9 K91 K92 y91 y92 y93 y94 S9 o9 f91 f92 f93 f94 f95 h9 tk9 F9 N9); dsimp only [sgL] at N9; (try k_lt o9); (try dsimp only)))) | (with_reducible ((k_here; k_dflt (refine' lam_new ?F ?N ?T ?C ?cd ?U ?ne ?t ?n ?cl ?_; (case F => k_asm); (case N => k_asm); (case T => k_asm); (case cd => exact rfl); (case C => kn_code); (case U => repeat' (first | exact Front.head | apply Front.tail)); (case ne => repeat' (first | assumption | exact ne_nil | refine ne_cons (neN (by omega)) ?_)); (case t => exact True.intro); (case n => rfl); (case cl => exact rfl); k_whole); intro f' c' oc' fo' h' tk' F' N' li' ne'; (try simp only [List.cons_append, List.nil_append] at N'); (try dsimp only at N')))) | walk1))))
  rename Fr _ _ _ _ => lF
  rename News _ _ _ _ => lN
  obtain ⟨news0, hN0, hm0, ht0, hR⟩ := pack (w := w) (p := p) (loose := loose) (mean := mean) (mg := mg) (mb := mb) lN (List.Mem.head _) (by repeat' (first | exact List.Mem.head _ | apply List.Mem.tail)) (by
    intro v hv
    simp only [List.mem_cons, List.not_mem_nil, or_false] at hv
    rcases hv with rfl | rfl | rfl | rfl | rfl | rfl | rfl | rfl
    all_goals (
      refine' refus_of ?m1 ?li ?m2 ?lr ?s1 ?s2 ?s3 ?s4
      case m1 => repeat' (first | exact List.Mem.head _ | apply List.Mem.tail)
      case li => assumption
      case m2 => repeat' (first | exact List.Mem.head _ | apply List.Mem.tail)
      case lr => first | exact lamr1 | exact lamr2 | exact lamr3 | exact lamr4 | exact lamr5 | exact lamr6 | exact lamr7 | exact lamr8
      case s1 => rfl
      case s2 => rfl
      case s3 => rfl
      case s4 => decide))
  clear lN
  refine comp_ok (Gd := fun g2 => KtsTurn ([envOf cn cs L a ccd].filterMap (·.frame)) g' g2 ∧ Below (callerA.deeper (envX cn cs L a ccd [])) base [envOf cn cs L a ccd] g2 ∧ KtsDicts ([envOf cn cs L a ccd].filterMap (·.frame)) g2) ⟨KtsTurn.refl, B', D'⟩ (fun _ h => h.1.none_) lF hN0 hm0 rfl rfl (by decide) rfl (by decide) rfl ?_ ?_ ?_
  · intro Q' hq
    (first | (with_reducible ((k_here; (with_reducible show wpAny _ _ (call (Value.ref 192) _) _ _ _); (k_dflt (refine' ClaimK.use (Claim.k5 (color4_to ?a0 ?a1 ?a2 ?a3 ?a4 ?a5 ?a6 ?a7)) ?kB ?kF ?kX ?kN ?kT ?kK ?kd ?ku ?_; (case kN => k_asm); (case kF => k_asm); (case kB => k_asm); (case kX => k_asm); (case kT => k_asm); (case kK => first | exact rfl | assumption); (case kd => ktr_room); (case ku => ktr_units); (case a0 => first | exact cs6 | exact cs7); (case a1 => assumption); (case a2 => constructor <;> decide); (case a3 => constructor <;> decide); (case a4 => decide); (case a5 => decide); (case a6 => decide); (case a7 => decide))); (intro t9 y91 y92 y93 y94 h9 tk9 F9 N9); dsimp only [plL] at N9; (try dsimp only [Col.str])))) | (with_reducible ((k_here; (with_reducible show wpAny _ _ (call (Value.ref 192) _) _ _ _); (k_dflt (refine' ClaimK.use (Claim.k5 (color3_to ?a0 ?a1 ?a2 ?a3 ?a4 ?a5 ?a6 ?a7)) ?kB ?kF ?kX ?kN ?kT ?kK ?kd ?ku ?_; (case kN => k_asm); (case kF => k_asm); (case kB => k_asm); (case kX => k_asm); (case kT => k_asm); (case kK => first | exact rfl | assumption); (case kd => ktr_room); (case ku => ktr_units); (case a0 => first | exact cs6 | exact cs7); (case a1 => assumption); (case a2 => constructor <;> decide); (case a3 => constructor <;> decide); (case a4 => decide); (case a5 => decide); (case a6 => decide); (case a7 => decide))); (intro t9 y91 y92 y93 y94 h9 tk9 F9 N9); dsimp only [plL] at N9; (try dsimp only [Col.str])))) | (with_reducible ((k_here; (with_reducible show wpAny _ _ (call (Value.ref 195) _) _ _ _); (k_dflt (refine' ClaimK.use (Claim.km (mk4_ok ?a1 ?a2 ?a3 ?a4 ?a5 ?a6 ?a7)) ?kB ?kF ?kX ?kN ?kT ?kK ?kd ?ku ?_; (case kN => k_asm); (case kF => k_asm); (case kB => k_asm); (case kX => k_asm); (case kT => k_asm); (case kK => first | exact rfl | assumption); (case kd => ktr_room); (case ku => ktr_units); (case a1 => decide); (case a2 => decide); (case a3 => decide); (case a4 => decide); (case a5 => decide); (case a6 => decide); (case a7 => decide))); (intro pp9 pd9 b91 d91 b92 d92 KP9 K91 K92 y91 y92 y93 y94 S9 o9 f91 f92 f93 f94 f95 h9 tk9 F9 N9); dsimp only [plL] at N9; (try k_lt o9); (try dsimp only)))) | (with_reducible ((k_here; (with_reducible show wpAny _ _ (call (Value.ref 162) _) _ _ _); (k_dflt (refine' ClaimK.use (Claim.k1 (sgcol_ok ?a1)) ?kB ?kF ?kX ?kN ?kT ?kK ?kd ?ku ?_; (case kN => k_asm); (case kF => k_asm); (case kB => k_asm); (case kX => k_asm); (case kT => k_asm); (case kK => first | exact rfl | assumption); (case kd => ktr_room); (case ku => ktr_units); (case a1 => assumption))); (intro t9 h9 tk9 F9 N9); (try dsimp only)))) | (with_reducible ((k_here; (with_reducible show wpAny _ _ (call (Value.ref 165) _) _ _ _); (k_dflt (refine' ClaimK.use (Claim.km sgmk_ok) ?kB ?kF ?kX ?kN ?kT ?kK ?kd ?ku ?_; (case kN => k_asm); (case kF => k_asm); (case kB => k_asm); (case kX => k_asm); (case kT => k_asm); (case kK => first | exact rfl | assumption); (case kd => ktr_room); (case ku => ktr_units))); (intro pp9 pd9 b91 d91 b92 d92 KP9 K91 K92 y91 y92 y93 y94 S9 o9 f91 f92 f93 f94 f95 h9 tk9 F9 N9); dsimp only [sgL] at N9; (try k_lt o9); (try dsimp only)))) | (with_reducible ((k_here; k_dflt (refine' lam_new ?F ?N ?T ?C ?cd ?U ?ne ?t ?n ?cl ?_; (case F => k_asm); (case N => k_asm); (case T => k_asm); (case cd => exact rfl); (case C => kn_code); (case U => repeat' (first | exact Front.head | apply Front.tail)); (case ne => repeat' (first | assumption | exact ne_nil | refine ne_cons (neN (by omega)) ?_)); (case t => exact True.intro); (case n => rfl); (case cl => exact rfl); k_whole); intro f' c' oc' fo' h' tk' F' N' li' ne'; (try simp only [List.cons_append, List.nil_append] at N'); (try dsimp only at N')))) | walk1)
    exact hq
  · rintro i v g2 C2 oC m2 n2 s1 Q2 E2 hv ⟨T2, B2, D2⟩ F2 N2 hsub hC hns hmx hq
    exact turn_ok ((hR v (List.mem_of_getElem? hv)).mono hsub) _ _ _ _ _ _ _ _ _ _ _ _ _ _ _ _ _ _ _ _ _ B2 F2 (Frag.In.keeps XB B2.stays) N2 (Top.keeps TB B2.stays) XB TB D2 rfl hC hns hmx (fun g3 h3 tk3 T3 F3 N3 B3 D3 => hq g3 h3 tk3 ⟨T2.trans T3, B3, D3⟩ F3 N3)
  · rintro g2 h2 tk2 Dl ⟨T2, B2, D2⟩ F2 N2
    have X2 := Frag.In.keeps XB B2.stays
    have P2 := Top.keeps TB B2.stays
    obtain ⟨ps, hps⟩ : ∃ ps, (257, tabObj ps) ∈ news0 := ⟨_, ht0⟩
    have N3 : News g2 L' h2 [(Dl, listOf #[] 0), (257, tabObj ps)] := sub_front N2 (cons_sub List.mem_cons_self (cons_sub (List.mem_cons_of_mem _ hps) (fun q h => absurd h List.not_mem_nil)))
    clear N2 hN0 hm0 ht0 hps hR lF B' X' T' D' FG'
    repeat' (first | (k_unfold; (try dsimp only)) | (k_end; kc_close) | (first | (with_reducible ((k_here; (with_reducible show wpAny _ _ (call (Value.ref 192) _) _ _ _); (k_dflt (refine' ClaimK.use (Claim.k5 (color4_to ?a0 ?a1 ?a2 ?a3 ?a4 ?a5 ?a6 ?a7)) ?kB ?kF ?kX ?kN ?kT ?kK ?kd ?ku ?_; (case kN => k_asm); (case kF => k_asm); (case kB => k_asm); (case kX => k_asm); (case kT => k_asm); (case kK => first | exact rfl | assumption); (case kd => ktr_room); (case ku => ktr_units); (case a0 => first | exact cs6 | exact cs7); (case a1 => assumption); (case a2 => constructor <;> decide); (case a3 => constructor <;> decide); (case a4 => decide); (case a5 => decide); (case a6 => decide); (case a7 => decide))); (intro t9 y91 y92 y93 y94 h9 tk9 F9 N9); dsimp only [plL] at N9; (try dsimp only [Col.str])))) | (with_reducible ((k_here; (with_reducible show wpAny _ _ (call (Value.ref 192) _) _ _ _); (k_dflt (refine' ClaimK.use (Claim.k5 (color3_to ?a0 ?a1 ?a2 ?a3 ?a4 ?a5 ?a6 ?a7)) ?kB ?kF ?kX ?kN ?kT ?kK ?kd ?ku ?_; (case kN => k_asm); (case kF => k_asm); (case kB => k_asm); (case kX => k_asm); (case kT => k_asm); (case kK => first | exact rfl | assumption); (case kd => ktr_room); (case ku => ktr_units); (case a0 => first | exact cs6 | exact cs7); (case a1 => assumption); (case a2 => constructor <;> decide); (case a3 => constructor <;> decide); (case a4 => decide); (case a5 => decide); (case a6 => decide); (case a7 => decide))); (intro t9 y91 y92 y93 y94 h9 tk9 F9 N9); dsimp only [plL] at N9; (try dsimp only [Col.str])))) | (with_reducible ((k_here; (with_reducible show wpAny _ _ (call (Value.ref 195) _) _ _ _); (k_dflt (refine' ClaimK.use (Claim.km (mk4_ok ?a1 ?a2 ?a3 ?a4 ?a5 ?a6 ?a7)) ?kB ?kF ?kX ?kN ?kT ?kK ?kd ?ku ?_; (case kN => k_asm); (case kF => k_asm); (case kB => k_asm); (case kX => k_asm); (case kT => k_asm); (case kK => first | exact rfl | assumption); (case kd => ktr_room); (case ku => ktr_units); (case a1 => decide); (case a2 => decide); (case a3 => decide); (case a4 => decide); (case a5 => decide); (case a6 => decide); (case a7 => decide))); (intro pp9 pd9 b91 d91 b92 d92 KP9 K91 K92 y91 y92 y93 y94 S9 o9 f91 f92 f93 f94 f95 h9 tk9 F9 N9); dsimp only [plL] at N9; (try k_lt o9); (try dsimp only)))) | (with_reducible ((k_here; (with_reducible show wpAny _ _ (call (Value.ref 162) _) _ _ _); (k_dflt (refine' ClaimK.use (Claim.k1 (sgcol_ok ?a1)) ?kB ?kF ?kX ?kN ?kT ?kK ?kd ?ku ?_; (case kN => k_asm); (case kF => k_asm); (case kB => k_asm); (case kX => k_asm); (case kT => k_asm); (case kK => first | exact rfl | assumption); (case kd => ktr_room); (case ku => ktr_units); (case a1 => assumption))); (intro t9 h9 tk9 F9 N9); (try dsimp only)))) | (with_reducible ((k_here; (with_reducible show wpAny _ _ (call (Value.ref 165) _) _ _ _); (k_dflt (refine' ClaimK.use (Claim.km sgmk_ok) ?kB ?kF ?kX ?kN ?kT ?kK ?kd ?ku ?_; (case kN => k_asm); (case kF => k_asm); (case kB => k_asm); (case kX => k_asm); (case kT => k_asm); (case kK => first | exact rfl | assumption); (case kd => ktr_room); (case ku => ktr_units))); (intro pp9 pd9 b91 d91 b92 d92 KP9 K91 K92 y91 y92 y93 y94 S9 o9 f91 f92 f93 f94 f95 h9 tk9 F9 N9); dsimp only [sgL] at N9; (try k_lt o9); (try dsimp only)))) | (with_reducible ((k_here; k_dflt (refine' lam_new ?F ?N ?T ?C ?cd ?U ?ne ?t ?n ?cl ?_; (case F => k_asm); (case N => k_asm); (case T => k_asm); (case cd => exact rfl); (case C => kn_code); (case U => repeat' (first | exact Front.head | apply Front.tail)); (case ne => repeat' (first | assumption | exact ne_nil | refine ne_cons (neN (by omega)) ?_)); (case t => exact True.intro); (case n => rfl); (case cl => exact rfl); k_whole); intro f' c' oc' fo' h' tk' F' N' li' ne'; (try simp only [List.cons_append, List.nil_append] at N'); (try dsimp only at N')))) | walk1) | (dsimp only; (first | (with_reducible ((k_here; (with_reducible show wpAny _ _ (call (Value.ref 192) _) _ _ _); (k_dflt (refine' ClaimK.use (Claim.k5 (color4_to ?a0 ?a1 ?a2 ?a3 ?a4 ?a5 ?a6 ?a7)) ?kB ?kF ?kX ?kN ?kT ?kK ?kd ?ku ?_; (case kN => k_asm); (case kF => k_asm); (case kB => k_asm); (case kX => k_asm); (case kT => k_asm); (case kK => first | exact rfl | assumption); (case kd => ktr_room); (case ku => ktr_units); (case a0 => first | exact cs6 | exact cs7); (case a1 => assumption); (case a2 => constructor <;> decide); (case a3 => constructor <;> decide); (case a4 => decide); (case a5 => decide); (case a6 => decide); (case a7 => decide))); (intro t9 y91 y92 y93 y94 h9 tk9 F9 N9); dsimp only [plL] at N9; (try dsimp only [Col.str])))) | (with_reducible ((k_here; (with_reducible show wpAny _ _ (call (Value.ref 192) _) _ _ _); (k_dflt (refine' ClaimK.use (Claim.k5 (color3_to ?a0 ?a1 ?a2 ?a3 ?a4 ?a5 ?a6 ?a7)) ?kB ?kF ?kX ?kN ?kT ?kK ?kd ?ku ?_; (case kN => k_asm); (case kF => k_asm); (case kB => k_asm); (case kX => k_asm); (case kT => k_asm); (case kK => first | exact rfl | assumption); (case kd => ktr_room); (case ku => ktr_units); (case a0 => first | exact cs6 | exact cs7); (case a1 => assumption); (case a2 => constructor <;> decide); (case a3 => constructor <;> decide); (case a4 => decide); (case a5 => decide); (case a6 => decide); (case a7 => decide))); (intro t9 y91 y92 y93 y94 h9 tk9 F9 N9); dsimp only [plL] at N9; (try dsimp only [Col.str])))) | (with_reducible ((k_here; (with_reducible show wpAny _ _ (call (Value.ref 195) _) _ _ _); (k_dflt (refine' ClaimK.use (Claim.km (mk4_ok ?a1 ?a2 ?a3 ?a4 ?a5 ?a6 ?a7)) ?kB ?kF ?kX ?kN ?kT ?kK ?kd ?ku ?_; (case kN => k_asm); (case kF => k_asm); (case kB => k_asm); (case kX => k_asm); (case kT => k_asm); (case kK => first | exact rfl | assumption); (case kd => ktr_room); (case ku => ktr_units); (case a1 => decide); (case a2 => decide); (case a3 => decide); (case a4 => decide); (case a5 => decide); (case a6 => decide); (case a7 => decide))); (intro pp9 pd9 b91 d91 b92 d92 KP9 K91 K92 y91 y92 y93 y94 S9 o9 f91 f92 f93 f94 f95 h9 tk9 F9 N9); dsimp only [plL] at N9; (try k_lt o9); (try dsimp only)))) | (with_reducible ((k_here; (with_reducible show wpAny _ _ (call (Value.ref 162) _) _ _ _); (k_dflt (refine' ClaimK.use (Claim.k1 (sgcol_ok ?a1)) ?kB ?kF ?kX ?kN ?kT ?kK ?kd ?ku ?_; (case kN => k_asm); (case kF => k_asm); (case kB => k_asm); (case kX => k_asm); (case kT => k_asm); (case kK => first | exact rfl | assumption); (case kd => ktr_room); (case ku => ktr_units); (case a1 => assumption))); (intro t9 h9 tk9 F9 N9); (try dsimp only)))) | (with_reducible ((k_here; (with_reducible show wpAny _ _ (call (Value.ref 165) _) _ _ _); (k_dflt (refine' ClaimK.use (Claim.km sgmk_ok) ?kB ?kF ?kX ?kN ?kT ?kK ?kd ?ku ?_; (case kN => k_asm); (case kF => k_asm); (case kB => k_asm); (case kX => k_asm); (case kT => k_asm); (case kK => first | exact rfl | assumption); (case kd => ktr_room); (case ku => ktr_units))); (intro pp9 pd9 b91 d91 b92 d92 KP9 K91 K92 y91 y92 y93 y94 S9 o9 f91 f92 f93 f94 f95 h9 tk9 F9 N9); dsimp only [sgL] at N9; (try k_lt o9); (try dsimp only)))) | (with_reducible ((k_here; k_dflt (refine' lam_new ?F ?N ?T ?C ?cd ?U ?ne ?t ?n ?cl ?_; (case F => k_asm); (case N => k_asm); (case T => k_asm); (case cd => exact rfl); (case C => kn_code); (case U => repeat' (first | exact Front.head | apply Front.tail)); (case ne => repeat' (first | assumption | exact ne_nil | refine ne_cons (neN (by omega)) ?_)); (case t => exact True.intro); (case n => rfl); (case cl => exact rfl); k_whole); intro f' c' oc' fo' h' tk' F' N' li' ne'; (try simp only [List.cons_append, List.nil_append] at N'); (try dsimp only at N')))) | walk1)) | (leave1; walk_say "STEP leave1"; (try dsimp only)) | fail "no step")
    exact hret _ _ ps (by k_asm) (sub_front (by k_asm) (cons_sub (by repeat' (first | exact List.Mem.head _ | apply List.Mem.tail)) (fun q h => absurd h List.not_mem_nil)))
end Mine
end
section
open PySem PySem.W PySem.Calls PyProof.Rows PySem.Spec
set_option maxRecDepth 100000
set_option maxHeartbeats 8000000
namespace Mine
theorem anew_Lw : True := by
  w_top off
  exact True.intro
theorem small_turns {h : Heap} {r : Addr} {k : Int} {t u v : Tok} (R : IsRange h r 0 (if (if 2 < k then 2 else k) > 1 then if 2 < k then 2 else k else 1) 1 t u v) : ∃ n : Nat, IsRange h r 0 (n : Int) 1 t u v ∧ n ≤ 2 := by
  by_cases h2 : 2 < k
  · rw [if_pos h2, if_pos (by decide)] at R
    exact ⟨2, R, Nat.le_refl _⟩
  · rw [if_neg h2] at R
    by_cases h1 : k > 1
    · rw [if_pos h1] at R
      exact ⟨k.toNat, by rw [show ((k.toNat : Nat) : Int) = k by omega]; exact R, by omega⟩
    · rw [if_neg h1] at R
      exact ⟨1, R, by omega⟩
def LawJ (sc : Addr) (_i : Nat) (m : Str → Option Value) (nx : List (Addr × Obj)) : Prop := nx = [(257, tabObj #[])] ∧ m (Str.ofString "script") = some (.ref sc)
theorem cs1 : step 0 3 0 5 .g 2 0 ⟨3 * 100, 0, 5 * 100, 0⟩ = (.g, ⟨100, 0, 300, 0⟩) := rfl
theorem cs2 : step 0 3 0 5 .g 2 0 ⟨100, 0, 300, 0⟩ = (.y, ⟨100, 0, 100, 0⟩) := rfl
theorem cs3 : step 0 3 0 5 .g 2 0 ⟨100, 0, 100, 0⟩ = (.r, ⟨100, 0, 100, 0⟩) := rfl
theorem cs4 : step 0 3 0 5 .g 1 0 ⟨100, 0, 100, 0⟩ = (.g, ⟨0, 0, 0, 0⟩) := rfl
theorem cs5 : step 0 3 0 5 .g 1 0 ⟨0, 0, 0, 0⟩ = (.r, ⟨0, 0, 0, 0⟩) := rfl
local macro_rules | `(tactic| k_all) => `(tactic| assumption)
theorem law_top : PySem.Challenge.rw_pf0381_01.Holds := by
  refine hd ?_
  k_fill
  intro w s₀ s₁ mg mb G Y fa o pm cd doc dV kV ho hd' hcd hD hmg hg args vals as hpre hlay hrd hwl hlo
  have KX := kIn_of Y
  have X := (Ground.X G).1
  have V := (Ground.X G).2
  refine Ground.open G ?_
  intro T B D TE TW
  try (refine guard_noD D (by decide +kernel) ?_; clear D)
  kn_lay T hmg ho hd' cd
  clear hmg
  wrow_args hpre hlay hrd hwl hlo
  all_goals (
    first | refine callC_kw (enter_call ?_) | refine enter_call ?_
    w_top on
    kn_posts
    w_call any ho hd' hcd hD T F
    clear hd')
  rename News _ _ _ _ => N
  have l0 := ghost_lt hT9 F
  have C' := ghost_code hT9
  have X' := ghost_kf KX
  revert X'
  k_fill
  intro X'
  have T' := ghost_top hT9 T
  have K' := ghost_below hT9
  have N' := ghost_news hT9 F N
  have F' := ghost_fr hT9 F
  kn_lists hT9
  kn_codes C'
  simp only [tabNews, List.map_cons, List.map_nil, List.nil_append, List.cons_append] at N'
  simp only [tabNews, List.map_cons, List.map_nil] at l0
  k_lt l0
  clear N X F C' KX Y G hcd hD ho
  k_drop
  all_goals try k_fold
  repeat' (first | (k_unfold; (try dsimp only)) | ((fail_if_success (with_reducible show wpAny _ _ (pyIter _) _ _ _)); first | (first | (with_reducible ((k_here; (with_reducible show wpAny _ _ (call (Value.ref 260) _) _ _ _); (k_dflt (refine' settings_ok _ _ _ _ _ _ _ _ _ _ _ _ _ _ _ _ _ ?kB ?kF ?kX ?kC ?kN ?kT ?kXB ?kTB ?kK ?_; (case kXB => k_asm); (case kTB => k_asm); (case kC => assumption); (case kF => k_asm); (case kN => (refine' sub_front ?n1 ?n2; (case n1 => k_asm); (case n2 => refine cons_sub (by k_mem) (fun _ h => nomatch h)))); (case kB => k_asm); (case kX => k_asm); (case kT => k_asm); (case kK => first | exact rfl | assumption))); intro h9 tk9 ps9 F9 N9; (try dsimp only)))) | (with_reducible ((k_here; (with_reducible show wpAny _ _ (call (Value.ref 192) _) _ _ _); (k_dflt (refine' ClaimK.use (Claim.k5 (color3_to ?a0 ?a1 ?a2 ?a3 ?a4 ?a5 ?a6 ?a7)) ?kB ?kF ?kX ?kN ?kT ?kK ?kd ?ku ?_; (case kN => k_asm); (case kF => k_asm); (case kB => k_asm); (case kX => k_asm); (case kT => k_asm); (case kK => first | exact rfl | assumption); (case kd => ktr_room); (case ku => ktr_units); (case a0 => first | exact cs1 | exact cs2 | exact cs3 | exact cs4 | exact cs5); (case a1 => assumption); (case a2 => constructor <;> decide); (case a3 => constructor <;> decide); (case a4 => decide); (case a5 => decide); (case a6 => decide); (case a7 => decide))); (intro t9 y91 y92 y93 y94 h9 tk9 F9 N9); dsimp only [plL] at N9; (try dsimp only [Col.str])))) | (with_reducible ((k_here; (with_reducible show wpAny _ _ (call (Value.ref 195) _) _ _ _); (k_dflt (refine' ClaimK.use (Claim.km (mk4_ok ?a1 ?a2 ?a3 ?a4 ?a5 ?a6 ?a7)) ?kB ?kF ?kX ?kN ?kT ?kK ?kd ?ku ?_; (case kN => k_asm); (case kF => k_asm); (case kB => k_asm); (case kX => k_asm); (case kT => k_asm); (case kK => first | exact rfl | assumption); (case kd => ktr_room); (case ku => ktr_units); (case a1 => decide); (case a2 => decide); (case a3 => decide); (case a4 => decide); (case a5 => decide); (case a6 => decide); (case a7 => decide))); (intro pp9 pd9 b91 d91 b92 d92 KP9 K91 K92 y91 y92 y93 y94 S9 o9 f91 f92 f93 f94 f95 h9 tk9 F9 N9); dsimp only [plL] at N9; (try k_lt o9); (try dsimp only)))) | (with_reducible ((k_here; (with_reducible show wpAny _ _ (call (Value.ref 206) _) _ _ _); (k_dflt (refine' pool_ok _ _ _ _ _ _ _ _ _ _ _ _ _ _ _ _ _ ?a1 ?a2 ?a3 ?a4 ?kB ?kF ?kX ?kN ?kT ?kK ?kd ?ku ?_; (case kN => k_asm); (case kF => k_asm); (case kB => k_asm); (case kX => k_asm); (case kT => k_asm); (case kK => first | exact rfl | assumption); (case kd => ktr_room); (case ku => ktr_units); (case a1 => assumption); (case a2 => assumption); (case a3 => omega); (case a4 => first | exact .inl rfl | exact .inr rfl))); (rintro v9 news9 h9 tk9 ⟨l9, a9, b9, ta9, tb9, n9, e9, f9, ha9, hb9, hb8, z9⟩ F9 N9); subst e9; subst f9; (try dsimp only)))) | (with_reducible ((k_here; (with_reducible show wpAny _ _ (call (Value.ref 248) _) _ _ _); (k_dflt (refine' ClaimK.use (stream_k (stream_ok ?a1 ?a2 ?a3 ?a4)) ?kB ?kF ?kX ?kN ?kT ?kK ?kd ?ku ?_; (case kN => k_asm); (case kF => k_asm); (case kB => k_asm); (case kX => k_asm); (case kT => k_asm); (case kK => first | exact rfl | assumption); (case kd => ktr_room); (case ku => ktr_units); (case a1 => k_all); (case a2 => k_all); (case a3 => k_all); (case a4 => k_all))); (intro a9 b9 ta9 tb9 ha9 hb9 hb8 h9 tk9 F9 N9); (try dsimp only)))) | walk1) | (dsimp only; (first | (with_reducible ((k_here; (with_reducible show wpAny _ _ (call (Value.ref 260) _) _ _ _); (k_dflt (refine' settings_ok _ _ _ _ _ _ _ _ _ _ _ _ _ _ _ _ _ ?kB ?kF ?kX ?kC ?kN ?kT ?kXB ?kTB ?kK ?_; (case kXB => k_asm); (case kTB => k_asm); (case kC => assumption); (case kF => k_asm); (case kN => (refine' sub_front ?n1 ?n2; (case n1 => k_asm); (case n2 => refine cons_sub (by k_mem) (fun _ h => nomatch h)))); (case kB => k_asm); (case kX => k_asm); (case kT => k_asm); (case kK => first | exact rfl | assumption))); intro h9 tk9 ps9 F9 N9; (try dsimp only)))) | (with_reducible ((k_here; (with_reducible show wpAny _ _ (call (Value.ref 192) _) _ _ _); (k_dflt (refine' ClaimK.use (Claim.k5 (color3_to ?a0 ?a1 ?a2 ?a3 ?a4 ?a5 ?a6 ?a7)) ?kB ?kF ?kX ?kN ?kT ?kK ?kd ?ku ?_; (case kN => k_asm); (case kF => k_asm); (case kB => k_asm); (case kX => k_asm); (case kT => k_asm); (case kK => first | exact rfl | assumption); (case kd => ktr_room); (case ku => ktr_units); (case a0 => first | exact cs1 | exact cs2 | exact cs3 | exact cs4 | exact cs5); (case a1 => assumption); (case a2 => constructor <;> decide); (case a3 => constructor <;> decide); (case a4 => decide); (case a5 => decide); (case a6 => decide); (case a7 => decide))); (intro t9 y91 y92 y93 y94 h9 tk9 F9 N9); dsimp only [plL] at N9; (try dsimp only [Col.str])))) | (with_reducible ((k_here; (with_reducible show wpAny _ _ (call (Value.ref 195) _) _ _ _); (k_dflt (refine' ClaimK.use (Claim.km (mk4_ok ?a1 ?a2 ?a3 ?a4 ?a5 ?a6 ?a7)) ?kB ?kF ?kX ?kN ?kT ?kK ?kd ?ku ?_; (case kN => k_asm); (case kF => k_asm); (case kB => k_asm); (case kX => k_asm); (case kT => k_asm); (case kK => first | exact rfl | assumption); (case kd => ktr_room); (case ku => ktr_units); (case a1 => decide); (case a2 => decide); (case a3 => decide); (case a4 => decide); (case a5 => decide); (case a6 => decide); (case a7 => decide))); (intro pp9 pd9 b91 d91 b92 d92 KP9 K91 K92 y91 y92 y93 y94 S9 o9 f91 f92 f93 f94 f95 h9 tk9 F9 N9); dsimp only [plL] at N9; (try k_lt o9); (try dsimp only)))) | (with_reducible ((k_here; (with_reducible show wpAny _ _ (call (Value.ref 206) _) _ _ _); (k_dflt (refine' pool_ok _ _ _ _ _ _ _ _ _ _ _ _ _ _ _ _ _ ?a1 ?a2 ?a3 ?a4 ?kB ?kF ?kX ?kN ?kT ?kK ?kd ?ku ?_; (case kN => k_asm); (case kF => k_asm); (case kB => k_asm); (case kX => k_asm); (case kT => k_asm); (case kK => first | exact rfl | assumption); (case kd => ktr_room); (case ku => ktr_units); (case a1 => assumption); (case a2 => assumption); (case a3 => omega); (case a4 => first | exact .inl rfl | exact .inr rfl))); (rintro v9 news9 h9 tk9 ⟨l9, a9, b9, ta9, tb9, n9, e9, f9, ha9, hb9, hb8, z9⟩ F9 N9); subst e9; subst f9; (try dsimp only)))) | (with_reducible ((k_here; (with_reducible show wpAny _ _ (call (Value.ref 248) _) _ _ _); (k_dflt (refine' ClaimK.use (stream_k (stream_ok ?a1 ?a2 ?a3 ?a4)) ?kB ?kF ?kX ?kN ?kT ?kK ?kd ?ku ?_; (case kN => k_asm); (case kF => k_asm); (case kB => k_asm); (case kX => k_asm); (case kT => k_asm); (case kK => first | exact rfl | assumption); (case kd => ktr_room); (case ku => ktr_units); (case a1 => k_all); (case a2 => k_all); (case a3 => k_all); (case a4 => k_all))); (intro a9 b9 ta9 tb9 ha9 hb9 hb8 h9 tk9 F9 N9); (try dsimp only)))) | walk1))))
  rename IsRange _ _ _ _ _ _ _ _ => lR
  rename Heap.IsList _ _ _ => lL
  rename Fr _ _ _ _ => lF
  rename News _ _ _ _ => lN
  obtain ⟨n, lR, hn2⟩ := small_turns lR
  refine range_loop (n := n) (LawJ _) rfl lR (small_one (by omega) (by omega) (by omega) (by omega)) (rangeSize_nat _ _) lF lN ⟨rfl, rfl⟩ ?_ ?_
  · rintro i t m₁ nx h tk own hi hoff ⟨rfl, j1⟩ F₁ N₁
    have F₂ := fr_eq F₁ (eq_if (eq_at j1 fun _ => rfl))
    simp only [List.cons_append, List.nil_append] at N₁
    clear F₁ lF lN lR T
    dsimp only [envOf] at F₂ N₁
    obtain rfl | rfl : i = 0 ∨ i = 1 := by omega
    all_goals (first | rw [show ((0 : Nat) : Int) = 0 from rfl] at F₂ | rw [show ((1 : Nat) : Int) = 1 from rfl] at F₂)
    all_goals repeat' (first | (k_unfold; (try dsimp only)) | (k_end; kc_close) | (first | (with_reducible ((k_here; (with_reducible show wpAny _ _ (call (Value.ref 260) _) _ _ _); (k_dflt (refine' settings_ok _ _ _ _ _ _ _ _ _ _ _ _ _ _ _ _ _ ?kB ?kF ?kX ?kC ?kN ?kT ?kXB ?kTB ?kK ?_; (case kXB => k_asm); (case kTB => k_asm); (case kC => assumption); (case kF => k_asm); (case kN => (refine' sub_front ?n1 ?n2; (case n1 => k_asm); (case n2 => refine cons_sub (by k_mem) (fun _ h => nomatch h)))); (case kB => k_asm); (case kX => k_asm); (case kT => k_asm); (case kK => first | exact rfl | assumption))); intro h9 tk9 ps9 F9 N9; (try dsimp only)))) | (with_reducible ((k_here; (with_reducible show wpAny _ _ (call (Value.ref 192) _) _ _ _); (k_dflt (refine' ClaimK.use (Claim.k5 (color3_to ?a0 ?a1 ?a2 ?a3 ?a4 ?a5 ?a6 ?a7)) ?kB ?kF ?kX ?kN ?kT ?kK ?kd ?ku ?_; (case kN => k_asm); (case kF => k_asm); (case kB => k_asm); (case kX => k_asm); (case kT => k_asm); (case kK => first | exact rfl | assumption); (case kd => ktr_room); (case ku => ktr_units); (case a0 => first | exact cs1 | exact cs2 | exact cs3 | exact cs4 | exact cs5); (case a1 => assumption); (case a2 => constructor <;> decide); (case a3 => constructor <;> decide); (case a4 => decide); (case a5 => decide); (case a6 => decide); (case a7 => decide))); (intro t9 y91 y92 y93 y94 h9 tk9 F9 N9); dsimp only [plL] at N9; (try dsimp only [Col.str])))) | (with_reducible ((k_here; (with_reducible show wpAny _ _ (call (Value.ref 195) _) _ _ _); (k_dflt (refine' ClaimK.use (Claim.km (mk4_ok ?a1 ?a2 ?a3 ?a4 ?a5 ?a6 ?a7)) ?kB ?kF ?kX ?kN ?kT ?kK ?kd ?ku ?_; (case kN => k_asm); (case kF => k_asm); (case kB => k_asm); (case kX => k_asm); (case kT => k_asm); (case kK => first | exact rfl | assumption); (case kd => ktr_room); (case ku => ktr_units); (case a1 => decide); (case a2 => decide); (case a3 => decide); (case a4 => decide); (case a5 => decide); (case a6 => decide); (case a7 => decide))); (intro pp9 pd9 b91 d91 b92 d92 KP9 K91 K92 y91 y92 y93 y94 S9 o9 f91 f92 f93 f94 f95 h9 tk9 F9 N9); dsimp only [plL] at N9; (try k_lt o9); (try dsimp only)))) | (with_reducible ((k_here; (with_reducible show wpAny _ _ (call (Value.ref 206) _) _ _ _); (k_dflt (refine' pool_ok _ _ _ _ _ _ _ _ _ _ _ _ _ _ _ _ _ ?a1 ?a2 ?a3 ?a4 ?kB ?kF ?kX ?kN ?kT ?kK ?kd ?ku ?_; (case kN => k_asm); (case kF => k_asm); (case kB => k_asm); (case kX => k_asm); (case kT => k_asm); (case kK => first | exact rfl | assumption); (case kd => ktr_room); (case ku => ktr_units); (case a1 => assumption); (case a2 => assumption); (case a3 => omega); (case a4 => first | exact .inl rfl | exact .inr rfl))); (rintro v9 news9 h9 tk9 ⟨l9, a9, b9, ta9, tb9, n9, e9, f9, ha9, hb9, hb8, z9⟩ F9 N9); subst e9; subst f9; (try dsimp only)))) | (with_reducible ((k_here; (with_reducible show wpAny _ _ (call (Value.ref 248) _) _ _ _); (k_dflt (refine' ClaimK.use (stream_k (stream_ok ?a1 ?a2 ?a3 ?a4)) ?kB ?kF ?kX ?kN ?kT ?kK ?kd ?ku ?_; (case kN => k_asm); (case kF => k_asm); (case kB => k_asm); (case kX => k_asm); (case kT => k_asm); (case kK => first | exact rfl | assumption); (case kd => ktr_room); (case ku => ktr_units); (case a1 => k_all); (case a2 => k_all); (case a3 => k_all); (case a4 => k_all))); (intro a9 b9 ta9 tb9 ha9 hb9 hb8 h9 tk9 F9 N9); (try dsimp only)))) | walk1) | (dsimp only; (first | (with_reducible ((k_here; (with_reducible show wpAny _ _ (call (Value.ref 260) _) _ _ _); (k_dflt (refine' settings_ok _ _ _ _ _ _ _ _ _ _ _ _ _ _ _ _ _ ?kB ?kF ?kX ?kC ?kN ?kT ?kXB ?kTB ?kK ?_; (case kXB => k_asm); (case kTB => k_asm); (case kC => assumption); (case kF => k_asm); (case kN => (refine' sub_front ?n1 ?n2; (case n1 => k_asm); (case n2 => refine cons_sub (by k_mem) (fun _ h => nomatch h)))); (case kB => k_asm); (case kX => k_asm); (case kT => k_asm); (case kK => first | exact rfl | assumption))); intro h9 tk9 ps9 F9 N9; (try dsimp only)))) | (with_reducible ((k_here; (with_reducible show wpAny _ _ (call (Value.ref 192) _) _ _ _); (k_dflt (refine' ClaimK.use (Claim.k5 (color3_to ?a0 ?a1 ?a2 ?a3 ?a4 ?a5 ?a6 ?a7)) ?kB ?kF ?kX ?kN ?kT ?kK ?kd ?ku ?_; (case kN => k_asm); (case kF => k_asm); (case kB => k_asm); (case kX => k_asm); (case kT => k_asm); (case kK => first | exact rfl | assumption); (case kd => ktr_room); (case ku => ktr_units); (case a0 => first | exact cs1 | exact cs2 | exact cs3 | exact cs4 | exact cs5); (case a1 => assumption); (case a2 => constructor <;> decide); (case a3 => constructor <;> decide); (case a4 => decide); (case a5 => decide); (case a6 => decide); (case a7 => decide))); (intro t9 y91 y92 y93 y94 h9 tk9 F9 N9); dsimp only [plL] at N9; (try dsimp only [Col.str])))) | (with_reducible ((k_here; (with_reducible show wpAny _ _ (call (Value.ref 195) _) _ _ _); (k_dflt (refine' ClaimK.use (Claim.km (mk4_ok ?a1 ?a2 ?a3 ?a4 ?a5 ?a6 ?a7)) ?kB ?kF ?kX ?kN ?kT ?kK ?kd ?ku ?_; (case kN => k_asm); (case kF => k_asm); (case kB => k_asm); (case kX => k_asm); (case kT => k_asm); (case kK => first | exact rfl | assumption); (case kd => ktr_room); (case ku => ktr_units); (case a1 => decide); (case a2 => decide); (case a3 => decide); (case a4 => decide); (case a5 => decide); (case a6 => decide); (case a7 => decide))); (intro pp9 pd9 b91 d91 b92 d92 KP9 K91 K92 y91 y92 y93 y94 S9 o9 f91 f92 f93 f94 f95 h9 tk9 F9 N9); dsimp only [plL] at N9; (try k_lt o9); (try dsimp only)))) | (with_reducible ((k_here; (with_reducible show wpAny _ _ (call (Value.ref 206) _) _ _ _); (k_dflt (refine' pool_ok _ _ _ _ _ _ _ _ _ _ _ _ _ _ _ _ _ ?a1 ?a2 ?a3 ?a4 ?kB ?kF ?kX ?kN ?kT ?kK ?kd ?ku ?_; (case kN => k_asm); (case kF => k_asm); (case kB => k_asm); (case kX => k_asm); (case kT => k_asm); (case kK => first | exact rfl | assumption); (case kd => ktr_room); (case ku => ktr_units); (case a1 => assumption); (case a2 => assumption); (case a3 => omega); (case a4 => first | exact .inl rfl | exact .inr rfl))); (rintro v9 news9 h9 tk9 ⟨l9, a9, b9, ta9, tb9, n9, e9, f9, ha9, hb9, hb8, z9⟩ F9 N9); subst e9; subst f9; (try dsimp only)))) | (with_reducible ((k_here; (with_reducible show wpAny _ _ (call (Value.ref 248) _) _ _ _); (k_dflt (refine' ClaimK.use (stream_k (stream_ok ?a1 ?a2 ?a3 ?a4)) ?kB ?kF ?kX ?kN ?kT ?kK ?kd ?ku ?_; (case kN => k_asm); (case kF => k_asm); (case kB => k_asm); (case kX => k_asm); (case kT => k_asm); (case kK => first | exact rfl | assumption); (case kd => ktr_room); (case ku => ktr_units); (case a1 => k_all); (case a2 => k_all); (case a3 => k_all); (case a4 => k_all))); (intro a9 b9 ta9 tb9 ha9 hb9 hb8 h9 tk9 F9 N9); (try dsimp only)))) | walk1)) | (leave1; walk_say "STEP leave1"; (try dsimp only)) | fail "no step")
    all_goals exact InvEndG.intro (by k_asm) (by k_asm) (nx := [(257, tabObj #[])]) ⟨rfl, rfl⟩ hoff (by intro p hp; rw [List.mem_singleton.mp hp]; k_mem) (by intro p hp; repeat' (first | exact hp | apply List.Mem.tail))
  · rintro m₁ nx h tk ⟨rfl, j1⟩ F₁ N₁
    have F₂ := fr_eq F₁ (eq_at j1 fun _ => rfl)
    dsimp only [envOf] at F₂ N₁
    clear F₁ lF lN lR T
    repeat' (first | (k_unfold; (try dsimp only)) | (k_end; kc_close) | (first | (with_reducible ((k_here; (with_reducible show wpAny _ _ (call (Value.ref 260) _) _ _ _); (k_dflt (refine' settings_ok _ _ _ _ _ _ _ _ _ _ _ _ _ _ _ _ _ ?kB ?kF ?kX ?kC ?kN ?kT ?kXB ?kTB ?kK ?_; (case kXB => k_asm); (case kTB => k_asm); (case kC => assumption); (case kF => k_asm); (case kN => (refine' sub_front ?n1 ?n2; (case n1 => k_asm); (case n2 => refine cons_sub (by k_mem) (fun _ h => nomatch h)))); (case kB => k_asm); (case kX => k_asm); (case kT => k_asm); (case kK => first | exact rfl | assumption))); intro h9 tk9 ps9 F9 N9; (try dsimp only)))) | (with_reducible ((k_here; (with_reducible show wpAny _ _ (call (Value.ref 192) _) _ _ _); (k_dflt (refine' ClaimK.use (Claim.k5 (color3_to ?a0 ?a1 ?a2 ?a3 ?a4 ?a5 ?a6 ?a7)) ?kB ?kF ?kX ?kN ?kT ?kK ?kd ?ku ?_; (case kN => k_asm); (case kF => k_asm); (case kB => k_asm); (case kX => k_asm); (case kT => k_asm); (case kK => first | exact rfl | assumption); (case kd => ktr_room); (case ku => ktr_units); (case a0 => first | exact cs1 | exact cs2 | exact cs3 | exact cs4 | exact cs5); (case a1 => assumption); (case a2 => constructor <;> decide); (case a3 => constructor <;> decide); (case a4 => decide); (case a5 => decide); (case a6 => decide); (case a7 => decide))); (intro t9 y91 y92 y93 y94 h9 tk9 F9 N9); dsimp only [plL] at N9; (try dsimp only [Col.str])))) | (with_reducible ((k_here; (with_reducible show wpAny _ _ (call (Value.ref 195) _) _ _ _); (k_dflt (refine' ClaimK.use (Claim.km (mk4_ok ?a1 ?a2 ?a3 ?a4 ?a5 ?a6 ?a7)) ?kB ?kF ?kX ?kN ?kT ?kK ?kd ?ku ?_; (case kN => k_asm); (case kF => k_asm); (case kB => k_asm); (case kX => k_asm); (case kT => k_asm); (case kK => first | exact rfl | assumption); (case kd => ktr_room); (case ku => ktr_units); (case a1 => decide); (case a2 => decide); (case a3 => decide); (case a4 => decide); (case a5 => decide); (case a6 => decide); (case a7 => decide))); (intro pp9 pd9 b91 d91 b92 d92 KP9 K91 K92 y91 y92 y93 y94 S9 o9 f91 f92 f93 f94 f95 h9 tk9 F9 N9); dsimp only [plL] at N9; (try k_lt o9); (try dsimp only)))) | (with_reducible ((k_here; (with_reducible show wpAny _ _ (call (Value.ref 206) _) _ _ _); (k_dflt (refine' pool_ok _ _ _ _ _ _ _ _ _ _ _ _ _ _ _ _ _ ?a1 ?a2 ?a3 ?a4 ?kB ?kF ?kX ?kN ?kT ?kK ?kd ?ku ?_; (case kN => k_asm); (case kF => k_asm); (case kB => k_asm); (case kX => k_asm); (case kT => k_asm); (case kK => first | exact rfl | assumption); (case kd => ktr_room); (case ku => ktr_units); (case a1 => assumption); (case a2 => assumption); (case a3 => omega); (case a4 => first | exact .inl rfl | exact .inr rfl))); (rintro v9 news9 h9 tk9 ⟨l9, a9, b9, ta9, tb9, n9, e9, f9, ha9, hb9, hb8, z9⟩ F9 N9); subst e9; subst f9; (try dsimp only)))) | (with_reducible ((k_here; (with_reducible show wpAny _ _ (call (Value.ref 248) _) _ _ _); (k_dflt (refine' ClaimK.use (stream_k (stream_ok ?a1 ?a2 ?a3 ?a4)) ?kB ?kF ?kX ?kN ?kT ?kK ?kd ?ku ?_; (case kN => k_asm); (case kF => k_asm); (case kB => k_asm); (case kX => k_asm); (case kT => k_asm); (case kK => first | exact rfl | assumption); (case kd => ktr_room); (case ku => ktr_units); (case a1 => k_all); (case a2 => k_all); (case a3 => k_all); (case a4 => k_all))); (intro a9 b9 ta9 tb9 ha9 hb9 hb8 h9 tk9 F9 N9); (try dsimp only)))) | walk1) | (dsimp only; (first | (with_reducible ((k_here; (with_reducible show wpAny _ _ (call (Value.ref 260) _) _ _ _); (k_dflt (refine' settings_ok _ _ _ _ _ _ _ _ _ _ _ _ _ _ _ _ _ ?kB ?kF ?kX ?kC ?kN ?kT ?kXB ?kTB ?kK ?_; (case kXB => k_asm); (case kTB => k_asm); (case kC => assumption); (case kF => k_asm); (case kN => (refine' sub_front ?n1 ?n2; (case n1 => k_asm); (case n2 => refine cons_sub (by k_mem) (fun _ h => nomatch h)))); (case kB => k_asm); (case kX => k_asm); (case kT => k_asm); (case kK => first | exact rfl | assumption))); intro h9 tk9 ps9 F9 N9; (try dsimp only)))) | (with_reducible ((k_here; (with_reducible show wpAny _ _ (call (Value.ref 192) _) _ _ _); (k_dflt (refine' ClaimK.use (Claim.k5 (color3_to ?a0 ?a1 ?a2 ?a3 ?a4 ?a5 ?a6 ?a7)) ?kB ?kF ?kX ?kN ?kT ?kK ?kd ?ku ?_; (case kN => k_asm); (case kF => k_asm); (case kB => k_asm); (case kX => k_asm); (case kT => k_asm); (case kK => first | exact rfl | assumption); (case kd => ktr_room); (case ku => ktr_units); (case a0 => first | exact cs1 | exact cs2 | exact cs3 | exact cs4 | exact cs5); (case a1 => assumption); (case a2 => constructor <;> decide); (case a3 => constructor <;> decide); (case a4 => decide); (case a5 => decide); (case a6 => decide); (case a7 => decide))); (intro t9 y91 y92 y93 y94 h9 tk9 F9 N9); dsimp only [plL] at N9; (try dsimp only [Col.str])))) | (with_reducible ((k_here; (with_reducible show wpAny _ _ (call (Value.ref 195) _) _ _ _); (k_dflt (refine' ClaimK.use (Claim.km (mk4_ok ?a1 ?a2 ?a3 ?a4 ?a5 ?a6 ?a7)) ?kB ?kF ?kX ?kN ?kT ?kK ?kd ?ku ?_; (case kN => k_asm); (case kF => k_asm); (case kB => k_asm); (case kX => k_asm); (case kT => k_asm); (case kK => first | exact rfl | assumption); (case kd => ktr_room); (case ku => ktr_units); (case a1 => decide); (case a2 => decide); (case a3 => decide); (case a4 => decide); (case a5 => decide); (case a6 => decide); (case a7 => decide))); (intro pp9 pd9 b91 d91 b92 d92 KP9 K91 K92 y91 y92 y93 y94 S9 o9 f91 f92 f93 f94 f95 h9 tk9 F9 N9); dsimp only [plL] at N9; (try k_lt o9); (try dsimp only)))) | (with_reducible ((k_here; (with_reducible show wpAny _ _ (call (Value.ref 206) _) _ _ _); (k_dflt (refine' pool_ok _ _ _ _ _ _ _ _ _ _ _ _ _ _ _ _ _ ?a1 ?a2 ?a3 ?a4 ?kB ?kF ?kX ?kN ?kT ?kK ?kd ?ku ?_; (case kN => k_asm); (case kF => k_asm); (case kB => k_asm); (case kX => k_asm); (case kT => k_asm); (case kK => first | exact rfl | assumption); (case kd => ktr_room); (case ku => ktr_units); (case a1 => assumption); (case a2 => assumption); (case a3 => omega); (case a4 => first | exact .inl rfl | exact .inr rfl))); (rintro v9 news9 h9 tk9 ⟨l9, a9, b9, ta9, tb9, n9, e9, f9, ha9, hb9, hb8, z9⟩ F9 N9); subst e9; subst f9; (try dsimp only)))) | (with_reducible ((k_here; (with_reducible show wpAny _ _ (call (Value.ref 248) _) _ _ _); (k_dflt (refine' ClaimK.use (stream_k (stream_ok ?a1 ?a2 ?a3 ?a4)) ?kB ?kF ?kX ?kN ?kT ?kK ?kd ?ku ?_; (case kN => k_asm); (case kF => k_asm); (case kB => k_asm); (case kX => k_asm); (case kT => k_asm); (case kK => first | exact rfl | assumption); (case kd => ktr_room); (case ku => ktr_units); (case a1 => k_all); (case a2 => k_all); (case a3 => k_all); (case a4 => k_all))); (intro a9 b9 ta9 tb9 ha9 hb9 hb8 h9 tk9 F9 N9); (try dsimp only)))) | walk1)) | (leave1; walk_say "STEP leave1"; (try dsimp only)) | fail "no step")
    all_goals w_report
end Mine
end
set_option maxRecDepth 100000 in
theorem PySem.Challenge.cw_pf0381_01_holds : PySem.Challenge.rw_pf0381_01.Holds := by
  exact Mine.law_top
