import PyProof.Rows.All
import Wide.All
import OpenK.AllK
import PyProof.WalksEnum
import KE.KDeep
import KE.KEqDat
import KE.KLcPair
import Wide.FinOn
import Lean
import PySem.Challenge.RW_pf0388_01
open PySem PySem.W PyProof.Rows
set_option Elab.async false
namespace Mine
def topKept : List Stmt → List Stmt
  | a0 :: a1 :: _ :: a3 :: a4 :: a5 :: _ :: a7 :: a8 :: a9 :: _ :: a11 :: a12 :: a13 :: a14 :: a15 :: a16 :: a17 :: a18 :: _ :: a20 :: _ :: a22 :: a23 :: a24 :: a25 :: _ :: a27 :: a28 :: a29 :: a30 :: a31 :: a32 :: a33 :: a34 :: a35 :: a36 :: a37 :: [] => [a0, a1, a3, a4, a5, a7, a8, a9, a11, a12, a13, a14, a15, a16, a17, a18, a20, a22, a23, a24, a25, a27, a28, a29, a30, a31, a32, a33, a34, a35, a36, a37]
  | _ => []
noncomputable def topView : Program := { PySem.Challenge.pw_pf0388_01 with main := { PySem.Challenge.pw_pf0388_01.main with body := topKept PySem.Challenge.pw_pf0388_01.main.body } }
set_option maxRecDepth 100000 in
theorem ws : PySem.W.OpenLaw.wellSaid PySem.Challenge.rw_pf0388_01 = true := by
  rw [PySem.W.Fast.te9446332074065402090]
  kernel_rfl
local macro_rules | `(tactic| o_law) => `(tactic| refine holds_law ws fun said => ?_)
theorem map_cut {α A B C D E F G H I Y : Type} {o : Option α} {a : α → A} {b : α → B} {c : α → C} {d : α → D} {e : α → E} {f : α → F} {g : α → G} {h : α → H} {i : α → I} {y : α → Y} {a0 : A} {b0 : B} {c0 : C} {d0 : D} {e0 : E} {f0 : F} {g0 : G} {h0 : H} {i0 : I} {y0 : Y}
    (p : o.map (fun s => (a s, b s, d s)) = some (a0, b0, d0)) (q : o.map (fun s => (c s, f s, g s)) = some (c0, f0, g0)) (r : o.map (fun s => (e s, h s, i s, y s)) = some (e0, h0, i0, y0)) :
    o.map (fun s => ((a s, b s, c s, d s, e s, f s, g s, h s, i s), y s)) = some ((a0, b0, c0, d0, e0, f0, g0, h0, i0), y0) := by
  cases o with
  | none => cases p
  | some s => cases p; cases q; cases r; rfl
set_option maxRecDepth 100000 in
theorem top_a : ∀ w : World, (openEnds treeTable PySem.Challenge.rw_pf0388_01.row.prog w 4570).map (fun s => (seen ((recsOf topView).map (·.name)) (ownsOf topView) [] { s with gens := #[] }, s.heap.bltView, tabsOk topView s)) = some (expectedOf topView, bltViewBooted, true) := by
  intro w
  unfold openEnds topFrom
  rw [PySem.W.Fast.te14082659384304107361, PySem.W.Fast.te5160383126252970620, PySem.W.Fast.te3399658132070893891, PySem.W.Fast.te5991557255702980513, PySem.W.Fast.te479339242167458305]
  kernel_rfl
set_option maxRecDepth 100000 in
theorem top_b : ∀ w : World, (openEnds treeTable PySem.Challenge.rw_pf0388_01.row.prog w 4570).map (fun s => (s.heap.keysOk (looseW topView [Str.ofString "SettingError"]) ((recsOf topView).map (·.name)) ((litsOf topView).map (·.1)) ((clssOf topView (looseW topView [Str.ofString "SettingError"])).map (·.name)) && s.heap.accountedOkI (importedModules PySem.Challenge.rw_pf0388_01.row.prog.main.body) && s.heap.isNs mainGlobals && s.heap.isNs builtinsNs && tablesOk topView s.heap && (xlAt topView [] s && recOk (RowW.records PySem.Challenge.rw_pf0388_01.row.toRowW) s) && (if true then s.gens.size == 0 else !leftWithCleanup s.gens), plainSeenE topView (looseW topView [Str.ofString "SettingError"]) s, plainSeenD topView [Str.ofString "SettingError"] s)) = some (true, plainGoodE topView (looseW topView [Str.ofString "SettingError"]), plainGoodD topView [Str.ofString "SettingError"]) := by
  intro w
  unfold openEnds topFrom
  rw [PySem.W.Fast.te14082659384304107361, PySem.W.Fast.te10880121769531294198, PySem.W.Fast.te821141287760084731, PySem.W.Fast.te3399658132070893891, PySem.W.Fast.te7409074990110511671, PySem.W.Fast.te13664370479719496447, PySem.W.Fast.te14722251495701143533, PySem.W.Fast.te10994771534591457954, PySem.W.Fast.te2386780881361962483, PySem.W.Fast.te11698064438423848299]
  kernel_rfl
local macro_rules | `(tactic| o_head $H) => `(tactic| (refine holds_open (q := topView) (loose := [Str.ofString "SettingError"]) (Xt := fun s => xlAt topView [] s && recOk (RowW.records PySem.Challenge.rw_pf0388_01.row.toRowW) s) (XP := XL topView []) (Yf := Hook.obs $H) (Ya := Hook.val $H) (YP := Hook.says $H) (N := 4570) ?hl (Hook.of $H) (Hook.keeps $H) (fun s e => xl_of s (Bool.and_eq_true_iff.mp e).1) XL.keeps (by rfl) (by rfl) (by rfl) (fun s e => recFacts_of (Bool.and_eq_true_iff.mp e).2) (by rfl) (by first | assumption | decide +kernel) (by decide +kernel) ⟨rfl, rfl, rfl, rfl, rfl, by decide +kernel⟩ ?hw ?hc; (case hl => intro w; unfold openSeen openGood; refine map_cut (top_a w) (top_b w) ?_; unfold openEnds topFrom; rw [PySem.W.Fast.te14082659384304107361, PySem.W.Fast.te16090120013241838585, PySem.W.Fast.te7317090234206586261, PySem.W.Fast.te7369524293546568484]; kernel_rfl)))
set_option maxRecDepth 100000 in
set_option maxHeartbeats 8000000 in
open_top hd for PySem.Challenge.rw_pf0388_01
end Mine

open PySem.Calls
set_option maxRecDepth 100000
set_option maxHeartbeats 4000000
namespace Mine
local macro_rules | `(tactic| omega) => `(tactic| lia)
section
noncomputable abbrev PR : Program := PySem.Challenge.rw_pf0388_01.row.prog
noncomputable abbrev Lz : List Str := looseW topView [Str.ofString "SettingError"]

structure Room (A : Around) (d : Nat) : Prop where
  hh : A.handled = none
  dep : A.depth + d < recursionLimit
  un : A.units + 10 * d + 100 < cLine

abbrev Aro (dp un : Nat) (gd : Option (List Code)) (fr : Option (List Env)) : Around := { handled := none, depth := dp, frames := fr, guards := gd, units := un }
theorem aro_of {A : Around} (h : A.handled = none) : A = Aro A.depth A.units A.guards A.frames := by cases A; cases h; rfl

theorem Room.le {A : Around} {d d' : Nat} (r : Room A d) (h : d' ≤ d) : Room A d' := ⟨r.hh, by have := r.dep; omega, by have := r.un; omega⟩
theorem Room.deeper {A : Around} {d : Nat} {env : Env} (r : Room A (d + 1)) : Room (A.deeper env) d :=
  ⟨r.hh, by have := r.dep; show A.depth + 1 + d < _; omega, by have := r.un; show A.units + 3 + 10 * d + 100 < _; omega⟩
theorem Room.in1 {A : Around} {d : Nat} (r : Room A (d + 1)) : Room A.in1 d :=
  ⟨r.hh, by have := r.dep; show A.depth + d < _; omega, by have := r.un; show A.units + 1 + 10 * d + 100 < _; omega⟩

def Kept (h : Heap) (a : List (Addr × Obj)) (h' : Heap) (b : List (Addr × Obj)) : Prop :=
  (∀ x o, x ∉ a.map (·.1) → h.get? x = some o → h'.get? x = some o) ∧ ∀ p ∈ b, p.1 ∉ a.map (·.1) → h.get? p.1 = none
theorem Kept.of {h h' : Heap} {L : Addr} {m : Str → Option Value} {a b : List (Addr × Obj)} (F : Fr (hideAll h (a.map (·.1))) L h' m) (N : News (hideAll h (a.map (·.1))) L h' b) : Kept h a h' b := by
  refine ⟨fun x o hx e => F.keep x o (hideAll_get _ e hx), fun p hp hx => ?_⟩
  cases e : h.get? p.1 with
  | none => rfl
  | some o => have := hideAll_get _ e hx; rw [(N p hp).2.2] at this; cases this

def Spec (w : World) (mean : ExcName → Option Value) (mg mb : Str → Option Value) (f : Addr) (d : Nat) (args : List Value) (news : List (Addr × Obj)) (Ok : List (Addr × Obj) → Value → Prop) : Prop :=
  ∀ (A : Around) (env : Env) (outer : List Env) (A₀ : Around) (base h₀ : Heap) (L : Addr) (m : Str → Option Value) (s : Shared) (R : Result → Shared → Prop),
    Room A d → A.frames = some (env :: outer) → env.frame = some L → env.scope.kind = .function →
    Below A₀ base outer h₀ → Fr h₀ L s.heap m → (hd.heap_1 w.params).In h₀ → News h₀ L s.heap news → Top topView Lz mean mg mb h₀ →
    (∀ r news' h' tk', Fr h₀ L h' m → News h₀ L h' news' → Kept s.heap news h' news' → Ok news' r → R (.ok (.ret r)) { s with heap := h', toks := tk' }) →
    codeAny (model PR w) A (.call (.ref f) ⟨args, []⟩) R s

structure Cx (w : World) (mean : ExcName → Option Value) (mg mb : Str → Option Value) (A : Around) (d : Nat) (env : Env) (outer : List Env) (A₀ : Around) (base h₀ : Heap) (L : Addr) : Prop where
  hr : Room A d
  hA : A.frames = some (env :: outer)
  hf : env.frame = some L
  hk : env.scope.kind = .function
  B : Below A₀ base outer h₀
  X : (hd.heap_1 w.params).In h₀
  T : Top topView Lz mean mg mb h₀

def Stop (P : Prop) : Prop := P
theorem stop_in {P : Prop} (h : Stop P) : P := h
theorem stop_out {P : Prop} (h : P) : Stop P := h

def Ends (g : Heap) (L : Addr) (ge : Array GenState) (dr : Drawn) (os : OsState) (Ok : List (Addr × Obj) → Value → Prop) (v : Value) (s' : Shared) : Prop :=
  ∃ h' m' news' tk', s' = ⟨h', ge, dr, tk', os⟩ ∧ Fr g L h' m' ∧ News g L h' news' ∧ Ok news' v

theorem hideG {G : Prop} (h : ∀ P : Prop, (G → P) → P) : G := h G id
def Veil (Q T : Flow → Shared → Prop) : Prop := ∀ f s', Q f s' → T f s'
theorem veil0 {Q : Flow → Shared → Prop} : Veil Q Q := fun _ _ x => x
theorem veil {Q T : Flow → Shared → Prop} (h : Veil Q T) {f : Flow} {s' : Shared} (x : Q f s') : T f s' := h _ _ x
section
variable {w : World} {mean : ExcName → Option Value} {mg mb : Str → Option Value}

theorem spec_intro {name qual : Str} {params : Arguments} {body : List Stmt} {scope : Scope} {dV kV doc pm cdv ct oc : Value} {an od : Option Addr} {osl : Array (Option Value)} {f : Addr} {args : List Value} {d : Nat} {news : List (Addr × Obj)} {Ok : List (Addr × Obj) → Value → Prop}
    (ho : (hd.heap_1 w.params).lookup f = some ⟨oc, od, .func (fnOf name qual params body scope dV kV doc pm an cdv ct), osl⟩) (hcd : codeIn (hd.heap_1 w.params) cdv qual = true)
    (hbind : bindArgs (fnOf name qual params body scope dV kV doc pm an cdv ct) ⟨args, []⟩ = pure ((params.args.map (·.arg)).zip args)) (hloc : (((params.args.map (·.arg)).zip args).all fun x => decide (scope.names.lookup x.1 = some .local)) = true)
    (hco : scope.isCoroutine = false) (hgen : scope.isGenerator = false) (hk : scope.kind = .function) (hcell : ∀ x ∈ scope.names, x.2 ≠ .cell)
    (h : ∀ (dp un : Nat) (gd : Option (List Code)) (fr : Option (List Env)) (envc : Env) (outer : List Env) (A₀ : Around) (base g : Heap) (L : Addr) (h₁ : Heap) (ge : Array GenState) (dr : Drawn) (os : OsState) (tk : Nat),
      let A9 : Around := Aro dp un gd fr; let E9 : Env := envX qual scope L f cdv [];
      Cx w mean mg mb A9 d E9 (envc :: outer) A₀ base g L → Room A9 d → fr = some (E9 :: envc :: outer) → Below A₀ base (envc :: outer) g → (hd.heap_1 w.params).In g → Top topView Lz mean mg mb g →
      Fr g L h₁ (fun y => ((params.args.map (·.arg)).zip args).reverse.lookup y) → News g L h₁ news →
      ∀ T : Flow → Shared → Prop, Veil (fun fl s' => Ends g L ge dr os Ok (match fl with | .ret v => v | _ => .none) s') T → wpAny (model PR w) A9 (execs body E9) T (fun _ _ => False) ⟨h₁, ge, dr, tk, os⟩) :
    Spec w mean mg mb f (d + 1) args news Ok := by
  intro A env outer A₀ base h₀ L m s R hr hA hf hke B F X N T ret
  obtain ⟨FG, BG, st, lv⟩ := groundX (R := R) B F N hA hf hke
  have X2 : (hd.heap_1 w.params).In (hideAll s.heap (news.map (·.1))) := X.keeps fun b o e => st b o e
  have T2 : Top topView Lz mean mg mb (hideAll s.heap (news.map (·.1))) := T.keeps fun b o e => st b o e
  refine codeAny_call_def (fd := fnOf name qual params body scope dV kV doc pm an cdv ct) (body := body) (binds := (params.args.map (·.arg)).zip args) (Nat.lt_of_le_of_lt (Nat.le_add_right _ _) hr.dep) ((X.keeps F.keep) _ _ ho) rfl (T.nolimit.keeps F.keep) (codeRec_of (X.keeps F.keep) hcd) rfl (BindsTo.of_eq hbind) hcell (locs hloc) (fun h₁ hns hk₁ => ?_) hco hgen hk
  have ea := aro_of (A := A.deeper (envOf qual scope s.heap.objs.size f cdv)) hr.hh
  have hr' : Room (A.deeper (envOf qual scope s.heap.objs.size f cdv)) d := hr.deeper
  show wpAny (model PR w) (A.deeper (envOf qual scope s.heap.objs.size f cdv)) (execs body (envOf qual scope s.heap.objs.size f cdv)) _ _ _
  rw [ea] at hr' ⊢
  refine wpAny_mono (h _ _ _ _ env outer A base (hideAll s.heap (news.map (·.1))) s.heap.objs.size h₁ s.gens s.drawn s.os _ ⟨hr', Around.frames_deeper hA, rfl, hk, BG, X2, T2⟩ hr' (Around.frames_deeper hA) BG X2 T2 ⟨hns, fun b o e => hk₁ b o (of_hideAll _ e), Nat.le_of_eq (hideAll_size _ _)⟩
    (fun p hp => ⟨hk₁ _ _ (N p hp).1, Nat.ne_of_lt (Heap.lt_size (N p hp).1), hideAll_none _ (List.mem_map_of_mem hp)⟩) _ veil0) (fun fl s' e => ?_) fun _ _ e => e.elim
  obtain ⟨h', m', news', tk', rfl, F₂, N₂, ok⟩ := e
  exact lv _ _ (leaveK_ F₂ N₂ fun F₃ N₃ => ret _ _ _ _ F₃ N₃ (Kept.of F₂ N₂) ok)

theorem use {f : Addr} {d : Nat} {args : List Value} {news : List (Addr × Obj)} {Ok : List (Addr × Obj) → Value → Prop} {A : Around} {env : Env} {outer : List Env} {A₀ : Around} {base h₀ : Heap} {L : Addr} {m : Str → Option Value} {s : Shared} {Q E : Value → Shared → Prop} {d' : Nat}
    (S : Spec w mean mg mb f d args news Ok) (C : Cx w mean mg mb A d' env outer A₀ base h₀ L) (F : Fr h₀ L s.heap m) (N : News h₀ L s.heap news) (hle : d ≤ d')
    (ret : ∀ r news' h' tk', Fr h₀ L h' m → News h₀ L h' news' → Ok news' r → Q r { s with heap := h', toks := tk' }) :
    Stop (wpAny (model PR w) A (PySem.call (.ref f) args) Q E s) :=
  wpAny_call (S A env outer A₀ base h₀ L m s _ (C.hr.le hle) C.hA C.hf C.hk C.B F C.X N C.T fun r n h t F N _ ok => ret r n h t F N ok)

/-- the frame: what the callee is not told of stays, apart from what it gives -/
theorem useF {f : Addr} {d : Nat} {args : List Value} {tm news : List (Addr × Obj)} {Ok : List (Addr × Obj) → Value → Prop} {A : Around} {env : Env} {outer : List Env} {A₀ : Around} {base h₀ : Heap} {L : Addr} {m : Str → Option Value} {s : Shared} {Q E : Value → Shared → Prop} {d' : Nat}
    (S : Spec w mean mg mb f d args news Ok) (C : Cx w mean mg mb A d' env outer A₀ base h₀ L) (F : Fr h₀ L s.heap m) (N : News h₀ L s.heap (tm ++ news)) (off : ∀ p ∈ tm, ∀ q ∈ news, q.1 ≠ p.1) (hle : d ≤ d')
    (ret : ∀ r news' h' tk', Fr h₀ L h' m → News h₀ L h' (tm ++ news') → (∀ p ∈ tm, ∀ q ∈ news', q.1 ≠ p.1) → Ok news' r → Q r { s with heap := h', toks := tk' }) :
    Stop (wpAny (model PR w) A (PySem.call (.ref f) args) Q E s) := by
  refine wpAny_call (S A env outer A₀ base h₀ L m s _ (C.hr.le hle) C.hA C.hf C.hk C.B F C.X (fun p hp => N p (List.mem_append_right _ hp)) C.T fun r n h t F' N' K ok => ?_)
  have ht : ∀ p ∈ tm, p.1 ∉ news.map (·.1) := fun p hp hc => by
    obtain ⟨q, hq, e⟩ := List.mem_map.mp hc
    exact off p hp q hq e
  refine ret r n h t F' (fun p hp => ?_) (fun p hp q hq e => ?_) ok
  · rcases List.mem_append.mp hp with hp | hp
    · have z := N p (List.mem_append_left _ hp)
      exact ⟨K.1 _ _ (ht p hp) z.1, z.2⟩
    · exact N' p hp
  · have z := N p (List.mem_append_left _ hp)
    have := K.2 q hq (e ▸ ht p hp)
    rw [e, z.1] at this
    cases this
end
end
section
theorem nsub {h₀ h : Heap} {L : Addr} {a b : List (Addr × Obj)} (N : News h₀ L h a) (hs : ∀ p ∈ b, p ∈ a) : News h₀ L h b := fun p hp => N p (hs p hp)

def Turn (h₀ : Heap) (L I : Addr) (oI : Obj) (s : Shared) (Jn : (Str → Option Value) → List (Addr × Obj) → Prop) (Q : Flow → Shared → Prop) (f : Flow) (s₃ : Shared) : Prop :=
  match f with
  | .ret v => Q (.ret v) s₃
  | .brk => Q .next s₃
  | _ => ∃ h' tk m' nx all, s₃ = { s with heap := h', toks := tk } ∧ Fr h₀ L h' m' ∧ News h₀ L h' all ∧ (I, oI) ∈ all ∧ (∀ p ∈ nx, p ∈ all) ∧ (∀ p ∈ nx, p.1 ≠ I) ∧ Jn m' nx

section
variable {prog : Program} {w : World} {A : Around} {E : Value → Shared → Prop} {s : Shared} {env : Env} {h₀ : Heap}

theorem for_core {target : Expr} {body : List Stmt} {Q : Flow → Shared → Prop} {I : Addr} {fp : List Addr} {n : Nat} {P : Nat → Value → Prop} {St : Nat → Heap → Prop} {m : Str → Option Value} {news : List (Addr × Obj)} {S : List (Addr × Obj) → Prop}
    (W : Walks prog w A I fp [I] n P St) (hIo : ∀ i h, St i h → ∃ o, h.get? I = some o)
    (hSt : ∀ i h h' o nx, St i h → h.get? I = some o → h'.get? I = some o → (∀ b o, h₀.get? b = some o → h'.get? b = some o) → News h₀ env.locals h' nx → S nx → St i h')
    (hgo : ∀ i (s' : Shared) v (Q' : Unit → Shared → Prop) (E' : Value → Shared → Prop), St i s'.heap → Q' () s' → wpAny (model prog w) A (letOwnedTupleGo target (.ref I) v) Q' E' s')
    (hst : St 0 s.heap) (F : Fr h₀ env.locals s.heap m) (N : News h₀ env.locals s.heap news) (hIL : I ≠ env.locals) (hI₀ : h₀.get? I = none) (off : ∀ p ∈ news, p.1 ≠ I)
    (J : Nat → (Str → Option Value) → List (Addr × Obj) → Prop) (hJS : ∀ i m nx, J i m nx → S nx) (h0 : J 0 m news)
    (turn : ∀ i v m₁ nx h tk oI, i < n → P i v → J i m₁ nx → (∀ p ∈ nx, p.1 ≠ I) → Fr h₀ env.locals h m₁ → News h₀ env.locals h ((I, oI) :: nx) →
      ∀ T : Flow → Shared → Prop, Veil (Turn h₀ env.locals I oI s (J (i + 1)) Q) T → wpAny (model prog w) A (assign target env v) (fun _ s₂ => wpAny (model prog w) A (execs body env) T E s₂) E { s with heap := h, toks := tk })
    (done : ∀ m₁ nx h tk, J n m₁ nx → Fr h₀ env.locals h m₁ → News h₀ env.locals h nx → Q .next { s with heap := h, toks := tk })
    (hE : PassesOwn (model prog w) A env E) :
    codeAny (model prog w) A (.forLoop target (.ref I) body [] env) (fun r s' => match r with | .ok f => Q f s' | .error e => cameBackBy (model prog w) A env E e s') s := by
  have up : ∀ {h h₁ : Heap} {m₁ : Str → Option Value} {nx : List (Addr × Obj)}, Fr h₀ env.locals h m₁ → News h₀ env.locals h nx → (∀ p ∈ nx, p.1 ≠ I) → (∀ b o, b ∉ [I] → h.get? b = some o → h₁.get? b = some o) → Fr h₀ env.locals h₁ m₁ ∧ News h₀ env.locals h₁ nx := by
    intro h h₁ m₁ nx F N off hk
    refine ⟨⟨F.ns.at' fun o e => hk _ o (by simpa using Ne.symm hIL) e, fun b o e => hk b o (fun q => ?_) (F.keep b o e), F.above⟩, fun p hp => ⟨hk _ _ (by simpa using off p hp) (N p hp).1, (N p hp).2⟩⟩
    rw [List.mem_singleton.mp q, hI₀] at e; cases e
  refine codeAny_forLoop_any
    (fun k s' => ∃ h' tk m' nx i, s' = { s with heap := h', toks := tk } ∧ St i h' ∧ Fr h₀ env.locals h' m' ∧ News h₀ env.locals h' nx ∧ (∀ p ∈ nx, p.1 ≠ I) ∧ J i m' nx ∧ i ≤ n ∧ k = n + 1 - i) ?_ (n + 1)
    ⟨s.heap, s.toks, m, news, 0, rfl, hst, F, N, off, h0, Nat.zero_le _, rfl⟩
  rintro k s' ⟨h', tk, m', nx, i, rfl, hst', F', N', off', hJ, hi, rfl⟩
  by_cases hlt : i < n
  · refine W.item i _ _ _ hlt hst' fun v h₁ tk₁ hP hst₁ hk₁ => ?_
    obtain ⟨F₁, N₁⟩ := up F' N' off' hk₁
    obtain ⟨oI, heI⟩ := hIo _ _ hst₁
    have N₂ : News h₀ env.locals h₁ ((I, oI) :: nx) := fun p hp => by
      rcases List.mem_cons.mp hp with rfl | hp
      · exact ⟨heI, hIL, hI₀⟩
      · exact N₁ p hp
    refine hgo (i + 1) _ v _ _ hst₁ ?_
    refine wpAny_passesOwn hE (wpAny_mono (turn i v m' nx h₁ tk₁ oI hlt hP hJ off' F₁ N₂ _ veil0) (fun _ s₂ h₂ => wpAny_passesOwn hE (wpAny_mono h₂ (fun f s₃ h₃ => ?_) fun _ _ e => e)) fun _ _ e => e)
    cases f with
    | ret v => exact h₃
    | brk => exact h₃
    | next =>
      obtain ⟨h₃', tk₃, m₂, nx₂, all, rfl, F₃, N₃, hIm, hsub, off₃, hJ₃⟩ := h₃
      have N₄ := nsub N₃ hsub
      exact ⟨n + 1 - (i + 1), by omega, h₃', tk₃, m₂, nx₂, i + 1, rfl, hSt _ _ _ _ _ hst₁ heI (N₃ _ hIm).1 F₃.keep N₄ (hJS _ _ _ hJ₃), F₃, N₄, off₃, hJ₃, hlt, rfl⟩
    | cont =>
      obtain ⟨h₃', tk₃, m₂, nx₂, all, rfl, F₃, N₃, hIm, hsub, off₃, hJ₃⟩ := h₃
      have N₄ := nsub N₃ hsub
      exact ⟨n + 1 - (i + 1), by omega, h₃', tk₃, m₂, nx₂, i + 1, rfl, hSt _ _ _ _ _ hst₁ heI (N₃ _ hIm).1 F₃.keep N₄ (hJS _ _ _ hJ₃), F₃, N₄, off₃, hJ₃, hlt, rfl⟩
  · have hin : i = n := by omega
    subst hin
    refine W.done _ _ _ hst' fun h₁ tk₁ hk₁ => wpAny_execs_nil ?_
    obtain ⟨F₁, N₁⟩ := up F' N' off' hk₁
    exact done m' nx h₁ tk₁ hJ F₁ N₁

/-- a for over a list that the ledger holds -/
theorem for_list {target : Expr} {body : List Stmt} {Q : Flow → Shared → Prop} {ax : Addr} {vs : List Value} {nn : Nat} {m : Str → Option Value}
    (hh : A.handled = none) (F : Fr h₀ env.locals s.heap m)
    (J : Nat → (Str → Option Value) → List (Addr × Obj) → Prop) (hJS : ∀ i m nx, J i m nx → (ax, ({ cls := .type "list", data := .seq vs.toArray nn } : Obj)) ∈ nx) (h0 : ∃ nx, News h₀ env.locals s.heap nx ∧ J 0 m nx)
    (turn : ∀ i v m₁ nx h tk I oI, vs[i]? = some v → J i m₁ nx → (∀ p ∈ nx, p.1 ≠ I) → Fr h₀ env.locals h m₁ → News h₀ env.locals h ((I, oI) :: nx) →
      ∀ T : Flow → Shared → Prop, Veil (Turn h₀ env.locals I oI s (J (i + 1)) Q) T → wpAny (model prog w) A (assign target env v) (fun _ s₂ => wpAny (model prog w) A (execs body env) T E s₂) E { s with heap := h, toks := tk })
    (done : ∀ m₁ nx h tk, J vs.length m₁ nx → Fr h₀ env.locals h m₁ → News h₀ env.locals h nx → Q .next { s with heap := h, toks := tk })
    (hE : PassesOwn (model prog w) A env E) :
    wpAny (model prog w) A (pyIter (.ref ax)) (fun it s₂ => codeAny (model prog w) A (.forLoop target it body [] env) (fun r s' => match r with | .ok f => Q f s' | .error e => cameBackBy (model prog w) A env E e s') s₂) E s := by
  obtain ⟨news, N, h0⟩ := h0
  have hm := hJS _ _ _ h0
  have hl : s.heap.IsList ax vs.toArray := N.isList hm
  have hlt : ax < s.heap.objs.size := Heap.lt_size (N _ hm).1
  refine wpAny_pyIter_list hl ?_
  have W := Walks.list (prog := prog) (w := w) hh s.heap.objs.size ax (Nat.ne_of_lt hlt) vs.toArray
  have hsz : vs.toArray.size = vs.length := by simp
  rw [hsz] at W
  have keep : ∀ b o, s.heap.get? b = some o → (s.heap.push { cls := .type "list_iterator", data := .fields #[.ref ax, .int 0 0] }).get? b = some o := fun b o e => Heap.get?_push_of_some _ e
  refine for_core (S := fun nx => (ax, ({ cls := .type "list", data := .seq vs.toArray nn } : Obj)) ∈ nx) W (fun i h st => ?_) (fun i h h' o nx st e e' k N' S => ?_) (fun i s' v Q' E' st q => letGo_listiter st.1 q) ?_ (F.keeps keep) (N.grown keep) (Nat.ne_of_gt F.ns.lt) (next_is_new F) (fun p hp => Nat.ne_of_lt (Heap.lt_size (N p hp).1)) J hJS h0 (fun i v m₁ nx h tk oI hi hP hJ off F' N' => ?_) (fun m₁ nx h tk hJ F' N' => done m₁ nx h tk hJ F' N') hE
  · obtain ⟨o, e, _⟩ := st.1; exact ⟨o, e⟩
  · exact ⟨by obtain ⟨o', q, r⟩ := st.1; rw [e] at q; cases q; exact ⟨o, e', r⟩, N'.isList S⟩
  · exact ⟨⟨_, Heap.get?_push_size _ rfl, rfl, rfl⟩, hl.push _⟩
  · exact turn i v m₁ nx h tk _ oI (by simpa using hP) hJ off F' N'

/-- a for over a tuple that the ledger holds -/
theorem for_tup {target : Expr} {body : List Stmt} {Q : Flow → Shared → Prop} {ax : Addr} {vs : List Value} {nn : Nat} {m : Str → Option Value}
    (hh : A.handled = none) (F : Fr h₀ env.locals s.heap m)
    (J : Nat → (Str → Option Value) → List (Addr × Obj) → Prop) (hJS : ∀ i m nx, J i m nx → (ax, ({ cls := .type "tuple", data := .seq vs.toArray nn } : Obj)) ∈ nx) (h0 : ∃ nx, News h₀ env.locals s.heap nx ∧ J 0 m nx)
    (turn : ∀ i v m₁ nx h tk I oI, vs[i]? = some v → J i m₁ nx → (∀ p ∈ nx, p.1 ≠ I) → Fr h₀ env.locals h m₁ → News h₀ env.locals h ((I, oI) :: nx) →
      ∀ T : Flow → Shared → Prop, Veil (Turn h₀ env.locals I oI s (J (i + 1)) Q) T → wpAny (model prog w) A (assign target env v) (fun _ s₂ => wpAny (model prog w) A (execs body env) T E s₂) E { s with heap := h, toks := tk })
    (done : ∀ m₁ nx h tk, J vs.length m₁ nx → Fr h₀ env.locals h m₁ → News h₀ env.locals h nx → Q .next { s with heap := h, toks := tk })
    (hE : PassesOwn (model prog w) A env E) :
    wpAny (model prog w) A (pyIter (.ref ax)) (fun it s₂ => codeAny (model prog w) A (.forLoop target it body [] env) (fun r s' => match r with | .ok f => Q f s' | .error e => cameBackBy (model prog w) A env E e s') s₂) E s := by
  obtain ⟨news, N, h0⟩ := h0
  have hm := hJS _ _ _ h0
  have hl : s.heap.IsTuple ax vs.toArray := ⟨_, (N _ hm).1, rfl, _, rfl⟩
  have hlt : ax < s.heap.objs.size := Heap.lt_size (N _ hm).1
  refine wpAny_pyIter_tuple hl ?_
  have W := Walks.tuple (prog := prog) (w := w) hh s.heap.objs.size ax (Nat.ne_of_lt hlt) vs.toArray
  have hsz : vs.toArray.size = vs.length := by simp
  rw [hsz] at W
  have keep : ∀ b o, s.heap.get? b = some o → (s.heap.push { cls := .type "tuple_iterator", data := .fields #[.ref ax, .int 0 0] }).get? b = some o := fun b o e => Heap.get?_push_of_some _ e
  refine for_core (S := fun nx => (ax, ({ cls := .type "tuple", data := .seq vs.toArray nn } : Obj)) ∈ nx) W (fun i h st => ?_) (fun i h h' o nx st e e' k N' S => ?_) (fun i s' v Q' E' st q => letGo_tupleiter st.1 q) ?_ (F.keeps keep) (N.grown keep) (Nat.ne_of_gt F.ns.lt) (next_is_new F) (fun p hp => Nat.ne_of_lt (Heap.lt_size (N p hp).1)) J hJS h0 (fun i v m₁ nx h tk oI hi hP hJ off F' N' => ?_) (fun m₁ nx h tk hJ F' N' => done m₁ nx h tk hJ F' N') hE
  · obtain ⟨o, e, _⟩ := st.1; exact ⟨o, e⟩
  · exact ⟨by obtain ⟨o', q, r⟩ := st.1; rw [e] at q; cases q; exact ⟨o, e', r⟩, ⟨_, (N' _ S).1, rfl, _, rfl⟩⟩
  · exact ⟨⟨_, Heap.get?_push_size _ rfl, rfl, rfl⟩, ⟨_, keep _ _ (N _ hm).1, rfl, _, rfl⟩⟩
  · exact turn i v m₁ nx h tk _ oI (by simpa using hP) hJ off F' N'

def WTurn (h₀ : Heap) (L : Addr) (s : Shared) (k : Nat) (J : Nat → (Str → Option Value) → List (Addr × Obj) → Prop) (Q : Flow → Shared → Prop) (f : Flow) (s₃ : Shared) : Prop :=
  match f with
  | .ret v => Q (.ret v) s₃
  | .brk => Q .next s₃
  | _ => ∃ k' m' nx h' tk, k' < k ∧ s₃ = { s with heap := h', toks := tk } ∧ Fr h₀ L h' m' ∧ News h₀ L h' nx ∧ J k' m' nx

theorem while_rule {test : Expr} {body : List Stmt} {pos : Pos} {Q : Flow → Shared → Prop} {m : Str → Option Value} (k : Nat)
    (J : Nat → (Str → Option Value) → List (Addr × Obj) → Prop) (F : Fr h₀ env.locals s.heap m) (h0 : ∃ nx, News h₀ env.locals s.heap nx ∧ J k m nx)
    (turn : ∀ k m₁ nx h tk, J k m₁ nx → Fr h₀ env.locals h m₁ → News h₀ env.locals h nx →
      ∀ T : Flow → Shared → Prop, Veil (WTurn h₀ env.locals s k J Q) T → wpAny (model prog w) A (isTrue test env (eval test env)) (fun b s₂ => if b = true then wpAny (model prog w) A (execs body env) T E s₂ else Q .next s₂) E { s with heap := h, toks := tk })
    (hE : PassesOwn (model prog w) A env E) :
    wpAny (model prog w) A (exec (.While test body [] pos) env) Q E s := by
  obtain ⟨news, N, h0⟩ := h0
  refine wpAny_While (codeAny_whileLoop (fun k s' => ∃ m₁ nx h tk, s' = { s with heap := h, toks := tk } ∧ J k m₁ nx ∧ Fr h₀ env.locals h m₁ ∧ News h₀ env.locals h nx) ?_ k ⟨m, news, s.heap, s.toks, rfl, h0, F, N⟩)
  rintro k s' ⟨m₁, nx, h, tk, rfl, hJ, F', N'⟩
  refine wpAny_passesOwn hE (wpAny_mono (turn k m₁ nx h tk hJ F' N' _ veil0) (fun b s₂ h₂ => ?_) fun _ _ e => e)
  cases b with
  | false => exact wpAny_execs_nil h₂
  | true =>
    refine wpAny_passesOwn hE (wpAny_mono h₂ (fun f s₃ h₃ => ?_) fun _ _ e => e)
    cases f with
    | ret v => exact h₃
    | brk => exact h₃
    | next => obtain ⟨k', m', nx', h', tk', hk, rfl, F₃, N₃, hJ₃⟩ := h₃; exact ⟨k', hk, m', nx', h', tk', rfl, hJ₃, F₃, N₃⟩
    | cont => obtain ⟨k', m', nx', h', tk', hk, rfl, F₃, N₃, hJ₃⟩ := h₃; exact ⟨k', hk, m', nx', h', tk', rfl, hJ₃, F₃, N₃⟩
end

theorem turn_ret {h₀ : Heap} {L I : Addr} {oI : Obj} {s s₃ : Shared} {Jn : (Str → Option Value) → List (Addr × Obj) → Prop} {Q : Flow → Shared → Prop} {v : Value} (x : Q (.ret v) s₃) : Turn h₀ L I oI s Jn Q (.ret v) s₃ := x
theorem turn_brk {h₀ : Heap} {L I : Addr} {oI : Obj} {s s₃ : Shared} {Jn : (Str → Option Value) → List (Addr × Obj) → Prop} {Q : Flow → Shared → Prop} (x : Q .next s₃) : Turn h₀ L I oI s Jn Q .brk s₃ := x
theorem wturn_ret {h₀ : Heap} {L : Addr} {s s₃ : Shared} {k : Nat} {J : Nat → (Str → Option Value) → List (Addr × Obj) → Prop} {Q : Flow → Shared → Prop} {v : Value} (x : Q (.ret v) s₃) : WTurn h₀ L s k J Q (.ret v) s₃ := x
theorem wturn_brk {h₀ : Heap} {L : Addr} {s s₃ : Shared} {k : Nat} {J : Nat → (Str → Option Value) → List (Addr × Obj) → Prop} {Q : Flow → Shared → Prop} (x : Q .next s₃) : WTurn h₀ L s k J Q .brk s₃ := x
theorem ren {h₀ h : Heap} {L : Addr} {m : Str → Option Value} {x : Str} {v : Value} (F : Fr h₀ L h m) (e : m x = some v) : Fr h₀ L h (fun y => if y = x then some v else m y) := by
  have : (fun y => if y = x then some v else m y) = m := funext fun y => by by_cases q : y = x <;> simp [q, e]
  rw [this]; exact F
def AllB (m : Str → Option Value) : List (Str × Value) → Prop
  | [] => True
  | p :: r => m p.1 = some p.2 ∧ AllB m r
def updL (m : Str → Option Value) : List (Str × Value) → Str → Option Value
  | [] => m
  | p :: r => fun y => if y = p.1 then some p.2 else updL m r y
theorem updL_eq {m : Str → Option Value} : ∀ {l : List (Str × Value)}, AllB m l → updL m l = m
  | [], _ => rfl
  | p :: r, h => by
    funext y
    show (if y = p.1 then some p.2 else updL m r y) = m y
    rw [updL_eq h.2]
    by_cases q : y = p.1
    · rw [if_pos q, q, h.1]
    · rw [if_neg q]
theorem renL {h₀ h : Heap} {L : Addr} {m : Str → Option Value} (l : List (Str × Value)) (F : Fr h₀ L h m) (e : AllB m l) : Fr h₀ L h (updL m l) := by rw [updL_eq e]; exact F
end
section
inductive Wish where
  | mask (v m : Nat)
  | range (lo hi : Nat)
def Wish.dat : Wish → Dat
  | .mask v m => .tuple [.str (Str.ofString "mask"), .int v, .int m]
  | .range lo hi => .tuple [.str (Str.ofString "range"), .int lo, .int hi]
def Wish.ok (b : Nat) : Wish → Prop
  | .mask v m => m < 2 ^ b ∧ v &&& m = v
  | .range lo hi => lo ≤ hi ∧ hi < 2 ^ b
def Wish.has (n : Nat) : Wish → Bool
  | .mask v m => decide (n &&& m = v)
  | .range lo hi => decide (lo ≤ n) && decide (n ≤ hi)
def Wish.holds (w : Wish) (k : Int) : Bool := if k = -1 then false else w.has k.toNat

theorem bAnd (a b : Nat) : Builtin.bitAnd (a : Int) (b : Int) = ((a &&& b : Nat) : Int) := by
  have := bitAnd_pp (x := (a : Int)) (y := (b : Int)) (by omega) (by omega)
  simpa using this
theorem xor_add : ∀ a b : Nat, (a ^^^ b) + 2 * (a &&& b) = a + b := by
  intro a
  induction a using Nat.strongRecOn with
  | ind a ih =>
    intro b
    by_cases h0 : a = 0
    · subst h0; simp
    · have h := ih (a / 2) (by omega) (b / 2)
      have h1 : (a ^^^ b) / 2 = a / 2 ^^^ b / 2 := Nat.xor_div_two
      have h2 : (a &&& b) / 2 = a / 2 &&& b / 2 := Nat.and_div_two
      have h3 : (a ^^^ b) % 2 = (a + b) % 2 := by
        rcases Nat.mod_two_eq_zero_or_one (a ^^^ b) with q | q
        · have : ¬ (a ^^^ b) % 2 = 1 := by omega
          rw [Nat.xor_mod_two_eq_one] at this
          rw [q]
          by_cases p1 : a % 2 = 1 <;> by_cases p2 : b % 2 = 1 <;> simp [p1, p2] at this <;> omega
        · have this := q
          rw [Nat.xor_mod_two_eq_one] at this
          rw [q]
          by_cases p1 : a % 2 = 1 <;> by_cases p2 : b % 2 = 1 <;> simp [p1, p2] at this <;> omega
      have h4 : (a &&& b) % 2 = (a % 2) * (b % 2) := by
        rcases Nat.mod_two_eq_zero_or_one (a &&& b) with q | q
        · have : ¬ (a &&& b) % 2 = 1 := by omega
          rw [Nat.and_mod_two_eq_one] at this
          rw [q]
          rcases Nat.mod_two_eq_zero_or_one a with p1 | p1 <;> rcases Nat.mod_two_eq_zero_or_one b with p2 | p2 <;> simp [p1, p2] at this ⊢
        · have this := q
          rw [Nat.and_mod_two_eq_one] at this
          rw [q, this.1, this.2]
      rw [← h1, ← h2] at h
      rcases Nat.mod_two_eq_zero_or_one a with p1 | p1 <;> rcases Nat.mod_two_eq_zero_or_one b with p2 | p2 <;> rw [p1, p2] at h4 <;> omega
theorem bXor (a b : Nat) : Builtin.bitXor (a : Int) (b : Int) = ((a ^^^ b : Nat) : Int) := by
  have h := xor_add a b
  rw [bitXor_and, bAnd]
  omega

abbrev lstO (vs : List Value) (n : Nat) : Obj := { cls := .type "list", data := .seq vs.toArray n }
abbrev tupO (vs : List Value) (n : Nat) : Obj := { cls := .type "tuple", data := .seq vs.toArray n }
section
variable {news : List (Addr × Obj)} {v : Value}
theorem dat2 {a b : Int} (h : DatIn news v (.tuple [.int a, .int b])) : ∃ x n t u, v = .ref x ∧ (x, tupO [.int a t, .int b u] n) ∈ news := by
  cases h with | tuple m r => cases r with | cons x1 r => cases r with | cons x2 r => cases r; cases x1; cases x2; exact ⟨_, _, _, _, rfl, m⟩
theorem datS2 {x : Str} {a b : Int} (h : DatIn news v (.tuple [.str x, .int a, .int b])) : ∃ y n t u z, v = .ref y ∧ (y, tupO [.str x t, .int a u, .int b z] n) ∈ news := by
  cases h with | tuple m r => cases r with | cons x1 r => cases r with | cons x2 r => cases r with | cons x3 r => cases r; cases x1; cases x2; cases x3; exact ⟨_, _, _, _, _, rfl, m⟩
end
end
section
section
variable {prog : Program} {w : World} {A : Around} {E : Value → Shared → Prop} {s : Shared} {h₀ : Heap} {L : Addr} {m : Str → Option Value} {news : List (Addr × Obj)}

theorem slice1 {value slice : Expr} {t : Addr} {vs : List Value} {n : Nat} {u : Tok} {Q : Value → Shared → Prop}
    (F : Fr h₀ L s.heap m) (N : News h₀ L s.heap news) (hm : (t, tupO vs n) ∈ news) (h1 : 1 ≤ vs.length) (hz : vs.length ≤ sizeLine)
    (h : ∀ D h', Fr h₀ L h' m → News h₀ L h' ((D, tupO (vs.drop 1) 0) :: news) → (∀ p ∈ news, p.1 < D) → Q (.ref D) { s with heap := h' })
    (hs : subscripted slice false (.ref t) (.ref s.heap.objs.size) = operate [.ref s.heap.objs.size, .ref t] (getItem (.ref t) (.ref s.heap.objs.size)))
    (hg : ∀ r, letTemporaryGo value (.ref t) r = pure ()) :
    wpAny (model prog w) A (subscriptTail value slice (.ref t) (.ref s.heap.objs.size)) Q E { s with heap := s.heap.push { cls := .type "slice", data := .fields #[.int 1 u, .none, .none] } } := by
  have ht : IsTup s.heap t vs.toArray := N.isTup hm
  refine slice_tuple_from (a := 1) F N ht (Nat.le_refl _) (by simpa using h1) (fun h' F' N' => ?_) hs hg (by simpa using hz)
  have e : (vs.toArray.toList.drop 1).toArray = (vs.drop 1).toArray := by simp
  rw [e] at N'
  exact h _ h' F' N' fun p hp => Nat.lt_succ_of_lt (Heap.lt_size (N p hp).1)

theorem item_tup_at {value slice : Expr} {t : Addr} {vs : List Value} {n : Nat} {k : Int} {j : Nat} {u : Tok} {x : Value} {Q : Value → Shared → Prop} (N : News h₀ L s.heap news) (hm : (t, tupO vs n) ∈ news)
    (hk : k = (j : Int)) (hx : vs[j]? = some x) (hz : vs.length ≤ sizeLine) (h : Q x s)
    (hs : subscripted slice false (.ref t) (.int k u) = operate [.ref t, .int k u] (getItem (.ref t) (.int k u))) :
    wpAny (model prog w) A (subscriptTail value slice (.ref t) (.int k u)) Q E s := by
  have hj : j < vs.length := (List.getElem?_eq_some_iff.mp hx).1
  rw [sizeLine_eq] at hz
  refine item_tupleT (j := j) (N.isTup hm) (by omega) (by omega) ?_ hx h hs
  subst hk
  unfold seqIndex?
  simp
  omega

theorem item_list_at {value slice : Expr} {t : Addr} {vs : List Value} {n : Nat} {k : Int} {j : Nat} {u : Tok} {x : Value} {Q : Value → Shared → Prop} (N : News h₀ L s.heap news) (hm : (t, PySem.W.listOf vs.toArray n) ∈ news)
    (hk : k = (j : Int)) (hx : vs[j]? = some x) (hz : vs.length ≤ sizeLine) (h : Q x s)
    (hs : subscripted slice false (.ref t) (.int k u) = operate [.ref t, .int k u] (getItem (.ref t) (.int k u))) :
    wpAny (model prog w) A (subscriptTail value slice (.ref t) (.int k u)) Q E s := by
  have hj : j < vs.length := (List.getElem?_eq_some_iff.mp hx).1
  rw [sizeLine_eq] at hz
  have hl : s.heap.IsList t vs.toArray := N.isList hm
  refine tail_any hl.typeIs slot_list_getitem.lookup (wpAny_getItem_list (x := x) hl (by omega) (by omega) (by subst hk; simpa using hx) h) hs
theorem grow_end {D l : Addr} {o o' : Obj} {tl rest : List (Addr × Obj)} {h : Heap} (N : News h₀ L h ((D, o) :: (l, o') :: (tl ++ rest))) : News h₀ L h ((l, o') :: (((D, o) :: tl) ++ rest)) := nsub N fun p hp => by
  rcases List.mem_cons.mp hp with rfl | hp
  · exact .tail _ (.head _)
  · rcases List.mem_cons.mp hp with rfl | hp
    · exact .head _
    · exact .tail _ (.tail _ hp)
theorem grow_off {D l : Addr} {o : Obj} {tl rest : List (Addr × Obj)} (l9 : l < D ∧ AllLt D (tl ++ rest)) (hoff : ∀ p ∈ tl ++ rest, p.1 ≠ l) : ∀ p ∈ ((D, o) :: tl) ++ rest, p.1 ≠ l := fun p hp => by
  rcases List.mem_cons.mp hp with rfl | hp
  · exact Nat.ne_of_gt l9.1
  · exact hoff p hp
theorem append_L {D : Addr} {vs : List Value} {n : Nat} {x : Value} {news' : List (Addr × Obj)} {Q : Value → Shared → Prop} (F : Fr h₀ L s.heap m) (N : News h₀ L s.heap news) (U : Upd D (lstO vs n) (lstO (vs ++ [x]) (n + 1)) news news') (hz : vs.length ≤ sizeLine)
    (h : ∀ h', Fr h₀ L h' m → News h₀ L h' news' → Q .none { s with heap := h' }) : wpAny (model prog w) A (call (.builtin "list.append") [.ref D, x]) Q E s := by
  refine append_K (its := vs.toArray) (n := n) F N ?_ h (by simpa using hz)
  have e : PySem.W.listOf (vs.toArray.push x) (n + 1) = lstO (vs ++ [x]) (n + 1) := by simp [lstO]
  rw [e]
  exact U
end
end
section
theorem mulok_fmod (x : Int) : IntMulOk (x.fmod 2147483647) (x.fmod 2147483647) :=
  IntMulOk.of_right (intBits_le_64 (by have := Int.fmod_nonneg_of_pos x (show (0:Int) < 2147483647 by decide); omega) (by have := Int.fmod_lt_of_pos x (show (0:Int) < 2147483647 by decide); omega))
section
variable {news : List (Addr × Obj)} {v : Value} {h₀ h' : Heap} {L I : Addr} {m' : Str → Option Value} {all : List (Addr × Obj)} {oI : Obj} {s : Shared} {tk : Nat} {Jn : (Str → Option Value) → List (Addr × Obj) → Prop} {Q : Flow → Shared → Prop}
theorem dat_at {vs : List Value} : ∀ {ds : List Dat}, DatAll news vs ds → ∀ {i : Nat}, vs[i]? = some v → ∃ d, ds[i]? = some d ∧ DatIn news v d := by
  induction vs with
  | nil => intro ds _ i e; simp at e
  | cons u vs ih =>
    intro ds h i e
    cases h with
    | cons h r =>
      cases i with
      | zero => simp at e; subst e; exact ⟨_, rfl, h⟩
      | succ i => simpa using ih r (by simpa using e)
theorem dat_map {α : Type} {f : α → Dat} {vs : List Value} {xs : List α} (h : DatAll news vs (xs.map f)) {i : Nat} (e : vs[i]? = some v) : ∃ x, xs[i]? = some x ∧ DatIn news v (f x) := by
  obtain ⟨d, h1, h2⟩ := dat_at h e
  rw [List.getElem?_map] at h1
  obtain ⟨x, h3, rfl⟩ := Option.map_eq_some_iff.mp h1
  exact ⟨x, h3, h2⟩
theorem dat_list {ds : List Dat} (h : DatIn news v (.list ds)) : ∃ l n vs, v = .ref l ∧ (l, lstO vs n) ∈ news ∧ DatAll news vs ds := by
  cases h with | list m r => exact ⟨_, _, _, rfl, m, r⟩
theorem dat_tup {ds : List Dat} (h : DatIn news v (.tuple ds)) : ∃ l n vs, v = .ref l ∧ (l, tupO vs n) ∈ news ∧ DatAll news vs ds := by
  cases h with | tuple m r => exact ⟨_, _, _, rfl, m, r⟩
theorem turn_next (nx : List (Addr × Obj)) (F : Fr h₀ L h' m') (N : News h₀ L h' all) (hI : (I, oI) ∈ all) (hs : ∀ p ∈ nx, p ∈ all) (off : ∀ p ∈ nx, p.1 ≠ I) (hJ : Jn m' nx) : Turn h₀ L I oI s Jn Q .next { s with heap := h', toks := tk } :=
  ⟨h', tk, m', nx, all, rfl, F, N, hI, hs, off, hJ⟩
end
section
variable {prog : Program} {w : World} {A : Around} {E : Value → Shared → Prop} {s : Shared} {h₀ : Heap} {L : Addr} {m : Str → Option Value} {news : List (Addr × Obj)}
theorem len_lst {th : Addr} {vs : List Value} {nn : Nat} {Q : Value → Shared → Prop} (N : News h₀ L s.heap news) (hm : (th, lstO vs nn) ∈ news) (hz : vs.length ≤ sizeLine) (h : Q (.int vs.length (s.toks + 1)) { s with toks := s.toks + 1 + 1 }) :
    wpAny (model prog w) A (call (.builtin "len") [.ref th]) Q E s := by
  have hl : s.heap.IsList th vs.toArray := N.isList hm
  rw [sizeLine_eq] at hz
  have e : (vs.toArray).size = vs.length := by simp
  exact call_len_list hl (by rw [e]; omega) (by rw [e]; exact h)
end
end
section
inductive WAll (news : List (Addr × Obj)) : List (Int × Value) → List (Nat × Wish) → Prop
  | nil : WAll news [] []
  | cons {p : Nat} {x : Wish} {v : Value} {r : List (Int × Value)} {R : List (Nat × Wish)} : DatIn news v x.dat → WAll news r R → WAll news (((p : Int), v) :: r) ((p, x) :: R)
theorem WAll.mono {a b : List (Addr × Obj)} {kvs : List (Int × Value)} {D : List (Nat × Wish)} (h : WAll a kvs D) (hs : ∀ p ∈ a, p ∈ b) : WAll b kvs D := by
  induction h with
  | nil => exact .nil
  | cons d r ih => exact .cons (d.mono hs) ih
theorem WAll.length {a : List (Addr × Obj)} {kvs : List (Int × Value)} {D : List (Nat × Wish)} (h : WAll a kvs D) : kvs.length = D.length := by
  induction h with
  | nil => rfl
  | cons d r ih => simp [ih]
theorem WAll.keys {a : List (Addr × Obj)} {kvs : List (Int × Value)} {D : List (Nat × Wish)} (h : WAll a kvs D) : kvs.map (·.1) = D.map fun p => (p.1 : Int) := by
  induction h with
  | nil => rfl
  | cons d r ih => simp [ih]
theorem WAll.find {a : List (Addr × Obj)} {kvs : List (Int × Value)} {D : List (Nat × Wish)} (h : WAll a kvs D) {p : Nat} {x : Wish} (hn : (D.map (·.1)).Nodup) (hm : (p, x) ∈ D) : ∃ v, valueAt kvs (p : Int) = some v ∧ DatIn a v x.dat := by
  induction h with
  | nil => cases hm
  | @cons q y v r R d t ih =>
    rw [List.map_cons, List.nodup_cons] at hn
    rcases List.mem_cons.mp hm with e | hm
    · cases e
      exact ⟨v, by unfold valueAt; rw [List.find?_cons_of_pos (by simp)]; rfl, d⟩
    · have hne : q ≠ p := fun e => hn.1 (e ▸ List.mem_map_of_mem (f := (·.1)) hm)
      obtain ⟨v', h1, h2⟩ := ih hn.2 hm
      refine ⟨v', ?_, h2⟩
      unfold valueAt at h1 ⊢
      rw [List.find?_cons_of_neg (by simpa using by omega)]
      exact h1
theorem WAll.put {a : List (Addr × Obj)} {kvs : List (Int × Value)} {D : List (Nat × Wish)} (h : WAll a kvs D) {p : Nat} {x : Wish} {v : Value} (hn : p ∉ D.map (·.1)) (hd : DatIn a v x.dat) : WAll a (stored kvs (p : Int) v) (D ++ [(p, x)]) := by
  have e : stored kvs (p : Int) v = kvs ++ [((p : Int), v)] := by
    unfold stored
    rw [if_neg]
    intro hc
    rw [List.any_eq_true] at hc
    obtain ⟨kv, hm, hk⟩ := hc
    have := List.mem_map_of_mem (f := (·.1)) hm
    rw [h.keys] at this
    obtain ⟨q, hq, e⟩ := List.mem_map.mp this
    have e2 := of_decide_eq_true hk
    have : q.1 = p := by have e3 := e.trans e2; exact_mod_cast e3
    exact hn (this ▸ List.mem_map_of_mem (f := (·.1)) hq)
  rw [e]
  clear e hn
  induction h with
  | nil => exact .cons hd .nil
  | cons d r ih => exact .cons d ih

structure IsW (w : World) (news : List (Addr × Obj)) (d : Addr) (o : Obj) (D : List (Nat × Wish)) : Prop where
  ex : ∃ kvs, o.IsDictOf (PySem.intKind PR w) kvs ∧ WAll news kvs D
  lo : (d == sysModules) = false
def HasW (w : World) (news : List (Addr × Obj)) (d : Addr) (D : List (Nat × Wish)) : Prop := ∃ o, (d, o) ∈ news ∧ IsW w news d o D
theorem IsW.mono {w : World} {a b : List (Addr × Obj)} {d : Addr} {o : Obj} {D : List (Nat × Wish)} (h : IsW w a d o D) (hs : ∀ p ∈ a, p ∈ b) : IsW w b d o D :=
  ⟨let ⟨k, h1, h2⟩ := h.ex; ⟨k, h1, h2.mono hs⟩, h.lo⟩
theorem HasW.mono {w : World} {a b : List (Addr × Obj)} {d : Addr} {D : List (Nat × Wish)} (h : HasW w a d D) (hs : ∀ p ∈ a, p ∈ b) : HasW w b d D :=
  let ⟨o, h1, h2⟩ := h; ⟨o, hs _ h1, h2.mono hs⟩

def srt (D : List (Nat × Wish)) : List (Nat × Wish) := D.mergeSort (fun a b => decide (a.1 ≤ b.1))
theorem srt_perm (D : List (Nat × Wish)) : (srt D).Perm D := List.mergeSort_perm _ _
theorem srt_asc (D : List (Nat × Wish)) : (srt D).Pairwise (fun a b => a.1 ≤ b.1) := by
  have := List.pairwise_mergeSort (le := fun (a b : Nat × Wish) => decide (a.1 ≤ b.1)) (fun a b c h1 h2 => by simp at *; omega) (fun a b => by simp; omega) D
  exact this.imp fun h => by simpa using h

section
variable {w : World} {A : Around} {E : Value → Shared → Prop} {s : Shared} {h₀ : Heap} {L : Addr} {m : Str → Option Value} {news : List (Addr × Obj)}

theorem sort_any {D : Addr} {vs : List Value} {ns : List Int} {Q : Value → Shared → Prop} (F : Fr h₀ L s.heap m) (N : News h₀ L s.heap ((D, lstO vs 0) :: news)) (l1 : ∀ q ∈ news, q.1 < D)
    (hi : IntsAre vs ns) (h64 : vs.length < 64)
    (h : ∀ vs' ns' n' h', IntsAre vs' ns' → ns'.Perm ns → ns'.Pairwise (· ≤ ·) → Fr h₀ L h' m → News h₀ L h' ((D, lstO vs' n') :: news) → Q .none { s with heap := h' }) : wpAny (model PR w) A (call (.builtin "list.sort") [.ref D]) Q E s := by
  have z := N _ (.head _)
  have ho : s.heap.get? D = some (seqObj "list" vs.toArray 0) := z.1
  refine wpAny_call_entry PyProof.Rows.slot_list_sort ⟨_, z.1, rfl⟩ PyProof.Rows.entry_list_sort (list_sort_tree (n := 0) (vs := vs) ho hi h64 fun out ns' hI hp hP => ⟨.none, rfl, ?_⟩) (PyProof.Rows.args_list_sort _)
  have b : ∀ p ∈ news, p.1 ≠ D := fun p hp => Nat.ne_of_lt (l1 p hp)
  have F1 : Fr h₀ L (s.heap.update D (Obj.mapSeq fun _ => (#[] : Array Value))) m := F.change (Heap.SameBut.update ..) z.2.1 z.2.2
  have N1 := ki_turn (pre := []) (its := vs.toArray) (n := 0) (fun _ => (#[] : Array Value)) (its' := #[]) (n' := if (0 == vs.toArray.size) then 0 else 1) N (fun _ h => nomatch h) b rfl rfl
  have N2 := News.grown N1 fun _ _ e => Heap.get?_push_of_some (seqObj "tuple" vs.toArray 0) e
  have N3 := News.grown N2 fun _ _ e => Heap.get?_push_of_some (seqObj "list" #[] 0) e
  obtain ⟨k, N4⟩ : ∃ k, News h₀ L ((((s.heap.update D (Obj.mapSeq fun _ => (#[] : Array Value))).push (seqObj "tuple" vs.toArray 0)).push (seqObj "list" #[] 0)).update D (Obj.mapSeq fun _ => out)) ((D, listOf out k) :: news) := ⟨_, ki_turn (pre := []) (fun _ => out) (its' := out) N3 (fun _ h => nomatch h) b rfl rfl⟩
  have F4 : Fr h₀ L ((((s.heap.update D (Obj.mapSeq fun _ => (#[] : Array Value))).push (seqObj "tuple" vs.toArray 0)).push (seqObj "list" #[] 0)).update D (Obj.mapSeq fun _ => out)) m :=
    ((F1.push (seqObj "tuple" vs.toArray 0)).push (seqObj "list" #[] 0)).change (Heap.SameBut.update ..) z.2.1 z.2.2
  have eo : lstO out.toList k = listOf out k := by simp [lstO]
  exact h out.toList ns' k _ hI hp hP F4 (eo ▸ N4)

theorem sorted_D {d : Addr} {D : List (Nat × Wish)} {Q : Value → Shared → Prop} (hh : A.handled = none) (F : Fr h₀ L s.heap m) (N : News h₀ L s.heap news) (W : HasW w news d D) (h64 : D.length < 64)
    (h : ∀ X vs n tk h', IntsAre vs ((srt D).map fun p => (p.1 : Int)) → Fr h₀ L h' m → News h₀ L h' ((X, lstO vs n) :: news) → (∀ q ∈ news, q.1 < X) → Q (.ref X) { s with heap := h', toks := tk }) :
    wpAny (model PR w) A (call (.builtin "sorted") [.ref d]) Q E s := by
  obtain ⟨o, hm, ⟨kvs, hd, hw⟩, lo⟩ := W
  have hdo : s.heap.DictOf (PySem.intKind PR w) d kvs := kda_dict N hm hd
  obtain ⟨o1, es, ep, r⟩ := hdo
  have hat : s.heap.DictAt (PySem.intKind PR w) d kvs ep := ⟨o1, es, r⟩
  refine kdu_sorted (kdl_dict (ep := ep) lo) hh F N hat (by rw [hw.length, sizeLine_eq]; omega) fun X h' tk vs F' N' l1 hl hv => ?_
  have hI : ∀ (kvs : List (Int × Value)) (vs : List Value), vs.length = kvs.length → (∀ (j : Nat) (v : Value), vs[j]? = some v → ∃ k x, kvs[j]? = some (k, x) ∧ (PySem.intKind PR w).is k v = true) → IntsAre vs (kvs.map (·.1)) := by
    intro kvs
    induction kvs with
    | nil => intro vs e _; cases vs with | nil => exact .nil | cons _ _ => cases e
    | cons kv kvs ih =>
      intro vs e hv
      cases vs with
      | nil => cases e
      | cons u vs =>
        obtain ⟨k, x, e1, e2⟩ := hv 0 u rfl
        obtain ⟨t, rfl⟩ := Value.isInt_shape e2
        cases e1
        exact .cons _ t (ih vs (by simpa using e) fun j v e => hv (j + 1) v (by simpa using e))
  have hi := hI kvs vs hl hv
  rw [hw.keys] at hi
  refine sort_any F' N' l1 hi (by rw [hl, hw.length]; exact h64) fun vs' ns' n' h2 hi' hp ha F2 N2 => ?_
  have e : ns' = (srt D).map fun p => (p.1 : Int) := lks_uniq (hp.trans ((srt_perm D).map _).symm) ha (by
    rw [List.pairwise_map]
    exact (srt_asc D).imp fun h => by exact_mod_cast h)
  subst e
  exact h X vs' n' tk h2 hi' F2 N2 l1

theorem item_D {value slice : PySem.Expr} {d : Addr} {D : List (Nat × Wish)} {p : Nat} {x : Wish} {k : Int} {t : Tok} {Q : Value → Shared → Prop} (N : News h₀ L s.heap news) {n0 : List (Addr × Obj)} (W : HasW w n0 d D) (hsub : ∀ p ∈ n0, p ∈ news) (hn : (D.map (·.1)).Nodup) (hk : k = (p : Int)) (hm : (p, x) ∈ D)
    (h : ∀ v, DatIn n0 v x.dat → Q v { s with toks := s.toks + 1 })
    (hs : subscripted slice false (.ref d) (.int k t) = operate [.ref d, (.int k t)] (getItem (.ref d) (.int k t))) (hg : ∀ r, letTemporaryGo value (.ref d) r = pure ()) :
    wpAny (model PR w) A (subscriptTail value slice (.ref d) (.int k t)) Q E s := by
  obtain ⟨o, hm', ⟨kvs, hd, hw⟩, lo⟩ := W
  obtain ⟨v, hv, hD⟩ := hw.find hn hm
  subst hk
  exact kda_item (knd := PySem.intKind PR w) N (hsub _ hm') hd (intKind_is _ _ _ _) hv (h v hD) hs hg

theorem dict_D {d : Addr} {D : List (Nat × Wish)} {Q : Value → Shared → Prop} (T : h₀.NoLimit) (F : Fr h₀ L s.heap m) (N : News h₀ L s.heap news) {n0 : List (Addr × Obj)} (W : HasW w n0 d D) (hsub : ∀ p ∈ n0, p ∈ news) (h64 : D.length < 64)
    (h : ∀ X o h', Fr h₀ L h' m → News h₀ L h' ((X, o) :: news) → IsW w n0 X o D → (∀ q ∈ news, q.1 < X) → Q (.ref X) { s with heap := h' }) :
    wpAny (model PR w) A (call (.type "dict") [.ref d]) Q E s := by
  obtain ⟨o, hm', ⟨kvs, hd, hw⟩, lo⟩ := W
  have hdo : s.heap.DictOf (PySem.intKind PR w) d kvs := kda_dict N (hsub _ hm') hd
  refine kt_call_dict lo hdo (by rw [hw.length, sizeLine_eq]; omega) fun h' hm hs => ?_
  obtain ⟨o', ho', hd'⟩ := Heap.dictOf_iff.mp hm
  have N1 := News.push F N { cls := .type "dict", data := .dict #[] }
  exact h _ o' h' ((F.push _).change hs (N1 _ (.head _)).2.1 (N1.fresh (.head _))) (N1.setHead N.apart hs ho') ⟨⟨kvs, hd', hw⟩, F.notModules (modules_low T)⟩ fun q hq => Heap.lt_size (N q hq).1

theorem set_D {d : Addr} {o : Obj} {D : List (Nat × Wish)} {p : Nat} {x : Wish} {k : Int} {t : Tok} {v : Value} {g : Obj → List (Addr × Obj)} {Q : Unit → Shared → Prop} (F : Fr h₀ L s.heap m) (N : News h₀ L s.heap news) (U : UpdF d o news g) 
    (W' : IsW w news d o D) (h64 : D.length < 64) (hk : k = (p : Int)) (hn : p ∉ D.map (·.1)) (hv : DatIn news v x.dat)
    (h : ∀ h' o', Fr h₀ L h' m → News h₀ L h' (g o') → (∃ kvs, o'.IsDictOf (PySem.intKind PR w) kvs ∧ WAll news kvs (D ++ [(p, x)])) → Q () { s with heap := h', toks := s.toks + 1 }) :
    wpAny (model PR w) A (setItem (.ref d) (.int k t) v) Q E s := by
  obtain ⟨⟨kvs, hd, hw⟩, lo⟩ := W'
  subst hk
  exact kda_set (knd := PySem.intKind PR w) F N U hd (intKind_is _ _ _ _) (by rw [hw.length, sizeLine_eq]; omega) fun h' o' F' N' hd' => h h' o' F' N' ⟨_, hd', hw.put hn hv⟩

/-- a for over a dict that the ledger holds -/
theorem for_dict {env : Env} {target : Expr} {body : List Stmt} {Q : Flow → Shared → Prop} {d : Addr} {D : List (Nat × Wish)} {o : Obj}
    (hh : A.handled = none) (F : Fr h₀ env.locals s.heap m) {dnews : List (Addr × Obj)} (W : IsW w dnews d o D)
    (J : Nat → (Str → Option Value) → List (Addr × Obj) → Prop) (hJS : ∀ i m nx, J i m nx → (d, o) ∈ nx) (h0 : ∃ nx, News h₀ env.locals s.heap nx ∧ J 0 m nx)
    (turn : ∀ i p x t m₁ nx h tk I oI, D[i]? = some (p, x) → J i m₁ nx → (∀ p ∈ nx, p.1 ≠ I) → Fr h₀ env.locals h m₁ → News h₀ env.locals h ((I, oI) :: nx) →
      ∀ T : Flow → Shared → Prop, Veil (Turn h₀ env.locals I oI s (J (i + 1)) Q) T → wpAny (model PR w) A (assign target env (.int (p : Nat) t)) (fun _ s₂ => wpAny (model PR w) A (execs body env) T E s₂) E { s with heap := h, toks := tk })
    (done : ∀ m₁ nx h tk, J D.length m₁ nx → Fr h₀ env.locals h m₁ → News h₀ env.locals h nx → Q .next { s with heap := h, toks := tk })
    (hE : PassesOwn (model PR w) A env E) :
    wpAny (model PR w) A (pyIter (.ref d)) (fun it s₂ => codeAny (model PR w) A (.forLoop target it body [] env) (fun r s' => match r with | .ok f => Q f s' | .error e => cameBackBy (model PR w) A env E e s') s₂) E s := by
  obtain ⟨news, N, h0⟩ := h0
  have hm := hJS _ _ _ h0
  obtain ⟨⟨kvs, hd, hw⟩, lo⟩ := W
  have hdo : s.heap.DictOf (PySem.intKind PR w) d kvs := kda_dict N hm hd
  obtain ⟨o1, es, ep, ho1, r⟩ := hdo
  have e1 : o = o1 := by rw [(N _ hm).1] at ho1; exact Option.some.inj ho1
  subst e1
  have hat : s.heap.DictAt (PySem.intKind PR w) d kvs ep := ⟨o, es, ho1, r⟩
  have hlt : d < s.heap.objs.size := Heap.lt_size (N _ hm).1
  refine wpAny_pyIter_dict lo hat ?_
  have W := Walks.dictKeys (prog := PR) (w := w) (knd := PySem.intKind PR w) (A := A) hh s.heap.objs.size d (Nat.ne_of_lt hlt) kvs ep
  rw [hw.length] at W
  have keep : ∀ b o, s.heap.get? b = some o → (s.heap.push { cls := .type "dict_keyiterator", data := .fields #[.ref d, .int 0 0, .int kvs.length 0, .int ep 0] }).get? b = some o := fun b o e => Heap.get?_push_of_some _ e
  refine for_core (S := fun nx => (d, o) ∈ nx) W (fun i h st => ?_) (fun i h h' o' nx st e e' k N' S => ?_) (fun i s' v Q' E' st q => letGo_keyiter st.1 q) ?_ (F.keeps keep) (N.grown keep) (Nat.ne_of_gt F.ns.lt) (next_is_new F) (fun p hp => Nat.ne_of_lt (Heap.lt_size (N p hp).1)) J hJS h0 (fun i v m₁ nx h tk oI hi hP hJ off F' N' => ?_) (fun m₁ nx h tk hJ F' N' => done m₁ nx h tk hJ F' N') hE
  · obtain ⟨o, e, _⟩ := st.1; exact ⟨o, e⟩
  · exact ⟨by obtain ⟨o', q, r⟩ := st.1; rw [e] at q; cases q; exact ⟨_, e', r⟩, ⟨o, es, (N' _ S).1, r⟩⟩
  · refine ⟨⟨_, Heap.get?_push_size _ rfl, rfl, ?_⟩, hat.push _⟩
    rw [hw.length]; rfl
  · obtain ⟨k, x, e1, e2⟩ := hP
    obtain ⟨t, rfl⟩ := Value.isInt_shape e2
    have e3 : (kvs.map (·.1))[i]? = some k := by rw [List.getElem?_map, e1]; rfl
    rw [hw.keys, List.getElem?_map] at e3
    obtain ⟨⟨p, y⟩, e4, e5⟩ := Option.map_eq_some_iff.mp e3
    subst e5
    exact turn i p y t m₁ nx h tk _ oI e4 hJ off F' N'
end
end
section
section
variable {w : World} {mean : ExcName → Option Value} {mg mb : Str → Option Value}
theorem spec_introC {name qual : Str} {params : Arguments} {body : List Stmt} {scope : Scope} {dV kV doc pm cdv ct oc : Value} {an od : Option Addr} {osl : Array (Option Value)} {f : Addr} {args : List Value} {d : Nat} {news : List (Addr × Obj)} {Ok : List (Addr × Obj) → Value → Prop}
    (ho : (hd.heap_1 w.params).lookup f = some ⟨oc, od, .func (fnOf name qual params body scope dV kV doc pm an cdv ct), osl⟩) (hcd : codeIn (hd.heap_1 w.params) cdv qual = true)
    (hbind : bindArgs (fnOf name qual params body scope dV kV doc pm an cdv ct) ⟨args, []⟩ = pure ((params.args.map (·.arg)).zip args)) (hkind : (((params.args.map (·.arg)).zip args).all fun y => scope.names.lookup y.1 == some .local || scope.names.lookup y.1 == some .cell) = true)
    (hnd : ((cellsFrom 0 scope.names []).map (·.1)).Nodup)
    (hco : scope.isCoroutine = false) (hgen : scope.isGenerator = false) (hk : scope.kind = .function)
    (h : ∀ (dp un : Nat) (gd : Option (List Code)) (fr : Option (List Env)) (envc : Env) (outer : List Env) (A₀ : Around) (base g : Heap) (L : Addr) (h₁ : Heap) (ge : Array GenState) (dr : Drawn) (os : OsState) (tk : Nat) (cells : List (Addr × Obj)),
      let A9 : Around := Aro dp un gd fr; let E9 : Env := envOfC qual scope L f cdv;
      Cx w mean mg mb A9 d E9 (envc :: outer) A₀ base g L → Room A9 d → fr = some (E9 :: envc :: outer) → Below A₀ base (envc :: outer) g → (hd.heap_1 w.params).In g → Top topView Lz mean mg mb g →
      Fr g L h₁ (bindL (envOfC qual scope L f cdv).kindOf ((params.args.map (·.arg)).zip args) fun _ => none) → News g L h₁ (cells ++ news) →
      CellsAre (bindC (envOfC qual scope L f cdv).kindOf ((params.args.map (·.arg)).zip args) fun _ => none) (cellsFrom (L + 1) scope.names []) cells → (∀ p ∈ news, p.1 < L) →
      ∀ T : Flow → Shared → Prop, Veil (fun fl s' => Ends g L ge dr os Ok (match fl with | .ret v => v | _ => .none) s') T → wpAny (model PR w) A9 (execs body E9) T (fun _ _ => False) ⟨h₁, ge, dr, tk, os⟩) :
    Spec w mean mg mb f (d + 1) args news Ok := by
  intro A env outer A₀ base h₀ L m s R hr hA hf hke B F X N T ret
  obtain ⟨FG, BG, st, lv⟩ := groundX (R := R) B F N hA hf hke
  have X2 : (hd.heap_1 w.params).In (hideAll s.heap (news.map (·.1))) := X.keeps fun b o e => st b o e
  have T2 : Top topView Lz mean mg mb (hideAll s.heap (news.map (·.1))) := T.keeps fun b o e => st b o e
  refine codeAny_call_function (Nat.lt_of_le_of_lt (Nat.le_add_right _ _) hr.dep) ((X.keeps F.keep) _ _ ho) rfl hco hgen rfl (codeRec_of (X.keeps F.keep) hcd) ((BindsTo.of_eq hbind) _ _ _ _ ?_)
  refine wpAny_newFunctionEnv_cells hk (kindsX hkind _) fun env' he s' x => ?_
  subst he
  refine ⟨(T.nolimit.keeps F.keep).keeps x.toInCall.keep, codeAny_func ?_⟩
  obtain ⟨h₁, tk, rfl, -⟩ := x.done
  have hk₁ := x.toInCall.keep
  obtain ⟨cells, NC, Y⟩ := Cl.news (h₀ := s.heap) (Nat.le_refl _) fun n c hm => ⟨x.cell n c (lookup_of_mem_nodup (cellsFrom_names scope.names 0 (s.heap.objs.size + 1) [] [] rfl ▸ hnd) hm), x.above n c hm⟩
  have ea := aro_of (A := A.deeper (envOfC qual scope s.heap.objs.size f cdv)) hr.hh
  have hr' : Room (A.deeper (envOfC qual scope s.heap.objs.size f cdv)) d := hr.deeper
  show wpAny (model PR w) (A.deeper (envOfC qual scope s.heap.objs.size f cdv)) (execs body (envOfC qual scope s.heap.objs.size f cdv)) _ _ _
  rw [ea] at hr' ⊢
  refine wpAny_mono (h _ _ _ _ env outer A base (hideAll s.heap (news.map (·.1))) s.heap.objs.size h₁ s.gens s.drawn s.os tk cells ⟨hr', Around.frames_deeper hA, rfl, hk, BG, X2, T2⟩ hr' (Around.frames_deeper hA) BG X2 T2 ⟨x.toInCall.ns, fun b o e => hk₁ b o (of_hideAll _ e), Nat.le_of_eq (hideAll_size _ _)⟩
    (fun p hp => ?_) Y (fun p hp => Heap.lt_size (N p hp).1) _ veil0) (fun fl s' e => ?_) fun _ _ e => e.elim
  · rcases List.mem_append.mp hp with hp | hp
    · refine ⟨(NC p hp).1, (NC p hp).2.1, ?_⟩
      cases q : (hideAll s.heap (news.map (·.1))).get? p.1 with
      | none => rfl
      | some o => have := of_hideAll _ q; rw [(NC p hp).2.2] at this; cases this
    · exact ⟨hk₁ _ _ (N p hp).1, Nat.ne_of_lt (Heap.lt_size (N p hp).1), hideAll_none _ (List.mem_map_of_mem hp)⟩
  · obtain ⟨h', m', news', tk', rfl, F₂, N₂, ok⟩ := e
    exact lv _ _ (leaveK_ F₂ N₂ fun F₃ N₃ => ret _ _ _ _ F₃ N₃ (Kept.of F₂ N₂) ok)
end

theorem spec_cls {w : World} {mean : ExcName → Option Value} {mg mb : Str → Option Value} {C fI : Addr} {d : Nat} {args : List Value} {news : List (Addr × Obj)} {Ok : List (Addr × Obj) → Value → Prop}
    (hm : makesIn (hd.heap_1 w.params) C = true) (hi : findIn (hd.heap_1 w.params) (.ref C) "__init__" = some (some (.ref fI))) (hf : isFn (hd.heap_1 w.params) (.ref fI) = true)
    (S : ∀ x dx, (∀ p ∈ news, p.1 < dx) → dx < x → Spec w mean mg mb fI d (.ref x :: args) ((x, instObj C dx) :: (dx, dictOf [] 0) :: news) (fun news' r => r = .none ∧ Ok news' (.ref x))) :
    Spec w mean mg mb C (d + 1) args news Ok := by
  intro A env outer A₀ base h₀ L m s R hr hA hf' hke B F X N T ret
  have hr2 : Room (A.under (.builtin "type.__call__" ⟨.ref C :: args, []⟩)) d := by
    rw [aro_of hr.hh]
    exact ⟨rfl, by have := hr.dep; show A.depth + 1 + d < _; omega, by have := hr.un; show A.units + 1 + 10 * d + 100 < _; omega⟩
  have hA2 : (A.under (.builtin "type.__call__" ⟨.ref C :: args, []⟩)).frames = some (env :: outer) := by
    rw [aro_of hr.hh]; exact hA
  have N2 := (N.push F emptyDict).push (F.push _) (instObj C s.heap.objs.size)
  rw [Heap.size_push] at N2
  obtain ⟨hh, gg, dd, tt, os⟩ := s
  refine make_core (makes_of (X.keeps F.keep) hm) (looks_findIn (X.keeps F.keep) hi) (fun self => bind_fn (X.keeps F.keep) self (beq_iff_eq.mp hf)) (.inl rfl) ?_
  refine S _ _ (fun p hp => Heap.lt_size (N p hp).1) (Nat.lt_succ_self _) _ env outer A₀ base h₀ L m _ _ hr2 hA2 hf' hke B ((F.push _).push _) X N2 T ?_
  rintro r news' h'' tk' F'' N'' K'' ⟨rfl, ok⟩
  refine ⟨rfl, ret _ _ _ _ F'' N'' ⟨fun y o hy e => ?_, fun p hp hy => ?_⟩ ok⟩
  · have hlt := Heap.lt_size e
    refine K''.1 y o (fun hc => ?_) (Heap.get?_push_of_some _ (Heap.get?_push_of_some _ e))
    rcases List.mem_cons.mp hc with e1 | hc
    · exact absurd (show y = hh.objs.size + 1 from e1) (Nat.ne_of_lt (Nat.lt_succ_of_lt hlt))
    · rcases List.mem_cons.mp hc with e1 | hc
      · exact absurd (show y = hh.objs.size from e1) (Nat.ne_of_lt hlt)
      · exact hy hc
  · cases e : hh.get? p.1 with
    | none => rfl
    | some o =>
      have hlt := Heap.lt_size e
      have := K''.2 p hp (fun hc => by
        rcases List.mem_cons.mp hc with e1 | hc
        · exact absurd (show p.1 = hh.objs.size + 1 from e1) (Nat.ne_of_lt (Nat.lt_succ_of_lt hlt))
        · rcases List.mem_cons.mp hc with e1 | hc
          · exact absurd (show p.1 = hh.objs.size from e1) (Nat.ne_of_lt hlt)
          · exact hy hc)
      have h9 : ((hh.push emptyDict).push (instObj C hh.objs.size)).get? p.1 = some o := Heap.get?_push_of_some _ (Heap.get?_push_of_some _ e)
      rw [show ((hh.push emptyDict).push (instObj C hh.objs.size)).get? p.1 = none from this] at h9
      cases h9

def CTurn (h₀ : Heap) (L : Addr) (m : Str → Option Value) (s : Shared) (I : Addr) (oI : Obj) (C : Addr) (oC : Obj) (D : Addr) (oD : Obj) (Jn : Value → List (Addr × Obj) → Prop) (y : Value) (s₃ : Shared) : Prop :=
  ∃ h' tk nx all, s₃ = { s with heap := h', toks := tk } ∧ Fr h₀ L h' m ∧ News h₀ L h' all ∧ (I, oI) ∈ all ∧ (C, oC) ∈ all ∧ (D, oD) ∈ all ∧ (∀ p ∈ nx, p ∈ all) ∧ (∀ p ∈ nx, p.1 ≠ I ∧ p.1 ≠ C ∧ p.1 ≠ D) ∧ Jn y nx

theorem cturn_add {h₀ : Heap} {L : Addr} {m : Str → Option Value} {s : Shared} {I C D t : Addr} {oI oC oD ot : Obj} {Jn : Value → List (Addr × Obj) → Prop} {y : Value} {h' : Heap} {tk : Nat} {tl nx : List (Addr × Obj)}
    (F : Fr h₀ L h' m) (N : News h₀ L h' ((t, ot) :: (tl ++ (I, oI) :: (C, oC) :: (D, oD) :: nx))) (l1 : ∀ p ∈ tl ++ (I, oI) :: (C, oC) :: (D, oD) :: nx, p.1 < t) (l2 : ∀ p ∈ tl, p.1 ≠ I ∧ p.1 ≠ C ∧ p.1 ≠ D) (off : ∀ p ∈ nx, p.1 ≠ I ∧ p.1 ≠ C ∧ p.1 ≠ D) (hJ : Jn y ((t, ot) :: (tl ++ nx))) :
    CTurn h₀ L m s I oI C oC D oD Jn y { s with heap := h', toks := tk } := by
  refine ⟨h', tk, _, _, rfl, F, N, .tail _ (List.mem_append_right _ (.head _)), .tail _ (List.mem_append_right _ (.tail _ (.head _))), .tail _ (List.mem_append_right _ (.tail _ (.tail _ (.head _)))), fun p hp => ?_, fun p hp => ?_, hJ⟩
  · rcases List.mem_cons.mp hp with rfl | hp
    · exact .head _
    · rcases List.mem_append.mp hp with hp | hp
      · exact .tail _ (List.mem_append_left _ hp)
      · exact .tail _ (List.mem_append_right _ (.tail _ (.tail _ (.tail _ hp))))
  · rcases List.mem_cons.mp hp with rfl | hp
    · exact ⟨Nat.ne_of_gt (l1 (I, oI) (List.mem_append_right _ (.head _))), Nat.ne_of_gt (l1 (C, oC) (List.mem_append_right _ (.tail _ (.head _)))), Nat.ne_of_gt (l1 (D, oD) (List.mem_append_right _ (.tail _ (.tail _ (.head _)))))⟩
    · rcases List.mem_append.mp hp with hp | hp
      · exact l2 p hp
      · exact off p hp
theorem all_snoc {a b : List (Addr × Obj)} {vs : List Value} {ds : List Dat} {v : Value} {d : Dat} (h : DatAll a vs ds) (hs : ∀ p ∈ a, p ∈ b) (hv : DatIn b v d) : DatAll b (vs ++ [v]) (ds ++ [d]) := by
  induction vs generalizing ds with
  | nil => cases h; exact .cons hv .nil
  | cons u vs ih => cases h with | cons h r => exact .cons (h.mono hs) (ih r)
theorem take_map_snoc {α β : Type} {f : α → β} {l : List α} {i : Nat} {x : α} (h : l[i]? = some x) : (l.take (i + 1)).map f = (l.take i).map f ++ [f x] := by
  rw [List.take_add_one, h, List.map_append]; rfl
theorem allLt_mem {d : Nat} : ∀ {l : List (Addr × Obj)}, AllLt d l → ∀ p ∈ l, @LT.lt Nat _ p.1 d
  | [], _, _, h => nomatch h
  | _ :: _, x, p, h => by
    rcases List.mem_cons.mp h with rfl | h
    · exact x.1
    · exact allLt_mem x.2 p h
theorem step_all {α : Type} {l : List α} {P : α → Prop} {i : Nat} {x : α} (h : ∀ j q, j < i → l[j]? = some q → P q) (hx : l[i]? = some x) (px : P x) : ∀ j q, j < i + 1 → l[j]? = some q → P q := by
  intro j q hj hq
  rcases Nat.lt_succ_iff_lt_or_eq.mp hj with h9 | rfl
  · exact h j q h9 hq
  · rw [hx] at hq; cases hq; exact px
theorem done_all {α : Type} {l : List α} {P : α → Prop} {n : Nat} (h : ∀ j q, j < n → l[j]? = some q → P q) (hn : l.length ≤ n) : ∀ q ∈ l, P q := by
  intro q hq
  obtain ⟨j, hj, e⟩ := List.getElem_of_mem hq
  exact h j q (by omega) (by rw [List.getElem?_eq_getElem hj, e])
theorem app1 {α : Type} {tl r : List α} {a : α} : tl ++ a :: r = (tl ++ [a]) ++ r := by simp
theorem app2 {α : Type} {tl r : List α} {a b : α} : tl ++ a :: b :: r = (tl ++ [a, b]) ++ r := by simp
theorem comp_rest {prog : Program} {w : World} {A : Around} {s : Shared} {h₀ : Heap} {L : Addr} {m : Str → Option Value} {env : Env} {elt : Expr} {x : Str} {scope : Scope} {cl : List (Str × Addr)} {S : List (Addr × Obj) → Prop} {P : Nat → Value → Prop} {Fin : List Value → List (Addr × Obj) → Prop} {n : Nat} {nx : List (Addr × Obj)}
    (J : Nat → List Value → List (Addr × Obj) → Prop) (hJS : ∀ i ys nx, J i ys nx → S nx) (h0 : J 0 [] nx)
    (turn : ∀ i ys nx v I oI C oC D m₂ h tk E', i < n → J i ys nx → P i v → LCg.NsObj oC m₂ → m₂ x = some v → Fr h₀ L h m → News h₀ L h ((I, oI) :: (C, oC) :: (D, LCg.lst ys) :: nx) → (∀ p ∈ nx, p.1 ≠ I ∧ p.1 ≠ C ∧ p.1 ≠ D) → (I ≠ C ∧ I ≠ D ∧ C ≠ D) →
      wpAny (model prog w) A (eval elt (compEnvC scope cl C env)) (CTurn h₀ L m s I oI C oC D (LCg.lst ys) (fun y nx' => J (i + 1) (ys ++ [y]) nx')) E' { s with heap := h, toks := tk })
    (fin : ∀ ys nx, J n ys nx → Fin ys nx) : LCg.CompRest prog w A h₀ L m env elt x scope cl s S P Fin n 0 [] nx := by
  have go : ∀ k i ys nx, i + k = n → J i ys nx → LCg.CompRest prog w A h₀ L m env elt x scope cl s S P Fin k i ys nx := by
    intro k
    induction k with
    | zero => intro i ys nx e j; exact LCg.CompRest.zero (fin _ _ (by rw [Nat.add_zero] at e; exact e ▸ j))
    | succ k ih =>
      intro i ys nx e j
      refine LCg.CompRest.succ fun v I oI C oC D m₂ h tk E' hP hC hx F N off ne => ?_
      refine wpAny_mono (turn i ys nx v I oI C oC D m₂ h tk E' (by omega) j hP hC hx F N off.mem ne) (fun y s₂ q => ?_) fun _ _ e => e
      obtain ⟨h', tk', nx', all, rfl, F', N', i1, i2, i3, hs, hoff, j'⟩ := q
      refine LCg.CompEnd.intro F' N' nx' (fun p hp => ?_) (LCg.Off3.of hoff) (hJS _ _ _ j') (ih _ _ _ (by omega) j')
      rcases List.mem_cons.mp hp with rfl | hp
      · exact i1
      · rcases List.mem_cons.mp hp with rfl | hp
        · exact i2
        · rcases List.mem_cons.mp hp with rfl | hp
          · exact i3
          · exact hs p hp
  exact go n 0 [] nx (Nat.zero_add _) h0
end
section
def ETurn (h₀ : Heap) (L I I2 : Addr) (oI oI2 : Obj) (s : Shared) (Jn : (Str → Option Value) → List (Addr × Obj) → Prop) (Q : Flow → Shared → Prop) (f : Flow) (s₃ : Shared) : Prop :=
  match f with
  | .ret v => Q (.ret v) s₃
  | .brk => Q .next s₃
  | _ => ∃ h' tk m' nx all, s₃ = { s with heap := h', toks := tk } ∧ Fr h₀ L h' m' ∧ News h₀ L h' all ∧ (I, oI) ∈ all ∧ (I2, oI2) ∈ all ∧ (∀ p ∈ nx, p ∈ all) ∧ (∀ p ∈ nx, p.1 ≠ I ∧ p.1 ≠ I2) ∧ Jn m' nx
abbrev enumO (it : Addr) (i : Int) (old : Value) : Obj := { cls := .type "enumerate", dict := none, data := .fields #[.none, .bool false, .ref it, rawInt i, .none, old], slots := #[] }
section
variable {prog : Program} {w : World} {A : Around} {E : Value → Shared → Prop} {s : Shared} {env : Env} {h₀ : Heap}
theorem for_enum {elts : List Expr} {k : Nat} {pos : Pos} {body : List Stmt} {Q : Flow → Shared → Prop} {ax : Addr} {vs : List Value} {nn : Nat} {m : Str → Option Value}
    (hh : A.handled = none) (F : Fr h₀ env.locals s.heap m)
    (J : Nat → (Str → Option Value) → List (Addr × Obj) → Prop) (hJS : ∀ i m nx, J i m nx → (ax, ({ cls := .type "list", data := .seq vs.toArray nn } : Obj)) ∈ nx) (h0 : ∃ nx, News h₀ env.locals s.heap nx ∧ J 0 m nx)
    (turn : ∀ i v m₁ nx h tk T t I oI I2 oI2, vs[i]? = some v → J i m₁ nx → (∀ p ∈ nx, p.1 ≠ I ∧ p.1 ≠ I2) → T ≠ I → T ≠ I2 → Fr h₀ env.locals h m₁ → News h₀ env.locals h ((T, tupO [.int (i : Nat) t, v] 0) :: (I, oI) :: (I2, oI2) :: nx) →
      ∀ TQ : Flow → Shared → Prop, Veil (ETurn h₀ env.locals I I2 oI oI2 s (J (i + 1)) Q) TQ → wpAny (model prog w) A (assign (.Tuple elts k pos) env (.ref T)) (fun _ s₂ => wpAny (model prog w) A (execs body env) TQ E s₂) E { s with heap := h, toks := tk })
    (done : ∀ m₁ nx h tk, J vs.length m₁ nx → Fr h₀ env.locals h m₁ → News h₀ env.locals h nx → Q .next { s with heap := h, toks := tk })
    (hE : PassesOwn (model prog w) A env E) :
    wpAny (model prog w) A (call (.type "enumerate") [.ref ax]) (fun xv s₁ => wpAny (model prog w) A (pyIter xv) (fun it s₂ => codeAny (model prog w) A (.forLoop (.Tuple elts k pos) it body [] env) (fun r s' => match r with | .ok f => Q f s' | .error e => cameBackBy (model prog w) A env E e s') s₂) E s₁) E s := by
  obtain ⟨news, N, h0⟩ := h0
  have hm := hJS _ _ _ h0
  have hl : s.heap.IsList ax vs.toArray := N.isList hm
  have hlt : ax < s.heap.objs.size := Heap.lt_size (N _ hm).1
  refine call_enumerate_list hl fun h1 he1 hi1 hz1 hk1 => ?_
  refine wpAny_pyIter_enum he1 ?_
  have hLlt : env.locals < s.heap.objs.size := F.ns.lt
  generalize hI2 : s.heap.objs.size = I2 at he1 hi1 hz1 hlt hLlt ⊢
  have fresh : ∀ a, I2 ≤ a → h₀.get? a = none := fun a ha => by
    cases e : h₀.get? a with
    | none => rfl
    | some o' => have := Heap.lt_size (F.keep a o' e); rw [hI2] at this; exact absurd this (Nat.not_lt.mpr ha)
  have hI0 : h₀.get? (I2 + 1) = none := fresh _ (Nat.le_succ _)
  have hI20 : h₀.get? I2 = none := fresh _ (Nat.le_refl _)
  have hIL : I2 + 1 ≠ env.locals := Nat.ne_of_gt (Nat.lt_succ_of_lt hLlt)
  have hI2L : I2 ≠ env.locals := Nat.ne_of_gt hLlt
  have off0 : ∀ p ∈ news, p.1 ≠ I2 + 1 ∧ p.1 ≠ I2 := fun p hp => by
    have h9 : p.1 < I2 := hI2 ▸ Heap.lt_size (N p hp).1
    exact ⟨Nat.ne_of_lt (Nat.lt_succ_of_lt h9), Nat.ne_of_lt h9⟩
  have up : ∀ {h h₁ : Heap} {m₁ : Str → Option Value} {nx : List (Addr × Obj)}, Fr h₀ env.locals h m₁ → News h₀ env.locals h nx → (∀ p ∈ nx, p.1 ≠ I2 + 1 ∧ p.1 ≠ I2) → (∀ b o, b ≠ I2 + 1 → b ≠ I2 → h.get? b = some o → h₁.get? b = some o) → Fr h₀ env.locals h₁ m₁ ∧ News h₀ env.locals h₁ nx := by
    intro h h₁ m₁ nx F N off hk
    refine ⟨⟨F.ns.at' fun o e => hk _ o (Ne.symm hIL) (Ne.symm hI2L) e, fun b o e => hk b o (fun q => ?_) (fun q => ?_) (F.keep b o e), F.above⟩, fun p hp => ⟨hk _ _ (off p hp).1 (off p hp).2 (N p hp).1, (N p hp).2⟩⟩
    · rw [q, hI0] at e; cases e
    · rw [q, hI20] at e; cases e
  have hne : I2 + 1 ≠ I2 := Nat.succ_ne_self _
  refine codeAny_forLoop_any
    (fun k s' => ∃ h' tk m' nx i, s' = { s with heap := h', toks := tk } ∧ ((∃ old, IsEnum h' (I2 + 1) I2 ((i : Nat) : Int) old) ∧ h'.IsListIter I2 ax i) ∧ Fr h₀ env.locals h' m' ∧ News h₀ env.locals h' nx ∧ (∀ p ∈ nx, p.1 ≠ I2 + 1 ∧ p.1 ≠ I2) ∧ J i m' nx ∧ i ≤ vs.length ∧ k = vs.length + 1 - i) ?_ (vs.length + 1)
    ⟨h1, s.toks, m, news, 0, rfl, ⟨⟨_, he1⟩, hi1⟩, F.keeps hk1, N.grown hk1, off0, h0, Nat.zero_le _, rfl⟩
  rintro kk s' ⟨h', tk, m', nx, i, rfl, ⟨⟨old, he'⟩, hit'⟩, F', N', off', hJ, hi, rfl⟩
  have hl' : h'.IsList ax vs.toArray := N'.isList (hJS _ _ _ hJ)
  by_cases hlt' : i < vs.length
  · have hv : vs.toArray[i]? = some vs[i] := by simp [hlt']
    have heH : I2 + 1 < h'.objs.size := Heap.lt_size he'
    have hiH : I2 < h'.objs.size := Nat.lt_of_succ_lt heH
    refine wpAny_pyNext_enum_item he' hit' hl' hv hne fun h₁ heo hit₁ ht₁ hz₁ hk₁ => ?_
    refine wpAny_letOwnedTupleGo_enum heo fun h₂ he₂ hs₂ => ?_
    obtain ⟨F₁, N₁⟩ := up F' N' off' hk₁
    have F₂ : Fr h₀ env.locals h₂ m' := F₁.change hs₂ hIL hI0
    have N₂ : News h₀ env.locals h₂ nx := fun p hp => ⟨(hs₂.2 _ (off' p hp).1).trans (N₁ p hp).1, (N₁ p hp).2⟩
    obtain ⟨oI2, heI2, hq2⟩ := id hit₁
    have heI2' : h₂.get? I2 = some oI2 := (hs₂.2 _ (Ne.symm hne)).trans heI2
    have ht₂ : h₂.get? h'.objs.size = some (tupO [.int (i : Nat) tk, vs[i]] 0) := (hs₂.2 _ (Nat.ne_of_gt heH)).trans ht₁
    have hTL : h'.objs.size ≠ env.locals := Nat.ne_of_gt F'.ns.lt
    have N₃ : News h₀ env.locals h₂ ((h'.objs.size, tupO [.int (i : Nat) tk, vs[i]] 0) :: (I2 + 1, enumO I2 ((i : Int) + 1) vs[i]) :: (I2, oI2) :: nx) := fun p hp => by
      rcases List.mem_cons.mp hp with rfl | hp
      · exact ⟨ht₂, hTL, fresh _ (Nat.le_of_lt hiH)⟩
      · rcases List.mem_cons.mp hp with rfl | hp
        · exact ⟨he₂, hIL, hI0⟩
        · rcases List.mem_cons.mp hp with rfl | hp
          · exact ⟨heI2', hI2L, hI20⟩
          · exact N₂ p hp
    refine wpAny_passesOwn hE (wpAny_mono (turn i vs[i] m' nx h₂ _ _ tk _ _ _ _ (List.getElem?_eq_getElem hlt') hJ off' (Nat.ne_of_gt heH) (Nat.ne_of_gt hiH) F₂ N₃ _ veil0) (fun _ s₂ h₂ => wpAny_passesOwn hE (wpAny_mono h₂ (fun f s₃ h₃ => ?_) fun _ _ e => e)) fun _ _ e => e)
    have key : ∀ s₃ : Shared, (∃ h' tk m' nx all, s₃ = { s with heap := h', toks := tk } ∧ Fr h₀ env.locals h' m' ∧ News h₀ env.locals h' all ∧ (I2 + 1, enumO I2 ((i : Int) + 1) vs[i]) ∈ all ∧ (I2, oI2) ∈ all ∧ (∀ p ∈ nx, p ∈ all) ∧ (∀ p ∈ nx, p.1 ≠ I2 + 1 ∧ p.1 ≠ I2) ∧ J (i + 1) m' nx) → ∃ m, m < vs.length + 1 - i ∧ ∃ h' tk m' nx i, s₃ = { s with heap := h', toks := tk } ∧ ((∃ old, IsEnum h' (I2 + 1) I2 ((i : Nat) : Int) old) ∧ h'.IsListIter I2 ax i) ∧ Fr h₀ env.locals h' m' ∧ News h₀ env.locals h' nx ∧ (∀ p ∈ nx, p.1 ≠ I2 + 1 ∧ p.1 ≠ I2) ∧ J i m' nx ∧ i ≤ vs.length ∧ m = vs.length + 1 - i := by
      rintro s₃ ⟨h₃', tk₃, m₂, nx₂, all, rfl, F₃, N₃, hIm, hIm2, hsub, off₃, hJ₃⟩
      refine ⟨vs.length + 1 - (i + 1), by omega, h₃', tk₃, m₂, nx₂, i + 1, rfl, ⟨⟨vs[i], ?_⟩, ⟨oI2, (N₃ _ hIm2).1, hq2⟩⟩, F₃, nsub N₃ hsub, off₃, hJ₃, hlt', rfl⟩
      have : ((i + 1 : Nat) : Int) = (i : Int) + 1 := by push_cast; rfl
      rw [this]; exact (N₃ _ hIm).1
    cases f with
    | ret v => exact h₃
    | brk => exact h₃
    | next => exact key _ h₃
    | cont => exact key _ h₃
  · have hin : i = vs.length := by omega
    subst hin
    refine wpAny_pyNext_enum_end hh he' hit' hl' (by simp) fun h₁ he₁ => wpAny_execs_nil ?_
    obtain ⟨F₁, N₁⟩ := up F' N' off' fun b o _ hb e => he₁ b o hb e
    exact done m' nx h₁ tk hJ F₁ N₁
end
theorem tuple_L {prog : Program} {w : World} {A : Around} {E : Value → Shared → Prop} {s : Shared} {h₀ : Heap} {L l : Addr} {m : Str → Option Value} {news : List (Addr × Obj)} {vs : List Value} {n : Nat} {Q : Value → Shared → Prop} (F : Fr h₀ L s.heap m) (N : News h₀ L s.heap news) (hm : (l, lstO vs n) ∈ news) (hz : vs.length ≤ 16384)
    (h : ∀ D h', Fr h₀ L h' m → News h₀ L h' ((D, tupO vs 0) :: news) → (∀ p ∈ news, p.1 < D) → Q (.ref D) { s with heap := h' }) : wpAny (model prog w) A (call (.type "tuple") [.ref l]) Q E s :=
  kde_tupleOf (zs := vs) F N (N.isList hm) (by simpa using hz) (by simp) h
theorem off3 {nx : List (Addr × Obj)} {I C D : Addr} {a b c : Obj} (h : ∀ p ∈ nx, p.1 ≠ I ∧ p.1 ≠ C ∧ p.1 ≠ D) : ∀ p ∈ [(I, a), (C, b), (D, c)], ∀ q ∈ nx, q.1 ≠ p.1 := by
  intro p hp q hq
  rcases List.mem_cons.mp hp with rfl | hp
  · exact (h q hq).1
  · rcases List.mem_cons.mp hp with rfl | hp
    · exact (h q hq).2.1
    · rcases List.mem_cons.mp hp with rfl | hp
      · exact (h q hq).2.2
      · cases hp
theorem on3 {nx : List (Addr × Obj)} {I C D : Addr} {a b c : Obj} (h : ∀ p ∈ [(I, a), (C, b), (D, c)], ∀ q ∈ nx, q.1 ≠ p.1) : ∀ p ∈ nx, p.1 ≠ I ∧ p.1 ≠ C ∧ p.1 ≠ D :=
  fun q hq => ⟨h _ (.head _) q hq, h _ (.tail _ (.head _)) q hq, h _ (.tail _ (.tail _ (.head _))) q hq⟩
theorem off1 {nx : List (Addr × Obj)} {I : Addr} {a : Obj} (h : ∀ p ∈ nx, p.1 ≠ I) : ∀ p ∈ [(I, a)], ∀ q ∈ nx, q.1 ≠ p.1 := by
  intro p hp q hq
  rcases List.mem_cons.mp hp with rfl | hp
  · exact h q hq
  · cases hp
theorem on1 {nx : List (Addr × Obj)} {I : Addr} {a : Obj} (h : ∀ p ∈ [(I, a)], ∀ q ∈ nx, q.1 ≠ p.1) : ∀ p ∈ nx, p.1 ≠ I := fun q hq => h _ (.head _) q hq
theorem mid2 {α : Type} {a b : α} {s t r : List α} : a :: ([b] ++ (s ++ (t ++ r))) = (a :: b :: (s ++ t)) ++ r := by simp
end
section
open LCg
theorem Room.u64 {A : Around} {d : Nat} (r : Room A d) : A.units + 64 < cLine := by have := r.un; omega

section
variable {prog : Program} {w : World} {A : Around} {E : Value → Shared → Prop} {s : Shared} {h₀ : Heap} {L a b : Addr} {m : Str → Option Value} {news n₁ : List (Addr × Obj)} {xs : List Value} {ka kb : Nat} {ds : List Dat} {Q : Value → Shared → Prop}
theorem empty_iff {xs : List Value} {ds : List Dat} (h : DatAll n₁ xs ds) [Decidable (ds = [])] : decide (ds = []) = xs.isEmpty := by
  cases h with
  | nil => simp
  | cons _ _ => simp
theorem eq_nil_L (N : News h₀ L s.heap news) (ma : (a, lstO xs ka) ∈ news) (Da : DatAll n₁ xs ds) (sa : ∀ p ∈ n₁, p ∈ news) (hok : ∀ d ∈ ds, kqdOk 8 d = true) (mb : (b, lstO [] kb) ∈ news) (hu : A.units + 64 < cLine) (h : Q (.bool xs.isEmpty) s) :
    wpAny (model prog w) A (compareOp .Eq (.ref a) (.ref b)) Q E s :=
  kqd_eq (ys := []) (es := []) N ma rfl rfl Da sa mb rfl rfl DatAll.nil (n₂ := []) (fun _ h => nomatch h) hok (fun _ h => nomatch h) hu (by rw [empty_iff Da]; exact h)
theorem ne_nil_L (N : News h₀ L s.heap news) (ma : (a, lstO xs ka) ∈ news) (Da : DatAll n₁ xs ds) (sa : ∀ p ∈ n₁, p ∈ news) (hok : ∀ d ∈ ds, kqdOk 8 d = true) (mb : (b, lstO [] kb) ∈ news) (hu : A.units + 64 < cLine) (h : Q (.bool (!xs.isEmpty)) s) :
    wpAny (model prog w) A (compareOp .NotEq (.ref a) (.ref b)) Q E s :=
  kqd_ne (ys := []) (es := []) N ma rfl rfl Da sa mb rfl rfl DatAll.nil (n₂ := []) (fun _ h => nomatch h) hok (fun _ h => nomatch h) hu (by rw [empty_iff Da]; exact h)
end
theorem wish_kqd (x : Wish) (n : Nat) : kqdOk (n + 1) x.dat = true := by
  cases x <;> simp [Wish.dat, kqdOk] <;> decide +kernel

section
variable {prog : Program} {w : World} {A : Around} {E : Value → Shared → Prop} {R : Result → Shared → Prop} {s : Shared}
theorem compLoop_pt {elt target iter ct : Expr} {scope : Scope} {pos : Pos} {it acc : Value} {env : Env} (I : Nat → Shared → Prop)
    (turn : ∀ n s, I n s → wpAny (model prog w) A (pyNext it) (fun r s₁ => match r with
      | none => R (.ok .next) s₁
      | some v => wpAny (model prog w) A (letOwnedTupleGo target it v) (fun _ s₁' => wpAny (model prog w) A (assign target env v) (fun _ s₂ =>
          wpAny (model prog w) A (isTrue ct env (eval ct env)) (fun ok s₃ =>
            if ok = true then wpAny (model prog w) A (eval elt env) (fun x s₄ =>
              wpAny (model prog w) A (call (.builtin "list.append") [acc, x]) (fun _ s₅ => ∃ m, m < n ∧ I m s₅) (notedBy (model prog w) A env fun e s' => R (.error e) s') s₄) (notedBy (model prog w) A env fun e s' => R (.error e) s') s₃
            else ∃ m, m < n ∧ I m s₃) (notedBy (model prog w) A env fun e s' => R (.error e) s') s₂) (notedBy (model prog w) A env fun e s' => R (.error e) s') s₁') (notedBy (model prog w) A env fun e s' => R (.error e) s') s₁) (notedBy (model prog w) A env fun e s' => R (.error e) s') s)
    (n : Nat) (h : I n s) :
    codeAny (model prog w) A (.compLoop (.ListComp elt [⟨target, iter, [ct], 0⟩] scope pos) 0 it acc env) R s := by
  refine codeAny_loop rfl I (fun n s hI => ?_) n h
  show wpAny _ A ((compTurn (.ListComp elt [⟨target, iter, [ct], 0⟩] scope pos) 0 it acc env).onRaise (fun x => do noteFrame x env; theTreesLotGoes x)) _ _ s
  refine wpAny_noted ?_
  rw [compTurn_list]
  refine wpAny_bind (wpAny_standAt (wpAny_bind (wpAny_mono (turn n s hI) (fun r s₁ h₁ => ?_) fun _ _ h' => h')))
  cases r with
  | none => exact wpAny_pure h₁
  | some v =>
    refine wpAny_bind (wpAny_mono h₁ (fun _ s₁' h₁' => ?_) fun _ _ h' => h')
    refine wpAny_bind (wpAny_mono h₁' (fun _ s₂ h₂ => wpAny_bind (wpAny_mono (wpAny_tests_one h₂) (fun ok s₃ h₃ => ?_) fun _ _ h' => h')) fun _ _ h' => h')
    cases ok with
    | true =>
      rw [if_pos rfl] at h₃ ⊢
      exact wpAny_bind (wpAny_bind (wpAny_mono h₃ (fun x s₄ h₄ => wpAny_bind (wpAny_mono h₄ (fun _ s₅ h₅ => wpAny_pure (wpAny_pure ⟨rfl, h₅⟩)) fun _ _ h' => h')) fun _ _ h' => h'))
    | false =>
      rw [if_neg (by decide)] at h₃
      simp only [Bool.false_eq_true, if_false]
      exact wpAny_bind (wpAny_pure (wpAny_pure ⟨rfl, h₃⟩))
end

def TurnPT (prog : Program) (w : World) (A : Around) (h₀ : Heap) (L : Addr) (m : Str → Option Value) (env : Env) (ct elt : Expr) (x x₂ : Str) (scope : Scope) (cl : List (Str × Addr)) (s : Shared) (J : Nat → List Value → List (Addr × Obj) → Prop) (i : Nat) (ys : List Value) (nx : List (Addr × Obj)) (v₁ v₂ : Value) : Prop :=
  ∀ I oI C oC D m₂ h tk E', NsObj oC m₂ → m₂ x = some v₁ → m₂ x₂ = some v₂ → Fr h₀ L h m → News h₀ L h ((I, oI) :: (C, oC) :: (D, lst ys) :: nx) → (∀ p ∈ nx, p.1 ≠ I ∧ p.1 ≠ C ∧ p.1 ≠ D) → (I ≠ C ∧ I ≠ D ∧ C ≠ D) →
      wpAny (model prog w) A (isTrue ct (compEnvC scope cl C env) (eval ct (compEnvC scope cl C env))) (fun ok s' => if ok = true then
        wpAny (model prog w) A (eval elt (compEnvC scope cl C env)) (CTurn h₀ L m s I oI C oC D (lst ys) (fun y nx' => J (i + 1) (ys ++ [y]) nx')) E' s'
        else CTurn h₀ L m s I oI C oC D (lst ys) (fun _ nx' => J (i + 1) ys nx') Value.none s') E' { s with heap := h, toks := tk }
def SrcPT (prog : Program) (w : World) (A : Around) (h₀ : Heap) (L : Addr) (m : Str → Option Value) (env : Env) (ct elt : Expr) (x x₂ : Str) (scope : Scope) (cl : List (Str × Addr)) (mm : Addr → Str → Option Value) (Q : Addr → Shared → Prop) (xv : Value) (s : Shared) : Prop :=
  ∃ (ax : Addr) (vs : List Value) (nn : Nat) (news : List (Addr × Obj)) (J : Nat → List Value → List (Addr × Obj) → Prop), xv = .ref ax ∧ Fr h₀ L s.heap m ∧ News h₀ L s.heap news ∧ (∀ i ys nx, J i ys nx → (ax, tupO vs nn) ∈ nx) ∧ J 0 [] news ∧ vs.length ≤ sizeLine ∧
    (∀ i ys nx v, J i ys nx → vs[i]? = some v → ∃ t v₁ v₂ nt, v = .ref t ∧ (t, tupO [v₁, v₂] nt) ∈ nx ∧ TurnPT prog w A h₀ L m env ct elt x x₂ scope cl s J i ys nx v₁ v₂) ∧
    ∀ D h tk ys nx, J vs.length ys nx → Fr h₀ L h (mm D) → News h₀ L h ((D, lst ys) :: nx) → (∀ p ∈ nx, p.1 ≠ D) → Q D { s with heap := h, toks := tk }

/-- a list made and a frame opened for a comprehension -/
structure Opened (h₀ : Heap) (L : Addr) (m : Str → Option Value) (news : List (Addr × Obj)) (g : Heap) (C D : Addr) (h₁ : Heap) : Prop where
  F : Fr h₀ L h₁ m
  up : ∀ b o, g.get? b = some o → h₁.get? b = some o
  off : ∀ b, b < g.objs.size → b ≠ C ∧ b ≠ D
  N : News h₀ L h₁ ((D, lst []) :: news)
  ns : ∃ m', h₁.Ns C m'
  C0 : h₀.get? C = none
  CL : C ≠ L
  DC : D ≠ C
section
variable {prog : Program} {w : World} {A : Around} {E : Value → Shared → Prop} {s : Shared} {h₀ : Heap} {L : Addr} {m : Str → Option Value} {env : Env}
theorem comp_open {scope : Scope} {cl : List (Str × Addr)} {s₂ : Shared} {news : List (Addr × Obj)} {Z : Value → Env → Shared → Prop} (hcell : ∀ y ∈ scope.names, y.2 ≠ .cell) (hkind : scope.kind = .function)
    (F : Fr h₀ L s₂.heap m) (N : News h₀ L s₂.heap news)
    (h : ∀ C D h₁ tk cenv, { cenv with scope := relabel scope env } = compEnvC scope cl C env → cenv.locals = C → Opened h₀ L m news s₂.heap C D h₁ → Z (.ref D) cenv { s₂ with heap := h₁, toks := tk }) :
    wpAny (model prog w) A (newList []) (fun acc s₃ => wpAny (model prog w) A (newFunctionEnv scope env.globals cl [] env.qual none .none (some env)) (fun cenv s₄ => Z acc cenv s₄) E s₃) E s₂ := by
  refine wpAny_newObj_type (wpAny_newFunctionEnv hcell (by intro y hy; simp at hy) (fun h₁ hns₁ hsb₁ => ?_) hkind)
  dsimp only at hns₁ hsb₁ ⊢
  have hsz : ∀ b o, s₂.heap.get? b = some o → b < s₂.heap.objs.size := fun b o e => Heap.lt_size e
  have hLlt : L < s₂.heap.objs.size := F.ns.lt
  generalize hH2 : s₂.heap.push { cls := .type "list", dict := none, data := .seq ([] : List Value).toArray } = H2 at hns₁ hsb₁ ⊢
  have hC : H2.objs.size = s₂.heap.objs.size + 1 := by rw [← hH2, Heap.size_push]
  have e0 : H2.get? s₂.heap.objs.size = some (lst []) := hH2 ▸ Heap.get?_push_size _ rfl
  have e1 : ∀ b o, s₂.heap.get? b = some o → H2.get? b = some o := fun b o e => hH2 ▸ Heap.get?_push_of_some _ e
  have hL₀ : ∀ a o, h₀.get? a = some o → a < s₂.heap.objs.size := fun a o e => hsz _ _ (F.keep a o e)
  clear hH2
  have n1 : ∀ a, s₂.heap.objs.size ≤ a → h₀.get? a = none := fun a ha => by
    cases e : h₀.get? a with
    | none => rfl
    | some o => exact absurd (hL₀ a o e) (Nat.not_lt.mpr ha)
  have hCe : s₂.heap.objs.size ≤ H2.objs.size := hC ▸ Nat.le_succ _
  have ne : ∀ b, b < s₂.heap.objs.size → b ≠ H2.objs.size := fun b hb => Nat.ne_of_lt (Nat.lt_of_lt_of_le hb hCe)
  have old : ∀ b o, s₂.heap.get? b = some o → h₁.get? b = some o := fun b o e => hsb₁.extBut b o (ne b (hsz b o e)) (Heap.get?_push_of_some _ (e1 b o e))
  have hDC : s₂.heap.objs.size ≠ H2.objs.size := hC ▸ Nat.ne_of_lt (Nat.lt_succ_self _)
  refine h H2.objs.size s₂.heap.objs.size h₁ _ _ rfl rfl ⟨F.keeps old, old, fun b hb => ⟨ne b hb, Nat.ne_of_lt hb⟩, fun p hp => ?_, ⟨_, hns₁⟩, n1 _ hCe, Ne.symm (ne L hLlt), hDC⟩
  rcases List.mem_cons.mp hp with rfl | hp
  · exact ⟨hsb₁.extBut _ _ hDC (Heap.get?_push_of_some _ e0), Nat.ne_of_gt hLlt, n1 _ (Nat.le_refl _)⟩
  · exact ⟨old _ _ (N p hp).1, (N p hp).2⟩

inductive CInv (h₀ : Heap) (L : Addr) (m : Str → Option Value) (s₁ : Shared) (I C D : Addr) (n : Nat) (St : Nat → Heap → Prop) (J : Nat → List Value → List (Addr × Obj) → Prop) (k : Nat) (s' : Shared) : Prop
  | mk (h' : Heap) (tk i : Nat) (ys : List Value) (m' : Str → Option Value) (nx : List (Addr × Obj)) (e : s' = { s₁ with heap := h', toks := tk }) (hi : i ≤ n) (ek : k = n + 1 - i) (hyl : ys.length ≤ i) (st : St i h') (F : Fr h₀ L h' m) (hn : h'.Ns C m') (N : News h₀ L h' ((D, lst ys) :: nx)) (off : ∀ p ∈ nx, p.1 ≠ I ∧ p.1 ≠ C ∧ p.1 ≠ D) (hJ : J i ys nx)
def Asg (prog : Program) (w : World) (A : Around) (h₀ : Heap) (L : Addr) (s₁ : Shared) (C D : Addr) (target : Expr) (env : Env) (ys : List Value) (nx : List (Addr × Obj)) (v : Value) (Bd : (Str → Option Value) → Prop) : Prop :=
  ∀ (h₂ : Heap) (tk : Nat) (m' : Str → Option Value) (Q : Unit → Shared → Prop) (E' : Value → Shared → Prop), h₂.Ns C m' → News h₀ L h₂ ((D, lst ys) :: nx) →
    (∀ h₃ tk₃ m₃, Bd m₃ → h₃.Ns C m₃ → (∀ b o, b ∉ [C] → h₂.get? b = some o → h₃.get? b = some o) → Q () { s₁ with heap := h₃, toks := tk₃ }) → wpAny (model prog w) A (assign target env v) Q E' { s₁ with heap := h₂, toks := tk }
def CBody (prog : Program) (w : World) (A : Around) (h₀ : Heap) (L : Addr) (m : Str → Option Value) (s₁ : Shared) (I C D : Addr) (ct elt : Expr) (env : Env) (J : Nat → List Value → List (Addr × Obj) → Prop) (i : Nat) (ys : List Value) (nx : List (Addr × Obj)) (Bd : (Str → Option Value) → Prop) : Prop :=
  ∀ oI oC m₂ h tk E', NsObj oC m₂ → Bd m₂ → Fr h₀ L h m → News h₀ L h ((I, oI) :: (C, oC) :: (D, lst ys) :: nx) → (∀ p ∈ nx, p.1 ≠ I ∧ p.1 ≠ C ∧ p.1 ≠ D) → (I ≠ C ∧ I ≠ D ∧ C ≠ D) →
      wpAny (model prog w) A (isTrue ct env (eval ct env)) (fun ok s' => if ok = true then
        wpAny (model prog w) A (eval elt env) (CTurn h₀ L m s₁ I oI C oC D (lst ys) (fun y nx' => J (i + 1) (ys ++ [y]) nx')) E' s'
        else CTurn h₀ L m s₁ I oI C oC D (lst ys) (fun _ nx' => J (i + 1) ys nx') Value.none s') E' { s₁ with heap := h, toks := tk }
theorem CTurn.out {I : Addr} {oI : Obj} {C : Addr} {oC : Obj} {D : Addr} {oD : Obj} {Jn : Value → List (Addr × Obj) → Prop} {y : Value} {s₃ : Shared} {P : Prop} (x : CTurn h₀ L m s I oI C oC D oD Jn y s₃)
    (k : ∀ h' tk nx, s₃ = { s with heap := h', toks := tk } → Fr h₀ L h' m → h'.get? I = some oI → h'.get? C = some oC → h'.get? D = some oD → News h₀ L h' nx → (∀ p ∈ nx, p.1 ≠ I ∧ p.1 ≠ C ∧ p.1 ≠ D) → Jn y nx → P) : P := by
  obtain ⟨h₄, tk₄, nx₄, all, e, F₄, N₄, iI, iC, iD, hsub, off₄, hJ₄⟩ := x
  exact k h₄ tk₄ nx₄ e F₄ (N₄ _ iI).1 (N₄ _ iC).1 (N₄ _ iD).1 (nsub N₄ hsub) off₄ hJ₄
theorem comp_core {ct elt target iter : Expr} {scope : Scope} {pos : Pos} {s₁ : Shared} {I C D : Addr} {fp : List Addr} {n : Nat} {P : Nat → Value → Prop} {St : Nat → Heap → Prop} {J : Nat → List Value → List (Addr × Obj) → Prop} {RR : Result → Shared → Prop} {S : List (Addr × Obj) → Prop}
    (W : Walks prog w A I fp [I] n P St) (hIo : ∀ i h, St i h → ∃ o, h.get? I = some o)
    (hSt : ∀ i h h' o nx, St i h → h.get? I = some o → h'.get? I = some o → News h₀ L h' nx → S nx → St i h')
    (hgo : ∀ i (s' : Shared) v (Q' : Unit → Shared → Prop) (E' : Value → Shared → Prop), St i s'.heap → Q' () s' → wpAny (model prog w) A (letOwnedTupleGo target (.ref I) v) Q' E' s')
    (hIL : I ≠ L) (hI₀ : h₀.get? I = none) (hCL : C ≠ L) (hC₀ : h₀.get? C = none) (ne : I ≠ C ∧ I ≠ D ∧ C ≠ D) (hsz : n ≤ sizeLine) (hJS : ∀ i ys nx, J i ys nx → S nx)
    (turn : ∀ i ys nx v, J i ys nx → P i v → ∃ Bd : (Str → Option Value) → Prop, Asg prog w A h₀ L s₁ C D target env ys nx v Bd ∧ CBody prog w A h₀ L m s₁ I C D ct elt env J i ys nx Bd)
    (done : ∀ h tk m' ys nx, Fr h₀ L h m → News h₀ L h ((D, lst ys) :: nx) → (∀ p ∈ nx, p.1 ≠ I ∧ p.1 ≠ C ∧ p.1 ≠ D) → h.Ns C m' → J n ys nx → RR (.ok .next) { s₁ with heap := h, toks := tk })
    {s₃ : Shared} (h0 : CInv h₀ L m s₁ I C D n St J (n + 1) s₃) :
    codeAny (model prog w) A (.compLoop (.ListComp elt [⟨target, iter, [ct], 0⟩] scope pos) 0 (.ref I) (.ref D) env) RR s₃ := by
  obtain ⟨hCI, hDI, hCD⟩ := ne
  have turn' := turn
  clear turn
  have next : ∀ {oI oC oD : Obj} {ys ys' : List Value} {nx : List (Addr × Obj)} {i : Nat} {m' : Str → Option Value} {h₄ h₅ : Heap} {tk₄ : Nat}, i < n → St (i + 1) h₄ → h₄.get? I = some oI → h₅.get? I = some oI → Fr h₀ L h₅ m → h₅.Ns C m' → News h₀ L h₅ ((D, lst ys') :: nx) → (∀ p ∈ nx, p.1 ≠ I ∧ p.1 ≠ C ∧ p.1 ≠ D) → J (i + 1) ys' nx → ys'.length ≤ i + 1 → ∃ k, k < n + 1 - i ∧ CInv h₀ L m s₁ I C D n St J k { s₁ with heap := h₅, toks := tk₄ } :=
    fun {oI oC oD ys ys' nx i m' h₄ h₅ tk₄} hi st e1 e2 F hn N off hJ hl => ⟨n + 1 - (i + 1), by omega, .mk h₅ tk₄ (i + 1) ys' m' nx rfl hi rfl hl (hSt _ _ _ _ _ st e1 e2 (nsub N fun p hp => .tail _ hp) (hJS _ _ _ hJ)) F hn N off hJ⟩
  refine compLoop_pt (CInv h₀ L m s₁ I C D n St J) ?_ (n + 1) h0
  rintro k s' ⟨h', tk, i, ys, m', nx, rfl, hi, rfl, hyl, hst', F', hn', N', off', hJ⟩
  have offI : ∀ p ∈ (D, lst ys) :: nx, p.1 ≠ I := List.forall_mem_cons.mpr ⟨Ne.symm hDI, fun p hp => (off' p hp).1⟩
  by_cases hlt : i < n
  · refine W.item i _ _ _ hlt hst' fun v h₂ tk₂ hPv hst₂ hk₂ => ?_
    obtain ⟨Bd, ha, hb⟩ := turn' i ys nx v hJ hPv
    have N₂ := news_but N' hk₂ offI
    have hnC := hn'.at' fun o e => hk₂ C o (by simpa using Ne.symm hCI) e
    have F₂ := fr_but F' hk₂ (Ne.symm hIL) hI₀
    refine hgo (i + 1) _ v _ _ hst₂ (ha h₂ tk₂ m' _ _ hnC N₂ fun h₃ tk₃ m₃ hBd hn₃ hk₃ => ?_)
    obtain ⟨oI, heI2⟩ := hIo _ _ hst₂
    have heI := hk₃ _ _ (by simpa using hCI) heI2
    obtain ⟨oC, heC, hoC⟩ := ns_obj hn₃
    have N₃ : News h₀ L h₃ ((I, oI) :: (C, oC) :: (D, lst ys) :: nx) := List.forall_mem_cons.mpr ⟨⟨heI, hIL, hI₀⟩, List.forall_mem_cons.mpr ⟨⟨heC, hCL, hC₀⟩, news_but N₂ hk₃ (List.forall_mem_cons.mpr ⟨Ne.symm hCD, fun p hp => (off' p hp).2.1⟩)⟩⟩
    refine wpAny_mono (hb oI oC m₃ h₃ _ _ hoC hBd (fr_but F₂ hk₃ (Ne.symm hCL) hC₀) N₃ off' ⟨hCI, hDI, hCD⟩) (fun ok s₄ h₄ => ?_) fun _ _ e => e
    have hD := (N₂ _ (.head _)).2
    clear N₃ heI heC hBd hn₃ hk₃ hnC N₂ F₂ F' N' hn' hk₂ hst' ha hb
    cases ok with
    | true =>
      rw [if_pos rfl] at h₄ ⊢
      refine wpAny_mono h₄ (fun y s₅ h₅ => ?_) fun _ _ e => e
      refine h₅.out fun h₄ tk₄ nx₄ e F₄ zI zC zD N₄ off₄ R₄ => ?_
      subst e
      refine append_at (hsz := by show ys.toArray.size ≤ sizeLine; rw [List.size_toArray]; omega) zD fun h₅ hs₅ hD₅ => ?_
      exact next (oC := oC) (oD := oC) (ys := ys) hlt hst₂ heI2 (hs₅.extBut _ _ hDI zI) (F₄.change hs₅ hD.1 hD.2) ((hoC.ns zC).sameBut hs₅ hCD)
        (List.forall_mem_cons.mpr ⟨⟨hD₅.trans (congrArg some (lst_snoc ys y)), hD⟩, fun p hp => ⟨hs₅.extBut _ _ (off₄ p hp).2.2 (N₄ p hp).1, (N₄ p hp).2⟩⟩) off₄ R₄ (by rw [List.length_append]; exact Nat.succ_le_succ hyl)
    | false =>
      rw [if_neg (by decide)] at h₄ ⊢
      refine h₄.out fun h₄ tk₄ nx₄ e F₄ zI zC zD N₄ off₄ R₄ => ?_
      subst e
      exact next (oC := oC) (oD := oC) (ys := ys) hlt hst₂ heI2 zI F₄ (hoC.ns zC) (List.forall_mem_cons.mpr ⟨⟨zD, hD⟩, N₄⟩) off₄ R₄ (Nat.le_succ_of_le hyl)
  · obtain rfl : i = n := Nat.le_antisymm hi (Nat.not_lt.mp hlt)
    exact W.done _ _ _ hst' fun h₂ tk₂ hk₂ => done h₂ tk₂ m' ys nx (fr_but F' hk₂ (Ne.symm hIL) hI₀) (news_but N' hk₂ offI) off' (hn'.at' fun o e => hk₂ C o (by simpa using Ne.symm hCI) e) hJ

theorem blockPT {ct elt iter : Expr} {x x₂ : Str} {px px₂ tp : Pos} {tkk} {scope : Scope} {cl : List (Str × Addr)} {pos : Pos} {s₁ : Shared} {ax : Addr} {vs : List Value} {nn : Nat} {news : List (Addr × Obj)} {J : Nat → List Value → List (Addr × Obj) → Prop} {RR : Value → Addr → Result → Shared → Prop} (hh : A.handled = none)
    (hcell : ∀ y ∈ scope.names, y.2 ≠ .cell) (hkind : scope.kind = .function)
    (hx : scope.names.lookup x = some .local) (hx₂ : scope.names.lookup x₂ = some .local) (hxx : x ≠ x₂)
    (F : Fr h₀ L s₁.heap m) (N : News h₀ L s₁.heap news) (hJS : ∀ i ys nx, J i ys nx → (ax, tupO vs nn) ∈ nx) (hJ0 : J 0 [] news) (hsz : vs.length ≤ sizeLine)
    (turn : ∀ i ys nx v, J i ys nx → vs[i]? = some v → ∃ t v₁ v₂ nt, v = .ref t ∧ (t, tupO [v₁, v₂] nt) ∈ nx ∧ TurnPT prog w A h₀ L m env ct elt x x₂ scope cl s₁ J i ys nx v₁ v₂)
    (hRR : ∀ D C h tk m' ys nx, Fr h₀ L h m → News h₀ L h ((D, lst ys) :: nx) → (∀ p ∈ nx, p.1 ≠ D) → h.Ns C m' → h₀.get? C = none → h₀.get? D = none → C ≠ L → D ≠ L → C ≠ D → (∀ p ∈ nx, p.1 ≠ C) → J vs.length ys nx → RR (.ref D) C (.ok .next) { s₁ with heap := h, toks := tk }) :
    wpAny (model prog w) A (pyIter (.ref ax)) (fun it s₂ => wpAny (model prog w) A (newList []) (fun acc s₃ => wpAny (model prog w) A (newFunctionEnv scope env.globals cl [] env.qual none .none (some env)) (fun cenv s₄ =>
      codeAny (model prog w) A (.compStart (.ListComp elt [⟨.Tuple [.Name x px, .Name x₂ px₂] tkk tp, iter, [ct], 0⟩] scope pos) 0 it acc { cenv with scope := relabel scope env }) (RR acc cenv.locals) s₄) E s₃) E s₂) E s₁ := by
  have hmx := hJS _ _ _ hJ0
  have hl : s₁.heap.IsTuple ax vs.toArray := ⟨_, (N _ hmx).1, rfl, _, rfl⟩
  have hltx : ax < s₁.heap.objs.size := Heap.lt_size (N _ hmx).1
  refine wpAny_pyIter_tuple hl ?_
  have up : ∀ b o, s₁.heap.get? b = some o → (s₁.heap.push { cls := .type "tuple_iterator", data := .fields #[.ref ax, .int 0 0] }).get? b = some o := fun b o e => Heap.get?_push_of_some _ e
  have W := Walks.tuple (prog := prog) (w := w) hh s₁.heap.objs.size ax (Nat.ne_of_lt hltx) vs.toArray
  rw [show vs.toArray.size = vs.length from List.size_toArray] at W
  refine comp_open (s₂ := { s₁ with heap := s₁.heap.push { cls := .type "tuple_iterator", data := .fields #[.ref ax, .int 0 0] } }) (Z := fun acc cenv s₄ => codeAny (model prog w) A (.compStart (.ListComp elt [⟨.Tuple [.Name x px, .Name x₂ px₂] tkk tp, iter, [ct], 0⟩] scope pos) 0 (.ref s₁.heap.objs.size) acc { cenv with scope := relabel scope env }) (RR acc cenv.locals) s₄) hcell hkind (F.keeps up) (N.grown up) fun C D h₁ tk cenv e1 e2 O => ?_
  dsimp only
  rw [e1, e2]
  clear e1 e2
  have hst₁ := W.frame _ _ _ (show _ ∧ _ from ⟨⟨_, Heap.get?_push_size _ rfl, rfl, rfl⟩, ⟨_, up _ _ (N _ hmx).1, rfl, _, rfl⟩⟩) fun b _ o e => O.up b o e
  have hIs : s₁.heap.objs.size < (s₁.heap.push { cls := .type "tuple_iterator", data := .fields #[.ref ax, .int 0 0] }).objs.size := by rw [Heap.size_push]; exact Nat.lt_succ_self _
  have hI := O.off _ hIs
  have hI₀ : h₀.get? s₁.heap.objs.size = none := next_is_new F
  have hIL : s₁.heap.objs.size ≠ L := Nat.ne_of_gt F.ns.lt
  have off₀ : ∀ p ∈ news, p.1 ≠ s₁.heap.objs.size ∧ p.1 ≠ C ∧ p.1 ≠ D := fun p hp => ⟨Nat.ne_of_lt (Heap.lt_size (N p hp).1), O.off _ (Nat.lt_trans (Heap.lt_size (N p hp).1) hIs)⟩
  obtain ⟨m', hn⟩ := O.ns
  have loop := comp_core (iter := iter) (scope := scope) (pos := pos) (ct := ct) (elt := elt) (target := .Tuple [.Name x px, .Name x₂ px₂] tkk tp) (env := compEnvC scope cl C env) (s₁ := s₁) (C := C) (D := D) (RR := RR (.ref D) C) (S := fun nx => (ax, tupO vs nn) ∈ nx) W (fun i h st => by obtain ⟨o, e, _⟩ := st.1; exact ⟨o, e⟩)
    (fun i h h' o nx st e e' N' S => ⟨by obtain ⟨o', q, r⟩ := st.1; rw [e] at q; cases q; exact ⟨o, e', r⟩, ⟨_, (N' _ S).1, rfl, _, rfl⟩⟩) (fun i s' v Q' E' st q => letGo_tupleiter st.1 q) hIL hI₀ O.CL O.C0 ⟨hI.1, hI.2, Ne.symm O.DC⟩ hsz hJS
    (fun i ys nx v hJ hP => ?_) (fun h tk m' ys nx F' N' off' hn' hJ => hRR D C h tk m' ys nx F' N' (fun p hp => (off' p hp).2.2) hn' O.C0 (N' _ (.head _)).2.2 O.CL (N' _ (.head _)).2.1 (Ne.symm O.DC) (fun p hp => (off' p hp).2.1) hJ)
    (.mk h₁ tk 0 [] m' news rfl (Nat.zero_le _) rfl (Nat.le_refl _) hst₁ O.F hn O.N off₀ hJ0)
  · exact codeAny_compStart_list loop (W.self 0 _ _ _ hst₁ loop)
  · obtain ⟨t, v₁, v₂, nt, rfl, hmt, R⟩ := turn i ys nx v hJ (by simpa using hP)
    refine ⟨fun m₃ => m₃ x = some v₁ ∧ m₃ x₂ = some v₂, fun h₂ tk m' Q E' hn' N' k => ?_, fun oI oC m₂ h tk E' hoC hBd F N off ne => R _ _ _ _ _ _ _ _ _ hoC hBd.1 hBd.2 F N off ne⟩
    refine assign_Tuple_tuple hh ⟨_, (N' _ (List.mem_cons_of_mem _ hmt)).1, rfl, nt, rfl⟩ rfl rfl fun h₅ he => ?_
    have he' : ∀ b o, h₂.get? b = some o → h₅.get? b = some o := fun b o e => he b o (Nat.ne_of_lt (Heap.lt_size e)) e
    refine assignInOrder_cons (wpAny_assign_Name (wpAny_storeName_local (lookup_relabel_local hx) (hn'.at' fun o e => he' _ o e) (fun h₆ hn₆ hs₆ => ?_) (by simp [compEnvC, relabel, hkind])))
    refine assignInOrder_cons (wpAny_assign_Name (wpAny_storeName_local (lookup_relabel_local hx₂) hn₆ (fun h₃ hn₃ hs₃ => ?_) (by simp [compEnvC, relabel, hkind])))
    exact assignInOrder_nil (k h₃ _ _ ⟨by simp [hxx], by simp⟩ hn₃ fun b o hb e => hs₃.extBut b o (fun q => hb (List.mem_singleton.mpr q)) (hs₆.extBut b o (fun q => hb (List.mem_singleton.mpr q)) (he' b o e)))

theorem ListComp_PT {ct elt iter : Expr} {x x₂ : Str} {px px₂ tp : Pos} {tkk} {scope : Scope} {cl : List (Str × Addr)} {pos : Pos} {Q : Value → Shared → Prop} (hh : A.handled = none)
    (hclos : closureFor scope env = pure cl) (hcell : ∀ y ∈ scope.names, y.2 ≠ .cell) (hkind : scope.kind = .function)
    (hnames : ∀ y ∈ scope.names, y.2 = .local → scope.names.lookup y.1 = some .local) (hx : scope.names.lookup x = some .local) (hx₂ : scope.names.lookup x₂ = some .local) (hxx : x ≠ x₂)
    (h : wpAny (model prog w) A (eval iter env) (SrcPT prog w A h₀ L m env ct elt x x₂ scope cl (fun _ => m) (fun D => Q (.ref D))) E s)
    (hs : ∀ x, foldedSetIterable iter env x = pure x := by intro _; rfl) :
    wpAny (model prog w) A (eval (.ListComp elt [⟨.Tuple [.Name x px, .Name x₂ px₂] tkk tp, iter, [ct], 0⟩] scope pos) env) Q E s := by
  rw [eval_ListComp]
  refine wpAny_comprehension_free (use := none) rfl hs hclos hkind hnames (wpAny_mono h (fun xv s₁ h₁ => ?_) fun _ _ e => e)
  obtain ⟨ax, vs, nn, news, J, rfl, F, N, hJS, hJ0, hsz, turn, fin⟩ := h₁
  refine blockPT hh hcell hkind hx hx₂ hxx F N hJS hJ0 hsz turn ?_
  intro D C h tk m' ys nx F' N' o1 hn hC₀ hD₀ hCL hDL hCD offC hJ
  refine ⟨m', hn, fun h'' hs'' => fin D h'' tk ys nx hJ (F'.change hs'' hCL hC₀) (fun p hp => ?_) o1⟩
  refine ⟨hs''.extBut _ _ ?_ (N' p hp).1, (N' p hp).2⟩
  rcases List.mem_cons.mp hp with rfl | hp
  · exact Ne.symm hCD
  · exact offC p hp
theorem Assign_ListComp_PT {ct elt iter : Expr} {x x₂ y : Str} {px px₂ tp py : Pos} {tkk} {scope : Scope} {cl : List (Str × Addr)} {pos spos : Pos} {Q : Flow → Shared → Prop} (hh : A.handled = none) (F₀ : Fr h₀ L s.heap m) (hLe : env.locals = L)
    (hsw : swapsWith (.ListComp elt [⟨.Tuple [.Name x px, .Name x₂ px₂] tkk tp, iter, [ct], 0⟩] scope pos) (some (.Name y py)) spos.line env = pure true)
    (hclos : closureFor scope env = pure cl) (hcell : ∀ z ∈ scope.names, z.2 ≠ .cell) (hkind : scope.kind = .function)
    (hnames : ∀ z ∈ scope.names, z.2 = .local → scope.names.lookup z.1 = some .local) (hx : scope.names.lookup x = some .local) (hx₂ : scope.names.lookup x₂ = some .local) (hxx : x ≠ x₂)
    (hy : env.kindOf y = some .local) (hp : (env.scope.kind == .class || (env.scope.kind == .module && env.locals != env.globals)) = false)
    (h : wpAny (model prog w) A (eval iter env) (SrcPT prog w A h₀ L m env ct elt x x₂ scope cl (fun D z => if z = y then some (.ref D) else m z) (fun _ => Q .next)) E s)
    (hs : ∀ x, foldedSetIterable iter env x = pure x := by intro _; rfl) :
    wpAny (model prog w) A (exec (.Assign [.Name y py] (.ListComp elt [⟨.Tuple [.Name x px, .Name x₂ px₂] tkk tp, iter, [ct], 0⟩] scope pos) spos) env) Q E s := by
  subst hLe
  refine (fun _ : Fr h₀ env.locals s.heap m => ?_) F₀
  rw [exec_Assign_Name_used _ _ _ _ hsw]
  refine wpAny_bind (wpAny_standAt (wpAny_bind ?_))
  show wpAny _ A (do let _ ← comprehension (.ListComp elt [⟨.Tuple [.Name x px, .Name x₂ px₂] tkk tp, iter, [ct], 0⟩] scope pos) scope env _ (newList []) false (eval iter env) (some (assign (.Name y py) env))) _ _ s
  refine wpAny_bind (wpAny_mono (wpAny_comprehension_free (use := some (assign (.Name y py) env)) (Q := fun _ s' => Q .next s') rfl hs hclos hkind hnames
    (wpAny_mono h (fun xv s₁ h₁ => ?_) fun _ _ e => e)) (fun _ s' hq => wpAny_pure (wpAny_pure hq)) fun _ _ e => e)
  obtain ⟨ax, vs, nn, news, J, rfl, F, N, hJS, hJ0, hsz, turn, fin⟩ := h₁
  refine blockPT hh hcell hkind hx hx₂ hxx F N hJS hJ0 hsz turn ?_
  intro D C h' tk m' ys nx F' N' o1 hn hC₀ hD₀ hCL hDL hCD offC hJ
  show wpAny _ A (assign (.Name y py) env (.ref D)) _ _ _
  refine wpAny_assign_Name (wpAny_storeName_local hy F'.ns (fun h₂ hn₂ hs₂ => ?_) hp)
  have hL₀ : h₀.get? env.locals = none := Heap.get?_none_of_le F'.above
  have F₂ : Fr h₀ env.locals h₂ (fun z => if z = y then some (.ref D) else m z) := ⟨hn₂, fun b o e => hs₂.extBut b o (fun q => by rw [q, hL₀] at e; cases e) (F'.keep b o e), F'.above⟩
  refine ⟨m', hn.sameBut hs₂ hCL, fun h'' hs'' => fin D h'' _ ys nx hJ (F₂.change hs'' hCL hC₀) (fun p hp => ?_) o1⟩
  have z : h₂.get? p.1 = some p.2 := hs₂.extBut _ _ (N' p hp).2.1 (N' p hp).1
  refine ⟨hs''.extBut _ _ ?_ z, (N' p hp).2⟩
  rcases List.mem_cons.mp hp with rfl | hp
  · exact Ne.symm hCD
  · exact offC p hp
end
end
section
section
variable {prog : Program} {w : World} {A : Around} {E : Value → Shared → Prop} {s : Shared} {h₀ : Heap} {L D : Addr} {m : Str → Option Value} {news news' : List (Addr × Obj)} {vs : List Value} {n : Nat}
theorem pop_L {p : List Value} {y : Value} {Q : Value → Shared → Prop} (F : Fr h₀ L s.heap m) (N : News h₀ L s.heap news) (U : Upd D (lstO (p ++ [y]) n) (lstO p (n + 1)) news news') (hz : (p ++ [y]).length ≤ sizeLine)
    (h : ∀ h', Fr h₀ L h' m → News h₀ L h' news' → Q y { s with heap := h' }) : wpAny (model prog w) A (call (.builtin "list.pop") [.ref D]) Q E s :=
  kl_pop (its := (p ++ [y]).toArray) (n := n) F N (kpa_last y p) U hz h
theorem set_L {k : Int} {j : Nat} {t : Tok} {v : Value} {Q : Unit → Shared → Prop} (F : Fr h₀ L s.heap m) (N : News h₀ L s.heap news) (hk : k = (j : Int)) (U : Upd D (lstO vs n) (lstO (vs.set j v) n) news news') (hj : j < vs.length) (hz : vs.length ≤ 100000)
    (h : ∀ h', Fr h₀ L h' m → News h₀ L h' news' → Q () { s with heap := h' }) : wpAny (model prog w) A (setItem (.ref D) (.int k t) v) Q E s := by
  subst hk
  obtain ⟨pre, post, rfl, rfl, a, b⟩ := U.split
  have z := N (D, lstO vs n) (List.mem_append.mpr (.inr (.head _)))
  have hs : vs.toArray.size = vs.length := by rw [List.size_toArray]
  refine ki_setAt (items := vs.toArray) (n := n) z.1 (by omega) (by omega) (by omega) (h _ (F.change (Heap.SameBut.update ..) z.2.1 z.2.2) (ki_turn (its := vs.toArray) (n := n) _ N a b ?_ ?_))
  · show vs.toArray.setIfInBounds ((j : Int)).toNat v = (vs.set j v).toArray
    apply Array.toList_inj.mp
    simp
  · simp
end

inductive Node where
  | leaf (p : Option Nat)
  | list (ps : List Nat)
  | ask (f : Nat) (x : Wish) (yes no : Nat)
def natOr : Option Nat → Dat
  | none => .none
  | some i => .int (i : Nat)
def Node.dat : Node → Dat
  | .leaf p => .tuple [.str (Str.ofString "leaf"), natOr p]
  | .list ps => .tuple [.str (Str.ofString "list"), .tuple (ps.map fun i => .int (i : Nat))]
  | .ask f x yes no => .tuple [.str (Str.ofString "ask"), .int (f : Nat), x.dat, .int (yes : Nat), .int (no : Nat)]
def nodeDat : Option Node → Dat
  | none => .none
  | some n => n.dat
theorem all_set {news : List (Addr × Obj)} {vs : List Value} {ds : List Dat} {v : Value} {d : Dat} (h : DatAll news vs ds) (hv : DatIn news v d) : ∀ j : Nat, DatAll news (vs.set j v) (ds.set j d) := by
  induction vs generalizing ds with
  | nil => intro j; cases h; exact .nil
  | cons u vs ih =>
    intro j
    cases h with
    | cons h r =>
      cases j with
      | zero => exact .cons hv r
      | succ j => exact .cons h (ih r j)
theorem eq_nil_B {prog : Program} {w : World} {A : Around} {E : Value → Shared → Prop} {s : Shared} {h₀ : Heap} {L a b : Addr} {news n₁ : List (Addr × Obj)} {xs : List Value} {ka kb : Nat} {ds : List Dat} {Q : Value → Shared → Prop} (B : Bool) (hB : xs.isEmpty = B)
    (N : News h₀ L s.heap news) (ma : (a, lstO xs ka) ∈ news) (Da : DatAll n₁ xs ds) (sa : ∀ p ∈ n₁, p ∈ news) (hok : ∀ d ∈ ds, kqdOk 8 d = true) (mb : (b, lstO [] kb) ∈ news) (hu : A.units + 64 < cLine) (h : Q (.bool B) s) :
    wpAny (model prog w) A (compareOp .Eq (.ref a) (.ref b)) Q E s := eq_nil_L N ma Da sa hok mb hu (hB ▸ h)
open PySem.Spec PyProof.V
theorem eq_nil_T {prog : Program} {w : World} {A : Around} {E : Value → Shared → Prop} {s : Shared} {h₀ : Heap} {L a b : Addr} {news n₁ : List (Addr × Obj)} {xs : List Value} {ka kb : Nat} {ds : List Dat} {Q : Value → Shared → Prop} (B : Bool) (hB : xs.isEmpty = B)
    (N : News h₀ L s.heap news) (ma : (a, tupO xs ka) ∈ news) (Da : DatAll n₁ xs ds) (sa : ∀ p ∈ n₁, p ∈ news) (ha : ∀ d ∈ ds, kqdOk 8 d = true) (mb : (b, tupO [] kb) ∈ news) (hu : A.units + 64 < cLine) (h : Q (.bool B) s) :
    wpAny (model prog w) A (compareOp .Eq (.ref a) (.ref b)) Q E s := by
  obtain ⟨as, ra⟩ := kqd_all N 8 (Da.mono sa) ha
  obtain ⟨bs, rb⟩ := kqd_all N 8 (vs := []) (ds := []) DatAll.nil (fun _ h => nomatch h)
  have la := kqd_lay 9 (.tuple ds) (by simpa [kqdOk] using ha)
  have lb := kqd_lay 9 (.tuple []) (by simp [kqdOk])
  rw [kqdP] at la lb
  have e : PyData.eqv (.tuple (kqdPs ds)) (.tuple (kqdPs [])) = B := by
    have q := kqd_eqv 9 (.tuple ds) (.tuple []) 9 (by simpa [kqdOk] using ha) (by simp [kqdOk])
    rw [kqdP, kqdP, Dat.tuple.injEq] at q
    rw [← hB]
    cases Da with
    | nil => exact q.mpr rfl
    | cons _ _ => exact Bool.eq_false_iff.mpr fun x => by have := q.mp x; cases this
  refine eq_dataH (reads_tuple_at (N.get ma) rfl rfl (by simpa using ra)) (reads_tuple_at (N.get mb) rfl rfl (by simpa using rb)) ?_ ?_ hu (by rw [e]; exact h)
  · unfold SeqAt.shaped; rw [la.1, Bool.true_and]; exact decide_eq_true (Nat.le_trans la.2 (by decide))
  · unfold SeqAt.shaped; rw [lb.1, Bool.true_and]; exact decide_eq_true (Nat.le_trans lb.2 (by decide))
theorem offP {nx : List (Addr × Obj)} {I C : Addr} {a b : Obj} (h1 : ∀ p ∈ nx, p.1 ≠ I) (h2 : ∀ p ∈ nx, p.1 ≠ C) : ∀ p ∈ [(I, a), (C, b)], ∀ q ∈ nx, q.1 ≠ p.1 := by
  intro p hp q hq
  rcases List.mem_cons.mp hp with rfl | hp
  · exact h1 q hq
  · rcases List.mem_cons.mp hp with rfl | hp
    · exact h2 q hq
    · cases hp
theorem onP1 {nx : List (Addr × Obj)} {I C : Addr} {a b : Obj} (h : ∀ p ∈ [(I, a), (C, b)], ∀ q ∈ nx, q.1 ≠ p.1) : ∀ p ∈ nx, p.1 ≠ I := fun q hq => h _ (.head _) q hq
theorem onP2 {nx : List (Addr × Obj)} {I C : Addr} {a b : Obj} (h : ∀ p ∈ [(I, a), (C, b)], ∀ q ∈ nx, q.1 ≠ p.1) : ∀ p ∈ nx, p.1 ≠ C := fun q hq => h _ (.tail _ (.head _)) q hq
theorem list_L {prog : Program} {w : World} {A : Around} {E : Value → Shared → Prop} {s : Shared} {h₀ : Heap} {L b : Addr} {m : Str → Option Value} {news : List (Addr × Obj)} {vs : List Value} {n : Nat} {Q : Value → Shared → Prop} (F : Fr h₀ L s.heap m) (N : News h₀ L s.heap news) (hm : (b, lstO vs n) ∈ news) (hz : vs.length ≤ sizeLine)
    (h : ∀ D c h', Fr h₀ L h' m → News h₀ L h' ((D, lstO vs c) :: news) → (∀ p ∈ news, p.1 < D) → Q (.ref D) { s with heap := h' }) : wpAny (model prog w) A (call (.type "list") [.ref b]) Q E s :=
  kup_listOf (zs := vs) F N hm (by simp) h (by simpa using hz)
theorem ne_nil_B {prog : Program} {w : World} {A : Around} {E : Value → Shared → Prop} {s : Shared} {h₀ : Heap} {L a b : Addr} {news n₁ : List (Addr × Obj)} {xs : List Value} {ka kb : Nat} {ds : List Dat} {Q : Value → Shared → Prop} (B : Bool) (hB : xs.isEmpty = B)
    (N : News h₀ L s.heap news) (ma : (a, lstO xs ka) ∈ news) (Da : DatAll n₁ xs ds) (sa : ∀ p ∈ n₁, p ∈ news) (hok : ∀ d ∈ ds, kqdOk 8 d = true) (mb : (b, lstO [] kb) ∈ news) (hu : A.units + 64 < cLine) (h : Q (.bool (!B)) s) :
    wpAny (model prog w) A (compareOp .NotEq (.ref a) (.ref b)) Q E s := ne_nil_L N ma Da sa hok mb hu (hB ▸ h)
theorem all_back {news : List (Addr × Obj)} {vs : List Value} {ds : List Dat} {d : Dat} (h : DatAll news vs (ds ++ [d])) : ∃ vs' v, vs = vs' ++ [v] ∧ DatAll news vs' ds ∧ DatIn news v d := by
  induction ds generalizing vs with
  | nil => cases h with | cons h r => cases r; exact ⟨[], _, rfl, .nil, h⟩
  | cons e ds ih =>
    cases h with
    | cons h r =>
      obtain ⟨vs', v, rfl, h1, h2⟩ := ih r
      exact ⟨_ :: vs', v, rfl, .cons h h1, h2⟩
section
variable {w : World} {mean : ExcName → Option Value} {mg mb : Str → Option Value}
theorem spec_introB {name qual : Str} {params : Arguments} {body : List Stmt} {scope : Scope} {dV kV doc pm cdv ct oc : Value} {an od : Option Addr} {osl : Array (Option Value)} {f : Addr} {args : List Value} {d : Nat} {news : List (Addr × Obj)} {Ok : List (Addr × Obj) → Value → Prop}
    (ho : (hd.heap_1 w.params).lookup f = some ⟨oc, od, .func (fnOf name qual params body scope dV kV doc pm an cdv ct), osl⟩) (hcd : codeIn (hd.heap_1 w.params) cdv qual = true)
    (hbind : ∀ s : Shared, (hd.heap_1 w.params).In s.heap → BindsTo s (fnOf name qual params body scope dV kV doc pm an cdv ct) ⟨args, []⟩ ((params.args.map (·.arg)).zip args)) (hloc : (((params.args.map (·.arg)).zip args).all fun x => decide (scope.names.lookup x.1 = some .local)) = true)
    (hco : scope.isCoroutine = false) (hgen : scope.isGenerator = false) (hk : scope.kind = .function) (hcell : ∀ x ∈ scope.names, x.2 ≠ .cell)
    (h : ∀ (dp un : Nat) (gd : Option (List Code)) (fr : Option (List Env)) (envc : Env) (outer : List Env) (A₀ : Around) (base g : Heap) (L : Addr) (h₁ : Heap) (ge : Array GenState) (dr : Drawn) (os : OsState) (tk : Nat),
      let A9 : Around := Aro dp un gd fr; let E9 : Env := envX qual scope L f cdv [];
      Cx w mean mg mb A9 d E9 (envc :: outer) A₀ base g L → Room A9 d → fr = some (E9 :: envc :: outer) → Below A₀ base (envc :: outer) g → (hd.heap_1 w.params).In g → Top topView Lz mean mg mb g →
      Fr g L h₁ (fun y => ((params.args.map (·.arg)).zip args).reverse.lookup y) → News g L h₁ news →
      ∀ T : Flow → Shared → Prop, Veil (fun fl s' => Ends g L ge dr os Ok (match fl with | .ret v => v | _ => .none) s') T → wpAny (model PR w) A9 (execs body E9) T (fun _ _ => False) ⟨h₁, ge, dr, tk, os⟩) :
    Spec w mean mg mb f (d + 1) args news Ok := by
  intro A env outer A₀ base h₀ L m s R hr hA hf hke B F X N T ret
  obtain ⟨FG, BG, st, lv⟩ := groundX (R := R) B F N hA hf hke
  have X2 : (hd.heap_1 w.params).In (hideAll s.heap (news.map (·.1))) := X.keeps fun b o e => st b o e
  have T2 : Top topView Lz mean mg mb (hideAll s.heap (news.map (·.1))) := T.keeps fun b o e => st b o e
  refine codeAny_call_def (fd := fnOf name qual params body scope dV kV doc pm an cdv ct) (body := body) (binds := (params.args.map (·.arg)).zip args) (Nat.lt_of_le_of_lt (Nat.le_add_right _ _) hr.dep) ((X.keeps F.keep) _ _ ho) rfl (T.nolimit.keeps F.keep) (codeRec_of (X.keeps F.keep) hcd) rfl (hbind _ (X.keeps F.keep)) hcell (locs hloc) (fun h₁ hns hk₁ => ?_) hco hgen hk
  have ea := aro_of (A := A.deeper (envOf qual scope s.heap.objs.size f cdv)) hr.hh
  have hr' : Room (A.deeper (envOf qual scope s.heap.objs.size f cdv)) d := hr.deeper
  show wpAny (model PR w) (A.deeper (envOf qual scope s.heap.objs.size f cdv)) (execs body (envOf qual scope s.heap.objs.size f cdv)) _ _ _
  rw [ea] at hr' ⊢
  refine wpAny_mono (h _ _ _ _ env outer A base (hideAll s.heap (news.map (·.1))) s.heap.objs.size h₁ s.gens s.drawn s.os _ ⟨hr', Around.frames_deeper hA, rfl, hk, BG, X2, T2⟩ hr' (Around.frames_deeper hA) BG X2 T2 ⟨hns, fun b o e => hk₁ b o (of_hideAll _ e), Nat.le_of_eq (hideAll_size _ _)⟩
    (fun p hp => ⟨hk₁ _ _ (N p hp).1, Nat.ne_of_lt (Heap.lt_size (N p hp).1), hideAll_none _ (List.mem_map_of_mem hp)⟩) _ veil0) (fun fl s' e => ?_) fun _ _ e => e.elim
  obtain ⟨h', m', news', tk', rfl, F₂, N₂, ok⟩ := e
  exact lv _ _ (leaveK_ F₂ N₂ fun F₃ N₃ => ret _ _ _ _ F₃ N₃ (Kept.of F₂ N₂) ok)

end
end
section
open LCg
section
variable {prog : Program} {w : World} {A : Around} {E : Value → Shared → Prop} {R : Result → Shared → Prop} {s : Shared}
theorem turn_d1 (elt t1 t2 i1 i2 : Expr) (scope : Scope) (pos : Pos) (it acc : Value) (env : Env) :
    compTurn (.ListComp elt [⟨t1, i1, [], 0⟩, ⟨t2, i2, [], 0⟩] scope pos) 1 it acc env = (standAt i2.pos >>= fun _ => pyNext it >>= fun r => match r with
      | none => pure (.done .next)
      | some v => letOwnedTupleGo t2 it v >>= fun _ => assign t2 env v >>= fun _ =>
        (eval elt env >>= fun x => call (.builtin "list.append") [acc, x] >>= fun _ => pure ()) >>= fun _ =>
          again (.compLoop (.ListComp elt [⟨t1, i1, [], 0⟩, ⟨t2, i2, [], 0⟩] scope pos) 1 it acc env)) := by rfl
theorem turn_d0 (elt t1 t2 i1 i2 : Expr) (scope : Scope) (pos : Pos) (it acc : Value) (env : Env) :
    compTurn (.ListComp elt [⟨t1, i1, [], 0⟩, ⟨t2, i2, [], 0⟩] scope pos) 0 it acc env = (standAt i1.pos >>= fun _ => pyNext it >>= fun r => match r with
      | none => pure (.done .next)
      | some v => letOwnedTupleGo t1 it v >>= fun _ => assign t1 env v >>= fun _ =>
        eval i2 env >>= fun x => standAt i2.pos >>= fun _ => foldedSetIterable i2 env x >>= fun x => holding [x] (pyIter x) >>= fun it2 =>
          runOwn (.compStart (.ListComp elt [⟨t1, i1, [], 0⟩, ⟨t2, i2, [], 0⟩] scope pos) 1 it2 acc env) env >>= fun _ =>
          again (.compLoop (.ListComp elt [⟨t1, i1, [], 0⟩, ⟨t2, i2, [], 0⟩] scope pos) 0 it acc env)) := by rfl
theorem loop_d1 {elt t1 t2 i1 i2 : Expr} {scope : Scope} {pos : Pos} {it acc : Value} {env : Env} (I : Nat → Shared → Prop)
    (turn : ∀ n s, I n s → wpAny (model prog w) A (pyNext it) (fun r s₁ => match r with
      | none => R (.ok .next) s₁
      | some v => wpAny (model prog w) A (letOwnedTupleGo t2 it v) (fun _ s₁' => wpAny (model prog w) A (assign t2 env v) (fun _ s₂ => wpAny (model prog w) A (eval elt env) (fun x s₃ =>
          wpAny (model prog w) A (call (.builtin "list.append") [acc, x]) (fun _ s₄ => ∃ m, m < n ∧ I m s₄) (notedBy (model prog w) A env fun e s' => R (.error e) s') s₃)
          (notedBy (model prog w) A env fun e s' => R (.error e) s') s₂) (notedBy (model prog w) A env fun e s' => R (.error e) s') s₁') (notedBy (model prog w) A env fun e s' => R (.error e) s') s₁) (notedBy (model prog w) A env fun e s' => R (.error e) s') s)
    (n : Nat) (h : I n s) : codeAny (model prog w) A (.compLoop (.ListComp elt [⟨t1, i1, [], 0⟩, ⟨t2, i2, [], 0⟩] scope pos) 1 it acc env) R s := by
  refine codeAny_loop rfl I (fun n s hI => ?_) n h
  show wpAny _ _ ((compTurn (.ListComp elt [⟨t1, i1, [], 0⟩, ⟨t2, i2, [], 0⟩] scope pos) 1 it acc env).onRaise (fun x => do noteFrame x env; theTreesLotGoes x)) _ _ s
  refine wpAny_noted ?_
  rw [turn_d1]
  refine wpAny_bind (wpAny_standAt (wpAny_bind (wpAny_mono (turn n s hI) (fun r s₁ h₁ => ?_) fun _ _ h' => h')))
  cases r with
  | none => exact wpAny_pure h₁
  | some v =>
    refine wpAny_bind (wpAny_mono h₁ (fun _ s₁' h₁' => ?_) fun _ _ h' => h')
    exact wpAny_bind (wpAny_mono h₁' (fun _ s₂ h₂ => wpAny_bind (wpAny_bind (wpAny_mono h₂ (fun x s₃ h₃ => wpAny_bind (wpAny_mono h₃
      (fun _ s₄ h₄ => wpAny_pure (wpAny_pure ⟨rfl, h₄⟩)) fun _ _ h' => h')) fun _ _ h' => h'))) fun _ _ h' => h')
theorem loop_d0 {elt t1 t2 i1 i2 : Expr} {scope : Scope} {pos : Pos} {it acc : Value} {env : Env} (I : Nat → Shared → Prop) (hs2 : ∀ x, foldedSetIterable i2 env x = pure x)
    (turn : ∀ n s, I n s → wpAny (model prog w) A (pyNext it) (fun r s₁ => match r with
      | none => R (.ok .next) s₁
      | some v => wpAny (model prog w) A (letOwnedTupleGo t1 it v) (fun _ s₁' => wpAny (model prog w) A (assign t1 env v) (fun _ s₂ => wpAny (model prog w) A (eval i2 env) (fun x s₃ =>
          wpAny (model prog w) A (pyIter x) (fun it2 s₄ => codeAny (model prog w) A (.compStart (.ListComp elt [⟨t1, i1, [], 0⟩, ⟨t2, i2, [], 0⟩] scope pos) 1 it2 acc env)
            (fun r s₅ => match r with | .ok _ => ∃ m, m < n ∧ I m s₅ | .error e => cameBackBy (model prog w) A env (notedBy (model prog w) A env fun e s' => R (.error e) s') e s₅) s₄) (notedBy (model prog w) A env fun e s' => R (.error e) s') s₃)
          (notedBy (model prog w) A env fun e s' => R (.error e) s') s₂) (notedBy (model prog w) A env fun e s' => R (.error e) s') s₁') (notedBy (model prog w) A env fun e s' => R (.error e) s') s₁) (notedBy (model prog w) A env fun e s' => R (.error e) s') s)
    (n : Nat) (h : I n s) : codeAny (model prog w) A (.compLoop (.ListComp elt [⟨t1, i1, [], 0⟩, ⟨t2, i2, [], 0⟩] scope pos) 0 it acc env) R s := by
  refine codeAny_loop rfl I (fun n s hI => ?_) n h
  show wpAny _ _ ((compTurn (.ListComp elt [⟨t1, i1, [], 0⟩, ⟨t2, i2, [], 0⟩] scope pos) 0 it acc env).onRaise (fun x => do noteFrame x env; theTreesLotGoes x)) _ _ s
  refine wpAny_noted ?_
  rw [turn_d0]
  refine wpAny_bind (wpAny_standAt (wpAny_bind (wpAny_mono (turn n s hI) (fun r s₁ h₁ => ?_) fun _ _ h' => h')))
  cases r with
  | none => exact wpAny_pure h₁
  | some v =>
    refine wpAny_bind (wpAny_mono h₁ (fun _ s₁' h₁' => ?_) fun _ _ h' => h')
    refine wpAny_bind (wpAny_mono h₁' (fun _ s₂ h₂ => ?_) fun _ _ h' => h')
    refine wpAny_bind (wpAny_mono h₂ (fun x s₃ h₃ => ?_) fun _ _ h' => h')
    refine wpAny_bind (wpAny_standAt (wpAny_bind (wpAny_of_eq (hs2 x) ?_)))
    refine wpAny_bind (wpAny_holding (wpAny_mono h₃ (fun it2 s₄ h₄ => ?_) fun _ _ h' => h'))
    refine wpAny_bind (wpAny_runOwn (Q := fun _ s₅ => _) ?_)
    rw [Around.mark_none]
    refine codeAny_mono h₄ fun r s₅ h₅ => ?_
    cases r with
    | ok f => exact wpAny_pure ⟨rfl, h₅⟩
    | error e => exact h₅
theorem start_d1 {elt t1 t2 i1 i2 : Expr} {scope : Scope} {pos : Pos} {it acc : Value} {env : Env}
    (h0 : codeAny (model prog w) A (.compLoop (.ListComp elt [⟨t1, i1, [], 0⟩, ⟨t2, i2, [], 0⟩] scope pos) 1 it acc env) R s)
    (h : wpAny (model prog w) A (pyIter it) (fun it' s' => codeAny (model prog w) A (.compLoop (.ListComp elt [⟨t1, i1, [], 0⟩, ⟨t2, i2, [], 0⟩] scope pos) 1 it' acc env) R s')
      (notedBy (model prog w) A env fun x s' => R (.error x) s') s) :
    codeAny (model prog w) A (.compStart (.ListComp elt [⟨t1, i1, [], 0⟩, ⟨t2, i2, [], 0⟩] scope pos) 1 it acc env) R s := by
  refine codeAny_of_tree ?_
  show wpAny _ _ ((compStart (.ListComp elt [⟨t1, i1, [], 0⟩, ⟨t2, i2, [], 0⟩] scope pos) 1 it acc env).onRaise (fun x => do noteFrame x env; standAt theWindowsPlace)) _ _ s
  refine wpAny_notedAt ?_
  unfold compStart
  show wpAny _ _ (ask >>= _) _ _ s
  refine wpAny_bind (wpAny_askSetting (wpAny_ite ?_))
  split
  · first
      | exact wpAny_bind (wpAny_pure (wpAny_pure (And.intro rfl h0)))
      | exact wpAny_pure (And.intro rfl h0)
  · first
      | exact wpAny_bind (wpAny_rule (wpAny_bind (wpAny_standAt (wpAny_bind (wpAny_mono h (fun it' s' h' => wpAny_pure (And.intro rfl h')) fun _ _ x => x)))))
      | (refine wpAny_bind (wpAny_rule ?_); show wpAny _ _ (standAt i2.pos >>= _) _ _ s; exact wpAny_bind (wpAny_standAt (wpAny_bind (wpAny_mono h (fun it' s' h' => wpAny_pure (And.intro rfl h')) fun _ _ x => x))))
end

section
variable {prog : Program} {w : World} {A : Around} {E : Value → Shared → Prop} {s : Shared} {h₀ : Heap} {L : Addr} {m : Str → Option Value} {env : Env}
inductive In2 (h₀ : Heap) (L : Addr) (m : Str → Option Value) (s₁ : Shared) (I bx C D : Addr) (us : List Value) (y : Str) (m₀ : Str → Option Value) (J : Nat → List Value → List (Addr × Obj) → Prop) (k : Nat) (s' : Shared) : Prop
  | mk (h' : Heap) (tk j : Nat) (ys : List Value) (m' : Str → Option Value) (oC : Obj) (nx : List (Addr × Obj)) (e : s' = { s₁ with heap := h', toks := tk }) (hj : j ≤ us.length) (ek : k = us.length + 1 - j) (st : h'.IsListIter I bx j ∧ h'.IsList bx us.toArray) (F : Fr h₀ L h' m) (ho : NsObj oC m') (hm : ∀ z, z ≠ y → m' z = m₀ z)
    (N : News h₀ L h' ((C, oC) :: (D, lst ys) :: nx)) (off : ∀ p ∈ nx, p.1 ≠ I ∧ p.1 ≠ C ∧ p.1 ≠ D) (hJ : J j ys nx)
theorem inner2 {elt t1 i1 i2 : Expr} {y : Str} {py : Pos} {scope : Scope} {cl : List (Str × Addr)} {pos : Pos} {C D bx : Addr} {us : List Value} {un : Nat} {m₀ : Str → Option Value} {s₁ : Shared} {oC : Obj} {ys0 : List Value} {nx0 : List (Addr × Obj)} {J : Nat → List Value → List (Addr × Obj) → Prop} {RR : Result → Shared → Prop} (hh : A.handled = none)
    (hkind : scope.kind = .function) (hy : scope.names.lookup y = some .local)
    (F : Fr h₀ L s₁.heap m) (N : News h₀ L s₁.heap ((C, oC) :: (D, lst ys0) :: nx0)) (hoC : NsObj oC m₀) (off0 : ∀ p ∈ nx0, p.1 ≠ C ∧ p.1 ≠ D) (hCD : @Ne Nat C D)
    (hJS : ∀ j ys nx, J j ys nx → (bx, lstO us un) ∈ nx ∧ ys.length ≤ sizeLine) (hJ0 : J 0 ys0 nx0)
    (turn : ∀ j ys nx v I oI oC m₂ h tk E', us[j]? = some v → J j ys nx → NsObj oC m₂ → m₂ y = some v → (∀ z, z ≠ y → m₂ z = m₀ z) → Fr h₀ L h m → News h₀ L h ((I, oI) :: (C, oC) :: (D, lst ys) :: nx) → (∀ p ∈ nx, p.1 ≠ I ∧ p.1 ≠ C ∧ p.1 ≠ D) → (I ≠ C ∧ I ≠ D ∧ C ≠ D) →
      wpAny (model prog w) A (eval elt (compEnvC scope cl C env)) (CTurn h₀ L m s₁ I oI C oC D (lst ys) (fun yv nx' => J (j + 1) (ys ++ [yv]) nx')) E' { s₁ with heap := h, toks := tk })
    (hRR : ∀ h tk oC m₂ ys nx, NsObj oC m₂ → (∀ z, z ≠ y → m₂ z = m₀ z) → Fr h₀ L h m → News h₀ L h ((C, oC) :: (D, lst ys) :: nx) → (∀ p ∈ nx, p.1 ≠ C ∧ p.1 ≠ D) → J us.length ys nx → RR (.ok .next) { s₁ with heap := h, toks := tk }) :
    wpAny (model prog w) A (pyIter (.ref bx)) (fun it s₂ => codeAny (model prog w) A (.compStart (.ListComp elt [⟨t1, i1, [], 0⟩, ⟨.Name y py, i2, [], 0⟩] scope pos) 1 it (.ref D) (compEnvC scope cl C env)) RR s₂) E s₁ := by
  have hmx := (hJS _ _ _ hJ0).1
  have hl : s₁.heap.IsList bx us.toArray := (nsub N fun p hp => .tail _ (.tail _ hp)).isList hmx
  have hltx : bx < s₁.heap.objs.size := Heap.lt_size (N _ (.tail _ (.tail _ hmx))).1
  refine wpAny_pyIter_list hl ?_
  have up : ∀ b o, s₁.heap.get? b = some o → (s₁.heap.push { cls := .type "list_iterator", data := .fields #[.ref bx, .int 0 0] }).get? b = some o := fun b o e => Heap.get?_push_of_some _ e
  have W := Walks.list (prog := prog) (w := w) hh s₁.heap.objs.size bx (Nat.ne_of_lt hltx) us.toArray
  have hsz' : us.toArray.size = us.length := by simp
  rw [hsz'] at W
  have Fp := F.keeps up
  have Np := N.grown up
  have hIL : L ≠ s₁.heap.objs.size := Nat.ne_of_lt F.ns.lt
  have hI₀ := next_is_new F
  have offI : ∀ p ∈ (C, oC) :: (D, lst ys0) :: nx0, p.1 ≠ s₁.heap.objs.size := fun p hp => Nat.ne_of_lt (Heap.lt_size (N p hp).1)
  have hCI : @Ne Nat s₁.heap.objs.size C := Ne.symm (offI _ (.head _))
  have hDI : @Ne Nat s₁.heap.objs.size D := Ne.symm (offI _ (.tail _ (.head _)))
  have hst : (s₁.heap.push { cls := .type "list_iterator", data := .fields #[.ref bx, .int 0 0] }).IsListIter s₁.heap.objs.size bx 0 ∧ (s₁.heap.push { cls := .type "list_iterator", data := .fields #[.ref bx, .int 0 0] }).IsList bx us.toArray := ⟨⟨_, Heap.get?_push_size _ rfl, rfl, rfl⟩, hl.push _⟩
  have hC₀ : h₀.get? C = none := (N _ (.head _)).2.2
  have hD₀ : h₀.get? D = none := (N _ (.tail _ (.head _))).2.2
  have hCL : @Ne Nat C L := (N _ (.head _)).2.1
  have hDL : @Ne Nat D L := (N _ (.tail _ (.head _))).2.1
  generalize hHp : s₁.heap.push { cls := .type "list_iterator", data := .fields #[.ref bx, .int 0 0] } = Hp at up Fp Np hst
  generalize hII : s₁.heap.objs.size = I at *
  have loop : ∀ s₃ : Shared, s₃ = { s₁ with heap := Hp } → codeAny (model prog w) A (.compLoop (.ListComp elt [⟨t1, i1, [], 0⟩, ⟨.Name y py, i2, [], 0⟩] scope pos) 1 (.ref I) (.ref D) (compEnvC scope cl C env)) RR s₃ := by
    rintro s₃ rfl
    refine loop_d1
      (In2 h₀ L m s₁ I bx C D us y m₀ J) ?_ (us.length + 1)
      ⟨Hp, s₁.toks, 0, ys0, m₀, oC, nx0, rfl, Nat.zero_le _, rfl, hst, Fp, hoC, fun _ _ => rfl, Np, fun p hp => ⟨offI p (.tail _ (.tail _ hp)), off0 p hp⟩, hJ0⟩
    rintro k s' hJ9
    refine hideG fun PP hPP => ?_
    obtain ⟨h', tk, j, ys, m', oC, nx, rfl, hi, rfl, hst', F', hoC', hm', N', off', hJ⟩ := hJ9
    refine hPP ?_
    clear hPP PP
    have offN : ∀ p ∈ (C, oC) :: (D, lst ys) :: nx, p.1 ≠ I := List.forall_mem_cons.mpr ⟨Ne.symm hCI, List.forall_mem_cons.mpr ⟨Ne.symm hDI, fun p hp => (off' p hp).1⟩⟩
    by_cases hlt : j < us.length
    · refine W.item j _ _ _ hlt hst' fun v h₂ tk₂ hPv hst₂ hk₂ => ?_
      have hv : us[j]? = some v := by simpa using hPv
      have N₂ := news_but N' hk₂ offN
      refine letGo_listiter hst₂.1 ?_
      have hnsC : h₂.Ns C m' := hoC'.ns (N₂ _ (.head _)).1
      refine wpAny_assign_Name (wpAny_storeName_local (lookup_relabel_local hy) hnsC (fun h₃ hn₃ hs₃ => ?_) (by simp [compEnvC, relabel, hkind]))
      obtain ⟨oI, heI2, hqI⟩ := id hst₂.1
      have heI : h₃.get? I = some oI := hs₃.extBut _ _ hCI heI2
      obtain ⟨oC₃, heC, hoC₃⟩ := ns_obj hn₃
      have F₃ : Fr h₀ L h₃ m := (fr_but F' hk₂ hIL hI₀).change hs₃ hCL hC₀
      have N₃ : News h₀ L h₃ ((I, oI) :: (C, oC₃) :: (D, lst ys) :: nx) := fun p hp => by
        rcases List.mem_cons.mp hp with rfl | hp
        · exact ⟨heI, Ne.symm hIL, hI₀⟩
        · rcases List.mem_cons.mp hp with rfl | hp
          · exact ⟨heC, hCL, hC₀⟩
          · have z := N₂ p (.tail _ hp)
            refine ⟨hs₃.extBut _ _ ?_ z.1, z.2⟩
            rcases List.mem_cons.mp hp with rfl | hp
            · exact Ne.symm hCD
            · exact (off' p hp).2.1
      refine wpAny_mono (turn j ys nx v I oI oC₃ _ h₃ _ _ hv hJ hoC₃ (by simp) (fun z hz => by simp only [if_neg hz]; exact hm' z hz) F₃ N₃ off' ⟨hCI, hDI, hCD⟩) (fun yv s₅ h₅ => ?_) fun _ _ e => e
      refine hideG fun PP hPP => ?_
      obtain ⟨h₄, tk₄, nx₄, all, rfl, F₄, N₄, iI, iC, iD, hsub, off₄, hJ₄⟩ := h₅
      refine hPP ?_
      clear hPP PP
      have hm₄ := hJS _ _ _ hJ₄
      have zD := (N₄ _ iD).1
      refine append_at (hsz := by show ys.toArray.size ≤ sizeLine; rw [List.size_toArray]; have := hm₄.2; rw [List.length_append] at this; omega) zD fun h₅ hs₅ hD₅ => ?_
      have up5 : ∀ p ∈ nx₄, h₅.get? p.1 = some p.2 := fun p hp => hs₅.extBut _ _ (off₄ p hp).2.2 (N₄ p (hsub p hp)).1
      refine ⟨us.length + 1 - (j + 1), by omega, h₅, tk₄, j + 1, ys ++ [yv], _, oC₃, nx₄, rfl, hlt, rfl, ⟨⟨oI, hs₅.extBut _ _ hDI (N₄ _ iI).1, hqI⟩, ⟨_, up5 _ hm₄.1, rfl, _, rfl⟩⟩, F₄.change hs₅ hDL hD₀,
        hoC₃, fun z hz => ?_, fun p hp => ?_, off₄, hJ₄⟩
      · simp only [if_neg hz]; exact hm' z hz
      · rcases List.mem_cons.mp hp with rfl | hp
        · exact ⟨hs₅.extBut _ _ hCD (N₄ _ iC).1, hCL, hC₀⟩
        · rcases List.mem_cons.mp hp with rfl | hp
          · exact ⟨hD₅.trans (congrArg some (lst_snoc ys yv)), hDL, hD₀⟩
          · exact ⟨up5 p hp, (N₄ p (hsub p hp)).2⟩
    · obtain rfl : j = us.length := Nat.le_antisymm hi (Nat.not_lt.mp hlt)
      refine W.done _ _ _ hst' fun h₂ tk₂ hk₂ => ?_
      exact hRR h₂ tk₂ oC m' ys nx hoC' hm' (fr_but F' hk₂ hIL hI₀) (news_but N' hk₂ offN) (fun p hp => (off' p hp).2) hJ
  exact start_d1 (loop _ rfl) (W.self 0 _ _ _ hst (loop _ rfl))

def OTurn (h₀ : Heap) (L : Addr) (m : Str → Option Value) (s : Shared) (I : Addr) (oI : Obj) (C D : Addr) (Jn : List Value → List (Addr × Obj) → Prop) (s₃ : Shared) : Prop :=
  ∃ h' tk oC m' ys nx all, s₃ = { s with heap := h', toks := tk } ∧ Fr h₀ L h' m ∧ News h₀ L h' all ∧ (I, oI) ∈ all ∧ (C, oC) ∈ all ∧ NsObj oC m' ∧ (D, lst ys) ∈ all ∧ (∀ p ∈ nx, p ∈ all) ∧ (∀ p ∈ nx, p.1 ≠ I ∧ p.1 ≠ C ∧ p.1 ≠ D) ∧ Jn ys nx
def Turn2 (prog : Program) (w : World) (A : Around) (h₀ : Heap) (L : Addr) (m : Str → Option Value) (env : Env) (elt i1 i2 : Expr) (x y : Str) (px py : Pos) (scope : Scope) (cl : List (Str × Addr)) (pos : Pos) (s₁ : Shared) (vs : List Value) (J : Nat → List Value → List (Addr × Obj) → Prop) : Prop :=
  ∀ (i : Nat) (ys : List Value) (nx : List (Addr × Obj)) (v : Value) (I : Addr) (oI : Obj) (C : Addr) (oC : Obj) (D : Addr) (m₂ : Str → Option Value) (h : Heap) (tk : Nat) (E' E'' : Value → Shared → Prop), vs[i]? = some v → J i ys nx → NsObj oC m₂ → m₂ x = some v → Fr h₀ L h m → News h₀ L h ((I, oI) :: (C, oC) :: (D, lst ys) :: nx) → (∀ p ∈ nx, p.1 ≠ I ∧ p.1 ≠ C ∧ p.1 ≠ D) → (I ≠ C ∧ I ≠ D ∧ C ≠ D) →
      wpAny (model prog w) A (eval i2 (compEnvC scope cl C env)) (fun xv s' => wpAny (model prog w) A (pyIter xv) (fun it2 s'' => codeAny (model prog w) A (.compStart (.ListComp elt [⟨.Name x px, i1, [], 0⟩, ⟨.Name y py, i2, [], 0⟩] scope pos) 1 it2 (.ref D) (compEnvC scope cl C env)) (fun r s₄ => match r with | .ok _ => OTurn h₀ L m s₁ I oI C D (J (i + 1)) s₄ | .error e => E'' e s₄) s'') E' s') E' { s₁ with heap := h, toks := tk }
inductive B2I (h₀ : Heap) (L : Addr) (m : Str → Option Value) (s₁ : Shared) (I ax C D : Addr) (vs : List Value) (J : Nat → List Value → List (Addr × Obj) → Prop) (k : Nat) (s' : Shared) : Prop
  | mk (h' : Heap) (tk i : Nat) (ys : List Value) (m' : Str → Option Value) (nx : List (Addr × Obj)) (e : s' = { s₁ with heap := h', toks := tk }) (hi : i ≤ vs.length) (ek : k = vs.length + 1 - i) (st : h'.IsListIter I ax i ∧ h'.IsList ax vs.toArray) (F : Fr h₀ L h' m) (hn : h'.Ns C m') (N : News h₀ L h' ((D, lst ys) :: nx)) (off : ∀ p ∈ nx, p.1 ≠ I ∧ p.1 ≠ C ∧ p.1 ≠ D) (hJ : J i ys nx)
theorem block2 {elt i1 i2 : Expr} {x y : Str} {px py : Pos} {scope : Scope} {cl : List (Str × Addr)} {pos : Pos} {s₁ : Shared} {ax : Addr} {vs : List Value} {nn : Nat} {news : List (Addr × Obj)} {J : Nat → List Value → List (Addr × Obj) → Prop} {RR : Value → Addr → Result → Shared → Prop} (hh : A.handled = none)
    (hcell : ∀ y ∈ scope.names, y.2 ≠ .cell) (hkind : scope.kind = .function) (hx : scope.names.lookup x = some .local) (hs2 : ∀ C v, foldedSetIterable i2 (compEnvC scope cl C env) v = pure v)
    (F : Fr h₀ L s₁.heap m) (N : News h₀ L s₁.heap news) (hJS : ∀ i ys nx, J i ys nx → (ax, lstO vs nn) ∈ nx) (hJ0 : J 0 [] news)
    (turn : Turn2 prog w A h₀ L m env elt i1 i2 x y px py scope cl pos s₁ vs J)
    (hRR : ∀ D C h tk m' ys nx, Fr h₀ L h m → News h₀ L h ((D, lst ys) :: nx) → (∀ p ∈ nx, p.1 ≠ D) → h.Ns C m' → h₀.get? C = none → h₀.get? D = none → C ≠ L → D ≠ L → C ≠ D → (∀ p ∈ nx, p.1 ≠ C) → J vs.length ys nx → RR (.ref D) C (.ok .next) { s₁ with heap := h, toks := tk }) :
    wpAny (model prog w) A (pyIter (.ref ax)) (fun it s₂ => wpAny (model prog w) A (newList []) (fun acc s₃ => wpAny (model prog w) A (newFunctionEnv scope env.globals cl [] env.qual none .none (some env)) (fun cenv s₄ =>
      codeAny (model prog w) A (.compStart (.ListComp elt [⟨.Name x px, i1, [], 0⟩, ⟨.Name y py, i2, [], 0⟩] scope pos) 0 it acc { cenv with scope := relabel scope env }) (RR acc cenv.locals) s₄) E s₃) E s₂) E s₁ := by
  have hl : s₁.heap.IsList ax vs.toArray := N.isList (hJS _ _ _ hJ0)
  have hltx : ax < s₁.heap.objs.size := Heap.lt_size (N _ (hJS _ _ _ hJ0)).1
  refine wpAny_pyIter_list hl ?_
  have up : ∀ b o, s₁.heap.get? b = some o → (s₁.heap.push { cls := .type "list_iterator", data := .fields #[.ref ax, .int 0 0] }).get? b = some o := fun b o e => Heap.get?_push_of_some _ e
  have W := Walks.list (prog := prog) (w := w) hh s₁.heap.objs.size ax (Nat.ne_of_lt hltx) vs.toArray
  rw [show vs.toArray.size = vs.length from List.size_toArray] at W
  refine comp_open (s₂ := { s₁ with heap := s₁.heap.push { cls := .type "list_iterator", data := .fields #[.ref ax, .int 0 0] } }) (Z := fun acc cenv s₄ => codeAny (model prog w) A (.compStart (.ListComp elt [⟨.Name x px, i1, [], 0⟩, ⟨.Name y py, i2, [], 0⟩] scope pos) 0 (.ref s₁.heap.objs.size) acc { cenv with scope := relabel scope env }) (RR acc cenv.locals) s₄) hcell hkind (F.keeps up) (N.grown up) fun C D h₁ tk cenv e1 e2 O => ?_
  dsimp only
  rw [e1, e2]
  clear e1 e2
  have hst₁ : h₁.IsListIter s₁.heap.objs.size ax 0 ∧ h₁.IsList ax vs.toArray := W.frame _ _ _ (show _ ∧ _ from ⟨⟨_, Heap.get?_push_size _ rfl, rfl, rfl⟩, hl.push _⟩) fun b _ o e => O.up b o e
  have hIs : s₁.heap.objs.size < (s₁.heap.push { cls := .type "list_iterator", data := .fields #[.ref ax, .int 0 0] }).objs.size := by rw [Heap.size_push]; exact Nat.lt_succ_self _
  obtain ⟨hCI, hDI⟩ := O.off _ hIs
  have hI₀ : h₀.get? s₁.heap.objs.size = none := next_is_new F
  have hIL : L ≠ s₁.heap.objs.size := Nat.ne_of_lt F.ns.lt
  have off₀ : ∀ p ∈ news, p.1 ≠ s₁.heap.objs.size ∧ p.1 ≠ C ∧ p.1 ≠ D := fun p hp => ⟨Nat.ne_of_lt (Heap.lt_size (N p hp).1), O.off _ (Nat.lt_trans (Heap.lt_size (N p hp).1) hIs)⟩
  obtain ⟨m₀, hns₁⟩ := O.ns
  have hC₀ := O.C0
  have hCL := O.CL
  have hDC := O.DC
  have FO := O.F
  have NO := O.N
  have hD₀ := (NO _ (.head _)).2.2
  have hDL := (NO _ (.head _)).2.1
  clear hIs O up hltx hl
  generalize hII : s₁.heap.objs.size = I at *
  have loop : ∀ s₃ : Shared, s₃ = { s₁ with heap := h₁, toks := tk } →
      codeAny (model prog w) A (.compLoop (.ListComp elt [⟨.Name x px, i1, [], 0⟩, ⟨.Name y py, i2, [], 0⟩] scope pos) 0 (.ref I) (.ref D) (compEnvC scope cl C env))
        (RR (.ref D) C) s₃ := by
    rintro s₃ rfl
    refine loop_d0
      (B2I h₀ L m s₁ I ax C D vs J) (hs2 _) ?_ (vs.length + 1)
      ⟨h₁, tk, 0, [], m₀, news, rfl, Nat.zero_le _, rfl, hst₁, FO, hns₁, NO, off₀, hJ0⟩
    · rintro k s' hJ9
      refine hideG fun PP hPP => ?_
      obtain ⟨h', tk, i, ys, m', nx, rfl, hi, rfl, hst', F', hn', N', off', hJ⟩ := hJ9
      refine hPP ?_
      clear hPP PP
      by_cases hlt : i < vs.length
      · refine W.item i _ _ _ hlt hst' fun v h₂ tk₂ hPv hst₂ hk₂ => ?_
        have hv : vs[i]? = some v := by simpa using hPv
        have N₂ : News h₀ L h₂ ((D, lst ys) :: nx) := news_but N' hk₂ fun p hp => by
          rcases List.mem_cons.mp hp with rfl | hp
          · exact Ne.symm hDI
          · exact (off' p hp).1
        refine letGo_listiter hst₂.1 ?_
        refine wpAny_assign_Name (wpAny_storeName_local (lookup_relabel_local hx) (hn'.at' fun o e => hk₂ _ o (by simpa using Ne.symm hCI) e) (fun h₃ hn₃ hs₃ => ?_) (by simp [compEnvC, relabel, hkind]))
        have old3 : ∀ b o, b ≠ C → h₂.get? b = some o → h₃.get? b = some o := fun b o hb e => hs₃.extBut b o hb e
        obtain ⟨oI, heI2, hqI⟩ := id hst₂.1
        have heI : h₃.get? I = some oI := old3 _ _ hCI heI2
        obtain ⟨oC, heC, hoC⟩ := ns_obj hn₃
        have F₃ : Fr h₀ L h₃ m := (fr_but F' hk₂ hIL hI₀).change hs₃ hCL hC₀
        have N₃ : News h₀ L h₃ ((I, oI) :: (C, oC) :: (D, lst ys) :: nx) := fun p hp => by
          rcases List.mem_cons.mp hp with rfl | hp
          · exact ⟨heI, Ne.symm hIL, hI₀⟩
          · rcases List.mem_cons.mp hp with rfl | hp
            · exact ⟨heC, hCL, hC₀⟩
            · have z := N₂ p hp
              refine ⟨old3 _ _ ?_ z.1, z.2⟩
              rcases List.mem_cons.mp hp with rfl | hp
              · exact hDC
              · exact (off' p hp).2.1
        refine wpAny_mono (turn i ys nx v I oI C oC D _ h₃ _ _ (cameBackBy (model prog w) A (compEnvC scope cl C env) (notedBy (model prog w) A (compEnvC scope cl C env) fun e s' => RR (.ref D) C (.error e) s')) hv hJ hoC (by simp) F₃ N₃ off' ⟨hCI, hDI, Ne.symm hDC⟩) (fun xv s₄ h₄ => wpAny_mono h₄ (fun it2 s₅ h₅ => codeAny_mono h₅ fun r s₆ h₆ => ?_) fun _ _ e => e) fun _ _ e => e
        cases r with
        | error e => exact h₆
        | ok f =>
          refine hideG fun PP hPP => ?_
          obtain ⟨h₄, tk₄, oC₄, m₄, ys₄, nx₄, all, rfl, F₄, N₄, iI, iC, hoC₄, iD, hsub, off₄, hJ₄⟩ := h₆
          refine hPP ?_
          clear hPP PP
          have hm₄ := hJS _ _ _ hJ₄
          refine ⟨vs.length + 1 - (i + 1), by omega, h₄, tk₄, i + 1, ys₄, _, nx₄, rfl, hlt, rfl, ⟨⟨oI, (N₄ _ iI).1, hqI⟩, ⟨_, (N₄ _ (hsub _ hm₄)).1, rfl, _, rfl⟩⟩, F₄, hoC₄.ns (N₄ _ iC).1, fun p hp => ?_, off₄, hJ₄⟩
          rcases List.mem_cons.mp hp with rfl | hp
          · exact N₄ _ iD
          · exact N₄ p (hsub p hp)
      · obtain rfl : i = vs.length := Nat.le_antisymm hi (Nat.not_lt.mp hlt)
        refine W.done _ _ _ hst' fun h₂ tk₂ hk₂ => ?_
        have N₂ : News h₀ L h₂ ((D, lst ys) :: nx) := news_but N' hk₂ fun p hp => by
          rcases List.mem_cons.mp hp with rfl | hp
          · exact Ne.symm hDI
          · exact (off' p hp).1
        exact hRR _ _ h₂ tk₂ m' ys nx (fr_but F' hk₂ hIL hI₀) N₂ (fun p hp => (off' p hp).2.2) (hn'.at' fun o e => hk₂ _ o (by simpa using Ne.symm hCI) e) hC₀ hD₀ hCL hDL (Ne.symm hDC) (fun p hp => (off' p hp).2.1) hJ
  exact codeAny_compStart_list (loop _ rfl) (W.self 0 _ _ _ hst₁ (loop _ rfl))
def Src2 (prog : Program) (w : World) (A : Around) (h₀ : Heap) (L : Addr) (m : Str → Option Value) (env : Env) (elt i1 i2 : Expr) (x y : Str) (px py : Pos) (scope : Scope) (cl : List (Str × Addr)) (pos : Pos) (Q : Value → Shared → Prop) (xv : Value) (s : Shared) : Prop :=
  ∃ (ax : Addr) (vs : List Value) (nn : Nat) (news : List (Addr × Obj)) (J : Nat → List Value → List (Addr × Obj) → Prop), xv = .ref ax ∧ Fr h₀ L s.heap m ∧ News h₀ L s.heap news ∧ (∀ i ys nx, J i ys nx → (ax, lstO vs nn) ∈ nx) ∧ J 0 [] news ∧ Turn2 prog w A h₀ L m env elt i1 i2 x y px py scope cl pos s vs J ∧
    ∀ D h tk ys nx, J vs.length ys nx → Fr h₀ L h m → News h₀ L h ((D, lst ys) :: nx) → (∀ p ∈ nx, p.1 ≠ D) → Q (.ref D) { s with heap := h, toks := tk }
theorem ListComp_2 {elt i1 i2 : Expr} {x y : Str} {px py : Pos} {scope : Scope} {cl : List (Str × Addr)} {pos : Pos} {Q : Value → Shared → Prop} (F₀ : Fr h₀ L s.heap m) (hh : A.handled = none)
    (hclos : closureFor scope env = pure cl) (hcell : ∀ y ∈ scope.names, y.2 ≠ .cell) (hkind : scope.kind = .function)
    (hnames : ∀ y ∈ scope.names, y.2 = .local → scope.names.lookup y.1 = some .local) (hx : scope.names.lookup x = some .local) (hs2 : ∀ C v, foldedSetIterable i2 (compEnvC scope cl C env) v = pure v)
    (h : wpAny (model prog w) A (eval i1 env) (Src2 prog w A h₀ L m env elt i1 i2 x y px py scope cl pos Q) E s)
    (hs : ∀ x, foldedSetIterable i1 env x = pure x := by intro _; rfl) :
    wpAny (model prog w) A (eval (.ListComp elt [⟨.Name x px, i1, [], 0⟩, ⟨.Name y py, i2, [], 0⟩] scope pos) env) Q E s := by
  refine (fun _ : Fr h₀ L s.heap m => ?_) F₀
  rw [eval_ListComp]
  refine wpAny_comprehension_free (use := none) rfl hs hclos hkind hnames (wpAny_mono h (fun xv s₁ h₁ => ?_) fun _ _ e => e)
  obtain ⟨ax, vs, nn, news, J, rfl, F, N, hJS, hJ0, turn, fin⟩ := h₁
  refine block2 hh hcell hkind hx hs2 F N hJS hJ0 turn ?_
  intro D C h tk m' ys nx F' N' o1 hn hC₀ hD₀ hCL hDL hCD offC hJ
  refine ⟨m', hn, fun h'' hs'' => fin D h'' tk ys nx hJ (F'.change hs'' hCL hC₀) (fun p hp => ?_) o1⟩
  refine ⟨hs''.extBut _ _ ?_ (N' p hp).1, (N' p hp).2⟩
  rcases List.mem_cons.mp hp with rfl | hp
  · exact Ne.symm hCD
  · exact offC p hp
end
end
section
open LCg
def TurnNT (prog : Program) (w : World) (A : Around) (h₀ : Heap) (L : Addr) (m : Str → Option Value) (env : Env) (ct elt : Expr) (x : Str) (scope : Scope) (cl : List (Str × Addr)) (s : Shared) (J : Nat → List Value → List (Addr × Obj) → Prop) (i : Nat) (ys : List Value) (nx : List (Addr × Obj)) (v : Value) : Prop :=
  ∀ I oI C oC D m₂ h tk E', NsObj oC m₂ → m₂ x = some v → Fr h₀ L h m → News h₀ L h ((I, oI) :: (C, oC) :: (D, lst ys) :: nx) → (∀ p ∈ nx, p.1 ≠ I ∧ p.1 ≠ C ∧ p.1 ≠ D) → (I ≠ C ∧ I ≠ D ∧ C ≠ D) →
      wpAny (model prog w) A (isTrue ct (compEnvC scope cl C env) (eval ct (compEnvC scope cl C env))) (fun ok s' => if ok = true then
        wpAny (model prog w) A (eval elt (compEnvC scope cl C env)) (CTurn h₀ L m s I oI C oC D (lst ys) (fun y nx' => J (i + 1) (ys ++ [y]) nx')) E' s'
        else CTurn h₀ L m s I oI C oC D (lst ys) (fun _ nx' => J (i + 1) ys nx') Value.none s') E' { s with heap := h, toks := tk }
def SrcNT (prog : Program) (w : World) (A : Around) (h₀ : Heap) (L : Addr) (m : Str → Option Value) (env : Env) (ct elt : Expr) (x : Str) (scope : Scope) (cl : List (Str × Addr)) (mm : Addr → Str → Option Value) (Q : Addr → Shared → Prop) (xv : Value) (s : Shared) : Prop :=
  ∃ (ax : Addr) (vs : List Value) (nn : Nat) (news : List (Addr × Obj)) (J : Nat → List Value → List (Addr × Obj) → Prop), xv = .ref ax ∧ Fr h₀ L s.heap m ∧ News h₀ L s.heap news ∧ (∀ i ys nx, J i ys nx → (ax, lstO vs nn) ∈ nx) ∧ J 0 [] news ∧ vs.length ≤ sizeLine ∧
    (∀ i ys nx v, J i ys nx → vs[i]? = some v → TurnNT prog w A h₀ L m env ct elt x scope cl s J i ys nx v) ∧
    ∀ D h tk ys nx, J vs.length ys nx → Fr h₀ L h (mm D) → News h₀ L h ((D, lst ys) :: nx) → (∀ p ∈ nx, p.1 ≠ D) → Q D { s with heap := h, toks := tk }

section
variable {prog : Program} {w : World} {A : Around} {E : Value → Shared → Prop} {s : Shared} {h₀ : Heap} {L : Addr} {m : Str → Option Value} {env : Env}
theorem blockNT {ct elt iter : Expr} {x : Str} {px : Pos} {scope : Scope} {cl : List (Str × Addr)} {pos : Pos} {s₁ : Shared} {ax : Addr} {vs : List Value} {nn : Nat} {news : List (Addr × Obj)} {J : Nat → List Value → List (Addr × Obj) → Prop} {RR : Value → Addr → Result → Shared → Prop} (hh : A.handled = none)
    (hcell : ∀ y ∈ scope.names, y.2 ≠ .cell) (hkind : scope.kind = .function) (hx : scope.names.lookup x = some .local)
    (F : Fr h₀ L s₁.heap m) (N : News h₀ L s₁.heap news) (hJS : ∀ i ys nx, J i ys nx → (ax, lstO vs nn) ∈ nx) (hJ0 : J 0 [] news) (hsz : vs.length ≤ sizeLine)
    (turn : ∀ i ys nx v, J i ys nx → vs[i]? = some v → TurnNT prog w A h₀ L m env ct elt x scope cl s₁ J i ys nx v)
    (hRR : ∀ D C h tk m' ys nx, Fr h₀ L h m → News h₀ L h ((D, lst ys) :: nx) → (∀ p ∈ nx, p.1 ≠ D) → h.Ns C m' → h₀.get? C = none → h₀.get? D = none → C ≠ L → D ≠ L → C ≠ D → (∀ p ∈ nx, p.1 ≠ C) → J vs.length ys nx → RR (.ref D) C (.ok .next) { s₁ with heap := h, toks := tk }) :
    wpAny (model prog w) A (pyIter (.ref ax)) (fun it s₂ => wpAny (model prog w) A (newList []) (fun acc s₃ => wpAny (model prog w) A (newFunctionEnv scope env.globals cl [] env.qual none .none (some env)) (fun cenv s₄ =>
      codeAny (model prog w) A (.compStart (.ListComp elt [⟨.Name x px, iter, [ct], 0⟩] scope pos) 0 it acc { cenv with scope := relabel scope env }) (RR acc cenv.locals) s₄) E s₃) E s₂) E s₁ := by
  have hl : s₁.heap.IsList ax vs.toArray := N.isList (hJS _ _ _ hJ0)
  have hltx : ax < s₁.heap.objs.size := Heap.lt_size (N _ (hJS _ _ _ hJ0)).1
  refine wpAny_pyIter_list hl ?_
  have up : ∀ b o, s₁.heap.get? b = some o → (s₁.heap.push { cls := .type "list_iterator", data := .fields #[.ref ax, .int 0 0] }).get? b = some o := fun b o e => Heap.get?_push_of_some _ e
  have W := Walks.list (prog := prog) (w := w) hh s₁.heap.objs.size ax (Nat.ne_of_lt hltx) vs.toArray
  rw [show vs.toArray.size = vs.length from List.size_toArray] at W
  refine comp_open (s₂ := { s₁ with heap := s₁.heap.push { cls := .type "list_iterator", data := .fields #[.ref ax, .int 0 0] } }) (Z := fun acc cenv s₄ => codeAny (model prog w) A (.compStart (.ListComp elt [⟨.Name x px, iter, [ct], 0⟩] scope pos) 0 (.ref s₁.heap.objs.size) acc { cenv with scope := relabel scope env }) (RR acc cenv.locals) s₄) hcell hkind (F.keeps up) (N.grown up) fun C D h₁ tk cenv e1 e2 O => ?_
  dsimp only
  rw [e1, e2]
  clear e1 e2
  have hst₁ := W.frame _ _ _ (show _ ∧ _ from ⟨⟨_, Heap.get?_push_size _ rfl, rfl, rfl⟩, hl.push _⟩) fun b _ o e => O.up b o e
  have hIs : s₁.heap.objs.size < (s₁.heap.push { cls := .type "list_iterator", data := .fields #[.ref ax, .int 0 0] }).objs.size := by rw [Heap.size_push]; exact Nat.lt_succ_self _
  have hI := O.off _ hIs
  have hI₀ : h₀.get? s₁.heap.objs.size = none := next_is_new F
  have hIL : s₁.heap.objs.size ≠ L := Nat.ne_of_gt F.ns.lt
  have off₀ : ∀ p ∈ news, p.1 ≠ s₁.heap.objs.size ∧ p.1 ≠ C ∧ p.1 ≠ D := fun p hp => ⟨Nat.ne_of_lt (Heap.lt_size (N p hp).1), O.off _ (Nat.lt_trans (Heap.lt_size (N p hp).1) hIs)⟩
  obtain ⟨m', hn⟩ := O.ns
  have loop := comp_core (iter := iter) (scope := scope) (pos := pos) (ct := ct) (elt := elt) (target := .Name x px) (env := compEnvC scope cl C env) (s₁ := s₁) (C := C) (D := D) (RR := RR (.ref D) C) (S := fun nx => (ax, lstO vs nn) ∈ nx) W (fun i h st => by obtain ⟨o, e, _⟩ := st.1; exact ⟨o, e⟩)
    (fun i h h' o nx st e e' N' S => ⟨by obtain ⟨o', q, r⟩ := st.1; rw [e] at q; cases q; exact ⟨o, e', r⟩, N'.isList S⟩) (fun i s' v Q' E' st q => letGo_listiter st.1 q) hIL hI₀ O.CL O.C0 ⟨hI.1, hI.2, Ne.symm O.DC⟩ hsz hJS
    (fun i ys nx v hJ hP => ?_) (fun h tk m' ys nx F' N' off' hn' hJ => hRR D C h tk m' ys nx F' N' (fun p hp => (off' p hp).2.2) hn' O.C0 (N' _ (.head _)).2.2 O.CL (N' _ (.head _)).2.1 (Ne.symm O.DC) (fun p hp => (off' p hp).2.1) hJ)
    (.mk h₁ tk 0 [] m' news rfl (Nat.zero_le _) rfl (Nat.le_refl _) hst₁ O.F hn O.N off₀ hJ0)
  · exact codeAny_compStart_list loop (W.self 0 _ _ _ hst₁ loop)
  · have R := turn i ys nx v hJ (by simpa using hP)
    refine ⟨fun m₃ => m₃ x = some v, fun h₂ tk m' Q E' hn' N' k => ?_, fun oI oC m₂ h tk E' hoC hBd F N off ne => R _ _ _ _ _ _ _ _ _ hoC hBd F N off ne⟩
    exact wpAny_assign_Name (wpAny_storeName_local (lookup_relabel_local hx) hn' (fun h₃ hn₃ hs₃ => k h₃ _ _ (by simp) hn₃ fun b o hb e => hs₃.extBut b o (fun q => hb (List.mem_singleton.mpr q)) e) (by simp [compEnvC, relabel, hkind]))

theorem ListComp_NT {ct elt iter : Expr} {x : Str} {px : Pos} {scope : Scope} {cl : List (Str × Addr)} {pos : Pos} {Q : Value → Shared → Prop} (F₀ : Fr h₀ L s.heap m) (hh : A.handled = none)
    (hclos : closureFor scope env = pure cl) (hcell : ∀ y ∈ scope.names, y.2 ≠ .cell) (hkind : scope.kind = .function)
    (hnames : ∀ y ∈ scope.names, y.2 = .local → scope.names.lookup y.1 = some .local) (hx : scope.names.lookup x = some .local)
    (h : wpAny (model prog w) A (eval iter env) (SrcNT prog w A h₀ L m env ct elt x scope cl (fun _ => m) (fun D => Q (.ref D))) E s)
    (hs : ∀ x, foldedSetIterable iter env x = pure x := by intro _; rfl) :
    wpAny (model prog w) A (eval (.ListComp elt [⟨.Name x px, iter, [ct], 0⟩] scope pos) env) Q E s := by
  refine (fun _ : Fr h₀ L s.heap m => ?_) F₀
  rw [eval_ListComp]
  refine wpAny_comprehension_free (use := none) rfl hs hclos hkind hnames (wpAny_mono h (fun xv s₁ h₁ => ?_) fun _ _ e => e)
  obtain ⟨ax, vs, nn, news, J, rfl, F, N, hJS, hJ0, hsz, turn, fin⟩ := h₁
  refine blockNT hh hcell hkind hx F N hJS hJ0 hsz turn ?_
  intro D C h tk m' ys nx F' N' o1 hn hC₀ hD₀ hCL hDL hCD offC hJ
  refine ⟨m', hn, fun h'' hs'' => fin D h'' tk ys nx hJ (F'.change hs'' hCL hC₀) (fun p hp => ?_) o1⟩
  refine ⟨hs''.extBut _ _ ?_ (N' p hp).1, (N' p hp).2⟩
  rcases List.mem_cons.mp hp with rfl | hp
  · exact Ne.symm hCD
  · exact offC p hp
end
end
section
section
variable {M : Model} {A : Around} {E : Value → Shared → Prop} {s' : Shared} {base g : Heap} {outer : List Env} {L e : Addr} {m : Str → Option Value} {env : Env} {Q : Unit → Shared → Prop} {news all : List (Addr × Obj)}
theorem leave_madeX (K : Below A base outer g) (F : Fr g L s'.heap m) (N : News g L s'.heap all) (hf : env.frame = some L) (hk : env.scope.kind = .function) {oe : Obj} {vs : Array Value} {a0 : Value}
    (he : (e, oe) ∈ all) (hd : oe.data = .fields vs) (h1 : vs[1]? = some .none) (h0 : vs[0]? = some a0) (hsub : ∀ p ∈ news, p ∈ all) (hne : ∀ p ∈ news, p.1 ≠ e)
    (hQ : ∀ h', RaisedSN base g outer e oe.cls news h' → g.UpToSlots h' → Q () { s' with heap := h' }) :
    wpAny M (A.deeper env) (leaving env (.ref e)) Q E s' := by
  have K' := pushX K F hf hk
  have hin : ∀ env' ∈ (env :: outer), ∀ b, env'.frame = some b → b ∈ e :: (env :: outer).filterMap (·.frame) := fun env' he' b hb => .tail _ (List.mem_filterMap.mpr ⟨env', he', hb⟩)
  have zm : ∀ b, b ∈ (env :: outer).filterMap (·.frame) → b = L ∨ b ∈ outer.filterMap (·.frame) := fun b hm => by
    obtain ⟨env', he', hf'⟩ := List.mem_filterMap.mp hm
    rcases List.mem_cons.mp he' with rfl | he'
    · exact .inl (Option.some.inj (hf'.symm.trans hf))
    · exact .inr (List.mem_filterMap.mpr ⟨env', he', hf'⟩)
  have ze := N _ he
  have be : base.get? e = none := fresh_of_stays K.stays ze.2.2
  have st : base.StaysIn (hideAll s'.heap (e :: (env :: outer).filterMap (·.frame))) := fun b o q => hideAll_get _ (K'.stays b o q) fun hm => by
    rcases List.mem_cons.mp hm with z | hm
    · rw [z, be] at q; cases q
    · rw [(K'.frames.mem hm).1] at q; cases q
  have sg : ∀ b o, g.get? b = some o → b ∉ outer.filterMap (·.frame) → (hideAll s'.heap (e :: (env :: outer).filterMap (·.frame))).get? b = some o := fun b o q nm => hideAll_get _ (F.keep b o q) fun hm => by
    rcases List.mem_cons.mp hm with z | hm
    · rw [z, ze.2.2] at q; cases q
    · rcases zm b hm with z | z
      · rw [z, kts_self F] at q; cases q
      · exact nm z
  have hl : ∀ q ∈ news, (hideAll s'.heap (e :: (env :: outer).filterMap (·.frame))).get? q.1 = some q.2 ∧ g.get? q.1 = none ∧ base.get? q.1 = none := fun q hq => by
    have zq := N q (hsub q hq)
    refine ⟨hideAll_get _ zq.1 fun hm => ?_, zq.2.2, fresh_of_stays K.stays zq.2.2⟩
    rcases List.mem_cons.mp hm with z | hm
    · exact hne q hq z
    · rcases zm _ hm with z | z
      · exact zq.2.1 z
      · obtain ⟨o, ho, _⟩ := (K.frames.mem z).2
        rw [zq.2.2] at ho; cases ho
  refine wpAny_leaving_firstW (a0 := a0) K'.stack (funFrames_hide K'.frames hin) hf ze.1 (fun b o q => of_hideAll _ q) (hideAll_none _ (.head _)) hd h1 h0 fun h' hL => ?_
  obtain ⟨k1, ⟨_, _, k2⟩, k3, k4⟩ := hL
  exact hQ h' ⟨_, a0, st, sg, hl, k1, hideAll_none _ (.head _), k2, k3⟩ ((Heap.UpToSlots.of_keeps F.keep).trans k4)
end

def SpecX (w : World) (mean : ExcName → Option Value) (mg mb : Str → Option Value) (f : Addr) (d : Nat) (args : List Value) (news : List (Addr × Obj)) (Ok : List (Addr × Obj) → Value → Prop) (Er : Prop) (cls : Value) : Prop :=
  ∀ (A : Around) (env : Env) (outer : List Env) (A₀ : Around) (base h₀ : Heap) (L : Addr) (m : Str → Option Value) (s : Shared) (R : Result → Shared → Prop),
    Room A d → A.frames = some (env :: outer) → env.frame = some L → env.scope.kind = .function →
    Below A₀ base outer h₀ → Fr h₀ L s.heap m → (hd.heap_1 w.params).In h₀ → News h₀ L s.heap news → Top topView Lz mean mg mb h₀ →
    (∀ r news' h' tk', Fr h₀ L h' m → News h₀ L h' news' → Kept s.heap news h' news' → Ok news' r → R (.ok (.ret r)) { s with heap := h', toks := tk' }) →
    (Er → ∀ e G h' tk', RaisedSN base G (env :: outer) e cls news h' → Fr h₀ L G m → G.UpToSlots h' → R (.error (.ref e)) { s with heap := h', toks := tk' }) →
    codeAny (model PR w) A (.call (.ref f) ⟨args, []⟩) R s

section
variable {w : World} {mean : ExcName → Option Value} {mg mb : Str → Option Value}
theorem SpecX.spec {f : Addr} {d : Nat} {args : List Value} {news : List (Addr × Obj)} {Ok : List (Addr × Obj) → Value → Prop} {Er : Prop} {cls : Value} (S : SpecX w mean mg mb f d args news Ok Er cls) (h : ¬ Er) : Spec w mean mg mb f d args news Ok := by
  intro A env outer A₀ base h₀ L m s R hr hA hf hke B F X N T ret
  exact S A env outer A₀ base h₀ L m s R hr hA hf hke B F X N T ret fun q => absurd q h

theorem spec_introCX {name qual : Str} {params : Arguments} {body : List Stmt} {scope : Scope} {dV kV doc pm cdv ct oc : Value} {an od : Option Addr} {osl : Array (Option Value)} {f : Addr} {args : List Value} {d : Nat} {news : List (Addr × Obj)} {Ok : List (Addr × Obj) → Value → Prop} {Er : Prop} {cls : Value}
    (ho : (hd.heap_1 w.params).lookup f = some ⟨oc, od, .func (fnOf name qual params body scope dV kV doc pm an cdv ct), osl⟩) (hcd : codeIn (hd.heap_1 w.params) cdv qual = true)
    (hbind : bindArgs (fnOf name qual params body scope dV kV doc pm an cdv ct) ⟨args, []⟩ = pure ((params.args.map (·.arg)).zip args)) (hkind : (((params.args.map (·.arg)).zip args).all fun y => scope.names.lookup y.1 == some .local || scope.names.lookup y.1 == some .cell) = true)
    (hnd : ((cellsFrom 0 scope.names []).map (·.1)).Nodup)
    (hco : scope.isCoroutine = false) (hgen : scope.isGenerator = false) (hk : scope.kind = .function)
    (h : ∀ (dp un : Nat) (gd : Option (List Code)) (fr : Option (List Env)) (envc : Env) (outer : List Env) (A₀ : Around) (base g : Heap) (L : Addr) (h₁ : Heap) (ge : Array GenState) (dr : Drawn) (os : OsState) (tk : Nat) (cells : List (Addr × Obj)) (E : Value → Shared → Prop),
      let A9 : Around := Aro dp un gd fr; let E9 : Env := envOfC qual scope L f cdv;
      Cx w mean mg mb A9 d E9 (envc :: outer) A₀ base g L → Room A9 d → fr = some (E9 :: envc :: outer) → Below A₀ base (envc :: outer) g → (hd.heap_1 w.params).In g → Top topView Lz mean mg mb g →
      Fr g L h₁ (bindL (envOfC qual scope L f cdv).kindOf ((params.args.map (·.arg)).zip args) fun _ => none) → News g L h₁ (cells ++ news) →
      CellsAre (bindC (envOfC qual scope L f cdv).kindOf ((params.args.map (·.arg)).zip args) fun _ => none) (cellsFrom (L + 1) scope.names []) cells → (∀ p ∈ news, p.1 < L) →
      PassesOwn (model PR w) A9 E9 E →
      (∀ (e : Addr) (oe : Obj) (vs : Array Value) (a0 : Value) (all : List (Addr × Obj)) (h : Heap) (tk : Nat) (m : Str → Option Value), Er → Fr g L h m → News g L h all → (e, oe) ∈ all → oe.cls = cls → oe.data = .fields vs → vs[1]? = some .none → vs[0]? = some a0 → (∀ p ∈ news, p ∈ all) → (∀ p ∈ news, p.1 ≠ e) → E (.ref e) ⟨h, ge, dr, tk, os⟩) →
      ∀ T : Flow → Shared → Prop, Veil (fun fl s' => Ends g L ge dr os Ok (match fl with | .ret v => v | _ => .none) s') T → wpAny (model PR w) A9 (execs body E9) T E ⟨h₁, ge, dr, tk, os⟩) :
    SpecX w mean mg mb f (d + 1) args news Ok Er cls := by
  intro A env outer A₀ base h₀ L m s R hr hA hf hke B F X N T ret err
  obtain ⟨FG, BG, st, lv⟩ := groundX (R := R) B F N hA hf hke
  have X2 : (hd.heap_1 w.params).In (hideAll s.heap (news.map (·.1))) := X.keeps fun b o e => st b o e
  have T2 : Top topView Lz mean mg mb (hideAll s.heap (news.map (·.1))) := T.keeps fun b o e => st b o e
  refine codeAny_call_function (Nat.lt_of_le_of_lt (Nat.le_add_right _ _) hr.dep) ((X.keeps F.keep) _ _ ho) rfl hco hgen rfl (codeRec_of (X.keeps F.keep) hcd) ((BindsTo.of_eq hbind) _ _ _ _ ?_)
  refine wpAny_newFunctionEnv_cells hk (kindsX hkind _) fun env' he s' x => ?_
  subst he
  refine ⟨(T.nolimit.keeps F.keep).keeps x.toInCall.keep, codeAny_func ?_⟩
  obtain ⟨h₁, tk, rfl, -⟩ := x.done
  have hk₁ := x.toInCall.keep
  obtain ⟨cells, NC, Y⟩ := Cl.news (h₀ := s.heap) (Nat.le_refl _) fun n c hm => ⟨x.cell n c (lookup_of_mem_nodup (cellsFrom_names scope.names 0 (s.heap.objs.size + 1) [] [] rfl ▸ hnd) hm), x.above n c hm⟩
  have ea := aro_of (A := A.deeper (envOfC qual scope s.heap.objs.size f cdv)) hr.hh
  have hr' : Room (A.deeper (envOfC qual scope s.heap.objs.size f cdv)) d := hr.deeper
  show wpAny (model PR w) (A.deeper (envOfC qual scope s.heap.objs.size f cdv)) (execs body (envOfC qual scope s.heap.objs.size f cdv)) _ _ _
  have hPO : PassesOwn (model PR w) (A.deeper (envOfC qual scope s.heap.objs.size f cdv)) (envOfC qual scope s.heap.objs.size f cdv) (fun e s' => wpAny (model PR w) (A.deeper (envOfC qual scope s.heap.objs.size f cdv)) (leaving (envOfC qual scope s.heap.objs.size f cdv) e) (fun _ s'' => R (.error e) s'') (fun e' s'' => R (.error e') s'') s') := PassesOwn.leaving
  have hER : ∀ (e : Addr) (oe : Obj) (vs : Array Value) (a0 : Value) (all : List (Addr × Obj)) (h : Heap) (tk : Nat) (m : Str → Option Value), Er → Fr (hideAll s.heap (news.map (·.1))) s.heap.objs.size h m → News (hideAll s.heap (news.map (·.1))) s.heap.objs.size h all → (e, oe) ∈ all → oe.cls = cls → oe.data = .fields vs → vs[1]? = some .none → vs[0]? = some a0 → (∀ p ∈ news, p ∈ all) → (∀ p ∈ news, p.1 ≠ e) →
      wpAny (model PR w) (A.deeper (envOfC qual scope s.heap.objs.size f cdv)) (leaving (envOfC qual scope s.heap.objs.size f cdv) (.ref e)) (fun _ s'' => R (.error (.ref e)) s'') (fun e' s'' => R (.error e') s'') { s with heap := h, toks := tk } := by
    rintro e oe vs a0 all h tk m hq F₁ N₁ me rfl hd h1 h0 hsub hne
    exact leave_madeX (news := news) BG F₁ N₁ rfl hk me hd h1 h0 hsub hne fun h' RR US => err hq e _ h' tk RR FG US
  rw [ea] at hr' hPO hER ⊢
  refine wpAny_mono (h _ _ _ _ env outer A base (hideAll s.heap (news.map (·.1))) s.heap.objs.size h₁ s.gens s.drawn s.os tk cells _ ⟨hr', Around.frames_deeper hA, rfl, hk, BG, X2, T2⟩ hr' (Around.frames_deeper hA) BG X2 T2 ⟨x.toInCall.ns, fun b o e => hk₁ b o (of_hideAll _ e), Nat.le_of_eq (hideAll_size _ _)⟩
    (fun p hp => ?_) Y (fun p hp => Heap.lt_size (N p hp).1) hPO hER _ veil0) (fun fl s' e => ?_) fun _ _ e => by rw [← ea] at e; exact e
  · rcases List.mem_append.mp hp with hp | hp
    · refine ⟨(NC p hp).1, (NC p hp).2.1, ?_⟩
      cases q : (hideAll s.heap (news.map (·.1))).get? p.1 with
      | none => rfl
      | some o => have := of_hideAll _ q; rw [(NC p hp).2.2] at this; cases this
    · exact ⟨hk₁ _ _ (N p hp).1, Nat.ne_of_lt (Heap.lt_size (N p hp).1), hideAll_none _ (List.mem_map_of_mem hp)⟩
  · obtain ⟨h', m', news', tk', rfl, F₂, N₂, ok⟩ := e
    exact lv _ _ (leaveK_ F₂ N₂ fun F₃ N₃ => ret _ _ _ _ F₃ N₃ (Kept.of F₂ N₂) ok)
end
end
section
section
variable {M : Model} {A : Around} {E : Value → Shared → Prop} {h : Heap} {g : Array GenState} {d : Drawn} {t : Nat} {os : OsState}
variable {nm q : Str} {C N : Addr} {bs bm bmB : List Value} {hdct : Bool} {sn : List Str} {sub : List Value} {ab : Bool} {col : Option Bool} {dd : Option Addr} {k0 k1 k2 k3 k5 : Option Value} {B newId initId : String}
theorem check_newX (F : ExcBaseFacts B newId initId bmB) (hcB : (Value.ref C :: bm).contains (.type B) = true) {rest : List Value} {Q : Unit → Shared → Prop} (hC : h.get? C = some (excClassObj nm q C N bs bm hdct sn sub ab col dd k0 k1 k2 k3 k5 newId))
    (hq : Q () ⟨h, g, d, t, os⟩) : wpAny M A (checkBuiltinCall newId ⟨.ref C :: rest, []⟩) Q E ⟨h, g, d, t, os⟩ := by
  have hstar := F.noStar
  simp only [checkBuiltinCall, F.newKind, F.newSplit, F.newRow]
  repeat (first | refine wpAny_loadPart_at hC ?_ | (refine wpAny_isSubtype_exc hC ?_; rw [hcB]) | refine wpAny_staticBase_exc hC ?_ | refine wpAny_madeBy_exc hC ?_ | simp only [bne_self_eq_false, Bool.false_eq_true, if_false] | wp_step)
  exact hq
end
section
variable {prog : Program} {w : World} {A : Around} {R : Result → Shared → Prop} {h : Heap} {g : Array GenState} {d : Drawn} {t : Nat} {os : OsState}
variable {nm q : Str} {C N : Addr} {bs bm bmB : List Value} {hdct : Bool} {sn : List Str} {sub : List Value} {ab : Bool} {col : Option Bool} {dd : Option Addr} {k0 k1 k2 k3 k5 : Option Value} {B newId initId : String}
abbrev excObj (C t : Addr) : Obj := { cls := .ref C, data := .fields #[.ref t, .none, .none, .none, .bool false, .none] }
theorem exc_newX (F : ExcBaseFacts B newId initId bmB) (hcB : (Value.ref C :: bm).contains (.type B) = true) (hcA : (Value.ref C :: bm).contains (.type "AttributeError") = false) (hcN : (Value.ref C :: bm).contains (.type "NameError") = false)
    {rest : List Value} (hC : h.get? C = some (excClassObj nm q C N bs bm hdct sn sub ab col dd k0 k1 k2 k3 k5 newId))
    (hq : R (.ok (.ret (.ref (h.objs.size + 1)))) ⟨(h.push { cls := .type "tuple", data := .seq rest.toArray }).push (excObj C h.objs.size), g, d, t, os⟩) (hrest : rest.length ≤ sizeLine) :
    codeAny (model prog w) A (.builtin newId ⟨.ref C :: rest, []⟩) R ⟨h, g, d, t, os⟩ := by
  have hends := F.ends
  refine codeAny_builtinAt F.entry ?_
  unfold Builtin.«BaseException.__new__»
  refine PySem.wpAt_bind ?_
  show PySem.wpAt _ _ _ (stack >>= _) _ _ _
  refine PySem.wpAt_bind (PySem.wpAt_stack fun p below => PySem.wpAt_of_wpAny ?_)
  wp_walk
  refine PySem.wpAt_of_wpAny ?_
  rw [F.owner]
  repeat (first | with_reducible refine wpAny_madeHere_exc F.canon hC ?_ | with_reducible refine wpAny_loadPart_at hC ?_ | (with_reducible refine wpAny_isSubtype_exc hC ?_; first | rw [hcB] | rw [hcA] | rw [hcN]) | wp_step)
  show R _ _
  rw [Heap.size_push]
  exact hq
/-- an own exception class whose __init__ is the text's -/
theorem exc_make {K : Frag} {fI : Addr} (F : ExcBaseFacts B newId initId bmB) (hcB : (Value.ref C :: bm).contains (.type B) = true) (hcA : (Value.ref C :: bm).contains (.type "AttributeError") = false) (hcN : (Value.ref C :: bm).contains (.type "NameError") = false)
    {rest : List Value} (hC : h.get? C = some (excClassObj nm q C N bs bm hdct sn sub ab col dd k0 k1 k2 k3 k5 newId)) (X : K.In h) (hi : findIn K (.ref C) "__init__" = some (some (.ref fI))) (hf : typeIn K (.ref fI) = some (.type "function"))
    (hq : codeAny (model prog w) (A.under (.builtin "type.__call__" ⟨.ref C :: rest, []⟩)) (.call (.ref fI) ⟨.ref (h.objs.size + 1) :: rest, []⟩) (InitBack (h.objs.size + 1) R) ⟨(h.push { cls := .type "tuple", data := .seq rest.toArray }).push (excObj C h.objs.size), g, d, t, os⟩) (hrest : rest.length ≤ sizeLine) :
    codeAny (model prog w) A (.call (.ref C) ⟨rest, []⟩) R ⟨h, g, d, t, os⟩ := by
  have f1 := tc_lookup
  have f2 := tc_bind (.ref C)
  have hT : (⟨h, g, d, t, os⟩ : Shared).TypeIs (.ref C) "type" := ⟨_, hC, rfl⟩
  refine codeAny_of_tree ?_
  show wpAny _ _ (callAny (.ref C) _) _ _ _
  repeat (any_goals (first | assumption | with_reducible refine wpAny_loadPart_at hC ?_ | wp_step))
  refine ⟨rfl, ?_⟩
  refine codeAny_call_builtin_at (Code.quiet_builtin _ (by decide +kernel)) entry_typeCall (wpAny_check_type_call_sub hC ?_)
  unfold Builtin.«type.__call__»
  repeat (first | with_reducible refine wpAny_loadPart_at hC ?_ | with_reducible refine wpAny_madeBy_exc hC ?_ | wp_step)
  refine codeAny_call_builtin_code (Code.quiet_builtin _ F.quiet) (check_newX F hcB hC ?_)
  refine exc_newX (rest := rest) F hcB hcA hcN hC ?_ hrest
  show wpAny _ _ _ _ _ _
  simp only [List.append_eq, List.nil_append]
  have k : ∀ b o, h.get? b = some o → ((h.push { cls := .type "tuple", data := .seq rest.toArray }).push (excObj C h.objs.size)).get? b = some o := fun b o e => Heap.get?_push_of_some _ (Heap.get?_push_of_some _ e)
  have hC₁ := k _ _ hC
  have hget : ((h.push { cls := .type "tuple", data := .seq rest.toArray }).push (excObj C h.objs.size)).get? (h.objs.size + 1) = some (excObj C h.objs.size) := by heap_get
  have hcC : (Value.ref C :: bm).contains (.ref C) = true := by simp
  unfold isInstance
  repeat (first | with_reducible refine wpAny_loadPart_at hget ?_ | (with_reducible refine wpAny_isSubtype_exc hC₁ ?_; rw [hcC]) | wp_step)
  show wpAny _ _ (typeLookup (.ref C) _) _ _ _
  refine ((looks_findIn X hi).keeps k).at ?_
  refine wpAny_holding (wpAny_bind (((bind_fn X (.ref (h.objs.size + 1)) hf).keeps k).at ?_))
  refine wpAny_bind (wpAny_call (codeAny_mono hq fun r s' z => ?_))
  rcases r with e | (v | _ | _ | _) <;> first | exact z | exact z.elim | skip
  obtain ⟨rfl, z⟩ := z
  exact wpAny_pure (wpAny_pure z)
end
end
section
theorem meta_exc : typeOf (.type "Exception") = pure (.type "type") := by kernel_rfl
theorem find_exc (K : Frag) : findCls K (.type "Exception") (.type "type") "__init__" = some (.val (.builtin "Exception.__init__")) := by kernel_rfl
section
variable {prog : Program} {w : World} {A : Around} {E : Value → Shared → Prop} {h : Heap} {g : Array GenState} {d : Drawn} {t : Nat} {os : OsState}
variable {nm q : Str} {C N : Addr} {bs bm bmB : List Value} {hdct : Bool} {sn : List Str} {sub : List Value} {ab : Bool} {col : Option Bool} {dd : Option Addr} {k0 k1 k2 k3 k5 : Option Value} {B newId initId : String}
theorem check_initX (F : ExcBaseFacts B newId initId bmB) (hcB : (Value.ref C :: bm).contains (.type B) = true) {M : Model} {e : Addr} {oe : Obj} {rest : List Value} {Q : Unit → Shared → Prop}
    (hC : h.get? C = some (excClassObj nm q C N bs bm hdct sn sub ab col dd k0 k1 k2 k3 k5 newId)) (he : h.get? e = some oe) (hcls : oe.cls = .ref C) (hq : Q () ⟨h, g, d, t, os⟩) :
    wpAny M A (checkBuiltinCall initId ⟨.ref e :: rest, []⟩) Q E ⟨h, g, d, t, os⟩ := by
  have hshort := F.noStar
  simp only [checkBuiltinCall, F.initKind, F.initSplit, F.initRow]
  repeat (first | (with_reducible refine wpAny_loadPart_at he ?_; rw [hcls]) | with_reducible refine wpAny_loadPart_at hC ?_ | (with_reducible refine wpAny_isSubtype_exc hC ?_; rw [hcB]) | wp_step)
  refine wpAny_onRaise ?_
  rw [show ∀ (a b : String) (n : Nat), Bind.check ⟨.positional, "*", B, .self, [⟨"args", .varPos, false⟩]⟩ a b n (List.map (fun x => x.fst) ({ pos := Value.ref e :: rest } : Args).kw) = pure () from
    fun a b n => check_star_args _ _ _ _ _ _]
  exact wpAny_pure hq
theorem init_X (F : ExcBaseFacts B newId initId bmB) (hcB : (Value.ref C :: bm).contains (.type B) = true) {e : Addr} {tp : Addr} {rest : List Value} {Q : Value → Shared → Prop}
    (hC : h.get? C = some (excClassObj nm q C N bs bm hdct sn sub ab col dd k0 k1 k2 k3 k5 newId)) (he : h.get? e = some (excObj C tp))
    (hq : Q .none ⟨(h.push { cls := .type "tuple", data := .seq rest.toArray }).update e (Obj.mapFields (·.setIfInBounds 0 (.ref h.objs.size))), g, d, t, os⟩) (hrest : rest.length ≤ sizeLine) :
    wpAny (model prog w) A (call (.builtin initId) (.ref e :: rest)) Q E ⟨h, g, d, t, os⟩ := by
  refine wpAny_call (codeAny_call_builtin F.init.plain F.initEntry (check_initX F hcB hC he rfl ?_))
  wp_walk
  exact hq
end
abbrev exBm : List Value := [.ref 32, .type "Exception", .type "BaseException", .type "object"]
theorem cls45 {w : World} {h : Heap} (X : (hd.heap_1 w.params).In h) : ∃ nm q bs hdct sn sub ab col dd k0 k1 k2 k3 k5, h.get? 45 = some (excClassObj nm q 45 44 bs exBm hdct sn sub ab col dd k0 k1 k2 k3 k5 "Exception.__new__") :=
  ⟨_, _, _, _, _, _, _, _, _, _, _, _, _, _, X 45 _ (by with_unfolding_all rfl)⟩
section
variable {w : World} {A : Around} {E : Value → Shared → Prop} {s : Shared} {h₀ : Heap} {L : Addr} {m : Str → Option Value} {news : List (Addr × Obj)}
theorem exc_method {pl : Sem Bool} {Q : Value × List Value → Shared → Prop} (F : Fr h₀ L s.heap m) (X : (hd.heap_1 w.params).In h₀) (h : Q (.builtin "Exception.__init__", []) { s with toks := s.toks + 1 }) :
    wpAny (model PR w) A (getMethod (.type "Exception") (Str.ofString "__init__") pl) Q E s :=
  method_type F X meta_exc (by decide +kernel) (find_exc _) (by rfl) h
theorem exc_init {e tp : Addr} {rest : List Value} {Q : Value → Shared → Prop} (F : Fr h₀ L s.heap m) (N : News h₀ L s.heap ((e, excObj 45 tp) :: news)) (hne : ∀ p ∈ news, p.1 ≠ e) (X : (hd.heap_1 w.params).In h₀) (hrest : rest.length ≤ sizeLine)
    (h : ∀ D h', Fr h₀ L h' m → News h₀ L h' ((e, excObj 45 D) :: (D, tupO rest 0) :: news) → (∀ p ∈ (e, excObj 45 tp) :: news, p.1 < D) → Q .none { s with heap := h' }) :
    wpAny (model PR w) A (call (.builtin "Exception.__init__") (.ref e :: rest)) Q E s := by
  obtain ⟨nm, q, bs, hdct, sn, sub, ab, col, dd, k0, k1, k2, k3, k5, hC⟩ := cls45 (X.keeps F.keep)
  have ze := N _ (.head _)
  obtain ⟨hh, g, d, t, os⟩ := s
  refine init_X PySem.F.excBase_Exception (by decide +kernel) hC ze.1 ?_ hrest
  have lt : ∀ p ∈ (e, excObj 45 tp) :: news, p.1 < hh.objs.size := fun p hp => Heap.lt_size (N p hp).1
  have F2 := (F.push { cls := .type "tuple", data := .seq rest.toArray }).change (Heap.SameBut.update (hh.push { cls := .type "tuple", data := .seq rest.toArray }) e (Obj.mapFields (·.setIfInBounds 0 (.ref hh.objs.size)))) ze.2.1 ze.2.2
  have he2 : (hh.push { cls := .type "tuple", data := .seq rest.toArray }).get? e = some (excObj 45 tp) := Heap.get?_push_of_some _ ze.1
  refine h _ _ F2 (fun p hp => ?_) lt
  rcases List.mem_cons.mp hp with rfl | hp
  · exact ⟨Heap.get?_update_self _ he2 rfl, ze.2⟩
  · rcases List.mem_cons.mp hp with rfl | hp
    · have hD : @Ne Nat hh.objs.size e := Nat.ne_of_gt (lt (e, excObj 45 tp) (.head _))
      refine ⟨(Heap.get?_update_other _ _ (Ne.symm hD)).trans (Heap.get?_push_size _ rfl), Nat.ne_of_gt F.ns.lt, ?_⟩
      exact next_is_new F
    · have z := N p (.tail _ hp)
      exact ⟨(Heap.get?_update_other _ _ (Ne.symm (hne p hp))).trans (Heap.get?_push_of_some _ z.1), z.2⟩
end
end
section
open Builtin Builtin.ObjectAttr
section
variable {prog : Program} {w : World} {A : Around} {E : Value → Shared → Prop} {s : Shared} {h₀ : Heap} {L : Addr} {m : Str → Option Value} {news : List (Addr × Obj)} {K : Frag}
theorem exc_store {x D C C2 : Addr} {cd : ClassData} {name : Str} {v : Value} {Q : Unit → Shared → Prop} (F : Fr h₀ L s.heap m) (N : News h₀ L s.heap ((x, excObj C D) :: news)) (hne : ∀ p ∈ news, p.1 ≠ x) (X : K.In h₀)
    (hc : clsIn K C = some cd) (hm : cd.mro = [.ref C, .ref C2, .type "Exception", .type "BaseException", .type "object"]) (hd : cd.hasDict = true) (ht : takerIn K C name = some none) (hs : findIn K (.ref C) "__setattr__" = some (some (.builtin "object.__setattr__")))
    (h : ∀ h' oe tk, Fr h₀ L h' m → News h₀ L h' ((x, oe) :: news) → oe.cls = .ref C → oe.data = .fields #[.ref D, .none, .none, .none, .bool false, .none] → Q () { s with heap := h', toks := tk }) :
    wpAny (model prog w) A (setAttr (.ref x) name v) Q E s := by
  have XK := X.keeps F.keep
  have zx := N _ (.head _)
  have I : InstAt s.heap x (excObj C D) C none := ⟨zx.1, rfl, rfl, trivial⟩
  refine set_plain XK I hs ?_
  have SF := PySem.F.store_object
  have I' : InstAt ({ s with toks := s.toks + 1 } : Shared).heap x (excObj C D) C none := I
  have sub : Looks (model prog w) s.heap (isInstance (.ref x) (.type "object")) true := I.type.andThen (looks_mroIn XK (by unfold mroIn; rw [hc, Option.bind_some, hm]; rfl))
  refine codeAny_call_builtin SF.slot.plain SF.entry (@check_slot (model prog w) _ _ { s with toks := s.toks + 1 } "object.__setattr__" "object" "__setattr__" (.ref x) [.str name s.toks, v] [] _ SF.kind SF.split sub (SF.args (.ref x) (.str name s.toks) v) ?_)
  obtain ⟨attr, ha, hr⟩ := Option.bind_eq_some_iff.mp ht
  have hmL : Looks (model prog w) s.heap (mroOf (.ref C)) cd.mro := (looks_clsIn XK hc).andThen .now
  have L3 : Looks (model prog w) s.heap (storeTaker? attr) none := by
    cases attr with
    | none => exact .now
    | some a =>
      obtain ⟨b, hb, hq⟩ := Option.map_eq_some_iff.mp hr
      refine (looks_takesIn XK hb).andThen ?_
      cases b
      · exact .now
      · cases hq
  rw [osa_eq, refuse_eq]
  refine wpAny_bind (wpAny_bind (I'.type.here (wpAny_bind (Looks.here (s := { s with toks := s.toks + 1 }) hmL ?_))))
  rw [hm, refuseLoop_ref, refuseLoop_ref, PySem.F.store_Exception.passes (.ref x)]
  refine wpAny_pure (wpAny_bind (I'.type.here (wpAny_bind (Looks.here (s := { s with toks := s.toks + 1 }) (looks_findIn XK ha) (wpAny_bind (Looks.here (s := { s with toks := s.toks + 1 }) L3 ?_))))))
  dsimp only
  obtain ⟨hh, g, d, t, os⟩ := s
  dsimp only at *
  refine wpAny_bind (wpAny_pure (wpAny_bind (wpAny_bind (wpAny_loadPart zx.1 (wpAny_bind (Looks.at (looks_clsIn XK hc) ?_))))))
  rw [hd]
  dsimp only
  have hx₁ : (hh.push { cls := .type "dict", data := .dict #[] }).get? x = some (excObj C D) := Heap.get?_push_of_some _ zx.1
  have hxs : x ≠ hh.objs.size := Nat.ne_of_lt (Heap.lt_size zx.1)
  rw [if_neg (by decide), if_neg (by simp [typeHasDict])]
  refine wpAny_bind (wpAny_alloc' (wpAny_bind (wpAny_update' hx₁ ?_)))
  refine wpAny_pure ?_
  have hgd : ((hh.push { cls := .type "dict", data := .dict #[] }).update x fun o => { cls := o.cls, dict := some hh.objs.size, data := o.data, slots := o.slots }).get? hh.objs.size
      = some { cls := .type "dict", data := .dict #[] } :=
    (Heap.get?_update_ne _ _ _ _ hxs.symm).trans (Heap.get?_push_at rfl rfl)
  have hnd : ((hh.push { cls := .type "dict", data := .dict #[] }).update x fun o => { cls := o.cls, dict := some hh.objs.size, data := o.data, slots := o.slots }).Ns hh.objs.size (fun _ => none) :=
    ⟨_, #[], _, hgd, rfl, fun e he => absurd he (by simp), fun _ => rfl⟩
  show wpAny _ _ (Builtin.ObjectAttr.storeInDict hh.objs.size (.str name t) name v) _ _ _
  unfold Builtin.ObjectAttr.storeInDict Builtin.ObjectAttr.newKeyGuard
  refine wpAny_bind (wpAny_pure (wpAny_bind (wpAny_nsSet1 (Heap.Ns1.of_empty hnd) fun h' hn' hs' => ?_)))
  obtain ⟨oD, esD, epD, hoD, hdD, hcD⟩ := hn'.count (Within.cons name v Within.nil)
  refine wpAny_bind (wpAny_lookBehind hoD (by rw [hdD]; exact pastItsLine_dict (Nat.le_trans hcD (by rw [List.length_cons, List.length_nil, sizeLine_eq]; omega))) ?_)
  refine wpAny_pure ?_
  have F1 := (F.push { cls := .type "dict", data := .dict #[] }).change (Heap.SameBut.update (hh.push { cls := .type "dict", data := .dict #[] }) x fun o => { cls := o.cls, dict := some hh.objs.size, data := o.data, slots := o.slots }) zx.2.1 zx.2.2
  have F2 := F1.change hs' (Nat.ne_of_gt F.ns.lt) (next_is_new F)
  refine h h' { excObj C D with dict := some hh.objs.size } _ F2 (fun p hp => ?_) rfl rfl
  rcases List.mem_cons.mp hp with rfl | hp
  · exact ⟨(hs'.2 x hxs).trans (Heap.get?_update_self _ hx₁ rfl), zx.2⟩
  · have z := N p (.tail _ hp)
    exact ⟨(hs'.2 p.1 (Nat.ne_of_lt (Heap.lt_size z.1))).trans ((Heap.get?_update_ne _ _ _ _ (hne p hp)).trans (Heap.get?_push_of_some _ z.1)), z.2⟩
end
end
section
def RaisableX (K : Frag) (E : Value → Shared → Prop) (C : Addr) (v : Value) (s₁ : Shared) : Prop :=
  ∃ a ob vs, v = .ref a ∧ K.In s₁.heap ∧ s₁.heap.get? a = some ob ∧ ob.cls = .ref C ∧ ob.data = .fields vs ∧ vs[1]? = some .none ∧ E (.ref a) s₁
section
variable {prog : Program} {w : World} {A : Around} {E : Value → Shared → Prop} {s : Shared} {K : Frag} {C : Addr} {env : Env}
theorem Raise_X {e : Expr} {pos : Pos} {Q : Flow → Shared → Prop} (hh : A.handled = none) (hb : mroIn K C (.type "BaseException") = some true) (ht : typeIn K (.ref C) = some (.type "type"))
    (h : wpAny (model prog w) A (eval e env) (RaisableX K E C) E s) : wpAny (model prog w) A (exec (.Raise (some e) none pos) env) Q E s := by
  show wpAny _ A (do standAt pos; raiseStmt env (some (do let v ← eval e env; standAt pos; pure v)) none) Q E s
  refine wpAny_bind (wpAny_standAt ?_)
  unfold raiseStmt
  dsimp only
  refine wpAny_bind (wpAny_bind (wpAny_mono h (fun v s₁ h₁ => wpAny_bind (wpAny_standAt (wpAny_pure ?_))) fun _ _ x => x))
  obtain ⟨a, ob, vs, rfl, X, ha, hcls, hd, h1, hE⟩ := h₁
  have LT : Looks (model prog w) s₁.heap (typeOf (.ref a)) (.ref C) := by
    rw [← hcls]; exact (Looks.ld ha).andThen .now
  have hnt : ∀ {Q' : Bool → Shared → Prop}, Q' false s₁ → wpAny (model prog w) A (isType (.ref a)) Q' E s₁ := by
    intro Q' hq
    simp only [isType, loadHead]
    refine wpAny_bind (wpAny_loadPart ha ?_)
    rw [hd]; exact wpAny_pure hq
  refine wpAny_bind (wpAny_pure ?_)
  dsimp only
  refine wpAny_bind (wpAny_holding ?_)
  unfold excFromValue isExcClass
  refine wpAny_bind (wpAny_bind (hnt ?_))
  simp only [Bool.false_eq_true, if_false]
  refine wpAny_pure ?_
  simp only [Bool.false_eq_true, if_false]
  have LI : Looks (model prog w) s₁.heap (isInstance (.ref a) (.type "BaseException")) true := LT.andThen (looks_mroIn X hb)
  refine wpAny_bind (LI.here ?_)
  simp only [if_true]
  refine wpAny_pure ?_
  refine wpAny_bind (hnt ?_)
  simp only [Bool.false_eq_true, if_false]
  unfold raisedInstance
  refine wpAny_bind (wpAny_bind (LT.here (wpAny_bind ((looks_typeIn X ht).here ?_))))
  rw [if_pos (by decide)]
  refine wpAny_pure ?_
  unfold setFlight raiseNew
  refine wpAny_bind (wpAny_bind (wpAny_field ha hd h1 ?_))
  rw [if_neg (by decide)]
  refine wpAny_pure (wpAny_bind (wpAny_handled ?_))
  rw [hh]
  first
    | exact wpAny_throw hE
    | exact wpAny_bind (wpAny_pure (wpAny_throw hE))
end
end
section
def Spec0 (w : World) (mean : ExcName → Option Value) (mg mb : Str → Option Value) (f : Addr) (d : Nat) (args : List Value) (news : List (Addr × Obj)) (Ok : List (Addr × Obj) → Value → Prop) : Prop :=
  ∀ (A : Around) (cn : Str) (cs : Scope) (L a : Addr) (ccd : Value) (A₀ : Around) (base h₀ : Heap) (m : Str → Option Value) (s : Shared) (R : Result → Shared → Prop),
    Room A d → A.frames = some [envOf cn cs L a ccd] → cs.kind = .function →
    Below A₀ base [] h₀ → Fr h₀ L s.heap m → (hd.heap_1 w.params).In h₀ → News h₀ L s.heap news → Top topView Lz mean mg mb h₀ → (hd.heap_1 w.params).In base → Top topView Lz mean mg mb base →
    (∀ r news' h' tk', Fr h₀ L h' m → News h₀ L h' news' → Ok news' r → R (.ok (.ret r)) { s with heap := h', toks := tk' }) →
    codeAny (model PR w) A (.call (.ref f) ⟨args, []⟩) R s
def Ends0 (fs : List Addr) (g : Heap) (ge : Array GenState) (dr : Drawn) (os : OsState) (Ok : List (Addr × Obj) → Value → Prop) (v : Value) (s' : Shared) : Prop :=
  ∃ g' L' h' m' news' tk', s' = ⟨h', ge, dr, tk', os⟩ ∧ KtsTurn fs g g' ∧ Fr g' L' h' m' ∧ News g' L' h' news' ∧ Ok news' v
section
variable {w : World} {mean : ExcName → Option Value} {mg mb : Str → Option Value}
theorem spec_intro0 {name qual : Str} {params : Arguments} {body : List Stmt} {scope : Scope} {dV kV doc pm cdv ct oc : Value} {an od : Option Addr} {osl : Array (Option Value)} {f : Addr} {args : List Value} {d : Nat} {news : List (Addr × Obj)} {Ok : List (Addr × Obj) → Value → Prop}
    (ho : (hd.heap_1 w.params).lookup f = some ⟨oc, od, .func (fnOf name qual params body scope dV kV doc pm an cdv ct), osl⟩) (hcd : codeIn (hd.heap_1 w.params) cdv qual = true)
    (hbind : bindArgs (fnOf name qual params body scope dV kV doc pm an cdv ct) ⟨args, []⟩ = pure ((params.args.map (·.arg)).zip args)) (hloc : (((params.args.map (·.arg)).zip args).all fun x => decide (scope.names.lookup x.1 = some .local)) = true)
    (hco : scope.isCoroutine = false) (hgen : scope.isGenerator = false) (hk : scope.kind = .function) (hcell : ∀ x ∈ scope.names, x.2 ≠ .cell)
    (h : ∀ (dp un : Nat) (gd : Option (List Code)) (fr : Option (List Env)) (cn : Str) (cs : Scope) (Lc a : Addr) (ccd : Value) (A₁ : Around) (base g : Heap) (L : Addr) (h₁ : Heap) (ge : Array GenState) (dr : Drawn) (os : OsState) (tk : Nat),
      let A9 : Around := Aro dp un gd fr; let E9 : Env := envX qual scope L f cdv [];
      Cx w mean mg mb A9 d E9 [envOf cn cs Lc a ccd] A₁ base g L → Room A9 d → fr = some [E9, envOf cn cs Lc a ccd] → Below A₁ base [envOf cn cs Lc a ccd] g → (hd.heap_1 w.params).In g → Top topView Lz mean mg mb g →
      A9 = A₁.deeper (envOf qual scope L f cdv) → KtsDicts ([envOf cn cs Lc a ccd].filterMap (·.frame)) g → (hd.heap_1 w.params).In base → Top topView Lz mean mg mb base →
      Fr g L h₁ (fun y => ((params.args.map (·.arg)).zip args).reverse.lookup y) → News g L h₁ news →
      ∀ T : Flow → Shared → Prop, Veil (fun fl s' => Ends0 ([envOf cn cs Lc a ccd].filterMap (·.frame)) g ge dr os Ok (match fl with | .ret v => v | _ => .none) s') T → wpAny (model PR w) A9 (execs body E9) T (fun _ _ => False) ⟨h₁, ge, dr, tk, os⟩) :
    Spec0 w mean mg mb f (d + 1) args news Ok := by
  intro A cn cs Lc a ccd A₀ base h₀ m s R hr hA hck B F X N T XB TB ret
  refine code_defS0 (R := R) B F X N T hA ho hcd (Nat.lt_of_le_of_lt (Nat.le_add_right _ _) hr.dep) (BindsTo.of_eq hbind) (locs hloc) (fun g L' h₁ F0 F1 N1 B1 X1 T1 D1 => ?_) hck hco hgen hk hcell
  have ea := aro_of (A := A.deeper (envOf qual scope L' f cdv)) hr.hh
  have hr' : Room (A.deeper (envOf qual scope L' f cdv)) d := hr.deeper
  rw [ea] at hr'
  have hfr : (A.deeper (envOf qual scope L' f cdv)).frames = some [envOf qual scope L' f cdv, envOf cn cs Lc a ccd] := Around.frames_deeper hA
  have := h _ _ _ _ cn cs Lc a ccd A base g L' h₁ s.gens s.drawn s.os (s.toks + ((params.args.map (·.arg)).zip args).length) ⟨hr', hfr, rfl, hk, B1, X1, T1⟩ hr' hfr B1 X1 T1 ea.symm D1 XB TB F1 N1 _ veil0
  rw [← ea] at this
  refine wpAny_mono this (fun fl s' e => ?_) fun _ _ e => e.elim
  obtain ⟨g', L2, h', m', news', tk', rfl, T', F₂, N₂, ok⟩ := e
  exact leaveS0_ F₂ N₂ T' fun F₃ N₃ => ret _ _ _ _ F₃ N₃ ok

theorem useX {f : Addr} {d : Nat} {args : List Value} {news : List (Addr × Obj)} {Ok : List (Addr × Obj) → Value → Prop} {Er : Prop} {cls : Value} {A : Around} {env : Env} {outer : List Env} {A₀ : Around} {base h₀ : Heap} {L : Addr} {m : Str → Option Value} {s : Shared} {Q E : Value → Shared → Prop} {d' : Nat}
    (S : SpecX w mean mg mb f d args news Ok Er cls) (C : Cx w mean mg mb A d' env outer A₀ base h₀ L) (F : Fr h₀ L s.heap m) (N : News h₀ L s.heap news) (hle : d ≤ d')
    (ret : ∀ r news' h' tk', Fr h₀ L h' m → News h₀ L h' news' → Ok news' r → Q r { s with heap := h', toks := tk' })
    (err : Er → ∀ e G h' tk', RaisedSN base G (env :: outer) e cls news h' → Fr h₀ L G m → G.UpToSlots h' → E (.ref e) { s with heap := h', toks := tk' }) :
    Stop (wpAny (model PR w) A (PySem.call (.ref f) args) Q E s) :=
  wpAny_call (S A env outer A₀ base h₀ L m s _ (C.hr.le hle) C.hA C.hf C.hk C.B F C.X N C.T (fun r n h t F N _ ok => ret r n h t F N ok) err)
theorem use0 {f : Addr} {d : Nat} {args : List Value} {news : List (Addr × Obj)} {Ok : List (Addr × Obj) → Value → Prop} {A : Around} {cn : Str} {cs : Scope} {a : Addr} {ccd : Value} {A₀ : Around} {base h₀ : Heap} {L : Addr} {m : Str → Option Value} {s : Shared} {Q E : Value → Shared → Prop} {d' : Nat}
    (S : Spec0 w mean mg mb f d args news Ok) (C : Cx w mean mg mb A d' (envOf cn cs L a ccd) [] A₀ base h₀ L) (XB : (hd.heap_1 w.params).In base) (TB : Top topView Lz mean mg mb base) (F : Fr h₀ L s.heap m) (N : News h₀ L s.heap news) (hle : d ≤ d')
    (ret : ∀ r news' h' tk', Fr h₀ L h' m → News h₀ L h' news' → Ok news' r → Q r { s with heap := h', toks := tk' }) :
    Stop (wpAny (model PR w) A (PySem.call (.ref f) args) Q E s) :=
  wpAny_call (S A cn cs L a ccd A₀ base h₀ m s _ (C.hr.le hle) C.hA C.hk C.B F C.X N C.T XB TB ret)
end
end
section
def SpecP (P : Heap → Prop) (w : World) (mean : ExcName → Option Value) (mg mb : Str → Option Value) (f : Addr) (d : Nat) (args : List Value) (news : List (Addr × Obj)) (Ok : List (Addr × Obj) → Value → Prop) : Prop :=
  ∀ (A : Around) (env : Env) (outer : List Env) (A₀ : Around) (base h₀ : Heap) (L : Addr) (m : Str → Option Value) (s : Shared) (R : Result → Shared → Prop),
    Room A d → A.frames = some (env :: outer) → env.frame = some L → env.scope.kind = .function →
    Below A₀ base outer h₀ → Fr h₀ L s.heap m → (hd.heap_1 w.params).In h₀ → News h₀ L s.heap news → Top topView Lz mean mg mb h₀ → P h₀ →
    (∀ r news' h' tk', Fr h₀ L h' m → News h₀ L h' news' → Kept s.heap news h' news' → Ok news' r → R (.ok (.ret r)) { s with heap := h', toks := tk' }) →
    codeAny (model PR w) A (.call (.ref f) ⟨args, []⟩) R s
section
variable {w : World} {mean : ExcName → Option Value} {mg mb : Str → Option Value} {P : Heap → Prop}
theorem spec_introP (hP : ∀ h h' : Heap, (∀ b o, h.get? b = some o → h'.get? b = some o) → P h → P h') {name qual : Str} {params : Arguments} {body : List Stmt} {scope : Scope} {dV kV doc pm cdv ct oc : Value} {an od : Option Addr} {osl : Array (Option Value)} {f : Addr} {args : List Value} {d : Nat} {news : List (Addr × Obj)} {Ok : List (Addr × Obj) → Value → Prop}
    (ho : (hd.heap_1 w.params).lookup f = some ⟨oc, od, .func (fnOf name qual params body scope dV kV doc pm an cdv ct), osl⟩) (hcd : codeIn (hd.heap_1 w.params) cdv qual = true)
    (hbind : bindArgs (fnOf name qual params body scope dV kV doc pm an cdv ct) ⟨args, []⟩ = pure ((params.args.map (·.arg)).zip args)) (hloc : (((params.args.map (·.arg)).zip args).all fun x => decide (scope.names.lookup x.1 = some .local)) = true)
    (hco : scope.isCoroutine = false) (hgen : scope.isGenerator = false) (hk : scope.kind = .function) (hcell : ∀ x ∈ scope.names, x.2 ≠ .cell)
    (h : ∀ (dp un : Nat) (gd : Option (List Code)) (fr : Option (List Env)) (envc : Env) (outer : List Env) (A₀ : Around) (base g : Heap) (L : Addr) (h₁ : Heap) (ge : Array GenState) (dr : Drawn) (os : OsState) (tk : Nat),
      let A9 : Around := Aro dp un gd fr; let E9 : Env := envX qual scope L f cdv [];
      Cx w mean mg mb A9 d E9 (envc :: outer) A₀ base g L → Room A9 d → fr = some (E9 :: envc :: outer) → Below A₀ base (envc :: outer) g → (hd.heap_1 w.params).In g → Top topView Lz mean mg mb g → P g →
      Fr g L h₁ (fun y => ((params.args.map (·.arg)).zip args).reverse.lookup y) → News g L h₁ news →
      ∀ T : Flow → Shared → Prop, Veil (fun fl s' => Ends g L ge dr os Ok (match fl with | .ret v => v | _ => .none) s') T → wpAny (model PR w) A9 (execs body E9) T (fun _ _ => False) ⟨h₁, ge, dr, tk, os⟩) :
    SpecP P w mean mg mb f (d + 1) args news Ok := by
  intro A env outer A₀ base h₀ L m s R hr hA hf hke B F X N T pp ret
  obtain ⟨FG, BG, st, lv⟩ := groundX (R := R) B F N hA hf hke
  have X2 : (hd.heap_1 w.params).In (hideAll s.heap (news.map (·.1))) := X.keeps fun b o e => st b o e
  have T2 : Top topView Lz mean mg mb (hideAll s.heap (news.map (·.1))) := T.keeps fun b o e => st b o e
  refine codeAny_call_def (fd := fnOf name qual params body scope dV kV doc pm an cdv ct) (body := body) (binds := (params.args.map (·.arg)).zip args) (Nat.lt_of_le_of_lt (Nat.le_add_right _ _) hr.dep) ((X.keeps F.keep) _ _ ho) rfl (T.nolimit.keeps F.keep) (codeRec_of (X.keeps F.keep) hcd) rfl (BindsTo.of_eq hbind) hcell (locs hloc) (fun h₁ hns hk₁ => ?_) hco hgen hk
  have ea := aro_of (A := A.deeper (envOf qual scope s.heap.objs.size f cdv)) hr.hh
  have hr' : Room (A.deeper (envOf qual scope s.heap.objs.size f cdv)) d := hr.deeper
  show wpAny (model PR w) (A.deeper (envOf qual scope s.heap.objs.size f cdv)) (execs body (envOf qual scope s.heap.objs.size f cdv)) _ _ _
  rw [ea] at hr' ⊢
  refine wpAny_mono (h _ _ _ _ env outer A base (hideAll s.heap (news.map (·.1))) s.heap.objs.size h₁ s.gens s.drawn s.os _ ⟨hr', Around.frames_deeper hA, rfl, hk, BG, X2, T2⟩ hr' (Around.frames_deeper hA) BG X2 T2 (hP _ _ (fun b o e => st b o e) pp) ⟨hns, fun b o e => hk₁ b o (of_hideAll _ e), Nat.le_of_eq (hideAll_size _ _)⟩
    (fun p hp => ⟨hk₁ _ _ (N p hp).1, Nat.ne_of_lt (Heap.lt_size (N p hp).1), hideAll_none _ (List.mem_map_of_mem hp)⟩) _ veil0) (fun fl s' e => ?_) fun _ _ e => e.elim
  obtain ⟨h', m', news', tk', rfl, F₂, N₂, ok⟩ := e
  exact lv _ _ (leaveK_ F₂ N₂ fun F₃ N₃ => ret _ _ _ _ F₃ N₃ (Kept.of F₂ N₂) ok)
theorem useP {f : Addr} {d : Nat} {args : List Value} {news : List (Addr × Obj)} {Ok : List (Addr × Obj) → Value → Prop} {A : Around} {env : Env} {outer : List Env} {A₀ : Around} {base h₀ : Heap} {L : Addr} {m : Str → Option Value} {s : Shared} {Q E : Value → Shared → Prop} {d' : Nat}
    (S : SpecP P w mean mg mb f d args news Ok) (C : Cx w mean mg mb A d' env outer A₀ base h₀ L) (pp : P h₀) (F : Fr h₀ L s.heap m) (N : News h₀ L s.heap news) (hle : d ≤ d')
    (ret : ∀ r news' h' tk', Fr h₀ L h' m → News h₀ L h' news' → Ok news' r → Q r { s with heap := h', toks := tk' }) :
    Stop (wpAny (model PR w) A (PySem.call (.ref f) args) Q E s) :=
  wpAny_call (S A env outer A₀ base h₀ L m s _ (C.hr.le hle) C.hA C.hf C.hk C.B F C.X N C.T pp fun r n h t F N _ ok => ret r n h t F N ok)
end
end
section
theorem for_range {prog : Program} {w : World} {A : Around} {E : Value → Shared → Prop} {s : Shared} {env : Env} {h₀ : Heap} {x : Str} {px : Pos} {body : List Stmt} {Q : Flow → Shared → Prop} {r : Addr} {n : Nat} {t u v : Tok} {m : Str → Option Value}
    (hh : A.handled = none) (hr : IsRange s.heap r 0 n 1 t u v) (hn : n ≤ 1000) (F : Fr h₀ env.locals s.heap m)
    (J : Nat → (Str → Option Value) → List (Addr × Obj) → Prop) (h0 : ∃ nx, News h₀ env.locals s.heap nx ∧ J 0 m nx)
    (turn : ∀ i v m₁ nx h tk I oI, i < n → (∃ t, v = .int (i : Nat) t) → J i m₁ nx → (∀ p ∈ nx, p.1 ≠ I) → Fr h₀ env.locals h m₁ → News h₀ env.locals h ((I, oI) :: nx) →
      ∀ T : Flow → Shared → Prop, Veil (Turn h₀ env.locals I oI s (J (i + 1)) Q) T → wpAny (model prog w) A (assign (.Name x px) env v) (fun _ s₂ => wpAny (model prog w) A (execs body env) T E s₂) E { s with heap := h, toks := tk })
    (done : ∀ m₁ nx h tk, J n m₁ nx → Fr h₀ env.locals h m₁ → News h₀ env.locals h nx → Q .next { s with heap := h, toks := tk })
    (hE : PassesOwn (model prog w) A env E) :
    wpAny (model prog w) A (pyIter (.ref r)) (fun it s₂ => codeAny (model prog w) A (.forLoop (.Name x px) it body [] env) (fun r s' => match r with | .ok f => Q f s' | .error e => cameBackBy (model prog w) A env E e s') s₂) E s := by
  obtain ⟨news, N, h0⟩ := h0
  have hsz : Builtin.Range.rangeSize 0 (n : Int) 1 = n := by
    rw [rangeSize_pos (by omega) (by omega)]; omega
  refine wpAny_pyIter_range hr (small_one (by omega) (by omega) (by omega) (by omega)) ?_
  rw [hsz]
  have W := Walks.range (prog := prog) (w := w) hh s.heap.objs.size 0 1 n
  have keep : ∀ b o, s.heap.get? b = some o → (s.heap.push { cls := .type "range_iterator", data := .fields #[rawInt 0, rawInt (n : Int), rawInt 1] }).get? b = some o := fun b o e => Heap.get?_push_of_some _ e
  refine for_core (S := fun _ => True) W (fun i h st => ⟨_, st⟩) (fun i h h' o nx st e e' k N' S => ?_) (fun i s' v Q' E' st q => ?_) ?_ (F.keeps keep) (N.grown keep) (Nat.ne_of_gt F.ns.lt) (next_is_new F) (fun p hp => Nat.ne_of_lt (Heap.lt_size (N p hp).1)) J (fun _ _ _ _ => trivial) h0 (fun i v m₁ nx h tk oI hi hP hJ off F' N' => ?_) (fun m₁ nx h tk hJ F' N' => done m₁ nx h tk hJ F' N') hE
  · have st' : h.get? s.heap.objs.size = _ := st
    rw [e] at st'
    cases st'
    exact e'
  · exact wpAny_of_eq (by rfl) q
  · show IsRangeIter _ _ _ _ _
    have e := Heap.get?_push_size s.heap (o := { cls := .type "range_iterator", data := .fields #[rawInt 0, rawInt (n : Int), rawInt 1] }) rfl
    simpa using e
  · obtain ⟨t, rfl⟩ := hP
    exact turn i _ m₁ nx h tk _ oI hi ⟨t, by congr 1; omega⟩ hJ off F' N'
structure Hidden (p : Prop) : Prop where
  out : p
theorem exec_cut {M : Model} {A : Around} {st : Stmt} {rest : List Stmt} {env : Env} {Q : Flow → Shared → Prop} {E : Value → Shared → Prop} {s : Shared} (P : Shared → Prop) (h : wpAny M A (exec st env) (fun f s' => Hidden (f = .next ∧ P s')) (fun _ _ => False) s) (k : ∀ s', P s' → wpAny M A (execs rest env) Q E s') : wpAny M A (execs (st :: rest) env) Q E s :=
  wpAny_execs_cons (wpAny_mono h (fun f s' hf => by obtain ⟨rfl, hp⟩ := hf.out; exact k s' hp) (fun _ _ h => h.elim))
theorem stmt_cut {M : Model} {A : Around} {st : Stmt} {env : Env} {Q : Flow → Shared → Prop} {E : Value → Shared → Prop} {s : Shared} (P : Shared → Prop) (h : wpAny M A (exec st env) (fun f s' => Hidden (f = .next ∧ P s')) (fun _ _ => False) s) (k : ∀ s', P s' → Q .next s') : Stop (wpAny M A (exec st env) Q E s) :=
  wpAny_mono h (fun f s' hf => by obtain ⟨rfl, hp⟩ := hf.out; exact k s' hp) fun _ _ h => h.elim
theorem exec_cut2 {M : Model} {A : Around} {st : Stmt} {rest : List Stmt} {env : Env} {Q : Flow → Shared → Prop} {E : Value → Shared → Prop} {s : Shared} (P : Shared → Prop) (V : Value → Shared → Prop) (h : wpAny M A (exec st env) (fun f s' => Hidden ((f = .next ∧ P s') ∨ ∃ v, f = .ret v ∧ V v s')) (fun _ _ => False) s) (k : ∀ s', P s' → wpAny M A (execs rest env) Q E s') (r : ∀ v s', V v s' → Q (.ret v) s') : wpAny M A (execs (st :: rest) env) Q E s :=
  wpAny_execs_cons (wpAny_mono h (fun f s' hf => by
    obtain ⟨rfl, hp⟩ | ⟨v, rfl, hv⟩ := hf.out
    · exact k s' hp
    · exact r v s' hv) (fun _ _ h => h.elim))
section
variable {prog : Program} {w : World} {A : Around} {E : Value → Shared → Prop} {s : Shared} {h₀ : Heap} {L : Addr} {news : List (Addr × Obj)} {value slice : PySem.Expr} {t : Addr} {vs : List Value} {n : Nat} {k : Int} {u : Tok} {x : Value} {Q : Value → Shared → Prop}
theorem item_tupK (j : Nat) (hk : k = (j : Int)) (N : News h₀ L s.heap news) (hm : (t, tupO vs n) ∈ news) (hx : vs[j]? = some x) (hz : vs.length ≤ sizeLine) (h : Q x s) (hs : subscripted slice false (.ref t) (.int k u) = operate [.ref t, .int k u] (getItem (.ref t) (.int k u))) :
    wpAny (model prog w) A (subscriptTail value slice (.ref t) (.int k u)) Q E s := item_tup_at N hm hk hx hz h hs
theorem item_listK (j : Nat) (hk : k = (j : Int)) (N : News h₀ L s.heap news) (hm : (t, PySem.W.listOf vs.toArray n) ∈ news) (hx : vs[j]? = some x) (hz : vs.length ≤ sizeLine) (h : Q x s) (hs : subscripted slice false (.ref t) (.int k u) = operate [.ref t, .int k u] (getItem (.ref t) (.int k u))) :
    wpAny (model prog w) A (subscriptTail value slice (.ref t) (.int k u)) Q E s := item_list_at N hm hk hx hz h hs
end
section
variable {A B C : List (Addr × Obj)} {x : Addr × Obj}
theorem sub_nil : ∀ p ∈ ([] : List (Addr × Obj)), p ∈ B := fun _ h => nomatch h
theorem sub_self : ∀ p ∈ A, p ∈ A := fun _ h => h
theorem sub_cons (h : x ∈ B) (k : ∀ p ∈ A, p ∈ B) : ∀ p ∈ x :: A, p ∈ B := List.forall_mem_cons.mpr ⟨h, k⟩
theorem sub_app (h : ∀ p ∈ A, p ∈ B) (k : ∀ p ∈ C, p ∈ B) : ∀ p ∈ A ++ C, p ∈ B := fun p hp => (List.mem_append.mp hp).elim (h p) (k p)
theorem sub_tail (h : ∀ p ∈ A, p ∈ B) : ∀ p ∈ A, p ∈ x :: B := fun p hp => .tail _ (h p hp)
theorem sub_left (h : ∀ p ∈ A, p ∈ B) : ∀ p ∈ A, p ∈ B ++ C := fun p hp => List.mem_append_left _ (h p hp)
theorem sub_right (h : ∀ p ∈ A, p ∈ C) : ∀ p ∈ A, p ∈ B ++ C := fun p hp => List.mem_append_right _ (h p hp)
theorem sub_use (h : ∀ p ∈ A, p ∈ B) (k : x ∈ A) : x ∈ B := h x k
end
end
local macro_rules | `(tactic| walk_at "mem") => `(tactic| first | assumption | exact (by assumption : ∀ p, p ∈ _ → p ∈ _) _ (by assumption) | exact List.Mem.head _ | (refine List.Mem.tail _ ?_; walk_at "mem") | (refine List.mem_append_right _ ?_; walk_at "mem") | (refine List.mem_append_left _ ?_; walk_at "mem"))
local macro_rules | `(tactic| k_mem) => `(tactic| walk_at "mem")
local macro_rules | `(tactic| k_all) => `(tactic| assumption)
local macro_rules | `(tactic| walk_at $s:str) => match s.getString with
  | "exec While Compare cons nil" | "eval ListComp" | "eval ListComp Tuple" | "call ref" | "pyIter ref" | "call type:enumerate" | "CompSrc" | "SrcPT" | "Src2" | "SrcNT" | "exec Assign cons ListComp" | "exec Raise some none" | "call builtin:list.append" | "call builtin:len" | "call builtin:sorted" | "call type:dict" | "call type:tuple" | "call builtin:list.pop" | "call type:list" | "binaryOp Mult int int" | "subscriptTail Name Constant ref int" | "compareOp Eq ref ref" | "compareOp NotEq ref ref" => `(tactic| (k_here; refine stop_in ?_))
  | "exec For Name Name cons nil" | "exec For Name Call cons nil" | "exec For Name List cons nil" | "exec For Name Subscript cons nil" | "exec For Tuple Name cons nil" | "exec For Tuple Call cons nil" | "exec For Tuple List cons nil" | "exec For Tuple Subscript cons nil" => `(tactic| (k_here; k_dflt (refine wpAny_For ?_)))
  | "eval Call" => `(tactic| (k_here; k_dflt (refine Call_ ?_)))
  | "eval Call Attribute" => `(tactic| (k_here; k_dflt (refine MethodCall_ ?_)))
  | "testChain" => `(tactic| refine test_link ?_)
  | _ => Lean.Macro.throwUnsupported
local macro_rules | `(tactic| walk_at "sub") => `(tactic| first | exact sub_self | assumption | exact sub_nil | (refine sub_cons ?_ ?_; walk_at "mem"; walk_at "sub") | (refine sub_app ?_ ?_; walk_at "sub"; walk_at "sub") | (refine sub_tail ?_; walk_at "sub") | (refine sub_left ?_; walk_at "sub") | (refine sub_right ?_; walk_at "sub"))
theorem fill_now : PySem.Challenge.rw_pf0388_01.prog = PySem.Challenge.rw_pf0388_01.prog ∧ hd.heap_1 = hd.heap_1 := by k_fill; exact ⟨rfl, rfl⟩
section
theorem off_F1 : True := by w_top off; trivial
variable {w : World} {mean : ExcName → Option Value} {mg mb : Str → Option Value} {news : List (Addr × Obj)}
def mdat (p : Nat × Nat) : Dat := .tuple [.int p.1, .int p.2]
def inMask (p q : Nat × Nat) : Bool := decide (p.2 &&& q.2 = q.2) && decide (p.1 &&& q.2 = q.1)
def metMask (p q : Nat × Nat) : Bool := decide ((p.1 ^^^ q.1) &&& p.2 &&& q.2 = 0)
theorem s_is_mask_within {v1 v2 : Value} {p q : Nat × Nat} (h1 : DatIn news v1 (mdat p)) (h2 : DatIn news v2 (mdat q)) :
    Spec w mean mg mb 142 1 [v1, v2] news (fun news' r => news' = news ∧ r = .bool (inMask p q)) := by
  refine hideG fun PP hPP => ?_
  obtain ⟨x1, n1, t1, u1, rfl, m1⟩ := dat2 h1
  refine hPP ?_
  clear hPP PP
  refine hideG fun PP hPP => ?_
  obtain ⟨x2, n2, t2, u2, rfl, m2⟩ := dat2 h2
  refine hPP ?_
  clear hPP PP
  ((refine' spec_intro (by k_is) (by k_is) (by exact rfl) (by exact rfl) (by exact rfl) (by exact rfl) (by exact rfl) (by decide) ?_; k_whole; intro dp' un' gd' fr' envc' outer' A₀' base' g' L' h' ge' dr' os' tk' A9' E9' C' hr' hA' B' X' T' F' N' T' hT'; (try dsimp only [List.map, List.zip, List.zipWith, List.reverse, List.reverseAux] at F'); (try dsimp only); (try k_fold)))
  (k_steps <;> repeat' ((first | with_reducible refine stop_out ?_ | with_reducible show wpAny _ _ _ _ _ _); (first | ((k_here; (with_reducible show wpAny _ _ (subscriptTail _ _ (Value.ref _) (Value.int _ _)) _ _ _); k_dflt (first | (refine' item_tupK 0 (by exact rfl) (by k_asm) (by k_mem) (by exact rfl) (by first | assumption | (rw [sizeLine_eq]; exact Nat.le_of_ble_eq_true rfl)) ?_ (by with_unfolding_all rfl)) | (refine' item_listK 0 (by exact rfl) (by k_asm) (by k_mem) (by exact rfl) (by first | assumption | (rw [sizeLine_eq]; exact Nat.le_of_ble_eq_true rfl)) ?_ (by with_unfolding_all rfl)) | (refine' item_tupK 1 (by exact rfl) (by k_asm) (by k_mem) (by exact rfl) (by first | assumption | (rw [sizeLine_eq]; exact Nat.le_of_ble_eq_true rfl)) ?_ (by with_unfolding_all rfl)) | (refine' item_listK 1 (by exact rfl) (by k_asm) (by k_mem) (by exact rfl) (by first | assumption | (rw [sizeLine_eq]; exact Nat.le_of_ble_eq_true rfl)) ?_ (by with_unfolding_all rfl)) | (refine' item_tupK 2 (by exact rfl) (by k_asm) (by k_mem) (by exact rfl) (by first | assumption | (rw [sizeLine_eq]; exact Nat.le_of_ble_eq_true rfl)) ?_ (by with_unfolding_all rfl)) | (refine' item_tupK 3 (by exact rfl) (by k_asm) (by k_mem) (by exact rfl) (by first | assumption | (rw [sizeLine_eq]; exact Nat.le_of_ble_eq_true rfl)) ?_ (by with_unfolding_all rfl)) | (refine' item_tupK 4 (by exact rfl) (by k_asm) (by k_mem) (by exact rfl) (by first | assumption | (rw [sizeLine_eq]; exact Nat.le_of_ble_eq_true rfl)) ?_ (by with_unfolding_all rfl))))) | fail "no word"); k_steps))
  all_goals (try (((repeat (first | refine veil (by assumption) ?_ | refine turn_ret ?_ | refine turn_brk ?_ | refine wturn_ret ?_ | refine wturn_brk ?_)); (try dsimp only))))
  all_goals (((try dsimp only); refine ⟨_, _, _, _, rfl, by assumption, by assumption, ?_⟩; (try dsimp only)))
  all_goals (refine ⟨rfl, ?_⟩; simp only [bAnd, inMask] at *; congr 1; grind)

theorem s_do_masks_meet {v1 v2 : Value} {p q : Nat × Nat} (h1 : DatIn news v1 (mdat p)) (h2 : DatIn news v2 (mdat q)) :
    Spec w mean mg mb 149 1 [v1, v2] news (fun news' r => news' = news ∧ r = .bool (metMask p q)) := by
  refine hideG fun PP hPP => ?_
  obtain ⟨x1, n1, t1, u1, rfl, m1⟩ := dat2 h1
  refine hPP ?_
  clear hPP PP
  refine hideG fun PP hPP => ?_
  obtain ⟨x2, n2, t2, u2, rfl, m2⟩ := dat2 h2
  refine hPP ?_
  clear hPP PP
  ((refine' spec_intro (by k_is) (by k_is) (by exact rfl) (by exact rfl) (by exact rfl) (by exact rfl) (by exact rfl) (by decide) ?_; k_whole; intro dp' un' gd' fr' envc' outer' A₀' base' g' L' h' ge' dr' os' tk' A9' E9' C' hr' hA' B' X' T' F' N' T' hT'; (try dsimp only [List.map, List.zip, List.zipWith, List.reverse, List.reverseAux] at F'); (try dsimp only); (try k_fold)))
  (k_steps <;> repeat' ((first | with_reducible refine stop_out ?_ | with_reducible show wpAny _ _ _ _ _ _); (first | ((k_here; (with_reducible show wpAny _ _ (subscriptTail _ _ (Value.ref _) (Value.int _ _)) _ _ _); k_dflt (first | (refine' item_tupK 0 (by exact rfl) (by k_asm) (by k_mem) (by exact rfl) (by first | assumption | (rw [sizeLine_eq]; exact Nat.le_of_ble_eq_true rfl)) ?_ (by with_unfolding_all rfl)) | (refine' item_listK 0 (by exact rfl) (by k_asm) (by k_mem) (by exact rfl) (by first | assumption | (rw [sizeLine_eq]; exact Nat.le_of_ble_eq_true rfl)) ?_ (by with_unfolding_all rfl)) | (refine' item_tupK 1 (by exact rfl) (by k_asm) (by k_mem) (by exact rfl) (by first | assumption | (rw [sizeLine_eq]; exact Nat.le_of_ble_eq_true rfl)) ?_ (by with_unfolding_all rfl)) | (refine' item_listK 1 (by exact rfl) (by k_asm) (by k_mem) (by exact rfl) (by first | assumption | (rw [sizeLine_eq]; exact Nat.le_of_ble_eq_true rfl)) ?_ (by with_unfolding_all rfl)) | (refine' item_tupK 2 (by exact rfl) (by k_asm) (by k_mem) (by exact rfl) (by first | assumption | (rw [sizeLine_eq]; exact Nat.le_of_ble_eq_true rfl)) ?_ (by with_unfolding_all rfl)) | (refine' item_tupK 3 (by exact rfl) (by k_asm) (by k_mem) (by exact rfl) (by first | assumption | (rw [sizeLine_eq]; exact Nat.le_of_ble_eq_true rfl)) ?_ (by with_unfolding_all rfl)) | (refine' item_tupK 4 (by exact rfl) (by k_asm) (by k_mem) (by exact rfl) (by first | assumption | (rw [sizeLine_eq]; exact Nat.le_of_ble_eq_true rfl)) ?_ (by with_unfolding_all rfl))))) | fail "no word"); k_steps))
  all_goals (try (((repeat (first | refine veil (by assumption) ?_ | refine turn_ret ?_ | refine turn_brk ?_ | refine wturn_ret ?_ | refine wturn_brk ?_)); (try dsimp only))))
  all_goals (((try dsimp only); refine ⟨_, _, _, _, rfl, by assumption, by assumption, ?_⟩; (try dsimp only)))
  all_goals (refine ⟨rfl, ?_⟩; simp only [bAnd, bXor, metMask] at *; congr 1; grind)

theorem holds_mask {a b : Nat} {k : Int} (hk : k = -1 ∨ 0 ≤ k) (h : k ≠ -1) : (Builtin.bitAnd k b == (a : Int)) = (Wish.mask a b).holds k := by
  obtain ⟨n, rfl⟩ := Int.eq_ofNat_of_zero_le (hk.resolve_left h)
  rw [bAnd, Wish.holds, if_neg h, Wish.has, Int.toNat_natCast]
  grind
theorem holds_range {a b : Nat} {k : Int} (hk : k = -1 ∨ 0 ≤ k) (h : k ≠ -1) : (decide ((a : Int) ≤ k) && decide (k ≤ (b : Int))) = (Wish.range a b).holds k := by
  obtain ⟨n, rfl⟩ := Int.eq_ofNat_of_zero_le (hk.resolve_left h)
  rw [Wish.holds, if_neg h, Wish.has, Int.toNat_natCast]
  grind
theorem s_wish_holds {v : Value} {x : Wish} {k : Int} {t : Tok} (h1 : DatIn news v x.dat) (hk : k = -1 ∨ 0 ≤ k) :
    Spec w mean mg mb 74 1 [v, .int k t] news (fun news' r => news' = news ∧ r = .bool (x.holds k)) := by
  cases x with
  | mask a b =>
    refine hideG fun PP hPP => ?_
    obtain ⟨y, n, t1, u, z, rfl, m1⟩ := datS2 h1
    refine hPP ?_
    clear hPP PP
    ((refine' spec_intro (by k_is) (by k_is) (by exact rfl) (by exact rfl) (by exact rfl) (by exact rfl) (by exact rfl) (by decide) ?_; k_whole; intro dp' un' gd' fr' envc' outer' A₀' base' g' L' h' ge' dr' os' tk' A9' E9' C' hr' hA' B' X' T' F' N' T' hT'; (try dsimp only [List.map, List.zip, List.zipWith, List.reverse, List.reverseAux] at F'); (try dsimp only); (try k_fold)))
    (k_steps <;> repeat' ((first | with_reducible refine stop_out ?_ | with_reducible show wpAny _ _ _ _ _ _); (first | ((k_here; (with_reducible show wpAny _ _ (subscriptTail _ _ (Value.ref _) (Value.int _ _)) _ _ _); k_dflt (first | (refine' item_tupK 0 (by exact rfl) (by k_asm) (by k_mem) (by exact rfl) (by first | assumption | (rw [sizeLine_eq]; exact Nat.le_of_ble_eq_true rfl)) ?_ (by with_unfolding_all rfl)) | (refine' item_listK 0 (by exact rfl) (by k_asm) (by k_mem) (by exact rfl) (by first | assumption | (rw [sizeLine_eq]; exact Nat.le_of_ble_eq_true rfl)) ?_ (by with_unfolding_all rfl)) | (refine' item_tupK 1 (by exact rfl) (by k_asm) (by k_mem) (by exact rfl) (by first | assumption | (rw [sizeLine_eq]; exact Nat.le_of_ble_eq_true rfl)) ?_ (by with_unfolding_all rfl)) | (refine' item_listK 1 (by exact rfl) (by k_asm) (by k_mem) (by exact rfl) (by first | assumption | (rw [sizeLine_eq]; exact Nat.le_of_ble_eq_true rfl)) ?_ (by with_unfolding_all rfl)) | (refine' item_tupK 2 (by exact rfl) (by k_asm) (by k_mem) (by exact rfl) (by first | assumption | (rw [sizeLine_eq]; exact Nat.le_of_ble_eq_true rfl)) ?_ (by with_unfolding_all rfl)) | (refine' item_tupK 3 (by exact rfl) (by k_asm) (by k_mem) (by exact rfl) (by first | assumption | (rw [sizeLine_eq]; exact Nat.le_of_ble_eq_true rfl)) ?_ (by with_unfolding_all rfl)) | (refine' item_tupK 4 (by exact rfl) (by k_asm) (by k_mem) (by exact rfl) (by first | assumption | (rw [sizeLine_eq]; exact Nat.le_of_ble_eq_true rfl)) ?_ (by with_unfolding_all rfl))))) | fail "no word"); k_steps))
    all_goals (try (((repeat (first | refine veil (by assumption) ?_ | refine turn_ret ?_ | refine turn_brk ?_ | refine wturn_ret ?_ | refine wturn_brk ?_)); (try dsimp only))))
    all_goals (((try dsimp only); refine ⟨_, _, _, _, rfl, by assumption, by assumption, ?_⟩; (try dsimp only)))
    all_goals (refine ⟨rfl, ?_⟩; (try dsimp only))
    · simp [Wish.holds, *]
    · rw [holds_mask hk (by assumption)]
  | range a b =>
    refine hideG fun PP hPP => ?_
    obtain ⟨y, n, t1, u, z, rfl, m1⟩ := datS2 h1
    refine hPP ?_
    clear hPP PP
    ((refine' spec_intro (by k_is) (by k_is) (by exact rfl) (by exact rfl) (by exact rfl) (by exact rfl) (by exact rfl) (by decide) ?_; k_whole; intro dp' un' gd' fr' envc' outer' A₀' base' g' L' h' ge' dr' os' tk' A9' E9' C' hr' hA' B' X' T' F' N' T' hT'; (try dsimp only [List.map, List.zip, List.zipWith, List.reverse, List.reverseAux] at F'); (try dsimp only); (try k_fold)))
    (k_steps <;> repeat' ((first | with_reducible refine stop_out ?_ | with_reducible show wpAny _ _ _ _ _ _); (first | ((k_here; (with_reducible show wpAny _ _ (subscriptTail _ _ (Value.ref _) (Value.int _ _)) _ _ _); k_dflt (first | (refine' item_tupK 0 (by exact rfl) (by k_asm) (by k_mem) (by exact rfl) (by first | assumption | (rw [sizeLine_eq]; exact Nat.le_of_ble_eq_true rfl)) ?_ (by with_unfolding_all rfl)) | (refine' item_listK 0 (by exact rfl) (by k_asm) (by k_mem) (by exact rfl) (by first | assumption | (rw [sizeLine_eq]; exact Nat.le_of_ble_eq_true rfl)) ?_ (by with_unfolding_all rfl)) | (refine' item_tupK 1 (by exact rfl) (by k_asm) (by k_mem) (by exact rfl) (by first | assumption | (rw [sizeLine_eq]; exact Nat.le_of_ble_eq_true rfl)) ?_ (by with_unfolding_all rfl)) | (refine' item_listK 1 (by exact rfl) (by k_asm) (by k_mem) (by exact rfl) (by first | assumption | (rw [sizeLine_eq]; exact Nat.le_of_ble_eq_true rfl)) ?_ (by with_unfolding_all rfl)) | (refine' item_tupK 2 (by exact rfl) (by k_asm) (by k_mem) (by exact rfl) (by first | assumption | (rw [sizeLine_eq]; exact Nat.le_of_ble_eq_true rfl)) ?_ (by with_unfolding_all rfl)) | (refine' item_tupK 3 (by exact rfl) (by k_asm) (by k_mem) (by exact rfl) (by first | assumption | (rw [sizeLine_eq]; exact Nat.le_of_ble_eq_true rfl)) ?_ (by with_unfolding_all rfl)) | (refine' item_tupK 4 (by exact rfl) (by k_asm) (by k_mem) (by exact rfl) (by first | assumption | (rw [sizeLine_eq]; exact Nat.le_of_ble_eq_true rfl)) ?_ (by with_unfolding_all rfl))))) | fail "no word"); k_steps))
    all_goals (try (((repeat (first | refine veil (by assumption) ?_ | refine turn_ret ?_ | refine turn_brk ?_ | refine wturn_ret ?_ | refine wturn_brk ?_)); (try dsimp only))))
    all_goals (((try dsimp only); refine ⟨_, _, _, _, rfl, by assumption, by assumption, ?_⟩; (try dsimp only)))
    all_goals (refine ⟨rfl, ?_⟩; (try dsimp only))
    all_goals (try rw [← holds_range hk (by assumption)])
    all_goals (simp [Wish.holds, *]; done)
end
section
theorem off_F2 : True := by w_top off; trivial
variable {w : World} {mean : ExcName → Option Value} {mg mb : Str → Option Value} {news : List (Addr × Obj)}
local macro_rules | `(tactic| walk_at "subscriptTail Name Slice ref ref") => `(tactic| (k_here; refine stop_in ?_))
theorem s_check_wish {v : Value} {x : Wish} {b : Nat} {t : Tok} (h1 : DatIn news v x.dat) (hx : x.ok b) (hb : b ≤ 48) :
    Spec w mean mg mb 81 1 [v, .int b t] news (fun news' r => news' = news ∧ r = .none) := by
  have hp : (2 : Int) ^ ((b : Int)).toNat = ((2 ^ b : Nat) : Int) := by simp
  cases x with
  | mask a c =>
    refine hideG fun PP hPP => ?_
    obtain ⟨y, n, t1, u, z, rfl, m1⟩ := datS2 h1
    refine hPP ?_
    clear hPP PP
    have hx1 : (c : Int) < 2 ^ ((b : Int)).toNat := by rw [hp]; exact_mod_cast hx.1
    have hx2 : Builtin.bitAnd (a : Int) c = a := by rw [bAnd, hx.2]
    ((refine' spec_intro (by k_is) (by k_is) (by exact rfl) (by exact rfl) (by exact rfl) (by exact rfl) (by exact rfl) (by decide) ?_; k_whole; intro dp' un' gd' fr' envc' outer' A₀' base' g' L' h' ge' dr' os' tk' A9' E9' C' hr' hA' B' X' T' F' N' T' hT'; (try dsimp only [List.map, List.zip, List.zipWith, List.reverse, List.reverseAux] at F'); (try dsimp only); (try k_fold)))
    (k_steps <;> repeat' ((first | with_reducible refine stop_out ?_ | with_reducible show wpAny _ _ _ _ _ _); (first | ((k_here; (with_reducible show wpAny _ _ (subscriptTail _ _ (Value.ref _) (Value.int _ _)) _ _ _); k_dflt (first | (refine' item_tupK 0 (by exact rfl) (by k_asm) (by k_mem) (by exact rfl) (by first | assumption | (rw [sizeLine_eq]; exact Nat.le_of_ble_eq_true rfl)) ?_ (by with_unfolding_all rfl)) | (refine' item_listK 0 (by exact rfl) (by k_asm) (by k_mem) (by exact rfl) (by first | assumption | (rw [sizeLine_eq]; exact Nat.le_of_ble_eq_true rfl)) ?_ (by with_unfolding_all rfl)) | (refine' item_tupK 1 (by exact rfl) (by k_asm) (by k_mem) (by exact rfl) (by first | assumption | (rw [sizeLine_eq]; exact Nat.le_of_ble_eq_true rfl)) ?_ (by with_unfolding_all rfl)) | (refine' item_listK 1 (by exact rfl) (by k_asm) (by k_mem) (by exact rfl) (by first | assumption | (rw [sizeLine_eq]; exact Nat.le_of_ble_eq_true rfl)) ?_ (by with_unfolding_all rfl)) | (refine' item_tupK 2 (by exact rfl) (by k_asm) (by k_mem) (by exact rfl) (by first | assumption | (rw [sizeLine_eq]; exact Nat.le_of_ble_eq_true rfl)) ?_ (by with_unfolding_all rfl)) | (refine' item_tupK 3 (by exact rfl) (by k_asm) (by k_mem) (by exact rfl) (by first | assumption | (rw [sizeLine_eq]; exact Nat.le_of_ble_eq_true rfl)) ?_ (by with_unfolding_all rfl)) | (refine' item_tupK 4 (by exact rfl) (by k_asm) (by k_mem) (by exact rfl) (by first | assumption | (rw [sizeLine_eq]; exact Nat.le_of_ble_eq_true rfl)) ?_ (by with_unfolding_all rfl))))) | ((k_here; (with_reducible show wpAny _ _ (subscriptTail _ _ (Value.ref _) (Value.ref _)) _ _ _); k_dflt (refine' slice1 (by k_asm) (by k_asm) (by k_mem) (by exact Nat.le_of_ble_eq_true rfl) (by (rw [sizeLine_eq]; exact Nat.le_of_ble_eq_true rfl)) ?_ (by with_unfolding_all rfl) (by (intro _; with_unfolding_all rfl))); intro _ _ _ N1Q l1Q; (try dsimp only [List.drop] at N1Q); (revert N1Q l1Q; intro _ _))) | fail "no word"); k_steps))
    all_goals (try (((repeat (first | refine veil (by assumption) ?_ | refine turn_ret ?_ | refine turn_brk ?_ | refine wturn_ret ?_ | refine wturn_brk ?_)); (try dsimp only))))
    all_goals first | exact absurd hx2 (by assumption) | ((((try dsimp only); refine ⟨_, _, _, _, rfl, by assumption, by assumption, ?_⟩; (try dsimp only))); exact ⟨rfl, rfl⟩)
  | range a c =>
    refine hideG fun PP hPP => ?_
    obtain ⟨y, n, t1, u, z, rfl, m1⟩ := datS2 h1
    refine hPP ?_
    clear hPP PP
    have hx1 : (c : Int) < 2 ^ ((b : Int)).toNat := by rw [hp]; exact_mod_cast hx.2
    have hx2 : (a : Int) ≤ c := by exact_mod_cast hx.1
    ((refine' spec_intro (by k_is) (by k_is) (by exact rfl) (by exact rfl) (by exact rfl) (by exact rfl) (by exact rfl) (by decide) ?_; k_whole; intro dp' un' gd' fr' envc' outer' A₀' base' g' L' h' ge' dr' os' tk' A9' E9' C' hr' hA' B' X' T' F' N' T' hT'; (try dsimp only [List.map, List.zip, List.zipWith, List.reverse, List.reverseAux] at F'); (try dsimp only); (try k_fold)))
    (k_steps <;> repeat' ((first | with_reducible refine stop_out ?_ | with_reducible show wpAny _ _ _ _ _ _); (first | ((k_here; (with_reducible show wpAny _ _ (subscriptTail _ _ (Value.ref _) (Value.int _ _)) _ _ _); k_dflt (first | (refine' item_tupK 0 (by exact rfl) (by k_asm) (by k_mem) (by exact rfl) (by first | assumption | (rw [sizeLine_eq]; exact Nat.le_of_ble_eq_true rfl)) ?_ (by with_unfolding_all rfl)) | (refine' item_listK 0 (by exact rfl) (by k_asm) (by k_mem) (by exact rfl) (by first | assumption | (rw [sizeLine_eq]; exact Nat.le_of_ble_eq_true rfl)) ?_ (by with_unfolding_all rfl)) | (refine' item_tupK 1 (by exact rfl) (by k_asm) (by k_mem) (by exact rfl) (by first | assumption | (rw [sizeLine_eq]; exact Nat.le_of_ble_eq_true rfl)) ?_ (by with_unfolding_all rfl)) | (refine' item_listK 1 (by exact rfl) (by k_asm) (by k_mem) (by exact rfl) (by first | assumption | (rw [sizeLine_eq]; exact Nat.le_of_ble_eq_true rfl)) ?_ (by with_unfolding_all rfl)) | (refine' item_tupK 2 (by exact rfl) (by k_asm) (by k_mem) (by exact rfl) (by first | assumption | (rw [sizeLine_eq]; exact Nat.le_of_ble_eq_true rfl)) ?_ (by with_unfolding_all rfl)) | (refine' item_tupK 3 (by exact rfl) (by k_asm) (by k_mem) (by exact rfl) (by first | assumption | (rw [sizeLine_eq]; exact Nat.le_of_ble_eq_true rfl)) ?_ (by with_unfolding_all rfl)) | (refine' item_tupK 4 (by exact rfl) (by k_asm) (by k_mem) (by exact rfl) (by first | assumption | (rw [sizeLine_eq]; exact Nat.le_of_ble_eq_true rfl)) ?_ (by with_unfolding_all rfl))))) | ((k_here; (with_reducible show wpAny _ _ (subscriptTail _ _ (Value.ref _) (Value.ref _)) _ _ _); k_dflt (refine' slice1 (by k_asm) (by k_asm) (by k_mem) (by exact Nat.le_of_ble_eq_true rfl) (by (rw [sizeLine_eq]; exact Nat.le_of_ble_eq_true rfl)) ?_ (by with_unfolding_all rfl) (by (intro _; with_unfolding_all rfl))); intro _ _ _ N1Q l1Q; (try dsimp only [List.drop] at N1Q); (revert N1Q l1Q; intro _ _))) | fail "no word"); k_steps))
    all_goals (try (((repeat (first | refine veil (by assumption) ?_ | refine turn_ret ?_ | refine turn_brk ?_ | refine wturn_ret ?_ | refine wturn_brk ?_)); (try dsimp only))))
    (((try dsimp only); refine ⟨_, _, _, _, rfl, by assumption, by assumption, ?_⟩; (try dsimp only))); exact ⟨rfl, rfl⟩

def Wish.ends (b : Nat) : Wish → Nat × Nat
  | .mask v m => (v, v + (2 ^ b - 1 - m))
  | .range lo hi => (lo, hi)
theorem s_wish_ends {v : Value} {x : Wish} {b : Nat} {t : Tok} (h1 : DatIn news v x.dat) (hx : x.ok b) (hb : b ≤ 48) :
    Spec w mean mg mb 156 1 [v, .int b t] news (fun news' r => (∃ tl, news' = tl ++ news) ∧ DatIn news' r (.tuple [.int (x.ends b).1, .int (x.ends b).2])) := by
  have hp : (2 : Int) ^ ((b : Int)).toNat = ((2 ^ b : Nat) : Int) := by simp
  cases x with
  | mask a c =>
    refine hideG fun PP hPP => ?_
    obtain ⟨y, n, t1, u, z, rfl, m1⟩ := datS2 h1
    refine hPP ?_
    clear hPP PP
    ((refine' spec_intro (by k_is) (by k_is) (by exact rfl) (by exact rfl) (by exact rfl) (by exact rfl) (by exact rfl) (by decide) ?_; k_whole; intro dp' un' gd' fr' envc' outer' A₀' base' g' L' h' ge' dr' os' tk' A9' E9' C' hr' hA' B' X' T' F' N' T' hT'; (try dsimp only [List.map, List.zip, List.zipWith, List.reverse, List.reverseAux] at F'); (try dsimp only); (try k_fold)))
    (k_steps <;> repeat' ((first | with_reducible refine stop_out ?_ | with_reducible show wpAny _ _ _ _ _ _); (first | ((k_here; (with_reducible show wpAny _ _ (subscriptTail _ _ (Value.ref _) (Value.int _ _)) _ _ _); k_dflt (first | (refine' item_tupK 0 (by exact rfl) (by k_asm) (by k_mem) (by exact rfl) (by first | assumption | (rw [sizeLine_eq]; exact Nat.le_of_ble_eq_true rfl)) ?_ (by with_unfolding_all rfl)) | (refine' item_listK 0 (by exact rfl) (by k_asm) (by k_mem) (by exact rfl) (by first | assumption | (rw [sizeLine_eq]; exact Nat.le_of_ble_eq_true rfl)) ?_ (by with_unfolding_all rfl)) | (refine' item_tupK 1 (by exact rfl) (by k_asm) (by k_mem) (by exact rfl) (by first | assumption | (rw [sizeLine_eq]; exact Nat.le_of_ble_eq_true rfl)) ?_ (by with_unfolding_all rfl)) | (refine' item_listK 1 (by exact rfl) (by k_asm) (by k_mem) (by exact rfl) (by first | assumption | (rw [sizeLine_eq]; exact Nat.le_of_ble_eq_true rfl)) ?_ (by with_unfolding_all rfl)) | (refine' item_tupK 2 (by exact rfl) (by k_asm) (by k_mem) (by exact rfl) (by first | assumption | (rw [sizeLine_eq]; exact Nat.le_of_ble_eq_true rfl)) ?_ (by with_unfolding_all rfl)) | (refine' item_tupK 3 (by exact rfl) (by k_asm) (by k_mem) (by exact rfl) (by first | assumption | (rw [sizeLine_eq]; exact Nat.le_of_ble_eq_true rfl)) ?_ (by with_unfolding_all rfl)) | (refine' item_tupK 4 (by exact rfl) (by k_asm) (by k_mem) (by exact rfl) (by first | assumption | (rw [sizeLine_eq]; exact Nat.le_of_ble_eq_true rfl)) ?_ (by with_unfolding_all rfl))))) | ((k_here; (with_reducible show wpAny _ _ (subscriptTail _ _ (Value.ref _) (Value.ref _)) _ _ _); k_dflt (refine' slice1 (by k_asm) (by k_asm) (by k_mem) (by exact Nat.le_of_ble_eq_true rfl) (by (rw [sizeLine_eq]; exact Nat.le_of_ble_eq_true rfl)) ?_ (by with_unfolding_all rfl) (by (intro _; with_unfolding_all rfl))); intro _ _ _ N1Q l1Q; (try dsimp only [List.drop] at N1Q); (revert N1Q l1Q; intro _ _))) | fail "no word"); k_steps))
    all_goals (try (((repeat (first | refine veil (by assumption) ?_ | refine turn_ret ?_ | refine turn_brk ?_ | refine wturn_ret ?_ | refine wturn_brk ?_)); (try dsimp only))))
    (((try dsimp only); refine ⟨_, _, _, _, rfl, by assumption, by assumption, ?_⟩; (try dsimp only)))
    refine ⟨⟨[_], rfl⟩, ?_⟩
    refine DatIn.tuple (.head _) (.cons (.int _ _) (.cons ?_ .nil))
    have e : ((Wish.ends b (.mask a c)).2 : Int) = (a : Int) + (1 * 2 ^ ((b : Int)).toNat - 1 - (c : Int)) := by
      have := hx.1
      rw [hp]; simp only [Wish.ends]; omega
    rw [e]
    exact .int _ _
  | range a c =>
    refine hideG fun PP hPP => ?_
    obtain ⟨y, n, t1, u, z, rfl, m1⟩ := datS2 h1
    refine hPP ?_
    clear hPP PP
    ((refine' spec_intro (by k_is) (by k_is) (by exact rfl) (by exact rfl) (by exact rfl) (by exact rfl) (by exact rfl) (by decide) ?_; k_whole; intro dp' un' gd' fr' envc' outer' A₀' base' g' L' h' ge' dr' os' tk' A9' E9' C' hr' hA' B' X' T' F' N' T' hT'; (try dsimp only [List.map, List.zip, List.zipWith, List.reverse, List.reverseAux] at F'); (try dsimp only); (try k_fold)))
    (k_steps <;> repeat' ((first | with_reducible refine stop_out ?_ | with_reducible show wpAny _ _ _ _ _ _); (first | ((k_here; (with_reducible show wpAny _ _ (subscriptTail _ _ (Value.ref _) (Value.int _ _)) _ _ _); k_dflt (first | (refine' item_tupK 0 (by exact rfl) (by k_asm) (by k_mem) (by exact rfl) (by first | assumption | (rw [sizeLine_eq]; exact Nat.le_of_ble_eq_true rfl)) ?_ (by with_unfolding_all rfl)) | (refine' item_listK 0 (by exact rfl) (by k_asm) (by k_mem) (by exact rfl) (by first | assumption | (rw [sizeLine_eq]; exact Nat.le_of_ble_eq_true rfl)) ?_ (by with_unfolding_all rfl)) | (refine' item_tupK 1 (by exact rfl) (by k_asm) (by k_mem) (by exact rfl) (by first | assumption | (rw [sizeLine_eq]; exact Nat.le_of_ble_eq_true rfl)) ?_ (by with_unfolding_all rfl)) | (refine' item_listK 1 (by exact rfl) (by k_asm) (by k_mem) (by exact rfl) (by first | assumption | (rw [sizeLine_eq]; exact Nat.le_of_ble_eq_true rfl)) ?_ (by with_unfolding_all rfl)) | (refine' item_tupK 2 (by exact rfl) (by k_asm) (by k_mem) (by exact rfl) (by first | assumption | (rw [sizeLine_eq]; exact Nat.le_of_ble_eq_true rfl)) ?_ (by with_unfolding_all rfl)) | (refine' item_tupK 3 (by exact rfl) (by k_asm) (by k_mem) (by exact rfl) (by first | assumption | (rw [sizeLine_eq]; exact Nat.le_of_ble_eq_true rfl)) ?_ (by with_unfolding_all rfl)) | (refine' item_tupK 4 (by exact rfl) (by k_asm) (by k_mem) (by exact rfl) (by first | assumption | (rw [sizeLine_eq]; exact Nat.le_of_ble_eq_true rfl)) ?_ (by with_unfolding_all rfl))))) | ((k_here; (with_reducible show wpAny _ _ (subscriptTail _ _ (Value.ref _) (Value.ref _)) _ _ _); k_dflt (refine' slice1 (by k_asm) (by k_asm) (by k_mem) (by exact Nat.le_of_ble_eq_true rfl) (by (rw [sizeLine_eq]; exact Nat.le_of_ble_eq_true rfl)) ?_ (by with_unfolding_all rfl) (by (intro _; with_unfolding_all rfl))); intro _ _ _ N1Q l1Q; (try dsimp only [List.drop] at N1Q); (revert N1Q l1Q; intro _ _))) | fail "no word"); k_steps))
    all_goals (try (((repeat (first | refine veil (by assumption) ?_ | refine turn_ret ?_ | refine turn_brk ?_ | refine wturn_ret ?_ | refine wturn_brk ?_)); (try dsimp only))))
    (((try dsimp only); refine ⟨_, _, _, _, rfl, by assumption, by assumption, ?_⟩; (try dsimp only)))
    exact ⟨⟨[_], rfl⟩, DatIn.tuple (.head _) (.cons (.int _ _) (.cons (.int _ _) .nil))⟩
end
section
theorem off_F3 : True := by w_top off; trivial
variable {w : World} {mean : ExcName → Option Value} {mg mb : Str → Option Value} {news : List (Addr × Obj)}
local macro_rules | `(tactic| walk_at "exec Assign cons IfExp") => `(tactic| ((fail_if_success (with_reducible show wpAny _ _ _ (fun _ _ => Hidden _) _ _)); k_here; refine stop_in ?_))
def v2 (n : Nat) : Nat := if n = 0 then 0 else if n % 2 = 1 then 0 else v2 (n / 2) + 1
termination_by n
decreasing_by omega
def startK (low bits : Nat) : Nat := if low = 0 then bits else v2 low
def fitK (low high : Nat) : Nat → Nat
  | 0 => 0
  | k + 1 => if high + 1 < low + 2 ^ (k + 1) then fitK low high k else k + 1
def blocksFrom (bits high : Nat) : Nat → Nat → List (Nat × Nat)
  | 0, _ => []
  | f + 1, low => if low ≤ high then (low, 2 ^ bits - 2 ^ fitK low high (startK low bits)) :: blocksFrom bits high f (low + 2 ^ fitK low high (startK low bits)) else []
def rangeMasks (lo hi bits : Nat) : List (Nat × Nat) := blocksFrom bits hi (hi + 1 - lo) lo

theorem v2_zero : v2 0 = 0 := by unfold v2; simp
theorem v2_odd {n : Nat} (h : n % 2 = 1) : v2 n = 0 := by unfold v2; simp [h]
theorem v2_even {n : Nat} (h : n % 2 = 0) (h0 : 0 < n) : v2 n = v2 (n / 2) + 1 := by
  conv => lhs; unfold v2
  rw [if_neg (by omega), if_neg (by omega)]
theorem v2_split (n : Nat) (h : 0 < n) : ∃ a, n = 2 ^ v2 n * (2 * a + 1) := by
  induction n using Nat.strongRecOn with
  | ind n ih =>
    rcases Nat.mod_two_eq_zero_or_one n with q | q
    · obtain ⟨a, e⟩ := ih (n / 2) (by omega) (by omega)
      refine ⟨a, ?_⟩
      rw [v2_even q h, Nat.pow_succ, Nat.mul_comm (2 ^ v2 (n / 2)) 2, Nat.mul_assoc, ← e]
      omega
    · exact ⟨n / 2, by rw [v2_odd q]; omega⟩
theorem v2_spec (n : Nat) (h : 0 < n) : Builtin.bitAnd (n : Int) (-(n : Int)) = ((2 ^ v2 n : Nat) : Int) := by
  obtain ⟨a, e⟩ := v2_split n h
  have := kbt_low (v2 n) (a : Int)
  have e2 : (n : Int) = 2 ^ v2 n * (2 * (a : Int) + 1) := by
    have : (n : Int) = ((2 ^ v2 n * (2 * a + 1) : Nat) : Int) := by rw [← e]
    rw [this]; push_cast; rfl
  rw [e2, this]; push_cast; rfl
theorem blocks_done {b hi k low : Nat} (h : ¬ low ≤ hi) : blocksFrom b hi k low = [] := by
  cases k with
  | zero => rfl
  | succ k => rw [blocksFrom, if_neg h]
theorem blocks_more {b hi k low : Nat} (h : low ≤ hi) (hk : hi + 1 - low ≤ k) : ∃ k', k = k' + 1 ∧ blocksFrom b hi k low = (low, 2 ^ b - 2 ^ fitK low hi (startK low b)) :: blocksFrom b hi k' (low + 2 ^ fitK low hi (startK low b)) := by
  cases k with
  | zero => omega
  | succ k => exact ⟨k, rfl, by rw [blocksFrom, if_pos h]⟩
theorem size_pos {low b : Nat} (h : (0 : Int) < (low : Int)) : Builtin.bitAnd (low : Int) (-(low : Int)) = ((2 ^ startK low b : Nat) : Int) := by
  rw [v2_spec low (by omega), startK, if_neg (by omega)]
theorem size_zero {low b : Nat} (h : ¬ (0 : Int) < (low : Int)) : 1 * (2 : Int) ^ ((b : Int)).toNat = ((2 ^ startK low b : Nat) : Int) := by
  rw [startK, if_pos (by omega)]; simp

theorem fit_step {low hi k : Nat} (h1 : low ≤ hi) (h : (hi : Int) < (low : Int) + ((2 ^ k : Nat) : Int) - 1) : ∃ k', k = k' + 1 ∧ fitK low hi k = fitK low hi k' ∧ Int.fdiv ((2 ^ k : Nat) : Int) 2 = ((2 ^ k' : Nat) : Int) := by
  cases k with
  | zero => simp at h; omega
  | succ k =>
    refine ⟨k, rfl, ?_, ?_⟩
    · rw [fitK, if_pos (by omega)]
    · rw [Nat.pow_succ, Int.fdiv_eq_ediv_of_nonneg _ (by decide)]; omega
theorem fit_done {low hi k : Nat} (h : ¬ (hi : Int) < (low : Int) + ((2 ^ k : Nat) : Int) - 1) : fitK low hi k = k := by
  cases k with
  | zero => rfl
  | succ k => rw [fitK, if_neg (by omega)]
theorem fit_le {low hi : Nat} (h : low ≤ hi) : ∀ k, low + 2 ^ fitK low hi k ≤ hi + 1
  | 0 => by simp [fitK]; omega
  | k + 1 => by
    rw [fitK]
    split
    · exact fit_le h k
    · omega

inductive RmJ (news : List (Addr × Obj)) (lo hi b : Nat) (t2 t3 : Tok) (k : Nat) (m : Str → Option Value) (nx : List (Addr × Obj)) : Prop
  | mk (low : Nat) (t : Tok) (acc : List (Nat × Nat)) (l : Addr) (vs : List Value) (nl : Nat) (tl : List (Addr × Obj)) (hk : hi + 1 - low ≤ k) (hacc : rangeMasks lo hi b = acc ++ blocksFrom b hi k low) (e1 : m (Str.ofString "low") = some (.int low t)) (e2 : m (Str.ofString "found") = some (.ref l))
    (e3 : m (Str.ofString "high") = some (.int hi t2)) (e4 : m (Str.ofString "bits") = some (.int b t3)) (t' : Tok) (e5 : m (Str.ofString "whole") = some (.int (1 * 2 ^ (b : Int).toNat - 1) t')) (e : nx = (l, lstO vs nl) :: (tl ++ news)) (hoff : ∀ p ∈ tl ++ news, p.1 ≠ l) (hd : DatAll (tl ++ news) vs (acc.map mdat)) (hlen : acc.length + k ≤ hi + 1)
inductive RmK (NX : List (Addr × Obj)) (low hi k0 : Nat) (m₁ : Str → Option Value) (k : Nat) (m : Str → Option Value) (nx : List (Addr × Obj)) : Prop
  | mk (t : Tok) (e : nx = NX) (hq : fitK low hi k = fitK low hi k0) (f1 : m (Str.ofString "size") = some (.int ((2 ^ k : Nat) : Int) t)) (f2 : ∀ y, y ≠ Str.ofString "size" → m y = m₁ y)
theorem s_range_masks {lo hi b : Nat} {t1 t2 t3 : Tok} (h1 : lo ≤ hi) (h2 : hi < 2 ^ b) (hb : b ≤ 12) :
    Spec w mean mg mb 128 1 [.int lo t1, .int hi t2, .int b t3] news (fun news' r => (∃ tl, news' = tl ++ news) ∧ DatIn news' r (.list ((rangeMasks lo hi b).map mdat))) := by
  have hsm : 2 ^ b ≤ 4096 := Nat.pow_le_pow_right (by decide) hb
  ((refine' spec_intro (by k_is) (by k_is) (by exact rfl) (by exact rfl) (by exact rfl) (by exact rfl) (by exact rfl) (by decide) ?_; k_whole; intro dp' un' gd' fr' envc' outer' A₀' base' g' L' h' ge' dr' os' tk' A9' E9' C' hr' hA' B' X' T' F' N' T' hT'; (try dsimp only [List.map, List.zip, List.zipWith, List.reverse, List.reverseAux] at F'); (try dsimp only); (try k_fold)))
  (k_steps <;> repeat' ((first | with_reducible refine stop_out ?_ | with_reducible show wpAny _ _ _ _ _ _); (first | ((k_here; (with_reducible show wpAny _ _ (call (Value.builtin _) [Value.ref _, _]) _ _ _); k_dflt (refine' append_L (by k_asm) (by k_asm) (by k_upd) (by first | assumption | (rw [sizeLine_eq]; omega) | (rw [sizeLine_eq]; exact Nat.le_of_ble_eq_true rfl)) ?_); intro _ _ _; (try k_sweep))) | fail "no word"); k_steps))
  all_goals (try (((repeat (first | refine veil (by assumption) ?_ | refine turn_ret ?_ | refine turn_brk ?_ | refine wturn_ret ?_ | refine wturn_brk ?_)); (try dsimp only))))
  refine stop_out ?_
  refine while_rule (hi + 1 - lo) (RmJ news lo hi b t2 t3) (by assumption) ?_ ?_ PassesOwn.never
  · refine ⟨_ :: ([] ++ news), ?_, lo, t1, [], _, [], 0, [], Nat.le_refl _, rfl, rfl, rfl, rfl, rfl, _, rfl, rfl, ?_, .nil, ?_⟩
    · exact nsub (by assumption) fun p hp => .tail _ hp
    · exact fun p hp => Nat.ne_of_lt ((by assumption : ∀ p ∈ news, p.1 < _) p hp)
    · simp
  · rintro k m₁ nx h tk hJ90 F N TQ hTQ
    refine hideG fun PP hPP => ?_
    obtain ⟨low, t, acc, l, vs, nl, tl, hk, hacc, e1, e2, e3, e4, t', e5, rfl, hoff, hd, hlen⟩ := hJ90
    refine hPP ?_
    clear hPP PP
    have hvl : vs.length ≤ sizeLine := by have := hd.length; rw [List.length_map] at this; rw [sizeLine_eq]; omega
    have EE : AllB m₁ [(Str.ofString "low", .int low t), (Str.ofString "found", .ref l), (Str.ofString "high", .int hi t2), (Str.ofString "bits", .int b t3), (Str.ofString "whole", .int (1 * 2 ^ (b : Int).toNat - 1) t')] := ⟨e1, e2, e3, e4, e5, trivial⟩
    replace F := renL _ F EE
    (k_steps <;> repeat' ((first | with_reducible refine stop_out ?_ | with_reducible show wpAny _ _ _ _ _ _); (first | ((k_here; (with_reducible show wpAny _ _ (call (Value.builtin _) [Value.ref _, _]) _ _ _); k_dflt (refine' append_L (by k_asm) (by k_asm) (by k_upd) (by first | assumption | (rw [sizeLine_eq]; omega) | (rw [sizeLine_eq]; exact Nat.le_of_ble_eq_true rfl)) ?_); intro _ _ _; (try k_sweep))) | fail "no word"); k_steps))
    all_goals (try (((repeat (first | refine veil (by assumption) ?_ | refine turn_ret ?_ | refine turn_brk ?_ | refine wturn_ret ?_ | refine wturn_brk ?_)); (try dsimp only))))
    rotate_left
    · (((try dsimp only); refine ⟨_, _, _, _, rfl, by assumption, by assumption, ?_⟩; (try dsimp only)))
      have q : ¬ low ≤ hi := by omega
      rw [blocks_done q, List.append_nil] at hacc
      refine ⟨⟨_ :: tl, rfl⟩, DatIn.list (.head _) ?_⟩
      rw [hacc]
      exact DatAll.mono (fun p hp => .tail _ hp) hd
    have hle : low ≤ hi := by omega
    refine stmt_cut (fun q => ∃ h9 tk9 m9 t9, q = ⟨h9, ge', dr', tk9, os'⟩ ∧ Fr g' L' h9 m9 ∧ News g' L' h9 ((l, lstO vs nl) :: (tl ++ news)) ∧ m9 (Str.ofString "size") = some (.int ((2 ^ startK low b : Nat) : Int) t9) ∧ ∀ y, y ≠ Str.ofString "size" → m9 y = m₁ y) ?_ ?_
    · (k_steps <;> repeat' ((first | with_reducible refine stop_out ?_ | with_reducible show wpAny _ _ _ _ _ _); (first | ((k_here; (with_reducible show wpAny _ _ (call (Value.builtin _) [Value.ref _, _]) _ _ _); k_dflt (refine' append_L (by k_asm) (by k_asm) (by k_upd) (by first | assumption | (rw [sizeLine_eq]; omega) | (rw [sizeLine_eq]; exact Nat.le_of_ble_eq_true rfl)) ?_); intro _ _ _; (try k_sweep))) | fail "no word"); k_steps))
      all_goals (try (((repeat (first | refine veil (by assumption) ?_ | refine turn_ret ?_ | refine turn_brk ?_ | refine wturn_ret ?_ | refine wturn_brk ?_)); (try dsimp only))))
      all_goals exact ⟨⟨rfl, _, _, _, _, rfl, by assumption, by assumption, (by first | exact congrArg (fun z => some (Value.int z _)) (size_pos (by assumption)) | exact congrArg (fun z => some (Value.int z _)) (size_zero (by assumption))), fun y hy => (if_neg hy).trans (congrFun (updL_eq EE) y)⟩⟩
    · rintro q hJ90
      refine hideG fun PP hPP => ?_
      obtain ⟨h9, tk9, m9, t9, rfl, F9, N9, g1, g2⟩ := hJ90
      refine hPP ?_
      clear hPP PP
      clear F N
      (k_steps <;> repeat' ((first | with_reducible refine stop_out ?_ | with_reducible show wpAny _ _ _ _ _ _); (first | ((k_here; (with_reducible show wpAny _ _ (call (Value.builtin _) [Value.ref _, _]) _ _ _); k_dflt (refine' append_L (by k_asm) (by k_asm) (by k_upd) (by first | assumption | (rw [sizeLine_eq]; omega) | (rw [sizeLine_eq]; exact Nat.le_of_ble_eq_true rfl)) ?_); intro _ _ _; (try k_sweep))) | fail "no word"); k_steps))
      all_goals (try (((repeat (first | refine veil (by assumption) ?_ | refine turn_ret ?_ | refine turn_brk ?_ | refine wturn_ret ?_ | refine wturn_brk ?_)); (try dsimp only))))
      refine stop_out ?_
      refine while_rule (startK low b) (RmK ((l, lstO vs nl) :: (tl ++ news)) low hi (startK low b) m₁) F9 ?_ ?_ PassesOwn.never
      · exact ⟨_, N9, t9, rfl, rfl, g1, g2⟩
      · rintro q m₂ nx h2 tk2 hJ90 F N TQ hTQ
        refine hideG fun PP hPP => ?_
        obtain ⟨t2, rfl, hq, f1, f2⟩ := hJ90
        refine hPP ?_
        clear hPP PP
        have EF : AllB m₂ [(Str.ofString "size", .int ((2 ^ q : Nat) : Int) t2), (Str.ofString "low", .int low t), (Str.ofString "found", .ref l), (Str.ofString "high", _), (Str.ofString "whole", .int (1 * 2 ^ (b : Int).toNat - 1) t')] :=
          ⟨f1, (f2 (Str.ofString "low") (by decide)).trans e1, (f2 (Str.ofString "found") (by decide)).trans e2, (f2 (Str.ofString "high") (by decide)).trans e3, (f2 (Str.ofString "whole") (by decide)).trans e5, trivial⟩
        replace F := renL _ F EF
        clear F9 N9
        (k_steps <;> repeat' ((first | with_reducible refine stop_out ?_ | with_reducible show wpAny _ _ _ _ _ _); (first | ((k_here; (with_reducible show wpAny _ _ (call (Value.builtin _) [Value.ref _, _]) _ _ _); k_dflt (refine' append_L (by k_asm) (by k_asm) (by k_upd) (by first | assumption | (rw [sizeLine_eq]; omega) | (rw [sizeLine_eq]; exact Nat.le_of_ble_eq_true rfl)) ?_); intro _ _ _; (try k_sweep))) | fail "no word"); k_steps))
        all_goals (try (((repeat (first | refine veil (by assumption) ?_ | refine turn_ret ?_ | refine turn_brk ?_ | refine wturn_ret ?_ | refine wturn_brk ?_)); (try dsimp only))))
        · refine hideG fun PP hPP => ?_
          obtain ⟨q', rfl, hq1, hq2⟩ := fit_step hle (by assumption)
          refine hPP ?_
          clear hPP PP
          (rename Fr _ _ _ _ => F8)
          rw [hq2] at F8
          exact ⟨q', _, _, _, _, Nat.lt_succ_self _, rfl, F8, by assumption, _, rfl, hq1 ▸ hq, rfl, fun y hy => ((if_neg hy).trans (congrFun (updL_eq EF) y)).trans (f2 y hy)⟩
        · refine hideG fun PP hPP => ?_
          obtain ⟨k', rfl, hb'⟩ := blocks_more (b := b) hle hk
          refine hPP ?_
          clear hPP PP
          have hK : fitK low hi (startK low b) = q := by rw [← hq]; exact fit_done (by assumption)
          have hfl := fit_le hle (startK low b)
          rw [hK] at hb' hfl
          rw [hb'] at hacc
          (rename Fr _ _ _ _ => F8)
          (rename News _ _ _ _ => N8)
          have hv : (1 * (2 : Int) ^ (b : Int).toNat - 1 - (((2 ^ q : Nat) : Int) - 1)) = ((2 ^ b - 2 ^ q : Nat) : Int) := by
            have hp : (2 : Int) ^ ((b : Int)).toNat = ((2 ^ b : Nat) : Int) := by simp
            rw [hp]; omega
          rw [hv] at N8
          refine ⟨k', _, _, _, _, Nat.lt_succ_self _, rfl, F8, grow_end N8, low + 2 ^ q, _, acc ++ [(low, 2 ^ b - 2 ^ q)], l, _, _, _, ?_, ?_, rfl, rfl, rfl, (f2 (Str.ofString "bits") (by decide)).trans e4, _, rfl, rfl, grow_off (by assumption) hoff, ?_, ?_⟩
          · have := Nat.two_pow_pos q; omega
          · rw [List.append_assoc]; exact hacc
          · rw [List.map_append]
            exact (DatAll.mono (fun p hp => .tail _ hp) hd).append (.one (DatIn.tuple (.head _) (.cons (.int _ _) (.cons (.int _ _) .nil))))
          · rw [List.length_append, List.length_singleton]; omega
end
section
theorem off_F4 : True := by w_top off; trivial
variable {w : World} {mean : ExcName → Option Value} {mg mb : Str → Option Value} {news : List (Addr × Obj)}
local macro_rules | `(tactic| walk_at "subscriptTail Name Slice ref ref") => `(tactic| (k_here; refine stop_in ?_))
def Wish.masks (b : Nat) : Wish → List (Nat × Nat)
  | .mask v m => [(v, m)]
  | .range lo hi => rangeMasks lo hi b
def Wish.within (b : Nat) (one : Wish) : Wish → Bool
  | .range lo hi => decide (lo ≤ (one.ends b).1) && decide ((one.ends b).2 ≤ hi)
  | .mask v m => (one.masks b).all fun p => inMask p (v, m)
def Wish.meet (b : Nat) : Wish → Wish → Bool
  | .range l1 h1, .range l2 h2 => decide (l1 ≤ h2) && decide (l2 ≤ h1)
  | one, other => (one.masks b).any fun p => (other.masks b).any fun q => metMask p q

theorem s_wish_masks {v : Value} {x : Wish} {b : Nat} {t : Tok} (h1 : DatIn news v x.dat) (hx : x.ok b) (hb : b ≤ 12) :
    Spec w mean mg mb 135 2 [v, .int b t] news (fun news' r => (∃ tl, news' = tl ++ news) ∧ DatIn news' r (.list ((x.masks b).map mdat))) := by
  cases x with
  | mask a c =>
    refine hideG fun PP hPP => ?_
    obtain ⟨y, n, t1, u, z, rfl, m1⟩ := datS2 h1
    refine hPP ?_
    clear hPP PP
    ((refine' spec_intro (by k_is) (by k_is) (by exact rfl) (by exact rfl) (by exact rfl) (by exact rfl) (by exact rfl) (by decide) ?_; k_whole; intro dp' un' gd' fr' envc' outer' A₀' base' g' L' h' ge' dr' os' tk' A9' E9' C' hr' hA' B' X' T' F' N' T' hT'; (try dsimp only [List.map, List.zip, List.zipWith, List.reverse, List.reverseAux] at F'); (try dsimp only); (try k_fold)))
    (k_steps <;> repeat' ((first | with_reducible refine stop_out ?_ | with_reducible show wpAny _ _ _ _ _ _); (first | ((k_here; (with_reducible show wpAny _ _ (subscriptTail _ _ (Value.ref _) (Value.int _ _)) _ _ _); k_dflt (first | (refine' item_tupK 0 (by exact rfl) (by k_asm) (by k_mem) (by exact rfl) (by first | assumption | (rw [sizeLine_eq]; exact Nat.le_of_ble_eq_true rfl)) ?_ (by with_unfolding_all rfl)) | (refine' item_listK 0 (by exact rfl) (by k_asm) (by k_mem) (by exact rfl) (by first | assumption | (rw [sizeLine_eq]; exact Nat.le_of_ble_eq_true rfl)) ?_ (by with_unfolding_all rfl)) | (refine' item_tupK 1 (by exact rfl) (by k_asm) (by k_mem) (by exact rfl) (by first | assumption | (rw [sizeLine_eq]; exact Nat.le_of_ble_eq_true rfl)) ?_ (by with_unfolding_all rfl)) | (refine' item_listK 1 (by exact rfl) (by k_asm) (by k_mem) (by exact rfl) (by first | assumption | (rw [sizeLine_eq]; exact Nat.le_of_ble_eq_true rfl)) ?_ (by with_unfolding_all rfl)) | (refine' item_tupK 2 (by exact rfl) (by k_asm) (by k_mem) (by exact rfl) (by first | assumption | (rw [sizeLine_eq]; exact Nat.le_of_ble_eq_true rfl)) ?_ (by with_unfolding_all rfl)) | (refine' item_tupK 3 (by exact rfl) (by k_asm) (by k_mem) (by exact rfl) (by first | assumption | (rw [sizeLine_eq]; exact Nat.le_of_ble_eq_true rfl)) ?_ (by with_unfolding_all rfl)) | (refine' item_tupK 4 (by exact rfl) (by k_asm) (by k_mem) (by exact rfl) (by first | assumption | (rw [sizeLine_eq]; exact Nat.le_of_ble_eq_true rfl)) ?_ (by with_unfolding_all rfl))))) | ((k_here; (with_reducible show wpAny _ _ (subscriptTail _ _ (Value.ref _) (Value.ref _)) _ _ _); k_dflt (refine' slice1 (by k_asm) (by k_asm) (by k_mem) (by exact Nat.le_of_ble_eq_true rfl) (by (rw [sizeLine_eq]; exact Nat.le_of_ble_eq_true rfl)) ?_ (by with_unfolding_all rfl) (by (intro _; with_unfolding_all rfl))); intro _ _ _ N1Q l1Q; (try dsimp only [List.drop] at N1Q); (revert N1Q l1Q; intro _ _))) | fail "no word"); k_steps))
    all_goals (try (((repeat (first | refine veil (by assumption) ?_ | refine turn_ret ?_ | refine turn_brk ?_ | refine wturn_ret ?_ | refine wturn_brk ?_)); (try dsimp only))))
    (((try dsimp only); refine ⟨_, _, _, _, rfl, by assumption, by assumption, ?_⟩; (try dsimp only)))
    exact ⟨⟨[_, _], rfl⟩, DatIn.list (.head _) (.one (DatIn.tuple (.tail _ (.head _)) (.cons (.int _ _) (.cons (.int _ _) .nil))))⟩
  | range a c =>
    refine hideG fun PP hPP => ?_
    obtain ⟨y, n, t1, u, z, rfl, m1⟩ := datS2 h1
    refine hPP ?_
    clear hPP PP
    ((refine' spec_intro (by k_is) (by k_is) (by exact rfl) (by exact rfl) (by exact rfl) (by exact rfl) (by exact rfl) (by decide) ?_; k_whole; intro dp' un' gd' fr' envc' outer' A₀' base' g' L' h' ge' dr' os' tk' A9' E9' C' hr' hA' B' X' T' F' N' T' hT'; (try dsimp only [List.map, List.zip, List.zipWith, List.reverse, List.reverseAux] at F'); (try dsimp only); (try k_fold)))
    (k_steps <;> repeat' ((first | with_reducible refine stop_out ?_ | with_reducible show wpAny _ _ _ _ _ _); (first | ((k_here; (with_reducible show wpAny _ _ (subscriptTail _ _ (Value.ref _) (Value.int _ _)) _ _ _); k_dflt (first | (refine' item_tupK 0 (by exact rfl) (by k_asm) (by k_mem) (by exact rfl) (by first | assumption | (rw [sizeLine_eq]; exact Nat.le_of_ble_eq_true rfl)) ?_ (by with_unfolding_all rfl)) | (refine' item_listK 0 (by exact rfl) (by k_asm) (by k_mem) (by exact rfl) (by first | assumption | (rw [sizeLine_eq]; exact Nat.le_of_ble_eq_true rfl)) ?_ (by with_unfolding_all rfl)) | (refine' item_tupK 1 (by exact rfl) (by k_asm) (by k_mem) (by exact rfl) (by first | assumption | (rw [sizeLine_eq]; exact Nat.le_of_ble_eq_true rfl)) ?_ (by with_unfolding_all rfl)) | (refine' item_listK 1 (by exact rfl) (by k_asm) (by k_mem) (by exact rfl) (by first | assumption | (rw [sizeLine_eq]; exact Nat.le_of_ble_eq_true rfl)) ?_ (by with_unfolding_all rfl)) | (refine' item_tupK 2 (by exact rfl) (by k_asm) (by k_mem) (by exact rfl) (by first | assumption | (rw [sizeLine_eq]; exact Nat.le_of_ble_eq_true rfl)) ?_ (by with_unfolding_all rfl)) | (refine' item_tupK 3 (by exact rfl) (by k_asm) (by k_mem) (by exact rfl) (by first | assumption | (rw [sizeLine_eq]; exact Nat.le_of_ble_eq_true rfl)) ?_ (by with_unfolding_all rfl)) | (refine' item_tupK 4 (by exact rfl) (by k_asm) (by k_mem) (by exact rfl) (by first | assumption | (rw [sizeLine_eq]; exact Nat.le_of_ble_eq_true rfl)) ?_ (by with_unfolding_all rfl))))) | ((k_here; (with_reducible show wpAny _ _ (subscriptTail _ _ (Value.ref _) (Value.ref _)) _ _ _); k_dflt (refine' slice1 (by k_asm) (by k_asm) (by k_mem) (by exact Nat.le_of_ble_eq_true rfl) (by (rw [sizeLine_eq]; exact Nat.le_of_ble_eq_true rfl)) ?_ (by with_unfolding_all rfl) (by (intro _; with_unfolding_all rfl))); intro _ _ _ N1Q l1Q; (try dsimp only [List.drop] at N1Q); (revert N1Q l1Q; intro _ _))) | fail "no word"); k_steps))
    all_goals (try (((repeat (first | refine veil (by assumption) ?_ | refine turn_ret ?_ | refine turn_brk ?_ | refine wturn_ret ?_ | refine wturn_brk ?_)); (try dsimp only))))
    refine use (s_range_masks hx.1 hx.2 hb) (by assumption) (by assumption) (by assumption) (by decide) ?_
    rintro r nx h' tk' F1 N1 hJ90
    refine hideG fun PP hPP => ?_
    obtain ⟨⟨tl, rfl⟩, D⟩ := hJ90
    refine hPP ?_
    clear hPP PP
    (k_steps <;> repeat' ((first | with_reducible refine stop_out ?_ | with_reducible show wpAny _ _ _ _ _ _); (first | ((k_here; (with_reducible show wpAny _ _ (subscriptTail _ _ (Value.ref _) (Value.int _ _)) _ _ _); k_dflt (first | (refine' item_tupK 0 (by exact rfl) (by k_asm) (by k_mem) (by exact rfl) (by first | assumption | (rw [sizeLine_eq]; exact Nat.le_of_ble_eq_true rfl)) ?_ (by with_unfolding_all rfl)) | (refine' item_listK 0 (by exact rfl) (by k_asm) (by k_mem) (by exact rfl) (by first | assumption | (rw [sizeLine_eq]; exact Nat.le_of_ble_eq_true rfl)) ?_ (by with_unfolding_all rfl)) | (refine' item_tupK 1 (by exact rfl) (by k_asm) (by k_mem) (by exact rfl) (by first | assumption | (rw [sizeLine_eq]; exact Nat.le_of_ble_eq_true rfl)) ?_ (by with_unfolding_all rfl)) | (refine' item_listK 1 (by exact rfl) (by k_asm) (by k_mem) (by exact rfl) (by first | assumption | (rw [sizeLine_eq]; exact Nat.le_of_ble_eq_true rfl)) ?_ (by with_unfolding_all rfl)) | (refine' item_tupK 2 (by exact rfl) (by k_asm) (by k_mem) (by exact rfl) (by first | assumption | (rw [sizeLine_eq]; exact Nat.le_of_ble_eq_true rfl)) ?_ (by with_unfolding_all rfl)) | (refine' item_tupK 3 (by exact rfl) (by k_asm) (by k_mem) (by exact rfl) (by first | assumption | (rw [sizeLine_eq]; exact Nat.le_of_ble_eq_true rfl)) ?_ (by with_unfolding_all rfl)) | (refine' item_tupK 4 (by exact rfl) (by k_asm) (by k_mem) (by exact rfl) (by first | assumption | (rw [sizeLine_eq]; exact Nat.le_of_ble_eq_true rfl)) ?_ (by with_unfolding_all rfl))))) | ((k_here; (with_reducible show wpAny _ _ (subscriptTail _ _ (Value.ref _) (Value.ref _)) _ _ _); k_dflt (refine' slice1 (by k_asm) (by k_asm) (by k_mem) (by exact Nat.le_of_ble_eq_true rfl) (by (rw [sizeLine_eq]; exact Nat.le_of_ble_eq_true rfl)) ?_ (by with_unfolding_all rfl) (by (intro _; with_unfolding_all rfl))); intro _ _ _ N1Q l1Q; (try dsimp only [List.drop] at N1Q); (revert N1Q l1Q; intro _ _))) | fail "no word"); k_steps))
    all_goals (try (((repeat (first | refine veil (by assumption) ?_ | refine turn_ret ?_ | refine turn_brk ?_ | refine wturn_ret ?_ | refine wturn_brk ?_)); (try dsimp only))))
    (((try dsimp only); refine ⟨_, _, _, _, rfl, by assumption, by assumption, ?_⟩; (try dsimp only)))
    exact ⟨⟨_, rfl⟩, D⟩

inductive WiJ (NX : List (Addr × Obj)) (xs : List (Nat × Nat)) (q : Nat × Nat) (y : Addr) (i : Nat) (m : Str → Option Value) (nx : List (Addr × Obj)) : Prop
  | mk (e : nx = NX) (hj : ∀ j p, j < i → xs[j]? = some p → inMask p q = true) (e1 : m (Str.ofString "other") = some (.ref y))
theorem s_is_wish_within {v1 v2 : Value} {x1 x2 : Wish} {b : Nat} {t : Tok} (h1 : DatIn news v1 x1.dat) (hx1 : x1.ok b) (h2 : DatIn news v2 x2.dat) (hb : b ≤ 12) :
    Spec w mean mg mb 163 3 [v1, v2, .int b t] news (fun news' r => news' = news ∧ r = .bool (x1.within b x2)) := by
  cases x2 with
  | range a c =>
    refine hideG fun PP hPP => ?_
    obtain ⟨y, n, t1, u, z, rfl, m1⟩ := datS2 h2
    refine hPP ?_
    clear hPP PP
    ((refine' spec_intro (by k_is) (by k_is) (by exact rfl) (by exact rfl) (by exact rfl) (by exact rfl) (by exact rfl) (by decide) ?_; k_whole; intro dp' un' gd' fr' envc' outer' A₀' base' g' L' h' ge' dr' os' tk' A9' E9' C' hr' hA' B' X' T' F' N' T' hT'; (try dsimp only [List.map, List.zip, List.zipWith, List.reverse, List.reverseAux] at F'); (try dsimp only); (try k_fold)))
    (k_steps <;> repeat' ((first | with_reducible refine stop_out ?_ | with_reducible show wpAny _ _ _ _ _ _); (first | ((k_here; (with_reducible show wpAny _ _ (subscriptTail _ _ (Value.ref _) (Value.int _ _)) _ _ _); k_dflt (first | (refine' item_tupK 0 (by exact rfl) (by k_asm) (by k_mem) (by exact rfl) (by first | assumption | (rw [sizeLine_eq]; exact Nat.le_of_ble_eq_true rfl)) ?_ (by with_unfolding_all rfl)) | (refine' item_listK 0 (by exact rfl) (by k_asm) (by k_mem) (by exact rfl) (by first | assumption | (rw [sizeLine_eq]; exact Nat.le_of_ble_eq_true rfl)) ?_ (by with_unfolding_all rfl)) | (refine' item_tupK 1 (by exact rfl) (by k_asm) (by k_mem) (by exact rfl) (by first | assumption | (rw [sizeLine_eq]; exact Nat.le_of_ble_eq_true rfl)) ?_ (by with_unfolding_all rfl)) | (refine' item_listK 1 (by exact rfl) (by k_asm) (by k_mem) (by exact rfl) (by first | assumption | (rw [sizeLine_eq]; exact Nat.le_of_ble_eq_true rfl)) ?_ (by with_unfolding_all rfl)) | (refine' item_tupK 2 (by exact rfl) (by k_asm) (by k_mem) (by exact rfl) (by first | assumption | (rw [sizeLine_eq]; exact Nat.le_of_ble_eq_true rfl)) ?_ (by with_unfolding_all rfl)) | (refine' item_tupK 3 (by exact rfl) (by k_asm) (by k_mem) (by exact rfl) (by first | assumption | (rw [sizeLine_eq]; exact Nat.le_of_ble_eq_true rfl)) ?_ (by with_unfolding_all rfl)) | (refine' item_tupK 4 (by exact rfl) (by k_asm) (by k_mem) (by exact rfl) (by first | assumption | (rw [sizeLine_eq]; exact Nat.le_of_ble_eq_true rfl)) ?_ (by with_unfolding_all rfl))))) | ((k_here; (with_reducible show wpAny _ _ (subscriptTail _ _ (Value.ref _) (Value.ref _)) _ _ _); k_dflt (refine' slice1 (by k_asm) (by k_asm) (by k_mem) (by exact Nat.le_of_ble_eq_true rfl) (by (rw [sizeLine_eq]; exact Nat.le_of_ble_eq_true rfl)) ?_ (by with_unfolding_all rfl) (by (intro _; with_unfolding_all rfl))); intro _ _ _ N1Q l1Q; (try dsimp only [List.drop] at N1Q); (revert N1Q l1Q; intro _ _))) | fail "no word"); k_steps))
    all_goals (try (((repeat (first | refine veil (by assumption) ?_ | refine turn_ret ?_ | refine turn_brk ?_ | refine wturn_ret ?_ | refine wturn_brk ?_)); (try dsimp only))))
    refine use (s_wish_ends h1 hx1 (by omega)) (by assumption) (by assumption) (by assumption) (by decide) ?_
    rintro r nx h' tk' F1 N1 hJ90
    refine hideG fun PP hPP => ?_
    obtain ⟨⟨tl, rfl⟩, D⟩ := hJ90
    refine hPP ?_
    clear hPP PP
    refine hideG fun PP hPP => ?_
    obtain ⟨q, n2, t2, u2, rfl, m2⟩ := dat2 D
    refine hPP ?_
    clear hPP PP
    (k_steps <;> repeat' ((first | with_reducible refine stop_out ?_ | with_reducible show wpAny _ _ _ _ _ _); (first | ((k_here; (with_reducible show wpAny _ _ (subscriptTail _ _ (Value.ref _) (Value.int _ _)) _ _ _); k_dflt (first | (refine' item_tupK 0 (by exact rfl) (by k_asm) (by k_mem) (by exact rfl) (by first | assumption | (rw [sizeLine_eq]; exact Nat.le_of_ble_eq_true rfl)) ?_ (by with_unfolding_all rfl)) | (refine' item_listK 0 (by exact rfl) (by k_asm) (by k_mem) (by exact rfl) (by first | assumption | (rw [sizeLine_eq]; exact Nat.le_of_ble_eq_true rfl)) ?_ (by with_unfolding_all rfl)) | (refine' item_tupK 1 (by exact rfl) (by k_asm) (by k_mem) (by exact rfl) (by first | assumption | (rw [sizeLine_eq]; exact Nat.le_of_ble_eq_true rfl)) ?_ (by with_unfolding_all rfl)) | (refine' item_listK 1 (by exact rfl) (by k_asm) (by k_mem) (by exact rfl) (by first | assumption | (rw [sizeLine_eq]; exact Nat.le_of_ble_eq_true rfl)) ?_ (by with_unfolding_all rfl)) | (refine' item_tupK 2 (by exact rfl) (by k_asm) (by k_mem) (by exact rfl) (by first | assumption | (rw [sizeLine_eq]; exact Nat.le_of_ble_eq_true rfl)) ?_ (by with_unfolding_all rfl)) | (refine' item_tupK 3 (by exact rfl) (by k_asm) (by k_mem) (by exact rfl) (by first | assumption | (rw [sizeLine_eq]; exact Nat.le_of_ble_eq_true rfl)) ?_ (by with_unfolding_all rfl)) | (refine' item_tupK 4 (by exact rfl) (by k_asm) (by k_mem) (by exact rfl) (by first | assumption | (rw [sizeLine_eq]; exact Nat.le_of_ble_eq_true rfl)) ?_ (by with_unfolding_all rfl))))) | ((k_here; (with_reducible show wpAny _ _ (subscriptTail _ _ (Value.ref _) (Value.ref _)) _ _ _); k_dflt (refine' slice1 (by k_asm) (by k_asm) (by k_mem) (by exact Nat.le_of_ble_eq_true rfl) (by (rw [sizeLine_eq]; exact Nat.le_of_ble_eq_true rfl)) ?_ (by with_unfolding_all rfl) (by (intro _; with_unfolding_all rfl))); intro _ _ _ N1Q l1Q; (try dsimp only [List.drop] at N1Q); (revert N1Q l1Q; intro _ _))) | fail "no word"); k_steps))
    all_goals (try (((repeat (first | refine veil (by assumption) ?_ | refine turn_ret ?_ | refine turn_brk ?_ | refine wturn_ret ?_ | refine wturn_brk ?_)); (try dsimp only))))
    all_goals (refine ⟨_, _, news, _, rfl, by assumption, nsub (by assumption) (fun p hp => List.mem_append_right _ hp), rfl, ?_⟩; (try dsimp only); congr 1; simp only [Wish.within]; grind)
  | mask a c =>
    refine hideG fun PP hPP => ?_
    obtain ⟨y, n, t1, u, z, rfl, m1⟩ := datS2 h2
    refine hPP ?_
    clear hPP PP
    ((refine' spec_intro (by k_is) (by k_is) (by exact rfl) (by exact rfl) (by exact rfl) (by exact rfl) (by exact rfl) (by decide) ?_; k_whole; intro dp' un' gd' fr' envc' outer' A₀' base' g' L' h' ge' dr' os' tk' A9' E9' C' hr' hA' B' X' T' F' N' T' hT'; (try dsimp only [List.map, List.zip, List.zipWith, List.reverse, List.reverseAux] at F'); (try dsimp only); (try k_fold)))
    (k_steps <;> repeat' ((first | with_reducible refine stop_out ?_ | with_reducible show wpAny _ _ _ _ _ _); (first | ((k_here; (with_reducible show wpAny _ _ (subscriptTail _ _ (Value.ref _) (Value.int _ _)) _ _ _); k_dflt (first | (refine' item_tupK 0 (by exact rfl) (by k_asm) (by k_mem) (by exact rfl) (by first | assumption | (rw [sizeLine_eq]; exact Nat.le_of_ble_eq_true rfl)) ?_ (by with_unfolding_all rfl)) | (refine' item_listK 0 (by exact rfl) (by k_asm) (by k_mem) (by exact rfl) (by first | assumption | (rw [sizeLine_eq]; exact Nat.le_of_ble_eq_true rfl)) ?_ (by with_unfolding_all rfl)) | (refine' item_tupK 1 (by exact rfl) (by k_asm) (by k_mem) (by exact rfl) (by first | assumption | (rw [sizeLine_eq]; exact Nat.le_of_ble_eq_true rfl)) ?_ (by with_unfolding_all rfl)) | (refine' item_listK 1 (by exact rfl) (by k_asm) (by k_mem) (by exact rfl) (by first | assumption | (rw [sizeLine_eq]; exact Nat.le_of_ble_eq_true rfl)) ?_ (by with_unfolding_all rfl)) | (refine' item_tupK 2 (by exact rfl) (by k_asm) (by k_mem) (by exact rfl) (by first | assumption | (rw [sizeLine_eq]; exact Nat.le_of_ble_eq_true rfl)) ?_ (by with_unfolding_all rfl)) | (refine' item_tupK 3 (by exact rfl) (by k_asm) (by k_mem) (by exact rfl) (by first | assumption | (rw [sizeLine_eq]; exact Nat.le_of_ble_eq_true rfl)) ?_ (by with_unfolding_all rfl)) | (refine' item_tupK 4 (by exact rfl) (by k_asm) (by k_mem) (by exact rfl) (by first | assumption | (rw [sizeLine_eq]; exact Nat.le_of_ble_eq_true rfl)) ?_ (by with_unfolding_all rfl))))) | ((k_here; (with_reducible show wpAny _ _ (subscriptTail _ _ (Value.ref _) (Value.ref _)) _ _ _); k_dflt (refine' slice1 (by k_asm) (by k_asm) (by k_mem) (by exact Nat.le_of_ble_eq_true rfl) (by (rw [sizeLine_eq]; exact Nat.le_of_ble_eq_true rfl)) ?_ (by with_unfolding_all rfl) (by (intro _; with_unfolding_all rfl))); intro _ _ _ N1Q l1Q; (try dsimp only [List.drop] at N1Q); (revert N1Q l1Q; intro _ _))) | fail "no word"); k_steps))
    all_goals (try (((repeat (first | refine veil (by assumption) ?_ | refine turn_ret ?_ | refine turn_brk ?_ | refine wturn_ret ?_ | refine wturn_brk ?_)); (try dsimp only))))
    refine use (s_wish_masks h1 hx1 hb) (by assumption) (by assumption) (by assumption) (by decide) ?_
    rintro r nx h' tk' F1 N1 hJ90
    refine hideG fun PP hPP => ?_
    obtain ⟨⟨tl, rfl⟩, D⟩ := hJ90
    refine hPP ?_
    clear hPP PP
    refine hideG fun PP hPP => ?_
    obtain ⟨l, n2, vs, rfl, m2, D2⟩ := dat_list D
    refine hPP ?_
    clear hPP PP
    (k_steps <;> repeat' ((first | with_reducible refine stop_out ?_ | with_reducible show wpAny _ _ _ _ _ _); (first | ((k_here; (with_reducible show wpAny _ _ (subscriptTail _ _ (Value.ref _) (Value.int _ _)) _ _ _); k_dflt (first | (refine' item_tupK 0 (by exact rfl) (by k_asm) (by k_mem) (by exact rfl) (by first | assumption | (rw [sizeLine_eq]; exact Nat.le_of_ble_eq_true rfl)) ?_ (by with_unfolding_all rfl)) | (refine' item_listK 0 (by exact rfl) (by k_asm) (by k_mem) (by exact rfl) (by first | assumption | (rw [sizeLine_eq]; exact Nat.le_of_ble_eq_true rfl)) ?_ (by with_unfolding_all rfl)) | (refine' item_tupK 1 (by exact rfl) (by k_asm) (by k_mem) (by exact rfl) (by first | assumption | (rw [sizeLine_eq]; exact Nat.le_of_ble_eq_true rfl)) ?_ (by with_unfolding_all rfl)) | (refine' item_listK 1 (by exact rfl) (by k_asm) (by k_mem) (by exact rfl) (by first | assumption | (rw [sizeLine_eq]; exact Nat.le_of_ble_eq_true rfl)) ?_ (by with_unfolding_all rfl)) | (refine' item_tupK 2 (by exact rfl) (by k_asm) (by k_mem) (by exact rfl) (by first | assumption | (rw [sizeLine_eq]; exact Nat.le_of_ble_eq_true rfl)) ?_ (by with_unfolding_all rfl)) | (refine' item_tupK 3 (by exact rfl) (by k_asm) (by k_mem) (by exact rfl) (by first | assumption | (rw [sizeLine_eq]; exact Nat.le_of_ble_eq_true rfl)) ?_ (by with_unfolding_all rfl)) | (refine' item_tupK 4 (by exact rfl) (by k_asm) (by k_mem) (by exact rfl) (by first | assumption | (rw [sizeLine_eq]; exact Nat.le_of_ble_eq_true rfl)) ?_ (by with_unfolding_all rfl))))) | ((k_here; (with_reducible show wpAny _ _ (subscriptTail _ _ (Value.ref _) (Value.ref _)) _ _ _); k_dflt (refine' slice1 (by k_asm) (by k_asm) (by k_mem) (by exact Nat.le_of_ble_eq_true rfl) (by (rw [sizeLine_eq]; exact Nat.le_of_ble_eq_true rfl)) ?_ (by with_unfolding_all rfl) (by (intro _; with_unfolding_all rfl))); intro _ _ _ N1Q l1Q; (try dsimp only [List.drop] at N1Q); (revert N1Q l1Q; intro _ _))) | fail "no word"); k_steps))
    all_goals (try (((repeat (first | refine veil (by assumption) ?_ | refine turn_ret ?_ | refine turn_brk ?_ | refine wturn_ret ?_ | refine wturn_brk ?_)); (try dsimp only))))
    refine stop_out ?_
    refine for_list (vs := vs) (nn := n2) rfl (by assumption) (WiJ (tl ++ news) (x1.masks b) (a, c) y) ?_ ?_ ?_ ?_ PassesOwn.never
    · rintro i m nx ⟨rfl⟩; exact m2
    · exact ⟨_, by assumption, rfl, fun _ _ h => absurd h (Nat.not_lt_zero _), rfl⟩
    · rintro i v m₁ nx h tk I oI hv hJ90 off F N TQ hTQ
      refine hideG fun PP hPP => ?_
      obtain ⟨rfl, hj, e1⟩ := hJ90
      refine hPP ?_
      clear hPP PP
      have EE : AllB m₁ [(Str.ofString "other", .ref y)] := ⟨e1, trivial⟩
      replace F := renL _ F EE
      refine hideG fun PP hPP => ?_
      obtain ⟨p, hp, Dp⟩ := dat_map D2 hv
      refine hPP ?_
      clear hPP PP
      (k_steps <;> repeat' ((first | with_reducible refine stop_out ?_ | with_reducible show wpAny _ _ _ _ _ _); (first | ((k_here; (with_reducible show wpAny _ _ (subscriptTail _ _ (Value.ref _) (Value.int _ _)) _ _ _); k_dflt (first | (refine' item_tupK 0 (by exact rfl) (by k_asm) (by k_mem) (by exact rfl) (by first | assumption | (rw [sizeLine_eq]; exact Nat.le_of_ble_eq_true rfl)) ?_ (by with_unfolding_all rfl)) | (refine' item_listK 0 (by exact rfl) (by k_asm) (by k_mem) (by exact rfl) (by first | assumption | (rw [sizeLine_eq]; exact Nat.le_of_ble_eq_true rfl)) ?_ (by with_unfolding_all rfl)) | (refine' item_tupK 1 (by exact rfl) (by k_asm) (by k_mem) (by exact rfl) (by first | assumption | (rw [sizeLine_eq]; exact Nat.le_of_ble_eq_true rfl)) ?_ (by with_unfolding_all rfl)) | (refine' item_listK 1 (by exact rfl) (by k_asm) (by k_mem) (by exact rfl) (by first | assumption | (rw [sizeLine_eq]; exact Nat.le_of_ble_eq_true rfl)) ?_ (by with_unfolding_all rfl)) | (refine' item_tupK 2 (by exact rfl) (by k_asm) (by k_mem) (by exact rfl) (by first | assumption | (rw [sizeLine_eq]; exact Nat.le_of_ble_eq_true rfl)) ?_ (by with_unfolding_all rfl)) | (refine' item_tupK 3 (by exact rfl) (by k_asm) (by k_mem) (by exact rfl) (by first | assumption | (rw [sizeLine_eq]; exact Nat.le_of_ble_eq_true rfl)) ?_ (by with_unfolding_all rfl)) | (refine' item_tupK 4 (by exact rfl) (by k_asm) (by k_mem) (by exact rfl) (by first | assumption | (rw [sizeLine_eq]; exact Nat.le_of_ble_eq_true rfl)) ?_ (by with_unfolding_all rfl))))) | ((k_here; (with_reducible show wpAny _ _ (subscriptTail _ _ (Value.ref _) (Value.ref _)) _ _ _); k_dflt (refine' slice1 (by k_asm) (by k_asm) (by k_mem) (by exact Nat.le_of_ble_eq_true rfl) (by (rw [sizeLine_eq]; exact Nat.le_of_ble_eq_true rfl)) ?_ (by with_unfolding_all rfl) (by (intro _; with_unfolding_all rfl))); intro _ _ _ N1Q l1Q; (try dsimp only [List.drop] at N1Q); (revert N1Q l1Q; intro _ _))) | fail "no word"); k_steps))
      all_goals (try (((repeat (first | refine veil (by assumption) ?_ | refine turn_ret ?_ | refine turn_brk ?_ | refine wturn_ret ?_ | refine wturn_brk ?_)); (try dsimp only))))
      refine use (s_is_mask_within (q := (a, c)) (Dp.mono fun p hp => .tail _ (.tail _ hp)) (DatIn.tuple (.head _) (.cons (.int _ _) (.cons (.int _ _) .nil)))) (by assumption) (by assumption) (by assumption) (by decide) ?_
      rintro r nx' h' tk' F2 N2 ⟨rfl, rfl⟩
      (k_steps <;> repeat' ((first | with_reducible refine stop_out ?_ | with_reducible show wpAny _ _ _ _ _ _); (first | ((k_here; (with_reducible show wpAny _ _ (subscriptTail _ _ (Value.ref _) (Value.int _ _)) _ _ _); k_dflt (first | (refine' item_tupK 0 (by exact rfl) (by k_asm) (by k_mem) (by exact rfl) (by first | assumption | (rw [sizeLine_eq]; exact Nat.le_of_ble_eq_true rfl)) ?_ (by with_unfolding_all rfl)) | (refine' item_listK 0 (by exact rfl) (by k_asm) (by k_mem) (by exact rfl) (by first | assumption | (rw [sizeLine_eq]; exact Nat.le_of_ble_eq_true rfl)) ?_ (by with_unfolding_all rfl)) | (refine' item_tupK 1 (by exact rfl) (by k_asm) (by k_mem) (by exact rfl) (by first | assumption | (rw [sizeLine_eq]; exact Nat.le_of_ble_eq_true rfl)) ?_ (by with_unfolding_all rfl)) | (refine' item_listK 1 (by exact rfl) (by k_asm) (by k_mem) (by exact rfl) (by first | assumption | (rw [sizeLine_eq]; exact Nat.le_of_ble_eq_true rfl)) ?_ (by with_unfolding_all rfl)) | (refine' item_tupK 2 (by exact rfl) (by k_asm) (by k_mem) (by exact rfl) (by first | assumption | (rw [sizeLine_eq]; exact Nat.le_of_ble_eq_true rfl)) ?_ (by with_unfolding_all rfl)) | (refine' item_tupK 3 (by exact rfl) (by k_asm) (by k_mem) (by exact rfl) (by first | assumption | (rw [sizeLine_eq]; exact Nat.le_of_ble_eq_true rfl)) ?_ (by with_unfolding_all rfl)) | (refine' item_tupK 4 (by exact rfl) (by k_asm) (by k_mem) (by exact rfl) (by first | assumption | (rw [sizeLine_eq]; exact Nat.le_of_ble_eq_true rfl)) ?_ (by with_unfolding_all rfl))))) | ((k_here; (with_reducible show wpAny _ _ (subscriptTail _ _ (Value.ref _) (Value.ref _)) _ _ _); k_dflt (refine' slice1 (by k_asm) (by k_asm) (by k_mem) (by exact Nat.le_of_ble_eq_true rfl) (by (rw [sizeLine_eq]; exact Nat.le_of_ble_eq_true rfl)) ?_ (by with_unfolding_all rfl) (by (intro _; with_unfolding_all rfl))); intro _ _ _ N1Q l1Q; (try dsimp only [List.drop] at N1Q); (revert N1Q l1Q; intro _ _))) | fail "no word"); k_steps))
      all_goals (try (((repeat (first | refine veil (by assumption) ?_ | refine turn_ret ?_ | refine turn_brk ?_ | refine wturn_ret ?_ | refine wturn_brk ?_)); (try dsimp only))))
      rotate_left
      · (try (((repeat (first | refine veil (by assumption) ?_ | refine turn_ret ?_ | refine turn_brk ?_ | refine wturn_ret ?_ | refine wturn_brk ?_)); (try dsimp only))))
        refine ⟨_, _, news, _, rfl, by assumption, nsub (by assumption) (fun p hp => .tail _ (.tail _ (List.mem_append_right _ hp))), rfl, ?_⟩
        have : x1.within b (.mask a c) = false := by
          rw [Wish.within, List.all_eq_false]
          exact ⟨p, List.mem_of_getElem? hp, Bool.eq_false_iff.mp (by assumption)⟩
        rw [this]
      · refine turn_next (tl ++ news) (by assumption) (by assumption) (.tail _ (.head _)) (fun p hp => .tail _ (.tail _ hp)) off ⟨rfl, ?_, rfl⟩
        intro j p' hj' hp'
        rcases Nat.lt_succ_iff_lt_or_eq.mp hj' with h9 | rfl
        · exact hj j p' h9 hp'
        · rw [hp] at hp'; cases hp'; assumption
    · rintro m₁ nx h tk hJ90 F N
      refine hideG fun PP hPP => ?_
      obtain ⟨rfl, hj, e1⟩ := hJ90
      refine hPP ?_
      clear hPP PP
      (k_steps <;> repeat' ((first | with_reducible refine stop_out ?_ | with_reducible show wpAny _ _ _ _ _ _); (first | ((k_here; (with_reducible show wpAny _ _ (subscriptTail _ _ (Value.ref _) (Value.int _ _)) _ _ _); k_dflt (first | (refine' item_tupK 0 (by exact rfl) (by k_asm) (by k_mem) (by exact rfl) (by first | assumption | (rw [sizeLine_eq]; exact Nat.le_of_ble_eq_true rfl)) ?_ (by with_unfolding_all rfl)) | (refine' item_listK 0 (by exact rfl) (by k_asm) (by k_mem) (by exact rfl) (by first | assumption | (rw [sizeLine_eq]; exact Nat.le_of_ble_eq_true rfl)) ?_ (by with_unfolding_all rfl)) | (refine' item_tupK 1 (by exact rfl) (by k_asm) (by k_mem) (by exact rfl) (by first | assumption | (rw [sizeLine_eq]; exact Nat.le_of_ble_eq_true rfl)) ?_ (by with_unfolding_all rfl)) | (refine' item_listK 1 (by exact rfl) (by k_asm) (by k_mem) (by exact rfl) (by first | assumption | (rw [sizeLine_eq]; exact Nat.le_of_ble_eq_true rfl)) ?_ (by with_unfolding_all rfl)) | (refine' item_tupK 2 (by exact rfl) (by k_asm) (by k_mem) (by exact rfl) (by first | assumption | (rw [sizeLine_eq]; exact Nat.le_of_ble_eq_true rfl)) ?_ (by with_unfolding_all rfl)) | (refine' item_tupK 3 (by exact rfl) (by k_asm) (by k_mem) (by exact rfl) (by first | assumption | (rw [sizeLine_eq]; exact Nat.le_of_ble_eq_true rfl)) ?_ (by with_unfolding_all rfl)) | (refine' item_tupK 4 (by exact rfl) (by k_asm) (by k_mem) (by exact rfl) (by first | assumption | (rw [sizeLine_eq]; exact Nat.le_of_ble_eq_true rfl)) ?_ (by with_unfolding_all rfl))))) | ((k_here; (with_reducible show wpAny _ _ (subscriptTail _ _ (Value.ref _) (Value.ref _)) _ _ _); k_dflt (refine' slice1 (by k_asm) (by k_asm) (by k_mem) (by exact Nat.le_of_ble_eq_true rfl) (by (rw [sizeLine_eq]; exact Nat.le_of_ble_eq_true rfl)) ?_ (by with_unfolding_all rfl) (by (intro _; with_unfolding_all rfl))); intro _ _ _ N1Q l1Q; (try dsimp only [List.drop] at N1Q); (revert N1Q l1Q; intro _ _))) | fail "no word"); k_steps))
      all_goals (try (((repeat (first | refine veil (by assumption) ?_ | refine turn_ret ?_ | refine turn_brk ?_ | refine wturn_ret ?_ | refine wturn_brk ?_)); (try dsimp only))))
      (try (((repeat (first | refine veil (by assumption) ?_ | refine turn_ret ?_ | refine turn_brk ?_ | refine wturn_ret ?_ | refine wturn_brk ?_)); (try dsimp only))))
      refine ⟨_, _, news, _, rfl, F, nsub N (fun p hp => List.mem_append_right _ hp), rfl, ?_⟩
      have : x1.within b (.mask a c) = true := by
        rw [Wish.within, List.all_eq_true]
        intro p hp
        refine hideG fun PP hPP => ?_
        obtain ⟨j, hj', e⟩ := List.getElem_of_mem hp
        refine hPP ?_
        clear hPP PP
        have := D2.length
        rw [List.length_map] at this
        exact hj j p (by omega) (by rw [List.getElem?_eq_getElem hj', e])
      rw [this]

inductive DmJ (NX : List (Addr × Obj)) (xs ys : List (Nat × Nat)) (y2 : Addr) (b : Nat) (t : Tok) (i : Nat) (m : Str → Option Value) (nx : List (Addr × Obj)) : Prop
  | mk (e : nx = NX) (hj : ∀ j p, j < i → xs[j]? = some p → (ys.any fun q => metMask p q) = false) (e1 : m (Str.ofString "other") = some (.ref y2)) (e2 : m (Str.ofString "bits") = some (.int b t))
inductive DmK (NX : List (Addr × Obj)) (ys : List (Nat × Nat)) (p : Nat × Nat) (y2 : Addr) (b : Nat) (t : Tok) (v : Value) (i : Nat) (m : Str → Option Value) (nx : List (Addr × Obj)) : Prop
  | mk (e : nx = NX) (hj : ∀ j q, j < i → ys[j]? = some q → metMask p q = false) (e1 : m (Str.ofString "other") = some (.ref y2)) (e2 : m (Str.ofString "bits") = some (.int b t)) (e3 : m (Str.ofString "row") = some v)
theorem s_do_wishes_meet {v1 v2 : Value} {x1 x2 : Wish} {b : Nat} {t : Tok} (h1 : DatIn news v1 x1.dat) (hx1 : x1.ok b) (h2 : DatIn news v2 x2.dat) (hx2 : x2.ok b) (hb : b ≤ 12) :
    Spec w mean mg mb 170 3 [v1, v2, .int b t] news (fun news' r => news' = news ∧ r = .bool (x1.meet b x2)) := by
  have go : ∀ {y1 n1 y2 n2} {s1 s2 : Str} {a1 c1 a2 c2 : Nat} {t1 u1 z1 t2 u2 z2 : Tok}, (y1, tupO [Value.str s1 t1, Value.int a1 u1, Value.int c1 z1] n1) ∈ news → (y2, tupO [Value.str s2 t2, Value.int a2 u2, Value.int c2 z2] n2) ∈ news → v1 = .ref y1 → v2 = .ref y2 →
      (s1 = Str.ofString "mask" ∧ s2 = Str.ofString "mask" ∨ s1 = Str.ofString "mask" ∧ s2 = Str.ofString "range" ∨ s1 = Str.ofString "range" ∧ s2 = Str.ofString "mask") → (x1.meet b x2 = (x1.masks b).any fun p => (x2.masks b).any fun q => metMask p q) →
      Spec w mean mg mb 170 3 [v1, v2, .int b t] news (fun news' r => news' = news ∧ r = .bool (x1.meet b x2)) := by
    rintro y1 n1 y2 n2 s1 s2 a1 c1 a2 c2 t1 u1 z1 t2 u2 z2 m1 m2 rfl rfl hs hm
    ((refine' spec_intro (by k_is) (by k_is) (by exact rfl) (by exact rfl) (by exact rfl) (by exact rfl) (by exact rfl) (by decide) ?_; k_whole; intro dp' un' gd' fr' envc' outer' A₀' base' g' L' h' ge' dr' os' tk' A9' E9' C' hr' hA' B' X' T' F' N' T' hT'; (try dsimp only [List.map, List.zip, List.zipWith, List.reverse, List.reverseAux] at F'); (try dsimp only); (try k_fold)))
    refine exec_cut (fun q => ∃ h tk, q = ⟨h, ge', dr', tk, os'⟩ ∧ Fr g' L' h (fun y => List.lookup y [(Str.ofString "bits", Value.int (b : Nat) t), (Str.ofString "other", .ref y2), (Str.ofString "one", .ref y1)]) ∧ News g' L' h news) ?_ ?_
    · rcases hs with ⟨rfl, rfl⟩ | ⟨rfl, rfl⟩ | ⟨rfl, rfl⟩
      all_goals (
        (k_steps <;> repeat' ((first | with_reducible refine stop_out ?_ | with_reducible show wpAny _ _ _ _ _ _); (first | ((k_here; (with_reducible show wpAny _ _ (subscriptTail _ _ (Value.ref _) (Value.int _ _)) _ _ _); k_dflt (first | (refine' item_tupK 0 (by exact rfl) (by k_asm) (by k_mem) (by exact rfl) (by first | assumption | (rw [sizeLine_eq]; exact Nat.le_of_ble_eq_true rfl)) ?_ (by with_unfolding_all rfl)) | (refine' item_listK 0 (by exact rfl) (by k_asm) (by k_mem) (by exact rfl) (by first | assumption | (rw [sizeLine_eq]; exact Nat.le_of_ble_eq_true rfl)) ?_ (by with_unfolding_all rfl)) | (refine' item_tupK 1 (by exact rfl) (by k_asm) (by k_mem) (by exact rfl) (by first | assumption | (rw [sizeLine_eq]; exact Nat.le_of_ble_eq_true rfl)) ?_ (by with_unfolding_all rfl)) | (refine' item_listK 1 (by exact rfl) (by k_asm) (by k_mem) (by exact rfl) (by first | assumption | (rw [sizeLine_eq]; exact Nat.le_of_ble_eq_true rfl)) ?_ (by with_unfolding_all rfl)) | (refine' item_tupK 2 (by exact rfl) (by k_asm) (by k_mem) (by exact rfl) (by first | assumption | (rw [sizeLine_eq]; exact Nat.le_of_ble_eq_true rfl)) ?_ (by with_unfolding_all rfl)) | (refine' item_tupK 3 (by exact rfl) (by k_asm) (by k_mem) (by exact rfl) (by first | assumption | (rw [sizeLine_eq]; exact Nat.le_of_ble_eq_true rfl)) ?_ (by with_unfolding_all rfl)) | (refine' item_tupK 4 (by exact rfl) (by k_asm) (by k_mem) (by exact rfl) (by first | assumption | (rw [sizeLine_eq]; exact Nat.le_of_ble_eq_true rfl)) ?_ (by with_unfolding_all rfl))))) | ((k_here; (with_reducible show wpAny _ _ (subscriptTail _ _ (Value.ref _) (Value.ref _)) _ _ _); k_dflt (refine' slice1 (by k_asm) (by k_asm) (by k_mem) (by exact Nat.le_of_ble_eq_true rfl) (by (rw [sizeLine_eq]; exact Nat.le_of_ble_eq_true rfl)) ?_ (by with_unfolding_all rfl) (by (intro _; with_unfolding_all rfl))); intro _ _ _ N1Q l1Q; (try dsimp only [List.drop] at N1Q); (revert N1Q l1Q; intro _ _))) | fail "no word"); k_steps))
        all_goals (try (((repeat (first | refine veil (by assumption) ?_ | refine turn_ret ?_ | refine turn_brk ?_ | refine wturn_ret ?_ | refine wturn_brk ?_)); (try dsimp only))))
        exact ⟨⟨rfl, _, _, rfl, by assumption, by assumption⟩⟩)
    · rintro q hJ90
      refine hideG fun PP hPP => ?_
      obtain ⟨h9, tk9, rfl, F9, N9⟩ := hJ90
      refine hPP ?_
      clear hPP PP
      (k_steps <;> repeat' ((first | with_reducible refine stop_out ?_ | with_reducible show wpAny _ _ _ _ _ _); (first | ((k_here; (with_reducible show wpAny _ _ (subscriptTail _ _ (Value.ref _) (Value.int _ _)) _ _ _); k_dflt (first | (refine' item_tupK 0 (by exact rfl) (by k_asm) (by k_mem) (by exact rfl) (by first | assumption | (rw [sizeLine_eq]; exact Nat.le_of_ble_eq_true rfl)) ?_ (by with_unfolding_all rfl)) | (refine' item_listK 0 (by exact rfl) (by k_asm) (by k_mem) (by exact rfl) (by first | assumption | (rw [sizeLine_eq]; exact Nat.le_of_ble_eq_true rfl)) ?_ (by with_unfolding_all rfl)) | (refine' item_tupK 1 (by exact rfl) (by k_asm) (by k_mem) (by exact rfl) (by first | assumption | (rw [sizeLine_eq]; exact Nat.le_of_ble_eq_true rfl)) ?_ (by with_unfolding_all rfl)) | (refine' item_listK 1 (by exact rfl) (by k_asm) (by k_mem) (by exact rfl) (by first | assumption | (rw [sizeLine_eq]; exact Nat.le_of_ble_eq_true rfl)) ?_ (by with_unfolding_all rfl)) | (refine' item_tupK 2 (by exact rfl) (by k_asm) (by k_mem) (by exact rfl) (by first | assumption | (rw [sizeLine_eq]; exact Nat.le_of_ble_eq_true rfl)) ?_ (by with_unfolding_all rfl)) | (refine' item_tupK 3 (by exact rfl) (by k_asm) (by k_mem) (by exact rfl) (by first | assumption | (rw [sizeLine_eq]; exact Nat.le_of_ble_eq_true rfl)) ?_ (by with_unfolding_all rfl)) | (refine' item_tupK 4 (by exact rfl) (by k_asm) (by k_mem) (by exact rfl) (by first | assumption | (rw [sizeLine_eq]; exact Nat.le_of_ble_eq_true rfl)) ?_ (by with_unfolding_all rfl))))) | ((k_here; (with_reducible show wpAny _ _ (subscriptTail _ _ (Value.ref _) (Value.ref _)) _ _ _); k_dflt (refine' slice1 (by k_asm) (by k_asm) (by k_mem) (by exact Nat.le_of_ble_eq_true rfl) (by (rw [sizeLine_eq]; exact Nat.le_of_ble_eq_true rfl)) ?_ (by with_unfolding_all rfl) (by (intro _; with_unfolding_all rfl))); intro _ _ _ N1Q l1Q; (try dsimp only [List.drop] at N1Q); (revert N1Q l1Q; intro _ _))) | fail "no word"); k_steps))
      all_goals (try (((repeat (first | refine veil (by assumption) ?_ | refine turn_ret ?_ | refine turn_brk ?_ | refine wturn_ret ?_ | refine wturn_brk ?_)); (try dsimp only))))
      refine use (s_wish_masks h1 hx1 hb) (by assumption) (by assumption) (by assumption) (by decide) ?_
      rintro r nx h' tk' F1 N1 hJ90
      refine hideG fun PP hPP => ?_
      obtain ⟨⟨tl, rfl⟩, D⟩ := hJ90
      refine hPP ?_
      clear hPP PP
      refine hideG fun PP hPP => ?_
      obtain ⟨l, nl, vs, rfl, ml, D2⟩ := dat_list D
      refine hPP ?_
      clear hPP PP
      (k_steps <;> repeat' ((first | with_reducible refine stop_out ?_ | with_reducible show wpAny _ _ _ _ _ _); (first | ((k_here; (with_reducible show wpAny _ _ (subscriptTail _ _ (Value.ref _) (Value.int _ _)) _ _ _); k_dflt (first | (refine' item_tupK 0 (by exact rfl) (by k_asm) (by k_mem) (by exact rfl) (by first | assumption | (rw [sizeLine_eq]; exact Nat.le_of_ble_eq_true rfl)) ?_ (by with_unfolding_all rfl)) | (refine' item_listK 0 (by exact rfl) (by k_asm) (by k_mem) (by exact rfl) (by first | assumption | (rw [sizeLine_eq]; exact Nat.le_of_ble_eq_true rfl)) ?_ (by with_unfolding_all rfl)) | (refine' item_tupK 1 (by exact rfl) (by k_asm) (by k_mem) (by exact rfl) (by first | assumption | (rw [sizeLine_eq]; exact Nat.le_of_ble_eq_true rfl)) ?_ (by with_unfolding_all rfl)) | (refine' item_listK 1 (by exact rfl) (by k_asm) (by k_mem) (by exact rfl) (by first | assumption | (rw [sizeLine_eq]; exact Nat.le_of_ble_eq_true rfl)) ?_ (by with_unfolding_all rfl)) | (refine' item_tupK 2 (by exact rfl) (by k_asm) (by k_mem) (by exact rfl) (by first | assumption | (rw [sizeLine_eq]; exact Nat.le_of_ble_eq_true rfl)) ?_ (by with_unfolding_all rfl)) | (refine' item_tupK 3 (by exact rfl) (by k_asm) (by k_mem) (by exact rfl) (by first | assumption | (rw [sizeLine_eq]; exact Nat.le_of_ble_eq_true rfl)) ?_ (by with_unfolding_all rfl)) | (refine' item_tupK 4 (by exact rfl) (by k_asm) (by k_mem) (by exact rfl) (by first | assumption | (rw [sizeLine_eq]; exact Nat.le_of_ble_eq_true rfl)) ?_ (by with_unfolding_all rfl))))) | ((k_here; (with_reducible show wpAny _ _ (subscriptTail _ _ (Value.ref _) (Value.ref _)) _ _ _); k_dflt (refine' slice1 (by k_asm) (by k_asm) (by k_mem) (by exact Nat.le_of_ble_eq_true rfl) (by (rw [sizeLine_eq]; exact Nat.le_of_ble_eq_true rfl)) ?_ (by with_unfolding_all rfl) (by (intro _; with_unfolding_all rfl))); intro _ _ _ N1Q l1Q; (try dsimp only [List.drop] at N1Q); (revert N1Q l1Q; intro _ _))) | fail "no word"); k_steps))
      all_goals (try (((repeat (first | refine veil (by assumption) ?_ | refine turn_ret ?_ | refine turn_brk ?_ | refine wturn_ret ?_ | refine wturn_brk ?_)); (try dsimp only))))
      refine stop_out ?_
      refine for_list (vs := vs) (nn := nl) rfl (by assumption) (DmJ (tl ++ news) (x1.masks b) (x2.masks b) y2 b t) ?_ ?_ ?_ ?_ PassesOwn.never
      · rintro i m nx ⟨rfl⟩; exact ml
      · exact ⟨_, by assumption, rfl, fun _ _ h => absurd h (Nat.not_lt_zero _), rfl, rfl⟩
      · rintro i v m₁ nx h tk I oI hv hJ90 off F N TQ hTQ
        refine hideG fun PP hPP => ?_
        obtain ⟨rfl, hj, e1, e2⟩ := hJ90
        refine hPP ?_
        clear hPP PP
        have EE : AllB m₁ [(Str.ofString "other", .ref y2), (Str.ofString "bits", .int b t)] := ⟨e1, e2, trivial⟩
        replace F := renL _ F EE
        refine hideG fun PP hPP => ?_
        obtain ⟨p, hp, Dp⟩ := dat_map D2 hv
        refine hPP ?_
        clear hPP PP
        (k_steps <;> repeat' ((first | with_reducible refine stop_out ?_ | with_reducible show wpAny _ _ _ _ _ _); (first | ((k_here; (with_reducible show wpAny _ _ (subscriptTail _ _ (Value.ref _) (Value.int _ _)) _ _ _); k_dflt (first | (refine' item_tupK 0 (by exact rfl) (by k_asm) (by k_mem) (by exact rfl) (by first | assumption | (rw [sizeLine_eq]; exact Nat.le_of_ble_eq_true rfl)) ?_ (by with_unfolding_all rfl)) | (refine' item_listK 0 (by exact rfl) (by k_asm) (by k_mem) (by exact rfl) (by first | assumption | (rw [sizeLine_eq]; exact Nat.le_of_ble_eq_true rfl)) ?_ (by with_unfolding_all rfl)) | (refine' item_tupK 1 (by exact rfl) (by k_asm) (by k_mem) (by exact rfl) (by first | assumption | (rw [sizeLine_eq]; exact Nat.le_of_ble_eq_true rfl)) ?_ (by with_unfolding_all rfl)) | (refine' item_listK 1 (by exact rfl) (by k_asm) (by k_mem) (by exact rfl) (by first | assumption | (rw [sizeLine_eq]; exact Nat.le_of_ble_eq_true rfl)) ?_ (by with_unfolding_all rfl)) | (refine' item_tupK 2 (by exact rfl) (by k_asm) (by k_mem) (by exact rfl) (by first | assumption | (rw [sizeLine_eq]; exact Nat.le_of_ble_eq_true rfl)) ?_ (by with_unfolding_all rfl)) | (refine' item_tupK 3 (by exact rfl) (by k_asm) (by k_mem) (by exact rfl) (by first | assumption | (rw [sizeLine_eq]; exact Nat.le_of_ble_eq_true rfl)) ?_ (by with_unfolding_all rfl)) | (refine' item_tupK 4 (by exact rfl) (by k_asm) (by k_mem) (by exact rfl) (by first | assumption | (rw [sizeLine_eq]; exact Nat.le_of_ble_eq_true rfl)) ?_ (by with_unfolding_all rfl))))) | ((k_here; (with_reducible show wpAny _ _ (subscriptTail _ _ (Value.ref _) (Value.ref _)) _ _ _); k_dflt (refine' slice1 (by k_asm) (by k_asm) (by k_mem) (by exact Nat.le_of_ble_eq_true rfl) (by (rw [sizeLine_eq]; exact Nat.le_of_ble_eq_true rfl)) ?_ (by with_unfolding_all rfl) (by (intro _; with_unfolding_all rfl))); intro _ _ _ N1Q l1Q; (try dsimp only [List.drop] at N1Q); (revert N1Q l1Q; intro _ _))) | fail "no word"); k_steps))
        all_goals (try (((repeat (first | refine veil (by assumption) ?_ | refine turn_ret ?_ | refine turn_brk ?_ | refine wturn_ret ?_ | refine wturn_brk ?_)); (try dsimp only))))
        refine use (s_wish_masks (h2.mono fun p hp => .tail _ (List.mem_append_right _ hp)) hx2 hb) (by assumption) (by assumption) (by assumption) (by decide) ?_
        rintro r nx h' tk' F1 N1 hJ90
        refine hideG fun PP hPP => ?_
        obtain ⟨⟨tl2, rfl⟩, D⟩ := hJ90
        refine hPP ?_
        clear hPP PP
        refine hideG fun PP hPP => ?_
        obtain ⟨l2, nl2, vs2, rfl, ml2, D3⟩ := dat_list D
        refine hPP ?_
        clear hPP PP
        (k_steps <;> repeat' ((first | with_reducible refine stop_out ?_ | with_reducible show wpAny _ _ _ _ _ _); (first | ((k_here; (with_reducible show wpAny _ _ (subscriptTail _ _ (Value.ref _) (Value.int _ _)) _ _ _); k_dflt (first | (refine' item_tupK 0 (by exact rfl) (by k_asm) (by k_mem) (by exact rfl) (by first | assumption | (rw [sizeLine_eq]; exact Nat.le_of_ble_eq_true rfl)) ?_ (by with_unfolding_all rfl)) | (refine' item_listK 0 (by exact rfl) (by k_asm) (by k_mem) (by exact rfl) (by first | assumption | (rw [sizeLine_eq]; exact Nat.le_of_ble_eq_true rfl)) ?_ (by with_unfolding_all rfl)) | (refine' item_tupK 1 (by exact rfl) (by k_asm) (by k_mem) (by exact rfl) (by first | assumption | (rw [sizeLine_eq]; exact Nat.le_of_ble_eq_true rfl)) ?_ (by with_unfolding_all rfl)) | (refine' item_listK 1 (by exact rfl) (by k_asm) (by k_mem) (by exact rfl) (by first | assumption | (rw [sizeLine_eq]; exact Nat.le_of_ble_eq_true rfl)) ?_ (by with_unfolding_all rfl)) | (refine' item_tupK 2 (by exact rfl) (by k_asm) (by k_mem) (by exact rfl) (by first | assumption | (rw [sizeLine_eq]; exact Nat.le_of_ble_eq_true rfl)) ?_ (by with_unfolding_all rfl)) | (refine' item_tupK 3 (by exact rfl) (by k_asm) (by k_mem) (by exact rfl) (by first | assumption | (rw [sizeLine_eq]; exact Nat.le_of_ble_eq_true rfl)) ?_ (by with_unfolding_all rfl)) | (refine' item_tupK 4 (by exact rfl) (by k_asm) (by k_mem) (by exact rfl) (by first | assumption | (rw [sizeLine_eq]; exact Nat.le_of_ble_eq_true rfl)) ?_ (by with_unfolding_all rfl))))) | ((k_here; (with_reducible show wpAny _ _ (subscriptTail _ _ (Value.ref _) (Value.ref _)) _ _ _); k_dflt (refine' slice1 (by k_asm) (by k_asm) (by k_mem) (by exact Nat.le_of_ble_eq_true rfl) (by (rw [sizeLine_eq]; exact Nat.le_of_ble_eq_true rfl)) ?_ (by with_unfolding_all rfl) (by (intro _; with_unfolding_all rfl))); intro _ _ _ N1Q l1Q; (try dsimp only [List.drop] at N1Q); (revert N1Q l1Q; intro _ _))) | fail "no word"); k_steps))
        all_goals (try (((repeat (first | refine veil (by assumption) ?_ | refine turn_ret ?_ | refine turn_brk ?_ | refine wturn_ret ?_ | refine wturn_brk ?_)); (try dsimp only))))
        refine stop_out ?_
        refine for_list (vs := vs2) (nn := nl2) rfl (by assumption) (DmK (tl2 ++ (I, oI) :: (tl ++ news)) (x2.masks b) p y2 b t v) ?_ ?_ ?_ ?_ PassesOwn.never
        · rintro i m nx ⟨rfl⟩; exact ml2
        · exact ⟨_, by assumption, rfl, fun _ _ h => absurd h (Nat.not_lt_zero _), rfl, rfl, rfl⟩
        · rintro i2 v2 m₂ nx h tk I2 oI2 hv2 hJ90 off2 F N TQ hTQ
          refine hideG fun PP hPP => ?_
          obtain ⟨rfl, hj2, f1, f2, f3⟩ := hJ90
          refine hPP ?_
          clear hPP PP
          have EF : AllB m₂ [(Str.ofString "other", .ref y2), (Str.ofString "bits", .int b t), (Str.ofString "row", v)] := ⟨f1, f2, f3, trivial⟩
          replace F := renL _ F EF
          refine hideG fun PP hPP => ?_
          obtain ⟨q, hq, Dq⟩ := dat_map D3 hv2
          refine hPP ?_
          clear hPP PP
          (k_steps <;> repeat' ((first | with_reducible refine stop_out ?_ | with_reducible show wpAny _ _ _ _ _ _); (first | ((k_here; (with_reducible show wpAny _ _ (subscriptTail _ _ (Value.ref _) (Value.int _ _)) _ _ _); k_dflt (first | (refine' item_tupK 0 (by exact rfl) (by k_asm) (by k_mem) (by exact rfl) (by first | assumption | (rw [sizeLine_eq]; exact Nat.le_of_ble_eq_true rfl)) ?_ (by with_unfolding_all rfl)) | (refine' item_listK 0 (by exact rfl) (by k_asm) (by k_mem) (by exact rfl) (by first | assumption | (rw [sizeLine_eq]; exact Nat.le_of_ble_eq_true rfl)) ?_ (by with_unfolding_all rfl)) | (refine' item_tupK 1 (by exact rfl) (by k_asm) (by k_mem) (by exact rfl) (by first | assumption | (rw [sizeLine_eq]; exact Nat.le_of_ble_eq_true rfl)) ?_ (by with_unfolding_all rfl)) | (refine' item_listK 1 (by exact rfl) (by k_asm) (by k_mem) (by exact rfl) (by first | assumption | (rw [sizeLine_eq]; exact Nat.le_of_ble_eq_true rfl)) ?_ (by with_unfolding_all rfl)) | (refine' item_tupK 2 (by exact rfl) (by k_asm) (by k_mem) (by exact rfl) (by first | assumption | (rw [sizeLine_eq]; exact Nat.le_of_ble_eq_true rfl)) ?_ (by with_unfolding_all rfl)) | (refine' item_tupK 3 (by exact rfl) (by k_asm) (by k_mem) (by exact rfl) (by first | assumption | (rw [sizeLine_eq]; exact Nat.le_of_ble_eq_true rfl)) ?_ (by with_unfolding_all rfl)) | (refine' item_tupK 4 (by exact rfl) (by k_asm) (by k_mem) (by exact rfl) (by first | assumption | (rw [sizeLine_eq]; exact Nat.le_of_ble_eq_true rfl)) ?_ (by with_unfolding_all rfl))))) | ((k_here; (with_reducible show wpAny _ _ (subscriptTail _ _ (Value.ref _) (Value.ref _)) _ _ _); k_dflt (refine' slice1 (by k_asm) (by k_asm) (by k_mem) (by exact Nat.le_of_ble_eq_true rfl) (by (rw [sizeLine_eq]; exact Nat.le_of_ble_eq_true rfl)) ?_ (by with_unfolding_all rfl) (by (intro _; with_unfolding_all rfl))); intro _ _ _ N1Q l1Q; (try dsimp only [List.drop] at N1Q); (revert N1Q l1Q; intro _ _))) | fail "no word"); k_steps))
          all_goals (try (((repeat (first | refine veil (by assumption) ?_ | refine turn_ret ?_ | refine turn_brk ?_ | refine wturn_ret ?_ | refine wturn_brk ?_)); (try dsimp only))))
          refine use (s_do_masks_meet (Dp.mono fun p hp => .tail _ (List.mem_append_right _ (.tail _ hp))) (Dq.mono fun p hp => .tail _ hp)) (by assumption) (by assumption) (by assumption) (by decide) ?_
          rintro r nx' h' tk' F2 N2 ⟨rfl, rfl⟩
          (k_steps <;> repeat' ((first | with_reducible refine stop_out ?_ | with_reducible show wpAny _ _ _ _ _ _); (first | ((k_here; (with_reducible show wpAny _ _ (subscriptTail _ _ (Value.ref _) (Value.int _ _)) _ _ _); k_dflt (first | (refine' item_tupK 0 (by exact rfl) (by k_asm) (by k_mem) (by exact rfl) (by first | assumption | (rw [sizeLine_eq]; exact Nat.le_of_ble_eq_true rfl)) ?_ (by with_unfolding_all rfl)) | (refine' item_listK 0 (by exact rfl) (by k_asm) (by k_mem) (by exact rfl) (by first | assumption | (rw [sizeLine_eq]; exact Nat.le_of_ble_eq_true rfl)) ?_ (by with_unfolding_all rfl)) | (refine' item_tupK 1 (by exact rfl) (by k_asm) (by k_mem) (by exact rfl) (by first | assumption | (rw [sizeLine_eq]; exact Nat.le_of_ble_eq_true rfl)) ?_ (by with_unfolding_all rfl)) | (refine' item_listK 1 (by exact rfl) (by k_asm) (by k_mem) (by exact rfl) (by first | assumption | (rw [sizeLine_eq]; exact Nat.le_of_ble_eq_true rfl)) ?_ (by with_unfolding_all rfl)) | (refine' item_tupK 2 (by exact rfl) (by k_asm) (by k_mem) (by exact rfl) (by first | assumption | (rw [sizeLine_eq]; exact Nat.le_of_ble_eq_true rfl)) ?_ (by with_unfolding_all rfl)) | (refine' item_tupK 3 (by exact rfl) (by k_asm) (by k_mem) (by exact rfl) (by first | assumption | (rw [sizeLine_eq]; exact Nat.le_of_ble_eq_true rfl)) ?_ (by with_unfolding_all rfl)) | (refine' item_tupK 4 (by exact rfl) (by k_asm) (by k_mem) (by exact rfl) (by first | assumption | (rw [sizeLine_eq]; exact Nat.le_of_ble_eq_true rfl)) ?_ (by with_unfolding_all rfl))))) | ((k_here; (with_reducible show wpAny _ _ (subscriptTail _ _ (Value.ref _) (Value.ref _)) _ _ _); k_dflt (refine' slice1 (by k_asm) (by k_asm) (by k_mem) (by exact Nat.le_of_ble_eq_true rfl) (by (rw [sizeLine_eq]; exact Nat.le_of_ble_eq_true rfl)) ?_ (by with_unfolding_all rfl) (by (intro _; with_unfolding_all rfl))); intro _ _ _ N1Q l1Q; (try dsimp only [List.drop] at N1Q); (revert N1Q l1Q; intro _ _))) | fail "no word"); k_steps))
          all_goals (try (((repeat (first | refine veil (by assumption) ?_ | refine turn_ret ?_ | refine turn_brk ?_ | refine wturn_ret ?_ | refine wturn_brk ?_)); (try dsimp only))))
          · (try (((repeat (first | refine veil (by assumption) ?_ | refine turn_ret ?_ | refine turn_brk ?_ | refine wturn_ret ?_ | refine wturn_brk ?_)); (try dsimp only))))
            refine ⟨_, _, news, _, rfl, by assumption, nsub (by assumption) (fun p hp => .tail _ (List.mem_append_right _ (.tail _ (List.mem_append_right _ hp)))), rfl, ?_⟩
            have : ((x1.masks b).any fun p => (x2.masks b).any fun q => metMask p q) = true :=
              List.any_eq_true.mpr ⟨p, List.mem_of_getElem? hp, List.any_eq_true.mpr ⟨q, List.mem_of_getElem? hq, by assumption⟩⟩
            rw [hm, this]
          · refine turn_next (tl2 ++ (I, oI) :: (tl ++ news)) (by assumption) (by assumption) (.head _) (fun p hp => .tail _ hp) off2 ⟨rfl, ?_, rfl, rfl, rfl⟩
            intro j p' hj' hp'
            rcases Nat.lt_succ_iff_lt_or_eq.mp hj' with h9 | rfl
            · exact hj2 j p' h9 hp'
            · rw [hq] at hp'; cases hp'; (first | assumption | exact Bool.eq_false_iff.mpr (by assumption))
        · rintro m₂ nx h tk hJ90 F N
          refine hideG fun PP hPP => ?_
          obtain ⟨rfl, hj2, f1, f2, f3⟩ := hJ90
          refine hPP ?_
          clear hPP PP
          (k_steps <;> repeat' ((first | with_reducible refine stop_out ?_ | with_reducible show wpAny _ _ _ _ _ _); (first | ((k_here; (with_reducible show wpAny _ _ (subscriptTail _ _ (Value.ref _) (Value.int _ _)) _ _ _); k_dflt (first | (refine' item_tupK 0 (by exact rfl) (by k_asm) (by k_mem) (by exact rfl) (by first | assumption | (rw [sizeLine_eq]; exact Nat.le_of_ble_eq_true rfl)) ?_ (by with_unfolding_all rfl)) | (refine' item_listK 0 (by exact rfl) (by k_asm) (by k_mem) (by exact rfl) (by first | assumption | (rw [sizeLine_eq]; exact Nat.le_of_ble_eq_true rfl)) ?_ (by with_unfolding_all rfl)) | (refine' item_tupK 1 (by exact rfl) (by k_asm) (by k_mem) (by exact rfl) (by first | assumption | (rw [sizeLine_eq]; exact Nat.le_of_ble_eq_true rfl)) ?_ (by with_unfolding_all rfl)) | (refine' item_listK 1 (by exact rfl) (by k_asm) (by k_mem) (by exact rfl) (by first | assumption | (rw [sizeLine_eq]; exact Nat.le_of_ble_eq_true rfl)) ?_ (by with_unfolding_all rfl)) | (refine' item_tupK 2 (by exact rfl) (by k_asm) (by k_mem) (by exact rfl) (by first | assumption | (rw [sizeLine_eq]; exact Nat.le_of_ble_eq_true rfl)) ?_ (by with_unfolding_all rfl)) | (refine' item_tupK 3 (by exact rfl) (by k_asm) (by k_mem) (by exact rfl) (by first | assumption | (rw [sizeLine_eq]; exact Nat.le_of_ble_eq_true rfl)) ?_ (by with_unfolding_all rfl)) | (refine' item_tupK 4 (by exact rfl) (by k_asm) (by k_mem) (by exact rfl) (by first | assumption | (rw [sizeLine_eq]; exact Nat.le_of_ble_eq_true rfl)) ?_ (by with_unfolding_all rfl))))) | ((k_here; (with_reducible show wpAny _ _ (subscriptTail _ _ (Value.ref _) (Value.ref _)) _ _ _); k_dflt (refine' slice1 (by k_asm) (by k_asm) (by k_mem) (by exact Nat.le_of_ble_eq_true rfl) (by (rw [sizeLine_eq]; exact Nat.le_of_ble_eq_true rfl)) ?_ (by with_unfolding_all rfl) (by (intro _; with_unfolding_all rfl))); intro _ _ _ N1Q l1Q; (try dsimp only [List.drop] at N1Q); (revert N1Q l1Q; intro _ _))) | fail "no word"); k_steps))
          all_goals (try (((repeat (first | refine veil (by assumption) ?_ | refine turn_ret ?_ | refine turn_brk ?_ | refine wturn_ret ?_ | refine wturn_brk ?_)); (try dsimp only))))
          refine turn_next (tl ++ news) (by assumption) (by assumption) (List.mem_append_right _ (.head _)) (fun p hp => List.mem_append_right _ (.tail _ hp)) off ⟨rfl, ?_, f1, f2⟩
          intro j p' hj' hp'
          rcases Nat.lt_succ_iff_lt_or_eq.mp hj' with h9 | rfl
          · exact hj j p' h9 hp'
          · rw [hp] at hp'; cases hp'
            rw [List.any_eq_false]
            intro q hq
            refine hideG fun PP hPP => ?_
            obtain ⟨j, hj', e⟩ := List.getElem_of_mem hq
            refine hPP ?_
            clear hPP PP
            have := D3.length
            rw [List.length_map] at this
            exact Bool.eq_false_iff.mp (hj2 j q (by omega) (by rw [List.getElem?_eq_getElem hj', e]))
      · rintro m₁ nx h tk hJ90 F N
        refine hideG fun PP hPP => ?_
        obtain ⟨rfl, hj, e1, e2⟩ := hJ90
        refine hPP ?_
        clear hPP PP
        (k_steps <;> repeat' ((first | with_reducible refine stop_out ?_ | with_reducible show wpAny _ _ _ _ _ _); (first | ((k_here; (with_reducible show wpAny _ _ (subscriptTail _ _ (Value.ref _) (Value.int _ _)) _ _ _); k_dflt (first | (refine' item_tupK 0 (by exact rfl) (by k_asm) (by k_mem) (by exact rfl) (by first | assumption | (rw [sizeLine_eq]; exact Nat.le_of_ble_eq_true rfl)) ?_ (by with_unfolding_all rfl)) | (refine' item_listK 0 (by exact rfl) (by k_asm) (by k_mem) (by exact rfl) (by first | assumption | (rw [sizeLine_eq]; exact Nat.le_of_ble_eq_true rfl)) ?_ (by with_unfolding_all rfl)) | (refine' item_tupK 1 (by exact rfl) (by k_asm) (by k_mem) (by exact rfl) (by first | assumption | (rw [sizeLine_eq]; exact Nat.le_of_ble_eq_true rfl)) ?_ (by with_unfolding_all rfl)) | (refine' item_listK 1 (by exact rfl) (by k_asm) (by k_mem) (by exact rfl) (by first | assumption | (rw [sizeLine_eq]; exact Nat.le_of_ble_eq_true rfl)) ?_ (by with_unfolding_all rfl)) | (refine' item_tupK 2 (by exact rfl) (by k_asm) (by k_mem) (by exact rfl) (by first | assumption | (rw [sizeLine_eq]; exact Nat.le_of_ble_eq_true rfl)) ?_ (by with_unfolding_all rfl)) | (refine' item_tupK 3 (by exact rfl) (by k_asm) (by k_mem) (by exact rfl) (by first | assumption | (rw [sizeLine_eq]; exact Nat.le_of_ble_eq_true rfl)) ?_ (by with_unfolding_all rfl)) | (refine' item_tupK 4 (by exact rfl) (by k_asm) (by k_mem) (by exact rfl) (by first | assumption | (rw [sizeLine_eq]; exact Nat.le_of_ble_eq_true rfl)) ?_ (by with_unfolding_all rfl))))) | ((k_here; (with_reducible show wpAny _ _ (subscriptTail _ _ (Value.ref _) (Value.ref _)) _ _ _); k_dflt (refine' slice1 (by k_asm) (by k_asm) (by k_mem) (by exact Nat.le_of_ble_eq_true rfl) (by (rw [sizeLine_eq]; exact Nat.le_of_ble_eq_true rfl)) ?_ (by with_unfolding_all rfl) (by (intro _; with_unfolding_all rfl))); intro _ _ _ N1Q l1Q; (try dsimp only [List.drop] at N1Q); (revert N1Q l1Q; intro _ _))) | fail "no word"); k_steps))
        all_goals (try (((repeat (first | refine veil (by assumption) ?_ | refine turn_ret ?_ | refine turn_brk ?_ | refine wturn_ret ?_ | refine wturn_brk ?_)); (try dsimp only))))
        (try (((repeat (first | refine veil (by assumption) ?_ | refine turn_ret ?_ | refine turn_brk ?_ | refine wturn_ret ?_ | refine wturn_brk ?_)); (try dsimp only))))
        refine ⟨_, _, news, _, rfl, F, nsub N (fun p hp => List.mem_append_right _ hp), rfl, ?_⟩
        have : ((x1.masks b).any fun p => (x2.masks b).any fun q => metMask p q) = false := by
          rw [List.any_eq_false]
          intro p hp
          refine hideG fun PP hPP => ?_
          obtain ⟨j, hj', e⟩ := List.getElem_of_mem hp
          refine hPP ?_
          clear hPP PP
          have := D2.length
          rw [List.length_map] at this
          exact Bool.eq_false_iff.mp (hj j p (by omega) (by rw [List.getElem?_eq_getElem hj', e]))
        rw [hm, this]
  cases x1 with
  | mask a c =>
    refine hideG fun PP hPP => ?_
    obtain ⟨y, n, t1, u, z, rfl, m1⟩ := datS2 h1
    refine hPP ?_
    clear hPP PP
    cases x2 with
    | mask a' c' =>
      refine hideG fun PP hPP => ?_
      obtain ⟨y', n', t1', u', z', rfl, m1'⟩ := datS2 h2
      refine hPP ?_
      clear hPP PP
      exact go m1 m1' rfl rfl (.inl ⟨rfl, rfl⟩) rfl
    | range a' c' =>
      refine hideG fun PP hPP => ?_
      obtain ⟨y', n', t1', u', z', rfl, m1'⟩ := datS2 h2
      refine hPP ?_
      clear hPP PP
      exact go m1 m1' rfl rfl (.inr (.inl ⟨rfl, rfl⟩)) rfl
  | range a c =>
    refine hideG fun PP hPP => ?_
    obtain ⟨y, n, t1, u, z, rfl, m1⟩ := datS2 h1
    refine hPP ?_
    clear hPP PP
    cases x2 with
    | mask a' c' =>
      refine hideG fun PP hPP => ?_
      obtain ⟨y', n', t1', u', z', rfl, m1'⟩ := datS2 h2
      refine hPP ?_
      clear hPP PP
      exact go m1 m1' rfl rfl (.inr (.inr ⟨rfl, rfl⟩)) rfl
    | range a' c' =>
      refine hideG fun PP hPP => ?_
      obtain ⟨y', n', t1', u', z', rfl, m1'⟩ := datS2 h2
      refine hPP ?_
      clear hPP PP
      ((refine' spec_intro (by k_is) (by k_is) (by exact rfl) (by exact rfl) (by exact rfl) (by exact rfl) (by exact rfl) (by decide) ?_; k_whole; intro dp' un' gd' fr' envc' outer' A₀' base' g' L' h' ge' dr' os' tk' A9' E9' C' hr' hA' B' X' T' F' N' T' hT'; (try dsimp only [List.map, List.zip, List.zipWith, List.reverse, List.reverseAux] at F'); (try dsimp only); (try k_fold)))
      (k_steps <;> repeat' ((first | with_reducible refine stop_out ?_ | with_reducible show wpAny _ _ _ _ _ _); (first | ((k_here; (with_reducible show wpAny _ _ (subscriptTail _ _ (Value.ref _) (Value.int _ _)) _ _ _); k_dflt (first | (refine' item_tupK 0 (by exact rfl) (by k_asm) (by k_mem) (by exact rfl) (by first | assumption | (rw [sizeLine_eq]; exact Nat.le_of_ble_eq_true rfl)) ?_ (by with_unfolding_all rfl)) | (refine' item_listK 0 (by exact rfl) (by k_asm) (by k_mem) (by exact rfl) (by first | assumption | (rw [sizeLine_eq]; exact Nat.le_of_ble_eq_true rfl)) ?_ (by with_unfolding_all rfl)) | (refine' item_tupK 1 (by exact rfl) (by k_asm) (by k_mem) (by exact rfl) (by first | assumption | (rw [sizeLine_eq]; exact Nat.le_of_ble_eq_true rfl)) ?_ (by with_unfolding_all rfl)) | (refine' item_listK 1 (by exact rfl) (by k_asm) (by k_mem) (by exact rfl) (by first | assumption | (rw [sizeLine_eq]; exact Nat.le_of_ble_eq_true rfl)) ?_ (by with_unfolding_all rfl)) | (refine' item_tupK 2 (by exact rfl) (by k_asm) (by k_mem) (by exact rfl) (by first | assumption | (rw [sizeLine_eq]; exact Nat.le_of_ble_eq_true rfl)) ?_ (by with_unfolding_all rfl)) | (refine' item_tupK 3 (by exact rfl) (by k_asm) (by k_mem) (by exact rfl) (by first | assumption | (rw [sizeLine_eq]; exact Nat.le_of_ble_eq_true rfl)) ?_ (by with_unfolding_all rfl)) | (refine' item_tupK 4 (by exact rfl) (by k_asm) (by k_mem) (by exact rfl) (by first | assumption | (rw [sizeLine_eq]; exact Nat.le_of_ble_eq_true rfl)) ?_ (by with_unfolding_all rfl))))) | ((k_here; (with_reducible show wpAny _ _ (subscriptTail _ _ (Value.ref _) (Value.ref _)) _ _ _); k_dflt (refine' slice1 (by k_asm) (by k_asm) (by k_mem) (by exact Nat.le_of_ble_eq_true rfl) (by (rw [sizeLine_eq]; exact Nat.le_of_ble_eq_true rfl)) ?_ (by with_unfolding_all rfl) (by (intro _; with_unfolding_all rfl))); intro _ _ _ N1Q l1Q; (try dsimp only [List.drop] at N1Q); (revert N1Q l1Q; intro _ _))) | fail "no word"); k_steps))
      all_goals (try (((repeat (first | refine veil (by assumption) ?_ | refine turn_ret ?_ | refine turn_brk ?_ | refine wturn_ret ?_ | refine wturn_brk ?_)); (try dsimp only))))
      all_goals (((try dsimp only); refine ⟨_, _, _, _, rfl, by assumption, by assumption, ?_⟩; (try dsimp only)))
      all_goals (refine ⟨rfl, ?_⟩; congr 1; simp only [Wish.meet]; grind)
end
section
theorem off_F5 : True := by w_top off; trivial
variable {w : World} {mean : ExcName → Option Value} {mg mb : Str → Option Value} {news : List (Addr × Obj)}
local macro_rules | `(tactic| walk_at "exec Assign cons IfExp") => `(tactic| ((fail_if_success (with_reducible show wpAny _ _ _ (fun _ _ => Hidden _) _ _)); k_here; refine stop_in ?_))
theorem s_law_take {src : Addr} {a b top : Int} {ta tb t : Tok} {n : Nat} {rest : List (Addr × Obj)} (hoff : ∀ p ∈ rest, p.1 ≠ src) (ha : 0 ≤ a) (hb : 0 ≤ b) (hb2 : b < 2147483647) (ht : 0 < top) (ht2 : top ≤ 4096) :
    Spec w mean mg mb 261 1 [.ref src, .int top t] ((src, lstO [.int a ta, .int b tb] n) :: rest) (fun news' r => ∃ a' ta' b' tb' n' td, ∃ d : Nat, news' = (src, lstO [.int a' ta', .int b' tb'] n') :: rest ∧ r = .int d td ∧ (d : Int) < top ∧ 0 ≤ a' ∧ 0 ≤ b' ∧ b' < 2147483647) := by
  have e : ∀ x : Int, ((x.fmod top).toNat : Int) = x.fmod top := fun x => Int.toNat_of_nonneg (Int.fmod_nonneg_of_pos x ht)
  ((refine' spec_intro (by k_is) (by k_is) (by exact rfl) (by exact rfl) (by exact rfl) (by exact rfl) (by exact rfl) (by decide) ?_; k_whole; intro dp' un' gd' fr' envc' outer' A₀' base' g' L' h' ge' dr' os' tk' A9' E9' C' hr' hA' B' X' T' F' N' T' hT'; (try dsimp only [List.map, List.zip, List.zipWith, List.reverse, List.reverseAux] at F'); (try dsimp only); (try k_fold)))
  (k_steps <;> repeat' ((first | with_reducible refine stop_out ?_ | with_reducible show wpAny _ _ _ _ _ _); (first | ((k_here; (with_reducible show wpAny _ _ (binaryOp _ _ _) _ _ _); k_dflt (refine' mul_int ?_ (by first | assumption | exact mulok_fmod _ | mul_fits)))) | ((k_here; (with_reducible show wpAny _ _ (call (Value.builtin "len") [Value.ref _]) _ _ _); k_dflt (refine' len_lst (by k_asm) (by k_mem) (by first | assumption | (rw [sizeLine_eq]; omega +splitDisjunctions) | (rw [sizeLine_eq]; exact Nat.le_of_ble_eq_true rfl)) ?_))) | ((k_here; (with_reducible show wpAny _ _ (subscriptTail _ _ (Value.ref _) (Value.int _ _)) _ _ _); k_dflt (first | (refine' item_list_at (by k_asm) (by k_mem) (by first | exact rfl | assumption) (by assumption) (by first | assumption | (rw [sizeLine_eq]; omega +splitDisjunctions)) ?_ (by with_unfolding_all rfl)) | (refine' item_tup_at (by k_asm) (by k_mem) (by first | exact rfl | assumption) (by assumption) (by first | assumption | (rw [sizeLine_eq]; omega +splitDisjunctions)) ?_ (by with_unfolding_all rfl)) | (refine' item_D (by k_asm) (by assumption) (by walk_at "sub") (by assumption) (by first | assumption | exact rfl) (by assumption) ?_ (by with_unfolding_all rfl) (by (intro _; with_unfolding_all rfl)); intro _ _)))) | ((k_here; (with_reducible show wpAny _ _ (subscriptTail _ _ (Value.ref _) (Value.int _ _)) _ _ _); k_dflt (first | (refine' item_tupK 0 (by exact rfl) (by k_asm) (by k_mem) (by exact rfl) (by first | assumption | (rw [sizeLine_eq]; exact Nat.le_of_ble_eq_true rfl)) ?_ (by with_unfolding_all rfl)) | (refine' item_listK 0 (by exact rfl) (by k_asm) (by k_mem) (by exact rfl) (by first | assumption | (rw [sizeLine_eq]; exact Nat.le_of_ble_eq_true rfl)) ?_ (by with_unfolding_all rfl)) | (refine' item_tupK 1 (by exact rfl) (by k_asm) (by k_mem) (by exact rfl) (by first | assumption | (rw [sizeLine_eq]; exact Nat.le_of_ble_eq_true rfl)) ?_ (by with_unfolding_all rfl)) | (refine' item_listK 1 (by exact rfl) (by k_asm) (by k_mem) (by exact rfl) (by first | assumption | (rw [sizeLine_eq]; exact Nat.le_of_ble_eq_true rfl)) ?_ (by with_unfolding_all rfl)) | (refine' item_tupK 2 (by exact rfl) (by k_asm) (by k_mem) (by exact rfl) (by first | assumption | (rw [sizeLine_eq]; exact Nat.le_of_ble_eq_true rfl)) ?_ (by with_unfolding_all rfl)) | (refine' item_tupK 3 (by exact rfl) (by k_asm) (by k_mem) (by exact rfl) (by first | assumption | (rw [sizeLine_eq]; exact Nat.le_of_ble_eq_true rfl)) ?_ (by with_unfolding_all rfl)) | (refine' item_tupK 4 (by exact rfl) (by k_asm) (by k_mem) (by exact rfl) (by first | assumption | (rw [sizeLine_eq]; exact Nat.le_of_ble_eq_true rfl)) ?_ (by with_unfolding_all rfl))))) | fail "no word"); k_steps))
  all_goals (try (((repeat (first | refine veil (by assumption) ?_ | refine turn_ret ?_ | refine turn_brk ?_ | refine wturn_ret ?_ | refine wturn_brk ?_)); (try dsimp only))))
  · (((try dsimp only); refine ⟨_, _, _, _, rfl, by assumption, by assumption, ?_⟩; (try dsimp only)))
    (try (((repeat (first | refine veil (by assumption) ?_ | refine turn_ret ?_ | refine turn_brk ?_ | refine wturn_ret ?_ | refine wturn_brk ?_)); (try dsimp only))))
    exact ⟨_, _, _, _, _, _, (a.fmod top).toNat, rfl, by rw [e], by rw [e]; exact Int.fmod_lt_of_pos _ ht, by rw [Int.fdiv_eq_ediv_of_nonneg _ (by omega +splitDisjunctions)]; exact Int.ediv_nonneg ha (by omega +splitDisjunctions), hb, hb2⟩
  · (((try dsimp only); refine ⟨_, _, _, _, rfl, by assumption, by assumption, ?_⟩; (try dsimp only)))
    (try (((repeat (first | refine veil (by assumption) ?_ | refine turn_ret ?_ | refine turn_brk ?_ | refine wturn_ret ?_ | refine wturn_brk ?_)); (try dsimp only))))
    exact ⟨_, _, _, _, _, _, Int.toNat (Int.fmod _ top), rfl, by rw [e], by rw [e]; exact Int.fmod_lt_of_pos _ ht, ha, Int.fmod_nonneg_of_pos _ (by decide), Int.fmod_lt_of_pos _ (by decide)⟩

def Src (o : Obj) : Prop := ∃ a ta b tb n, o = lstO [.int a ta, .int b tb] n ∧ 0 ≤ a ∧ 0 ≤ b ∧ b < 2147483647
theorem s_take {src : Addr} {o : Obj} {top : Int} {t : Tok} {rest : List (Addr × Obj)} (hoff : ∀ p ∈ rest, p.1 ≠ src) (ho : Src o) (ht : 0 < top) (ht2 : top ≤ 4096) :
    Spec w mean mg mb 261 1 [.ref src, .int top t] ((src, o) :: rest) (fun news' r => ∃ o' td, ∃ d : Nat, news' = (src, o') :: rest ∧ Src o' ∧ r = .int d td ∧ (d : Int) < top) := by
  refine hideG fun PP hPP => ?_
  obtain ⟨a, ta, b, tb, n, rfl, h1, h2, h3⟩ := ho
  refine hPP ?_
  clear hPP PP
  intro A env outer A₀ base h₀ L m s R hr hA hf hke B F X N T ret
  refine s_law_take hoff h1 h2 h3 ht ht2 A env outer A₀ base h₀ L m s R hr hA hf hke B F X N T ?_
  rintro r news' h' tk' F' N' K' hJ90
  refine hideG fun PP hPP => ?_
  obtain ⟨a', ta', b', tb', n', td, d, rfl, rfl, hd, q1, q2, q3⟩ := hJ90
  refine hPP ?_
  clear hPP PP
  exact ret _ _ _ _ F' N' K' ⟨_, _, _, rfl, ⟨a', ta', b', tb', n', rfl, q1, q2, q3⟩, rfl, hd⟩

theorem s_law_one {src th : Addr} {o : Obj} {vs : List Value} {nn : Nat} {rest : List (Addr × Obj)} (hoff : ∀ p ∈ rest, p.1 ≠ src) (ho : Src o) (hth : (th, lstO vs nn) ∈ rest) (hl : 0 < vs.length) (hl2 : vs.length ≤ 4096) (hz : vs.length ≤ sizeLine) :
    Spec w mean mg mb 268 2 [.ref src, .ref th] ((src, o) :: rest) (fun news' r => ∃ o', news' = (src, o') :: rest ∧ Src o' ∧ ∃ j : Nat, vs[j]? = some r) := by
  ((refine' spec_intro (by k_is) (by k_is) (by exact rfl) (by exact rfl) (by exact rfl) (by exact rfl) (by exact rfl) (by decide) ?_; k_whole; intro dp' un' gd' fr' envc' outer' A₀' base' g' L' h' ge' dr' os' tk' A9' E9' C' hr' hA' B' X' T' F' N' T' hT'; (try dsimp only [List.map, List.zip, List.zipWith, List.reverse, List.reverseAux] at F'); (try dsimp only); (try k_fold)))
  (k_steps <;> repeat' ((first | with_reducible refine stop_out ?_ | with_reducible show wpAny _ _ _ _ _ _); (first | ((k_here; (with_reducible show wpAny _ _ (binaryOp _ _ _) _ _ _); k_dflt (refine' mul_int ?_ (by first | assumption | exact mulok_fmod _ | mul_fits)))) | ((k_here; (with_reducible show wpAny _ _ (call (Value.builtin "len") [Value.ref _]) _ _ _); k_dflt (refine' len_lst (by k_asm) (by k_mem) (by first | assumption | (rw [sizeLine_eq]; omega +splitDisjunctions) | (rw [sizeLine_eq]; exact Nat.le_of_ble_eq_true rfl)) ?_))) | ((k_here; (with_reducible show wpAny _ _ (subscriptTail _ _ (Value.ref _) (Value.int _ _)) _ _ _); k_dflt (first | (refine' item_list_at (by k_asm) (by k_mem) (by first | exact rfl | assumption) (by assumption) (by first | assumption | (rw [sizeLine_eq]; omega +splitDisjunctions)) ?_ (by with_unfolding_all rfl)) | (refine' item_tup_at (by k_asm) (by k_mem) (by first | exact rfl | assumption) (by assumption) (by first | assumption | (rw [sizeLine_eq]; omega +splitDisjunctions)) ?_ (by with_unfolding_all rfl)) | (refine' item_D (by k_asm) (by assumption) (by walk_at "sub") (by assumption) (by first | assumption | exact rfl) (by assumption) ?_ (by with_unfolding_all rfl) (by (intro _; with_unfolding_all rfl)); intro _ _)))) | ((k_here; (with_reducible show wpAny _ _ (subscriptTail _ _ (Value.ref _) (Value.int _ _)) _ _ _); k_dflt (first | (refine' item_tupK 0 (by exact rfl) (by k_asm) (by k_mem) (by exact rfl) (by first | assumption | (rw [sizeLine_eq]; exact Nat.le_of_ble_eq_true rfl)) ?_ (by with_unfolding_all rfl)) | (refine' item_listK 0 (by exact rfl) (by k_asm) (by k_mem) (by exact rfl) (by first | assumption | (rw [sizeLine_eq]; exact Nat.le_of_ble_eq_true rfl)) ?_ (by with_unfolding_all rfl)) | (refine' item_tupK 1 (by exact rfl) (by k_asm) (by k_mem) (by exact rfl) (by first | assumption | (rw [sizeLine_eq]; exact Nat.le_of_ble_eq_true rfl)) ?_ (by with_unfolding_all rfl)) | (refine' item_listK 1 (by exact rfl) (by k_asm) (by k_mem) (by exact rfl) (by first | assumption | (rw [sizeLine_eq]; exact Nat.le_of_ble_eq_true rfl)) ?_ (by with_unfolding_all rfl)) | (refine' item_tupK 2 (by exact rfl) (by k_asm) (by k_mem) (by exact rfl) (by first | assumption | (rw [sizeLine_eq]; exact Nat.le_of_ble_eq_true rfl)) ?_ (by with_unfolding_all rfl)) | (refine' item_tupK 3 (by exact rfl) (by k_asm) (by k_mem) (by exact rfl) (by first | assumption | (rw [sizeLine_eq]; exact Nat.le_of_ble_eq_true rfl)) ?_ (by with_unfolding_all rfl)) | (refine' item_tupK 4 (by exact rfl) (by k_asm) (by k_mem) (by exact rfl) (by first | assumption | (rw [sizeLine_eq]; exact Nat.le_of_ble_eq_true rfl)) ?_ (by with_unfolding_all rfl))))) | fail "no word"); k_steps))
  all_goals (try (((repeat (first | refine veil (by assumption) ?_ | refine turn_ret ?_ | refine turn_brk ?_ | refine wturn_ret ?_ | refine wturn_brk ?_)); (try dsimp only))))
  refine use (s_take hoff ho (by omega +splitDisjunctions) (by omega +splitDisjunctions)) (by assumption) (by assumption) (by assumption) (by decide) ?_
  rintro r nx h' tk' F1 N1 hJ90
  refine hideG fun PP hPP => ?_
  obtain ⟨o', td, d, rfl, ho', rfl, hd⟩ := hJ90
  refine hPP ?_
  clear hPP PP
  have hx : vs[d]? = some (vs[d]'(by omega +splitDisjunctions)) := List.getElem?_eq_getElem _
  (k_steps <;> repeat' ((first | with_reducible refine stop_out ?_ | with_reducible show wpAny _ _ _ _ _ _); (first | ((k_here; (with_reducible show wpAny _ _ (binaryOp _ _ _) _ _ _); k_dflt (refine' mul_int ?_ (by first | assumption | exact mulok_fmod _ | mul_fits)))) | ((k_here; (with_reducible show wpAny _ _ (call (Value.builtin "len") [Value.ref _]) _ _ _); k_dflt (refine' len_lst (by k_asm) (by k_mem) (by first | assumption | (rw [sizeLine_eq]; omega +splitDisjunctions) | (rw [sizeLine_eq]; exact Nat.le_of_ble_eq_true rfl)) ?_))) | ((k_here; (with_reducible show wpAny _ _ (subscriptTail _ _ (Value.ref _) (Value.int _ _)) _ _ _); k_dflt (first | (refine' item_list_at (by k_asm) (by k_mem) (by first | exact rfl | assumption) (by assumption) (by first | assumption | (rw [sizeLine_eq]; omega +splitDisjunctions)) ?_ (by with_unfolding_all rfl)) | (refine' item_tup_at (by k_asm) (by k_mem) (by first | exact rfl | assumption) (by assumption) (by first | assumption | (rw [sizeLine_eq]; omega +splitDisjunctions)) ?_ (by with_unfolding_all rfl)) | (refine' item_D (by k_asm) (by assumption) (by walk_at "sub") (by assumption) (by first | assumption | exact rfl) (by assumption) ?_ (by with_unfolding_all rfl) (by (intro _; with_unfolding_all rfl)); intro _ _)))) | ((k_here; (with_reducible show wpAny _ _ (subscriptTail _ _ (Value.ref _) (Value.int _ _)) _ _ _); k_dflt (first | (refine' item_tupK 0 (by exact rfl) (by k_asm) (by k_mem) (by exact rfl) (by first | assumption | (rw [sizeLine_eq]; exact Nat.le_of_ble_eq_true rfl)) ?_ (by with_unfolding_all rfl)) | (refine' item_listK 0 (by exact rfl) (by k_asm) (by k_mem) (by exact rfl) (by first | assumption | (rw [sizeLine_eq]; exact Nat.le_of_ble_eq_true rfl)) ?_ (by with_unfolding_all rfl)) | (refine' item_tupK 1 (by exact rfl) (by k_asm) (by k_mem) (by exact rfl) (by first | assumption | (rw [sizeLine_eq]; exact Nat.le_of_ble_eq_true rfl)) ?_ (by with_unfolding_all rfl)) | (refine' item_listK 1 (by exact rfl) (by k_asm) (by k_mem) (by exact rfl) (by first | assumption | (rw [sizeLine_eq]; exact Nat.le_of_ble_eq_true rfl)) ?_ (by with_unfolding_all rfl)) | (refine' item_tupK 2 (by exact rfl) (by k_asm) (by k_mem) (by exact rfl) (by first | assumption | (rw [sizeLine_eq]; exact Nat.le_of_ble_eq_true rfl)) ?_ (by with_unfolding_all rfl)) | (refine' item_tupK 3 (by exact rfl) (by k_asm) (by k_mem) (by exact rfl) (by first | assumption | (rw [sizeLine_eq]; exact Nat.le_of_ble_eq_true rfl)) ?_ (by with_unfolding_all rfl)) | (refine' item_tupK 4 (by exact rfl) (by k_asm) (by k_mem) (by exact rfl) (by first | assumption | (rw [sizeLine_eq]; exact Nat.le_of_ble_eq_true rfl)) ?_ (by with_unfolding_all rfl))))) | fail "no word"); k_steps))
  all_goals (try (((repeat (first | refine veil (by assumption) ?_ | refine turn_ret ?_ | refine turn_brk ?_ | refine wturn_ret ?_ | refine wturn_brk ?_)); (try dsimp only))))
  (((try dsimp only); refine ⟨_, _, _, _, rfl, by assumption, by assumption, ?_⟩; (try dsimp only)))
  exact ⟨_, rfl, ho', d, hx⟩

def bitsOf (p : Nat) : Nat := if p = 3 then 12 else if p = 4 then 3 else 8
theorem s_law_bits {p : Nat} {t : Tok} (hp : p = 3 ∨ p = 4 ∨ p = 7) :
    Spec w mean mg mb 275 1 [.int p t] news (fun news' r => news' = news ∧ ∃ t, r = .int (bitsOf p) t) := by
  rcases hp with rfl | rfl | rfl
  all_goals (
  ((refine' spec_intro (by k_is) (by k_is) (by exact rfl) (by exact rfl) (by exact rfl) (by exact rfl) (by exact rfl) (by decide) ?_; k_whole; intro dp' un' gd' fr' envc' outer' A₀' base' g' L' h' ge' dr' os' tk' A9' E9' C' hr' hA' B' X' T' F' N' T' hT'; (try dsimp only [List.map, List.zip, List.zipWith, List.reverse, List.reverseAux] at F'); (try dsimp only); (try k_fold)))
  (k_steps <;> repeat' ((first | with_reducible refine stop_out ?_ | with_reducible show wpAny _ _ _ _ _ _); (first | ((k_here; (with_reducible show wpAny _ _ (binaryOp _ _ _) _ _ _); k_dflt (refine' mul_int ?_ (by first | assumption | exact mulok_fmod _ | mul_fits)))) | ((k_here; (with_reducible show wpAny _ _ (call (Value.builtin "len") [Value.ref _]) _ _ _); k_dflt (refine' len_lst (by k_asm) (by k_mem) (by first | assumption | (rw [sizeLine_eq]; omega +splitDisjunctions) | (rw [sizeLine_eq]; exact Nat.le_of_ble_eq_true rfl)) ?_))) | ((k_here; (with_reducible show wpAny _ _ (subscriptTail _ _ (Value.ref _) (Value.int _ _)) _ _ _); k_dflt (first | (refine' item_list_at (by k_asm) (by k_mem) (by first | exact rfl | assumption) (by assumption) (by first | assumption | (rw [sizeLine_eq]; omega +splitDisjunctions)) ?_ (by with_unfolding_all rfl)) | (refine' item_tup_at (by k_asm) (by k_mem) (by first | exact rfl | assumption) (by assumption) (by first | assumption | (rw [sizeLine_eq]; omega +splitDisjunctions)) ?_ (by with_unfolding_all rfl)) | (refine' item_D (by k_asm) (by assumption) (by walk_at "sub") (by assumption) (by first | assumption | exact rfl) (by assumption) ?_ (by with_unfolding_all rfl) (by (intro _; with_unfolding_all rfl)); intro _ _)))) | ((k_here; (with_reducible show wpAny _ _ (subscriptTail _ _ (Value.ref _) (Value.int _ _)) _ _ _); k_dflt (first | (refine' item_tupK 0 (by exact rfl) (by k_asm) (by k_mem) (by exact rfl) (by first | assumption | (rw [sizeLine_eq]; exact Nat.le_of_ble_eq_true rfl)) ?_ (by with_unfolding_all rfl)) | (refine' item_listK 0 (by exact rfl) (by k_asm) (by k_mem) (by exact rfl) (by first | assumption | (rw [sizeLine_eq]; exact Nat.le_of_ble_eq_true rfl)) ?_ (by with_unfolding_all rfl)) | (refine' item_tupK 1 (by exact rfl) (by k_asm) (by k_mem) (by exact rfl) (by first | assumption | (rw [sizeLine_eq]; exact Nat.le_of_ble_eq_true rfl)) ?_ (by with_unfolding_all rfl)) | (refine' item_listK 1 (by exact rfl) (by k_asm) (by k_mem) (by exact rfl) (by first | assumption | (rw [sizeLine_eq]; exact Nat.le_of_ble_eq_true rfl)) ?_ (by with_unfolding_all rfl)) | (refine' item_tupK 2 (by exact rfl) (by k_asm) (by k_mem) (by exact rfl) (by first | assumption | (rw [sizeLine_eq]; exact Nat.le_of_ble_eq_true rfl)) ?_ (by with_unfolding_all rfl)) | (refine' item_tupK 3 (by exact rfl) (by k_asm) (by k_mem) (by exact rfl) (by first | assumption | (rw [sizeLine_eq]; exact Nat.le_of_ble_eq_true rfl)) ?_ (by with_unfolding_all rfl)) | (refine' item_tupK 4 (by exact rfl) (by k_asm) (by k_mem) (by exact rfl) (by first | assumption | (rw [sizeLine_eq]; exact Nat.le_of_ble_eq_true rfl)) ?_ (by with_unfolding_all rfl))))) | fail "no word"); k_steps))
  all_goals (try (((repeat (first | refine veil (by assumption) ?_ | refine turn_ret ?_ | refine turn_brk ?_ | refine wturn_ret ?_ | refine wturn_brk ?_)); (try dsimp only))))
  (try (((repeat (first | refine veil (by assumption) ?_ | refine turn_ret ?_ | refine turn_brk ?_ | refine wturn_ret ?_ | refine wturn_brk ?_)); (try dsimp only))))
  exact ⟨_, _, news, _, rfl, by assumption, nsub (by assumption) (fun p hp => .tail _ hp), rfl, _, rfl⟩)

theorem s_law_wish {src : Addr} {o : Obj} {p : Nat} {t : Tok} {rest : List (Addr × Obj)} (hoff : ∀ p ∈ rest, p.1 ≠ src) (ho : Src o) (hp : p = 3 ∨ p = 4 ∨ p = 7) :
    Spec w mean mg mb 282 2 [.ref src, .int p t] ((src, o) :: rest) (fun news' r => ∃ o' tl x, news' = (src, o') :: (tl ++ rest) ∧ Src o' ∧ (∀ p ∈ tl ++ rest, p.1 ≠ src) ∧ DatIn (tl ++ rest) r (Wish.dat x) ∧ x.ok (bitsOf p)) := by
  have hb : bitsOf p ≤ 12 := by unfold bitsOf; split <;> (try split) <;> omega +splitDisjunctions
  have hsm : 2 ^ bitsOf p ≤ 4096 := Nat.pow_le_pow_right (by decide) hb
  have hpos : 0 < 2 ^ bitsOf p := Nat.two_pow_pos _
  have hpw : (2 : Int) ^ ((bitsOf p : Int)).toNat = ((2 ^ bitsOf p : Nat) : Int) := by simp
  ((refine' spec_intro (by k_is) (by k_is) (by exact rfl) (by exact rfl) (by exact rfl) (by exact rfl) (by exact rfl) (by decide) ?_; k_whole; intro dp' un' gd' fr' envc' outer' A₀' base' g' L' h' ge' dr' os' tk' A9' E9' C' hr' hA' B' X' T' F' N' T' hT'; (try dsimp only [List.map, List.zip, List.zipWith, List.reverse, List.reverseAux] at F'); (try dsimp only); (try k_fold)))
  (k_steps <;> repeat' ((first | with_reducible refine stop_out ?_ | with_reducible show wpAny _ _ _ _ _ _); (first | ((k_here; (with_reducible show wpAny _ _ (binaryOp _ _ _) _ _ _); k_dflt (refine' mul_int ?_ (by first | assumption | exact mulok_fmod _ | mul_fits)))) | ((k_here; (with_reducible show wpAny _ _ (call (Value.builtin "len") [Value.ref _]) _ _ _); k_dflt (refine' len_lst (by k_asm) (by k_mem) (by first | assumption | (rw [sizeLine_eq]; omega +splitDisjunctions) | (rw [sizeLine_eq]; exact Nat.le_of_ble_eq_true rfl)) ?_))) | ((k_here; (with_reducible show wpAny _ _ (subscriptTail _ _ (Value.ref _) (Value.int _ _)) _ _ _); k_dflt (first | (refine' item_list_at (by k_asm) (by k_mem) (by first | exact rfl | assumption) (by assumption) (by first | assumption | (rw [sizeLine_eq]; omega +splitDisjunctions)) ?_ (by with_unfolding_all rfl)) | (refine' item_tup_at (by k_asm) (by k_mem) (by first | exact rfl | assumption) (by assumption) (by first | assumption | (rw [sizeLine_eq]; omega +splitDisjunctions)) ?_ (by with_unfolding_all rfl)) | (refine' item_D (by k_asm) (by assumption) (by walk_at "sub") (by assumption) (by first | assumption | exact rfl) (by assumption) ?_ (by with_unfolding_all rfl) (by (intro _; with_unfolding_all rfl)); intro _ _)))) | ((k_here; (with_reducible show wpAny _ _ (subscriptTail _ _ (Value.ref _) (Value.int _ _)) _ _ _); k_dflt (first | (refine' item_tupK 0 (by exact rfl) (by k_asm) (by k_mem) (by exact rfl) (by first | assumption | (rw [sizeLine_eq]; exact Nat.le_of_ble_eq_true rfl)) ?_ (by with_unfolding_all rfl)) | (refine' item_listK 0 (by exact rfl) (by k_asm) (by k_mem) (by exact rfl) (by first | assumption | (rw [sizeLine_eq]; exact Nat.le_of_ble_eq_true rfl)) ?_ (by with_unfolding_all rfl)) | (refine' item_tupK 1 (by exact rfl) (by k_asm) (by k_mem) (by exact rfl) (by first | assumption | (rw [sizeLine_eq]; exact Nat.le_of_ble_eq_true rfl)) ?_ (by with_unfolding_all rfl)) | (refine' item_listK 1 (by exact rfl) (by k_asm) (by k_mem) (by exact rfl) (by first | assumption | (rw [sizeLine_eq]; exact Nat.le_of_ble_eq_true rfl)) ?_ (by with_unfolding_all rfl)) | (refine' item_tupK 2 (by exact rfl) (by k_asm) (by k_mem) (by exact rfl) (by first | assumption | (rw [sizeLine_eq]; exact Nat.le_of_ble_eq_true rfl)) ?_ (by with_unfolding_all rfl)) | (refine' item_tupK 3 (by exact rfl) (by k_asm) (by k_mem) (by exact rfl) (by first | assumption | (rw [sizeLine_eq]; exact Nat.le_of_ble_eq_true rfl)) ?_ (by with_unfolding_all rfl)) | (refine' item_tupK 4 (by exact rfl) (by k_asm) (by k_mem) (by exact rfl) (by first | assumption | (rw [sizeLine_eq]; exact Nat.le_of_ble_eq_true rfl)) ?_ (by with_unfolding_all rfl))))) | fail "no word"); k_steps))
  all_goals (try (((repeat (first | refine veil (by assumption) ?_ | refine turn_ret ?_ | refine turn_brk ?_ | refine wturn_ret ?_ | refine wturn_brk ?_)); (try dsimp only))))
  refine use (s_law_bits hp) (by assumption) (by assumption) (by assumption) (by decide) ?_
  rintro r nx h' tk' F1 N1 hJ90
  refine hideG fun PP hPP => ?_
  obtain ⟨rfl, tb, rfl⟩ := hJ90
  refine hPP ?_
  clear hPP PP
  (k_steps <;> repeat' ((first | with_reducible refine stop_out ?_ | with_reducible show wpAny _ _ _ _ _ _); (first | ((k_here; (with_reducible show wpAny _ _ (binaryOp _ _ _) _ _ _); k_dflt (refine' mul_int ?_ (by first | assumption | exact mulok_fmod _ | mul_fits)))) | ((k_here; (with_reducible show wpAny _ _ (call (Value.builtin "len") [Value.ref _]) _ _ _); k_dflt (refine' len_lst (by k_asm) (by k_mem) (by first | assumption | (rw [sizeLine_eq]; omega +splitDisjunctions) | (rw [sizeLine_eq]; exact Nat.le_of_ble_eq_true rfl)) ?_))) | ((k_here; (with_reducible show wpAny _ _ (subscriptTail _ _ (Value.ref _) (Value.int _ _)) _ _ _); k_dflt (first | (refine' item_list_at (by k_asm) (by k_mem) (by first | exact rfl | assumption) (by assumption) (by first | assumption | (rw [sizeLine_eq]; omega +splitDisjunctions)) ?_ (by with_unfolding_all rfl)) | (refine' item_tup_at (by k_asm) (by k_mem) (by first | exact rfl | assumption) (by assumption) (by first | assumption | (rw [sizeLine_eq]; omega +splitDisjunctions)) ?_ (by with_unfolding_all rfl)) | (refine' item_D (by k_asm) (by assumption) (by walk_at "sub") (by assumption) (by first | assumption | exact rfl) (by assumption) ?_ (by with_unfolding_all rfl) (by (intro _; with_unfolding_all rfl)); intro _ _)))) | ((k_here; (with_reducible show wpAny _ _ (subscriptTail _ _ (Value.ref _) (Value.int _ _)) _ _ _); k_dflt (first | (refine' item_tupK 0 (by exact rfl) (by k_asm) (by k_mem) (by exact rfl) (by first | assumption | (rw [sizeLine_eq]; exact Nat.le_of_ble_eq_true rfl)) ?_ (by with_unfolding_all rfl)) | (refine' item_listK 0 (by exact rfl) (by k_asm) (by k_mem) (by exact rfl) (by first | assumption | (rw [sizeLine_eq]; exact Nat.le_of_ble_eq_true rfl)) ?_ (by with_unfolding_all rfl)) | (refine' item_tupK 1 (by exact rfl) (by k_asm) (by k_mem) (by exact rfl) (by first | assumption | (rw [sizeLine_eq]; exact Nat.le_of_ble_eq_true rfl)) ?_ (by with_unfolding_all rfl)) | (refine' item_listK 1 (by exact rfl) (by k_asm) (by k_mem) (by exact rfl) (by first | assumption | (rw [sizeLine_eq]; exact Nat.le_of_ble_eq_true rfl)) ?_ (by with_unfolding_all rfl)) | (refine' item_tupK 2 (by exact rfl) (by k_asm) (by k_mem) (by exact rfl) (by first | assumption | (rw [sizeLine_eq]; exact Nat.le_of_ble_eq_true rfl)) ?_ (by with_unfolding_all rfl)) | (refine' item_tupK 3 (by exact rfl) (by k_asm) (by k_mem) (by exact rfl) (by first | assumption | (rw [sizeLine_eq]; exact Nat.le_of_ble_eq_true rfl)) ?_ (by with_unfolding_all rfl)) | (refine' item_tupK 4 (by exact rfl) (by k_asm) (by k_mem) (by exact rfl) (by first | assumption | (rw [sizeLine_eq]; exact Nat.le_of_ble_eq_true rfl)) ?_ (by with_unfolding_all rfl))))) | fail "no word"); k_steps))
  all_goals (try (((repeat (first | refine veil (by assumption) ?_ | refine turn_ret ?_ | refine turn_brk ?_ | refine wturn_ret ?_ | refine wturn_brk ?_)); (try dsimp only))))
  refine use (s_take hoff ho (by decide) (by decide)) (by assumption) (by assumption) (by assumption) (by decide) ?_
  rintro r nx h' tk' F2 N2 hJ90
  refine hideG fun PP hPP => ?_
  obtain ⟨o', td, d, rfl, ho', rfl, hd⟩ := hJ90
  refine hPP ?_
  clear hPP PP
  (k_steps <;> repeat' ((first | with_reducible refine stop_out ?_ | with_reducible show wpAny _ _ _ _ _ _); (first | ((k_here; (with_reducible show wpAny _ _ (binaryOp _ _ _) _ _ _); k_dflt (refine' mul_int ?_ (by first | assumption | exact mulok_fmod _ | mul_fits)))) | ((k_here; (with_reducible show wpAny _ _ (call (Value.builtin "len") [Value.ref _]) _ _ _); k_dflt (refine' len_lst (by k_asm) (by k_mem) (by first | assumption | (rw [sizeLine_eq]; omega +splitDisjunctions) | (rw [sizeLine_eq]; exact Nat.le_of_ble_eq_true rfl)) ?_))) | ((k_here; (with_reducible show wpAny _ _ (subscriptTail _ _ (Value.ref _) (Value.int _ _)) _ _ _); k_dflt (first | (refine' item_list_at (by k_asm) (by k_mem) (by first | exact rfl | assumption) (by assumption) (by first | assumption | (rw [sizeLine_eq]; omega +splitDisjunctions)) ?_ (by with_unfolding_all rfl)) | (refine' item_tup_at (by k_asm) (by k_mem) (by first | exact rfl | assumption) (by assumption) (by first | assumption | (rw [sizeLine_eq]; omega +splitDisjunctions)) ?_ (by with_unfolding_all rfl)) | (refine' item_D (by k_asm) (by assumption) (by walk_at "sub") (by assumption) (by first | assumption | exact rfl) (by assumption) ?_ (by with_unfolding_all rfl) (by (intro _; with_unfolding_all rfl)); intro _ _)))) | ((k_here; (with_reducible show wpAny _ _ (subscriptTail _ _ (Value.ref _) (Value.int _ _)) _ _ _); k_dflt (first | (refine' item_tupK 0 (by exact rfl) (by k_asm) (by k_mem) (by exact rfl) (by first | assumption | (rw [sizeLine_eq]; exact Nat.le_of_ble_eq_true rfl)) ?_ (by with_unfolding_all rfl)) | (refine' item_listK 0 (by exact rfl) (by k_asm) (by k_mem) (by exact rfl) (by first | assumption | (rw [sizeLine_eq]; exact Nat.le_of_ble_eq_true rfl)) ?_ (by with_unfolding_all rfl)) | (refine' item_tupK 1 (by exact rfl) (by k_asm) (by k_mem) (by exact rfl) (by first | assumption | (rw [sizeLine_eq]; exact Nat.le_of_ble_eq_true rfl)) ?_ (by with_unfolding_all rfl)) | (refine' item_listK 1 (by exact rfl) (by k_asm) (by k_mem) (by exact rfl) (by first | assumption | (rw [sizeLine_eq]; exact Nat.le_of_ble_eq_true rfl)) ?_ (by with_unfolding_all rfl)) | (refine' item_tupK 2 (by exact rfl) (by k_asm) (by k_mem) (by exact rfl) (by first | assumption | (rw [sizeLine_eq]; exact Nat.le_of_ble_eq_true rfl)) ?_ (by with_unfolding_all rfl)) | (refine' item_tupK 3 (by exact rfl) (by k_asm) (by k_mem) (by exact rfl) (by first | assumption | (rw [sizeLine_eq]; exact Nat.le_of_ble_eq_true rfl)) ?_ (by with_unfolding_all rfl)) | (refine' item_tupK 4 (by exact rfl) (by k_asm) (by k_mem) (by exact rfl) (by first | assumption | (rw [sizeLine_eq]; exact Nat.le_of_ble_eq_true rfl)) ?_ (by with_unfolding_all rfl))))) | fail "no word"); k_steps))
  all_goals (try (((repeat (first | refine veil (by assumption) ?_ | refine turn_ret ?_ | refine turn_brk ?_ | refine wturn_ret ?_ | refine wturn_brk ?_)); (try dsimp only))))
  · refine use (s_take hoff ho' (by omega +splitDisjunctions) (by omega +splitDisjunctions)) (by assumption) (by assumption) (by assumption) (by decide) ?_
    rintro r nx h' tk' F3 N3 hJ90
    refine hideG fun PP hPP => ?_
    obtain ⟨o2, td2, d2, rfl, ho2, rfl, hd2⟩ := hJ90
    refine hPP ?_
    clear hPP PP
    (k_steps <;> repeat' ((first | with_reducible refine stop_out ?_ | with_reducible show wpAny _ _ _ _ _ _); (first | ((k_here; (with_reducible show wpAny _ _ (binaryOp _ _ _) _ _ _); k_dflt (refine' mul_int ?_ (by first | assumption | exact mulok_fmod _ | mul_fits)))) | ((k_here; (with_reducible show wpAny _ _ (call (Value.builtin "len") [Value.ref _]) _ _ _); k_dflt (refine' len_lst (by k_asm) (by k_mem) (by first | assumption | (rw [sizeLine_eq]; omega +splitDisjunctions) | (rw [sizeLine_eq]; exact Nat.le_of_ble_eq_true rfl)) ?_))) | ((k_here; (with_reducible show wpAny _ _ (subscriptTail _ _ (Value.ref _) (Value.int _ _)) _ _ _); k_dflt (first | (refine' item_list_at (by k_asm) (by k_mem) (by first | exact rfl | assumption) (by assumption) (by first | assumption | (rw [sizeLine_eq]; omega +splitDisjunctions)) ?_ (by with_unfolding_all rfl)) | (refine' item_tup_at (by k_asm) (by k_mem) (by first | exact rfl | assumption) (by assumption) (by first | assumption | (rw [sizeLine_eq]; omega +splitDisjunctions)) ?_ (by with_unfolding_all rfl)) | (refine' item_D (by k_asm) (by assumption) (by walk_at "sub") (by assumption) (by first | assumption | exact rfl) (by assumption) ?_ (by with_unfolding_all rfl) (by (intro _; with_unfolding_all rfl)); intro _ _)))) | ((k_here; (with_reducible show wpAny _ _ (subscriptTail _ _ (Value.ref _) (Value.int _ _)) _ _ _); k_dflt (first | (refine' item_tupK 0 (by exact rfl) (by k_asm) (by k_mem) (by exact rfl) (by first | assumption | (rw [sizeLine_eq]; exact Nat.le_of_ble_eq_true rfl)) ?_ (by with_unfolding_all rfl)) | (refine' item_listK 0 (by exact rfl) (by k_asm) (by k_mem) (by exact rfl) (by first | assumption | (rw [sizeLine_eq]; exact Nat.le_of_ble_eq_true rfl)) ?_ (by with_unfolding_all rfl)) | (refine' item_tupK 1 (by exact rfl) (by k_asm) (by k_mem) (by exact rfl) (by first | assumption | (rw [sizeLine_eq]; exact Nat.le_of_ble_eq_true rfl)) ?_ (by with_unfolding_all rfl)) | (refine' item_listK 1 (by exact rfl) (by k_asm) (by k_mem) (by exact rfl) (by first | assumption | (rw [sizeLine_eq]; exact Nat.le_of_ble_eq_true rfl)) ?_ (by with_unfolding_all rfl)) | (refine' item_tupK 2 (by exact rfl) (by k_asm) (by k_mem) (by exact rfl) (by first | assumption | (rw [sizeLine_eq]; exact Nat.le_of_ble_eq_true rfl)) ?_ (by with_unfolding_all rfl)) | (refine' item_tupK 3 (by exact rfl) (by k_asm) (by k_mem) (by exact rfl) (by first | assumption | (rw [sizeLine_eq]; exact Nat.le_of_ble_eq_true rfl)) ?_ (by with_unfolding_all rfl)) | (refine' item_tupK 4 (by exact rfl) (by k_asm) (by k_mem) (by exact rfl) (by first | assumption | (rw [sizeLine_eq]; exact Nat.le_of_ble_eq_true rfl)) ?_ (by with_unfolding_all rfl))))) | fail "no word"); k_steps))
    all_goals (try (((repeat (first | refine veil (by assumption) ?_ | refine turn_ret ?_ | refine turn_brk ?_ | refine wturn_ret ?_ | refine wturn_brk ?_)); (try dsimp only))))
    refine use (s_take hoff ho2 (by omega +splitDisjunctions) (by omega +splitDisjunctions)) (by assumption) (by assumption) (by assumption) (by decide) ?_
    rintro r nx h' tk' F4 N4 hJ90
    refine hideG fun PP hPP => ?_
    obtain ⟨o3, td3, d3, rfl, ho3, rfl, hd3⟩ := hJ90
    refine hPP ?_
    clear hPP PP
    (k_steps <;> repeat' ((first | with_reducible refine stop_out ?_ | with_reducible show wpAny _ _ _ _ _ _); (first | ((k_here; (with_reducible show wpAny _ _ (binaryOp _ _ _) _ _ _); k_dflt (refine' mul_int ?_ (by first | assumption | exact mulok_fmod _ | mul_fits)))) | ((k_here; (with_reducible show wpAny _ _ (call (Value.builtin "len") [Value.ref _]) _ _ _); k_dflt (refine' len_lst (by k_asm) (by k_mem) (by first | assumption | (rw [sizeLine_eq]; omega +splitDisjunctions) | (rw [sizeLine_eq]; exact Nat.le_of_ble_eq_true rfl)) ?_))) | ((k_here; (with_reducible show wpAny _ _ (subscriptTail _ _ (Value.ref _) (Value.int _ _)) _ _ _); k_dflt (first | (refine' item_list_at (by k_asm) (by k_mem) (by first | exact rfl | assumption) (by assumption) (by first | assumption | (rw [sizeLine_eq]; omega +splitDisjunctions)) ?_ (by with_unfolding_all rfl)) | (refine' item_tup_at (by k_asm) (by k_mem) (by first | exact rfl | assumption) (by assumption) (by first | assumption | (rw [sizeLine_eq]; omega +splitDisjunctions)) ?_ (by with_unfolding_all rfl)) | (refine' item_D (by k_asm) (by assumption) (by walk_at "sub") (by assumption) (by first | assumption | exact rfl) (by assumption) ?_ (by with_unfolding_all rfl) (by (intro _; with_unfolding_all rfl)); intro _ _)))) | ((k_here; (with_reducible show wpAny _ _ (subscriptTail _ _ (Value.ref _) (Value.int _ _)) _ _ _); k_dflt (first | (refine' item_tupK 0 (by exact rfl) (by k_asm) (by k_mem) (by exact rfl) (by first | assumption | (rw [sizeLine_eq]; exact Nat.le_of_ble_eq_true rfl)) ?_ (by with_unfolding_all rfl)) | (refine' item_listK 0 (by exact rfl) (by k_asm) (by k_mem) (by exact rfl) (by first | assumption | (rw [sizeLine_eq]; exact Nat.le_of_ble_eq_true rfl)) ?_ (by with_unfolding_all rfl)) | (refine' item_tupK 1 (by exact rfl) (by k_asm) (by k_mem) (by exact rfl) (by first | assumption | (rw [sizeLine_eq]; exact Nat.le_of_ble_eq_true rfl)) ?_ (by with_unfolding_all rfl)) | (refine' item_listK 1 (by exact rfl) (by k_asm) (by k_mem) (by exact rfl) (by first | assumption | (rw [sizeLine_eq]; exact Nat.le_of_ble_eq_true rfl)) ?_ (by with_unfolding_all rfl)) | (refine' item_tupK 2 (by exact rfl) (by k_asm) (by k_mem) (by exact rfl) (by first | assumption | (rw [sizeLine_eq]; exact Nat.le_of_ble_eq_true rfl)) ?_ (by with_unfolding_all rfl)) | (refine' item_tupK 3 (by exact rfl) (by k_asm) (by k_mem) (by exact rfl) (by first | assumption | (rw [sizeLine_eq]; exact Nat.le_of_ble_eq_true rfl)) ?_ (by with_unfolding_all rfl)) | (refine' item_tupK 4 (by exact rfl) (by k_asm) (by k_mem) (by exact rfl) (by first | assumption | (rw [sizeLine_eq]; exact Nat.le_of_ble_eq_true rfl)) ?_ (by with_unfolding_all rfl))))) | fail "no word"); k_steps))
    all_goals (try (((repeat (first | refine veil (by assumption) ?_ | refine turn_ret ?_ | refine turn_brk ?_ | refine wturn_ret ?_ | refine wturn_brk ?_)); (try dsimp only))))
    (rename News _ _ _ _ => N9)
    rw [bAnd] at N9
    (try (((repeat (first | refine veil (by assumption) ?_ | refine turn_ret ?_ | refine turn_brk ?_ | refine wturn_ret ?_ | refine wturn_brk ?_)); (try dsimp only))))
    refine ⟨_, _, _, _, rfl, by assumption, grow_end (tl := []) N9, o3, [_], .mask (d3 &&& d2) d2, rfl, ho3, grow_off (tl := []) (by assumption) hoff, DatIn.tuple (.head _) (.cons (.str _ _) (.cons (.int _ _) (.cons (.int _ _) .nil))), ?_, ?_⟩
    · rw [hpw] at hd2; exact_mod_cast hd2
    · rw [Nat.and_assoc, Nat.and_self]
  · refine use (s_take hoff ho' (by omega +splitDisjunctions) (by omega +splitDisjunctions)) (by assumption) (by assumption) (by assumption) (by decide) ?_
    rintro r nx h' tk' F3 N3 hJ90
    refine hideG fun PP hPP => ?_
    obtain ⟨o2, td2, d2, rfl, ho2, rfl, hd2⟩ := hJ90
    refine hPP ?_
    clear hPP PP
    (k_steps <;> repeat' ((first | with_reducible refine stop_out ?_ | with_reducible show wpAny _ _ _ _ _ _); (first | ((k_here; (with_reducible show wpAny _ _ (binaryOp _ _ _) _ _ _); k_dflt (refine' mul_int ?_ (by first | assumption | exact mulok_fmod _ | mul_fits)))) | ((k_here; (with_reducible show wpAny _ _ (call (Value.builtin "len") [Value.ref _]) _ _ _); k_dflt (refine' len_lst (by k_asm) (by k_mem) (by first | assumption | (rw [sizeLine_eq]; omega +splitDisjunctions) | (rw [sizeLine_eq]; exact Nat.le_of_ble_eq_true rfl)) ?_))) | ((k_here; (with_reducible show wpAny _ _ (subscriptTail _ _ (Value.ref _) (Value.int _ _)) _ _ _); k_dflt (first | (refine' item_list_at (by k_asm) (by k_mem) (by first | exact rfl | assumption) (by assumption) (by first | assumption | (rw [sizeLine_eq]; omega +splitDisjunctions)) ?_ (by with_unfolding_all rfl)) | (refine' item_tup_at (by k_asm) (by k_mem) (by first | exact rfl | assumption) (by assumption) (by first | assumption | (rw [sizeLine_eq]; omega +splitDisjunctions)) ?_ (by with_unfolding_all rfl)) | (refine' item_D (by k_asm) (by assumption) (by walk_at "sub") (by assumption) (by first | assumption | exact rfl) (by assumption) ?_ (by with_unfolding_all rfl) (by (intro _; with_unfolding_all rfl)); intro _ _)))) | ((k_here; (with_reducible show wpAny _ _ (subscriptTail _ _ (Value.ref _) (Value.int _ _)) _ _ _); k_dflt (first | (refine' item_tupK 0 (by exact rfl) (by k_asm) (by k_mem) (by exact rfl) (by first | assumption | (rw [sizeLine_eq]; exact Nat.le_of_ble_eq_true rfl)) ?_ (by with_unfolding_all rfl)) | (refine' item_listK 0 (by exact rfl) (by k_asm) (by k_mem) (by exact rfl) (by first | assumption | (rw [sizeLine_eq]; exact Nat.le_of_ble_eq_true rfl)) ?_ (by with_unfolding_all rfl)) | (refine' item_tupK 1 (by exact rfl) (by k_asm) (by k_mem) (by exact rfl) (by first | assumption | (rw [sizeLine_eq]; exact Nat.le_of_ble_eq_true rfl)) ?_ (by with_unfolding_all rfl)) | (refine' item_listK 1 (by exact rfl) (by k_asm) (by k_mem) (by exact rfl) (by first | assumption | (rw [sizeLine_eq]; exact Nat.le_of_ble_eq_true rfl)) ?_ (by with_unfolding_all rfl)) | (refine' item_tupK 2 (by exact rfl) (by k_asm) (by k_mem) (by exact rfl) (by first | assumption | (rw [sizeLine_eq]; exact Nat.le_of_ble_eq_true rfl)) ?_ (by with_unfolding_all rfl)) | (refine' item_tupK 3 (by exact rfl) (by k_asm) (by k_mem) (by exact rfl) (by first | assumption | (rw [sizeLine_eq]; exact Nat.le_of_ble_eq_true rfl)) ?_ (by with_unfolding_all rfl)) | (refine' item_tupK 4 (by exact rfl) (by k_asm) (by k_mem) (by exact rfl) (by first | assumption | (rw [sizeLine_eq]; exact Nat.le_of_ble_eq_true rfl)) ?_ (by with_unfolding_all rfl))))) | fail "no word"); k_steps))
    all_goals (try (((repeat (first | refine veil (by assumption) ?_ | refine turn_ret ?_ | refine turn_brk ?_ | refine wturn_ret ?_ | refine wturn_brk ?_)); (try dsimp only))))
    refine use (s_take hoff ho2 (by omega +splitDisjunctions) (by omega +splitDisjunctions)) (by assumption) (by assumption) (by assumption) (by decide) ?_
    rintro r nx h' tk' F4 N4 hJ90
    refine hideG fun PP hPP => ?_
    obtain ⟨o3, td3, d3, rfl, ho3, rfl, hd3⟩ := hJ90
    refine hPP ?_
    clear hPP PP
    (k_steps <;> repeat' ((first | with_reducible refine stop_out ?_ | with_reducible show wpAny _ _ _ _ _ _); (first | ((k_here; (with_reducible show wpAny _ _ (binaryOp _ _ _) _ _ _); k_dflt (refine' mul_int ?_ (by first | assumption | exact mulok_fmod _ | mul_fits)))) | ((k_here; (with_reducible show wpAny _ _ (call (Value.builtin "len") [Value.ref _]) _ _ _); k_dflt (refine' len_lst (by k_asm) (by k_mem) (by first | assumption | (rw [sizeLine_eq]; omega +splitDisjunctions) | (rw [sizeLine_eq]; exact Nat.le_of_ble_eq_true rfl)) ?_))) | ((k_here; (with_reducible show wpAny _ _ (subscriptTail _ _ (Value.ref _) (Value.int _ _)) _ _ _); k_dflt (first | (refine' item_list_at (by k_asm) (by k_mem) (by first | exact rfl | assumption) (by assumption) (by first | assumption | (rw [sizeLine_eq]; omega +splitDisjunctions)) ?_ (by with_unfolding_all rfl)) | (refine' item_tup_at (by k_asm) (by k_mem) (by first | exact rfl | assumption) (by assumption) (by first | assumption | (rw [sizeLine_eq]; omega +splitDisjunctions)) ?_ (by with_unfolding_all rfl)) | (refine' item_D (by k_asm) (by assumption) (by walk_at "sub") (by assumption) (by first | assumption | exact rfl) (by assumption) ?_ (by with_unfolding_all rfl) (by (intro _; with_unfolding_all rfl)); intro _ _)))) | ((k_here; (with_reducible show wpAny _ _ (subscriptTail _ _ (Value.ref _) (Value.int _ _)) _ _ _); k_dflt (first | (refine' item_tupK 0 (by exact rfl) (by k_asm) (by k_mem) (by exact rfl) (by first | assumption | (rw [sizeLine_eq]; exact Nat.le_of_ble_eq_true rfl)) ?_ (by with_unfolding_all rfl)) | (refine' item_listK 0 (by exact rfl) (by k_asm) (by k_mem) (by exact rfl) (by first | assumption | (rw [sizeLine_eq]; exact Nat.le_of_ble_eq_true rfl)) ?_ (by with_unfolding_all rfl)) | (refine' item_tupK 1 (by exact rfl) (by k_asm) (by k_mem) (by exact rfl) (by first | assumption | (rw [sizeLine_eq]; exact Nat.le_of_ble_eq_true rfl)) ?_ (by with_unfolding_all rfl)) | (refine' item_listK 1 (by exact rfl) (by k_asm) (by k_mem) (by exact rfl) (by first | assumption | (rw [sizeLine_eq]; exact Nat.le_of_ble_eq_true rfl)) ?_ (by with_unfolding_all rfl)) | (refine' item_tupK 2 (by exact rfl) (by k_asm) (by k_mem) (by exact rfl) (by first | assumption | (rw [sizeLine_eq]; exact Nat.le_of_ble_eq_true rfl)) ?_ (by with_unfolding_all rfl)) | (refine' item_tupK 3 (by exact rfl) (by k_asm) (by k_mem) (by exact rfl) (by first | assumption | (rw [sizeLine_eq]; exact Nat.le_of_ble_eq_true rfl)) ?_ (by with_unfolding_all rfl)) | (refine' item_tupK 4 (by exact rfl) (by k_asm) (by k_mem) (by exact rfl) (by first | assumption | (rw [sizeLine_eq]; exact Nat.le_of_ble_eq_true rfl)) ?_ (by with_unfolding_all rfl))))) | fail "no word"); k_steps))
    all_goals (try (((repeat (first | refine veil (by assumption) ?_ | refine turn_ret ?_ | refine turn_brk ?_ | refine wturn_ret ?_ | refine wturn_brk ?_)); (try dsimp only))))
    (rename News _ _ _ _ => N9)
    (try (((repeat (first | refine veil (by assumption) ?_ | refine turn_ret ?_ | refine turn_brk ?_ | refine wturn_ret ?_ | refine wturn_brk ?_)); (try dsimp only))))
    refine ⟨_, _, _, _, rfl, by assumption, grow_end (tl := []) N9, o3, [_], .range d2 (d2 + d3), rfl, ho3, grow_off (tl := []) (by assumption) hoff, DatIn.tuple (.head _) (.cons (.str _ _) (.cons (.int _ _) (.cons (.int _ _) .nil))), ?_, ?_⟩
    · omega +splitDisjunctions
    · rw [hpw] at hd3; omega +splitDisjunctions

def blocks : Nat → Nat → Nat → Nat
  | 0, _, _ => 1
  | n + 1, lo, hi => if lo = 0 ∧ hi = 2 ^ (n + 1) - 1 then 1 else
      (if lo < 2 ^ n then blocks n lo (min hi (2 ^ n - 1)) else 0) + (if 2 ^ n ≤ hi then blocks n (max lo (2 ^ n) - 2 ^ n) (hi - 2 ^ n) else 0)
theorem s_law_blocks : ∀ (n : Nat) {a b c : Int} {lo hi : Nat} {t1 t2 t3 : Tok} (_ : a = lo) (_ : b = hi) (_ : c = (2 ^ n : Nat)) (_ : lo ≤ hi) (_ : hi < 2 ^ n),
    Spec w mean mg mb 289 (n + 1) [.int a t1, .int b t2, .int c t3] news (fun news' r => news' = news ∧ ∃ t, r = .int (blocks n lo hi) t)
  | 0, a, b, c, lo, hi, t1, t2, t3, ha, hb, hc, h1, h2 => by
    obtain rfl : hi = 0 := by simpa using h2
    obtain rfl : lo = 0 := by omega +splitDisjunctions
    subst ha hb
    obtain rfl : c = 1 := by rw [hc]; rfl
    ((refine' spec_intro (by k_is) (by k_is) (by exact rfl) (by exact rfl) (by exact rfl) (by exact rfl) (by exact rfl) (by decide) ?_; k_whole; intro dp' un' gd' fr' envc' outer' A₀' base' g' L' h' ge' dr' os' tk' A9' E9' C' hr' hA' B' X' T' F' N' T' hT'; (try dsimp only [List.map, List.zip, List.zipWith, List.reverse, List.reverseAux] at F'); (try dsimp only); (try k_fold)))
    (k_steps <;> repeat' ((first | with_reducible refine stop_out ?_ | with_reducible show wpAny _ _ _ _ _ _); (first | ((k_here; (with_reducible show wpAny _ _ (binaryOp _ _ _) _ _ _); k_dflt (refine' mul_int ?_ (by first | assumption | exact mulok_fmod _ | mul_fits)))) | ((k_here; (with_reducible show wpAny _ _ (call (Value.builtin "len") [Value.ref _]) _ _ _); k_dflt (refine' len_lst (by k_asm) (by k_mem) (by first | assumption | (rw [sizeLine_eq]; omega +splitDisjunctions) | (rw [sizeLine_eq]; exact Nat.le_of_ble_eq_true rfl)) ?_))) | ((k_here; (with_reducible show wpAny _ _ (subscriptTail _ _ (Value.ref _) (Value.int _ _)) _ _ _); k_dflt (first | (refine' item_list_at (by k_asm) (by k_mem) (by first | exact rfl | assumption) (by assumption) (by first | assumption | (rw [sizeLine_eq]; omega +splitDisjunctions)) ?_ (by with_unfolding_all rfl)) | (refine' item_tup_at (by k_asm) (by k_mem) (by first | exact rfl | assumption) (by assumption) (by first | assumption | (rw [sizeLine_eq]; omega +splitDisjunctions)) ?_ (by with_unfolding_all rfl)) | (refine' item_D (by k_asm) (by assumption) (by walk_at "sub") (by assumption) (by first | assumption | exact rfl) (by assumption) ?_ (by with_unfolding_all rfl) (by (intro _; with_unfolding_all rfl)); intro _ _)))) | ((k_here; (with_reducible show wpAny _ _ (subscriptTail _ _ (Value.ref _) (Value.int _ _)) _ _ _); k_dflt (first | (refine' item_tupK 0 (by exact rfl) (by k_asm) (by k_mem) (by exact rfl) (by first | assumption | (rw [sizeLine_eq]; exact Nat.le_of_ble_eq_true rfl)) ?_ (by with_unfolding_all rfl)) | (refine' item_listK 0 (by exact rfl) (by k_asm) (by k_mem) (by exact rfl) (by first | assumption | (rw [sizeLine_eq]; exact Nat.le_of_ble_eq_true rfl)) ?_ (by with_unfolding_all rfl)) | (refine' item_tupK 1 (by exact rfl) (by k_asm) (by k_mem) (by exact rfl) (by first | assumption | (rw [sizeLine_eq]; exact Nat.le_of_ble_eq_true rfl)) ?_ (by with_unfolding_all rfl)) | (refine' item_listK 1 (by exact rfl) (by k_asm) (by k_mem) (by exact rfl) (by first | assumption | (rw [sizeLine_eq]; exact Nat.le_of_ble_eq_true rfl)) ?_ (by with_unfolding_all rfl)) | (refine' item_tupK 2 (by exact rfl) (by k_asm) (by k_mem) (by exact rfl) (by first | assumption | (rw [sizeLine_eq]; exact Nat.le_of_ble_eq_true rfl)) ?_ (by with_unfolding_all rfl)) | (refine' item_tupK 3 (by exact rfl) (by k_asm) (by k_mem) (by exact rfl) (by first | assumption | (rw [sizeLine_eq]; exact Nat.le_of_ble_eq_true rfl)) ?_ (by with_unfolding_all rfl)) | (refine' item_tupK 4 (by exact rfl) (by k_asm) (by k_mem) (by exact rfl) (by first | assumption | (rw [sizeLine_eq]; exact Nat.le_of_ble_eq_true rfl)) ?_ (by with_unfolding_all rfl))))) | fail "no word"); k_steps))
    all_goals (try (((repeat (first | refine veil (by assumption) ?_ | refine turn_ret ?_ | refine turn_brk ?_ | refine wturn_ret ?_ | refine wturn_brk ?_)); (try dsimp only))))
    (try (((repeat (first | refine veil (by assumption) ?_ | refine turn_ret ?_ | refine turn_brk ?_ | refine wturn_ret ?_ | refine wturn_brk ?_)); (try dsimp only))))
    exact ⟨_, _, _, _, rfl, by assumption, by assumption, rfl, _, rfl⟩
  | n + 1, a, b, c, lo, hi, t1, t2, t3, ha, hb, hc, h1, h2 => by
    subst ha hb
    have ih := fun {a b c : Int} {lo hi : Nat} {t1 t2 t3 : Tok} => @s_law_blocks n a b c lo hi t1 t2 t3
    have hp : (2 ^ (n + 1) : Nat) = 2 * 2 ^ n := by rw [Nat.pow_succ]; omega +splitDisjunctions
    have hpos : 0 < 2 ^ n := Nat.two_pow_pos _
    have hfd : Int.fdiv c 2 = ((2 ^ n : Nat) : Int) := by rw [hc, Int.fdiv_eq_ediv_of_nonneg _ (by decide)]; omega +splitDisjunctions
    have hB : blocks (n + 1) lo hi = if lo = 0 ∧ hi = 2 ^ (n + 1) - 1 then 1 else
      (if lo < 2 ^ n then blocks n lo (min hi (2 ^ n - 1)) else 0) + (if 2 ^ n ≤ hi then blocks n (max lo (2 ^ n) - 2 ^ n) (hi - 2 ^ n) else 0) := rfl
    ((refine' spec_intro (by k_is) (by k_is) (by exact rfl) (by exact rfl) (by exact rfl) (by exact rfl) (by exact rfl) (by decide) ?_; k_whole; intro dp' un' gd' fr' envc' outer' A₀' base' g' L' h' ge' dr' os' tk' A9' E9' C' hr' hA' B' X' T' F' N' T' hT'; (try dsimp only [List.map, List.zip, List.zipWith, List.reverse, List.reverseAux] at F'); (try dsimp only); (try k_fold)))
    refine exec_cut2 (fun q => ¬ (lo = 0 ∧ hi = 2 ^ (n + 1) - 1) ∧ ∃ h9 tk9, q = ⟨h9, ge', dr', tk9, os'⟩ ∧ Fr g' L' h9 (fun y => List.lookup y [(Str.ofString "size", Value.int c t3), (Str.ofString "high", .int (hi : Nat) t2), (Str.ofString "low", .int (lo : Nat) t1)]) ∧ News g' L' h9 news)
      (fun v q => ∃ h9 tk9 m9 t9, q = ⟨h9, ge', dr', tk9, os'⟩ ∧ Fr g' L' h9 m9 ∧ News g' L' h9 news ∧ v = .int (blocks (n + 1) lo hi) t9) ?_ ?_ ?_
    · (k_steps <;> repeat' ((first | with_reducible refine stop_out ?_ | with_reducible show wpAny _ _ _ _ _ _); (first | ((k_here; (with_reducible show wpAny _ _ (binaryOp _ _ _) _ _ _); k_dflt (refine' mul_int ?_ (by first | assumption | exact mulok_fmod _ | mul_fits)))) | ((k_here; (with_reducible show wpAny _ _ (call (Value.builtin "len") [Value.ref _]) _ _ _); k_dflt (refine' len_lst (by k_asm) (by k_mem) (by first | assumption | (rw [sizeLine_eq]; omega +splitDisjunctions) | (rw [sizeLine_eq]; exact Nat.le_of_ble_eq_true rfl)) ?_))) | ((k_here; (with_reducible show wpAny _ _ (subscriptTail _ _ (Value.ref _) (Value.int _ _)) _ _ _); k_dflt (first | (refine' item_list_at (by k_asm) (by k_mem) (by first | exact rfl | assumption) (by assumption) (by first | assumption | (rw [sizeLine_eq]; omega +splitDisjunctions)) ?_ (by with_unfolding_all rfl)) | (refine' item_tup_at (by k_asm) (by k_mem) (by first | exact rfl | assumption) (by assumption) (by first | assumption | (rw [sizeLine_eq]; omega +splitDisjunctions)) ?_ (by with_unfolding_all rfl)) | (refine' item_D (by k_asm) (by assumption) (by walk_at "sub") (by assumption) (by first | assumption | exact rfl) (by assumption) ?_ (by with_unfolding_all rfl) (by (intro _; with_unfolding_all rfl)); intro _ _)))) | ((k_here; (with_reducible show wpAny _ _ (subscriptTail _ _ (Value.ref _) (Value.int _ _)) _ _ _); k_dflt (first | (refine' item_tupK 0 (by exact rfl) (by k_asm) (by k_mem) (by exact rfl) (by first | assumption | (rw [sizeLine_eq]; exact Nat.le_of_ble_eq_true rfl)) ?_ (by with_unfolding_all rfl)) | (refine' item_listK 0 (by exact rfl) (by k_asm) (by k_mem) (by exact rfl) (by first | assumption | (rw [sizeLine_eq]; exact Nat.le_of_ble_eq_true rfl)) ?_ (by with_unfolding_all rfl)) | (refine' item_tupK 1 (by exact rfl) (by k_asm) (by k_mem) (by exact rfl) (by first | assumption | (rw [sizeLine_eq]; exact Nat.le_of_ble_eq_true rfl)) ?_ (by with_unfolding_all rfl)) | (refine' item_listK 1 (by exact rfl) (by k_asm) (by k_mem) (by exact rfl) (by first | assumption | (rw [sizeLine_eq]; exact Nat.le_of_ble_eq_true rfl)) ?_ (by with_unfolding_all rfl)) | (refine' item_tupK 2 (by exact rfl) (by k_asm) (by k_mem) (by exact rfl) (by first | assumption | (rw [sizeLine_eq]; exact Nat.le_of_ble_eq_true rfl)) ?_ (by with_unfolding_all rfl)) | (refine' item_tupK 3 (by exact rfl) (by k_asm) (by k_mem) (by exact rfl) (by first | assumption | (rw [sizeLine_eq]; exact Nat.le_of_ble_eq_true rfl)) ?_ (by with_unfolding_all rfl)) | (refine' item_tupK 4 (by exact rfl) (by k_asm) (by k_mem) (by exact rfl) (by first | assumption | (rw [sizeLine_eq]; exact Nat.le_of_ble_eq_true rfl)) ?_ (by with_unfolding_all rfl))))) | fail "no word"); k_steps))
      all_goals (try (((repeat (first | refine veil (by assumption) ?_ | refine turn_ret ?_ | refine turn_brk ?_ | refine wturn_ret ?_ | refine wturn_brk ?_)); (try dsimp only))))
      all_goals first
        | exact ⟨.inl ⟨(by trivial), by omega +splitDisjunctions, _, _, rfl, by assumption, by assumption⟩⟩
        | exact ⟨.inr ⟨_, rfl, _, _, _, _, rfl, by assumption, by assumption, congrArg (fun z => Value.int z _) (by rw [hB, if_pos (by omega +splitDisjunctions)]; rfl)⟩⟩
    · rintro q hJ90
      refine hideG fun PP hPP => ?_
      obtain ⟨hne, h9, tk9, rfl, F9, N9⟩ := hJ90
      refine hPP ?_
      clear hPP PP
      clear F' N'
      (k_steps <;> repeat' ((first | with_reducible refine stop_out ?_ | with_reducible show wpAny _ _ _ _ _ _); (first | ((k_here; (with_reducible show wpAny _ _ (binaryOp _ _ _) _ _ _); k_dflt (refine' mul_int ?_ (by first | assumption | exact mulok_fmod _ | mul_fits)))) | ((k_here; (with_reducible show wpAny _ _ (call (Value.builtin "len") [Value.ref _]) _ _ _); k_dflt (refine' len_lst (by k_asm) (by k_mem) (by first | assumption | (rw [sizeLine_eq]; omega +splitDisjunctions) | (rw [sizeLine_eq]; exact Nat.le_of_ble_eq_true rfl)) ?_))) | ((k_here; (with_reducible show wpAny _ _ (subscriptTail _ _ (Value.ref _) (Value.int _ _)) _ _ _); k_dflt (first | (refine' item_list_at (by k_asm) (by k_mem) (by first | exact rfl | assumption) (by assumption) (by first | assumption | (rw [sizeLine_eq]; omega +splitDisjunctions)) ?_ (by with_unfolding_all rfl)) | (refine' item_tup_at (by k_asm) (by k_mem) (by first | exact rfl | assumption) (by assumption) (by first | assumption | (rw [sizeLine_eq]; omega +splitDisjunctions)) ?_ (by with_unfolding_all rfl)) | (refine' item_D (by k_asm) (by assumption) (by walk_at "sub") (by assumption) (by first | assumption | exact rfl) (by assumption) ?_ (by with_unfolding_all rfl) (by (intro _; with_unfolding_all rfl)); intro _ _)))) | ((k_here; (with_reducible show wpAny _ _ (subscriptTail _ _ (Value.ref _) (Value.int _ _)) _ _ _); k_dflt (first | (refine' item_tupK 0 (by exact rfl) (by k_asm) (by k_mem) (by exact rfl) (by first | assumption | (rw [sizeLine_eq]; exact Nat.le_of_ble_eq_true rfl)) ?_ (by with_unfolding_all rfl)) | (refine' item_listK 0 (by exact rfl) (by k_asm) (by k_mem) (by exact rfl) (by first | assumption | (rw [sizeLine_eq]; exact Nat.le_of_ble_eq_true rfl)) ?_ (by with_unfolding_all rfl)) | (refine' item_tupK 1 (by exact rfl) (by k_asm) (by k_mem) (by exact rfl) (by first | assumption | (rw [sizeLine_eq]; exact Nat.le_of_ble_eq_true rfl)) ?_ (by with_unfolding_all rfl)) | (refine' item_listK 1 (by exact rfl) (by k_asm) (by k_mem) (by exact rfl) (by first | assumption | (rw [sizeLine_eq]; exact Nat.le_of_ble_eq_true rfl)) ?_ (by with_unfolding_all rfl)) | (refine' item_tupK 2 (by exact rfl) (by k_asm) (by k_mem) (by exact rfl) (by first | assumption | (rw [sizeLine_eq]; exact Nat.le_of_ble_eq_true rfl)) ?_ (by with_unfolding_all rfl)) | (refine' item_tupK 3 (by exact rfl) (by k_asm) (by k_mem) (by exact rfl) (by first | assumption | (rw [sizeLine_eq]; exact Nat.le_of_ble_eq_true rfl)) ?_ (by with_unfolding_all rfl)) | (refine' item_tupK 4 (by exact rfl) (by k_asm) (by k_mem) (by exact rfl) (by first | assumption | (rw [sizeLine_eq]; exact Nat.le_of_ble_eq_true rfl)) ?_ (by with_unfolding_all rfl))))) | fail "no word"); k_steps))
      all_goals (try (((repeat (first | refine veil (by assumption) ?_ | refine turn_ret ?_ | refine turn_brk ?_ | refine wturn_ret ?_ | refine wturn_brk ?_)); (try dsimp only))))
      refine stmt_cut (fun q => ∃ h9 tk9 m9 t8 t9, q = ⟨h9, ge', dr', tk9, os'⟩ ∧ Fr g' L' h9 m9 ∧ News g' L' h9 news ∧ AllB m9 [(Str.ofString "lower", .int ((if lo < 2 ^ n then blocks n lo (min hi (2 ^ n - 1)) else 0 : Nat) : Int) t9), (Str.ofString "half", .int ((2 ^ n : Nat) : Int) t8), (Str.ofString "high", .int (hi : Nat) t2), (Str.ofString "low", .int (lo : Nat) t1)]) ?_ ?_
      · (k_steps <;> repeat' ((first | with_reducible refine stop_out ?_ | with_reducible show wpAny _ _ _ _ _ _); (first | ((k_here; (with_reducible show wpAny _ _ (binaryOp _ _ _) _ _ _); k_dflt (refine' mul_int ?_ (by first | assumption | exact mulok_fmod _ | mul_fits)))) | ((k_here; (with_reducible show wpAny _ _ (call (Value.builtin "len") [Value.ref _]) _ _ _); k_dflt (refine' len_lst (by k_asm) (by k_mem) (by first | assumption | (rw [sizeLine_eq]; omega +splitDisjunctions) | (rw [sizeLine_eq]; exact Nat.le_of_ble_eq_true rfl)) ?_))) | ((k_here; (with_reducible show wpAny _ _ (subscriptTail _ _ (Value.ref _) (Value.int _ _)) _ _ _); k_dflt (first | (refine' item_list_at (by k_asm) (by k_mem) (by first | exact rfl | assumption) (by assumption) (by first | assumption | (rw [sizeLine_eq]; omega +splitDisjunctions)) ?_ (by with_unfolding_all rfl)) | (refine' item_tup_at (by k_asm) (by k_mem) (by first | exact rfl | assumption) (by assumption) (by first | assumption | (rw [sizeLine_eq]; omega +splitDisjunctions)) ?_ (by with_unfolding_all rfl)) | (refine' item_D (by k_asm) (by assumption) (by walk_at "sub") (by assumption) (by first | assumption | exact rfl) (by assumption) ?_ (by with_unfolding_all rfl) (by (intro _; with_unfolding_all rfl)); intro _ _)))) | ((k_here; (with_reducible show wpAny _ _ (subscriptTail _ _ (Value.ref _) (Value.int _ _)) _ _ _); k_dflt (first | (refine' item_tupK 0 (by exact rfl) (by k_asm) (by k_mem) (by exact rfl) (by first | assumption | (rw [sizeLine_eq]; exact Nat.le_of_ble_eq_true rfl)) ?_ (by with_unfolding_all rfl)) | (refine' item_listK 0 (by exact rfl) (by k_asm) (by k_mem) (by exact rfl) (by first | assumption | (rw [sizeLine_eq]; exact Nat.le_of_ble_eq_true rfl)) ?_ (by with_unfolding_all rfl)) | (refine' item_tupK 1 (by exact rfl) (by k_asm) (by k_mem) (by exact rfl) (by first | assumption | (rw [sizeLine_eq]; exact Nat.le_of_ble_eq_true rfl)) ?_ (by with_unfolding_all rfl)) | (refine' item_listK 1 (by exact rfl) (by k_asm) (by k_mem) (by exact rfl) (by first | assumption | (rw [sizeLine_eq]; exact Nat.le_of_ble_eq_true rfl)) ?_ (by with_unfolding_all rfl)) | (refine' item_tupK 2 (by exact rfl) (by k_asm) (by k_mem) (by exact rfl) (by first | assumption | (rw [sizeLine_eq]; exact Nat.le_of_ble_eq_true rfl)) ?_ (by with_unfolding_all rfl)) | (refine' item_tupK 3 (by exact rfl) (by k_asm) (by k_mem) (by exact rfl) (by first | assumption | (rw [sizeLine_eq]; exact Nat.le_of_ble_eq_true rfl)) ?_ (by with_unfolding_all rfl)) | (refine' item_tupK 4 (by exact rfl) (by k_asm) (by k_mem) (by exact rfl) (by first | assumption | (rw [sizeLine_eq]; exact Nat.le_of_ble_eq_true rfl)) ?_ (by with_unfolding_all rfl))))) | fail "no word"); k_steps))
        all_goals (try (((repeat (first | refine veil (by assumption) ?_ | refine turn_ret ?_ | refine turn_brk ?_ | refine wturn_ret ?_ | refine wturn_brk ?_)); (try dsimp only))))
        all_goals (try (
          refine use (ih (lo := lo) (hi := min hi (2 ^ n - 1)) rfl (by split <;> omega +splitDisjunctions) hfd (by omega +splitDisjunctions) (by omega +splitDisjunctions)) (by assumption) (by assumption) (by assumption) (Nat.le_refl _) ?_
          rintro r nx h' tk' F1 N1 hJ90
          refine hideG fun PP hPP => ?_
          obtain ⟨rfl, t9, rfl⟩ := hJ90
          refine hPP ?_
          clear hPP PP
          (k_steps <;> repeat' ((first | with_reducible refine stop_out ?_ | with_reducible show wpAny _ _ _ _ _ _); (first | ((k_here; (with_reducible show wpAny _ _ (binaryOp _ _ _) _ _ _); k_dflt (refine' mul_int ?_ (by first | assumption | exact mulok_fmod _ | mul_fits)))) | ((k_here; (with_reducible show wpAny _ _ (call (Value.builtin "len") [Value.ref _]) _ _ _); k_dflt (refine' len_lst (by k_asm) (by k_mem) (by first | assumption | (rw [sizeLine_eq]; omega +splitDisjunctions) | (rw [sizeLine_eq]; exact Nat.le_of_ble_eq_true rfl)) ?_))) | ((k_here; (with_reducible show wpAny _ _ (subscriptTail _ _ (Value.ref _) (Value.int _ _)) _ _ _); k_dflt (first | (refine' item_list_at (by k_asm) (by k_mem) (by first | exact rfl | assumption) (by assumption) (by first | assumption | (rw [sizeLine_eq]; omega +splitDisjunctions)) ?_ (by with_unfolding_all rfl)) | (refine' item_tup_at (by k_asm) (by k_mem) (by first | exact rfl | assumption) (by assumption) (by first | assumption | (rw [sizeLine_eq]; omega +splitDisjunctions)) ?_ (by with_unfolding_all rfl)) | (refine' item_D (by k_asm) (by assumption) (by walk_at "sub") (by assumption) (by first | assumption | exact rfl) (by assumption) ?_ (by with_unfolding_all rfl) (by (intro _; with_unfolding_all rfl)); intro _ _)))) | ((k_here; (with_reducible show wpAny _ _ (subscriptTail _ _ (Value.ref _) (Value.int _ _)) _ _ _); k_dflt (first | (refine' item_tupK 0 (by exact rfl) (by k_asm) (by k_mem) (by exact rfl) (by first | assumption | (rw [sizeLine_eq]; exact Nat.le_of_ble_eq_true rfl)) ?_ (by with_unfolding_all rfl)) | (refine' item_listK 0 (by exact rfl) (by k_asm) (by k_mem) (by exact rfl) (by first | assumption | (rw [sizeLine_eq]; exact Nat.le_of_ble_eq_true rfl)) ?_ (by with_unfolding_all rfl)) | (refine' item_tupK 1 (by exact rfl) (by k_asm) (by k_mem) (by exact rfl) (by first | assumption | (rw [sizeLine_eq]; exact Nat.le_of_ble_eq_true rfl)) ?_ (by with_unfolding_all rfl)) | (refine' item_listK 1 (by exact rfl) (by k_asm) (by k_mem) (by exact rfl) (by first | assumption | (rw [sizeLine_eq]; exact Nat.le_of_ble_eq_true rfl)) ?_ (by with_unfolding_all rfl)) | (refine' item_tupK 2 (by exact rfl) (by k_asm) (by k_mem) (by exact rfl) (by first | assumption | (rw [sizeLine_eq]; exact Nat.le_of_ble_eq_true rfl)) ?_ (by with_unfolding_all rfl)) | (refine' item_tupK 3 (by exact rfl) (by k_asm) (by k_mem) (by exact rfl) (by first | assumption | (rw [sizeLine_eq]; exact Nat.le_of_ble_eq_true rfl)) ?_ (by with_unfolding_all rfl)) | (refine' item_tupK 4 (by exact rfl) (by k_asm) (by k_mem) (by exact rfl) (by first | assumption | (rw [sizeLine_eq]; exact Nat.le_of_ble_eq_true rfl)) ?_ (by with_unfolding_all rfl))))) | fail "no word"); k_steps))))
        all_goals first
          | exact ⟨⟨(by trivial), _, _, _, _, _, rfl, by assumption, by assumption, (by exact congrArg (fun z => some (Value.int z _)) (by rw [if_pos (by omega +splitDisjunctions)])), (by exact congrArg (fun z => some (Value.int z _)) hfd), rfl, rfl, trivial⟩⟩
          | exact ⟨⟨(by trivial), _, _, _, _, _, rfl, by assumption, by assumption, (by exact congrArg (fun z => some (Value.int z _)) (by rw [if_neg (by omega +splitDisjunctions)]; rfl)), (by exact congrArg (fun z => some (Value.int z _)) hfd), rfl, rfl, trivial⟩⟩
      · rintro q hJ90
        refine hideG fun PP hPP => ?_
        obtain ⟨h8, tk8, m8, t8, t9, rfl, F8, N8, EE⟩ := hJ90
        refine hPP ?_
        clear hPP PP
        replace F8 := renL _ F8 EE
        (k_steps <;> repeat' ((first | with_reducible refine stop_out ?_ | with_reducible show wpAny _ _ _ _ _ _); (first | ((k_here; (with_reducible show wpAny _ _ (binaryOp _ _ _) _ _ _); k_dflt (refine' mul_int ?_ (by first | assumption | exact mulok_fmod _ | mul_fits)))) | ((k_here; (with_reducible show wpAny _ _ (call (Value.builtin "len") [Value.ref _]) _ _ _); k_dflt (refine' len_lst (by k_asm) (by k_mem) (by first | assumption | (rw [sizeLine_eq]; omega +splitDisjunctions) | (rw [sizeLine_eq]; exact Nat.le_of_ble_eq_true rfl)) ?_))) | ((k_here; (with_reducible show wpAny _ _ (subscriptTail _ _ (Value.ref _) (Value.int _ _)) _ _ _); k_dflt (first | (refine' item_list_at (by k_asm) (by k_mem) (by first | exact rfl | assumption) (by assumption) (by first | assumption | (rw [sizeLine_eq]; omega +splitDisjunctions)) ?_ (by with_unfolding_all rfl)) | (refine' item_tup_at (by k_asm) (by k_mem) (by first | exact rfl | assumption) (by assumption) (by first | assumption | (rw [sizeLine_eq]; omega +splitDisjunctions)) ?_ (by with_unfolding_all rfl)) | (refine' item_D (by k_asm) (by assumption) (by walk_at "sub") (by assumption) (by first | assumption | exact rfl) (by assumption) ?_ (by with_unfolding_all rfl) (by (intro _; with_unfolding_all rfl)); intro _ _)))) | ((k_here; (with_reducible show wpAny _ _ (subscriptTail _ _ (Value.ref _) (Value.int _ _)) _ _ _); k_dflt (first | (refine' item_tupK 0 (by exact rfl) (by k_asm) (by k_mem) (by exact rfl) (by first | assumption | (rw [sizeLine_eq]; exact Nat.le_of_ble_eq_true rfl)) ?_ (by with_unfolding_all rfl)) | (refine' item_listK 0 (by exact rfl) (by k_asm) (by k_mem) (by exact rfl) (by first | assumption | (rw [sizeLine_eq]; exact Nat.le_of_ble_eq_true rfl)) ?_ (by with_unfolding_all rfl)) | (refine' item_tupK 1 (by exact rfl) (by k_asm) (by k_mem) (by exact rfl) (by first | assumption | (rw [sizeLine_eq]; exact Nat.le_of_ble_eq_true rfl)) ?_ (by with_unfolding_all rfl)) | (refine' item_listK 1 (by exact rfl) (by k_asm) (by k_mem) (by exact rfl) (by first | assumption | (rw [sizeLine_eq]; exact Nat.le_of_ble_eq_true rfl)) ?_ (by with_unfolding_all rfl)) | (refine' item_tupK 2 (by exact rfl) (by k_asm) (by k_mem) (by exact rfl) (by first | assumption | (rw [sizeLine_eq]; exact Nat.le_of_ble_eq_true rfl)) ?_ (by with_unfolding_all rfl)) | (refine' item_tupK 3 (by exact rfl) (by k_asm) (by k_mem) (by exact rfl) (by first | assumption | (rw [sizeLine_eq]; exact Nat.le_of_ble_eq_true rfl)) ?_ (by with_unfolding_all rfl)) | (refine' item_tupK 4 (by exact rfl) (by k_asm) (by k_mem) (by exact rfl) (by first | assumption | (rw [sizeLine_eq]; exact Nat.le_of_ble_eq_true rfl)) ?_ (by with_unfolding_all rfl))))) | fail "no word"); k_steps))
        all_goals (try (((repeat (first | refine veil (by assumption) ?_ | refine turn_ret ?_ | refine turn_brk ?_ | refine wturn_ret ?_ | refine wturn_brk ?_)); (try dsimp only))))
        refine stmt_cut (fun q => ∃ h9 tk9 m9 t7, q = ⟨h9, ge', dr', tk9, os'⟩ ∧ Fr g' L' h9 m9 ∧ News g' L' h9 news ∧ AllB m9 [(Str.ofString "lower", .int ((if lo < 2 ^ n then blocks n lo (min hi (2 ^ n - 1)) else 0 : Nat) : Int) t9), (Str.ofString "upper", .int ((if 2 ^ n ≤ hi then blocks n (max lo (2 ^ n) - 2 ^ n) (hi - 2 ^ n) else 0 : Nat) : Int) t7)]) ?_ ?_
        · generalize (if lo < 2 ^ n then blocks n lo (min hi (2 ^ n - 1)) else 0) = lw at *
          (k_steps <;> repeat' ((first | with_reducible refine stop_out ?_ | with_reducible show wpAny _ _ _ _ _ _); (first | ((k_here; (with_reducible show wpAny _ _ (binaryOp _ _ _) _ _ _); k_dflt (refine' mul_int ?_ (by first | assumption | exact mulok_fmod _ | mul_fits)))) | ((k_here; (with_reducible show wpAny _ _ (call (Value.builtin "len") [Value.ref _]) _ _ _); k_dflt (refine' len_lst (by k_asm) (by k_mem) (by first | assumption | (rw [sizeLine_eq]; omega +splitDisjunctions) | (rw [sizeLine_eq]; exact Nat.le_of_ble_eq_true rfl)) ?_))) | ((k_here; (with_reducible show wpAny _ _ (subscriptTail _ _ (Value.ref _) (Value.int _ _)) _ _ _); k_dflt (first | (refine' item_list_at (by k_asm) (by k_mem) (by first | exact rfl | assumption) (by assumption) (by first | assumption | (rw [sizeLine_eq]; omega +splitDisjunctions)) ?_ (by with_unfolding_all rfl)) | (refine' item_tup_at (by k_asm) (by k_mem) (by first | exact rfl | assumption) (by assumption) (by first | assumption | (rw [sizeLine_eq]; omega +splitDisjunctions)) ?_ (by with_unfolding_all rfl)) | (refine' item_D (by k_asm) (by assumption) (by walk_at "sub") (by assumption) (by first | assumption | exact rfl) (by assumption) ?_ (by with_unfolding_all rfl) (by (intro _; with_unfolding_all rfl)); intro _ _)))) | ((k_here; (with_reducible show wpAny _ _ (subscriptTail _ _ (Value.ref _) (Value.int _ _)) _ _ _); k_dflt (first | (refine' item_tupK 0 (by exact rfl) (by k_asm) (by k_mem) (by exact rfl) (by first | assumption | (rw [sizeLine_eq]; exact Nat.le_of_ble_eq_true rfl)) ?_ (by with_unfolding_all rfl)) | (refine' item_listK 0 (by exact rfl) (by k_asm) (by k_mem) (by exact rfl) (by first | assumption | (rw [sizeLine_eq]; exact Nat.le_of_ble_eq_true rfl)) ?_ (by with_unfolding_all rfl)) | (refine' item_tupK 1 (by exact rfl) (by k_asm) (by k_mem) (by exact rfl) (by first | assumption | (rw [sizeLine_eq]; exact Nat.le_of_ble_eq_true rfl)) ?_ (by with_unfolding_all rfl)) | (refine' item_listK 1 (by exact rfl) (by k_asm) (by k_mem) (by exact rfl) (by first | assumption | (rw [sizeLine_eq]; exact Nat.le_of_ble_eq_true rfl)) ?_ (by with_unfolding_all rfl)) | (refine' item_tupK 2 (by exact rfl) (by k_asm) (by k_mem) (by exact rfl) (by first | assumption | (rw [sizeLine_eq]; exact Nat.le_of_ble_eq_true rfl)) ?_ (by with_unfolding_all rfl)) | (refine' item_tupK 3 (by exact rfl) (by k_asm) (by k_mem) (by exact rfl) (by first | assumption | (rw [sizeLine_eq]; exact Nat.le_of_ble_eq_true rfl)) ?_ (by with_unfolding_all rfl)) | (refine' item_tupK 4 (by exact rfl) (by k_asm) (by k_mem) (by exact rfl) (by first | assumption | (rw [sizeLine_eq]; exact Nat.le_of_ble_eq_true rfl)) ?_ (by with_unfolding_all rfl))))) | fail "no word"); k_steps))
          all_goals (try (((repeat (first | refine veil (by assumption) ?_ | refine turn_ret ?_ | refine turn_brk ?_ | refine wturn_ret ?_ | refine wturn_brk ?_)); (try dsimp only))))
          all_goals (try (
            refine use (ih (lo := max lo (2 ^ n) - 2 ^ n) (hi := hi - 2 ^ n) (by split <;> omega +splitDisjunctions) (by omega +splitDisjunctions) rfl (by omega +splitDisjunctions) (by omega +splitDisjunctions)) (by assumption) (by assumption) (by assumption) (Nat.le_refl _) ?_
            rintro r nx h' tk' F1 N1 hJ90
            refine hideG fun PP hPP => ?_
            obtain ⟨rfl, t9, rfl⟩ := hJ90
            refine hPP ?_
            clear hPP PP
            (k_steps <;> repeat' ((first | with_reducible refine stop_out ?_ | with_reducible show wpAny _ _ _ _ _ _); (first | ((k_here; (with_reducible show wpAny _ _ (binaryOp _ _ _) _ _ _); k_dflt (refine' mul_int ?_ (by first | assumption | exact mulok_fmod _ | mul_fits)))) | ((k_here; (with_reducible show wpAny _ _ (call (Value.builtin "len") [Value.ref _]) _ _ _); k_dflt (refine' len_lst (by k_asm) (by k_mem) (by first | assumption | (rw [sizeLine_eq]; omega +splitDisjunctions) | (rw [sizeLine_eq]; exact Nat.le_of_ble_eq_true rfl)) ?_))) | ((k_here; (with_reducible show wpAny _ _ (subscriptTail _ _ (Value.ref _) (Value.int _ _)) _ _ _); k_dflt (first | (refine' item_list_at (by k_asm) (by k_mem) (by first | exact rfl | assumption) (by assumption) (by first | assumption | (rw [sizeLine_eq]; omega +splitDisjunctions)) ?_ (by with_unfolding_all rfl)) | (refine' item_tup_at (by k_asm) (by k_mem) (by first | exact rfl | assumption) (by assumption) (by first | assumption | (rw [sizeLine_eq]; omega +splitDisjunctions)) ?_ (by with_unfolding_all rfl)) | (refine' item_D (by k_asm) (by assumption) (by walk_at "sub") (by assumption) (by first | assumption | exact rfl) (by assumption) ?_ (by with_unfolding_all rfl) (by (intro _; with_unfolding_all rfl)); intro _ _)))) | ((k_here; (with_reducible show wpAny _ _ (subscriptTail _ _ (Value.ref _) (Value.int _ _)) _ _ _); k_dflt (first | (refine' item_tupK 0 (by exact rfl) (by k_asm) (by k_mem) (by exact rfl) (by first | assumption | (rw [sizeLine_eq]; exact Nat.le_of_ble_eq_true rfl)) ?_ (by with_unfolding_all rfl)) | (refine' item_listK 0 (by exact rfl) (by k_asm) (by k_mem) (by exact rfl) (by first | assumption | (rw [sizeLine_eq]; exact Nat.le_of_ble_eq_true rfl)) ?_ (by with_unfolding_all rfl)) | (refine' item_tupK 1 (by exact rfl) (by k_asm) (by k_mem) (by exact rfl) (by first | assumption | (rw [sizeLine_eq]; exact Nat.le_of_ble_eq_true rfl)) ?_ (by with_unfolding_all rfl)) | (refine' item_listK 1 (by exact rfl) (by k_asm) (by k_mem) (by exact rfl) (by first | assumption | (rw [sizeLine_eq]; exact Nat.le_of_ble_eq_true rfl)) ?_ (by with_unfolding_all rfl)) | (refine' item_tupK 2 (by exact rfl) (by k_asm) (by k_mem) (by exact rfl) (by first | assumption | (rw [sizeLine_eq]; exact Nat.le_of_ble_eq_true rfl)) ?_ (by with_unfolding_all rfl)) | (refine' item_tupK 3 (by exact rfl) (by k_asm) (by k_mem) (by exact rfl) (by first | assumption | (rw [sizeLine_eq]; exact Nat.le_of_ble_eq_true rfl)) ?_ (by with_unfolding_all rfl)) | (refine' item_tupK 4 (by exact rfl) (by k_asm) (by k_mem) (by exact rfl) (by first | assumption | (rw [sizeLine_eq]; exact Nat.le_of_ble_eq_true rfl)) ?_ (by with_unfolding_all rfl))))) | fail "no word"); k_steps))))
          all_goals first
            | exact ⟨⟨(by trivial), _, _, _, _, rfl, by assumption, by assumption, rfl, (by exact congrArg (fun z => some (Value.int z _)) (by rw [if_pos (by omega +splitDisjunctions)])), trivial⟩⟩
            | exact ⟨⟨(by trivial), _, _, _, _, rfl, by assumption, by assumption, rfl, (by exact congrArg (fun z => some (Value.int z _)) (by rw [if_neg (by omega +splitDisjunctions)]; rfl)), trivial⟩⟩
        · rintro q hJ90
          refine hideG fun PP hPP => ?_
          obtain ⟨h7, tk7, m7, t7, rfl, F7, N7, EE⟩ := hJ90
          refine hPP ?_
          clear hPP PP
          clear F8 N8
          replace F7 := renL _ F7 EE
          (k_steps <;> repeat' ((first | with_reducible refine stop_out ?_ | with_reducible show wpAny _ _ _ _ _ _); (first | ((k_here; (with_reducible show wpAny _ _ (binaryOp _ _ _) _ _ _); k_dflt (refine' mul_int ?_ (by first | assumption | exact mulok_fmod _ | mul_fits)))) | ((k_here; (with_reducible show wpAny _ _ (call (Value.builtin "len") [Value.ref _]) _ _ _); k_dflt (refine' len_lst (by k_asm) (by k_mem) (by first | assumption | (rw [sizeLine_eq]; omega +splitDisjunctions) | (rw [sizeLine_eq]; exact Nat.le_of_ble_eq_true rfl)) ?_))) | ((k_here; (with_reducible show wpAny _ _ (subscriptTail _ _ (Value.ref _) (Value.int _ _)) _ _ _); k_dflt (first | (refine' item_list_at (by k_asm) (by k_mem) (by first | exact rfl | assumption) (by assumption) (by first | assumption | (rw [sizeLine_eq]; omega +splitDisjunctions)) ?_ (by with_unfolding_all rfl)) | (refine' item_tup_at (by k_asm) (by k_mem) (by first | exact rfl | assumption) (by assumption) (by first | assumption | (rw [sizeLine_eq]; omega +splitDisjunctions)) ?_ (by with_unfolding_all rfl)) | (refine' item_D (by k_asm) (by assumption) (by walk_at "sub") (by assumption) (by first | assumption | exact rfl) (by assumption) ?_ (by with_unfolding_all rfl) (by (intro _; with_unfolding_all rfl)); intro _ _)))) | ((k_here; (with_reducible show wpAny _ _ (subscriptTail _ _ (Value.ref _) (Value.int _ _)) _ _ _); k_dflt (first | (refine' item_tupK 0 (by exact rfl) (by k_asm) (by k_mem) (by exact rfl) (by first | assumption | (rw [sizeLine_eq]; exact Nat.le_of_ble_eq_true rfl)) ?_ (by with_unfolding_all rfl)) | (refine' item_listK 0 (by exact rfl) (by k_asm) (by k_mem) (by exact rfl) (by first | assumption | (rw [sizeLine_eq]; exact Nat.le_of_ble_eq_true rfl)) ?_ (by with_unfolding_all rfl)) | (refine' item_tupK 1 (by exact rfl) (by k_asm) (by k_mem) (by exact rfl) (by first | assumption | (rw [sizeLine_eq]; exact Nat.le_of_ble_eq_true rfl)) ?_ (by with_unfolding_all rfl)) | (refine' item_listK 1 (by exact rfl) (by k_asm) (by k_mem) (by exact rfl) (by first | assumption | (rw [sizeLine_eq]; exact Nat.le_of_ble_eq_true rfl)) ?_ (by with_unfolding_all rfl)) | (refine' item_tupK 2 (by exact rfl) (by k_asm) (by k_mem) (by exact rfl) (by first | assumption | (rw [sizeLine_eq]; exact Nat.le_of_ble_eq_true rfl)) ?_ (by with_unfolding_all rfl)) | (refine' item_tupK 3 (by exact rfl) (by k_asm) (by k_mem) (by exact rfl) (by first | assumption | (rw [sizeLine_eq]; exact Nat.le_of_ble_eq_true rfl)) ?_ (by with_unfolding_all rfl)) | (refine' item_tupK 4 (by exact rfl) (by k_asm) (by k_mem) (by exact rfl) (by first | assumption | (rw [sizeLine_eq]; exact Nat.le_of_ble_eq_true rfl)) ?_ (by with_unfolding_all rfl))))) | fail "no word"); k_steps))
          all_goals (try (((repeat (first | refine veil (by assumption) ?_ | refine turn_ret ?_ | refine turn_brk ?_ | refine wturn_ret ?_ | refine wturn_brk ?_)); (try dsimp only))))
          (try (((repeat (first | refine veil (by assumption) ?_ | refine turn_ret ?_ | refine turn_brk ?_ | refine wturn_ret ?_ | refine wturn_brk ?_)); (try dsimp only))))
          exact ⟨_, _, _, _, rfl, by assumption, by assumption, rfl, _, congrArg (fun z => Value.int z _) (by rw [hB, if_neg hne]; exact (Int.natCast_add _ _).symm)⟩
    · rintro v q hJ90
      refine hideG fun PP hPP => ?_
      obtain ⟨h9, tk9, m9, t9, rfl, F9, N9, rfl⟩ := hJ90
      refine hPP ?_
      clear hPP PP
      refine veil (by assumption) ?_
      (try (((repeat (first | refine veil (by assumption) ?_ | refine turn_ret ?_ | refine turn_brk ?_ | refine wturn_ret ?_ | refine wturn_brk ?_)); (try dsimp only))))
      exact ⟨_, _, _, _, rfl, F9, N9, rfl, _, rfl⟩
end
section
theorem off_F6 : True := by w_top off; trivial
variable {w : World} {mean : ExcName → Option Value} {mg mb : Str → Option Value} {news : List (Addr × Obj)}
local macro_rules | `(tactic| walk_at "subscriptTail Name Name ref int") => `(tactic| (k_here; (with_reducible show wpAny _ _ (subscriptTail _ _ (Value.ref $(Lean.mkIdent `dw)) _) _ _ _); refine stop_in ?_))
structure DOk (D : List (Nat × Wish)) : Prop where
  nd : (D.map (·.1)).Nodup
  mem : ∀ q ∈ D, (q.1 = 3 ∨ q.1 = 4 ∨ q.1 = 7) ∧ q.2.ok (bitsOf q.1)
  len : D.length < 64
theorem ints_at {vs : List Value} {ns : List Int} {v : Value} : ∀ (_ : IntsAre vs ns) {i : Nat} (_ : vs[i]? = some v), ∃ k t, ns[i]? = some k ∧ v = .int k t := by
  intro h
  induction h with
  | nil => intro i e; simp at e
  | cons a u r ih =>
    intro i e
    cases i with
    | zero => simp at e; exact ⟨a, u, rfl, e.symm⟩
    | succ i => simpa using ih (by simpa using e)
theorem fb {k : Int} {p : Nat} (h : k = (p : Int)) (hp : p = 3 ∨ p = 4 ∨ p = 7) : ([48, 48, 16, 12, 3, 32, 32, 8, 16, 16] : List Int).getD k.toNat 0 = ((bitsOf p : Nat) : Int) := by
  subst h; rcases hp with rfl | rfl | rfl <;> rfl
def RuleIn (w : World) (news : List (Addr × Obj)) (act : Str) (v : Value) (D : List (Nat × Wish)) : Prop :=
  ∃ x dx dw k1 k2 t, v = .ref x ∧ (x, instObj 117 dx) ∈ news ∧ (dx, dictOf [⟨PyData.keyHash w.params (Str.ofString "action"), .str (Str.ofString "action") k1, .str act t⟩, ⟨PyData.keyHash w.params (Str.ofString "wishes"), .str (Str.ofString "wishes") k2, .ref dw⟩] 2) ∈ news ∧ HasW w news dw D
theorem RuleIn.mono {a b : List (Addr × Obj)} {act : Str} {v : Value} {D : List (Nat × Wish)} (h : RuleIn w a act v D) (hs : ∀ p ∈ a, p ∈ b) : RuleIn w b act v D :=
  let ⟨x, dx, dw, k1, k2, t, e, m1, m2, W⟩ := h; ⟨x, dx, dw, k1, k2, t, e, hs _ m1, hs _ m2, W.mono hs⟩
theorem s_init {act : Str} {x dx dw : Addr} {t : Tok} {D : List (Nat × Wish)} (hs : act = Str.ofString "let" ∨ act = Str.ofString "drop") {P : List (Addr × Obj)} (hP : ∀ p ∈ P, p ∈ news) (W : HasW w P dw D) (G : DOk D) (hlt : ∀ p ∈ news, p.1 < dx) (hx : dx < x) :
    Spec w mean mg mb 95 4 [.ref x, .str act t, .ref dw] ((x, instObj 117 dx) :: (dx, dictOf [] 0) :: news) (fun news' r => r = .none ∧ ∃ tl, news' = tl ++ news ∧ RuleIn w (tl ++ P) act (.ref x) D) := by
  have hn := G.nd
  have h64 := G.len
  have hoff : ∀ p ∈ news, p.1 ≠ dx := fun p hp => Nat.ne_of_lt (hlt p hp)
  have hne : @Ne Nat x dx := Nat.ne_of_gt hx
  ((refine' spec_intro (by k_is) (by k_is) (by exact rfl) (by exact rfl) (by exact rfl) (by exact rfl) (by exact rfl) (by decide) ?_; k_whole; intro dp' un' gd' fr' envc' outer' A₀' base' g' L' h' ge' dr' os' tk' A9' E9' C' hr' hA' B' X' T' F' N' T' hT'; (try dsimp only [List.map, List.zip, List.zipWith, List.reverse, List.reverseAux] at F'); (try dsimp only); (try k_fold)))
  (k_steps <;> repeat' ((first | with_reducible refine stop_out ?_ | with_reducible show wpAny _ _ _ _ _ _); (first | ((k_here; (with_reducible show wpAny _ _ (call (Value.builtin "sorted") [Value.ref _]) _ _ _); k_dflt (refine' sorted_D (by exact rfl) (by k_asm) (by k_asm) (by (first | assumption | exact HasW.mono (by assumption) (by walk_at "sub"))) (by assumption) ?_); intro _ _ _ _ _ _ _ _ l1Q; (try k_lt l1Q); (try (revert l1Q; intro _)))) | ((k_here; (with_reducible show wpAny _ _ (call (Value.type "dict") [Value.ref _]) _ _ _); k_dflt (refine' dict_D (by exact Top.nolimit (by k_asm)) (by k_asm) (by k_asm) (by assumption) (by walk_at "sub") (by assumption) ?_); intro _ _ _ _ _ _ l1Q; (try k_lt l1Q); (try (revert l1Q; intro _)))) | ((k_here; (with_reducible show wpAny _ _ (subscriptTail _ _ (Value.ref _) (Value.int _ _)) _ _ _); k_dflt (first | (refine' item_list_at (by k_asm) (by k_mem) (by first | exact rfl | assumption) (by assumption) (by first | assumption | (rw [sizeLine_eq]; omega)) ?_ (by with_unfolding_all rfl)) | (refine' item_tup_at (by k_asm) (by k_mem) (by first | exact rfl | assumption) (by assumption) (by first | assumption | (rw [sizeLine_eq]; omega)) ?_ (by with_unfolding_all rfl)) | (refine' item_D (by k_asm) (by assumption) (by walk_at "sub") (by assumption) (by first | assumption | exact rfl) (by assumption) ?_ (by with_unfolding_all rfl) (by (intro _; with_unfolding_all rfl)); intro _ _)))) | fail "no word"); k_steps))
  all_goals (try (((repeat (first | refine veil (by assumption) ?_ | refine turn_ret ?_ | refine turn_brk ?_ | refine wturn_ret ?_ | refine wturn_brk ?_)); (try dsimp only))))
  refine stop_out ?_
  rename_i X' vs' n' tk' h' hI' F' N' l1
  refine for_list (vs := vs') (nn := n') rfl (by assumption) (fun i m nx => nx = (X', lstO vs' n') :: (x, instObj 117 dx) :: (dx, dictOf [] 0) :: news ∧ m (Str.ofString "self") = some (.ref x) ∧ m (Str.ofString "action") = some (.str act t) ∧ m (Str.ofString "wishes") = some (.ref dw)) ?_ ?_ ?_ ?_ PassesOwn.never
  · rintro i m nx ⟨rfl, _⟩; exact .head _
  · exact ⟨_, by assumption, rfl, rfl, rfl, rfl⟩
  · rintro i v m₁ nx h tk I oI hv hJ90 off F N TQ hTQ
    refine hideG fun PP hPP => ?_
    obtain ⟨rfl, e1, e2, e3⟩ := hJ90
    refine hPP ?_
    clear hPP PP
    have EE : AllB m₁ [(Str.ofString "self", .ref x), (Str.ofString "action", .str act t), (Str.ofString "wishes", .ref dw)] := ⟨e1, e2, e3, trivial⟩
    replace F := renL _ F EE
    refine hideG fun PP hPP => ?_
    obtain ⟨k, tk, hk, rfl⟩ := ints_at hI' hv
    refine hPP ?_
    clear hPP PP
    rw [List.getElem?_map] at hk
    refine hideG fun PP hPP => ?_
    obtain ⟨⟨p, y⟩, hp, rfl⟩ := Option.map_eq_some_iff.mp hk
    refine hPP ?_
    clear hPP PP
    have hm : (p, y) ∈ D := (srt_perm D).mem_iff.mp (List.mem_of_getElem? hp)
    obtain ⟨hp3, hok⟩ := G.mem _ hm
    generalize hkk : ((p, y).1 : Int) = k
    have hkk' : k = (p : Int) := hkk.symm
    (k_steps <;> repeat' ((first | with_reducible refine stop_out ?_ | with_reducible show wpAny _ _ _ _ _ _); (first | ((k_here; (with_reducible show wpAny _ _ (call (Value.builtin "sorted") [Value.ref _]) _ _ _); k_dflt (refine' sorted_D (by exact rfl) (by k_asm) (by k_asm) (by (first | assumption | exact HasW.mono (by assumption) (by walk_at "sub"))) (by assumption) ?_); intro _ _ _ _ _ _ _ _ l1Q; (try k_lt l1Q); (try (revert l1Q; intro _)))) | ((k_here; (with_reducible show wpAny _ _ (call (Value.type "dict") [Value.ref _]) _ _ _); k_dflt (refine' dict_D (by exact Top.nolimit (by k_asm)) (by k_asm) (by k_asm) (by assumption) (by walk_at "sub") (by assumption) ?_); intro _ _ _ _ _ _ l1Q; (try k_lt l1Q); (try (revert l1Q; intro _)))) | ((k_here; (with_reducible show wpAny _ _ (subscriptTail _ _ (Value.ref _) (Value.int _ _)) _ _ _); k_dflt (first | (refine' item_list_at (by k_asm) (by k_mem) (by first | exact rfl | assumption) (by assumption) (by first | assumption | (rw [sizeLine_eq]; omega)) ?_ (by with_unfolding_all rfl)) | (refine' item_tup_at (by k_asm) (by k_mem) (by first | exact rfl | assumption) (by assumption) (by first | assumption | (rw [sizeLine_eq]; omega)) ?_ (by with_unfolding_all rfl)) | (refine' item_D (by k_asm) (by assumption) (by walk_at "sub") (by assumption) (by first | assumption | exact rfl) (by assumption) ?_ (by with_unfolding_all rfl) (by (intro _; with_unfolding_all rfl)); intro _ _)))) | fail "no word"); k_steps))
    all_goals (try (((repeat (first | refine veil (by assumption) ?_ | refine turn_ret ?_ | refine turn_brk ?_ | refine wturn_ret ?_ | refine wturn_brk ?_)); (try dsimp only))))
    rw [fb hkk' hp3]
    have hb : bitsOf p ≤ 12 := by unfold bitsOf; split <;> (try split) <;> omega
    (rename News _ _ _ _ => N9)
    refine use (s_check_wish ((by assumption : DatIn P _ _).mono (fun p hp => by walk_at "mem")) hok (by omega)) (by assumption) (by assumption) N9 (by decide) ?_
    rintro r nx' h' tk' F2 N2 ⟨rfl, rfl⟩
    (k_steps <;> repeat' ((first | with_reducible refine stop_out ?_ | with_reducible show wpAny _ _ _ _ _ _); (first | ((k_here; (with_reducible show wpAny _ _ (call (Value.builtin "sorted") [Value.ref _]) _ _ _); k_dflt (refine' sorted_D (by exact rfl) (by k_asm) (by k_asm) (by (first | assumption | exact HasW.mono (by assumption) (by walk_at "sub"))) (by assumption) ?_); intro _ _ _ _ _ _ _ _ l1Q; (try k_lt l1Q); (try (revert l1Q; intro _)))) | ((k_here; (with_reducible show wpAny _ _ (call (Value.type "dict") [Value.ref _]) _ _ _); k_dflt (refine' dict_D (by exact Top.nolimit (by k_asm)) (by k_asm) (by k_asm) (by assumption) (by walk_at "sub") (by assumption) ?_); intro _ _ _ _ _ _ l1Q; (try k_lt l1Q); (try (revert l1Q; intro _)))) | ((k_here; (with_reducible show wpAny _ _ (subscriptTail _ _ (Value.ref _) (Value.int _ _)) _ _ _); k_dflt (first | (refine' item_list_at (by k_asm) (by k_mem) (by first | exact rfl | assumption) (by assumption) (by first | assumption | (rw [sizeLine_eq]; omega)) ?_ (by with_unfolding_all rfl)) | (refine' item_tup_at (by k_asm) (by k_mem) (by first | exact rfl | assumption) (by assumption) (by first | assumption | (rw [sizeLine_eq]; omega)) ?_ (by with_unfolding_all rfl)) | (refine' item_D (by k_asm) (by assumption) (by walk_at "sub") (by assumption) (by first | assumption | exact rfl) (by assumption) ?_ (by with_unfolding_all rfl) (by (intro _; with_unfolding_all rfl)); intro _ _)))) | fail "no word"); k_steps))
    all_goals (try (((repeat (first | refine veil (by assumption) ?_ | refine turn_ret ?_ | refine turn_brk ?_ | refine wturn_ret ?_ | refine wturn_brk ?_)); (try dsimp only))))
    refine turn_next _ (by assumption) (by assumption) (.head _) (fun p hp => .tail _ hp) off ⟨rfl, rfl, rfl, rfl⟩
  · rintro m₁ nx h tk hJ90 F N
    refine hideG fun PP hPP => ?_
    obtain ⟨rfl, e1, e2, e3⟩ := hJ90
    refine hPP ?_
    clear hPP PP
    rcases hs with rfl | rfl
    all_goals (
      have EE : AllB m₁ [(Str.ofString "self", .ref x), (Str.ofString "action", .str _ t), (Str.ofString "wishes", .ref dw)] := ⟨e1, e2, e3, trivial⟩
      replace F := renL _ F EE
      (k_steps <;> repeat' ((first | with_reducible refine stop_out ?_ | with_reducible show wpAny _ _ _ _ _ _); (first | ((k_here; (with_reducible show wpAny _ _ (call (Value.builtin "sorted") [Value.ref _]) _ _ _); k_dflt (refine' sorted_D (by exact rfl) (by k_asm) (by k_asm) (by (first | assumption | exact HasW.mono (by assumption) (by walk_at "sub"))) (by assumption) ?_); intro _ _ _ _ _ _ _ _ l1Q; (try k_lt l1Q); (try (revert l1Q; intro _)))) | ((k_here; (with_reducible show wpAny _ _ (call (Value.type "dict") [Value.ref _]) _ _ _); k_dflt (refine' dict_D (by exact Top.nolimit (by k_asm)) (by k_asm) (by k_asm) (by assumption) (by walk_at "sub") (by assumption) ?_); intro _ _ _ _ _ _ l1Q; (try k_lt l1Q); (try (revert l1Q; intro _)))) | ((k_here; (with_reducible show wpAny _ _ (subscriptTail _ _ (Value.ref _) (Value.int _ _)) _ _ _); k_dflt (first | (refine' item_list_at (by k_asm) (by k_mem) (by first | exact rfl | assumption) (by assumption) (by first | assumption | (rw [sizeLine_eq]; omega)) ?_ (by with_unfolding_all rfl)) | (refine' item_tup_at (by k_asm) (by k_mem) (by first | exact rfl | assumption) (by assumption) (by first | assumption | (rw [sizeLine_eq]; omega)) ?_ (by with_unfolding_all rfl)) | (refine' item_D (by k_asm) (by assumption) (by walk_at "sub") (by assumption) (by first | assumption | exact rfl) (by assumption) ?_ (by with_unfolding_all rfl) (by (intro _; with_unfolding_all rfl)); intro _ _)))) | fail "no word"); k_steps))
      all_goals (try (((repeat (first | refine veil (by assumption) ?_ | refine turn_ret ?_ | refine turn_brk ?_ | refine wturn_ret ?_ | refine wturn_brk ?_)); (try dsimp only))))
      (rename News _ _ _ _ => N9)
      (rename IsW _ _ _ _ _ => W9)
      (try (((repeat (first | refine veil (by assumption) ?_ | refine turn_ret ?_ | refine turn_brk ?_ | refine wturn_ret ?_ | refine wturn_brk ?_)); (try dsimp only))))
      refine ⟨_, _, _, _, rfl, by assumption, N9, rfl, [_, _, _, _, _], rfl, x, dx, _, _, _, _, rfl, by walk_at "mem", by walk_at "mem", _, List.mem_cons_self, ?_⟩
      exact W9.mono (fun p hp => List.mem_append_right _ hp))

theorem s_AclRule {act : Str} {dw : Addr} {t : Tok} {D : List (Nat × Wish)} (hs : act = Str.ofString "let" ∨ act = Str.ofString "drop") {P : List (Addr × Obj)} (hP : ∀ p ∈ P, p ∈ news) (W : HasW w P dw D) (G : DOk D) :
    Spec w mean mg mb 117 5 [.str act t, .ref dw] news (fun news' r => ∃ tl, news' = tl ++ news ∧ RuleIn w (tl ++ P) act r D) := by
  refine spec_cls (fI := 95) (by k_is) (by k_is) (by k_is) fun x dx l1 l2 => ?_
  intro A env outer A₀ base h₀ L m s R hr hA hf' hke B F X N T ret
  refine s_init hs hP W G l1 l2 A env outer A₀ base h₀ L m s R hr hA hf' hke B F X N T ?_
  rintro r news' h'' tk' F'' N'' K'' hJ90
  refine hideG fun PP hPP => ?_
  obtain ⟨rfl, tl, rfl, h⟩ := hJ90
  refine hPP ?_
  clear hPP PP
  exact ret _ _ _ _ F'' N'' K'' ⟨rfl, tl, rfl, h⟩
end
section
theorem off_F7 : True := by w_top off; trivial
variable {w : World} {mean : ExcName → Option Value} {mg mb : Str → Option Value} {news : List (Addr × Obj)}
local macro_rules | `(tactic| walk_at "subscriptTail Name Name ref int") => `(tactic| (k_here; refine stop_in ?_))
local macro_rules | `(tactic| walk_at "subscriptTail Attribute") => `(tactic| (k_here; k_dflt (refine kba_turn (value' := PySem.Expr.Name (PySem.Str.ofString "_") ⟨0, 0, 0, 0⟩) (fun _ => rfl) ?_)))
def rdat (p : Nat × Wish) : Dat := .tuple [.int p.1, p.2.dat]
theorem s_rows {act : Str} {v : Value} {D : List (Nat × Wish)} {P : List (Addr × Obj)} (hP : ∀ p ∈ P, p ∈ news) (h1 : RuleIn w P act v D) (G : DOk D) :
    Spec w mean mg mb 100 1 [v] news (fun news' r => ∃ tl, news' = tl ++ news ∧ DatIn (tl ++ P) r (.list ((srt D).map rdat))) := by
  have hn := G.nd
  have h64 := G.len
  refine hideG fun PP hPP => ?_
  obtain ⟨x, dx, dw, k1, k2, t, rfl, m1, m2, W⟩ := h1
  refine hPP ?_
  clear hPP PP
  replace m1 := hP _ m1
  replace m2 := hP _ m2
  ((refine' spec_introC (by k_is) (by k_is) (by exact rfl) (by exact rfl) (by decide +kernel) (by exact rfl) (by exact rfl) (by exact rfl) ?_; k_whole; intro dp' un' gd' fr' envc' outer' A₀' base' g' Lc hc0 ge' dr' os' tk0 cells' A9' E9' Cc hrc hAc Bc Xc Tc Fc Nc Y' l1 TQ hTQ; k_cells Y'; (try simp only [List.cons_append, List.nil_append] at Nc); (try dsimp only); (try k_fold)))
  (k_steps <;> repeat' ((first | with_reducible refine stop_out ?_ | with_reducible show wpAny _ _ _ _ _ _); (first | ((k_here; (with_reducible show wpAny _ _ (call (Value.builtin "sorted") [Value.ref _]) _ _ _); k_dflt (refine' sorted_D (by exact rfl) (by k_asm) (by k_asm) (by (first | assumption | exact HasW.mono (by assumption) (by walk_at "sub"))) (by assumption) ?_); intro _ _ _ _ _ _ _ _ l1Q; (try k_lt l1Q); (try (revert l1Q; intro _)))) | ((k_here; (with_reducible show wpAny _ _ (subscriptTail _ _ (Value.ref _) (Value.int _ _)) _ _ _); k_dflt (first | (refine' item_list_at (by k_asm) (by k_mem) (by first | exact rfl | assumption) (by assumption) (by first | assumption | (rw [sizeLine_eq]; omega)) ?_ (by with_unfolding_all rfl)) | (refine' item_tup_at (by k_asm) (by k_mem) (by first | exact rfl | assumption) (by assumption) (by first | assumption | (rw [sizeLine_eq]; omega)) ?_ (by with_unfolding_all rfl)) | (refine' item_D (by k_asm) (by assumption) (by walk_at "sub") (by assumption) (by first | assumption | exact rfl) (by assumption) ?_ (by with_unfolding_all rfl) (by (intro _; with_unfolding_all rfl)); intro _ _)))) | fail "no word"); k_steps))
  all_goals (try (((repeat (first | refine veil (by assumption) ?_ | refine turn_ret ?_ | refine turn_brk ?_ | refine wturn_ret ?_ | refine wturn_brk ?_)); (try dsimp only))))
  refine stop_out ?_
  refine LCg.ListComp_U (F₀ := by assumption) (by with_unfolding_all rfl) (by decide) (by rfl) (by decide) (by rfl) ?_
  (k_steps <;> repeat' ((first | with_reducible refine stop_out ?_ | with_reducible show wpAny _ _ _ _ _ _); (first | ((k_here; (with_reducible show wpAny _ _ (call (Value.builtin "sorted") [Value.ref _]) _ _ _); k_dflt (refine' sorted_D (by exact rfl) (by k_asm) (by k_asm) (by (first | assumption | exact HasW.mono (by assumption) (by walk_at "sub"))) (by assumption) ?_); intro _ _ _ _ _ _ _ _ l1Q; (try k_lt l1Q); (try (revert l1Q; intro _)))) | ((k_here; (with_reducible show wpAny _ _ (subscriptTail _ _ (Value.ref _) (Value.int _ _)) _ _ _); k_dflt (first | (refine' item_list_at (by k_asm) (by k_mem) (by first | exact rfl | assumption) (by assumption) (by first | assumption | (rw [sizeLine_eq]; omega)) ?_ (by with_unfolding_all rfl)) | (refine' item_tup_at (by k_asm) (by k_mem) (by first | exact rfl | assumption) (by assumption) (by first | assumption | (rw [sizeLine_eq]; omega)) ?_ (by with_unfolding_all rfl)) | (refine' item_D (by k_asm) (by assumption) (by walk_at "sub") (by assumption) (by first | assumption | exact rfl) (by assumption) ?_ (by with_unfolding_all rfl) (by (intro _; with_unfolding_all rfl)); intro _ _)))) | fail "no word"); k_steps))
  all_goals (try (((repeat (first | refine veil (by assumption) ?_ | refine turn_ret ?_ | refine turn_brk ?_ | refine wturn_ret ?_ | refine wturn_brk ?_)); (try dsimp only))))
  rename_i X' vs' n' tk1' h1' hI' F1' N1' l1'
  have hlen : vs'.length = D.length := by have := hI'.length; rw [List.length_map, (srt_perm D).length_eq] at this; exact this
  refine LCg.CompSrc.ledger rfl (by assumption) (by assumption) (by walk_at "mem") (by rw [sizeLine_eq]; simp; omega) ?_
  intro g1
  refine comp_rest (fun i ys nx => ∃ tl, nx = tl ++ (X', lstO vs' n') :: (_, _) :: news ∧ DatAll (tl ++ P) ys (((srt D).take i).map rdat)) ?_ ⟨[], rfl, .nil⟩ ?_ ?_
  · rintro i ys nx ⟨tl, rfl, _⟩; exact .inr ⟨_, by walk_at "mem", rfl, _, rfl⟩
  · rintro i ys nx v I oI C oC Dl m₂ h tk E' hi hJ90 hP hC hx F N off hJ91
    refine hideG fun PP hPP => ?_
    obtain ⟨tl, rfl, hd⟩ := hJ90
    obtain ⟨ne1, ne2, ne3⟩ := hJ91
    refine hPP ?_
    clear hPP PP
    refine hideG fun PP hPP => ?_
    obtain ⟨k, tk, hk, rfl⟩ := ints_at hI' (by simpa using hP)
    refine hPP ?_
    clear hPP PP
    rw [List.getElem?_map] at hk
    refine hideG fun PP hPP => ?_
    obtain ⟨⟨p, y⟩, hp, rfl⟩ := Option.map_eq_some_iff.mp hk
    refine hPP ?_
    clear hPP PP
    have hm : (p, y) ∈ D := (srt_perm D).mem_iff.mp (List.mem_of_getElem? hp)
    generalize hkk : ((p, y).1 : Int) = k at hx hP
    have hkk' : k = (p : Int) := hkk.symm
    (k_steps <;> repeat' ((first | with_reducible refine stop_out ?_ | with_reducible show wpAny _ _ _ _ _ _); (first | ((k_here; (with_reducible show wpAny _ _ (call (Value.builtin "sorted") [Value.ref _]) _ _ _); k_dflt (refine' sorted_D (by exact rfl) (by k_asm) (by k_asm) (by (first | assumption | exact HasW.mono (by assumption) (by walk_at "sub"))) (by assumption) ?_); intro _ _ _ _ _ _ _ _ l1Q; (try k_lt l1Q); (try (revert l1Q; intro _)))) | ((k_here; (with_reducible show wpAny _ _ (subscriptTail _ _ (Value.ref _) (Value.int _ _)) _ _ _); k_dflt (first | (refine' item_list_at (by k_asm) (by k_mem) (by first | exact rfl | assumption) (by assumption) (by first | assumption | (rw [sizeLine_eq]; omega)) ?_ (by with_unfolding_all rfl)) | (refine' item_tup_at (by k_asm) (by k_mem) (by first | exact rfl | assumption) (by assumption) (by first | assumption | (rw [sizeLine_eq]; omega)) ?_ (by with_unfolding_all rfl)) | (refine' item_D (by k_asm) (by assumption) (by walk_at "sub") (by assumption) (by first | assumption | exact rfl) (by assumption) ?_ (by with_unfolding_all rfl) (by (intro _; with_unfolding_all rfl)); intro _ _)))) | fail "no word"); k_steps))
    all_goals (try (((repeat (first | refine veil (by assumption) ?_ | refine turn_ret ?_ | refine turn_brk ?_ | refine wturn_ret ?_ | refine wturn_brk ?_)); (try dsimp only))))
    rename_i D' h' F' N' l1
    refine cturn_add (tl := []) F' N' (allLt_mem (show AllLt D' (_ :: _ :: _ :: _) from ⟨l1.1, l1.2.1, l1.2.2.1, l1.2.2.2⟩)) (fun _ h => nomatch h) off ⟨(_, _) :: tl, rfl, ?_⟩
    rw [take_map_snoc hp]
    exact all_snoc hd (fun p hp => .tail _ hp) (DatIn.tuple (.head _) (.cons (hkk' ▸ .int _ _) (.cons ((by assumption : DatIn P _ _).mono (fun p hp => by walk_at "mem")) .nil)))
  · rintro ys nx hJ90
    refine hideG fun PP hPP => ?_
    obtain ⟨tl, rfl, hd⟩ := hJ90
    refine hPP ?_
    clear hPP PP
    intro Df hf tkf Ff Nf of
    (try (((repeat (first | refine veil (by assumption) ?_ | refine turn_ret ?_ | refine turn_brk ?_ | refine wturn_ret ?_ | refine wturn_brk ?_)); (try dsimp only))))
    (try (((repeat (first | refine veil (by assumption) ?_ | refine turn_ret ?_ | refine turn_brk ?_ | refine wturn_ret ?_ | refine wturn_brk ?_)); (try dsimp only))))
    refine ⟨_, _, (Df, LCg.lst ys) :: (tl ++ (X', lstO vs' n') :: (_, _) :: news), _, rfl, Ff, Nf, (Df, LCg.lst ys) :: (tl ++ [(X', lstO vs' n'), _]), congrArg (List.cons _) app2, ?_⟩
    have e : List.take vs'.toArray.size (srt D) = srt D := List.take_of_length_le (by rw [(srt_perm D).length_eq]; simp [hlen])
    rw [e] at hd
    exact DatIn.list (.head _) (hd.mono fun p hp => .tail _ (by rcases List.mem_append.mp hp with h | h; exact List.mem_append_left _ (List.mem_append_left _ h); exact List.mem_append_right _ h))
end
section
theorem off_F8 : True := by w_top off; trivial
variable {w : World} {mean : ExcName → Option Value} {mg mb : Str → Option Value} {news : List (Addr × Obj)}
local macro_rules | `(tactic| walk_at "subscriptTail Name Name ref int") => `(tactic| (k_here; refine stop_in ?_))
structure KeyOk (ks : List Int) : Prop where
  len : ks.length = 10
  pos : ∀ k ∈ ks, k = -1 ∨ 0 ≤ k
def KeyIn (news : List (Addr × Obj)) (v : Value) (ks : List Int) : Prop := ∃ kt kvs n, v = .ref kt ∧ (kt, tupO kvs n) ∈ news ∧ IntsAre kvs ks
theorem KeyIn.mono {a b : List (Addr × Obj)} {v : Value} {ks : List Int} (h : KeyIn a v ks) (hs : ∀ p ∈ a, p ∈ b) : KeyIn b v ks := let ⟨a, b, c, d, e, f⟩ := h; ⟨a, b, c, d, hs _ e, f⟩
def keyAt (ks : List Int) (p : Nat) : Int := ks.getD p 0
def rowsHold (R : List (Nat × Wish)) (ks : List Int) : Bool := R.all fun p => p.2.holds (keyAt ks p.1)
theorem rdat_in {news : List (Addr × Obj)} {v : Value} {q : Nat × Wish} (h : DatIn news v (rdat q)) : ∃ y n t u, v = .ref y ∧ (y, tupO [.int q.1 t, u] n) ∈ news ∧ DatIn news u q.2.dat := by
  cases h with | tuple m r => cases r with | cons x1 r => cases r with | cons x2 r => cases r; cases x1; exact ⟨_, _, _, _, rfl, m, x2⟩
theorem key_get {vs : List Value} {ks : List Int} {p : Nat} (h : IntsAre vs ks) (K : KeyOk ks) (hp : p = 3 ∨ p = 4 ∨ p = 7) : ∃ t, vs[p]? = some (.int (keyAt ks p) t) ∧ (keyAt ks p = -1 ∨ 0 ≤ keyAt ks p) := by
  have hl : p < ks.length := by rw [K.len]; omega
  have hv : p < vs.length := by rw [h.length]; exact hl
  obtain ⟨k, t, h1, h2⟩ := ints_at h (List.getElem?_eq_getElem hv)
  rw [List.getElem?_eq_getElem hl] at h1
  have e : keyAt ks p = k := by unfold keyAt; rw [List.getD_eq_getElem?_getD, List.getElem?_eq_getElem hl, h1]; rfl
  refine ⟨t, ?_, ?_⟩
  · rw [List.getElem?_eq_getElem hv, h2, e]
  · rw [e]; cases h1; exact K.pos _ (List.getElem_mem _)

theorem s_matches {act : Str} {v kv : Value} {D : List (Nat × Wish)} {ks : List Int} (h1 : RuleIn w news act v D) (G : DOk D) (hk : KeyIn news kv ks) (K : KeyOk ks) :
    Spec w mean mg mb 107 2 [v, kv] news (fun news' r => news' = news ∧ r = .bool (rowsHold (srt D) ks)) := by
  have h2 := h1
  refine hideG fun PP hPP => ?_
  obtain ⟨x, dx, dw, k1, k2, t, rfl, m1, m2, W⟩ := h2
  refine hPP ?_
  clear hPP PP
  refine hideG fun PP hPP => ?_
  obtain ⟨kt, kvs, kn, rfl, mk, hI⟩ := hk
  refine hPP ?_
  clear hPP PP
  have hz : kvs.length ≤ sizeLine := by rw [hI.length, K.len, sizeLine_eq]; omega
  ((refine' spec_intro (by k_is) (by k_is) (by exact rfl) (by exact rfl) (by exact rfl) (by exact rfl) (by exact rfl) (by decide) ?_; k_whole; intro dp' un' gd' fr' envc' outer' A₀' base' g' L' h' ge' dr' os' tk' A9' E9' C' hr' hA' B' X' T' F' N' T' hT'; (try dsimp only [List.map, List.zip, List.zipWith, List.reverse, List.reverseAux] at F'); (try dsimp only); (try k_fold)))
  (k_steps <;> repeat' ((first | with_reducible refine stop_out ?_ | with_reducible show wpAny _ _ _ _ _ _); (first | ((k_here; (with_reducible show wpAny _ _ (subscriptTail _ _ (Value.ref _) (Value.int _ _)) _ _ _); k_dflt (first | (refine' item_list_at (by k_asm) (by k_mem) (by first | exact rfl | assumption) (by assumption) (by first | assumption | (rw [sizeLine_eq]; omega)) ?_ (by with_unfolding_all rfl)) | (refine' item_tup_at (by k_asm) (by k_mem) (by first | exact rfl | assumption) (by assumption) (by first | assumption | (rw [sizeLine_eq]; omega)) ?_ (by with_unfolding_all rfl)) | (refine' item_D (by k_asm) (by assumption) (by walk_at "sub") (by assumption) (by first | assumption | exact rfl) (by assumption) ?_ (by with_unfolding_all rfl) (by (intro _; with_unfolding_all rfl)); intro _ _)))) | fail "no word"); k_steps))
  all_goals (try (((repeat (first | refine veil (by assumption) ?_ | refine turn_ret ?_ | refine turn_brk ?_ | refine wturn_ret ?_ | refine wturn_brk ?_)); (try dsimp only))))
  (rename News _ _ _ _ => N9)
  refine use (s_rows (fun p hp => hp) h1 G) (by assumption) (by assumption) N9 (by decide) ?_
  rintro r nx h' tk' F1 N1 hJ90
  refine hideG fun PP hPP => ?_
  obtain ⟨tl, rfl, Dr⟩ := hJ90
  refine hPP ?_
  clear hPP PP
  refine hideG fun PP hPP => ?_
  obtain ⟨l, nl, vs, rfl, ml, Dr⟩ := dat_list Dr
  refine hPP ?_
  clear hPP PP
  (k_steps <;> repeat' ((first | with_reducible refine stop_out ?_ | with_reducible show wpAny _ _ _ _ _ _); (first | ((k_here; (with_reducible show wpAny _ _ (subscriptTail _ _ (Value.ref _) (Value.int _ _)) _ _ _); k_dflt (first | (refine' item_list_at (by k_asm) (by k_mem) (by first | exact rfl | assumption) (by assumption) (by first | assumption | (rw [sizeLine_eq]; omega)) ?_ (by with_unfolding_all rfl)) | (refine' item_tup_at (by k_asm) (by k_mem) (by first | exact rfl | assumption) (by assumption) (by first | assumption | (rw [sizeLine_eq]; omega)) ?_ (by with_unfolding_all rfl)) | (refine' item_D (by k_asm) (by assumption) (by walk_at "sub") (by assumption) (by first | assumption | exact rfl) (by assumption) ?_ (by with_unfolding_all rfl) (by (intro _; with_unfolding_all rfl)); intro _ _)))) | fail "no word"); k_steps))
  all_goals (try (((repeat (first | refine veil (by assumption) ?_ | refine turn_ret ?_ | refine turn_brk ?_ | refine wturn_ret ?_ | refine wturn_brk ?_)); (try dsimp only))))
  refine stop_out ?_
  refine for_list (vs := vs) (nn := nl) rfl (by assumption) (fun i m nx => nx = tl ++ news ∧ (∀ j q, j < i → (srt D)[j]? = some q → q.2.holds (keyAt ks q.1) = true) ∧ m (Str.ofString "key") = some (.ref kt)) ?_ ?_ ?_ ?_ PassesOwn.never
  · rintro i m nx ⟨rfl, _⟩; exact ml
  · exact ⟨_, by assumption, rfl, fun _ _ h => absurd h (Nat.not_lt_zero _), rfl⟩
  · rintro i v m₁ nx h tk I oI hv hJ90 off F N TQ hTQ
    refine hideG fun PP hPP => ?_
    obtain ⟨rfl, hj, e1⟩ := hJ90
    refine hPP ?_
    clear hPP PP
    have EE : AllB m₁ [(Str.ofString "key", .ref kt)] := ⟨e1, trivial⟩
    replace F := renL _ F EE
    refine hideG fun PP hPP => ?_
    obtain ⟨⟨p, y⟩, hq, Dq⟩ := dat_map Dr hv
    refine hPP ?_
    clear hPP PP
    have hm : (p, y) ∈ D := (srt_perm D).mem_iff.mp (List.mem_of_getElem? hq)
    obtain ⟨hp3, hok⟩ := G.mem _ hm
    refine hideG fun PP hPP => ?_
    obtain ⟨yy, yn, yt, yu, rfl, my, Dy⟩ := rdat_in Dq
    refine hPP ?_
    clear hPP PP
    refine hideG fun PP hPP => ?_
    obtain ⟨tk2, hx, hpos⟩ := key_get hI K hp3
    refine hPP ?_
    clear hPP PP
    have my2 : (yy, tupO [.int (p : Int) yt, yu] yn) ∈ tl ++ news := my
    (k_steps <;> repeat' ((first | with_reducible refine stop_out ?_ | with_reducible show wpAny _ _ _ _ _ _); (first | ((k_here; (with_reducible show wpAny _ _ (subscriptTail _ _ (Value.ref _) (Value.int _ _)) _ _ _); k_dflt (first | (refine' item_list_at (by k_asm) (by k_mem) (by first | exact rfl | assumption) (by assumption) (by first | assumption | (rw [sizeLine_eq]; omega)) ?_ (by with_unfolding_all rfl)) | (refine' item_tup_at (by k_asm) (by k_mem) (by first | exact rfl | assumption) (by assumption) (by first | assumption | (rw [sizeLine_eq]; omega)) ?_ (by with_unfolding_all rfl)) | (refine' item_D (by k_asm) (by assumption) (by walk_at "sub") (by assumption) (by first | assumption | exact rfl) (by assumption) ?_ (by with_unfolding_all rfl) (by (intro _; with_unfolding_all rfl)); intro _ _)))) | fail "no word"); k_steps))
    all_goals (try (((repeat (first | refine veil (by assumption) ?_ | refine turn_ret ?_ | refine turn_brk ?_ | refine wturn_ret ?_ | refine wturn_brk ?_)); (try dsimp only))))
    (rename News _ _ _ _ => N9)
    refine use (s_wish_holds (Dy.mono fun p hp => by walk_at "mem") hpos) (by assumption) (by assumption) N9 (by decide) ?_
    rintro r nx' h' tk' F2 N2 ⟨rfl, rfl⟩
    (k_steps <;> repeat' ((first | with_reducible refine stop_out ?_ | with_reducible show wpAny _ _ _ _ _ _); (first | ((k_here; (with_reducible show wpAny _ _ (subscriptTail _ _ (Value.ref _) (Value.int _ _)) _ _ _); k_dflt (first | (refine' item_list_at (by k_asm) (by k_mem) (by first | exact rfl | assumption) (by assumption) (by first | assumption | (rw [sizeLine_eq]; omega)) ?_ (by with_unfolding_all rfl)) | (refine' item_tup_at (by k_asm) (by k_mem) (by first | exact rfl | assumption) (by assumption) (by first | assumption | (rw [sizeLine_eq]; omega)) ?_ (by with_unfolding_all rfl)) | (refine' item_D (by k_asm) (by assumption) (by walk_at "sub") (by assumption) (by first | assumption | exact rfl) (by assumption) ?_ (by with_unfolding_all rfl) (by (intro _; with_unfolding_all rfl)); intro _ _)))) | fail "no word"); k_steps))
    all_goals (try (((repeat (first | refine veil (by assumption) ?_ | refine turn_ret ?_ | refine turn_brk ?_ | refine wturn_ret ?_ | refine wturn_brk ?_)); (try dsimp only))))
    · refine turn_next (tl ++ news) (by assumption) (by assumption) (.head _) (fun p hp => .tail _ hp) off ⟨rfl, step_all (P := fun q : Nat × Wish => q.2.holds (keyAt ks q.1) = true) hj hq (by assumption), rfl⟩
    · (try (((repeat (first | refine veil (by assumption) ?_ | refine turn_ret ?_ | refine turn_brk ?_ | refine wturn_ret ?_ | refine wturn_brk ?_)); (try dsimp only))))
      refine ⟨_, _, news, _, rfl, by assumption, nsub (by assumption) (fun p hp => .tail _ (List.mem_append_right _ hp)), rfl, congrArg Value.bool (Eq.symm ?_)⟩
      rw [rowsHold, List.all_eq_false]
      exact ⟨_, List.mem_of_getElem? hq, by simpa using (by assumption)⟩
  · rintro m₁ nx h tk hJ90 F N
    refine hideG fun PP hPP => ?_
    obtain ⟨rfl, hj, e1⟩ := hJ90
    refine hPP ?_
    clear hPP PP
    (k_steps <;> repeat' ((first | with_reducible refine stop_out ?_ | with_reducible show wpAny _ _ _ _ _ _); (first | ((k_here; (with_reducible show wpAny _ _ (subscriptTail _ _ (Value.ref _) (Value.int _ _)) _ _ _); k_dflt (first | (refine' item_list_at (by k_asm) (by k_mem) (by first | exact rfl | assumption) (by assumption) (by first | assumption | (rw [sizeLine_eq]; omega)) ?_ (by with_unfolding_all rfl)) | (refine' item_tup_at (by k_asm) (by k_mem) (by first | exact rfl | assumption) (by assumption) (by first | assumption | (rw [sizeLine_eq]; omega)) ?_ (by with_unfolding_all rfl)) | (refine' item_D (by k_asm) (by assumption) (by walk_at "sub") (by assumption) (by first | assumption | exact rfl) (by assumption) ?_ (by with_unfolding_all rfl) (by (intro _; with_unfolding_all rfl)); intro _ _)))) | fail "no word"); k_steps))
    all_goals (try (((repeat (first | refine veil (by assumption) ?_ | refine turn_ret ?_ | refine turn_brk ?_ | refine wturn_ret ?_ | refine wturn_brk ?_)); (try dsimp only))))
    (try (((repeat (first | refine veil (by assumption) ?_ | refine turn_ret ?_ | refine turn_brk ?_ | refine wturn_ret ?_ | refine wturn_brk ?_)); (try dsimp only))))
    refine ⟨_, _, news, _, rfl, F, nsub N (fun p hp => List.mem_append_right _ hp), rfl, congrArg Value.bool (Eq.symm ?_)⟩
    rw [rowsHold, List.all_eq_true]
    have := Dr.length
    rw [List.length_map] at this
    exact done_all (P := fun q : Nat × Wish => q.2.holds (keyAt ks q.1) = true) hj (by omega)
end
section
theorem off_F9 : True := by w_top off; trivial
variable {w : World} {mean : ExcName → Option Value} {mg mb : Str → Option Value} {news : List (Addr × Obj)}
theorem eturn_ret {h₀ : Heap} {L I I2 : Addr} {oI oI2 : Obj} {s s₃ : Shared} {Jn : (Str → Option Value) → List (Addr × Obj) → Prop} {Q : Flow → Shared → Prop} {v : Value} (x : Q (.ret v) s₃) : ETurn h₀ L I I2 oI oI2 s Jn Q (.ret v) s₃ := x
inductive RAll (w : World) (news : List (Addr × Obj)) (act : Str) : List Value → List (List (Nat × Wish)) → Prop
  | nil : RAll w news act [] []
  | cons {v : Value} {D : List (Nat × Wish)} {vs : List Value} {Ds : List (List (Nat × Wish))} : RuleIn w news act v D → RAll w news act vs Ds → RAll w news act (v :: vs) (D :: Ds)
theorem RAll.mono {a b : List (Addr × Obj)} {act : Str} {vs : List Value} {Ds : List (List (Nat × Wish))} (h : RAll w a act vs Ds) (hs : ∀ p ∈ a, p ∈ b) : RAll w b act vs Ds := by
  induction h with
  | nil => exact .nil
  | cons r q ih => exact .cons (r.mono hs) ih
theorem RAll.length {a : List (Addr × Obj)} {act : Str} {vs : List Value} {Ds : List (List (Nat × Wish))} (h : RAll w a act vs Ds) : vs.length = Ds.length := by
  induction h with
  | nil => rfl
  | cons r q ih => simp [ih]
theorem RAll.at {a : List (Addr × Obj)} {act : Str} {vs : List Value} {Ds : List (List (Nat × Wish))} (h : RAll w a act vs Ds) : ∀ {i : Nat} {v : Value}, vs[i]? = some v → ∃ D, Ds[i]? = some D ∧ RuleIn w a act v D := by
  induction h with
  | nil => intro i v e; simp at e
  | cons r q ih =>
    intro i v e
    cases i with
    | zero => simp at e; subst e; exact ⟨_, rfl, r⟩
    | succ i => simpa using ih (by simpa using e)
theorem RAll.snoc {a b : List (Addr × Obj)} {act : Str} {vs : List Value} {Ds : List (List (Nat × Wish))} {v : Value} {D : List (Nat × Wish)} (h : RAll w a act vs Ds) (hs : ∀ p ∈ a, p ∈ b) (hv : RuleIn w b act v D) : RAll w b act (vs ++ [v]) (Ds ++ [D]) := by
  induction h with
  | nil => exact .cons hv .nil
  | cons r q ih => exact .cons (r.mono hs) ih
def firstOf (Ds : List (List (Nat × Wish))) (ks : List Int) : Option Nat := Ds.findIdx? fun D => rowsHold (srt D) ks
theorem first_some {Ds : List (List (Nat × Wish))} {ks : List Int} {i : Nat} {D : List (Nat × Wish)} (hD : Ds[i]? = some D) (h : rowsHold (srt D) ks = true) (hj : ∀ j q, j < i → Ds[j]? = some q → rowsHold (srt q) ks = false) : firstOf Ds ks = some i := by
  obtain ⟨hl, e⟩ := List.getElem?_eq_some_iff.mp hD
  refine List.findIdx?_eq_some_iff_getElem.mpr ⟨hl, by rw [e]; exact h, fun j hji => ?_⟩
  rw [hj j _ hji (List.getElem?_eq_getElem (by omega))]
  decide
theorem first_none {Ds : List (List (Nat × Wish))} {ks : List Int} (hj : ∀ q ∈ Ds, rowsHold (srt q) ks = false) : firstOf Ds ks = none :=
  List.findIdx?_eq_none_iff.mpr hj
def NatOr (r : Value) : Option Nat → Prop
  | none => r = .none
  | some i => ∃ t, r = .int (i : Nat) t

theorem s_first_match {act : Str} {rl : Addr} {rvs : List Value} {rn : Nat} {kv : Value} {Ds : List (List (Nat × Wish))} {ks : List Int} (ml : (rl, lstO rvs rn) ∈ news) (R : RAll w news act rvs Ds) (G : ∀ D ∈ Ds, DOk D) (hk : KeyIn news kv ks) (K : KeyOk ks) :
    Spec w mean mg mb 182 3 [.ref rl, kv] news (fun news' r => news' = news ∧ NatOr r (firstOf Ds ks)) := by
  ((refine' spec_intro (by k_is) (by k_is) (by exact rfl) (by exact rfl) (by exact rfl) (by exact rfl) (by exact rfl) (by decide) ?_; k_whole; intro dp' un' gd' fr' envc' outer' A₀' base' g' L' h' ge' dr' os' tk' A9' E9' C' hr' hA' B' X' T' F' N' T' hT'; (try dsimp only [List.map, List.zip, List.zipWith, List.reverse, List.reverseAux] at F'); (try dsimp only); (try k_fold)))
  k_steps
  all_goals (try (((repeat (first | refine veil (by assumption) ?_ | refine turn_ret ?_ | refine turn_brk ?_ | refine wturn_ret ?_ | refine wturn_brk ?_)); (try dsimp only))))
  refine stop_out ?_
  refine for_enum (vs := rvs) (nn := rn) rfl (by assumption) (fun i m nx => nx = news ∧ (∀ j q, j < i → Ds[j]? = some q → rowsHold (srt q) ks = false) ∧ m (Str.ofString "key") = some kv) ?_ ?_ ?_ ?_ PassesOwn.never
  · rintro i m nx ⟨rfl, _⟩; exact ml
  · exact ⟨_, by assumption, rfl, fun _ _ h => absurd h (Nat.not_lt_zero _), rfl⟩
  · rintro i v m₁ nx h tk T t I oI I2 oI2 hv hJ90 off ne1 ne2 F N TQ hTQ
    refine hideG fun PP hPP => ?_
    obtain ⟨rfl, hj, e1⟩ := hJ90
    refine hPP ?_
    clear hPP PP
    have EE : AllB m₁ [(Str.ofString "key", kv)] := ⟨e1, trivial⟩
    replace F := renL _ F EE
    refine hideG fun PP hPP => ?_
    obtain ⟨D, hD, RD⟩ := R.at hv
    refine hPP ?_
    clear hPP PP
    have RD2 := RD
    refine hideG fun PP hPP => ?_
    obtain ⟨x, dx, dw, k1, k2, t, rfl, m1, m2, W⟩ := RD2
    refine hPP ?_
    clear hPP PP
    k_steps
    all_goals (try (((repeat (first | refine veil (by assumption) ?_ | refine turn_ret ?_ | refine turn_brk ?_ | refine wturn_ret ?_ | refine wturn_brk ?_)); (try dsimp only))))
    (rename News _ _ _ _ => N9)
    refine use (s_matches (RD.mono fun p hp => by walk_at "mem") (G D (List.mem_of_getElem? hD)) (hk.mono fun p hp => by walk_at "mem") K) (by assumption) (by assumption) N9 (by decide) ?_
    rintro r nx' h' tk' F2 N2 ⟨rfl, rfl⟩
    k_steps
    all_goals (try (((repeat (first | refine veil (by assumption) ?_ | refine turn_ret ?_ | refine turn_brk ?_ | refine wturn_ret ?_ | refine wturn_brk ?_)); (try dsimp only))))
    · refine eturn_ret ?_
      (try (((repeat (first | refine veil (by assumption) ?_ | refine turn_ret ?_ | refine turn_brk ?_ | refine wturn_ret ?_ | refine wturn_brk ?_)); (try dsimp only))))
      refine ⟨_, _, nx, _, rfl, by assumption, nsub (by assumption) (fun p hp => .tail _ (.tail _ (.tail _ hp))), rfl, ?_⟩
      rw [first_some hD (by assumption) hj]
      exact ⟨_, rfl⟩
    · (try (((repeat (first | refine veil (by assumption) ?_ | refine turn_ret ?_ | refine turn_brk ?_ | refine wturn_ret ?_ | refine wturn_brk ?_)); (try dsimp only))))
      refine ⟨_, _, _, nx, _, rfl, by assumption, by assumption, .tail _ (.head _), .tail _ (.tail _ (.head _)), (fun p hp => .tail _ (.tail _ (.tail _ hp))), off, rfl, step_all (P := fun q => rowsHold (srt q) ks = false) hj hD ?_, rfl⟩
      first | assumption | exact Bool.eq_false_iff.mpr (by assumption)
  · rintro m₁ nx h tk hJ90 F N
    refine hideG fun PP hPP => ?_
    obtain ⟨rfl, hj, e1⟩ := hJ90
    refine hPP ?_
    clear hPP PP
    k_steps
    all_goals (try (((repeat (first | refine veil (by assumption) ?_ | refine turn_ret ?_ | refine turn_brk ?_ | refine wturn_ret ?_ | refine wturn_brk ?_)); (try dsimp only))))
    (try (((repeat (first | refine veil (by assumption) ?_ | refine turn_ret ?_ | refine turn_brk ?_ | refine wturn_ret ?_ | refine wturn_brk ?_)); (try dsimp only))))
    refine ⟨_, _, nx, _, rfl, F, N, rfl, ?_⟩
    rw [first_none (done_all (P := fun q => rowsHold (srt q) ks = false) hj (by rw [R.length]; exact Nat.le_refl _))]
    rfl
end
section
theorem off_G1 : True := by w_top off; trivial
variable {w : World} {mean : ExcName → Option Value} {mg mb : Str → Option Value} {news : List (Addr × Obj)}
local macro_rules | `(tactic| walk_at "subscriptTail Name Name ref int") => `(tactic| (k_here; refine stop_in ?_))
def orow (p : Nat × List (Nat × Wish)) : Dat := .tuple [.int p.1, .tuple (p.2.map rdat)]
def openRows (Ds : List (List (Nat × Wish))) : List (Nat × List (Nat × Wish)) := Ds.zipIdx.map fun p => (p.2, srt p.1)
theorem openRows_at {Ds : List (List (Nat × Wish))} {i : Nat} {D : List (Nat × Wish)} (h : Ds[i]? = some D) : (openRows Ds)[i]? = some (i, srt D) := by
  unfold openRows
  rw [List.getElem?_map, List.getElem?_zipIdx, h]; simp
theorem openRows_len (Ds : List (List (Nat × Wish))) : (openRows Ds).length = Ds.length := by simp [openRows]

theorem s_open_rows {act : Str} {rl : Addr} {rvs : List Value} {rn : Nat} {Ds : List (List (Nat × Wish))} (ml : (rl, lstO rvs rn) ∈ news) (R : RAll w news act rvs Ds) (G : ∀ D ∈ Ds, DOk D) (hz : rvs.length ≤ 1000) :
    Spec w mean mg mb 187 2 [.ref rl] news (fun news' r => (∃ tl, news' = tl ++ news) ∧ DatIn news' r (.list ((openRows Ds).map orow))) := by
  have hz2 : rvs.length ≤ sizeLine := by rw [sizeLine_eq]; omega
  ((refine' spec_introC (by k_is) (by k_is) (by exact rfl) (by exact rfl) (by decide +kernel) (by exact rfl) (by exact rfl) (by exact rfl) ?_; k_whole; intro dp' un' gd' fr' envc' outer' A₀' base' g' Lc hc0 ge' dr' os' tk0 cells' A9' E9' Cc hrc hAc Bc Xc Tc Fc Nc Y' l1 TQ hTQ; k_cells Y'; (try simp only [List.cons_append, List.nil_append] at Nc); (try dsimp only); (try k_fold)))
  (k_steps <;> repeat' ((first | with_reducible refine stop_out ?_ | with_reducible show wpAny _ _ _ _ _ _); (first | ((k_here; (with_reducible show wpAny _ _ (call (Value.builtin "len") [Value.ref _]) _ _ _); k_dflt (refine' len_lst (by k_asm) (by k_mem) (by first | assumption | (rw [sizeLine_eq]; omega) | (rw [sizeLine_eq]; exact Nat.le_of_ble_eq_true rfl)) ?_))) | ((k_here; (with_reducible show wpAny _ _ (call (Value.type _) [Value.ref _]) _ _ _); k_dflt (refine' tuple_L (by k_asm) (by k_asm) (by k_mem) (by first | assumption | omega) ?_); intro _ _ _ _ l1Q; (try k_lt l1Q); (try (revert l1Q; intro _)))) | ((k_here; (with_reducible show wpAny _ _ (subscriptTail _ _ (Value.ref _) (Value.int _ _)) _ _ _); k_dflt (first | (refine' item_list_at (by k_asm) (by k_mem) (by first | exact rfl | assumption) (by assumption) (by first | assumption | (rw [sizeLine_eq]; omega)) ?_ (by with_unfolding_all rfl)) | (refine' item_tup_at (by k_asm) (by k_mem) (by first | exact rfl | assumption) (by assumption) (by first | assumption | (rw [sizeLine_eq]; omega)) ?_ (by with_unfolding_all rfl)) | (refine' item_D (by k_asm) (by assumption) (by walk_at "sub") (by assumption) (by first | assumption | exact rfl) (by assumption) ?_ (by with_unfolding_all rfl) (by (intro _; with_unfolding_all rfl)); intro _ _)))) | fail "no word"); k_steps))
  all_goals (try (((repeat (first | refine veil (by assumption) ?_ | refine turn_ret ?_ | refine turn_brk ?_ | refine wturn_ret ?_ | refine wturn_brk ?_)); (try dsimp only))))
  refine stop_out ?_
  refine LCg.ListComp_U (F₀ := by assumption) (by with_unfolding_all rfl) (by decide) (by rfl) (by decide) (by rfl) ?_
  (k_steps <;> repeat' ((first | with_reducible refine stop_out ?_ | with_reducible show wpAny _ _ _ _ _ _); (first | ((k_here; (with_reducible show wpAny _ _ (call (Value.builtin "len") [Value.ref _]) _ _ _); k_dflt (refine' len_lst (by k_asm) (by k_mem) (by first | assumption | (rw [sizeLine_eq]; omega) | (rw [sizeLine_eq]; exact Nat.le_of_ble_eq_true rfl)) ?_))) | ((k_here; (with_reducible show wpAny _ _ (call (Value.type _) [Value.ref _]) _ _ _); k_dflt (refine' tuple_L (by k_asm) (by k_asm) (by k_mem) (by first | assumption | omega) ?_); intro _ _ _ _ l1Q; (try k_lt l1Q); (try (revert l1Q; intro _)))) | ((k_here; (with_reducible show wpAny _ _ (subscriptTail _ _ (Value.ref _) (Value.int _ _)) _ _ _); k_dflt (first | (refine' item_list_at (by k_asm) (by k_mem) (by first | exact rfl | assumption) (by assumption) (by first | assumption | (rw [sizeLine_eq]; omega)) ?_ (by with_unfolding_all rfl)) | (refine' item_tup_at (by k_asm) (by k_mem) (by first | exact rfl | assumption) (by assumption) (by first | assumption | (rw [sizeLine_eq]; omega)) ?_ (by with_unfolding_all rfl)) | (refine' item_D (by k_asm) (by assumption) (by walk_at "sub") (by assumption) (by first | assumption | exact rfl) (by assumption) ?_ (by with_unfolding_all rfl) (by (intro _; with_unfolding_all rfl)); intro _ _)))) | fail "no word"); k_steps))
  all_goals (try (((repeat (first | refine veil (by assumption) ?_ | refine turn_ret ?_ | refine turn_brk ?_ | refine wturn_ret ?_ | refine wturn_brk ?_)); (try dsimp only))))
  refine stop_out ?_
  have hlR := R.length
  refine LCg.CompSrc.range (n := rvs.length) rfl (by assumption) (by assumption) (by assumption) (small_one (by omega) (by omega) (by omega) (by omega)) (by rw [rangeSize_pos (by omega) (by omega)]; omega) hz2 ?_
  intro g1
  refine comp_rest (fun i ys nx => ∃ tl, nx = tl ++ (_, _) :: news ∧ DatAll nx ys (((openRows Ds).take i).map orow)) ?_ ⟨[], rfl, .nil⟩ ?_ ?_
  · rintro i ys nx ⟨tl, rfl, _⟩; trivial
  · rintro i ys nx v I oI C oC Dl m₂ h tk E' hi hJ90 ⟨t0, rfl⟩ hC hx F N off hJ91
    refine hideG fun PP hPP => ?_
    obtain ⟨tl, rfl, hd⟩ := hJ90
    obtain ⟨ne1, ne2, ne3⟩ := hJ91
    refine hPP ?_
    clear hPP PP
    have hx9 : rvs[i]? = some (rvs[i]) := List.getElem?_eq_getElem hi
    refine hideG fun PP hPP => ?_
    obtain ⟨D, hD, RD⟩ := R.at hx9
    refine hPP ?_
    clear hPP PP
    generalize rvs[i] = rv at hx9 RD
    have RD2 := RD
    have GD := G D (List.mem_of_getElem? hD)
    refine hideG fun PP hPP => ?_
    obtain ⟨x, dx, dw, k1, k2, t, rfl, m1, m2, W⟩ := RD2
    refine hPP ?_
    clear hPP PP
    generalize hkk : (0 + (i : Int)) = k at hx
    have hkk' : k = (i : Int) := by omega
    (k_steps <;> repeat' ((first | with_reducible refine stop_out ?_ | with_reducible show wpAny _ _ _ _ _ _); (first | ((k_here; (with_reducible show wpAny _ _ (call (Value.builtin "len") [Value.ref _]) _ _ _); k_dflt (refine' len_lst (by k_asm) (by k_mem) (by first | assumption | (rw [sizeLine_eq]; omega) | (rw [sizeLine_eq]; exact Nat.le_of_ble_eq_true rfl)) ?_))) | ((k_here; (with_reducible show wpAny _ _ (call (Value.type _) [Value.ref _]) _ _ _); k_dflt (refine' tuple_L (by k_asm) (by k_asm) (by k_mem) (by first | assumption | omega) ?_); intro _ _ _ _ l1Q; (try k_lt l1Q); (try (revert l1Q; intro _)))) | ((k_here; (with_reducible show wpAny _ _ (subscriptTail _ _ (Value.ref _) (Value.int _ _)) _ _ _); k_dflt (first | (refine' item_list_at (by k_asm) (by k_mem) (by first | exact rfl | assumption) (by assumption) (by first | assumption | (rw [sizeLine_eq]; omega)) ?_ (by with_unfolding_all rfl)) | (refine' item_tup_at (by k_asm) (by k_mem) (by first | exact rfl | assumption) (by assumption) (by first | assumption | (rw [sizeLine_eq]; omega)) ?_ (by with_unfolding_all rfl)) | (refine' item_D (by k_asm) (by assumption) (by walk_at "sub") (by assumption) (by first | assumption | exact rfl) (by assumption) ?_ (by with_unfolding_all rfl) (by (intro _; with_unfolding_all rfl)); intro _ _)))) | fail "no word"); k_steps))
    all_goals (try (((repeat (first | refine veil (by assumption) ?_ | refine turn_ret ?_ | refine turn_brk ?_ | refine wturn_ret ?_ | refine wturn_brk ?_)); (try dsimp only))))
    (rename News _ _ _ _ => N9)
    refine useF (tm := [(_, _), (_, _), (_, _)]) (news := tl ++ (_, _) :: news) (s_rows (fun p hp => hp) (RD.mono fun p hp => by walk_at "mem") GD) (by assumption) (by assumption) N9 (off3 (by assumption)) (by decide) ?_
    rintro r nx' h' tk' F2 N2 o2 hJ90
    refine hideG fun PP hPP => ?_
    obtain ⟨tl2, rfl, Dr⟩ := hJ90
    refine hPP ?_
    clear hPP PP
    simp only [List.cons_append, List.nil_append] at N2
    replace o2 := on3 o2
    refine hideG fun PP hPP => ?_
    obtain ⟨l, nl, vs, rfl, ml3, Dr⟩ := dat_list Dr
    refine hPP ?_
    clear hPP PP
    have hvl : vs.length ≤ 16384 := by have := Dr.length; rw [List.length_map, (srt_perm D).length_eq] at this; have := GD.len; omega
    (k_steps <;> repeat' ((first | with_reducible refine stop_out ?_ | with_reducible show wpAny _ _ _ _ _ _); (first | ((k_here; (with_reducible show wpAny _ _ (call (Value.builtin "len") [Value.ref _]) _ _ _); k_dflt (refine' len_lst (by k_asm) (by k_mem) (by first | assumption | (rw [sizeLine_eq]; omega) | (rw [sizeLine_eq]; exact Nat.le_of_ble_eq_true rfl)) ?_))) | ((k_here; (with_reducible show wpAny _ _ (call (Value.type _) [Value.ref _]) _ _ _); k_dflt (refine' tuple_L (by k_asm) (by k_asm) (by k_mem) (by first | assumption | omega) ?_); intro _ _ _ _ l1Q; (try k_lt l1Q); (try (revert l1Q; intro _)))) | ((k_here; (with_reducible show wpAny _ _ (subscriptTail _ _ (Value.ref _) (Value.int _ _)) _ _ _); k_dflt (first | (refine' item_list_at (by k_asm) (by k_mem) (by first | exact rfl | assumption) (by assumption) (by first | assumption | (rw [sizeLine_eq]; omega)) ?_ (by with_unfolding_all rfl)) | (refine' item_tup_at (by k_asm) (by k_mem) (by first | exact rfl | assumption) (by assumption) (by first | assumption | (rw [sizeLine_eq]; omega)) ?_ (by with_unfolding_all rfl)) | (refine' item_D (by k_asm) (by assumption) (by walk_at "sub") (by assumption) (by first | assumption | exact rfl) (by assumption) ?_ (by with_unfolding_all rfl) (by (intro _; with_unfolding_all rfl)); intro _ _)))) | fail "no word"); k_steps))
    all_goals (try (((repeat (first | refine veil (by assumption) ?_ | refine turn_ret ?_ | refine turn_brk ?_ | refine wturn_ret ?_ | refine wturn_brk ?_)); (try dsimp only))))
    rename_i D1 _ _ _ _ _ D' h' F' N' l1
    refine cturn_add (tl := [_]) F' N' (allLt_mem (show AllLt D' (_ :: _ :: _ :: _ :: _) from l1)) (fun p hp => by rcases List.mem_cons.mp hp with rfl | hp; exact ⟨by k_ne, by k_ne, by k_ne⟩; cases hp) o2 ⟨_ :: _ :: (tl2 ++ tl), mid2, ?_⟩
    rw [take_map_snoc (openRows_at hD)]
    refine all_snoc hd (fun p hp => .tail _ (.tail _ (List.mem_append_right _ (List.mem_append_right _ hp)))) (DatIn.tuple (.head _) (.cons (hkk' ▸ .int _ _) (.cons (DatIn.tuple (.tail _ (.head _)) (Dr.mono fun p hp => by walk_at "mem")) .nil)))
  · rintro ys nx hJ90
    refine hideG fun PP hPP => ?_
    obtain ⟨tl, rfl, hd⟩ := hJ90
    refine hPP ?_
    clear hPP PP
    intro Df hf tkf Ff Nf of
    (try (((repeat (first | refine veil (by assumption) ?_ | refine turn_ret ?_ | refine turn_brk ?_ | refine wturn_ret ?_ | refine wturn_brk ?_)); (try dsimp only))))
    (try (((repeat (first | refine veil (by assumption) ?_ | refine turn_ret ?_ | refine turn_brk ?_ | refine wturn_ret ?_ | refine wturn_brk ?_)); (try dsimp only))))
    refine ⟨_, _, (Df, LCg.lst ys) :: (tl ++ (_, _) :: news), _, rfl, Ff, Nf, ⟨(Df, LCg.lst ys) :: (tl ++ [_]), congrArg (List.cons _) app1⟩, ?_⟩
    have e : List.take rvs.length (openRows Ds) = openRows Ds := List.take_of_length_le (by rw [openRows_len]; omega)
    rw [e] at hd
    exact DatIn.list (.head _) (hd.mono fun p hp => .tail _ hp)
end
section
theorem off_G2 : True := by w_top off; trivial
variable {w : World} {mean : ExcName → Option Value} {mg mb : Str → Option Value} {news : List (Addr × Obj)}
abbrev Rw := List (Nat × Wish)
def EOk (q : Nat × Wish) : Prop := (q.1 = 3 ∨ q.1 = 4 ∨ q.1 = 7) ∧ q.2.ok (bitsOf q.1)
structure ROk (rows : List (Nat × Rw)) : Prop where
  len : rows.length ≤ 1000
  mem : ∀ r ∈ rows, r.2.length ≤ 64 ∧ ∀ q ∈ r.2, EOk q
def possSo (f : Nat) (x : Wish) (R : Rw) : Bool := R.all fun q => decide (q.1 ≠ f) || q.2.meet (bitsOf f) x
def leftSo (f : Nat) (x : Wish) (R : Rw) : Rw := R.filter fun q => decide (q.1 ≠ f) || (q.2.meet (bitsOf f) x && !x.within (bitsOf f) q.2)
def rowsSo (f : Nat) (x : Wish) (rows : List (Nat × Rw)) : List (Nat × Rw) := (rows.filter fun r => possSo f x r.2).map fun r => (r.1, leftSo f x r.2)
theorem orow_in {news : List (Addr × Obj)} {v : Value} {r : Nat × Rw} (h : DatIn news v (orow r)) : ∃ y n t a an avs, v = .ref y ∧ (y, tupO [.int (r.1 : Nat) t, .ref a] n) ∈ news ∧ (a, tupO avs an) ∈ news ∧ DatAll news avs (r.2.map rdat) := by
  cases h with | tuple m q => cases q with | cons x1 q => cases q with | cons x2 q =>
    cases q; cases x1
    obtain ⟨l, n, vs, rfl, m2, h2⟩ := dat_tup x2
    (try (((repeat (first | refine veil (by assumption) ?_ | refine turn_ret ?_ | refine turn_brk ?_ | refine wturn_ret ?_ | refine wturn_brk ?_)); (try dsimp only))))
    exact ⟨_, _, _, _, _, _, rfl, m, m2, h2⟩

theorem take_snoc {α : Type} {l : List α} {i : Nat} {x : α} (h : l[i]? = some x) : l.take (i + 1) = l.take i ++ [x] := by
  rw [List.take_add_one, h]; rfl
theorem leftSo_snoc {f : Nat} {x : Wish} {R : Rw} {j : Nat} {q : Nat × Wish} (h : R[j]? = some q) : leftSo f x (R.take (j + 1)) = leftSo f x (R.take j) ++ (if (decide (q.1 ≠ f) || (q.2.meet (bitsOf f) x && !x.within (bitsOf f) q.2)) = true then [q] else []) := by
  rw [take_snoc h, leftSo, List.filter_append, List.filter_cons, List.filter_nil]; rfl
theorem possSo_snoc {f : Nat} {x : Wish} {R : Rw} {j : Nat} {q : Nat × Wish} (h : R[j]? = some q) : possSo f x (R.take (j + 1)) = (possSo f x (R.take j) && (decide (q.1 ≠ f) || q.2.meet (bitsOf f) x)) := by
  rw [take_snoc h, possSo, List.all_append]; simp [possSo]

theorem rowsSo_snoc {f : Nat} {x : Wish} {rows : List (Nat × Rw)} {i : Nat} {r : Nat × Rw} (h : rows[i]? = some r) : rowsSo f x (rows.take (i + 1)) = rowsSo f x (rows.take i) ++ (if possSo f x r.2 = true then [(r.1, leftSo f x r.2)] else []) := by
  rw [take_snoc h, rowsSo, List.filter_append, List.map_append, List.filter_cons, List.filter_nil]
  show _ ++ List.map _ (if possSo f x r.2 = true then [r] else []) = _
  split <;> rfl
theorem sub_swap {α : Type} {a b c : α} {r : List α} : ∀ p ∈ b :: a :: r, p ∈ a :: c :: b :: r := fun p hp => by
  rcases List.mem_cons.mp hp with rfl | hp
  · exact .tail _ (.tail _ (.head _))
  · rcases List.mem_cons.mp hp with rfl | hp
    · exact .head _
    · exact .tail _ (.tail _ (.tail _ hp))

inductive SoJ (news : List (Addr × Obj)) (fl : Addr) (f : Nat) (x : Wish) (rows : List (Nat × Rw)) (tb t : Tok) (wv : Value) (i : Nat) (m : Str → Option Value) (nx : List (Addr × Obj)) : Prop
  | mk (fvs : List Value) (fn : Nat) (tl : List (Addr × Obj)) (e : nx = (fl, lstO fvs fn) :: (tl ++ news)) (off : ∀ p ∈ tl ++ news, p.1 ≠ fl) (d : DatAll (tl ++ news) fvs ((rowsSo f x (rows.take i)).map orow)) (l : fvs.length ≤ i)
    (b1 : m (Str.ofString "found") = some (.ref fl)) (b2 : m (Str.ofString "bits") = some (.int (bitsOf f) tb)) (b3 : m (Str.ofString "wish") = some wv) (b4 : m (Str.ofString "field") = some (.int f t))
inductive SoK (news : List (Addr × Obj)) (fl ll : Addr) (f : Nat) (x : Wish) (r : Nat × Rw) (tb t ty : Tok) (wv : Value) (I : Addr) (oI : Obj) (fvs : List Value) (fn : Nat) (tl : List (Addr × Obj)) (j : Nat) (m : Str → Option Value) (nx : List (Addr × Obj)) : Prop
  | mk (lvs : List Value) (ln : Nat) (tl2 : List (Addr × Obj)) (e : nx = (ll, lstO lvs ln) :: (tl2 ++ (I, oI) :: (fl, lstO fvs fn) :: (tl ++ news))) (off : ∀ p ∈ tl2 ++ (I, oI) :: (fl, lstO fvs fn) :: (tl ++ news), p.1 ≠ ll) (off2 : ∀ p ∈ tl2, p.1 ≠ I ∧ p.1 ≠ fl)
    (d : DatAll (tl2 ++ (tl ++ news)) lvs ((leftSo f x (r.2.take j)).map rdat)) (l : lvs.length ≤ j)
    (b1 : m (Str.ofString "left") = some (.ref ll)) (b2 : m (Str.ofString "is_possible") = some (.bool (possSo f x (r.2.take j)))) (b3 : m (Str.ofString "place") = some (.int r.1 ty)) (b4 : m (Str.ofString "found") = some (.ref fl)) (b5 : m (Str.ofString "bits") = some (.int (bitsOf f) tb)) (b6 : m (Str.ofString "wish") = some wv) (b7 : m (Str.ofString "field") = some (.int f t))

theorem s_rows_if_so {rl : Addr} {rvs : List Value} {rn : Nat} {rows : List (Nat × Rw)} {f : Nat} {t : Tok} {wv : Value} {x : Wish} (ml : (rl, lstO rvs rn) ∈ news) (R : DatAll news rvs (rows.map orow)) (G : ROk rows) (hf : f = 3 ∨ f = 4 ∨ f = 7) (hw : DatIn news wv x.dat) (hx : x.ok (bitsOf f)) :
    Spec w mean mg mb 194 5 [.ref rl, .int f t, wv] news (fun news' r => ∃ tl, news' = tl ++ news ∧ DatIn news' r (.list ((rowsSo f x rows).map orow))) := by
  have hb : bitsOf f ≤ 12 := by unfold bitsOf; split <;> (try split) <;> omega
  ((refine' spec_intro (by k_is) (by k_is) (by exact rfl) (by exact rfl) (by exact rfl) (by exact rfl) (by exact rfl) (by decide) ?_; k_whole; intro dp' un' gd' fr' envc' outer' A₀' base' g' L' h' ge' dr' os' tk' A9' E9' C' hr' hA' B' X' T' F' N' T' hT'; (try dsimp only [List.map, List.zip, List.zipWith, List.reverse, List.reverseAux] at F'); (try dsimp only); (try k_fold)))
  (k_steps <;> repeat' ((first | with_reducible refine stop_out ?_ | with_reducible show wpAny _ _ _ _ _ _); (first | ((k_here; (with_reducible show wpAny _ _ (call (Value.builtin _) [Value.ref _, _]) _ _ _); k_dflt (refine' append_L (by k_asm) (by k_asm) (by k_upd) (by first | assumption | (rw [sizeLine_eq]; omega) | (rw [sizeLine_eq]; exact Nat.le_of_ble_eq_true rfl)) ?_); intro _ _ _; (try k_sweep))) | ((k_here; (with_reducible show wpAny _ _ (call (Value.type _) [Value.ref _]) _ _ _); k_dflt (refine' tuple_L (by k_asm) (by k_asm) (by k_mem) (by first | assumption | omega) ?_); intro _ _ _ _ l1Q; (try k_lt l1Q); (try (revert l1Q; intro _)))) | fail "no word"); k_steps))
  all_goals (try (((repeat (first | refine veil (by assumption) ?_ | refine turn_ret ?_ | refine turn_brk ?_ | refine wturn_ret ?_ | refine wturn_brk ?_)); (try dsimp only))))
  rename_i fl _ lt1 tb _ _ _ _ _ _ F9 N9
  refine stop_out ?_
  have e0 : ([48, 48, 16, 12, 3, 32, 32, 8, 16, 16] : List Int).getD (f : Int).toNat 0 = ((bitsOf f : Nat) : Int) := fb rfl hf
  rw [e0] at F9 N9
  refine for_list (vs := rvs) (nn := rn) rfl F9 (SoJ news fl f x rows tb t wv) ?_ ?_ ?_ ?_ PassesOwn.never
  · rintro i m nx ⟨fvs, fn, tl, rfl⟩; exact .tail _ (List.mem_append_right _ ml)
  · exact ⟨_, nsub N9 (fun p hp => .tail _ hp), [], 0, [], rfl, fun p hp => Nat.ne_of_lt (lt1 p hp), .nil, Nat.le_refl _, rfl, rfl, rfl, rfl⟩
  · rintro i v m₁ nx h tk I oI hv hJ90 off F N TQ hTQ
    refine hideG fun PP hPP => ?_
    obtain ⟨fvs, fn, tl, rfl, offl, hd, hlen, e1, e2, e3, e4⟩ := hJ90
    refine hPP ?_
    clear hPP PP
    have EE : AllB m₁ [(Str.ofString "found", .ref fl), (Str.ofString "bits", .int (bitsOf f) tb), (Str.ofString "wish", wv), (Str.ofString "field", .int f t)] := ⟨e1, e2, e3, e4, trivial⟩
    replace F := renL _ F EE
    refine hideG fun PP hPP => ?_
    obtain ⟨r, hr, Dr⟩ := dat_map R hv
    refine hPP ?_
    clear hPP PP
    refine hideG fun PP hPP => ?_
    obtain ⟨y, yn, ty, a, an, avs, rfl, my, ma, Da⟩ := orow_in Dr
    refine hPP ?_
    clear hPP PP
    have hrm := G.mem r (List.mem_of_getElem? hr)
    have hlr : i < rows.length := (List.getElem?_eq_some_iff.mp hr).1
    (k_steps <;> repeat' ((first | with_reducible refine stop_out ?_ | with_reducible show wpAny _ _ _ _ _ _); (first | ((k_here; (with_reducible show wpAny _ _ (call (Value.builtin _) [Value.ref _, _]) _ _ _); k_dflt (refine' append_L (by k_asm) (by k_asm) (by k_upd) (by first | assumption | (rw [sizeLine_eq]; omega) | (rw [sizeLine_eq]; exact Nat.le_of_ble_eq_true rfl)) ?_); intro _ _ _; (try k_sweep))) | ((k_here; (with_reducible show wpAny _ _ (call (Value.type _) [Value.ref _]) _ _ _); k_dflt (refine' tuple_L (by k_asm) (by k_asm) (by k_mem) (by first | assumption | omega) ?_); intro _ _ _ _ l1Q; (try k_lt l1Q); (try (revert l1Q; intro _)))) | fail "no word"); k_steps))
    all_goals (try (((repeat (first | refine veil (by assumption) ?_ | refine turn_ret ?_ | refine turn_brk ?_ | refine wturn_ret ?_ | refine wturn_brk ?_)); (try dsimp only))))
    rename_i ll _ lt2 _ _ _ _ _ _ F9 N9
    refine stop_out ?_
    refine for_tup (vs := avs) (nn := an) rfl F9 (SoK news fl ll f x r tb t ty wv I oI fvs fn tl) ?_ ?_ ?_ ?_ PassesOwn.never
    · rintro j m nx ⟨lvs, ln, tl2, rfl⟩; exact .tail _ (List.mem_append_right _ (.tail _ (.tail _ (List.mem_append_right _ ma))))
    · exact ⟨_, nsub N9 (fun p hp => .tail _ hp), [], 0, [], rfl, (fun p hp => Nat.ne_of_lt (allLt_mem (l := (I, oI) :: (fl, lstO fvs fn) :: (tl ++ news)) lt2 p hp)), (fun _ h => nomatch h), .nil, Nat.le_refl _, rfl, rfl, rfl, rfl, rfl, rfl, rfl⟩
    · rintro j v m₁ nx h tk I2 oI2 hv2 hJ90 offI2 F N TQ hTQ
      refine hideG fun PP hPP => ?_
      obtain ⟨lvs, ln, tl2, rfl, offll, off2, hd2, hlen2, f1, f2, f3, f4, f5, f6, f7⟩ := hJ90
      refine hPP ?_
      clear hPP PP
      have EE : AllB m₁ [(Str.ofString "left", .ref ll), (Str.ofString "is_possible", .bool (possSo f x (r.2.take j))), (Str.ofString "place", .int r.1 ty), (Str.ofString "found", .ref fl), (Str.ofString "bits", .int (bitsOf f) tb), (Str.ofString "wish", wv), (Str.ofString "field", .int f t)] := ⟨f1, f2, f3, f4, f5, f6, f7, trivial⟩
      replace F := renL _ F EE
      refine hideG fun PP hPP => ?_
      obtain ⟨q, hq, Dq⟩ := dat_map Da hv2
      refine hPP ?_
      clear hPP PP
      refine hideG fun PP hPP => ?_
      obtain ⟨yy, yn2, yt, yu, rfl, my2, Dy⟩ := rdat_in Dq
      refine hPP ?_
      clear hPP PP
      have hqm := hrm.2 q (List.mem_of_getElem? hq)
      have hjl : j < r.2.length := (List.getElem?_eq_some_iff.mp hq).1
      have hz9 : lvs.length ≤ sizeLine := by rw [sizeLine_eq]; omega
      have n1 : @Ne Nat ll I2 := offI2 (ll, _) (.head _)
      (k_steps <;> repeat' ((first | with_reducible refine stop_out ?_ | with_reducible show wpAny _ _ _ _ _ _); (first | ((k_here; (with_reducible show wpAny _ _ (call (Value.builtin _) [Value.ref _, _]) _ _ _); k_dflt (refine' append_L (by k_asm) (by k_asm) (by k_upd) (by first | assumption | (rw [sizeLine_eq]; omega) | (rw [sizeLine_eq]; exact Nat.le_of_ble_eq_true rfl)) ?_); intro _ _ _; (try k_sweep))) | ((k_here; (with_reducible show wpAny _ _ (call (Value.type _) [Value.ref _]) _ _ _); k_dflt (refine' tuple_L (by k_asm) (by k_asm) (by k_mem) (by first | assumption | omega) ?_); intro _ _ _ _ l1Q; (try k_lt l1Q); (try (revert l1Q; intro _)))) | fail "no word"); k_steps))
      all_goals (try (((repeat (first | refine veil (by assumption) ?_ | refine turn_ret ?_ | refine turn_brk ?_ | refine wturn_ret ?_ | refine wturn_brk ?_)); (try dsimp only))))
      · have hqf : q.1 ≠ f := by omega
        rename_i D' _ l1 _ F' N'
        have gI : @LT.lt Nat _ I D' := allLt_mem l1.2.2 (I, oI) (List.mem_append_right _ (.head _))
        have gf : @LT.lt Nat _ fl D' := allLt_mem l1.2.2 (fl, lstO fvs fn) (List.mem_append_right _ (.tail _ (.head _)))
        have lI2 := l1.1
        have lll := l1.2.1
        refine turn_next ((ll, lstO (lvs ++ [.ref D']) (ln + 1)) :: (((D', _) :: tl2) ++ (I, oI) :: (fl, lstO fvs fn) :: (tl ++ news))) F' N' (.tail _ (.head _)) sub_swap
          (List.forall_mem_cons.mpr ⟨n1, List.forall_mem_cons.mpr ⟨Nat.ne_of_gt lI2, fun p hp => offI2 p (.tail _ hp)⟩⟩)
          ⟨lvs ++ [.ref D'], ln + 1, (D', _) :: tl2, rfl, List.forall_mem_cons.mpr ⟨Nat.ne_of_gt lll, offll⟩, List.forall_mem_cons.mpr ⟨⟨Nat.ne_of_gt gI, Nat.ne_of_gt gf⟩, off2⟩, ?_, by rw [List.length_append, List.length_singleton]; omega, rfl, ?_, rfl, rfl, rfl, rfl, rfl⟩
        · rw [leftSo_snoc hq, if_pos (by simp [hqf]), List.map_append]
          exact all_snoc hd2 (fun p hp => .tail _ hp) (DatIn.tuple (.head _) (.cons (.int _ _) (.cons (Dy.mono fun p hp => by walk_at "mem") .nil)))
        · rw [possSo_snoc hq]; exact congrArg (fun z => some (Value.bool z)) (by simp [hqf])
      · have hqf : q.1 = f := by omega
        have hqo : q.2.ok (bitsOf f) := hqf ▸ hqm.2
        (rename News _ _ _ _ => N9)
        refine use (s_do_wishes_meet (Dy.mono fun p hp => by walk_at "mem") hqo (hw.mono fun p hp => by walk_at "mem") hx hb) (by assumption) (by assumption) N9 (by decide) ?_
        rintro r9 nx' h' tk' F2 N2 ⟨rfl, rfl⟩
        (k_steps <;> repeat' ((first | with_reducible refine stop_out ?_ | with_reducible show wpAny _ _ _ _ _ _); (first | ((k_here; (with_reducible show wpAny _ _ (call (Value.builtin _) [Value.ref _, _]) _ _ _); k_dflt (refine' append_L (by k_asm) (by k_asm) (by k_upd) (by first | assumption | (rw [sizeLine_eq]; omega) | (rw [sizeLine_eq]; exact Nat.le_of_ble_eq_true rfl)) ?_); intro _ _ _; (try k_sweep))) | ((k_here; (with_reducible show wpAny _ _ (call (Value.type _) [Value.ref _]) _ _ _); k_dflt (refine' tuple_L (by k_asm) (by k_asm) (by k_mem) (by first | assumption | omega) ?_); intro _ _ _ _ l1Q; (try k_lt l1Q); (try (revert l1Q; intro _)))) | fail "no word"); k_steps))
        all_goals (try (((repeat (first | refine veil (by assumption) ?_ | refine turn_ret ?_ | refine turn_brk ?_ | refine wturn_ret ?_ | refine wturn_brk ?_)); (try dsimp only))))
        · have hmt : q.2.meet (bitsOf f) x = true := by first | assumption | (simpa using (by assumption))
          (rename News _ _ _ _ => N9)
          refine use (s_is_wish_within (hw.mono fun p hp => by walk_at "mem") hx (Dy.mono fun p hp => by walk_at "mem") hb) (by assumption) (by assumption) N9 (by decide) ?_
          rintro r9 nx' h' tk' F3 N3 ⟨rfl, rfl⟩
          (k_steps <;> repeat' ((first | with_reducible refine stop_out ?_ | with_reducible show wpAny _ _ _ _ _ _); (first | ((k_here; (with_reducible show wpAny _ _ (call (Value.builtin _) [Value.ref _, _]) _ _ _); k_dflt (refine' append_L (by k_asm) (by k_asm) (by k_upd) (by first | assumption | (rw [sizeLine_eq]; omega) | (rw [sizeLine_eq]; exact Nat.le_of_ble_eq_true rfl)) ?_); intro _ _ _; (try k_sweep))) | ((k_here; (with_reducible show wpAny _ _ (call (Value.type _) [Value.ref _]) _ _ _); k_dflt (refine' tuple_L (by k_asm) (by k_asm) (by k_mem) (by first | assumption | omega) ?_); intro _ _ _ _ l1Q; (try k_lt l1Q); (try (revert l1Q; intro _)))) | fail "no word"); k_steps))
          all_goals (try (((repeat (first | refine veil (by assumption) ?_ | refine turn_ret ?_ | refine turn_brk ?_ | refine wturn_ret ?_ | refine wturn_brk ?_)); (try dsimp only))))
          · have hwi : x.within (bitsOf f) q.2 = true := by assumption
            refine turn_next ((ll, lstO lvs ln) :: (tl2 ++ (I, oI) :: (fl, lstO fvs fn) :: (tl ++ news))) (by assumption) (by assumption) (.head _) (fun p hp => .tail _ hp) offI2
              ⟨lvs, ln, tl2, rfl, offll, off2, ?_, by omega, rfl, ?_, rfl, rfl, rfl, rfl, rfl⟩
            · rw [leftSo_snoc hq, if_neg (by simp [hqf, hmt, hwi]), List.append_nil]
              exact hd2
            · rw [possSo_snoc hq]; exact congrArg (fun z => some (Value.bool z)) (by simp [hqf, hmt])
          · have hwi : x.within (bitsOf f) q.2 = false := by assumption
            rename_i D' _ l1 _ F' N'
            have gI : @LT.lt Nat _ I D' := allLt_mem l1.2.2 (I, oI) (List.mem_append_right _ (.head _))
            have gf : @LT.lt Nat _ fl D' := allLt_mem l1.2.2 (fl, lstO fvs fn) (List.mem_append_right _ (.tail _ (.head _)))
            have lI2 := l1.1
            have lll := l1.2.1
            refine turn_next ((ll, lstO (lvs ++ [.ref D']) (ln + 1)) :: (((D', _) :: tl2) ++ (I, oI) :: (fl, lstO fvs fn) :: (tl ++ news))) F' N' (.tail _ (.head _)) sub_swap
              (List.forall_mem_cons.mpr ⟨n1, List.forall_mem_cons.mpr ⟨Nat.ne_of_gt lI2, fun p hp => offI2 p (.tail _ hp)⟩⟩)
              ⟨lvs ++ [.ref D'], ln + 1, (D', _) :: tl2, rfl, List.forall_mem_cons.mpr ⟨Nat.ne_of_gt lll, offll⟩, List.forall_mem_cons.mpr ⟨⟨Nat.ne_of_gt gI, Nat.ne_of_gt gf⟩, off2⟩, ?_, by rw [List.length_append, List.length_singleton]; omega, rfl, ?_, rfl, rfl, rfl, rfl, rfl⟩
            · rw [leftSo_snoc hq, if_pos (by simp [hqf, hmt, hwi]), List.map_append]
              exact all_snoc hd2 (fun p hp => .tail _ hp) (DatIn.tuple (.head _) (.cons (.int _ _) (.cons (Dy.mono fun p hp => by walk_at "mem") .nil)))
            · rw [possSo_snoc hq]; exact congrArg (fun z => some (Value.bool z)) (by simp [hqf, hmt])
        · have hmt : q.2.meet (bitsOf f) x = false := by first | assumption | exact Bool.eq_false_iff.mpr (by assumption) | simpa using (by assumption)
          refine turn_next ((ll, lstO lvs ln) :: (tl2 ++ (I, oI) :: (fl, lstO fvs fn) :: (tl ++ news))) (by assumption) (by assumption) (.head _) (fun p hp => .tail _ hp) offI2
            ⟨lvs, ln, tl2, rfl, offll, off2, ?_, by omega, rfl, ?_, rfl, rfl, rfl, rfl, rfl⟩
          · rw [leftSo_snoc hq, if_neg (by simp [hqf, hmt]), List.append_nil]
            exact hd2
          · rw [possSo_snoc hq]; exact congrArg (fun z => some (Value.bool z)) (by simp [hqf, hmt])
    · rintro m₁ nx h tk hJ90 F N
      refine hideG fun PP hPP => ?_
      obtain ⟨lvs, ln, tl2, rfl, offll, off2, hd2, hlen2, f1, f2, f3, f4, f5, f6, f7⟩ := hJ90
      refine hPP ?_
      clear hPP PP
      have EE : AllB m₁ [(Str.ofString "left", .ref ll), (Str.ofString "is_possible", .bool (possSo f x (r.2.take avs.length))), (Str.ofString "place", .int r.1 ty), (Str.ofString "found", .ref fl), (Str.ofString "bits", .int (bitsOf f) tb), (Str.ofString "wish", wv), (Str.ofString "field", .int f t)] := ⟨f1, f2, f3, f4, f5, f6, f7, trivial⟩
      have hal : avs.length = r.2.length := by have := Da.length; rw [List.length_map] at this; exact this
      have etk : r.2.take avs.length = r.2 := List.take_of_length_le (by omega)
      rw [etk] at EE hd2
      replace F := renL _ F EE
      have hl9 : lvs.length ≤ 16384 := by omega
      have hz9 : fvs.length ≤ sizeLine := by have := G.len; rw [sizeLine_eq]; omega
      replace N : News _ _ _ ((fl, lstO fvs fn) :: (I, oI) :: (ll, lstO lvs ln) :: (tl2 ++ (tl ++ news))) := nsub N (by walk_at "sub")
      have hI : @Ne Nat fl I := off (fl, _) (.head _)
      have hL1 : @Ne Nat fl ll := offll (fl, lstO fvs fn) (List.mem_append_right _ (.tail _ (.head _)))
      have hL2 : @Ne Nat I ll := offll (I, oI) (List.mem_append_right _ (.head _))
      have hfl : ∀ p ∈ (I, oI) :: (ll, lstO lvs ln) :: (tl2 ++ (tl ++ news)), p.1 ≠ fl := List.forall_mem_cons.mpr ⟨Ne.symm hI, List.forall_mem_cons.mpr ⟨Ne.symm hL1, fun p hp => (List.mem_append.mp hp).elim (fun h => (off2 p h).2) (offl p)⟩⟩
      (k_steps <;> repeat' ((first | with_reducible refine stop_out ?_ | with_reducible show wpAny _ _ _ _ _ _); (first | ((k_here; (with_reducible show wpAny _ _ (call (Value.builtin _) [Value.ref _, _]) _ _ _); k_dflt (refine' append_L (by k_asm) (by k_asm) (by k_upd) (by first | assumption | (rw [sizeLine_eq]; omega) | (rw [sizeLine_eq]; exact Nat.le_of_ble_eq_true rfl)) ?_); intro _ _ _; (try k_sweep))) | ((k_here; (with_reducible show wpAny _ _ (call (Value.type _) [Value.ref _]) _ _ _); k_dflt (refine' tuple_L (by k_asm) (by k_asm) (by k_mem) (by first | assumption | omega) ?_); intro _ _ _ _ l1Q; (try k_lt l1Q); (try (revert l1Q; intro _)))) | fail "no word"); k_steps))
      all_goals (try (((repeat (first | refine veil (by assumption) ?_ | refine turn_ret ?_ | refine turn_brk ?_ | refine wturn_ret ?_ | refine wturn_brk ?_)); (try dsimp only))))
      · rename_i T1 _ l1 T2 _ l2 _ F' N'
        have hps : possSo f x r.2 = true := by assumption
        replace N' : News _ _ _ ((T2, tupO [.int r.1 ty, .ref T1] 0) :: (T1, tupO lvs 0) :: (fl, lstO (fvs ++ [.ref T2]) (fn + 1)) :: (I, oI) :: (ll, lstO lvs ln) :: (tl2 ++ (tl ++ news))) := N'
        refine turn_next ((fl, lstO (fvs ++ [.ref T2]) (fn + 1)) :: (((T2, tupO [.int r.1 ty, .ref T1] 0) :: (T1, tupO lvs 0) :: (ll, lstO lvs ln) :: (tl2 ++ tl)) ++ news)) F' N' (.tail _ (.tail _ (.tail _ (.head _)))) ?_ ?_
          ⟨fvs ++ [.ref T2], fn + 1, (T2, tupO [.int r.1 ty, .ref T1] 0) :: (T1, tupO lvs 0) :: (ll, lstO lvs ln) :: (tl2 ++ tl), rfl, ?_, ?_, by rw [List.length_append, List.length_singleton]; omega, rfl, rfl, rfl, rfl⟩
        · walk_at "sub"
        · refine List.forall_mem_cons.mpr ⟨hI, List.forall_mem_cons.mpr ⟨by k_ne, List.forall_mem_cons.mpr ⟨by k_ne, List.forall_mem_cons.mpr ⟨Ne.symm hL2, fun p hp => ?_⟩⟩⟩⟩
          replace hp : p ∈ tl2 ++ (tl ++ news) := by rw [← List.append_assoc]; exact hp
          exact (List.mem_append.mp hp).elim (fun h => (off2 p h).1) (fun h => off p (.tail _ h))
        · refine List.forall_mem_cons.mpr ⟨by k_ne, List.forall_mem_cons.mpr ⟨by k_ne, List.forall_mem_cons.mpr ⟨Ne.symm hL1, fun p hp => ?_⟩⟩⟩
          replace hp : p ∈ tl2 ++ (tl ++ news) := by rw [← List.append_assoc]; exact hp
          exact hfl p (.tail _ (.tail _ hp))
        · rw [rowsSo_snoc hr, if_pos hps, List.map_append]
          refine all_snoc hd (fun p hp => ?_) (DatIn.tuple (.head _) (.cons (.int _ _) (.cons (DatIn.tuple (.tail _ (.head _)) (hd2.mono fun p hp => ?_)) .nil)))
          · refine sub_use ?_ hp
            walk_at "sub"
          · refine sub_use ?_ hp
            walk_at "sub"
      · have hps : possSo f x r.2 = false := by assumption
        refine turn_next ((fl, lstO fvs fn) :: (tl ++ news)) (by assumption) N (.tail _ (.head _)) (fun p hp => ?_) off
          ⟨fvs, fn, tl, rfl, offl, ?_, by omega, rfl, rfl, rfl, rfl⟩
        · refine sub_use ?_ hp
          walk_at "sub"
        · rw [rowsSo_snoc hr, if_neg (by rw [hps]; decide), List.append_nil]
          exact hd
  · rintro m₁ nx h tk hJ90 F N
    refine hideG fun PP hPP => ?_
    obtain ⟨fvs, fn, tl, rfl, offl, hd, hlen, e1, e2, e3, e4⟩ := hJ90
    refine hPP ?_
    clear hPP PP
    have EE : AllB m₁ [(Str.ofString "found", .ref fl)] := ⟨e1, trivial⟩
    replace F := renL _ F EE
    (k_steps <;> repeat' ((first | with_reducible refine stop_out ?_ | with_reducible show wpAny _ _ _ _ _ _); (first | ((k_here; (with_reducible show wpAny _ _ (call (Value.builtin _) [Value.ref _, _]) _ _ _); k_dflt (refine' append_L (by k_asm) (by k_asm) (by k_upd) (by first | assumption | (rw [sizeLine_eq]; omega) | (rw [sizeLine_eq]; exact Nat.le_of_ble_eq_true rfl)) ?_); intro _ _ _; (try k_sweep))) | ((k_here; (with_reducible show wpAny _ _ (call (Value.type _) [Value.ref _]) _ _ _); k_dflt (refine' tuple_L (by k_asm) (by k_asm) (by k_mem) (by first | assumption | omega) ?_); intro _ _ _ _ l1Q; (try k_lt l1Q); (try (revert l1Q; intro _)))) | fail "no word"); k_steps))
    all_goals (try (((repeat (first | refine veil (by assumption) ?_ | refine turn_ret ?_ | refine turn_brk ?_ | refine wturn_ret ?_ | refine wturn_brk ?_)); (try dsimp only))))
    have e : rows.take rvs.length = rows := List.take_of_length_le (by have := R.length; rw [List.length_map] at this; omega)
    rw [e] at hd
    (try (((repeat (first | refine veil (by assumption) ?_ | refine turn_ret ?_ | refine turn_brk ?_ | refine wturn_ret ?_ | refine wturn_brk ?_)); (try dsimp only))))
    exact ⟨_, _, (fl, lstO fvs fn) :: (tl ++ news), _, rfl, by assumption, by assumption, (fl, lstO fvs fn) :: tl, rfl, DatIn.list (.head _) (hd.mono fun p hp => .tail _ hp)⟩
end
section
theorem off_G3 : True := by w_top off; trivial
variable {w : World} {mean : ExcName → Option Value} {mg mb : Str → Option Value} {news : List (Addr × Obj)}
def hitNot (f : Nat) (x : Wish) (q : Nat × Wish) : Bool := decide (q.1 = f) && q.2.within (bitsOf f) x
def rowsNot (f : Nat) (x : Wish) (rows : List (Nat × Rw)) : List (Nat × Rw) := rows.filter fun r => !(r.2.any (hitNot f x))

theorem filt_snoc {α β : Type} {p : α → Bool} {g : α → β} {R : List α} {j : Nat} {q : α} (h : R[j]? = some q) : ((R.take (j + 1)).filter p).map g = ((R.take j).filter p).map g ++ (if p q = true then [g q] else []) := by
  rw [take_snoc h, List.filter_append, List.map_append, List.filter_cons, List.filter_nil]
  split <;> rfl
theorem rowsNot_snoc {f : Nat} {x : Wish} {rows : List (Nat × Rw)} {i : Nat} {r : Nat × Rw} (h : rows[i]? = some r) : rowsNot f x (rows.take (i + 1)) = rowsNot f x (rows.take i) ++ (if (!(r.2.any (hitNot f x))) = true then [r] else []) := by
  rw [take_snoc h, rowsNot, List.filter_append, List.filter_cons, List.filter_nil]; rfl
theorem any_empty {f : Nat} {x : Wish} {R : Rw} {ys : List Value} {news : List (Addr × Obj)} (h : DatAll news ys ((R.filter (hitNot f x)).map fun q => q.2.dat)) : ys.isEmpty = !(R.any (hitNot f x)) := by
  have hl := h.length
  rw [List.length_map] at hl
  cases e : R.any (hitNot f x) with
  | true =>
    obtain ⟨q, hq, hh⟩ := List.any_eq_true.mp e
    have : q ∈ R.filter (hitNot f x) := List.mem_filter.mpr ⟨hq, hh⟩
    have h9 := List.length_pos_of_mem this
    cases ys with
    | nil => simp at hl; omega
    | cons _ _ => rfl
  | false =>
    rw [List.any_eq_false] at e
    have : R.filter (hitNot f x) = [] := List.filter_eq_nil_iff.mpr e
    rw [this] at hl
    cases ys with
    | nil => rfl
    | cons _ _ => simp at hl

inductive SnJ (news TL : List (Addr × Obj)) (fl : Addr) (f : Nat) (x : Wish) (rows : List (Nat × Rw)) (i : Nat) (m : Str → Option Value) (nx : List (Addr × Obj)) : Prop
  | mk (fvs : List Value) (fn : Nat) (tl : List (Addr × Obj)) (e : nx = (fl, lstO fvs fn) :: (tl ++ TL)) (off : ∀ p ∈ tl ++ TL, p.1 ≠ fl) (d : DatAll (tl ++ news) fvs ((rowsNot f x (rows.take i)).map orow)) (l : fvs.length ≤ i) (e1 : m (Str.ofString "found") = some (.ref fl))
theorem s_rows_if_not {rl : Addr} {rvs : List Value} {rn : Nat} {rows : List (Nat × Rw)} {f : Nat} {t : Tok} {wv : Value} {x : Wish} (ml : (rl, lstO rvs rn) ∈ news) (R : DatAll news rvs (rows.map orow)) (G : ROk rows) (hf : f = 3 ∨ f = 4 ∨ f = 7) (hw : DatIn news wv x.dat) (hx : x.ok (bitsOf f)) :
    Spec w mean mg mb 199 5 [.ref rl, .int f t, wv] news (fun news' r => ∃ tl, news' = tl ++ news ∧ DatIn news' r (.list ((rowsNot f x rows).map orow))) := by
  have hb : bitsOf f ≤ 12 := by unfold bitsOf; split <;> (try split) <;> omega
  ((refine' spec_introC (by k_is) (by k_is) (by exact rfl) (by exact rfl) (by decide +kernel) (by exact rfl) (by exact rfl) (by exact rfl) ?_; k_whole; intro dp' un' gd' fr' envc' outer' A₀' base' g' Lc hc0 ge' dr' os' tk0 cells' A9' E9' Cc hrc hAc Bc Xc Tc Fc Nc Y' l1 TQ hTQ; k_cells Y'; (try simp only [List.cons_append, List.nil_append] at Nc); (try dsimp only); (try k_fold)))
  rename_i o1 o2 o3 d1 d2 d3
  have hcl : ∀ p ∈ (Lc + 1 + 1, o2) :: (Lc + 1, o3) :: news, p.1 ≠ Lc + 1 + 1 + 1 := List.forall_mem_cons.mpr ⟨by k_ne, List.forall_mem_cons.mpr ⟨by k_ne, fun p hp => Nat.ne_of_lt (Nat.lt_trans (l1 p hp) (by omega))⟩⟩
  (k_steps <;> repeat' ((first | with_reducible refine stop_out ?_ | with_reducible show wpAny _ _ _ _ _ _); (first | ((k_here; (with_reducible show wpAny _ _ (call (Value.builtin _) [Value.ref _, _]) _ _ _); k_dflt (refine' append_L (by k_asm) (by k_asm) (by k_upd) (by first | assumption | (rw [sizeLine_eq]; omega) | (rw [sizeLine_eq]; exact Nat.le_of_ble_eq_true rfl)) ?_); intro _ _ _; (try k_sweep))) | fail "no word"); k_steps))
  all_goals (try (((repeat (first | refine veil (by assumption) ?_ | refine turn_ret ?_ | refine turn_brk ?_ | refine wturn_ret ?_ | refine wturn_brk ?_)); (try dsimp only))))
  rename_i fl _ lt1 tb _ _ _ _ _ _ ob F9 N9 dB
  have e0 : ([48, 48, 16, 12, 3, 32, 32, 8, 16, 16] : List Int).getD (f : Int).toNat 0 = ((bitsOf f : Nat) : Int) := fb rfl hf
  rw [e0] at dB
  refine stop_out ?_
  refine for_list (vs := rvs) (nn := rn) rfl F9 (SnJ news ((Lc + 1 + 1 + 1, ob) :: (Lc + 1 + 1, o2) :: (Lc + 1, o3) :: news) fl f x rows) ?_ ?_ ?_ ?_ PassesOwn.never
  · rintro i m nx ⟨fvs, fn, tl, rfl⟩; exact .tail _ (List.mem_append_right _ (.tail _ (.tail _ (.tail _ ml))))
  · exact ⟨_, nsub N9 (fun p hp => .tail _ hp), [], 0, [], rfl, fun p hp => Nat.ne_of_lt (allLt_mem (l := (Lc + 1 + 1 + 1, ob) :: (Lc + 1 + 1, o2) :: (Lc + 1, o3) :: news) lt1 p hp), .nil, Nat.le_refl _, rfl⟩
  · rintro i v m₁ nx h tk I oI hv hJ90 off F N TQ hTQ
    refine hideG fun PP hPP => ?_
    obtain ⟨fvs, fn, tl, rfl, offl, hd, hlen, e1⟩ := hJ90
    refine hPP ?_
    clear hPP PP
    have EE : AllB m₁ [(Str.ofString "found", .ref fl)] := ⟨e1, trivial⟩
    replace F := renL _ F EE
    refine hideG fun PP hPP => ?_
    obtain ⟨r, hr, Dr⟩ := dat_map R hv
    refine hPP ?_
    clear hPP PP
    refine hideG fun PP hPP => ?_
    obtain ⟨y, yn, ty, a, an, avs, rfl, my, ma, Da⟩ := orow_in Dr
    refine hPP ?_
    clear hPP PP
    have hrm := G.mem r (List.mem_of_getElem? hr)
    have hlr : i < rows.length := (List.getElem?_eq_some_iff.mp hr).1
    (k_steps <;> repeat' ((first | with_reducible refine stop_out ?_ | with_reducible show wpAny _ _ _ _ _ _); (first | ((k_here; (with_reducible show wpAny _ _ (call (Value.builtin _) [Value.ref _, _]) _ _ _); k_dflt (refine' append_L (by k_asm) (by k_asm) (by k_upd) (by first | assumption | (rw [sizeLine_eq]; omega) | (rw [sizeLine_eq]; exact Nat.le_of_ble_eq_true rfl)) ?_); intro _ _ _; (try k_sweep))) | fail "no word"); k_steps))
    all_goals (try (((repeat (first | refine veil (by assumption) ?_ | refine turn_ret ?_ | refine turn_brk ?_ | refine wturn_ret ?_ | refine wturn_brk ?_)); (try dsimp only))))
    refine stop_out ?_
    refine Assign_ListComp_PT rfl (by assumption) (by rfl) (by with_unfolding_all rfl) (by with_unfolding_all rfl) (by decide) (by rfl) (by decide) (by rfl) (by rfl) (by decide) (by rfl) (by rfl) ?_
    (k_steps <;> repeat' ((first | with_reducible refine stop_out ?_ | with_reducible show wpAny _ _ _ _ _ _); (first | ((k_here; (with_reducible show wpAny _ _ (call (Value.builtin _) [Value.ref _, _]) _ _ _); k_dflt (refine' append_L (by k_asm) (by k_asm) (by k_upd) (by first | assumption | (rw [sizeLine_eq]; omega) | (rw [sizeLine_eq]; exact Nat.le_of_ble_eq_true rfl)) ?_); intro _ _ _; (try k_sweep))) | fail "no word"); k_steps))
    all_goals (try (((repeat (first | refine veil (by assumption) ?_ | refine turn_ret ?_ | refine turn_brk ?_ | refine wturn_ret ?_ | refine wturn_brk ?_)); (try dsimp only))))
    refine stop_out ?_
    have hal : avs.length = r.2.length := by have := Da.length; rw [List.length_map] at this; exact this
    refine ⟨a, avs, an, _, fun j ys nx => nx = (I, oI) :: (fl, lstO fvs fn) :: (tl ++ (Lc + 1 + 1 + 1, ob) :: (Lc + 1 + 1, o2) :: (Lc + 1, o3) :: news) ∧ DatAll news ys (((r.2.take j).filter (hitNot f x)).map fun q => q.2.dat), rfl, by assumption, by assumption, ?_, ⟨rfl, .nil⟩, by rw [sizeLine_eq]; omega, ?_, ?_⟩
    · rintro j ys nx ⟨rfl, _⟩; exact .tail _ (.tail _ (List.mem_append_right _ (.tail _ (.tail _ (.tail _ ma)))))
    · rintro j ys nx v ⟨rfl, hdj⟩ hv2
      refine hideG fun PP hPP => ?_
      obtain ⟨q, hq, Dq⟩ := dat_map Da hv2
      refine hPP ?_
      clear hPP PP
      refine hideG fun PP hPP => ?_
      obtain ⟨yy, yn2, yt, yu, rfl, my2, Dy⟩ := rdat_in Dq
      refine hPP ?_
      clear hPP PP
      have hqm := hrm.2 q (List.mem_of_getElem? hq)
      refine ⟨yy, _, _, yn2, rfl, .tail _ (.tail _ (List.mem_append_right _ (.tail _ (.tail _ (.tail _ my2))))), ?_⟩
      intro I2 oI2 C2 oC2 D2 m₂ h tk E' hC hx1 hx2 F N off2 ne2
      (k_steps <;> repeat' ((first | with_reducible refine stop_out ?_ | with_reducible show wpAny _ _ _ _ _ _); (first | ((k_here; (with_reducible show wpAny _ _ (call (Value.builtin _) [Value.ref _, _]) _ _ _); k_dflt (refine' append_L (by k_asm) (by k_asm) (by k_upd) (by first | assumption | (rw [sizeLine_eq]; omega) | (rw [sizeLine_eq]; exact Nat.le_of_ble_eq_true rfl)) ?_); intro _ _ _; (try k_sweep))) | fail "no word"); k_steps))
      all_goals (try (((repeat (first | refine veil (by assumption) ?_ | refine turn_ret ?_ | refine turn_brk ?_ | refine wturn_ret ?_ | refine wturn_brk ?_)); (try dsimp only))))
      · have hqf : q.1 = f := by omega
        have hqo : q.2.ok (bitsOf f) := hqf ▸ hqm.2
        (rename News _ _ _ _ => N9)
        refine use (s_is_wish_within (Dy.mono fun p hp => by walk_at "mem") hqo (hw.mono fun p hp => by walk_at "mem") hb) (by assumption) (by assumption) N9 (by decide) ?_
        rintro r9 nx' h' tk' F2 N2 ⟨rfl, rfl⟩
        (k_steps <;> repeat' ((first | with_reducible refine stop_out ?_ | with_reducible show wpAny _ _ _ _ _ _); (first | ((k_here; (with_reducible show wpAny _ _ (call (Value.builtin _) [Value.ref _, _]) _ _ _); k_dflt (refine' append_L (by k_asm) (by k_asm) (by k_upd) (by first | assumption | (rw [sizeLine_eq]; omega) | (rw [sizeLine_eq]; exact Nat.le_of_ble_eq_true rfl)) ?_); intro _ _ _; (try k_sweep))) | fail "no word"); k_steps))
        all_goals (try (((repeat (first | refine veil (by assumption) ?_ | refine turn_ret ?_ | refine turn_brk ?_ | refine wturn_ret ?_ | refine wturn_brk ?_)); (try dsimp only))))
        · have hwi : q.2.within (bitsOf f) x = true := by assumption
          (try (((repeat (first | refine veil (by assumption) ?_ | refine turn_ret ?_ | refine turn_brk ?_ | refine wturn_ret ?_ | refine wturn_brk ?_)); (try dsimp only))))
          refine ⟨_, _, _, _, rfl, F2, N2, .head _, .tail _ (.head _), .tail _ (.tail _ (.head _)), fun p hp => .tail _ (.tail _ (.tail _ hp)), off2, rfl, ?_⟩
          rw [filt_snoc hq, if_pos (by simp [hitNot, hqf, hwi])]
          exact all_snoc hdj (fun p hp => hp) Dy
        · have hwi : q.2.within (bitsOf f) x = false := by first | assumption | exact Bool.eq_false_iff.mpr (by assumption)
          (try (((repeat (first | refine veil (by assumption) ?_ | refine turn_ret ?_ | refine turn_brk ?_ | refine wturn_ret ?_ | refine wturn_brk ?_)); (try dsimp only))))
          refine ⟨_, _, _, _, rfl, F2, N2, .head _, .tail _ (.head _), .tail _ (.tail _ (.head _)), fun p hp => .tail _ (.tail _ (.tail _ hp)), off2, rfl, ?_⟩
          rw [filt_snoc hq, if_neg (by simp [hitNot, hqf, hwi]), List.append_nil]
          exact hdj
      · have hqf : q.1 ≠ f := by omega
        (try (((repeat (first | refine veil (by assumption) ?_ | refine turn_ret ?_ | refine turn_brk ?_ | refine wturn_ret ?_ | refine wturn_brk ?_)); (try dsimp only))))
        refine ⟨_, _, _, _, rfl, F, N, .head _, .tail _ (.head _), .tail _ (.tail _ (.head _)), fun p hp => .tail _ (.tail _ (.tail _ hp)), off2, rfl, ?_⟩
        rw [filt_snoc hq, if_neg (by simp [hitNot, hqf]), List.append_nil]
        exact hdj
    · rintro Dw h tk ys nx ⟨rfl, hdj⟩ F N offw
      have etk : r.2.take avs.length = r.2 := List.take_of_length_le (by omega)
      rw [etk] at hdj
      have hem := any_empty hdj
      have hz9 : fvs.length ≤ sizeLine := by have := G.len; rw [sizeLine_eq]; omega
      have nI : @Ne Nat I Dw := offw _ (.head _)
      have nf : @Ne Nat fl Dw := offw (fl, _) (.tail _ (.head _))
      have nfI : @Ne Nat fl I := off (fl, _) (.head _)
      (k_steps <;> repeat' ((first | with_reducible refine stop_out ?_ | with_reducible show wpAny _ _ _ _ _ _); (first | ((k_here; (with_reducible show wpAny _ _ (call (Value.builtin _) [Value.ref _, _]) _ _ _); k_dflt (refine' append_L (by k_asm) (by k_asm) (by k_upd) (by first | assumption | (rw [sizeLine_eq]; omega) | (rw [sizeLine_eq]; exact Nat.le_of_ble_eq_true rfl)) ?_); intro _ _ _; (try k_sweep))) | fail "no word"); k_steps))
      all_goals (try (((repeat (first | refine veil (by assumption) ?_ | refine turn_ret ?_ | refine turn_brk ?_ | refine wturn_ret ?_ | refine wturn_brk ?_)); (try dsimp only))))
      refine stop_out ?_
      refine eq_nil_L (xs := ys) (ka := ys.length) (by assumption) (.tail _ (.head _)) hdj (fun p hp => by walk_at "mem") (fun d hd => by obtain ⟨q, _, rfl⟩ := List.mem_map.mp hd; exact wish_kqd _ _) (.head _) hrc.u64 ?_
      (k_steps <;> repeat' ((first | with_reducible refine stop_out ?_ | with_reducible show wpAny _ _ _ _ _ _); (first | ((k_here; (with_reducible show wpAny _ _ (call (Value.builtin _) [Value.ref _, _]) _ _ _); k_dflt (refine' append_L (by k_asm) (by k_asm) (by k_upd) (by first | assumption | (rw [sizeLine_eq]; omega) | (rw [sizeLine_eq]; exact Nat.le_of_ble_eq_true rfl)) ?_); intro _ _ _; (try k_sweep))) | fail "no word"); k_steps))
      all_goals (try (((repeat (first | refine veil (by assumption) ?_ | refine turn_ret ?_ | refine turn_brk ?_ | refine wturn_ret ?_ | refine wturn_brk ?_)); (try dsimp only))))
      · rename_i T _ l4 _ F' N'
        have hem2 : (!(r.2.any (hitNot f x))) = true := hem ▸ (by assumption)
        replace N' : News _ _ _ ((T, tupO [.int r.1 ty, .ref a] 0) :: (_, lstO [] 0) :: (Dw, LCg.lst ys) :: (I, oI) :: (fl, lstO (fvs ++ [.ref T]) (fn + 1)) :: (tl ++ (Lc + 1 + 1 + 1, ob) :: (Lc + 1 + 1, o2) :: (Lc + 1, o3) :: news)) := N'
        refine turn_next ((fl, lstO (fvs ++ [.ref T]) (fn + 1)) :: (((T, tupO [.int r.1 ty, .ref a] 0) :: tl) ++ (Lc + 1 + 1 + 1, ob) :: (Lc + 1 + 1, o2) :: (Lc + 1, o3) :: news)) F' N' (.tail _ (.tail _ (.tail _ (.head _)))) ?_ ?_
          ⟨fvs ++ [.ref T], fn + 1, (T, tupO [.int r.1 ty, .ref a] 0) :: tl, rfl, ?_, ?_, by rw [List.length_append, List.length_singleton]; omega, rfl⟩
        · intro p hp
          rcases List.mem_cons.mp hp with rfl | hp
          · exact .tail _ (.tail _ (.tail _ (.tail _ (.head _))))
          · rcases List.mem_cons.mp hp with rfl | hp
            · exact .head _
            · exact .tail _ (.tail _ (.tail _ (.tail _ (.tail _ hp))))
        · exact List.forall_mem_cons.mpr ⟨nfI, List.forall_mem_cons.mpr ⟨by k_ne, fun p hp => off p (.tail _ hp)⟩⟩
        · exact List.forall_mem_cons.mpr ⟨by k_ne, offl⟩
        · rw [rowsNot_snoc hr, if_pos hem2, List.map_append]
          exact all_snoc hd (fun p hp => .tail _ hp) (DatIn.tuple (.head _) (.cons (.int _ _) (.cons (DatIn.tuple (.tail _ (List.mem_append_right _ ma)) (Da.mono fun p hp => by walk_at "mem")) .nil)))
      · have hem2 : ¬ (!(r.2.any (hitNot f x))) = true := by rw [← hem]; exact Bool.eq_false_iff.mp (by assumption)
        refine turn_next ((fl, lstO fvs fn) :: (tl ++ (Lc + 1 + 1 + 1, ob) :: (Lc + 1 + 1, o2) :: (Lc + 1, o3) :: news)) (by assumption) (by assumption) (.tail _ (.tail _ (.head _))) (fun p hp => .tail _ (.tail _ (.tail _ hp))) off
          ⟨fvs, fn, tl, rfl, offl, ?_, by omega, rfl⟩
        rw [rowsNot_snoc hr, if_neg hem2, List.append_nil]
        exact hd
  · rintro m₁ nx h tk hJ90 F N
    refine hideG fun PP hPP => ?_
    obtain ⟨fvs, fn, tl, rfl, offl, hd, hlen, e1⟩ := hJ90
    refine hPP ?_
    clear hPP PP
    have EE : AllB m₁ [(Str.ofString "found", .ref fl)] := ⟨e1, trivial⟩
    replace F := renL _ F EE
    (k_steps <;> repeat' ((first | with_reducible refine stop_out ?_ | with_reducible show wpAny _ _ _ _ _ _); (first | ((k_here; (with_reducible show wpAny _ _ (call (Value.builtin _) [Value.ref _, _]) _ _ _); k_dflt (refine' append_L (by k_asm) (by k_asm) (by k_upd) (by first | assumption | (rw [sizeLine_eq]; omega) | (rw [sizeLine_eq]; exact Nat.le_of_ble_eq_true rfl)) ?_); intro _ _ _; (try k_sweep))) | fail "no word"); k_steps))
    all_goals (try (((repeat (first | refine veil (by assumption) ?_ | refine turn_ret ?_ | refine turn_brk ?_ | refine wturn_ret ?_ | refine wturn_brk ?_)); (try dsimp only))))
    have e : rows.take rvs.length = rows := List.take_of_length_le (by have := R.length; rw [List.length_map] at this; omega)
    rw [e] at hd
    (try (((repeat (first | refine veil (by assumption) ?_ | refine turn_ret ?_ | refine turn_brk ?_ | refine wturn_ret ?_ | refine wturn_brk ?_)); (try dsimp only))))
    refine ⟨_, _, (fl, lstO fvs fn) :: (tl ++ news), _, rfl, by assumption, nsub N ?_, (fl, lstO fvs fn) :: tl, rfl, DatIn.list (.head _) (hd.mono fun p hp => .tail _ hp)⟩
    intro p hp
    simp only [List.mem_cons, List.mem_append] at hp ⊢
    rcases hp with h | h | h <;> simp [h]
end
section
theorem off_H1 : True := by w_top off; trivial
variable {w : World} {mean : ExcName → Option Value} {mg mb : Str → Option Value} {news : List (Addr × Obj)}
abbrev treeD (w : World) (k1 k2 k3 k4 tm : Tok) (rl nl wl : Addr) (most : Nat) : Obj :=
  dictOf [⟨PyData.keyHash w.params (Str.ofString "rules"), .str (Str.ofString "rules") k1, .ref rl⟩, ⟨PyData.keyHash w.params (Str.ofString "most"), .str (Str.ofString "most") k2, .int (most : Nat) tm⟩,
    ⟨PyData.keyHash w.params (Str.ofString "nodes"), .str (Str.ofString "nodes") k3, .ref nl⟩, ⟨PyData.keyHash w.params (Str.ofString "waiting"), .str (Str.ofString "waiting") k4, .ref wl⟩] 4

theorem s_put {x dx rl nl wl : Addr} {k1 k2 k3 k4 tm : Tok} {most : Nat} {nvs wvs : List Value} {nn wn : Nat} {rest : List (Addr × Obj)} {v : Value} (m1 : (x, instObj 243 dx) ∈ rest) (m2 : (dx, treeD w k1 k2 k3 k4 tm rl nl wl most) ∈ rest)
    (o1 : ∀ p ∈ rest, p.1 ≠ nl) (o2 : ∀ p ∈ rest, p.1 ≠ wl) (o3 : @Ne Nat nl wl) (hn : nvs.length ≤ 1000) (hw : wvs.length ≤ 1000) :
    Spec w mean mg mb 226 1 [.ref x, v] ((nl, lstO nvs nn) :: (wl, lstO wvs wn) :: rest) (fun news' r => ∃ n1 n2 t tt tr, news' = (nl, lstO (nvs ++ [.none]) n1) :: (wl, lstO (wvs ++ [.ref t]) n2) :: (t, tupO [.int (nvs.length : Nat) tt, v] 0) :: rest ∧ (∀ p ∈ (t, tupO [.int (nvs.length : Nat) tt, v] 0) :: rest, p.1 ≠ nl) ∧ (∀ p ∈ (t, tupO [.int (nvs.length : Nat) tt, v] 0) :: rest, p.1 ≠ wl) ∧ r = .int (nvs.length : Nat) tr) := by
  have o4 : ∀ p ∈ (wl, lstO wvs wn) :: rest, p.1 ≠ nl := List.forall_mem_cons.mpr ⟨Ne.symm o3, o1⟩
  have hn2 : (nvs ++ [Value.none]).length ≤ sizeLine := by rw [sizeLine_eq, List.length_append]; simp; omega
  have hw2 : wvs.length ≤ sizeLine := by rw [sizeLine_eq]; omega
  have e9 : (((nvs ++ [Value.none]).length : Nat) : Int) - 1 = (nvs.length : Nat) := by rw [List.length_append]; simp
  ((refine' spec_intro (by k_is) (by k_is) (by exact rfl) (by exact rfl) (by exact rfl) (by exact rfl) (by exact rfl) (by decide) ?_; k_whole; intro dp' un' gd' fr' envc' outer' A₀' base' g' L' h' ge' dr' os' tk' A9' E9' C' hr' hA' B' X' T' F' N' T' hT'; (try dsimp only [List.map, List.zip, List.zipWith, List.reverse, List.reverseAux] at F'); (try dsimp only); (try k_fold)))
  (k_steps <;> repeat' ((first | with_reducible refine stop_out ?_ | with_reducible show wpAny _ _ _ _ _ _); (first | ((k_here; (with_reducible show wpAny _ _ (call (Value.builtin "len") [Value.ref _]) _ _ _); k_dflt (refine' len_lst (by k_asm) (by k_mem) (by first | assumption | (rw [sizeLine_eq]; omega) | (rw [sizeLine_eq]; exact Nat.le_of_ble_eq_true rfl)) ?_))) | ((k_here; (with_reducible show wpAny _ _ (call (Value.builtin _) [Value.ref _, _]) _ _ _); k_dflt (refine' append_L (by k_asm) (by k_asm) (by k_upd) (by first | assumption | (rw [sizeLine_eq]; omega) | (rw [sizeLine_eq]; exact Nat.le_of_ble_eq_true rfl)) ?_); intro _ _ _; (try k_sweep))) | fail "no word"); k_steps))
  all_goals (try (((repeat (first | refine veil (by assumption) ?_ | refine turn_ret ?_ | refine turn_brk ?_ | refine wturn_ret ?_ | refine wturn_brk ?_)); (try dsimp only))))
  rename_i T _ l1 _ F9 N9
  rw [e9] at N9
  rw [e9]
  obtain ⟨tt, N9⟩ : ∃ tt, News _ _ _ ((T, tupO [.int (nvs.length : Nat) tt, v] 0) :: (nl, lstO (nvs ++ [.none]) (nn + 1)) :: (wl, lstO (wvs ++ [.ref T]) (wn + 1)) :: rest) := ⟨_, N9⟩
  (try (((repeat (first | refine veil (by assumption) ?_ | refine turn_ret ?_ | refine turn_brk ?_ | refine wturn_ret ?_ | refine wturn_brk ?_)); (try dsimp only))))
  refine ⟨_, _, (nl, lstO (nvs ++ [.none]) (nn + 1)) :: (wl, lstO (wvs ++ [.ref T]) (wn + 1)) :: (T, tupO [.int (nvs.length : Nat) tt, v] 0) :: rest, _, rfl, F9, nsub N9 ?_, nn + 1, wn + 1, T, _, _, rfl, List.forall_mem_cons.mpr ⟨by k_ne, o1⟩, List.forall_mem_cons.mpr ⟨by k_ne, o2⟩, rfl⟩
  intro p hp
  simp only [List.mem_cons] at hp ⊢
  rcases hp with h | h | h | h <;> simp [h]
end
section
theorem off_H2 : True := by w_top off; trivial
variable {w : World} {mean : ExcName → Option Value} {mg mb : Str → Option Value} {news : List (Addr × Obj)}
local macro_rules | `(tactic| walk_at "setItem ref int") => `(tactic| (k_here; refine stop_in ?_))
abbrev WRow := Nat × List (Nat × Rw)
def wdat (p : WRow) : Dat := .tuple [.int (p.1 : Nat), .list (p.2.map orow)]
def growF (most : Nat) (nodes : List (Option Node)) (wait : List WRow) (k : Nat) (rows : List (Nat × Rw)) : List (Option Node) × List WRow :=
  match rows with
  | [] => (nodes.set k (some (.leaf none)), wait)
  | (place, []) :: _ => (nodes.set k (some (.leaf (some place))), wait)
  | (place, (f, x) :: more) :: rs =>
    if most < nodes.length + 2 then (nodes.set k (some (.list (((place, (f, x) :: more) :: rs).map (·.1)))), wait)
    else ((nodes ++ [none, none]).set k (some (.ask f x nodes.length (nodes.length + 1))), wait ++ [(nodes.length, rowsSo f x ((place, (f, x) :: more) :: rs)), (nodes.length + 1, rowsNot f x ((place, (f, x) :: more) :: rs))])
theorem wdat_in {news : List (Addr × Obj)} {v : Value} {r : WRow} (h : DatIn news v (wdat r)) : ∃ y n t a an avs, v = .ref y ∧ (y, tupO [.int (r.1 : Nat) t, .ref a] n) ∈ news ∧ (a, lstO avs an) ∈ news ∧ DatAll news avs (r.2.map orow) := by
  cases h with | tuple m q => cases q with | cons x1 q => cases q with | cons x2 q =>
    cases q; cases x1
    obtain ⟨l, n, vs, rfl, m2, h2⟩ := dat_list x2
    (try (((repeat (first | refine veil (by assumption) ?_ | refine turn_ret ?_ | refine turn_brk ?_ | refine wturn_ret ?_ | refine wturn_brk ?_)); (try dsimp only))))
    exact ⟨_, _, _, _, _, _, rfl, m, m2, h2⟩
theorem rdat_kqd (q : Nat × Wish) (n : Nat) : kqdOk (n + 2) (rdat q) = true := by
  simp only [rdat, kqdOk, List.all_cons, List.all_nil, Bool.and_true, Bool.true_and]; exact wish_kqd _ _
theorem orow_kqd (r : Nat × Rw) (n : Nat) : kqdOk (n + 4) (orow r) = true := by
  simp only [orow, kqdOk, List.all_cons, List.all_nil, Bool.and_true, Bool.true_and, List.all_eq_true]
  intro d hd
  obtain ⟨q, _, rfl⟩ := List.mem_map.mp hd
  exact rdat_kqd _ _
theorem wdat_kqd (p : WRow) (n : Nat) : kqdOk (n + 6) (wdat p) = true := by
  simp only [wdat, kqdOk, List.all_cons, List.all_nil, Bool.and_true, Bool.true_and, List.all_eq_true]
  intro d hd
  obtain ⟨q, _, rfl⟩ := List.mem_map.mp hd
  exact orow_kqd _ _

def GrowOk (nl wl : Addr) (rest : List (Addr × Obj)) (st : List (Option Node) × List WRow) (news' : List (Addr × Obj)) (r : Value) : Prop :=
  ∃ nvs' nn' wvs' wn' tl, news' = (nl, lstO nvs' nn') :: (wl, lstO wvs' wn') :: (tl ++ rest) ∧ (∀ p ∈ tl ++ rest, p.1 ≠ nl) ∧ (∀ p ∈ tl ++ rest, p.1 ≠ wl) ∧ DatAll (tl ++ rest) nvs' (st.1.map nodeDat) ∧ DatAll (tl ++ rest) wvs' (st.2.map wdat) ∧ r = .none

theorem s_grow_nil {x dx rl nl wl : Addr} {k1 k2 k3 k4 tm : Tok} {most : Nat} {nvs wvs : List Value} {wv : Value} {nn wn : Nat} {rest : List (Addr × Obj)} {nodes : List (Option Node)} {wait : List WRow} {k : Nat} (m1 : (x, instObj 243 dx) ∈ rest) (m2 : (dx, treeD w k1 k2 k3 k4 tm rl nl wl most) ∈ rest)
    (o1 : ∀ p ∈ rest, p.1 ≠ nl) (o2 : ∀ p ∈ rest, p.1 ≠ wl) (o3 : @Ne Nat nl wl) (hn : nodes.length ≤ 900) (hw : wait.length ≤ 900) (hk : k < nodes.length)
    (Dn : DatAll rest nvs (nodes.map nodeDat)) (Dw : DatAll rest wvs (wait.map wdat)) (Dl : DatIn rest wv (wdat (k, []))) :
    Spec w mean mg mb 219 7 [.ref x] ((nl, lstO nvs nn) :: (wl, lstO (wvs ++ [wv]) wn) :: rest) (GrowOk nl wl rest (growF most nodes wait k [])) := by
  have o4 : ∀ p ∈ (wl, lstO wvs (wn + 1)) :: rest, p.1 ≠ nl := List.forall_mem_cons.mpr ⟨Ne.symm o3, o1⟩
  have hnl := Dn.length
  have hwl := Dw.length
  rw [List.length_map] at hnl hwl
  have hz1 : (wvs ++ [wv]).length ≤ sizeLine := by rw [sizeLine_eq, List.length_append, List.length_singleton]; omega
  refine hideG fun PP hPP => ?_
  obtain ⟨y, yn, t, a, an, avs, rfl, my, ma, Da⟩ := wdat_in Dl
  refine hPP ?_
  clear hPP PP
  cases Da
  ((refine' spec_intro (by k_is) (by k_is) (by exact rfl) (by exact rfl) (by exact rfl) (by exact rfl) (by exact rfl) (by decide) ?_; k_whole; intro dp' un' gd' fr' envc' outer' A₀' base' g' L' h' ge' dr' os' tk' A9' E9' C' hr' hA' B' X' T' F' N' T' hT'; (try dsimp only [List.map, List.zip, List.zipWith, List.reverse, List.reverseAux] at F'); (try dsimp only); (try k_fold)))
  (k_steps <;> repeat' ((first | with_reducible refine stop_out ?_ | with_reducible show wpAny _ _ _ _ _ _); (first | ((k_here; (with_reducible show wpAny _ _ (call (Value.builtin _) [Value.ref _]) _ _ _); k_dflt (refine' pop_L (by k_asm) (by k_asm) (by k_upd) (by first | assumption | (rw [sizeLine_eq]; omega)) ?_); intro _ _ _; (try k_sweep))) | ((k_here; (with_reducible show wpAny _ _ (setItem (Value.ref _) (Value.int _ _) _) _ _ _); k_dflt (refine' set_L (by k_asm) (by k_asm) (by first | exact rfl | assumption) (by k_upd) (by first | assumption | omega) (by first | assumption | omega) ?_); intro _ _ _; (try k_sweep))) | ((k_here; (with_reducible show wpAny _ _ (subscriptTail _ _ (Value.ref _) (Value.int _ _)) _ _ _); k_dflt (first | (refine' item_tupK 0 (by exact rfl) (by k_asm) (by k_mem) (by exact rfl) (by first | assumption | (rw [sizeLine_eq]; exact Nat.le_of_ble_eq_true rfl)) ?_ (by with_unfolding_all rfl)) | (refine' item_listK 0 (by exact rfl) (by k_asm) (by k_mem) (by exact rfl) (by first | assumption | (rw [sizeLine_eq]; exact Nat.le_of_ble_eq_true rfl)) ?_ (by with_unfolding_all rfl)) | (refine' item_tupK 1 (by exact rfl) (by k_asm) (by k_mem) (by exact rfl) (by first | assumption | (rw [sizeLine_eq]; exact Nat.le_of_ble_eq_true rfl)) ?_ (by with_unfolding_all rfl)) | (refine' item_listK 1 (by exact rfl) (by k_asm) (by k_mem) (by exact rfl) (by first | assumption | (rw [sizeLine_eq]; exact Nat.le_of_ble_eq_true rfl)) ?_ (by with_unfolding_all rfl)) | (refine' item_tupK 2 (by exact rfl) (by k_asm) (by k_mem) (by exact rfl) (by first | assumption | (rw [sizeLine_eq]; exact Nat.le_of_ble_eq_true rfl)) ?_ (by with_unfolding_all rfl)) | (refine' item_tupK 3 (by exact rfl) (by k_asm) (by k_mem) (by exact rfl) (by first | assumption | (rw [sizeLine_eq]; exact Nat.le_of_ble_eq_true rfl)) ?_ (by with_unfolding_all rfl)) | (refine' item_tupK 4 (by exact rfl) (by k_asm) (by k_mem) (by exact rfl) (by first | assumption | (rw [sizeLine_eq]; exact Nat.le_of_ble_eq_true rfl)) ?_ (by with_unfolding_all rfl))))) | fail "no word"); k_steps))
  all_goals (try (((repeat (first | refine veil (by assumption) ?_ | refine turn_ret ?_ | refine turn_brk ?_ | refine wturn_ret ?_ | refine wturn_brk ?_)); (try dsimp only))))
  refine stop_out ?_
  refine eq_nil_L (xs := []) (n₁ := []) (ds := []) (by assumption) (by walk_at "mem") .nil (fun _ h => nomatch h) (fun _ h => nomatch h) (.head _) (by assumption : Room _ _).u64 ?_
  (k_steps <;> repeat' ((first | with_reducible refine stop_out ?_ | with_reducible show wpAny _ _ _ _ _ _); (first | ((k_here; (with_reducible show wpAny _ _ (call (Value.builtin _) [Value.ref _]) _ _ _); k_dflt (refine' pop_L (by k_asm) (by k_asm) (by k_upd) (by first | assumption | (rw [sizeLine_eq]; omega)) ?_); intro _ _ _; (try k_sweep))) | ((k_here; (with_reducible show wpAny _ _ (setItem (Value.ref _) (Value.int _ _) _) _ _ _); k_dflt (refine' set_L (by k_asm) (by k_asm) (by first | exact rfl | assumption) (by k_upd) (by first | assumption | omega) (by first | assumption | omega) ?_); intro _ _ _; (try k_sweep))) | ((k_here; (with_reducible show wpAny _ _ (subscriptTail _ _ (Value.ref _) (Value.int _ _)) _ _ _); k_dflt (first | (refine' item_tupK 0 (by exact rfl) (by k_asm) (by k_mem) (by exact rfl) (by first | assumption | (rw [sizeLine_eq]; exact Nat.le_of_ble_eq_true rfl)) ?_ (by with_unfolding_all rfl)) | (refine' item_listK 0 (by exact rfl) (by k_asm) (by k_mem) (by exact rfl) (by first | assumption | (rw [sizeLine_eq]; exact Nat.le_of_ble_eq_true rfl)) ?_ (by with_unfolding_all rfl)) | (refine' item_tupK 1 (by exact rfl) (by k_asm) (by k_mem) (by exact rfl) (by first | assumption | (rw [sizeLine_eq]; exact Nat.le_of_ble_eq_true rfl)) ?_ (by with_unfolding_all rfl)) | (refine' item_listK 1 (by exact rfl) (by k_asm) (by k_mem) (by exact rfl) (by first | assumption | (rw [sizeLine_eq]; exact Nat.le_of_ble_eq_true rfl)) ?_ (by with_unfolding_all rfl)) | (refine' item_tupK 2 (by exact rfl) (by k_asm) (by k_mem) (by exact rfl) (by first | assumption | (rw [sizeLine_eq]; exact Nat.le_of_ble_eq_true rfl)) ?_ (by with_unfolding_all rfl)) | (refine' item_tupK 3 (by exact rfl) (by k_asm) (by k_mem) (by exact rfl) (by first | assumption | (rw [sizeLine_eq]; exact Nat.le_of_ble_eq_true rfl)) ?_ (by with_unfolding_all rfl)) | (refine' item_tupK 4 (by exact rfl) (by k_asm) (by k_mem) (by exact rfl) (by first | assumption | (rw [sizeLine_eq]; exact Nat.le_of_ble_eq_true rfl)) ?_ (by with_unfolding_all rfl))))) | fail "no word"); k_steps))
  all_goals (try (((repeat (first | refine veil (by assumption) ?_ | refine turn_ret ?_ | refine turn_brk ?_ | refine wturn_ret ?_ | refine wturn_brk ?_)); (try dsimp only))))
  rename_i ll _ l8 tk9 T _ l9 _ F9 N9
  replace N9 : News _ _ _ ((T, tupO [.str (Str.ofString "leaf") tk9, .none] 0) :: (ll, lstO [] 0) :: (nl, lstO (nvs.set k (.ref T)) nn) :: (wl, lstO wvs (wn + 1)) :: rest) := N9
  (try (((repeat (first | refine veil (by assumption) ?_ | refine turn_ret ?_ | refine turn_brk ?_ | refine wturn_ret ?_ | refine wturn_brk ?_)); (try dsimp only))))
  refine ⟨_, _, (nl, lstO (nvs.set k (.ref T)) nn) :: (wl, lstO wvs (wn + 1)) :: ([(T, tupO [.str (Str.ofString "leaf") tk9, .none] 0)] ++ rest), _, rfl, F9, nsub N9 ?_, _, _, _, _, _, rfl, List.forall_mem_cons.mpr ⟨by k_ne, o1⟩, List.forall_mem_cons.mpr ⟨by k_ne, o2⟩, ?_, Dw.mono fun p hp => .tail _ hp, rfl⟩
  · intro p hp
    simp only [List.mem_cons, List.cons_append, List.nil_append] at hp ⊢
    rcases hp with h | h | h | h <;> simp [h]
  · show DatAll _ _ ((nodes.set k (some (.leaf none))).map nodeDat)
    rw [List.map_set]
    exact all_set (Dn.mono fun p hp => .tail _ hp) (DatIn.tuple (.head _) (.cons (.str _ _) (.cons .none .nil))) k

theorem s_grow_leaf {x dx rl nl wl : Addr} {k1 k2 k3 k4 tm : Tok} {most : Nat} {nvs wvs : List Value} {wv : Value} {nn wn : Nat} {rest : List (Addr × Obj)} {nodes : List (Option Node)} {wait : List WRow} {k place : Nat} {rs : List (Nat × Rw)} (m1 : (x, instObj 243 dx) ∈ rest) (m2 : (dx, treeD w k1 k2 k3 k4 tm rl nl wl most) ∈ rest)
    (o1 : ∀ p ∈ rest, p.1 ≠ nl) (o2 : ∀ p ∈ rest, p.1 ≠ wl) (o3 : @Ne Nat nl wl) (hn : nodes.length ≤ 900) (hw : wait.length ≤ 900) (hk : k < nodes.length)
    (Dn : DatAll rest nvs (nodes.map nodeDat)) (Dw : DatAll rest wvs (wait.map wdat)) (Dl : DatIn rest wv (wdat (k, (place, []) :: rs))) (G : ROk ((place, []) :: rs)) :
    Spec w mean mg mb 219 7 [.ref x] ((nl, lstO nvs nn) :: (wl, lstO (wvs ++ [wv]) wn) :: rest) (GrowOk nl wl rest (growF most nodes wait k ((place, []) :: rs))) := by
  have o4 : ∀ p ∈ (wl, lstO wvs (wn + 1)) :: rest, p.1 ≠ nl := List.forall_mem_cons.mpr ⟨Ne.symm o3, o1⟩
  have hnl := Dn.length
  have hwl := Dw.length
  rw [List.length_map] at hnl hwl
  have hz1 : (wvs ++ [wv]).length ≤ sizeLine := by rw [sizeLine_eq, List.length_append, List.length_singleton]; omega
  refine hideG fun PP hPP => ?_
  obtain ⟨y, yn, t, a, an, avs, rfl, my, ma, Da⟩ := wdat_in Dl
  refine hPP ?_
  clear hPP PP
  have hrl := Da.length
  have hgl := G.len
  have hz2 : avs.length ≤ sizeLine := by rw [hrl, sizeLine_eq, List.length_map]; exact Nat.le_trans hgl (by decide)
  have Da2 := Da
  cases Da with | cons Dr Drs =>
  refine hideG fun PP hPP => ?_
  obtain ⟨y2, yn2, t2, a2, an2, avs2, rfl, my2, ma2, Da3⟩ := orow_in Dr
  refine hPP ?_
  clear hPP PP
  cases Da3
  ((refine' spec_intro (by k_is) (by k_is) (by exact rfl) (by exact rfl) (by exact rfl) (by exact rfl) (by exact rfl) (by decide) ?_; k_whole; intro dp' un' gd' fr' envc' outer' A₀' base' g' L' h' ge' dr' os' tk' A9' E9' C' hr' hA' B' X' T' F' N' T' hT'; (try dsimp only [List.map, List.zip, List.zipWith, List.reverse, List.reverseAux] at F'); (try dsimp only); (try k_fold)))
  (k_steps <;> repeat' ((first | with_reducible refine stop_out ?_ | with_reducible show wpAny _ _ _ _ _ _); (first | ((k_here; (with_reducible show wpAny _ _ (call (Value.builtin _) [Value.ref _]) _ _ _); k_dflt (refine' pop_L (by k_asm) (by k_asm) (by k_upd) (by first | assumption | (rw [sizeLine_eq]; omega)) ?_); intro _ _ _; (try k_sweep))) | ((k_here; (with_reducible show wpAny _ _ (setItem (Value.ref _) (Value.int _ _) _) _ _ _); k_dflt (refine' set_L (by k_asm) (by k_asm) (by first | exact rfl | assumption) (by k_upd) (by first | assumption | omega) (by first | assumption | omega) ?_); intro _ _ _; (try k_sweep))) | ((k_here; (with_reducible show wpAny _ _ (subscriptTail _ _ (Value.ref _) (Value.int _ _)) _ _ _); k_dflt (first | (refine' item_tupK 0 (by exact rfl) (by k_asm) (by k_mem) (by exact rfl) (by first | assumption | (rw [sizeLine_eq]; exact Nat.le_of_ble_eq_true rfl)) ?_ (by with_unfolding_all rfl)) | (refine' item_listK 0 (by exact rfl) (by k_asm) (by k_mem) (by exact rfl) (by first | assumption | (rw [sizeLine_eq]; exact Nat.le_of_ble_eq_true rfl)) ?_ (by with_unfolding_all rfl)) | (refine' item_tupK 1 (by exact rfl) (by k_asm) (by k_mem) (by exact rfl) (by first | assumption | (rw [sizeLine_eq]; exact Nat.le_of_ble_eq_true rfl)) ?_ (by with_unfolding_all rfl)) | (refine' item_listK 1 (by exact rfl) (by k_asm) (by k_mem) (by exact rfl) (by first | assumption | (rw [sizeLine_eq]; exact Nat.le_of_ble_eq_true rfl)) ?_ (by with_unfolding_all rfl)) | (refine' item_tupK 2 (by exact rfl) (by k_asm) (by k_mem) (by exact rfl) (by first | assumption | (rw [sizeLine_eq]; exact Nat.le_of_ble_eq_true rfl)) ?_ (by with_unfolding_all rfl)) | (refine' item_tupK 3 (by exact rfl) (by k_asm) (by k_mem) (by exact rfl) (by first | assumption | (rw [sizeLine_eq]; exact Nat.le_of_ble_eq_true rfl)) ?_ (by with_unfolding_all rfl)) | (refine' item_tupK 4 (by exact rfl) (by k_asm) (by k_mem) (by exact rfl) (by first | assumption | (rw [sizeLine_eq]; exact Nat.le_of_ble_eq_true rfl)) ?_ (by with_unfolding_all rfl))))) | fail "no word"); k_steps))
  all_goals (try (((repeat (first | refine veil (by assumption) ?_ | refine turn_ret ?_ | refine turn_brk ?_ | refine wturn_ret ?_ | refine wturn_brk ?_)); (try dsimp only))))
  refine stop_out ?_
  refine eq_nil_B false rfl (by assumption) (by walk_at "mem") Da2 (fun p hp => by walk_at "mem") (fun d hd => by obtain ⟨q, _, rfl⟩ := List.mem_map.mp hd; exact orow_kqd _ _) (.head _) (by assumption : Room _ _).u64 ?_
  (k_steps <;> repeat' ((first | with_reducible refine stop_out ?_ | with_reducible show wpAny _ _ _ _ _ _); (first | ((k_here; (with_reducible show wpAny _ _ (call (Value.builtin _) [Value.ref _]) _ _ _); k_dflt (refine' pop_L (by k_asm) (by k_asm) (by k_upd) (by first | assumption | (rw [sizeLine_eq]; omega)) ?_); intro _ _ _; (try k_sweep))) | ((k_here; (with_reducible show wpAny _ _ (setItem (Value.ref _) (Value.int _ _) _) _ _ _); k_dflt (refine' set_L (by k_asm) (by k_asm) (by first | exact rfl | assumption) (by k_upd) (by first | assumption | omega) (by first | assumption | omega) ?_); intro _ _ _; (try k_sweep))) | ((k_here; (with_reducible show wpAny _ _ (subscriptTail _ _ (Value.ref _) (Value.int _ _)) _ _ _); k_dflt (first | (refine' item_tupK 0 (by exact rfl) (by k_asm) (by k_mem) (by exact rfl) (by first | assumption | (rw [sizeLine_eq]; exact Nat.le_of_ble_eq_true rfl)) ?_ (by with_unfolding_all rfl)) | (refine' item_listK 0 (by exact rfl) (by k_asm) (by k_mem) (by exact rfl) (by first | assumption | (rw [sizeLine_eq]; exact Nat.le_of_ble_eq_true rfl)) ?_ (by with_unfolding_all rfl)) | (refine' item_tupK 1 (by exact rfl) (by k_asm) (by k_mem) (by exact rfl) (by first | assumption | (rw [sizeLine_eq]; exact Nat.le_of_ble_eq_true rfl)) ?_ (by with_unfolding_all rfl)) | (refine' item_listK 1 (by exact rfl) (by k_asm) (by k_mem) (by exact rfl) (by first | assumption | (rw [sizeLine_eq]; exact Nat.le_of_ble_eq_true rfl)) ?_ (by with_unfolding_all rfl)) | (refine' item_tupK 2 (by exact rfl) (by k_asm) (by k_mem) (by exact rfl) (by first | assumption | (rw [sizeLine_eq]; exact Nat.le_of_ble_eq_true rfl)) ?_ (by with_unfolding_all rfl)) | (refine' item_tupK 3 (by exact rfl) (by k_asm) (by k_mem) (by exact rfl) (by first | assumption | (rw [sizeLine_eq]; exact Nat.le_of_ble_eq_true rfl)) ?_ (by with_unfolding_all rfl)) | (refine' item_tupK 4 (by exact rfl) (by k_asm) (by k_mem) (by exact rfl) (by first | assumption | (rw [sizeLine_eq]; exact Nat.le_of_ble_eq_true rfl)) ?_ (by with_unfolding_all rfl))))) | fail "no word"); k_steps))
  all_goals (try (((repeat (first | refine veil (by assumption) ?_ | refine turn_ret ?_ | refine turn_brk ?_ | refine wturn_ret ?_ | refine wturn_brk ?_)); (try dsimp only))))
  refine stop_out ?_
  refine eq_nil_T (xs := []) (n₁ := []) (ds := []) true rfl (by assumption) (by walk_at "mem") .nil (fun _ h => nomatch h) (fun _ h => nomatch h) (.head _) (by assumption : Room _ _).u64 ?_
  (k_steps <;> repeat' ((first | with_reducible refine stop_out ?_ | with_reducible show wpAny _ _ _ _ _ _); (first | ((k_here; (with_reducible show wpAny _ _ (call (Value.builtin _) [Value.ref _]) _ _ _); k_dflt (refine' pop_L (by k_asm) (by k_asm) (by k_upd) (by first | assumption | (rw [sizeLine_eq]; omega)) ?_); intro _ _ _; (try k_sweep))) | ((k_here; (with_reducible show wpAny _ _ (setItem (Value.ref _) (Value.int _ _) _) _ _ _); k_dflt (refine' set_L (by k_asm) (by k_asm) (by first | exact rfl | assumption) (by k_upd) (by first | assumption | omega) (by first | assumption | omega) ?_); intro _ _ _; (try k_sweep))) | ((k_here; (with_reducible show wpAny _ _ (subscriptTail _ _ (Value.ref _) (Value.int _ _)) _ _ _); k_dflt (first | (refine' item_tupK 0 (by exact rfl) (by k_asm) (by k_mem) (by exact rfl) (by first | assumption | (rw [sizeLine_eq]; exact Nat.le_of_ble_eq_true rfl)) ?_ (by with_unfolding_all rfl)) | (refine' item_listK 0 (by exact rfl) (by k_asm) (by k_mem) (by exact rfl) (by first | assumption | (rw [sizeLine_eq]; exact Nat.le_of_ble_eq_true rfl)) ?_ (by with_unfolding_all rfl)) | (refine' item_tupK 1 (by exact rfl) (by k_asm) (by k_mem) (by exact rfl) (by first | assumption | (rw [sizeLine_eq]; exact Nat.le_of_ble_eq_true rfl)) ?_ (by with_unfolding_all rfl)) | (refine' item_listK 1 (by exact rfl) (by k_asm) (by k_mem) (by exact rfl) (by first | assumption | (rw [sizeLine_eq]; exact Nat.le_of_ble_eq_true rfl)) ?_ (by with_unfolding_all rfl)) | (refine' item_tupK 2 (by exact rfl) (by k_asm) (by k_mem) (by exact rfl) (by first | assumption | (rw [sizeLine_eq]; exact Nat.le_of_ble_eq_true rfl)) ?_ (by with_unfolding_all rfl)) | (refine' item_tupK 3 (by exact rfl) (by k_asm) (by k_mem) (by exact rfl) (by first | assumption | (rw [sizeLine_eq]; exact Nat.le_of_ble_eq_true rfl)) ?_ (by with_unfolding_all rfl)) | (refine' item_tupK 4 (by exact rfl) (by k_asm) (by k_mem) (by exact rfl) (by first | assumption | (rw [sizeLine_eq]; exact Nat.le_of_ble_eq_true rfl)) ?_ (by with_unfolding_all rfl))))) | fail "no word"); k_steps))
  all_goals (try (((repeat (first | refine veil (by assumption) ?_ | refine turn_ret ?_ | refine turn_brk ?_ | refine wturn_ret ?_ | refine wturn_brk ?_)); (try dsimp only))))
  rename_i e1 _ l7 ll _ _ _ l8 tk9 T _ l9 _ F9 N9
  (try (((repeat (first | refine veil (by assumption) ?_ | refine turn_ret ?_ | refine turn_brk ?_ | refine wturn_ret ?_ | refine wturn_brk ?_)); (try dsimp only))))
  refine ⟨_, _, (nl, lstO (nvs.set k (.ref T)) nn) :: (wl, lstO wvs (wn + 1)) :: ([(T, tupO [.str (Str.ofString "leaf") tk9, .int (place : Nat) t2] 0)] ++ rest), _, rfl, F9, nsub N9 ?_, _, _, _, _, _, rfl, List.forall_mem_cons.mpr ⟨by k_ne, o1⟩, List.forall_mem_cons.mpr ⟨by k_ne, o2⟩, ?_, Dw.mono fun p hp => .tail _ hp, rfl⟩
  · intro p hp
    rcases List.mem_cons.mp hp with rfl | hp
    · exact .tail _ (.tail _ (.tail _ (.head _)))
    · rcases List.mem_cons.mp hp with rfl | hp
      · exact .tail _ (.tail _ (.tail _ (.tail _ (.head _))))
      · rcases List.mem_cons.mp hp with rfl | hp
        · exact .head _
        · exact .tail _ (.tail _ (.tail _ (.tail _ (.tail _ hp))))
  · show DatAll _ _ ((nodes.set k (some (.leaf (some place)))).map nodeDat)
    rw [List.map_set]
    exact all_set (Dn.mono fun p hp => .tail _ hp) (DatIn.tuple (.head _) (.cons (.str _ _) (.cons (.int _ _) .nil))) k
end
section
theorem off_H3 : True := by w_top off; trivial
variable {w : World} {mean : ExcName → Option Value} {mg mb : Str → Option Value} {news : List (Addr × Obj)}
local macro_rules | `(tactic| walk_at "setItem ref int") => `(tactic| (k_here; refine stop_in ?_))

theorem s_grow_list {x dx rl nl wl : Addr} {k1 k2 k3 k4 tm : Tok} {most : Nat} {nvs wvs : List Value} {wv : Value} {nn wn : Nat} {rest : List (Addr × Obj)} {nodes : List (Option Node)} {wait : List WRow} {k place f : Nat} {xw : Wish} {more : Rw} {rs : List (Nat × Rw)} (m1 : (x, instObj 243 dx) ∈ rest) (m2 : (dx, treeD w k1 k2 k3 k4 tm rl nl wl most) ∈ rest)
    (o1 : ∀ p ∈ rest, p.1 ≠ nl) (o2 : ∀ p ∈ rest, p.1 ≠ wl) (o3 : @Ne Nat nl wl) (hn : nodes.length ≤ 900) (hw : wait.length ≤ 900) (hk : k < nodes.length)
    (Dn : DatAll rest nvs (nodes.map nodeDat)) (Dw : DatAll rest wvs (wait.map wdat)) (Dl : DatIn rest wv (wdat (k, (place, (f, xw) :: more) :: rs))) (G : ROk ((place, (f, xw) :: more) :: rs)) (hm : most < nodes.length + 2) :
    Spec w mean mg mb 219 7 [.ref x] ((nl, lstO nvs nn) :: (wl, lstO (wvs ++ [wv]) wn) :: rest) (GrowOk nl wl rest (growF most nodes wait k ((place, (f, xw) :: more) :: rs))) := by
  have o4 : ∀ p ∈ (wl, lstO wvs (wn + 1)) :: rest, p.1 ≠ nl := List.forall_mem_cons.mpr ⟨Ne.symm o3, o1⟩
  have hnl := Dn.length
  have hwl := Dw.length
  rw [List.length_map] at hnl hwl
  have hz1 : (wvs ++ [wv]).length ≤ sizeLine := by rw [sizeLine_eq, List.length_append, List.length_singleton]; omega
  have hz3 : nvs.length ≤ sizeLine := by rw [sizeLine_eq]; omega
  refine hideG fun PP hPP => ?_
  obtain ⟨y, yn, t, a, an, avs, rfl, my, ma, Da⟩ := wdat_in Dl
  refine hPP ?_
  clear hPP PP
  have hrl := Da.length
  have hgl := G.len
  rw [List.length_map] at hrl
  have hz2 : avs.length ≤ sizeLine := by rw [hrl, sizeLine_eq]; exact Nat.le_trans hgl (by decide)
  have Da2 := Da
  cases Da with | cons Dr Drs =>
  refine hideG fun PP hPP => ?_
  obtain ⟨y2, yn2, t2, a2, an2, avs2, rfl, my2, ma2, Da3⟩ := orow_in Dr
  refine hPP ?_
  clear hPP PP
  have Da4 := Da3
  cases Da3 with | cons Dq Dqs =>
  ((refine' spec_intro (by k_is) (by k_is) (by exact rfl) (by exact rfl) (by exact rfl) (by exact rfl) (by exact rfl) (by decide) ?_; k_whole; intro dp' un' gd' fr' envc' outer' A₀' base' g' L' h' ge' dr' os' tk' A9' E9' C' hr' hA' B' X' T' F' N' T' hT'; (try dsimp only [List.map, List.zip, List.zipWith, List.reverse, List.reverseAux] at F'); (try dsimp only); (try k_fold)))
  (k_steps <;> repeat' ((first | with_reducible refine stop_out ?_ | with_reducible show wpAny _ _ _ _ _ _); (first | ((k_here; (with_reducible show wpAny _ _ (call (Value.builtin "len") [Value.ref _]) _ _ _); k_dflt (refine' len_lst (by k_asm) (by k_mem) (by first | assumption | (rw [sizeLine_eq]; omega) | (rw [sizeLine_eq]; exact Nat.le_of_ble_eq_true rfl)) ?_))) | ((k_here; (with_reducible show wpAny _ _ (call (Value.builtin _) [Value.ref _]) _ _ _); k_dflt (refine' pop_L (by k_asm) (by k_asm) (by k_upd) (by first | assumption | (rw [sizeLine_eq]; omega)) ?_); intro _ _ _; (try k_sweep))) | ((k_here; (with_reducible show wpAny _ _ (call (Value.type _) [Value.ref _]) _ _ _); k_dflt (refine' tuple_L (by k_asm) (by k_asm) (by k_mem) (by first | assumption | omega) ?_); intro _ _ _ _ l1Q; (try k_lt l1Q); (try (revert l1Q; intro _)))) | ((k_here; (with_reducible show wpAny _ _ (setItem (Value.ref _) (Value.int _ _) _) _ _ _); k_dflt (refine' set_L (by k_asm) (by k_asm) (by first | exact rfl | assumption) (by k_upd) (by first | assumption | omega) (by first | assumption | omega) ?_); intro _ _ _; (try k_sweep))) | ((k_here; (with_reducible show wpAny _ _ (subscriptTail _ _ (Value.ref _) (Value.int _ _)) _ _ _); k_dflt (first | (refine' item_tupK 0 (by exact rfl) (by k_asm) (by k_mem) (by exact rfl) (by first | assumption | (rw [sizeLine_eq]; exact Nat.le_of_ble_eq_true rfl)) ?_ (by with_unfolding_all rfl)) | (refine' item_listK 0 (by exact rfl) (by k_asm) (by k_mem) (by exact rfl) (by first | assumption | (rw [sizeLine_eq]; exact Nat.le_of_ble_eq_true rfl)) ?_ (by with_unfolding_all rfl)) | (refine' item_tupK 1 (by exact rfl) (by k_asm) (by k_mem) (by exact rfl) (by first | assumption | (rw [sizeLine_eq]; exact Nat.le_of_ble_eq_true rfl)) ?_ (by with_unfolding_all rfl)) | (refine' item_listK 1 (by exact rfl) (by k_asm) (by k_mem) (by exact rfl) (by first | assumption | (rw [sizeLine_eq]; exact Nat.le_of_ble_eq_true rfl)) ?_ (by with_unfolding_all rfl)) | (refine' item_tupK 2 (by exact rfl) (by k_asm) (by k_mem) (by exact rfl) (by first | assumption | (rw [sizeLine_eq]; exact Nat.le_of_ble_eq_true rfl)) ?_ (by with_unfolding_all rfl)) | (refine' item_tupK 3 (by exact rfl) (by k_asm) (by k_mem) (by exact rfl) (by first | assumption | (rw [sizeLine_eq]; exact Nat.le_of_ble_eq_true rfl)) ?_ (by with_unfolding_all rfl)) | (refine' item_tupK 4 (by exact rfl) (by k_asm) (by k_mem) (by exact rfl) (by first | assumption | (rw [sizeLine_eq]; exact Nat.le_of_ble_eq_true rfl)) ?_ (by with_unfolding_all rfl))))) | fail "no word"); k_steps))
  all_goals (try (((repeat (first | refine veil (by assumption) ?_ | refine turn_ret ?_ | refine turn_brk ?_ | refine wturn_ret ?_ | refine wturn_brk ?_)); (try dsimp only))))
  refine stop_out ?_
  refine eq_nil_B false rfl (by assumption) (by walk_at "mem") Da2 (fun p hp => by walk_at "mem") (fun d hd => by obtain ⟨q, _, rfl⟩ := List.mem_map.mp hd; exact orow_kqd _ _) (.head _) (by assumption : Room _ _).u64 ?_
  (k_steps <;> repeat' ((first | with_reducible refine stop_out ?_ | with_reducible show wpAny _ _ _ _ _ _); (first | ((k_here; (with_reducible show wpAny _ _ (call (Value.builtin "len") [Value.ref _]) _ _ _); k_dflt (refine' len_lst (by k_asm) (by k_mem) (by first | assumption | (rw [sizeLine_eq]; omega) | (rw [sizeLine_eq]; exact Nat.le_of_ble_eq_true rfl)) ?_))) | ((k_here; (with_reducible show wpAny _ _ (call (Value.builtin _) [Value.ref _]) _ _ _); k_dflt (refine' pop_L (by k_asm) (by k_asm) (by k_upd) (by first | assumption | (rw [sizeLine_eq]; omega)) ?_); intro _ _ _; (try k_sweep))) | ((k_here; (with_reducible show wpAny _ _ (call (Value.type _) [Value.ref _]) _ _ _); k_dflt (refine' tuple_L (by k_asm) (by k_asm) (by k_mem) (by first | assumption | omega) ?_); intro _ _ _ _ l1Q; (try k_lt l1Q); (try (revert l1Q; intro _)))) | ((k_here; (with_reducible show wpAny _ _ (setItem (Value.ref _) (Value.int _ _) _) _ _ _); k_dflt (refine' set_L (by k_asm) (by k_asm) (by first | exact rfl | assumption) (by k_upd) (by first | assumption | omega) (by first | assumption | omega) ?_); intro _ _ _; (try k_sweep))) | ((k_here; (with_reducible show wpAny _ _ (subscriptTail _ _ (Value.ref _) (Value.int _ _)) _ _ _); k_dflt (first | (refine' item_tupK 0 (by exact rfl) (by k_asm) (by k_mem) (by exact rfl) (by first | assumption | (rw [sizeLine_eq]; exact Nat.le_of_ble_eq_true rfl)) ?_ (by with_unfolding_all rfl)) | (refine' item_listK 0 (by exact rfl) (by k_asm) (by k_mem) (by exact rfl) (by first | assumption | (rw [sizeLine_eq]; exact Nat.le_of_ble_eq_true rfl)) ?_ (by with_unfolding_all rfl)) | (refine' item_tupK 1 (by exact rfl) (by k_asm) (by k_mem) (by exact rfl) (by first | assumption | (rw [sizeLine_eq]; exact Nat.le_of_ble_eq_true rfl)) ?_ (by with_unfolding_all rfl)) | (refine' item_listK 1 (by exact rfl) (by k_asm) (by k_mem) (by exact rfl) (by first | assumption | (rw [sizeLine_eq]; exact Nat.le_of_ble_eq_true rfl)) ?_ (by with_unfolding_all rfl)) | (refine' item_tupK 2 (by exact rfl) (by k_asm) (by k_mem) (by exact rfl) (by first | assumption | (rw [sizeLine_eq]; exact Nat.le_of_ble_eq_true rfl)) ?_ (by with_unfolding_all rfl)) | (refine' item_tupK 3 (by exact rfl) (by k_asm) (by k_mem) (by exact rfl) (by first | assumption | (rw [sizeLine_eq]; exact Nat.le_of_ble_eq_true rfl)) ?_ (by with_unfolding_all rfl)) | (refine' item_tupK 4 (by exact rfl) (by k_asm) (by k_mem) (by exact rfl) (by first | assumption | (rw [sizeLine_eq]; exact Nat.le_of_ble_eq_true rfl)) ?_ (by with_unfolding_all rfl))))) | fail "no word"); k_steps))
  all_goals (try (((repeat (first | refine veil (by assumption) ?_ | refine turn_ret ?_ | refine turn_brk ?_ | refine wturn_ret ?_ | refine wturn_brk ?_)); (try dsimp only))))
  refine stop_out ?_
  refine eq_nil_T false rfl (by assumption) (by walk_at "mem") Da4 (fun p hp => by walk_at "mem") (fun d hd => by obtain ⟨q, _, rfl⟩ := List.mem_map.mp hd; exact rdat_kqd _ _) (.head _) (by assumption : Room _ _).u64 ?_
  (k_steps <;> repeat' ((first | with_reducible refine stop_out ?_ | with_reducible show wpAny _ _ _ _ _ _); (first | ((k_here; (with_reducible show wpAny _ _ (call (Value.builtin "len") [Value.ref _]) _ _ _); k_dflt (refine' len_lst (by k_asm) (by k_mem) (by first | assumption | (rw [sizeLine_eq]; omega) | (rw [sizeLine_eq]; exact Nat.le_of_ble_eq_true rfl)) ?_))) | ((k_here; (with_reducible show wpAny _ _ (call (Value.builtin _) [Value.ref _]) _ _ _); k_dflt (refine' pop_L (by k_asm) (by k_asm) (by k_upd) (by first | assumption | (rw [sizeLine_eq]; omega)) ?_); intro _ _ _; (try k_sweep))) | ((k_here; (with_reducible show wpAny _ _ (call (Value.type _) [Value.ref _]) _ _ _); k_dflt (refine' tuple_L (by k_asm) (by k_asm) (by k_mem) (by first | assumption | omega) ?_); intro _ _ _ _ l1Q; (try k_lt l1Q); (try (revert l1Q; intro _)))) | ((k_here; (with_reducible show wpAny _ _ (setItem (Value.ref _) (Value.int _ _) _) _ _ _); k_dflt (refine' set_L (by k_asm) (by k_asm) (by first | exact rfl | assumption) (by k_upd) (by first | assumption | omega) (by first | assumption | omega) ?_); intro _ _ _; (try k_sweep))) | ((k_here; (with_reducible show wpAny _ _ (subscriptTail _ _ (Value.ref _) (Value.int _ _)) _ _ _); k_dflt (first | (refine' item_tupK 0 (by exact rfl) (by k_asm) (by k_mem) (by exact rfl) (by first | assumption | (rw [sizeLine_eq]; exact Nat.le_of_ble_eq_true rfl)) ?_ (by with_unfolding_all rfl)) | (refine' item_listK 0 (by exact rfl) (by k_asm) (by k_mem) (by exact rfl) (by first | assumption | (rw [sizeLine_eq]; exact Nat.le_of_ble_eq_true rfl)) ?_ (by with_unfolding_all rfl)) | (refine' item_tupK 1 (by exact rfl) (by k_asm) (by k_mem) (by exact rfl) (by first | assumption | (rw [sizeLine_eq]; exact Nat.le_of_ble_eq_true rfl)) ?_ (by with_unfolding_all rfl)) | (refine' item_listK 1 (by exact rfl) (by k_asm) (by k_mem) (by exact rfl) (by first | assumption | (rw [sizeLine_eq]; exact Nat.le_of_ble_eq_true rfl)) ?_ (by with_unfolding_all rfl)) | (refine' item_tupK 2 (by exact rfl) (by k_asm) (by k_mem) (by exact rfl) (by first | assumption | (rw [sizeLine_eq]; exact Nat.le_of_ble_eq_true rfl)) ?_ (by with_unfolding_all rfl)) | (refine' item_tupK 3 (by exact rfl) (by k_asm) (by k_mem) (by exact rfl) (by first | assumption | (rw [sizeLine_eq]; exact Nat.le_of_ble_eq_true rfl)) ?_ (by with_unfolding_all rfl)) | (refine' item_tupK 4 (by exact rfl) (by k_asm) (by k_mem) (by exact rfl) (by first | assumption | (rw [sizeLine_eq]; exact Nat.le_of_ble_eq_true rfl)) ?_ (by with_unfolding_all rfl))))) | fail "no word"); k_steps))
  all_goals (try (((repeat (first | refine veil (by assumption) ?_ | refine turn_ret ?_ | refine turn_brk ?_ | refine wturn_ret ?_ | refine wturn_brk ?_)); (try dsimp only))))
  rename_i ll _ l8 _ _ _ _ TT _ F9 N9 l9 _
  refine stop_out ?_
  refine LCg.ListComp_U (F₀ := F9) (by with_unfolding_all rfl) (by decide) (by rfl) (by decide) (by rfl) ?_
  (k_steps <;> repeat' ((first | with_reducible refine stop_out ?_ | with_reducible show wpAny _ _ _ _ _ _); (first | ((k_here; (with_reducible show wpAny _ _ (call (Value.builtin "len") [Value.ref _]) _ _ _); k_dflt (refine' len_lst (by k_asm) (by k_mem) (by first | assumption | (rw [sizeLine_eq]; omega) | (rw [sizeLine_eq]; exact Nat.le_of_ble_eq_true rfl)) ?_))) | ((k_here; (with_reducible show wpAny _ _ (call (Value.builtin _) [Value.ref _]) _ _ _); k_dflt (refine' pop_L (by k_asm) (by k_asm) (by k_upd) (by first | assumption | (rw [sizeLine_eq]; omega)) ?_); intro _ _ _; (try k_sweep))) | ((k_here; (with_reducible show wpAny _ _ (call (Value.type _) [Value.ref _]) _ _ _); k_dflt (refine' tuple_L (by k_asm) (by k_asm) (by k_mem) (by first | assumption | omega) ?_); intro _ _ _ _ l1Q; (try k_lt l1Q); (try (revert l1Q; intro _)))) | ((k_here; (with_reducible show wpAny _ _ (setItem (Value.ref _) (Value.int _ _) _) _ _ _); k_dflt (refine' set_L (by k_asm) (by k_asm) (by first | exact rfl | assumption) (by k_upd) (by first | assumption | omega) (by first | assumption | omega) ?_); intro _ _ _; (try k_sweep))) | ((k_here; (with_reducible show wpAny _ _ (subscriptTail _ _ (Value.ref _) (Value.int _ _)) _ _ _); k_dflt (first | (refine' item_tupK 0 (by exact rfl) (by k_asm) (by k_mem) (by exact rfl) (by first | assumption | (rw [sizeLine_eq]; exact Nat.le_of_ble_eq_true rfl)) ?_ (by with_unfolding_all rfl)) | (refine' item_listK 0 (by exact rfl) (by k_asm) (by k_mem) (by exact rfl) (by first | assumption | (rw [sizeLine_eq]; exact Nat.le_of_ble_eq_true rfl)) ?_ (by with_unfolding_all rfl)) | (refine' item_tupK 1 (by exact rfl) (by k_asm) (by k_mem) (by exact rfl) (by first | assumption | (rw [sizeLine_eq]; exact Nat.le_of_ble_eq_true rfl)) ?_ (by with_unfolding_all rfl)) | (refine' item_listK 1 (by exact rfl) (by k_asm) (by k_mem) (by exact rfl) (by first | assumption | (rw [sizeLine_eq]; exact Nat.le_of_ble_eq_true rfl)) ?_ (by with_unfolding_all rfl)) | (refine' item_tupK 2 (by exact rfl) (by k_asm) (by k_mem) (by exact rfl) (by first | assumption | (rw [sizeLine_eq]; exact Nat.le_of_ble_eq_true rfl)) ?_ (by with_unfolding_all rfl)) | (refine' item_tupK 3 (by exact rfl) (by k_asm) (by k_mem) (by exact rfl) (by first | assumption | (rw [sizeLine_eq]; exact Nat.le_of_ble_eq_true rfl)) ?_ (by with_unfolding_all rfl)) | (refine' item_tupK 4 (by exact rfl) (by k_asm) (by k_mem) (by exact rfl) (by first | assumption | (rw [sizeLine_eq]; exact Nat.le_of_ble_eq_true rfl)) ?_ (by with_unfolding_all rfl))))) | fail "no word"); k_steps))
  all_goals (try (((repeat (first | refine veil (by assumption) ?_ | refine turn_ret ?_ | refine turn_brk ?_ | refine wturn_ret ?_ | refine wturn_brk ?_)); (try dsimp only))))
  refine stop_out ?_
  refine LCg.CompSrc.ledger rfl (by assumption) (by assumption) (by walk_at "mem") (by simpa using hz2) ?_
  intro g1
  refine comp_rest (fun i ys nx => nx = (TT, tupO [] 0) :: (ll, lstO [] 0) :: (nl, lstO nvs nn) :: (wl, lstO wvs (wn + 1)) :: rest ∧ DatAll rest ys ((((place, (f, xw) :: more) :: rs).take i).map fun r => .int (r.1 : Nat))) ?_ ⟨rfl, .nil⟩ ?_ ?_
  · rintro i ys nx ⟨rfl, _⟩; exact .inr ⟨_, by walk_at "mem", rfl, _, rfl⟩
  · rintro i ys nx v I oI C oC Dl m₂ h tk E' hi ⟨rfl, hd⟩ hP hC hx F N off hJ90
    refine hideG fun PP hPP => ?_
    obtain ⟨ne1, ne2, ne3⟩ := hJ90
    refine hPP ?_
    clear hPP PP
    refine hideG fun PP hPP => ?_
    obtain ⟨r, hr, Dr⟩ := dat_map Da2 (by simpa using hP)
    refine hPP ?_
    clear hPP PP
    refine hideG fun PP hPP => ?_
    obtain ⟨yy, yyn, ty, ya, yan, yavs, rfl, myy, -, -⟩ := orow_in Dr
    refine hPP ?_
    clear hPP PP
    (k_steps <;> repeat' ((first | with_reducible refine stop_out ?_ | with_reducible show wpAny _ _ _ _ _ _); (first | ((k_here; (with_reducible show wpAny _ _ (call (Value.builtin "len") [Value.ref _]) _ _ _); k_dflt (refine' len_lst (by k_asm) (by k_mem) (by first | assumption | (rw [sizeLine_eq]; omega) | (rw [sizeLine_eq]; exact Nat.le_of_ble_eq_true rfl)) ?_))) | ((k_here; (with_reducible show wpAny _ _ (call (Value.builtin _) [Value.ref _]) _ _ _); k_dflt (refine' pop_L (by k_asm) (by k_asm) (by k_upd) (by first | assumption | (rw [sizeLine_eq]; omega)) ?_); intro _ _ _; (try k_sweep))) | ((k_here; (with_reducible show wpAny _ _ (call (Value.type _) [Value.ref _]) _ _ _); k_dflt (refine' tuple_L (by k_asm) (by k_asm) (by k_mem) (by first | assumption | omega) ?_); intro _ _ _ _ l1Q; (try k_lt l1Q); (try (revert l1Q; intro _)))) | ((k_here; (with_reducible show wpAny _ _ (setItem (Value.ref _) (Value.int _ _) _) _ _ _); k_dflt (refine' set_L (by k_asm) (by k_asm) (by first | exact rfl | assumption) (by k_upd) (by first | assumption | omega) (by first | assumption | omega) ?_); intro _ _ _; (try k_sweep))) | ((k_here; (with_reducible show wpAny _ _ (subscriptTail _ _ (Value.ref _) (Value.int _ _)) _ _ _); k_dflt (first | (refine' item_tupK 0 (by exact rfl) (by k_asm) (by k_mem) (by exact rfl) (by first | assumption | (rw [sizeLine_eq]; exact Nat.le_of_ble_eq_true rfl)) ?_ (by with_unfolding_all rfl)) | (refine' item_listK 0 (by exact rfl) (by k_asm) (by k_mem) (by exact rfl) (by first | assumption | (rw [sizeLine_eq]; exact Nat.le_of_ble_eq_true rfl)) ?_ (by with_unfolding_all rfl)) | (refine' item_tupK 1 (by exact rfl) (by k_asm) (by k_mem) (by exact rfl) (by first | assumption | (rw [sizeLine_eq]; exact Nat.le_of_ble_eq_true rfl)) ?_ (by with_unfolding_all rfl)) | (refine' item_listK 1 (by exact rfl) (by k_asm) (by k_mem) (by exact rfl) (by first | assumption | (rw [sizeLine_eq]; exact Nat.le_of_ble_eq_true rfl)) ?_ (by with_unfolding_all rfl)) | (refine' item_tupK 2 (by exact rfl) (by k_asm) (by k_mem) (by exact rfl) (by first | assumption | (rw [sizeLine_eq]; exact Nat.le_of_ble_eq_true rfl)) ?_ (by with_unfolding_all rfl)) | (refine' item_tupK 3 (by exact rfl) (by k_asm) (by k_mem) (by exact rfl) (by first | assumption | (rw [sizeLine_eq]; exact Nat.le_of_ble_eq_true rfl)) ?_ (by with_unfolding_all rfl)) | (refine' item_tupK 4 (by exact rfl) (by k_asm) (by k_mem) (by exact rfl) (by first | assumption | (rw [sizeLine_eq]; exact Nat.le_of_ble_eq_true rfl)) ?_ (by with_unfolding_all rfl))))) | fail "no word"); k_steps))
    all_goals (try (((repeat (first | refine veil (by assumption) ?_ | refine turn_ret ?_ | refine turn_brk ?_ | refine wturn_ret ?_ | refine wturn_brk ?_)); (try dsimp only))))
    (try (((repeat (first | refine veil (by assumption) ?_ | refine turn_ret ?_ | refine turn_brk ?_ | refine wturn_ret ?_ | refine wturn_brk ?_)); (try dsimp only))))
    refine ⟨_, _, _, _, rfl, F, N, .head _, .tail _ (.head _), .tail _ (.tail _ (.head _)), fun p hp => .tail _ (.tail _ (.tail _ hp)), off, rfl, ?_⟩
    rw [take_map_snoc hr]
    exact all_snoc hd (fun p hp => hp) (.int _ _)
  · rintro ys nx ⟨rfl, hd⟩
    intro Df hf tkf Ff Nf of
    (try (((repeat (first | refine veil (by assumption) ?_ | refine turn_ret ?_ | refine turn_brk ?_ | refine wturn_ret ?_ | refine wturn_brk ?_)); (try dsimp only))))
    have ety := hd.length
    have nd : @Ne Nat nl Df := (of.2.2.1)
    have hyl : ys.length ≤ 16384 := by rw [hd.length, List.length_map, List.length_take]; omega
    (k_steps <;> repeat' ((first | with_reducible refine stop_out ?_ | with_reducible show wpAny _ _ _ _ _ _); (first | ((k_here; (with_reducible show wpAny _ _ (call (Value.builtin "len") [Value.ref _]) _ _ _); k_dflt (refine' len_lst (by k_asm) (by k_mem) (by first | assumption | (rw [sizeLine_eq]; omega) | (rw [sizeLine_eq]; exact Nat.le_of_ble_eq_true rfl)) ?_))) | ((k_here; (with_reducible show wpAny _ _ (call (Value.builtin _) [Value.ref _]) _ _ _); k_dflt (refine' pop_L (by k_asm) (by k_asm) (by k_upd) (by first | assumption | (rw [sizeLine_eq]; omega)) ?_); intro _ _ _; (try k_sweep))) | ((k_here; (with_reducible show wpAny _ _ (call (Value.type _) [Value.ref _]) _ _ _); k_dflt (refine' tuple_L (by k_asm) (by k_asm) (by k_mem) (by first | assumption | omega) ?_); intro _ _ _ _ l1Q; (try k_lt l1Q); (try (revert l1Q; intro _)))) | ((k_here; (with_reducible show wpAny _ _ (setItem (Value.ref _) (Value.int _ _) _) _ _ _); k_dflt (refine' set_L (by k_asm) (by k_asm) (by first | exact rfl | assumption) (by k_upd) (by first | assumption | omega) (by first | assumption | omega) ?_); intro _ _ _; (try k_sweep))) | ((k_here; (with_reducible show wpAny _ _ (subscriptTail _ _ (Value.ref _) (Value.int _ _)) _ _ _); k_dflt (first | (refine' item_tupK 0 (by exact rfl) (by k_asm) (by k_mem) (by exact rfl) (by first | assumption | (rw [sizeLine_eq]; exact Nat.le_of_ble_eq_true rfl)) ?_ (by with_unfolding_all rfl)) | (refine' item_listK 0 (by exact rfl) (by k_asm) (by k_mem) (by exact rfl) (by first | assumption | (rw [sizeLine_eq]; exact Nat.le_of_ble_eq_true rfl)) ?_ (by with_unfolding_all rfl)) | (refine' item_tupK 1 (by exact rfl) (by k_asm) (by k_mem) (by exact rfl) (by first | assumption | (rw [sizeLine_eq]; exact Nat.le_of_ble_eq_true rfl)) ?_ (by with_unfolding_all rfl)) | (refine' item_listK 1 (by exact rfl) (by k_asm) (by k_mem) (by exact rfl) (by first | assumption | (rw [sizeLine_eq]; exact Nat.le_of_ble_eq_true rfl)) ?_ (by with_unfolding_all rfl)) | (refine' item_tupK 2 (by exact rfl) (by k_asm) (by k_mem) (by exact rfl) (by first | assumption | (rw [sizeLine_eq]; exact Nat.le_of_ble_eq_true rfl)) ?_ (by with_unfolding_all rfl)) | (refine' item_tupK 3 (by exact rfl) (by k_asm) (by k_mem) (by exact rfl) (by first | assumption | (rw [sizeLine_eq]; exact Nat.le_of_ble_eq_true rfl)) ?_ (by with_unfolding_all rfl)) | (refine' item_tupK 4 (by exact rfl) (by k_asm) (by k_mem) (by exact rfl) (by first | assumption | (rw [sizeLine_eq]; exact Nat.le_of_ble_eq_true rfl)) ?_ (by with_unfolding_all rfl))))) | fail "no word"); k_steps))
    all_goals (try (((repeat (first | refine veil (by assumption) ?_ | refine turn_ret ?_ | refine turn_brk ?_ | refine wturn_ret ?_ | refine wturn_brk ?_)); (try dsimp only))))
    rename_i T1 _ l5 T2 _ l6 _ F8 N8
    obtain ⟨tt, N8⟩ : ∃ tt, News _ _ _ ((T2, tupO [.str (Str.ofString "list") tt, .ref T1] 0) :: (T1, tupO ys 0) :: (Df, LCg.lst ys) :: (TT, tupO [] 0) :: (ll, lstO [] 0) :: (nl, lstO (nvs.set k (.ref T2)) nn) :: (wl, lstO wvs (wn + 1)) :: rest) := ⟨_, N8⟩
    (try (((repeat (first | refine veil (by assumption) ?_ | refine turn_ret ?_ | refine turn_brk ?_ | refine wturn_ret ?_ | refine wturn_brk ?_)); (try dsimp only))))
    refine ⟨_, _, (nl, lstO (nvs.set k (.ref T2)) nn) :: (wl, lstO wvs (wn + 1)) :: ([(T2, tupO [.str (Str.ofString "list") tt, .ref T1] 0), (T1, tupO ys 0)] ++ rest), _, rfl, F8, nsub N8 ?_, nvs.set k (.ref T2), nn, wvs, wn + 1, [_, _], rfl, List.forall_mem_cons.mpr ⟨by k_ne, List.forall_mem_cons.mpr ⟨by k_ne, o1⟩⟩, List.forall_mem_cons.mpr ⟨by k_ne, List.forall_mem_cons.mpr ⟨by k_ne, o2⟩⟩, ?_, ?_, rfl⟩
    · walk_at "sub"
    · rw [growF, if_pos hm]
      show DatAll _ _ ((nodes.set k (some (.list _))).map nodeDat)
      rw [List.map_set]
      refine all_set (Dn.mono fun p hp => .tail _ (.tail _ hp)) (DatIn.tuple (.head _) (.cons (.str _ _) (.cons (DatIn.tuple (.tail _ (.head _)) ?_) .nil))) k
      rw [List.take_of_length_le (by simp at hrl ⊢; omega)] at hd
      rw [List.map_map]
      exact hd.mono fun p hp => .tail _ (.tail _ hp)
    · rw [growF, if_pos hm]
      exact Dw.mono fun p hp => .tail _ (.tail _ hp)
end
section
theorem off_H4 : True := by w_top off; trivial
variable {w : World} {mean : ExcName → Option Value} {mg mb : Str → Option Value} {news : List (Addr × Obj)}
local macro_rules | `(tactic| walk_at "setItem ref int") => `(tactic| (k_here; refine stop_in ?_))

theorem s_grow_ask {x dx rl nl wl : Addr} {k1 k2 k3 k4 tm : Tok} {most : Nat} {nvs wvs : List Value} {wv : Value} {nn wn : Nat} {rest : List (Addr × Obj)} {nodes : List (Option Node)} {wait : List WRow} {k place f : Nat} {xw : Wish} {more : Rw} {rs : List (Nat × Rw)} (m1 : (x, instObj 243 dx) ∈ rest) (m2 : (dx, treeD w k1 k2 k3 k4 tm rl nl wl most) ∈ rest)
    (o1 : ∀ p ∈ rest, p.1 ≠ nl) (o2 : ∀ p ∈ rest, p.1 ≠ wl) (o3 : @Ne Nat nl wl) (hn : nodes.length ≤ 900) (hw : wait.length ≤ 900) (hk : k < nodes.length)
    (Dn : DatAll rest nvs (nodes.map nodeDat)) (Dw : DatAll rest wvs (wait.map wdat)) (Dl : DatIn rest wv (wdat (k, (place, (f, xw) :: more) :: rs))) (G : ROk ((place, (f, xw) :: more) :: rs)) (hm : ¬ most < nodes.length + 2) :
    Spec w mean mg mb 219 7 [.ref x] ((nl, lstO nvs nn) :: (wl, lstO (wvs ++ [wv]) wn) :: rest) (GrowOk nl wl rest (growF most nodes wait k ((place, (f, xw) :: more) :: rs))) := by
  have o4 : ∀ p ∈ (wl, lstO wvs (wn + 1)) :: rest, p.1 ≠ nl := List.forall_mem_cons.mpr ⟨Ne.symm o3, o1⟩
  have hnl := Dn.length
  have hwl := Dw.length
  rw [List.length_map] at hnl hwl
  have hz1 : (wvs ++ [wv]).length ≤ sizeLine := by rw [sizeLine_eq, List.length_append, List.length_singleton]; omega
  have hz3 : nvs.length ≤ sizeLine := by rw [sizeLine_eq]; omega
  refine hideG fun PP hPP => ?_
  obtain ⟨y, yn, t, a, an, avs, rfl, my, ma, Da⟩ := wdat_in Dl
  refine hPP ?_
  clear hPP PP
  have hrl := Da.length
  have hgl := G.len
  rw [List.length_map] at hrl
  have hz2 : avs.length ≤ sizeLine := by rw [hrl, sizeLine_eq]; exact Nat.le_trans hgl (by decide)
  have Da2 := Da
  cases Da with | cons Dr Drs =>
  refine hideG fun PP hPP => ?_
  obtain ⟨y2, yn2, t2, a2, an2, avs2, rfl, my2, ma2, Da3⟩ := orow_in Dr
  refine hPP ?_
  clear hPP PP
  have Da4 := Da3
  cases Da3 with | cons Dq Dqs =>
  have hqm := (G.mem _ (.head _)).2 _ (.head _)
  obtain ⟨hf, hxo⟩ := hqm
  have hf : f = 3 ∨ f = 4 ∨ f = 7 := hf
  have hxo : xw.ok (bitsOf f) := hxo
  refine hideG fun PP hPP => ?_
  obtain ⟨yq, ynq, ytq, yuq, rfl, myq, Dyq⟩ := rdat_in Dq
  refine hPP ?_
  clear hPP PP
  have hz4 := Da4.length
  rw [List.length_map] at hz4
  have h64 := (G.mem _ (.head _)).1
  replace hz4 := Nat.le_trans (Nat.le_of_eq hz4) (Nat.le_trans h64 (show 64 ≤ sizeLine by rw [sizeLine_eq]; decide))
  ((refine' spec_intro (by k_is) (by k_is) (by exact rfl) (by exact rfl) (by exact rfl) (by exact rfl) (by exact rfl) (by decide) ?_; k_whole; intro dp' un' gd' fr' envc' outer' A₀' base' g' L' h' ge' dr' os' tk' A9' E9' C' hr' hA' B' X' T' F' N' T' hT'; (try dsimp only [List.map, List.zip, List.zipWith, List.reverse, List.reverseAux] at F'); (try dsimp only); (try k_fold)))
  (k_steps <;> repeat' ((first | with_reducible refine stop_out ?_ | with_reducible show wpAny _ _ _ _ _ _); (first | ((k_here; (with_reducible show wpAny _ _ (call (Value.builtin "len") [Value.ref _]) _ _ _); k_dflt (refine' len_lst (by k_asm) (by k_mem) (by first | assumption | (rw [sizeLine_eq]; omega) | (rw [sizeLine_eq]; exact Nat.le_of_ble_eq_true rfl)) ?_))) | ((k_here; (with_reducible show wpAny _ _ (call (Value.builtin _) [Value.ref _]) _ _ _); k_dflt (refine' pop_L (by k_asm) (by k_asm) (by k_upd) (by first | assumption | (rw [sizeLine_eq]; omega)) ?_); intro _ _ _; (try k_sweep))) | ((k_here; (with_reducible show wpAny _ _ (setItem (Value.ref _) (Value.int _ _) _) _ _ _); k_dflt (refine' set_L (by k_asm) (by k_asm) (by first | exact rfl | assumption) (by k_upd) (by first | assumption | omega) (by first | assumption | omega) ?_); intro _ _ _; (try k_sweep))) | ((k_here; (with_reducible show wpAny _ _ (subscriptTail _ _ (Value.ref _) (Value.int _ _)) _ _ _); k_dflt (first | (refine' item_tupK 0 (by exact rfl) (by k_asm) (by k_mem) (by exact rfl) (by first | assumption | (rw [sizeLine_eq]; exact Nat.le_of_ble_eq_true rfl)) ?_ (by with_unfolding_all rfl)) | (refine' item_listK 0 (by exact rfl) (by k_asm) (by k_mem) (by exact rfl) (by first | assumption | (rw [sizeLine_eq]; exact Nat.le_of_ble_eq_true rfl)) ?_ (by with_unfolding_all rfl)) | (refine' item_tupK 1 (by exact rfl) (by k_asm) (by k_mem) (by exact rfl) (by first | assumption | (rw [sizeLine_eq]; exact Nat.le_of_ble_eq_true rfl)) ?_ (by with_unfolding_all rfl)) | (refine' item_listK 1 (by exact rfl) (by k_asm) (by k_mem) (by exact rfl) (by first | assumption | (rw [sizeLine_eq]; exact Nat.le_of_ble_eq_true rfl)) ?_ (by with_unfolding_all rfl)) | (refine' item_tupK 2 (by exact rfl) (by k_asm) (by k_mem) (by exact rfl) (by first | assumption | (rw [sizeLine_eq]; exact Nat.le_of_ble_eq_true rfl)) ?_ (by with_unfolding_all rfl)) | (refine' item_tupK 3 (by exact rfl) (by k_asm) (by k_mem) (by exact rfl) (by first | assumption | (rw [sizeLine_eq]; exact Nat.le_of_ble_eq_true rfl)) ?_ (by with_unfolding_all rfl)) | (refine' item_tupK 4 (by exact rfl) (by k_asm) (by k_mem) (by exact rfl) (by first | assumption | (rw [sizeLine_eq]; exact Nat.le_of_ble_eq_true rfl)) ?_ (by with_unfolding_all rfl))))) | fail "no word"); k_steps))
  all_goals (try (((repeat (first | refine veil (by assumption) ?_ | refine turn_ret ?_ | refine turn_brk ?_ | refine wturn_ret ?_ | refine wturn_brk ?_)); (try dsimp only))))
  refine stop_out ?_
  refine eq_nil_B false rfl (by assumption) (by walk_at "mem") Da2 (fun p hp => by walk_at "mem") (fun d hd => by obtain ⟨q, _, rfl⟩ := List.mem_map.mp hd; exact orow_kqd _ _) (.head _) (by assumption : Room _ _).u64 ?_
  (k_steps <;> repeat' ((first | with_reducible refine stop_out ?_ | with_reducible show wpAny _ _ _ _ _ _); (first | ((k_here; (with_reducible show wpAny _ _ (call (Value.builtin "len") [Value.ref _]) _ _ _); k_dflt (refine' len_lst (by k_asm) (by k_mem) (by first | assumption | (rw [sizeLine_eq]; omega) | (rw [sizeLine_eq]; exact Nat.le_of_ble_eq_true rfl)) ?_))) | ((k_here; (with_reducible show wpAny _ _ (call (Value.builtin _) [Value.ref _]) _ _ _); k_dflt (refine' pop_L (by k_asm) (by k_asm) (by k_upd) (by first | assumption | (rw [sizeLine_eq]; omega)) ?_); intro _ _ _; (try k_sweep))) | ((k_here; (with_reducible show wpAny _ _ (setItem (Value.ref _) (Value.int _ _) _) _ _ _); k_dflt (refine' set_L (by k_asm) (by k_asm) (by first | exact rfl | assumption) (by k_upd) (by first | assumption | omega) (by first | assumption | omega) ?_); intro _ _ _; (try k_sweep))) | ((k_here; (with_reducible show wpAny _ _ (subscriptTail _ _ (Value.ref _) (Value.int _ _)) _ _ _); k_dflt (first | (refine' item_tupK 0 (by exact rfl) (by k_asm) (by k_mem) (by exact rfl) (by first | assumption | (rw [sizeLine_eq]; exact Nat.le_of_ble_eq_true rfl)) ?_ (by with_unfolding_all rfl)) | (refine' item_listK 0 (by exact rfl) (by k_asm) (by k_mem) (by exact rfl) (by first | assumption | (rw [sizeLine_eq]; exact Nat.le_of_ble_eq_true rfl)) ?_ (by with_unfolding_all rfl)) | (refine' item_tupK 1 (by exact rfl) (by k_asm) (by k_mem) (by exact rfl) (by first | assumption | (rw [sizeLine_eq]; exact Nat.le_of_ble_eq_true rfl)) ?_ (by with_unfolding_all rfl)) | (refine' item_listK 1 (by exact rfl) (by k_asm) (by k_mem) (by exact rfl) (by first | assumption | (rw [sizeLine_eq]; exact Nat.le_of_ble_eq_true rfl)) ?_ (by with_unfolding_all rfl)) | (refine' item_tupK 2 (by exact rfl) (by k_asm) (by k_mem) (by exact rfl) (by first | assumption | (rw [sizeLine_eq]; exact Nat.le_of_ble_eq_true rfl)) ?_ (by with_unfolding_all rfl)) | (refine' item_tupK 3 (by exact rfl) (by k_asm) (by k_mem) (by exact rfl) (by first | assumption | (rw [sizeLine_eq]; exact Nat.le_of_ble_eq_true rfl)) ?_ (by with_unfolding_all rfl)) | (refine' item_tupK 4 (by exact rfl) (by k_asm) (by k_mem) (by exact rfl) (by first | assumption | (rw [sizeLine_eq]; exact Nat.le_of_ble_eq_true rfl)) ?_ (by with_unfolding_all rfl))))) | fail "no word"); k_steps))
  all_goals (try (((repeat (first | refine veil (by assumption) ?_ | refine turn_ret ?_ | refine turn_brk ?_ | refine wturn_ret ?_ | refine wturn_brk ?_)); (try dsimp only))))
  refine stop_out ?_
  refine eq_nil_T false rfl (by assumption) (by walk_at "mem") Da4 (fun p hp => by walk_at "mem") (fun d hd => by obtain ⟨q, _, rfl⟩ := List.mem_map.mp hd; exact rdat_kqd _ _) (.head _) (by assumption : Room _ _).u64 ?_
  (k_steps <;> repeat' ((first | with_reducible refine stop_out ?_ | with_reducible show wpAny _ _ _ _ _ _); (first | ((k_here; (with_reducible show wpAny _ _ (call (Value.builtin "len") [Value.ref _]) _ _ _); k_dflt (refine' len_lst (by k_asm) (by k_mem) (by first | assumption | (rw [sizeLine_eq]; omega) | (rw [sizeLine_eq]; exact Nat.le_of_ble_eq_true rfl)) ?_))) | ((k_here; (with_reducible show wpAny _ _ (call (Value.builtin _) [Value.ref _]) _ _ _); k_dflt (refine' pop_L (by k_asm) (by k_asm) (by k_upd) (by first | assumption | (rw [sizeLine_eq]; omega)) ?_); intro _ _ _; (try k_sweep))) | ((k_here; (with_reducible show wpAny _ _ (setItem (Value.ref _) (Value.int _ _) _) _ _ _); k_dflt (refine' set_L (by k_asm) (by k_asm) (by first | exact rfl | assumption) (by k_upd) (by first | assumption | omega) (by first | assumption | omega) ?_); intro _ _ _; (try k_sweep))) | ((k_here; (with_reducible show wpAny _ _ (subscriptTail _ _ (Value.ref _) (Value.int _ _)) _ _ _); k_dflt (first | (refine' item_tupK 0 (by exact rfl) (by k_asm) (by k_mem) (by exact rfl) (by first | assumption | (rw [sizeLine_eq]; exact Nat.le_of_ble_eq_true rfl)) ?_ (by with_unfolding_all rfl)) | (refine' item_listK 0 (by exact rfl) (by k_asm) (by k_mem) (by exact rfl) (by first | assumption | (rw [sizeLine_eq]; exact Nat.le_of_ble_eq_true rfl)) ?_ (by with_unfolding_all rfl)) | (refine' item_tupK 1 (by exact rfl) (by k_asm) (by k_mem) (by exact rfl) (by first | assumption | (rw [sizeLine_eq]; exact Nat.le_of_ble_eq_true rfl)) ?_ (by with_unfolding_all rfl)) | (refine' item_listK 1 (by exact rfl) (by k_asm) (by k_mem) (by exact rfl) (by first | assumption | (rw [sizeLine_eq]; exact Nat.le_of_ble_eq_true rfl)) ?_ (by with_unfolding_all rfl)) | (refine' item_tupK 2 (by exact rfl) (by k_asm) (by k_mem) (by exact rfl) (by first | assumption | (rw [sizeLine_eq]; exact Nat.le_of_ble_eq_true rfl)) ?_ (by with_unfolding_all rfl)) | (refine' item_tupK 3 (by exact rfl) (by k_asm) (by k_mem) (by exact rfl) (by first | assumption | (rw [sizeLine_eq]; exact Nat.le_of_ble_eq_true rfl)) ?_ (by with_unfolding_all rfl)) | (refine' item_tupK 4 (by exact rfl) (by k_asm) (by k_mem) (by exact rfl) (by first | assumption | (rw [sizeLine_eq]; exact Nat.le_of_ble_eq_true rfl)) ?_ (by with_unfolding_all rfl))))) | fail "no word"); k_steps))
  all_goals (try (((repeat (first | refine veil (by assumption) ?_ | refine turn_ret ?_ | refine turn_brk ?_ | refine wturn_ret ?_ | refine wturn_brk ?_)); (try dsimp only))))
  (rename News _ _ _ _ => N9)
  replace N9 : News _ _ _ ([(nl, lstO nvs nn), (wl, lstO wvs (wn + 1))] ++ rest) := nsub N9 (fun p hp => .tail _ (.tail _ hp))
  refine useF (tm := [(nl, lstO nvs nn), (wl, lstO wvs (wn + 1))]) (news := rest) (s_rows_if_so ma Da2 G hf Dyq hxo) (by assumption) (by assumption) N9 (offP o1 o2) (by decide) ?_
  rintro r9 nx9 h9 tk9 F1 N1 oo hJ90
  refine hideG fun PP hPP => ?_
  obtain ⟨tl1, rfl, D1⟩ := hJ90
  refine hPP ?_
  clear hPP PP
  have p1 := onP1 oo
  have p2 := onP2 oo
  replace N1 : News _ _ _ ((nl, lstO nvs nn) :: (wl, lstO wvs (wn + 1)) :: (tl1 ++ rest)) := N1
  clear oo N9
  (k_steps <;> repeat' ((first | with_reducible refine stop_out ?_ | with_reducible show wpAny _ _ _ _ _ _); (first | ((k_here; (with_reducible show wpAny _ _ (call (Value.builtin "len") [Value.ref _]) _ _ _); k_dflt (refine' len_lst (by k_asm) (by k_mem) (by first | assumption | (rw [sizeLine_eq]; omega) | (rw [sizeLine_eq]; exact Nat.le_of_ble_eq_true rfl)) ?_))) | ((k_here; (with_reducible show wpAny _ _ (call (Value.builtin _) [Value.ref _]) _ _ _); k_dflt (refine' pop_L (by k_asm) (by k_asm) (by k_upd) (by first | assumption | (rw [sizeLine_eq]; omega)) ?_); intro _ _ _; (try k_sweep))) | ((k_here; (with_reducible show wpAny _ _ (setItem (Value.ref _) (Value.int _ _) _) _ _ _); k_dflt (refine' set_L (by k_asm) (by k_asm) (by first | exact rfl | assumption) (by k_upd) (by first | assumption | omega) (by first | assumption | omega) ?_); intro _ _ _; (try k_sweep))) | ((k_here; (with_reducible show wpAny _ _ (subscriptTail _ _ (Value.ref _) (Value.int _ _)) _ _ _); k_dflt (first | (refine' item_tupK 0 (by exact rfl) (by k_asm) (by k_mem) (by exact rfl) (by first | assumption | (rw [sizeLine_eq]; exact Nat.le_of_ble_eq_true rfl)) ?_ (by with_unfolding_all rfl)) | (refine' item_listK 0 (by exact rfl) (by k_asm) (by k_mem) (by exact rfl) (by first | assumption | (rw [sizeLine_eq]; exact Nat.le_of_ble_eq_true rfl)) ?_ (by with_unfolding_all rfl)) | (refine' item_tupK 1 (by exact rfl) (by k_asm) (by k_mem) (by exact rfl) (by first | assumption | (rw [sizeLine_eq]; exact Nat.le_of_ble_eq_true rfl)) ?_ (by with_unfolding_all rfl)) | (refine' item_listK 1 (by exact rfl) (by k_asm) (by k_mem) (by exact rfl) (by first | assumption | (rw [sizeLine_eq]; exact Nat.le_of_ble_eq_true rfl)) ?_ (by with_unfolding_all rfl)) | (refine' item_tupK 2 (by exact rfl) (by k_asm) (by k_mem) (by exact rfl) (by first | assumption | (rw [sizeLine_eq]; exact Nat.le_of_ble_eq_true rfl)) ?_ (by with_unfolding_all rfl)) | (refine' item_tupK 3 (by exact rfl) (by k_asm) (by k_mem) (by exact rfl) (by first | assumption | (rw [sizeLine_eq]; exact Nat.le_of_ble_eq_true rfl)) ?_ (by with_unfolding_all rfl)) | (refine' item_tupK 4 (by exact rfl) (by k_asm) (by k_mem) (by exact rfl) (by first | assumption | (rw [sizeLine_eq]; exact Nat.le_of_ble_eq_true rfl)) ?_ (by with_unfolding_all rfl))))) | fail "no word"); k_steps))
  all_goals (try (((repeat (first | refine veil (by assumption) ?_ | refine turn_ret ?_ | refine turn_brk ?_ | refine wturn_ret ?_ | refine wturn_brk ?_)); (try dsimp only))))
  (rename News _ _ _ _ => N9)
  refine use (s_put (nvs := nvs) (wvs := wvs) (rest := tl1 ++ rest) (by walk_at "mem") (by walk_at "mem") p1 p2 o3 (by omega) (by omega)) (by assumption) (by assumption) N9 (by decide) ?_
  rintro r8 nx8 h8 tk8 F2 N2 hJ90
  refine hideG fun PP hPP => ?_
  obtain ⟨n1, n2, t1, tt1, tr1, rfl, q1, q2, rfl⟩ := hJ90
  refine hPP ?_
  clear hPP PP
  (k_steps <;> repeat' ((first | with_reducible refine stop_out ?_ | with_reducible show wpAny _ _ _ _ _ _); (first | ((k_here; (with_reducible show wpAny _ _ (call (Value.builtin "len") [Value.ref _]) _ _ _); k_dflt (refine' len_lst (by k_asm) (by k_mem) (by first | assumption | (rw [sizeLine_eq]; omega) | (rw [sizeLine_eq]; exact Nat.le_of_ble_eq_true rfl)) ?_))) | ((k_here; (with_reducible show wpAny _ _ (call (Value.builtin _) [Value.ref _]) _ _ _); k_dflt (refine' pop_L (by k_asm) (by k_asm) (by k_upd) (by first | assumption | (rw [sizeLine_eq]; omega)) ?_); intro _ _ _; (try k_sweep))) | ((k_here; (with_reducible show wpAny _ _ (setItem (Value.ref _) (Value.int _ _) _) _ _ _); k_dflt (refine' set_L (by k_asm) (by k_asm) (by first | exact rfl | assumption) (by k_upd) (by first | assumption | omega) (by first | assumption | omega) ?_); intro _ _ _; (try k_sweep))) | ((k_here; (with_reducible show wpAny _ _ (subscriptTail _ _ (Value.ref _) (Value.int _ _)) _ _ _); k_dflt (first | (refine' item_tupK 0 (by exact rfl) (by k_asm) (by k_mem) (by exact rfl) (by first | assumption | (rw [sizeLine_eq]; exact Nat.le_of_ble_eq_true rfl)) ?_ (by with_unfolding_all rfl)) | (refine' item_listK 0 (by exact rfl) (by k_asm) (by k_mem) (by exact rfl) (by first | assumption | (rw [sizeLine_eq]; exact Nat.le_of_ble_eq_true rfl)) ?_ (by with_unfolding_all rfl)) | (refine' item_tupK 1 (by exact rfl) (by k_asm) (by k_mem) (by exact rfl) (by first | assumption | (rw [sizeLine_eq]; exact Nat.le_of_ble_eq_true rfl)) ?_ (by with_unfolding_all rfl)) | (refine' item_listK 1 (by exact rfl) (by k_asm) (by k_mem) (by exact rfl) (by first | assumption | (rw [sizeLine_eq]; exact Nat.le_of_ble_eq_true rfl)) ?_ (by with_unfolding_all rfl)) | (refine' item_tupK 2 (by exact rfl) (by k_asm) (by k_mem) (by exact rfl) (by first | assumption | (rw [sizeLine_eq]; exact Nat.le_of_ble_eq_true rfl)) ?_ (by with_unfolding_all rfl)) | (refine' item_tupK 3 (by exact rfl) (by k_asm) (by k_mem) (by exact rfl) (by first | assumption | (rw [sizeLine_eq]; exact Nat.le_of_ble_eq_true rfl)) ?_ (by with_unfolding_all rfl)) | (refine' item_tupK 4 (by exact rfl) (by k_asm) (by k_mem) (by exact rfl) (by first | assumption | (rw [sizeLine_eq]; exact Nat.le_of_ble_eq_true rfl)) ?_ (by with_unfolding_all rfl))))) | fail "no word"); k_steps))
  all_goals (try (((repeat (first | refine veil (by assumption) ?_ | refine turn_ret ?_ | refine turn_brk ?_ | refine wturn_ret ?_ | refine wturn_brk ?_)); (try dsimp only))))
  (rename News _ _ _ _ => N9)
  refine useF (tm := [(nl, lstO (nvs ++ [.none]) n1), (wl, lstO (wvs ++ [.ref t1]) n2)]) (news := (t1, tupO [.int (nvs.length : Nat) tt1, r9] 0) :: (tl1 ++ rest)) (s_rows_if_not (by walk_at "mem") (Da2.mono fun p hp => by walk_at "mem") G hf (Dyq.mono fun p hp => by walk_at "mem") hxo) (by assumption) (by assumption) N9 (offP q1 q2) (by decide) ?_
  rintro r7 nx7 h7 tk7 F3 N3 oo hJ90
  refine hideG fun PP hPP => ?_
  obtain ⟨tl2, rfl, D2⟩ := hJ90
  refine hPP ?_
  clear hPP PP
  have p3 := onP1 oo
  have p4 := onP2 oo
  replace N3 : News _ _ _ ((nl, lstO (nvs ++ [.none]) n1) :: (wl, lstO (wvs ++ [.ref t1]) n2) :: (tl2 ++ (t1, tupO [.int (nvs.length : Nat) tt1, r9] 0) :: (tl1 ++ rest))) := N3
  clear oo N9
  (k_steps <;> repeat' ((first | with_reducible refine stop_out ?_ | with_reducible show wpAny _ _ _ _ _ _); (first | ((k_here; (with_reducible show wpAny _ _ (call (Value.builtin "len") [Value.ref _]) _ _ _); k_dflt (refine' len_lst (by k_asm) (by k_mem) (by first | assumption | (rw [sizeLine_eq]; omega) | (rw [sizeLine_eq]; exact Nat.le_of_ble_eq_true rfl)) ?_))) | ((k_here; (with_reducible show wpAny _ _ (call (Value.builtin _) [Value.ref _]) _ _ _); k_dflt (refine' pop_L (by k_asm) (by k_asm) (by k_upd) (by first | assumption | (rw [sizeLine_eq]; omega)) ?_); intro _ _ _; (try k_sweep))) | ((k_here; (with_reducible show wpAny _ _ (setItem (Value.ref _) (Value.int _ _) _) _ _ _); k_dflt (refine' set_L (by k_asm) (by k_asm) (by first | exact rfl | assumption) (by k_upd) (by first | assumption | omega) (by first | assumption | omega) ?_); intro _ _ _; (try k_sweep))) | ((k_here; (with_reducible show wpAny _ _ (subscriptTail _ _ (Value.ref _) (Value.int _ _)) _ _ _); k_dflt (first | (refine' item_tupK 0 (by exact rfl) (by k_asm) (by k_mem) (by exact rfl) (by first | assumption | (rw [sizeLine_eq]; exact Nat.le_of_ble_eq_true rfl)) ?_ (by with_unfolding_all rfl)) | (refine' item_listK 0 (by exact rfl) (by k_asm) (by k_mem) (by exact rfl) (by first | assumption | (rw [sizeLine_eq]; exact Nat.le_of_ble_eq_true rfl)) ?_ (by with_unfolding_all rfl)) | (refine' item_tupK 1 (by exact rfl) (by k_asm) (by k_mem) (by exact rfl) (by first | assumption | (rw [sizeLine_eq]; exact Nat.le_of_ble_eq_true rfl)) ?_ (by with_unfolding_all rfl)) | (refine' item_listK 1 (by exact rfl) (by k_asm) (by k_mem) (by exact rfl) (by first | assumption | (rw [sizeLine_eq]; exact Nat.le_of_ble_eq_true rfl)) ?_ (by with_unfolding_all rfl)) | (refine' item_tupK 2 (by exact rfl) (by k_asm) (by k_mem) (by exact rfl) (by first | assumption | (rw [sizeLine_eq]; exact Nat.le_of_ble_eq_true rfl)) ?_ (by with_unfolding_all rfl)) | (refine' item_tupK 3 (by exact rfl) (by k_asm) (by k_mem) (by exact rfl) (by first | assumption | (rw [sizeLine_eq]; exact Nat.le_of_ble_eq_true rfl)) ?_ (by with_unfolding_all rfl)) | (refine' item_tupK 4 (by exact rfl) (by k_asm) (by k_mem) (by exact rfl) (by first | assumption | (rw [sizeLine_eq]; exact Nat.le_of_ble_eq_true rfl)) ?_ (by with_unfolding_all rfl))))) | fail "no word"); k_steps))
  all_goals (try (((repeat (first | refine veil (by assumption) ?_ | refine turn_ret ?_ | refine turn_brk ?_ | refine wturn_ret ?_ | refine wturn_brk ?_)); (try dsimp only))))
  (rename News _ _ _ _ => N9)
  refine use (s_put (nvs := nvs ++ [.none]) (wvs := wvs ++ [.ref t1]) (rest := tl2 ++ (t1, tupO [.int (nvs.length : Nat) tt1, r9] 0) :: (tl1 ++ rest)) (by walk_at "mem") (by walk_at "mem") p3 p4 o3 (by simp; omega) (by simp; omega)) (by assumption) (by assumption) N9 (by decide) ?_
  rintro r6 nx6 h6 tk6 F4 N4 hJ90
  refine hideG fun PP hPP => ?_
  obtain ⟨n3, n4, t3, tt3, tr3, rfl, q3, q4, rfl⟩ := hJ90
  refine hPP ?_
  clear hPP PP
  have hj9 : k < ((nvs ++ [Value.none]) ++ [Value.none]).length := by simp; omega
  have hz9 : ((nvs ++ [Value.none]) ++ [Value.none]).length ≤ 100000 := by simp; omega
  have q5 : ∀ p ∈ (wl, lstO ((wvs ++ [.ref t1]) ++ [.ref t3]) n4) :: (t3, tupO [.int ((nvs ++ [Value.none]).length : Nat) tt3, r7] 0) :: (tl2 ++ (t1, tupO [.int (nvs.length : Nat) tt1, r9] 0) :: (tl1 ++ rest)), p.1 ≠ nl := List.forall_mem_cons.mpr ⟨Ne.symm o3, q3⟩
  (k_steps <;> repeat' ((first | with_reducible refine stop_out ?_ | with_reducible show wpAny _ _ _ _ _ _); (first | ((k_here; (with_reducible show wpAny _ _ (call (Value.builtin "len") [Value.ref _]) _ _ _); k_dflt (refine' len_lst (by k_asm) (by k_mem) (by first | assumption | (rw [sizeLine_eq]; omega) | (rw [sizeLine_eq]; exact Nat.le_of_ble_eq_true rfl)) ?_))) | ((k_here; (with_reducible show wpAny _ _ (call (Value.builtin _) [Value.ref _]) _ _ _); k_dflt (refine' pop_L (by k_asm) (by k_asm) (by k_upd) (by first | assumption | (rw [sizeLine_eq]; omega)) ?_); intro _ _ _; (try k_sweep))) | ((k_here; (with_reducible show wpAny _ _ (setItem (Value.ref _) (Value.int _ _) _) _ _ _); k_dflt (refine' set_L (by k_asm) (by k_asm) (by first | exact rfl | assumption) (by k_upd) (by first | assumption | omega) (by first | assumption | omega) ?_); intro _ _ _; (try k_sweep))) | ((k_here; (with_reducible show wpAny _ _ (subscriptTail _ _ (Value.ref _) (Value.int _ _)) _ _ _); k_dflt (first | (refine' item_tupK 0 (by exact rfl) (by k_asm) (by k_mem) (by exact rfl) (by first | assumption | (rw [sizeLine_eq]; exact Nat.le_of_ble_eq_true rfl)) ?_ (by with_unfolding_all rfl)) | (refine' item_listK 0 (by exact rfl) (by k_asm) (by k_mem) (by exact rfl) (by first | assumption | (rw [sizeLine_eq]; exact Nat.le_of_ble_eq_true rfl)) ?_ (by with_unfolding_all rfl)) | (refine' item_tupK 1 (by exact rfl) (by k_asm) (by k_mem) (by exact rfl) (by first | assumption | (rw [sizeLine_eq]; exact Nat.le_of_ble_eq_true rfl)) ?_ (by with_unfolding_all rfl)) | (refine' item_listK 1 (by exact rfl) (by k_asm) (by k_mem) (by exact rfl) (by first | assumption | (rw [sizeLine_eq]; exact Nat.le_of_ble_eq_true rfl)) ?_ (by with_unfolding_all rfl)) | (refine' item_tupK 2 (by exact rfl) (by k_asm) (by k_mem) (by exact rfl) (by first | assumption | (rw [sizeLine_eq]; exact Nat.le_of_ble_eq_true rfl)) ?_ (by with_unfolding_all rfl)) | (refine' item_tupK 3 (by exact rfl) (by k_asm) (by k_mem) (by exact rfl) (by first | assumption | (rw [sizeLine_eq]; exact Nat.le_of_ble_eq_true rfl)) ?_ (by with_unfolding_all rfl)) | (refine' item_tupK 4 (by exact rfl) (by k_asm) (by k_mem) (by exact rfl) (by first | assumption | (rw [sizeLine_eq]; exact Nat.le_of_ble_eq_true rfl)) ?_ (by with_unfolding_all rfl))))) | fail "no word"); k_steps))
  all_goals (try (((repeat (first | refine veil (by assumption) ?_ | refine turn_ret ?_ | refine turn_brk ?_ | refine wturn_ret ?_ | refine wturn_brk ?_)); (try dsimp only))))
  rename_i T _ l5 _ F8 N8
  have en : (nvs ++ [Value.none]).length = nodes.length + 1 := by simp; omega
  obtain ⟨tt, N8⟩ : ∃ tt, News _ _ _ ((T, tupO [.str (Str.ofString "ask") tt, .int (f : Nat) ytq, yuq, .int (nvs.length : Nat) tr1, .int ((nvs ++ [Value.none]).length : Nat) tr3] 0) :: (nl, lstO (((nvs ++ [Value.none]) ++ [Value.none]).set k (.ref T)) n3) :: (wl, lstO ((wvs ++ [.ref t1]) ++ [.ref t3]) n4) :: (t3, tupO [.int ((nvs ++ [Value.none]).length : Nat) tt3, r7] 0) :: (tl2 ++ (t1, tupO [.int (nvs.length : Nat) tt1, r9] 0) :: (tl1 ++ rest))) := ⟨_, N8⟩
  rw [en, hnl] at N8
  generalize hTo : tupO [.str (Str.ofString "ask") tt, .int (f : Nat) ytq, yuq, .int (nodes.length : Nat) tr1, .int ((nodes.length + 1 : Nat) : Int) tr3] 0 = To at N8
  rw [en, hnl] at q3 q4
  rw [hnl] at D2
  generalize hT3 : tupO [.int ((nodes.length + 1 : Nat) : Int) tt3, r7] 0 = O3 at N8 q3 q4
  generalize hT1 : tupO [.int (nodes.length : Nat) tt1, r9] 0 = O1 at N8 q3 q4 D2
  have hre : ((T, To) :: (t3, O3) :: (tl2 ++ (t1, O1) :: tl1)) ++ rest = (T, To) :: (t3, O3) :: (tl2 ++ (t1, O1) :: (tl1 ++ rest)) := by simp
  (try (((repeat (first | refine veil (by assumption) ?_ | refine turn_ret ?_ | refine turn_brk ?_ | refine wturn_ret ?_ | refine wturn_brk ?_)); (try dsimp only))))
  refine ⟨_, _, (nl, lstO (((nvs ++ [Value.none]) ++ [Value.none]).set k (.ref T)) n3) :: (wl, lstO ((wvs ++ [.ref t1]) ++ [.ref t3]) n4) :: (T, To) :: (t3, O3) :: (tl2 ++ (t1, O1) :: (tl1 ++ rest)), _, rfl, F8, nsub N8 ?_, _, n3, _, n4, (T, To) :: (t3, O3) :: (tl2 ++ (t1, O1) :: tl1), by rw [hre], by rw [hre]; exact List.forall_mem_cons.mpr ⟨by k_ne, q3⟩, by rw [hre]; exact List.forall_mem_cons.mpr ⟨by k_ne, q4⟩, ?_, ?_, rfl⟩
  · intro p hp
    rcases List.mem_cons.mp hp with rfl | hp
    · exact .tail _ (.head _)
    · rcases List.mem_cons.mp hp with rfl | hp
      · exact .tail _ (.tail _ (.head _))
      · rcases List.mem_cons.mp hp with rfl | hp
        · exact .head _
        · exact .tail _ (.tail _ (.tail _ hp))
  · rw [hre, growF, if_neg hm]
    show DatAll _ _ (((nodes ++ [none, none]).set k (some (.ask f xw nodes.length (nodes.length + 1)))).map nodeDat)
    rw [List.map_set]
    have e : (nodes ++ [none, none]).map nodeDat = (nodes.map nodeDat ++ [Dat.none]) ++ [Dat.none] := by simp [nodeDat]
    rw [e]
    refine all_set (all_snoc (all_snoc (Dn.mono fun p hp => ?_) (fun p hp => hp) .none) (fun p hp => hp) .none) ?_ k
    · walk_at "mem"
    · subst hTo
      exact DatIn.tuple (.head _) (.cons (.str _ _) (.cons (.int _ _) (.cons (Dyq.mono fun p hp => by walk_at "mem") (.cons (.int _ _) (.cons (.int _ _) .nil)))))
  · rw [hre, growF, if_neg hm]
    have e : (wait ++ [(nodes.length, rowsSo f xw ((place, (f, xw) :: more) :: rs)), (nodes.length + 1, rowsNot f xw ((place, (f, xw) :: more) :: rs))]).map wdat = (wait.map wdat ++ [wdat (nodes.length, rowsSo f xw ((place, (f, xw) :: more) :: rs))]) ++ [wdat (nodes.length + 1, rowsNot f xw ((place, (f, xw) :: more) :: rs))] := by simp
    show DatAll _ _ ((wait ++ [(nodes.length, rowsSo f xw ((place, (f, xw) :: more) :: rs)), (nodes.length + 1, rowsNot f xw ((place, (f, xw) :: more) :: rs))]).map wdat)
    rw [e]
    subst hT1 hT3
    refine all_snoc (all_snoc (Dw.mono fun p hp => ?_) (fun p hp => hp) (DatIn.tuple (.tail _ (.tail _ (List.mem_append_right _ (.head _)))) (.cons (.int _ _) (.cons (D1.mono fun p hp => ?_) .nil)))) (fun p hp => hp) (DatIn.tuple (.tail _ (.head _)) (.cons (.int _ _) (.cons (D2.mono fun p hp => ?_) .nil)))
    · walk_at "mem"
    · exact .tail _ (.tail _ (List.mem_append_right _ (.tail _ hp)))
    · exact .tail _ (.tail _ hp)
end
section
theorem off_H5 : True := by w_top off; trivial
variable {w : World} {mean : ExcName → Option Value} {mg mb : Str → Option Value} {news : List (Addr × Obj)}
inductive Reach (most : Nat) (Ds : List (List (Nat × Wish))) : List (Option Node) → List WRow → Prop
  | init : Reach most Ds [none] [(0, openRows Ds)]
  | step {nodes : List (Option Node)} {wait : List WRow} {k : Nat} {rows : List (Nat × Rw)} : Reach most Ds nodes (wait ++ [(k, rows)]) → Reach most Ds (growF most nodes wait k rows).1 (growF most nodes wait k rows).2

theorem ROk.filter {rows : List (Nat × Rw)} {p : Nat × Rw → Bool} {g : Nat × Rw → Nat × Rw} (G : ROk rows) (hg : ∀ r, (g r).2.Sublist r.2) : ROk ((rows.filter p).map g) := by
  refine ⟨?_, ?_⟩
  · rw [List.length_map]; exact Nat.le_trans (List.length_filter_le _ _) G.len
  · intro r hr
    obtain ⟨r', hr', rfl⟩ := List.mem_map.mp hr
    obtain ⟨h1, h2⟩ := G.mem r' (List.mem_filter.mp hr').1
    exact ⟨Nat.le_trans (hg r').length_le h1, fun q hq => h2 q ((hg r').subset hq)⟩
theorem ROk.so {rows : List (Nat × Rw)} {f : Nat} {x : Wish} (G : ROk rows) : ROk (rowsSo f x rows) := G.filter (g := fun r => (r.1, leftSo f x r.2)) fun _ => List.filter_sublist
theorem ROk.no {rows : List (Nat × Rw)} {f : Nat} {x : Wish} (G : ROk rows) : ROk (rowsNot f x rows) := by
  have := G.filter (p := fun r => !(r.2.any (hitNot f x))) (g := id) fun _ => List.Sublist.refl _
  rw [List.map_id] at this
  exact this
theorem ROk.open {Ds : List (List (Nat × Wish))} (G : ∀ D ∈ Ds, DOk D) (hl : Ds.length ≤ 1000) : ROk (openRows Ds) := by
  refine ⟨by rw [openRows_len]; exact hl, fun r hr => ?_⟩
  unfold openRows at hr
  obtain ⟨p, hp, rfl⟩ := List.mem_map.mp hr
  have hm : p.1 ∈ Ds := by
    obtain ⟨a, b⟩ := p
    exact (List.mem_zipIdx hp).2.2 ▸ List.getElem_mem _
  have Gp := G _ hm
  refine ⟨by rw [(srt_perm _).length_eq]; have := Gp.len; omega, fun q hq => Gp.mem q ((srt_perm _).mem_iff.mp hq)⟩

structure StOk (most : Nat) (nodes : List (Option Node)) (wait : List WRow) : Prop where
  lt : ∀ p ∈ wait, p.1 < nodes.length
  ok : ∀ p ∈ wait, ROk p.2
  len : nodes.length ≤ max 1 most
  wl : wait.length ≤ nodes.length
theorem stOk_of {most : Nat} {Ds : List (List (Nat × Wish))} (G : ∀ D ∈ Ds, DOk D) (hl : Ds.length ≤ 1000) {nodes : List (Option Node)} {wait : List WRow} (h : Reach most Ds nodes wait) : StOk most nodes wait := by
  induction h with
  | init => exact ⟨fun p hp => by rw [List.mem_singleton.mp hp]; exact Nat.zero_lt_one, fun p hp => by rw [List.mem_singleton.mp hp]; exact ROk.open G hl, by simp; omega, by simp⟩
  | @step nodes wait k rows _ ih =>
    have lk := ih.lt (k, rows) (by simp)
    have gk := ih.ok (k, rows) (by simp)
    have l0 := ih.lt
    have g0 := ih.ok
    have w0 := ih.wl
    rw [List.length_append, List.length_singleton] at w0
    have simple : ∀ n : Node, StOk most (nodes.set k (some n)) wait := fun n =>
      ⟨fun p hp => by rw [List.length_set]; exact l0 p (List.mem_append_left _ hp), fun p hp => g0 p (List.mem_append_left _ hp), by rw [List.length_set]; exact ih.len, by rw [List.length_set]; omega⟩
    unfold growF
    split
    · exact simple _
    · exact simple _
    · split
      · exact simple _
      · refine ⟨fun p hp => ?_, fun p hp => ?_, ?_, ?_⟩
        · rw [List.length_set, List.length_append]
          rcases List.mem_append.mp hp with hp | hp
          · have := l0 p (List.mem_append_left _ hp); simp; omega
          · rcases List.mem_cons.mp hp with rfl | hp
            · simp
            · rw [List.mem_singleton.mp hp]; simp
        · rcases List.mem_append.mp hp with hp | hp
          · exact g0 p (List.mem_append_left _ hp)
          · rcases List.mem_cons.mp hp with rfl | hp
            · exact gk.so
            · rw [List.mem_singleton.mp hp]; exact gk.no
        · rw [List.length_set, List.length_append]; have := ih.len; simp at *; omega
        · rw [List.length_set, List.length_append, List.length_append]; simp; omega
def meas (most : Nat) (nodes : List (Option Node)) (wait : List WRow) : Nat := 3 * (most - nodes.length) + wait.length
theorem grow_lt {most : Nat} {nodes : List (Option Node)} {wait : List WRow} {k : Nat} {rows : List (Nat × Rw)} : meas most (growF most nodes wait k rows).1 (growF most nodes wait k rows).2 < meas most nodes (wait ++ [(k, rows)]) := by
  unfold growF meas
  split
  · simp
  · simp
  · split
    · simp
    · simp; omega

theorem s_grow {x dx rl nl wl : Addr} {k1 k2 k3 k4 tm : Tok} {most : Nat} {nvs wvs : List Value} {wv : Value} {nn wn : Nat} {rest : List (Addr × Obj)} {nodes : List (Option Node)} {wait : List WRow} {k : Nat} {rows : List (Nat × Rw)} (m1 : (x, instObj 243 dx) ∈ rest) (m2 : (dx, treeD w k1 k2 k3 k4 tm rl nl wl most) ∈ rest)
    (o1 : ∀ p ∈ rest, p.1 ≠ nl) (o2 : ∀ p ∈ rest, p.1 ≠ wl) (o3 : @Ne Nat nl wl) (hn : nodes.length ≤ 900) (hw : wait.length ≤ 900) (hk : k < nodes.length)
    (Dn : DatAll rest nvs (nodes.map nodeDat)) (Dw : DatAll rest wvs (wait.map wdat)) (Dl : DatIn rest wv (wdat (k, rows))) (G : ROk rows) :
    Spec w mean mg mb 219 7 [.ref x] ((nl, lstO nvs nn) :: (wl, lstO (wvs ++ [wv]) wn) :: rest) (GrowOk nl wl rest (growF most nodes wait k rows)) := by
  match rows, Dl, G with
  | [], Dl, _ => exact s_grow_nil m1 m2 o1 o2 o3 hn hw hk Dn Dw Dl
  | (place, []) :: rs, Dl, G => exact s_grow_leaf m1 m2 o1 o2 o3 hn hw hk Dn Dw Dl G
  | (place, (f, xw) :: more) :: rs, Dl, G =>
    by_cases hm : most < nodes.length + 2
    · exact s_grow_list m1 m2 o1 o2 o3 hn hw hk Dn Dw Dl G hm
    · exact s_grow_ask m1 m2 o1 o2 o3 hn hw hk Dn Dw Dl G hm
end
section
theorem off_H6 : True := by w_top off; trivial
variable {w : World} {mean : ExcName → Option Value} {mg mb : Str → Option Value} {news : List (Addr × Obj)}
def TreeIn (w : World) (news : List (Addr × Obj)) (v : Value) (rvs : List Value) (nodes : List (Option Node)) : Prop :=
  ∃ x dx rl nl wl k1 k2 k3 k4 tm most rn nvs nn, v = .ref x ∧ (x, instObj 243 dx) ∈ news ∧ (dx, treeD w k1 k2 k3 k4 tm rl nl wl most) ∈ news ∧ (rl, lstO rvs rn) ∈ news ∧ (nl, lstO nvs nn) ∈ news ∧ DatAll news nvs (nodes.map nodeDat)
theorem nil_or_snoc {α : Type} : ∀ l : List α, l = [] ∨ ∃ r b, l = r ++ [b]
  | [] => .inl rfl
  | a :: l => by
    rcases nil_or_snoc l with rfl | ⟨r, b, rfl⟩
    · exact .inr ⟨[], a, rfl⟩
    · exact .inr ⟨a :: r, b, rfl⟩
inductive TiJ (TL : List (Addr × Obj)) (nl wl : Addr) (most : Nat) (Ds : List (List (Nat × Wish))) (x : Addr) (kk : Nat) (m : Str → Option Value) (nx : List (Addr × Obj)) : Prop
  | mk (nodes : List (Option Node)) (wait : List WRow) (nvs : List Value) (nn : Nat) (wvs : List Value) (wn : Nat) (tl : List (Addr × Obj)) (e : nx = (nl, lstO nvs nn) :: (wl, lstO wvs wn) :: (tl ++ TL)) (o1 : ∀ p ∈ tl ++ TL, p.1 ≠ nl) (o2 : ∀ p ∈ tl ++ TL, p.1 ≠ wl)
    (Dn : DatAll (tl ++ TL) nvs (nodes.map nodeDat)) (Dw : DatAll (tl ++ TL) wvs (wait.map wdat)) (RR : Reach most Ds nodes wait) (ek : kk = meas most nodes wait) (e1 : m (Str.ofString "self") = some (.ref x))
theorem s_tree_init {act : Str} {x dx ol : Addr} {t : Tok} {most : Nat} {rvs : List Value} {on : Nat} {Ds : List (List (Nat × Wish))} (hlt : ∀ p ∈ news, p.1 < dx) (hx : dx < x) (ml : (ol, lstO rvs on) ∈ news) (R : RAll w news act rvs Ds) (G : ∀ D ∈ Ds, DOk D) (hz : rvs.length ≤ 800) (hmo : most ≤ 800) :
    Spec w mean mg mb 214 8 [.ref x, .ref ol, .int (most : Nat) t] ((x, instObj 243 dx) :: (dx, dictOf [] 0) :: news) (fun news' r => r = .none ∧ ∃ tl nodes, news' = tl ++ news ∧ TreeIn w news' (.ref x) rvs nodes ∧ Reach most Ds nodes []) := by
  have hoff : ∀ p ∈ news, p.1 ≠ dx := fun p hp => Nat.ne_of_lt (hlt p hp)
  have hne : @Ne Nat x dx := Nat.ne_of_gt hx
  have hz2 : rvs.length ≤ sizeLine := by rw [sizeLine_eq]; omega
  ((refine' spec_introB (by k_is) (by k_is) (by exact fun s hX => binds_K hX rfl (by k_is) rfl rfl rfl) (by exact rfl) (by exact rfl) (by exact rfl) (by exact rfl) (by decide) ?_; k_whole; intro dp' un' gd' fr' envc' outer' A₀' base' g' L' h' ge' dr' os' tk' A9' E9' C' hr' hA' B' X' T' F' N' T' hT'; (try dsimp only [List.map, List.zip, List.zipWith, List.reverse, List.reverseAux] at F'); (try dsimp only); (try k_fold)))
  (k_steps <;> repeat' ((first | with_reducible refine stop_out ?_ | with_reducible show wpAny _ _ _ _ _ _); (first | ((k_here; (with_reducible show wpAny _ _ (call (Value.type _) [Value.ref _]) _ _ _); k_dflt (refine' list_L (by k_asm) (by k_asm) (by k_mem) (by first | assumption | (rw [sizeLine_eq]; omega)) ?_); intro _ _ _ _ _ l1Q; (try k_lt l1Q); (try (revert l1Q; intro _)))) | fail "no word"); k_steps))
  all_goals (try (((repeat (first | refine veil (by assumption) ?_ | refine turn_ret ?_ | refine turn_brk ?_ | refine wturn_ret ?_ | refine wturn_brk ?_)); (try dsimp only))))
  rename_i rl cr _ lr _ _ _ nl _ ln _ F9 N9
  obtain ⟨k1, k2, k3, N9⟩ : ∃ k1 k2 k3, News _ _ _ ((nl, lstO [.none] 0) :: (rl, lstO rvs cr) :: (x, instObj 243 dx) :: (dx, dictOf [⟨PyData.keyHash w.params (Str.ofString "rules"), .str (Str.ofString "rules") k1, .ref rl⟩, ⟨PyData.keyHash w.params (Str.ofString "most"), .str (Str.ofString "most") k2, .int (most : Nat) t⟩, ⟨PyData.keyHash w.params (Str.ofString "nodes"), .str (Str.ofString "nodes") k3, .ref nl⟩] 3) :: news) := ⟨_, _, _, N9⟩
  generalize hO : dictOf [⟨PyData.keyHash w.params (Str.ofString "rules"), .str (Str.ofString "rules") k1, .ref rl⟩, ⟨PyData.keyHash w.params (Str.ofString "most"), .str (Str.ofString "most") k2, .int (most : Nat) t⟩, ⟨PyData.keyHash w.params (Str.ofString "nodes"), .str (Str.ofString "nodes") k3, .ref nl⟩] 3 = O at N9
  replace N9 : News _ _ _ ([(nl, lstO [.none] 0), (dx, O)] ++ ((rl, lstO rvs cr) :: (x, instObj 243 dx) :: news)) := nsub N9 (fun p hp => by
    rcases List.mem_cons.mp hp with rfl | hp
    · exact .head _
    · rcases List.mem_cons.mp hp with rfl | hp
      · exact .tail _ (.tail _ (.tail _ (.head _)))
      · rcases List.mem_cons.mp hp with rfl | hp
        · exact .tail _ (.head _)
        · rcases List.mem_cons.mp hp with rfl | hp
          · exact .tail _ (.tail _ (.head _))
          · exact .tail _ (.tail _ (.tail _ (.tail _ hp))))
  have a1 : ∀ p ∈ (rl, lstO rvs cr) :: (x, instObj 243 dx) :: news, p.1 ≠ nl := List.forall_mem_cons.mpr ⟨by k_ne, List.forall_mem_cons.mpr ⟨by k_ne, fun p hp => Nat.ne_of_lt (allLt_mem ln.2.2.2 p hp)⟩⟩
  have a2 : ∀ p ∈ (rl, lstO rvs cr) :: (x, instObj 243 dx) :: news, p.1 ≠ dx := List.forall_mem_cons.mpr ⟨by k_ne, List.forall_mem_cons.mpr ⟨by k_ne, hoff⟩⟩
  refine useF (tm := [(nl, lstO [.none] 0), (dx, O)]) (news := (rl, lstO rvs cr) :: (x, instObj 243 dx) :: news) (s_open_rows (.head _) (R.mono fun p hp => .tail _ (.tail _ hp)) G (by omega)) (by assumption) (by assumption) N9 (offP a1 a2) (by decide) ?_
  rintro r8 nx8 h8 tk8 F1 N1 oo hJ90
  refine hideG fun PP hPP => ?_
  obtain ⟨⟨tl1, rfl⟩, D1⟩ := hJ90
  refine hPP ?_
  clear hPP PP
  have p1 := onP1 oo
  have p2 := onP2 oo
  have hnd : @Ne Nat nl dx := by k_ne
  subst hO
  replace N1 : News _ _ _ ((nl, lstO [.none] 0) :: (dx, dictOf [⟨PyData.keyHash w.params (Str.ofString "rules"), .str (Str.ofString "rules") k1, .ref rl⟩, ⟨PyData.keyHash w.params (Str.ofString "most"), .str (Str.ofString "most") k2, .int (most : Nat) t⟩, ⟨PyData.keyHash w.params (Str.ofString "nodes"), .str (Str.ofString "nodes") k3, .ref nl⟩] 3) :: (tl1 ++ (rl, lstO rvs cr) :: (x, instObj 243 dx) :: news)) := N1
  clear oo N9
  (k_steps <;> repeat' ((first | with_reducible refine stop_out ?_ | with_reducible show wpAny _ _ _ _ _ _); (first | ((k_here; (with_reducible show wpAny _ _ (call (Value.type _) [Value.ref _]) _ _ _); k_dflt (refine' list_L (by k_asm) (by k_asm) (by k_mem) (by first | assumption | (rw [sizeLine_eq]; omega)) ?_); intro _ _ _ _ _ l1Q; (try k_lt l1Q); (try (revert l1Q; intro _)))) | fail "no word"); k_steps))
  all_goals (try (((repeat (first | refine veil (by assumption) ?_ | refine turn_ret ?_ | refine turn_brk ?_ | refine wturn_ret ?_ | refine wturn_brk ?_)); (try dsimp only))))
  rename_i T _ lT wl _ lW _ F9 N9
  obtain ⟨k4, t0, N9⟩ : ∃ k4 t0, News _ _ _ ((wl, lstO [.ref T] 0) :: (T, tupO [.int 0 t0, r8] 0) :: (nl, lstO [.none] 0) :: (dx, treeD w k1 k2 k3 k4 t rl nl wl most) :: (tl1 ++ (rl, lstO rvs cr) :: (x, instObj 243 dx) :: news)) := ⟨_, _, N9⟩
  generalize hTD : treeD w k1 k2 k3 k4 t rl nl wl most = TD at N9
  refine stop_out ?_
  refine while_rule (meas most [none] [(0, openRows Ds)]) (TiJ ((dx, TD) :: (rl, lstO rvs cr) :: (x, instObj 243 dx) :: news) nl wl most Ds x) F9 ?_ ?_ PassesOwn.never
  · have hre : ((T, tupO [.int 0 t0, r8] 0) :: tl1) ++ (dx, TD) :: (rl, lstO rvs cr) :: (x, instObj 243 dx) :: news = (T, tupO [.int 0 t0, r8] 0) :: (tl1 ++ (dx, TD) :: (rl, lstO rvs cr) :: (x, instObj 243 dx) :: news) := rfl
    refine ⟨(nl, lstO [.none] 0) :: (wl, lstO [.ref T] 0) :: (((T, tupO [.int 0 t0, r8] 0) :: tl1) ++ (dx, TD) :: (rl, lstO rvs cr) :: (x, instObj 243 dx) :: news), nsub N9 ?_, [none], [(0, openRows Ds)], _, 0, _, 0, (T, tupO [.int 0 t0, r8] 0) :: tl1, rfl, ?_, ?_, .cons .none .nil, .cons (DatIn.tuple (.head _) (.cons (show DatIn _ (.int 0 t0) (.int ((0 : Nat) : Int)) from .int _ _) (.cons (D1.mono fun p hp => ?_) .nil))) .nil, .init, rfl, rfl⟩
    · rw [hre]; walk_at "sub"
    · rw [hre]
      refine List.forall_mem_cons.mpr ⟨by k_ne, fun p hp => ?_⟩
      rcases List.mem_append.mp hp with hp | hp
      · exact p1 p (List.mem_append_left _ hp)
      · rcases List.mem_cons.mp hp with rfl | hp
        · exact Ne.symm hnd
        · exact p1 p (List.mem_append_right _ hp)
    · rw [hre]
      refine List.forall_mem_cons.mpr ⟨by k_ne, fun p hp => ?_⟩
      rcases List.mem_append.mp hp with hp | hp
      · exact Nat.ne_of_lt (allLt_mem lW.2.2.2 p (List.mem_append_left _ hp))
      · rcases List.mem_cons.mp hp with rfl | hp
        · exact Nat.ne_of_lt lW.2.2.1
        · exact Nat.ne_of_lt (allLt_mem lW.2.2.2 p (List.mem_append_right _ hp))
    · show p ∈ (T, tupO [.int 0 t0, r8] 0) :: (tl1 ++ (dx, TD) :: (rl, lstO rvs cr) :: (x, instObj 243 dx) :: news)
      rcases List.mem_append.mp hp with hp | hp
      · exact .tail _ (List.mem_append_left _ hp)
      · exact .tail _ (List.mem_append_right _ (.tail _ hp))
  · rintro kk m₁ nx h tk hJ90 F N TQ hTQ
    refine hideG fun PP hPP => ?_
    obtain ⟨nodes, wait, nvs, nn, wvs, wn, tl, rfl, o1, o2, Dn, Dw, RR, rfl, e1⟩ := hJ90
    refine hPP ?_
    clear hPP PP
    have EE : AllB m₁ [(Str.ofString "self", .ref x)] := ⟨e1, trivial⟩
    replace F := renL _ F EE
    have o3 : @Ne Nat nl wl := by k_ne
    have ST := stOk_of G (by rw [← R.length]; omega) RR
    subst hTD
    rcases nil_or_snoc wait with rfl | ⟨wait, ⟨k, rows⟩, rfl⟩
    · cases Dw
      (k_steps <;> repeat' ((first | with_reducible refine stop_out ?_ | with_reducible show wpAny _ _ _ _ _ _); (first | ((k_here; (with_reducible show wpAny _ _ (call (Value.type _) [Value.ref _]) _ _ _); k_dflt (refine' list_L (by k_asm) (by k_asm) (by k_mem) (by first | assumption | (rw [sizeLine_eq]; omega)) ?_); intro _ _ _ _ _ l1Q; (try k_lt l1Q); (try (revert l1Q; intro _)))) | fail "no word"); k_steps))
      all_goals (try (((repeat (first | refine veil (by assumption) ?_ | refine turn_ret ?_ | refine turn_brk ?_ | refine wturn_ret ?_ | refine wturn_brk ?_)); (try dsimp only))))
      refine stop_out ?_
      refine ne_nil_B (xs := []) (n₁ := []) (ds := []) true rfl (by assumption) (by walk_at "mem") .nil (fun _ h => nomatch h) (fun _ h => nomatch h) (.head _) (by assumption : Room _ _).u64 ?_
      (k_steps <;> repeat' ((first | with_reducible refine stop_out ?_ | with_reducible show wpAny _ _ _ _ _ _); (first | ((k_here; (with_reducible show wpAny _ _ (call (Value.type _) [Value.ref _]) _ _ _); k_dflt (refine' list_L (by k_asm) (by k_asm) (by k_mem) (by first | assumption | (rw [sizeLine_eq]; omega)) ?_); intro _ _ _ _ _ l1Q; (try k_lt l1Q); (try (revert l1Q; intro _)))) | fail "no word"); k_steps))
      all_goals (try (((repeat (first | refine veil (by assumption) ?_ | refine turn_ret ?_ | refine turn_brk ?_ | refine wturn_ret ?_ | refine wturn_brk ?_)); (try dsimp only))))
      (try (((repeat (first | refine veil (by assumption) ?_ | refine turn_ret ?_ | refine turn_brk ?_ | refine wturn_ret ?_ | refine wturn_brk ?_)); (try dsimp only))))
      refine ⟨_, _, (nl, lstO nvs nn) :: (wl, lstO [] wn) :: (tl ++ (dx, treeD w k1 k2 k3 k4 t rl nl wl most) :: (rl, lstO rvs cr) :: (x, instObj 243 dx) :: news), _, rfl, by assumption, nsub (by assumption) (fun p hp => .tail _ hp), rfl, (nl, lstO nvs nn) :: (wl, lstO [] wn) :: (tl ++ [(dx, treeD w k1 k2 k3 k4 t rl nl wl most), (rl, lstO rvs cr), (x, instObj 243 dx)]), nodes, by simp, ?_, RR⟩
      exact ⟨x, dx, rl, nl, wl, k1, k2, k3, k4, t, most, cr, nvs, nn, rfl, by walk_at "mem", by walk_at "mem", by walk_at "mem", .head _, Dn.mono fun p hp => .tail _ (.tail _ hp)⟩
    · rw [List.map_append] at Dw
      refine hideG fun PP hPP => ?_
      obtain ⟨wvs, wv, rfl, Dw, Dl⟩ := all_back Dw
      refine hPP ?_
      clear hPP PP
      have hBB : (wvs ++ [wv]).isEmpty = false := by simp
      have Dall : DatAll (tl ++ (dx, treeD w k1 k2 k3 k4 t rl nl wl most) :: (rl, lstO rvs cr) :: (x, instObj 243 dx) :: news) (wvs ++ [wv]) (wait.map wdat ++ [wdat (k, rows)]) := all_snoc Dw (fun p hp => hp) Dl
      (k_steps <;> repeat' ((first | with_reducible refine stop_out ?_ | with_reducible show wpAny _ _ _ _ _ _); (first | ((k_here; (with_reducible show wpAny _ _ (call (Value.type _) [Value.ref _]) _ _ _); k_dflt (refine' list_L (by k_asm) (by k_asm) (by k_mem) (by first | assumption | (rw [sizeLine_eq]; omega)) ?_); intro _ _ _ _ _ l1Q; (try k_lt l1Q); (try (revert l1Q; intro _)))) | fail "no word"); k_steps))
      all_goals (try (((repeat (first | refine veil (by assumption) ?_ | refine turn_ret ?_ | refine turn_brk ?_ | refine wturn_ret ?_ | refine wturn_brk ?_)); (try dsimp only))))
      refine stop_out ?_
      refine ne_nil_B false hBB (by assumption) (by walk_at "mem") Dall (fun p hp => by walk_at "mem") (fun d hd => ?_) (.head _) (by assumption : Room _ _).u64 ?_
      · rcases List.mem_append.mp hd with hd | hd
        · obtain ⟨q, _, rfl⟩ := List.mem_map.mp hd; exact wdat_kqd _ _
        · rw [List.mem_singleton.mp hd]; exact wdat_kqd _ _
      (k_steps <;> repeat' ((first | with_reducible refine stop_out ?_ | with_reducible show wpAny _ _ _ _ _ _); (first | ((k_here; (with_reducible show wpAny _ _ (call (Value.type _) [Value.ref _]) _ _ _); k_dflt (refine' list_L (by k_asm) (by k_asm) (by k_mem) (by first | assumption | (rw [sizeLine_eq]; omega)) ?_); intro _ _ _ _ _ l1Q; (try k_lt l1Q); (try (revert l1Q; intro _)))) | fail "no word"); k_steps))
      all_goals (try (((repeat (first | refine veil (by assumption) ?_ | refine turn_ret ?_ | refine turn_brk ?_ | refine wturn_ret ?_ | refine wturn_brk ?_)); (try dsimp only))))
      (rename News _ _ _ _ => N9)
      replace N9 : News _ _ _ ((nl, lstO nvs nn) :: (wl, lstO (wvs ++ [wv]) wn) :: (tl ++ (dx, treeD w k1 k2 k3 k4 t rl nl wl most) :: (rl, lstO rvs cr) :: (x, instObj 243 dx) :: news)) := nsub N9 (fun p hp => .tail _ hp)
      have hlen9 := ST.len
      have hwl9 := ST.wl
      rw [List.length_append, List.length_singleton] at hwl9
      refine use (s_grow (rows := rows) (by walk_at "mem") (by walk_at "mem") o1 o2 o3 (by omega) (by omega) (ST.lt (k, rows) (by simp)) Dn Dw Dl (ST.ok (k, rows) (by simp))) (by assumption) (by assumption) N9 (by decide) ?_
      rintro r9 nx9 h9 tk9 F1 N1 hJ90
      refine hideG fun PP hPP => ?_
      obtain ⟨nvs', nn', wvs', wn', tl', rfl, q1, q2, E1, E2, rfl⟩ := hJ90
      refine hPP ?_
      clear hPP PP
      (k_steps <;> repeat' ((first | with_reducible refine stop_out ?_ | with_reducible show wpAny _ _ _ _ _ _); (first | ((k_here; (with_reducible show wpAny _ _ (call (Value.type _) [Value.ref _]) _ _ _); k_dflt (refine' list_L (by k_asm) (by k_asm) (by k_mem) (by first | assumption | (rw [sizeLine_eq]; omega)) ?_); intro _ _ _ _ _ l1Q; (try k_lt l1Q); (try (revert l1Q; intro _)))) | fail "no word"); k_steps))
      all_goals (try (((repeat (first | refine veil (by assumption) ?_ | refine turn_ret ?_ | refine turn_brk ?_ | refine wturn_ret ?_ | refine wturn_brk ?_)); (try dsimp only))))
      refine ⟨meas most (growF most nodes wait k rows).1 (growF most nodes wait k rows).2, _, _, _, _, grow_lt, rfl, by assumption, N1, (growF most nodes wait k rows).1, (growF most nodes wait k rows).2, nvs', nn', wvs', wn', tl' ++ tl, by rw [List.append_assoc], by rw [List.append_assoc]; exact q1, by rw [List.append_assoc]; exact q2, by rw [List.append_assoc]; exact E1, by rw [List.append_assoc]; exact E2, .step RR, rfl, rfl⟩
end
section
theorem off_H7 : True := by w_top off; trivial
variable {w : World} {mean : ExcName → Option Value} {mg mb : Str → Option Value} {news : List (Addr × Obj)}
theorem s_AclTree {act : Str} {ol : Addr} {t : Tok} {most : Nat} {rvs : List Value} {on : Nat} {Ds : List (List (Nat × Wish))} (ml : (ol, lstO rvs on) ∈ news) (R : RAll w news act rvs Ds) (G : ∀ D ∈ Ds, DOk D) (hz : rvs.length ≤ 800) (hmo : most ≤ 800) :
    Spec w mean mg mb 243 9 [.ref ol, .int (most : Nat) t] news (fun news' r => ∃ tl nodes, news' = tl ++ news ∧ TreeIn w news' r rvs nodes ∧ Reach most Ds nodes []) := by
  refine spec_cls (fI := 214) (by k_is) (by k_is) (by k_is) fun x dx l1 l2 => ?_
  intro A env outer A₀ base h₀ L m s R' hr hA hf' hke B F X N T ret
  refine s_tree_init l1 l2 ml R G hz hmo A env outer A₀ base h₀ L m s R' hr hA hf' hke B F X N T ?_
  rintro r news' h'' tk' F'' N'' K'' hJ90
  refine hideG fun PP hPP => ?_
  obtain ⟨rfl, tl, nodes, rfl, h⟩ := hJ90
  refine hPP ?_
  clear hPP PP
  exact ret _ _ _ _ F'' N'' K'' ⟨rfl, tl, nodes, rfl, h⟩

def firstRow (rows : List (Nat × Rw)) (ks : List Int) : Option Nat := (rows.find? fun r => rowsHold r.2 ks).map (·.1)
structure PathInv (Ds : List (List (Nat × Wish))) (rows : List (Nat × Rw)) (ks : List Int) : Prop where
  fst : firstRow rows ks = firstOf Ds ks
  at_ : ∀ r ∈ rows, ∃ D, Ds[r.1]? = some D ∧ rowsHold r.2 ks = rowsHold (srt D) ks
def NodeOk (G : List (List (Nat × Rw))) (k : Nat) : Node → Prop
  | .leaf none => G[k]? = some []
  | .leaf (some p) => ∃ rs, G[k]? = some ((p, []) :: rs)
  | .list ps => ∃ rows, G[k]? = some rows ∧ ps = rows.map (·.1)
  | .ask f x y n => k < y ∧ k < n ∧ y < G.length ∧ n < G.length ∧ (f = 3 ∨ f = 4 ∨ f = 7) ∧ x.ok (bitsOf f) ∧ ∃ rows, G[k]? = some rows ∧ G[y]? = some (rowsSo f x rows) ∧ G[n]? = some (rowsNot f x rows)
structure TreeOk (Ds : List (List (Nat × Wish))) (nodes : List (Option Node)) (G : List (List (Nat × Rw))) : Prop where
  len : G.length = nodes.length
  pos : 0 < nodes.length
  root : G[0]? = some (openRows Ds)
  rok : ∀ rows ∈ G, ROk rows
  nd : ∀ k, k < nodes.length → ∃ n, nodes[k]? = some (some n) ∧ NodeOk G k n
def KeyB (ks : List Int) : Prop := ∀ p, (p = 3 ∨ p = 4 ∨ p = 7) → keyAt ks p = -1 ∨ (0 ≤ keyAt ks p ∧ keyAt ks p < (2 ^ bitsOf p : Nat))
theorem all_at {news : List (Addr × Obj)} {vs : List Value} {ds : List Dat} {i : Nat} {d : Dat} (h : DatAll news vs ds) (e : ds[i]? = some d) : ∃ v, vs[i]? = some v ∧ DatIn news v d := by
  induction vs generalizing i ds with
  | nil => cases h; simp at e
  | cons u vs ih =>
    cases h with
    | cons h r =>
      cases i with
      | zero => simp at e; subst e; exact ⟨_, rfl, h⟩
      | succ i => simpa using ih r (by simpa using e)
theorem RAll.get {w : World} {a : List (Addr × Obj)} {act : Str} {vs : List Value} {Ds : List (List (Nat × Wish))} {i : Nat} {D : List (Nat × Wish)} (h : RAll w a act vs Ds) (e : Ds[i]? = some D) : ∃ v, vs[i]? = some v ∧ RuleIn w a act v D := by
  have hl : i < Ds.length := (List.getElem?_eq_some_iff.mp e).1
  have hv : vs[i]? = some (vs[i]'(by rw [h.length]; exact hl)) := List.getElem?_eq_getElem _
  obtain ⟨D', e', r⟩ := h.at hv
  rw [e] at e'; cases e'
  exact ⟨_, hv, r⟩
end
section
theorem v2_dvd (n : Nat) : 2 ^ v2 n ∣ n := by
  rcases Nat.eq_zero_or_pos n with rfl | h
  · exact Nat.dvd_zero _
  · obtain ⟨a, e⟩ := v2_split n h
    exact ⟨_, e⟩
theorem v2_pow : ∀ b, v2 (2 ^ b) = b
  | 0 => v2_odd rfl
  | b + 1 => by
    have hp := Nat.two_pow_pos b
    rw [Nat.pow_succ, v2_even (by omega) (by omega), Nat.mul_div_cancel _ (by decide), v2_pow b]
theorem v2_add : ∀ (b x : Nat), 0 < x → x < 2 ^ b → v2 (2 ^ b + x) = v2 x
  | 0, x, h, h2 => by simp at h2; omega
  | b + 1, x, h, h2 => by
    have hp : (2 ^ (b + 1) : Nat) = 2 * 2 ^ b := by rw [Nat.pow_succ]; omega
    have hq := Nat.two_pow_pos b
    rcases Nat.mod_two_eq_zero_or_one x with q | q
    · rw [v2_even q h, v2_even (by omega) (by omega), hp]
      have : (2 * 2 ^ b + x) / 2 = 2 ^ b + x / 2 := by omega
      rw [this, v2_add b (x / 2) (by omega) (by omega)]
    · rw [v2_odd q, v2_odd (by omega)]
theorem v2_room {b lo : Nat} (h : 0 < lo) (h2 : lo < 2 ^ b) : v2 lo < b ∧ lo + 2 ^ v2 lo ≤ 2 ^ b := by
  have hd := v2_dvd lo
  have hle := Nat.le_of_dvd h hd
  have hv : v2 lo < b := (Nat.pow_lt_pow_iff_right (by decide : 1 < 2)).mp (Nat.lt_of_le_of_lt hle h2)
  refine ⟨hv, ?_⟩
  have h3 : 2 ^ v2 lo ∣ 2 ^ b - lo := Nat.dvd_sub (Nat.pow_dvd_pow 2 (Nat.le_of_lt hv)) hd
  have := Nat.le_of_dvd (by omega) h3
  omega
theorem fitK_le {low hi : Nat} : ∀ k, fitK low hi k ≤ k
  | 0 => by simp [fitK]
  | k + 1 => by rw [fitK]; split; exact Nat.le_trans (fitK_le k) (Nat.le_succ _); exact Nat.le_refl _
theorem startK_le {b lo : Nat} (h2 : lo < 2 ^ b) : startK lo b ≤ b := by
  unfold startK
  split
  · exact Nat.le_refl _
  · exact Nat.le_of_lt (v2_room (by omega) h2).1
theorem startK_dvd (lo b : Nat) : 2 ^ startK lo b ∣ lo := by
  unfold startK
  split
  · rename_i h; rw [h]; exact Nat.dvd_zero _
  · exact v2_dvd lo
theorem fit_full {low hi k : Nat} (h : low + 2 ^ k ≤ hi + 1) : fitK low hi k = k := by
  cases k with
  | zero => rfl
  | succ k => rw [fitK, if_neg (by omega)]
/-- the number of blocks -/
def L (b hi lo : Nat) : Nat := (rangeMasks lo hi b).length
theorem blocks_fuel {b hi : Nat} : ∀ (f f' lo : Nat), hi + 1 - lo ≤ f → hi + 1 - lo ≤ f' → blocksFrom b hi f lo = blocksFrom b hi f' lo
  | 0, f', lo, h, _ => by rw [blocks_done (by omega), blocks_done (by omega)]
  | f + 1, f', lo, h, h' => by
    by_cases hl : lo ≤ hi
    · obtain ⟨k', e, eb⟩ := blocks_more (b := b) hl h'
      have hp := Nat.two_pow_pos (fitK lo hi (startK lo b))
      rw [eb, blocksFrom, if_pos hl]
      subst e
      rw [blocks_fuel f k' _ (by omega) (by omega)]
    · rw [blocks_done hl, blocks_done hl]
theorem ranges_more {b hi lo : Nat} (h : lo ≤ hi) : rangeMasks lo hi b = (lo, 2 ^ b - 2 ^ fitK lo hi (startK lo b)) :: rangeMasks (lo + 2 ^ fitK lo hi (startK lo b)) hi b := by
  unfold rangeMasks
  obtain ⟨k', e, eb⟩ := blocks_more (b := b) h (Nat.le_refl (hi + 1 - lo))
  have hp := Nat.two_pow_pos (fitK lo hi (startK lo b))
  rw [eb]
  congr 1
  exact blocks_fuel _ _ _ (by omega) (by omega)
theorem ranges_done {b hi lo : Nat} (h : ¬ lo ≤ hi) : rangeMasks lo hi b = [] := blocks_done h
theorem L_more {b hi lo : Nat} (h : lo ≤ hi) : L b hi lo = L b hi (lo + 2 ^ fitK lo hi (startK lo b)) + 1 := by
  unfold L; rw [ranges_more h]; rfl
theorem L_done {b hi lo : Nat} (h : ¬ lo ≤ hi) : L b hi lo = 0 := by unfold L; rw [ranges_done h]; rfl
theorem L_same {b b' hi hi' d : Nat} (hh : hi' = hi + d) : ∀ (n lo : Nat), hi + 1 - lo ≤ n → (∀ x, lo ≤ x → x ≤ hi → fitK (x + d) hi' (startK (x + d) b') = fitK x hi (startK x b)) → L b' hi' (lo + d) = L b hi lo
  | 0, lo, h, _ => by rw [L_done (by omega), L_done (by omega)]
  | n + 1, lo, h, hf => by
    by_cases hl : lo ≤ hi
    · have hp := Nat.two_pow_pos (fitK lo hi (startK lo b))
      rw [L_more (b := b') (by omega), L_more (b := b) hl, hf lo (Nat.le_refl _) hl]
      have e : lo + d + 2 ^ fitK lo hi (startK lo b) = (lo + 2 ^ fitK lo hi (startK lo b)) + d := by omega
      rw [e, L_same hh n _ (by omega) fun x h1 h2 => hf x (by omega) h2]
    · rw [L_done (by omega), L_done hl]
theorem fit_shift {lo hi d : Nat} : ∀ k, fitK (lo + d) (hi + d) k = fitK lo hi k
  | 0 => rfl
  | k + 1 => by
    rw [fitK, fitK, fit_shift k]
    by_cases h : hi + 1 < lo + 2 ^ (k + 1)
    · rw [if_pos h, if_pos (by omega)]
    · rw [if_neg h, if_neg (by omega)]
theorem L_lower {b hi lo : Nat} (h : hi < 2 ^ b) : L (b + 1) hi lo = L b hi lo := by
  have hp : (2 ^ (b + 1) : Nat) = 2 * 2 ^ b := by rw [Nat.pow_succ]; omega
  have := L_same (b := b) (b' := b + 1) (hi := hi) (hi' := hi) (d := 0) rfl (hi + 1 - lo) lo (Nat.le_refl _) fun x _ hx => by
    show fitK x hi (startK x (b + 1)) = _
    by_cases h0 : x = 0
    · subst h0
      rw [show startK 0 (b + 1) = b + 1 from rfl, show startK 0 b = b from rfl, fitK, if_pos (by omega)]
    · rw [startK, startK, if_neg h0, if_neg h0]
  exact this
theorem L_upper {b hi lo : Nat} (h : hi < 2 ^ (b + 1)) (hl : 2 ^ b ≤ lo) (hlh : 2 ^ b ≤ hi) : L (b + 1) hi lo = L b (hi - 2 ^ b) (lo - 2 ^ b) := by
  have hp : (2 ^ (b + 1) : Nat) = 2 * 2 ^ b := by rw [Nat.pow_succ]; omega
  have := L_same (b := b) (b' := b + 1) (hi := hi - 2 ^ b) (hi' := hi) (d := 2 ^ b) (by omega) (hi + 1 - lo) (lo - 2 ^ b) (by omega) fun x _ hx => by
    have e : hi = (hi - 2 ^ b) + 2 ^ b := by omega
    have es : startK (x + 2 ^ b) (b + 1) = startK x b := by
      have hq := Nat.two_pow_pos b
      rw [startK, if_neg (by omega), startK]
      by_cases h0 : x = 0
      · rw [if_pos h0, h0, Nat.zero_add, v2_pow]
      · rw [if_neg h0, Nat.add_comm, v2_add b x (by omega) (by omega)]
    rw [es]
    conv => lhs; rw [e]
    exact fit_shift _
  rw [← this]
  congr 1
  omega
theorem L_split {b hi : Nat} (h : hi < 2 ^ (b + 1)) (hlh : 2 ^ b ≤ hi) : ∀ (n lo : Nat), 2 ^ b - lo ≤ n → lo ≤ 2 ^ b → ¬ (lo = 0 ∧ hi = 2 ^ (b + 1) - 1) → L (b + 1) hi lo = L b (2 ^ b - 1) lo + L (b + 1) hi (2 ^ b)
  | n, lo, hn, hl, hne => by
    have hp : (2 ^ (b + 1) : Nat) = 2 * 2 ^ b := by rw [Nat.pow_succ]; omega
    have hq := Nat.two_pow_pos b
    by_cases hlo : lo = 2 ^ b
    · rw [hlo, L_done (b := b) (by omega), Nat.zero_add]
    · have hlt : lo < 2 ^ b := by omega
      rw [L_more (b := b + 1) (by omega), L_more (b := b) (by omega)]
      have key : ∃ k, fitK lo hi (startK lo (b + 1)) = k ∧ fitK lo (2 ^ b - 1) (startK lo b) = k ∧ lo + 2 ^ k ≤ 2 ^ b := by
        by_cases h0 : lo = 0
        · subst h0
          refine ⟨b, ?_, fit_full (by simp [startK]; omega), by omega⟩
          rw [show startK 0 (b + 1) = b + 1 from rfl, fitK, if_pos (by omega)]
          exact fit_full (by omega)
        · have hr := v2_room (by omega) hlt
          refine ⟨v2 lo, ?_, ?_, hr.2⟩
          · rw [startK, if_neg h0]; exact fit_full (by omega)
          · rw [startK, if_neg h0]; exact fit_full (by omega)
      obtain ⟨k, e1, e2, e3⟩ := key
      rw [e1, e2]
      have hk := Nat.two_pow_pos k
      cases n with
      | zero => omega
      | succ n =>
        rw [L_split h hlh n (lo + 2 ^ k) (by omega) e3 (by omega)]
        omega
theorem L_blocks : ∀ (b lo hi : Nat), lo ≤ hi → hi < 2 ^ b → L b hi lo = blocks b lo hi
  | 0, lo, hi, h, h2 => by
    obtain rfl : hi = 0 := by simpa using h2
    obtain rfl : lo = 0 := by omega
    rw [L_more (Nat.le_refl _), L_done (by have := Nat.two_pow_pos (fitK 0 0 (startK 0 0)); omega)]
    rfl
  | b + 1, lo, hi, h, h2 => by
    have hp : (2 ^ (b + 1) : Nat) = 2 * 2 ^ b := by rw [Nat.pow_succ]; omega
    have hq := Nat.two_pow_pos b
    rw [blocks]
    by_cases hf : lo = 0 ∧ hi = 2 ^ (b + 1) - 1
    · rw [if_pos hf]
      obtain ⟨rfl, rfl⟩ := hf
      rw [L_more (by omega), show startK 0 (b + 1) = b + 1 from rfl, fit_full (by omega), L_done (by omega)]
    · rw [if_neg hf]
      by_cases hu : 2 ^ b ≤ hi
      · rw [if_pos hu]
        by_cases hl : lo < 2 ^ b
        · rw [if_pos hl, L_split h2 hu _ lo (Nat.le_refl _) (by omega) hf, L_upper h2 (Nat.le_refl _) hu]
          rw [L_blocks b lo _ (by omega) (by omega), L_blocks b _ (hi - 2 ^ b) (by omega) (by omega)]
          rw [show min hi (2 ^ b - 1) = 2 ^ b - 1 from by omega, show max lo (2 ^ b) - 2 ^ b = 2 ^ b - 2 ^ b from by omega]
        · rw [if_neg hl, L_upper h2 (by omega) hu, L_blocks b _ _ (by omega) (by omega), show max lo (2 ^ b) - 2 ^ b = lo - 2 ^ b from by omega]
          omega
      · rw [if_neg hu, if_pos (by omega), L_lower (by omega), L_blocks b lo hi h (by omega), show min hi (2 ^ b - 1) = hi from by omega]
        rfl
theorem L_pos {b hi lo : Nat} (h : lo ≤ hi) : 0 < L b hi lo := by rw [L_more h]; omega

theorem and_mask {n b k : Nat} (h : n < 2 ^ b) (hk : k ≤ b) : n &&& (2 ^ b - 2 ^ k) = n / 2 ^ k * 2 ^ k := by
  have e : 2 ^ b - 2 ^ k = (2 ^ (b - k) - 1) * 2 ^ k := by
    rw [Nat.sub_mul, ← Nat.pow_add, Nat.sub_add_cancel hk, Nat.one_mul]
  rw [e, ← Nat.shiftLeft_eq, ← Nat.shiftLeft_eq, ← Nat.shiftRight_eq_div_pow]
  apply Nat.eq_of_testBit_eq
  intro i
  rw [Nat.testBit_and, Nat.testBit_shiftLeft, Nat.testBit_shiftLeft, Nat.testBit_two_pow_sub_one, Nat.testBit_shiftRight]
  by_cases hi : k ≤ i
  · rw [show k + (i - k) = i from by omega]
    by_cases hb : i < b
    · simp [hi, show i - k < b - k from by omega]
    · rw [Nat.testBit_lt_two_pow (Nat.lt_of_lt_of_le h (Nat.pow_le_pow_right (by decide) (by omega)))]
      simp
  · simp [hi]
theorem mask_iff {n b k lo : Nat} (h : n < 2 ^ b) (hk : k ≤ b) (hd : 2 ^ k ∣ lo) : n &&& (2 ^ b - 2 ^ k) = lo ↔ lo ≤ n ∧ n < lo + 2 ^ k := by
  rw [and_mask h hk]
  obtain ⟨q, rfl⟩ := hd
  have hp := Nat.two_pow_pos k
  rw [Nat.mul_comm (2 ^ k) q]
  have h1 := Nat.div_add_mod n (2 ^ k)
  have h2 := Nat.mod_lt n hp
  rw [Nat.mul_comm] at h1
  constructor
  · intro e; omega
  · rintro ⟨h3, h4⟩
    have : n / 2 ^ k = q := by
      exact Nat.div_eq_of_lt_le h3 (by rw [Nat.succ_mul]; exact h4)
    rw [this]
/-- the blocks of a range cover it, and are masks of the field -/
theorem ranges_cover {b hi n : Nat} (hh : hi < 2 ^ b) (hn : n ≤ hi) : ∀ (f lo : Nat), hi + 1 - lo ≤ f → lo ≤ n → ∃ p ∈ rangeMasks lo hi b, n &&& p.2 = p.1
  | 0, lo, h, hl => by omega
  | f + 1, lo, h, hl => by
    have hle : lo ≤ hi := by omega
    rw [ranges_more hle]
    have hp := Nat.two_pow_pos (fitK lo hi (startK lo b))
    have hkb : fitK lo hi (startK lo b) ≤ b := Nat.le_trans (fitK_le _) (startK_le (by omega))
    have hd : 2 ^ fitK lo hi (startK lo b) ∣ lo := Nat.dvd_trans (Nat.pow_dvd_pow 2 (fitK_le _)) (startK_dvd lo b)
    by_cases hc : n < lo + 2 ^ fitK lo hi (startK lo b)
    · exact ⟨_, .head _, (mask_iff (by omega) hkb hd).mpr ⟨hl, hc⟩⟩
    · obtain ⟨p, hp1, hp2⟩ := ranges_cover hh hn f (lo + 2 ^ fitK lo hi (startK lo b)) (by omega) (by omega)
      exact ⟨p, .tail _ hp1, hp2⟩
theorem ranges_ok {b hi : Nat} (hh : hi < 2 ^ b) : ∀ (f lo : Nat), hi + 1 - lo ≤ f → ∀ p ∈ rangeMasks lo hi b, p.2 < 2 ^ b ∧ p.1 &&& p.2 = p.1
  | 0, lo, h, p, hp => by rw [ranges_done (by omega)] at hp; cases hp
  | f + 1, lo, h, p, hp => by
    by_cases hle : lo ≤ hi
    · rw [ranges_more hle] at hp
      have hq := Nat.two_pow_pos (fitK lo hi (startK lo b))
      have hkb : fitK lo hi (startK lo b) ≤ b := Nat.le_trans (fitK_le _) (startK_le (by omega))
      have hd : 2 ^ fitK lo hi (startK lo b) ∣ lo := Nat.dvd_trans (Nat.pow_dvd_pow 2 (fitK_le _)) (startK_dvd lo b)
      rcases List.mem_cons.mp hp with rfl | hp
      · refine ⟨by have := Nat.two_pow_pos b; show 2 ^ b - _ < _; omega, ?_⟩
        exact (mask_iff (by omega) hkb hd).mpr ⟨Nat.le_refl _, by omega⟩
      · exact ranges_ok hh f _ (by omega) p hp
    · rw [ranges_done hle] at hp; cases hp
end
section
theorem masks_cover {b n : Nat} {x : Wish} (hx : x.ok b) (hn : n < 2 ^ b) (h : x.has n = true) : ∃ p ∈ x.masks b, n &&& p.2 = p.1 := by
  cases x with
  | mask v m => exact ⟨(v, m), .head _, by simpa [Wish.has] using h⟩
  | range lo hi =>
    have h' : lo ≤ n ∧ n ≤ hi := by simpa [Wish.has] using h
    exact ranges_cover hx.2 h'.2 _ lo (Nat.le_refl _) h'.1
theorem mask_top {b n m : Nat} (hn : n < 2 ^ b) (hm : m < 2 ^ b) : n + m ≤ (n &&& m) + (2 ^ b - 1) := by
  have h1 := xor_add n m
  have h2 := xor_add (n ^^^ m) (n &&& m)
  have h3 : (n ^^^ m) &&& (n &&& m) = 0 := by
    apply Nat.eq_of_testBit_eq
    intro i
    rw [Nat.testBit_and, Nat.testBit_and, Nat.testBit_xor, Nat.zero_testBit]
    cases n.testBit i <;> cases m.testBit i <;> rfl
  have h4 : (n ^^^ m) ^^^ (n &&& m) < 2 ^ b := Nat.xor_lt_two_pow (Nat.xor_lt_two_pow hn hm) (Nat.and_lt_two_pow _ hm)
  rw [h3] at h2
  omega
theorem within_sound {b n : Nat} {x1 x2 : Wish} (hx : x1.ok b) (hn : n < 2 ^ b) (h : x1.has n = true) (hw : x1.within b x2 = true) : x2.has n = true := by
  cases x2 with
  | range lo hi =>
    have hw' : lo ≤ (x1.ends b).1 ∧ (x1.ends b).2 ≤ hi := by simpa [Wish.within] using hw
    suffices (x1.ends b).1 ≤ n ∧ n ≤ (x1.ends b).2 by
      simp only [Wish.has, Bool.and_eq_true, decide_eq_true_eq]; omega
    cases x1 with
    | mask v m =>
      have h' : n &&& m = v := by simpa [Wish.has] using h
      have h1 : n &&& m ≤ n := Nat.and_le_left
      have h2 := mask_top hn hx.1
      have := hx.1
      simp only [Wish.ends]
      omega
    | range l1 h1 => simpa [Wish.has, Wish.ends] using h
  | mask v m =>
    obtain ⟨p, hp, e⟩ := masks_cover hx hn h
    have := List.all_eq_true.mp hw p hp
    have h' : p.2 &&& m = m ∧ p.1 &&& m = v := by simpa [inMask] using this
    simp only [Wish.has, decide_eq_true_eq]
    rw [← h'.2, ← e, Nat.and_assoc, h'.1]
theorem meet_full {b n : Nat} {x1 x2 : Wish} (hx1 : x1.ok b) (hx2 : x2.ok b) (hn : n < 2 ^ b) (h1 : x1.has n = true) (h2 : x2.has n = true) : x1.meet b x2 = true := by
  have go : ((x1.masks b).any fun p => (x2.masks b).any fun q => metMask p q) = true := by
    obtain ⟨p, hp, e1⟩ := masks_cover hx1 hn h1
    obtain ⟨q, hq, e2⟩ := masks_cover hx2 hn h2
    refine List.any_eq_true.mpr ⟨p, hp, List.any_eq_true.mpr ⟨q, hq, ?_⟩⟩
    simp only [metMask, decide_eq_true_eq]
    rw [← e1, ← e2]
    apply Nat.eq_of_testBit_eq
    intro i
    rw [Nat.testBit_and, Nat.testBit_and, Nat.testBit_xor, Nat.testBit_and, Nat.testBit_and, Nat.zero_testBit]
    cases n.testBit i <;> cases p.2.testBit i <;> cases q.2.testBit i <;> rfl
  cases x1 with
  | mask v m => exact go
  | range l1 u1 =>
    cases x2 with
    | mask v m => exact go
    | range l2 u2 =>
      simp only [Wish.has, Bool.and_eq_true, decide_eq_true_eq] at h1 h2
      simp only [Wish.meet, Bool.and_eq_true, decide_eq_true_eq]
      omega
theorem holds_nat {x : Wish} {k : Int} {B : Nat} (h : x.holds k = true) (hk : k = -1 ∨ (0 ≤ k ∧ k < (B : Nat))) : ∃ n : Nat, k = (n : Int) ∧ n < B ∧ x.has n = true := by
  unfold Wish.holds at h
  split at h
  · cases h
  · rename_i hne
    have h2 := hk.resolve_left hne
    exact ⟨k.toNat, by omega, by omega, h⟩
theorem holds_of {x : Wish} {n : Nat} (h : x.has n = true) : x.holds (n : Int) = true := by
  unfold Wish.holds
  rw [if_neg (by omega), Int.toNat_natCast]; exact h
theorem find_keep {α β : Type} {rows : List (α × β)} {poss : α × β → Bool} {g : α × β → α × β} {hold : α × β → Bool} (h : ∀ r ∈ rows, (poss r = false → hold r = false) ∧ (poss r = true → hold (g r) = hold r) ∧ (g r).1 = r.1) :
    (((rows.filter poss).map g).find? hold).map (·.1) = (rows.find? hold).map (·.1) := by
  induction rows with
  | nil => rfl
  | cons r rows ih =>
    have hr := h r (.head _)
    have ih := ih fun r hr => h r (.tail _ hr)
    cases hp : poss r with
    | false =>
      rw [List.filter_cons_of_neg (by rw [hp]; decide), List.find?_cons_of_neg (by rw [hr.1 hp]; decide)]
      exact ih
    | true =>
      rw [List.filter_cons_of_pos hp, List.map_cons, List.find?_cons, List.find?_cons, hr.2.1 hp]
      cases hold r with
      | true => simp [hr.2.2]
      | false => exact ih
section
variable {Ds : List (List (Nat × Wish))} {ks : List Int} {f : Nat} {x : Wish} {rows : List (Nat × Rw)}
theorem so_path (KB : KeyB ks) (P : PathInv Ds rows ks) (G : ROk rows) (hf : f = 3 ∨ f = 4 ∨ f = 7) (hx : x.ok (bitsOf f)) (hh : x.holds (keyAt ks f) = true) : PathInv Ds (rowsSo f x rows) ks := by
  obtain ⟨n, en, hn, hxn⟩ := holds_nat hh (KB f hf)
  have row : ∀ r ∈ rows, (possSo f x r.2 = false → rowsHold r.2 ks = false) ∧ (possSo f x r.2 = true → rowsHold (leftSo f x r.2) ks = rowsHold r.2 ks) := by
    intro r hr
    have hg := (G.mem r hr).2
    constructor
    · intro hp
      obtain ⟨q, hq, hq2⟩ := List.all_eq_false.mp hp
      have hq3 : q.1 = f ∧ q.2.meet (bitsOf f) x = false := by
        simpa using hq2
      rw [rowsHold, List.all_eq_false]
      refine ⟨q, hq, fun hc => ?_⟩
      rw [hq3.1] at hc
      obtain ⟨n', en', hn', hxn'⟩ := holds_nat hc (KB f hf)
      obtain rfl : n' = n := by omega
      have := meet_full (hq3.1 ▸ (hg q hq).2) hx hn hxn' hxn
      rw [hq3.2] at this; cases this
    · intro hp
      have hp' := List.all_eq_true.mp hp
      rw [rowsHold, rowsHold, Bool.eq_iff_iff, List.all_eq_true, List.all_eq_true]
      constructor
      · intro h q hq
        by_cases hk : (decide (q.1 ≠ f) || (q.2.meet (bitsOf f) x && !x.within (bitsOf f) q.2)) = true
        · exact h q (List.mem_filter.mpr ⟨hq, hk⟩)
        · have h1 := hp' q hq
          have hqf : q.1 = f := by
            by_cases e : q.1 = f
            · exact e
            · exfalso; apply hk; simp [e]
          have hm : q.2.meet (bitsOf f) x = true := by simpa [hqf] using h1
          have hwi : x.within (bitsOf f) q.2 = true := by simpa [hqf, hm] using hk
          rw [hqf, en]
          exact holds_of (within_sound hx hn hxn hwi)
      · intro h q hq
        exact h q (List.mem_filter.mp hq).1
  refine ⟨?_, ?_⟩
  · rw [← P.fst]
    exact find_keep fun r hr => ⟨(row r hr).1, (row r hr).2, rfl⟩
  · intro r hr
    obtain ⟨r', hr', rfl⟩ := List.mem_map.mp hr
    obtain ⟨h1, h2⟩ := List.mem_filter.mp hr'
    obtain ⟨D, hD, e⟩ := P.at_ r' h1
    exact ⟨D, hD, ((row r' h1).2 h2).trans e⟩
theorem no_path (KB : KeyB ks) (P : PathInv Ds rows ks) (G : ROk rows) (hf : f = 3 ∨ f = 4 ∨ f = 7) (_ : x.ok (bitsOf f)) (hh : x.holds (keyAt ks f) = false) : PathInv Ds (rowsNot f x rows) ks := by
  have row : ∀ r ∈ rows, (!(r.2.any (hitNot f x))) = false → rowsHold r.2 ks = false := by
    intro r hr hp
    have hp' : r.2.any (hitNot f x) = true := by simpa using hp
    obtain ⟨q, hq, hq2⟩ := List.any_eq_true.mp hp'
    have hq3 : q.1 = f ∧ q.2.within (bitsOf f) x = true := by simpa [hitNot] using hq2
    rw [rowsHold, List.all_eq_false]
    refine ⟨q, hq, fun hc => ?_⟩
    rw [hq3.1] at hc
    obtain ⟨n, en, hn, hqn⟩ := holds_nat hc (KB f hf)
    have := holds_of (within_sound (hq3.1 ▸ ((G.mem r hr).2 q hq).2) hn hqn hq3.2)
    rw [← en, hh] at this; cases this
  refine ⟨?_, ?_⟩
  · rw [← P.fst]
    have := find_keep (rows := rows) (poss := fun r => !(r.2.any (hitNot f x))) (g := id) (hold := fun r => rowsHold r.2 ks) fun r hr => ⟨row r hr, fun _ => rfl, rfl⟩
    rw [List.map_id] at this
    exact this
  · intro r hr
    exact P.at_ r (List.mem_filter.mp hr).1
end
theorem first_zip (ks : List Int) : ∀ (Ds : List (List (Nat × Wish))) (i : Nat), ((Ds.zipIdx i).map fun p => (p.2, srt p.1)).find? (fun r => rowsHold r.2 ks) = ((Ds.zipIdx i).find? fun p => rowsHold (srt p.1) ks).map fun p => (p.2, srt p.1) := by
  intro Ds i
  rw [List.find?_map]; rfl
theorem first_idx (ks : List Int) : ∀ (Ds : List (List (Nat × Wish))) (i : Nat), ((Ds.zipIdx i).find? fun p => rowsHold (srt p.1) ks).map (·.2) = (Ds.findIdx? fun D => rowsHold (srt D) ks).map (· + i)
  | [], i => rfl
  | D :: Ds, i => by
    rw [List.zipIdx_cons, List.find?_cons, List.findIdx?_cons]
    cases h : rowsHold (srt D) ks with
    | true => simp
    | false =>
      simp only [Bool.false_eq_true, if_false]
      rw [first_idx ks Ds (i + 1), Option.map_map]
      congr 1
      funext y
      simp; omega
theorem path_open (Ds : List (List (Nat × Wish))) (ks : List Int) : PathInv Ds (openRows Ds) ks := by
  refine ⟨?_, ?_⟩
  · unfold firstRow openRows firstOf
    rw [first_zip, Option.map_map]
    refine Eq.trans ?_ (Eq.trans (first_idx ks Ds 0) (by simp))
    rfl
  · intro r hr
    unfold openRows at hr
    obtain ⟨⟨D, i⟩, hp, rfl⟩ := List.mem_map.mp hr
    refine ⟨D, ?_, rfl⟩
    have := List.mem_zipIdx_iff_getElem?.mp hp
    exact this
theorem row_some {rows : List (Nat × Rw)} {ks : List Int} {i : Nat} {r : Nat × Rw} (hr : rows[i]? = some r) (h : rowsHold r.2 ks = true) (hj : ∀ j q, j < i → rows[j]? = some q → rowsHold q.2 ks = false) : firstRow rows ks = some r.1 := by
  obtain ⟨hl, e⟩ := List.getElem?_eq_some_iff.mp hr
  have : rows.find? (fun r => rowsHold r.2 ks) = some r := by
    rw [List.find?_eq_some_iff_getElem]
    refine ⟨h, i, hl, e, fun j hji => ?_⟩
    rw [hj j _ hji (List.getElem?_eq_getElem (by omega))]
    decide
  unfold firstRow
  rw [this]; rfl
theorem row_none {rows : List (Nat × Rw)} {ks : List Int} (hj : ∀ q ∈ rows, rowsHold q.2 ks = false) : firstRow rows ks = none := by
  have : rows.find? (fun r => rowsHold r.2 ks) = none := List.find?_eq_none.mpr fun q hq => by rw [hj q hq]; decide
  unfold firstRow
  rw [this]; rfl

theorem NodeOk.more {G : List (List (Nat × Rw))} {k : Nat} {n : Node} (l : List (List (Nat × Rw))) (h : NodeOk G k n) : NodeOk (G ++ l) k n := by
  have up : ∀ {i : Nat} {a : List (Nat × Rw)}, G[i]? = some a → (G ++ l)[i]? = some a := fun {i a} e => by
    rw [List.getElem?_append_left (List.getElem?_eq_some_iff.mp e).1]; exact e
  cases n with
  | leaf p =>
    cases p with
    | none => exact up h
    | some p => obtain ⟨rs, e⟩ := h; exact ⟨rs, up e⟩
  | list ps => obtain ⟨rows, e, e2⟩ := h; exact ⟨rows, up e, e2⟩
  | ask f x y n =>
    obtain ⟨h1, h2, h3, h4, h5, h6, rows, e1, e2, e3⟩ := h
    exact ⟨h1, h2, by rw [List.length_append]; omega, by rw [List.length_append]; omega, h5, h6, rows, up e1, up e2, up e3⟩
structure GInv (Ds : List (List (Nat × Wish))) (nodes : List (Option Node)) (wait : List WRow) (G : List (List (Nat × Rw))) : Prop where
  len : G.length = nodes.length
  pos : 0 < nodes.length
  root : G[0]? = some (openRows Ds)
  rok : ∀ rows ∈ G, ROk rows
  wt : ∀ p ∈ wait, G[p.1]? = some p.2
  nd : ∀ k, k < nodes.length → (∃ n, nodes[k]? = some (some n) ∧ NodeOk G k n) ∨ ∃ p ∈ wait, p.1 = k
theorem gInv_set {Ds : List (List (Nat × Wish))} {nodes : List (Option Node)} {wait : List WRow} {G : List (List (Nat × Rw))} {k : Nat} {rows : List (Nat × Rw)} (I : GInv Ds nodes (wait ++ [(k, rows)]) G) {n : Node} (hn : NodeOk G k n) : GInv Ds (nodes.set k (some n)) wait G := by
  refine ⟨by rw [List.length_set]; exact I.len, by rw [List.length_set]; exact I.pos, I.root, I.rok, fun p hp => I.wt p (List.mem_append_left _ hp), fun j hj => ?_⟩
  rw [List.length_set] at hj
  by_cases e : k = j
  · subst e
    exact .inl ⟨n, by rw [List.getElem?_set_self hj], hn⟩
  · rcases I.nd j hj with ⟨m, h1, h2⟩ | ⟨p, hp, h2⟩
    · exact .inl ⟨m, by rw [List.getElem?_set_ne e]; exact h1, h2⟩
    · rcases List.mem_append.mp hp with hp | hp
      · exact .inr ⟨p, hp, h2⟩
      · rw [List.mem_singleton.mp hp] at h2
        exact absurd h2 e
theorem tree_inv {most : Nat} {Ds : List (List (Nat × Wish))} (GD : ∀ D ∈ Ds, DOk D) (hl : Ds.length ≤ 1000) {nodes : List (Option Node)} {wait : List WRow} (h : Reach most Ds nodes wait) : ∃ G, GInv Ds nodes wait G := by
  induction h with
  | init =>
    refine ⟨[openRows Ds], rfl, Nat.zero_lt_one, rfl, fun rows hr => ?_, fun p hp => ?_, fun k hk => ?_⟩
    · rw [List.mem_singleton.mp hr]; exact ROk.open GD hl
    · rw [List.mem_singleton.mp hp]; rfl
    · exact .inr ⟨_, List.mem_singleton.mpr rfl, by simp at hk; omega⟩
  | @step nodes wait k rows hR ih =>
    obtain ⟨G, I⟩ := ih
    have hk : G[k]? = some rows := I.wt (k, rows) (by simp)
    have hkl : k < G.length := (List.getElem?_eq_some_iff.mp hk).1
    have hrok : ROk rows := I.rok rows (List.mem_of_getElem? hk)
    unfold growF
    split
    · exact ⟨G, gInv_set I (show NodeOk G k (.leaf none) from hk)⟩
    · exact ⟨G, gInv_set I (show NodeOk G k (.leaf (some _)) from ⟨_, hk⟩)⟩
    · rename_i place f x more rs
      split
      · exact ⟨G, gInv_set I (show NodeOk G k (.list _) from ⟨_, hk, rfl⟩)⟩
      · have hq : EOk (f, x) := (hrok.mem _ (.head _)).2 _ (.head _)
        generalize hrows : (place, (f, x) :: more) :: rs = rows at *
        refine ⟨G ++ [rowsSo f x rows, rowsNot f x rows], ?_⟩
        have hlen := I.len
        have e0 : (G ++ [rowsSo f x rows, rowsNot f x rows])[nodes.length]? = some (rowsSo f x rows) := by rw [← hlen, List.getElem?_append_right (Nat.le_refl _), Nat.sub_self]; rfl
        have e1 : (G ++ [rowsSo f x rows, rowsNot f x rows])[nodes.length + 1]? = some (rowsNot f x rows) := by rw [← hlen, List.getElem?_append_right (by omega), show G.length + 1 - G.length = 1 from by omega]; rfl
        have up : ∀ {i : Nat} {a : List (Nat × Rw)}, G[i]? = some a → (G ++ [rowsSo f x rows, rowsNot f x rows])[i]? = some a := fun {i a} e => by
          rw [List.getElem?_append_left (List.getElem?_eq_some_iff.mp e).1]; exact e
        have ll : ((nodes ++ [none, none]).set k (some (.ask f x nodes.length (nodes.length + 1)))).length = nodes.length + 2 := by rw [List.length_set, List.length_append]; rfl
        refine ⟨?_, ?_, up I.root, fun r hr => ?_, fun p hp => ?_, fun j hj => ?_⟩
        · rw [ll, List.length_append, hlen]; rfl
        · rw [ll]; omega
        · rcases List.mem_append.mp hr with hr | hr
          · exact I.rok r hr
          · rcases List.mem_cons.mp hr with rfl | hr
            · exact hrok.so
            · rw [List.mem_singleton.mp hr]; exact hrok.no
        · rcases List.mem_append.mp hp with hp | hp
          · exact up (I.wt p (List.mem_append_left _ hp))
          · rcases List.mem_cons.mp hp with rfl | hp
            · exact e0
            · rw [List.mem_singleton.mp hp]; exact e1
        · rw [ll] at hj
          by_cases e : k = j
          · subst e
            refine .inl ⟨.ask f x nodes.length (nodes.length + 1), ?_, ?_⟩
            · rw [List.getElem?_set_self (by rw [List.length_append]; omega)]
            · exact ⟨by omega, by omega, by rw [List.length_append, hlen]; simp, by rw [List.length_append, hlen]; simp, hq.1, hq.2, rows, up hk, e0, e1⟩
          · by_cases hj2 : j < nodes.length
            · rcases I.nd j hj2 with ⟨m, h1, h2⟩ | ⟨p, hp, h2⟩
              · exact .inl ⟨m, by rw [List.getElem?_set_ne e, List.getElem?_append_left hj2]; exact h1, h2.more _⟩
              · rcases List.mem_append.mp hp with hp | hp
                · exact .inr ⟨p, List.mem_append_left _ hp, h2⟩
                · rw [List.mem_singleton.mp hp] at h2
                  exact absurd h2 e
            · rcases (show j = nodes.length ∨ j = nodes.length + 1 by omega) with rfl | rfl
              · exact .inr ⟨_, List.mem_append_right _ (.head _), rfl⟩
              · exact .inr ⟨_, List.mem_append_right _ (.tail _ (.head _)), rfl⟩
theorem tree_ok {most : Nat} {Ds : List (List (Nat × Wish))} (GD : ∀ D ∈ Ds, DOk D) (hl : Ds.length ≤ 1000) {nodes : List (Option Node)} (h : Reach most Ds nodes []) : ∃ G, TreeOk Ds nodes G := by
  obtain ⟨G, I⟩ := tree_inv GD hl h
  refine ⟨G, I.len, I.pos, I.root, I.rok, fun k hk => ?_⟩
  rcases I.nd k hk with h | ⟨p, hp, _⟩
  · exact h
  · cases hp
theorem tree_odd {most : Nat} {Ds : List (List (Nat × Wish))} {nodes : List (Option Node)} {wait : List WRow} (h : Reach most Ds nodes wait) : nodes.length % 2 = 1 := by
  induction h with
  | init => rfl
  | step _ ih =>
    unfold growF
    split
    · rw [List.length_set]; exact ih
    · rw [List.length_set]; exact ih
    · split
      · rw [List.length_set]; exact ih
      · rw [List.length_set, List.length_append]; simp; omega
end
section
theorem off_I1 : True := by w_top off; trivial
variable {w : World} {mean : ExcName → Option Value} {mg mb : Str → Option Value} {news : List (Addr × Obj)}
local macro_rules | `(tactic| walk_at "subscriptTail Name Name ref int") => `(tactic| (k_here; refine stop_in ?_))
local macro_rules | `(tactic| walk_at "subscriptTail Name Subscript ref int") => `(tactic| (k_here; refine stop_in ?_))
local macro_rules | `(tactic| walk_at "subscriptTail Name IfExp ref int") => `(tactic| (k_here; refine stop_in ?_))
local macro_rules | `(tactic| walk_at "subscriptTail Attribute") => `(tactic| (k_here; k_dflt (refine kba_turn (value' := PySem.Expr.Name (PySem.Str.ofString "_") ⟨0, 0, 0, 0⟩) (fun _ => rfl) ?_)))
theorem leaf_in {v : Value} {p : Option Nat} (h : DatIn news v (Node.leaf p).dat) : ∃ y n t u, v = .ref y ∧ (y, tupO [.str (Str.ofString "leaf") t, u] n) ∈ news ∧ DatIn news u (natOr p) := by
  cases h with | tuple m q => cases q with | cons x1 q => cases q with | cons x2 q => cases q; cases x1; exact ⟨_, _, _, _, rfl, m, x2⟩
theorem list_in {v : Value} {ps : List Nat} (h : DatIn news v (Node.list ps).dat) : ∃ y n t l ln lvs, v = .ref y ∧ (y, tupO [.str (Str.ofString "list") t, .ref l] n) ∈ news ∧ (l, tupO lvs ln) ∈ news ∧ DatAll news lvs (ps.map fun i => .int (i : Nat)) := by
  cases h with | tuple m q => cases q with | cons x1 q => cases q with | cons x2 q =>
    cases q; cases x1
    obtain ⟨l, n, vs, rfl, m2, h2⟩ := dat_tup x2
    (try (((repeat (first | refine veil (by assumption) ?_ | refine turn_ret ?_ | refine turn_brk ?_ | refine wturn_ret ?_ | refine wturn_brk ?_)); (try dsimp only))))
    exact ⟨_, _, _, _, _, _, rfl, m, m2, h2⟩
theorem ask_in {v : Value} {f yes no : Nat} {x : Wish} (h : DatIn news v (Node.ask f x yes no).dat) : ∃ y n t tf tyes tno u, v = .ref y ∧ (y, tupO [.str (Str.ofString "ask") t, .int (f : Nat) tf, u, .int (yes : Nat) tyes, .int (no : Nat) tno] n) ∈ news ∧ DatIn news u x.dat := by
  cases h with | tuple m q => cases q with | cons x1 q => cases q with | cons x2 q => cases q with | cons x3 q => cases q with | cons x4 q => cases q with | cons x5 q =>
    cases q; cases x1; cases x2; cases x4; cases x5; exact ⟨_, _, _, _, _, _, _, rfl, m, x3⟩
inductive LkJ (news : List (Addr × Obj)) (Gh : List (List (Nat × Rw))) (Ds : List (List (Nat × Wish))) (ks : List Int) (nvs : List Value) (nl : Nat) (x kt : Addr) (kk : Nat) (m : Str → Option Value) (nx : List (Addr × Obj)) : Prop
  | mk (k : Nat) (rows : List (Nat × Rw)) (v : Value) (n : Node) (many : Int) (t : Tok) (e : nx = news) (hkk : kk + k = nl) (hk : k < nl) (hG : Gh[k]? = some rows) (P : PathInv Ds rows ks) (hv : nvs[k]? = some v) (D : DatIn news v n.dat) (ok : NodeOk Gh k n)
    (e1 : m (Str.ofString "node") = some v) (e2 : m (Str.ofString "many") = some (.int many t)) (e3 : m (Str.ofString "self") = some (.ref x)) (e4 : m (Str.ofString "key") = some (.ref kt))
inductive LkK (nx0 : List (Addr × Obj)) (rows : List (Nat × Rw)) (ks : List Int) (kt x : Addr) (i : Nat) (m : Str → Option Value) (nx : List (Addr × Obj)) : Prop
  | mk (e : nx = nx0) (hj : ∀ j q, j < i → rows[j]? = some q → rowsHold q.2 ks = false) (e1 : m (Str.ofString "key") = some (.ref kt)) (e2 : m (Str.ofString "self") = some (.ref x)) (many : Int) (t : Tok) (e3 : m (Str.ofString "many") = some (.int many t))
theorem s_look {act : Str} {tv kv : Value} {rvs : List Value} {nodes : List (Option Node)} {Ds : List (List (Nat × Wish))} {Gh : List (List (Nat × Rw))} {ks : List Int} (Ht : TreeIn w news tv rvs nodes) (R : RAll w news act rvs Ds) (G : ∀ D ∈ Ds, DOk D) (TO : TreeOk Ds nodes Gh) (hk : KeyIn news kv ks) (K : KeyOk ks) (hl : nodes.length ≤ 900) (hz : rvs.length ≤ 800)
    (P0 : PathInv Ds (openRows Ds) ks) (Pso : ∀ f x rows, PathInv Ds rows ks → ROk rows → (f = 3 ∨ f = 4 ∨ f = 7) → x.ok (bitsOf f) → x.holds (keyAt ks f) = true → PathInv Ds (rowsSo f x rows) ks)
    (Pno : ∀ f x rows, PathInv Ds rows ks → ROk rows → (f = 3 ∨ f = 4 ∨ f = 7) → x.ok (bitsOf f) → x.holds (keyAt ks f) = false → PathInv Ds (rowsNot f x rows) ks) :
    Spec w mean mg mb 233 3 [tv, kv] news (fun news' r => ∃ tl, news' = tl ++ news ∧ ∃ n : Int, DatIn news' r (.tuple [natOr (firstOf Ds ks), .int n])) := by
  refine hideG fun PP hPP => ?_
  obtain ⟨x, dx, rl, nl, wl, k1, k2, k3, k4, tm, most, rn, nvs, nn, rfl, m1, m2, m3, m4, Dn⟩ := Ht
  refine hPP ?_
  clear hPP PP
  refine hideG fun PP hPP => ?_
  obtain ⟨kt, kvs, kn, rfl, mk, hI⟩ := hk
  refine hPP ?_
  clear hPP PP
  have hnl := Dn.length
  rw [List.length_map] at hnl
  have hzn : nvs.length ≤ sizeLine := by rw [sizeLine_eq]; omega
  have hzr : rvs.length ≤ sizeLine := by rw [sizeLine_eq]; omega
  have hzk : kvs.length ≤ sizeLine := by rw [hI.length, K.len, sizeLine_eq]; omega
  have nodeAt : ∀ k, k < nodes.length → ∃ v n, nvs[k]? = some v ∧ DatIn news v n.dat ∧ NodeOk Gh k n := fun k hk => by
    refine hideG fun PP hPP => ?_
    obtain ⟨n, e, ok⟩ := TO.nd k hk
    refine hPP ?_
    clear hPP PP
    obtain ⟨v, ev, dv⟩ := all_at Dn (i := k) (d := n.dat) (by rw [List.getElem?_map, e]; rfl)
    exact ⟨v, n, ev, dv, ok⟩
  refine hideG fun PP hPP => ?_
  obtain ⟨v0, n0, hv0, D0, ok0⟩ := nodeAt 0 TO.pos
  refine hPP ?_
  clear hPP PP
  ((refine' spec_intro (by k_is) (by k_is) (by exact rfl) (by exact rfl) (by exact rfl) (by exact rfl) (by exact rfl) (by decide) ?_; k_whole; intro dp' un' gd' fr' envc' outer' A₀' base' g' L' h' ge' dr' os' tk' A9' E9' C' hr' hA' B' X' T' F' N' T' hT'; (try dsimp only [List.map, List.zip, List.zipWith, List.reverse, List.reverseAux] at F'); (try dsimp only); (try k_fold)))
  (k_steps <;> repeat' ((first | with_reducible refine stop_out ?_ | with_reducible show wpAny _ _ _ _ _ _); (first | ((k_here; (with_reducible show wpAny _ _ (subscriptTail _ _ (Value.ref _) (Value.int _ _)) _ _ _); k_dflt (first | (refine' item_list_at (by k_asm) (by k_mem) (by first | exact rfl | assumption) (by assumption) (by first | assumption | (rw [sizeLine_eq]; omega)) ?_ (by with_unfolding_all rfl)) | (refine' item_tup_at (by k_asm) (by k_mem) (by first | exact rfl | assumption) (by assumption) (by first | assumption | (rw [sizeLine_eq]; omega)) ?_ (by with_unfolding_all rfl)) | (refine' item_D (by k_asm) (by assumption) (by walk_at "sub") (by assumption) (by first | assumption | exact rfl) (by assumption) ?_ (by with_unfolding_all rfl) (by (intro _; with_unfolding_all rfl)); intro _ _)))) | ((k_here; (with_reducible show wpAny _ _ (subscriptTail _ _ (Value.ref _) (Value.int _ _)) _ _ _); k_dflt (first | (refine' item_tupK 0 (by exact rfl) (by k_asm) (by k_mem) (by exact rfl) (by first | assumption | (rw [sizeLine_eq]; exact Nat.le_of_ble_eq_true rfl)) ?_ (by with_unfolding_all rfl)) | (refine' item_listK 0 (by exact rfl) (by k_asm) (by k_mem) (by exact rfl) (by first | assumption | (rw [sizeLine_eq]; exact Nat.le_of_ble_eq_true rfl)) ?_ (by with_unfolding_all rfl)) | (refine' item_tupK 1 (by exact rfl) (by k_asm) (by k_mem) (by exact rfl) (by first | assumption | (rw [sizeLine_eq]; exact Nat.le_of_ble_eq_true rfl)) ?_ (by with_unfolding_all rfl)) | (refine' item_listK 1 (by exact rfl) (by k_asm) (by k_mem) (by exact rfl) (by first | assumption | (rw [sizeLine_eq]; exact Nat.le_of_ble_eq_true rfl)) ?_ (by with_unfolding_all rfl)) | (refine' item_tupK 2 (by exact rfl) (by k_asm) (by k_mem) (by exact rfl) (by first | assumption | (rw [sizeLine_eq]; exact Nat.le_of_ble_eq_true rfl)) ?_ (by with_unfolding_all rfl)) | (refine' item_tupK 3 (by exact rfl) (by k_asm) (by k_mem) (by exact rfl) (by first | assumption | (rw [sizeLine_eq]; exact Nat.le_of_ble_eq_true rfl)) ?_ (by with_unfolding_all rfl)) | (refine' item_tupK 4 (by exact rfl) (by k_asm) (by k_mem) (by exact rfl) (by first | assumption | (rw [sizeLine_eq]; exact Nat.le_of_ble_eq_true rfl)) ?_ (by with_unfolding_all rfl))))) | fail "no word"); k_steps))
  all_goals (try (((repeat (first | refine veil (by assumption) ?_ | refine turn_ret ?_ | refine turn_brk ?_ | refine wturn_ret ?_ | refine wturn_brk ?_)); (try dsimp only))))
  refine stop_out ?_
  refine while_rule nodes.length (LkJ news Gh Ds ks nvs nodes.length x kt) (by assumption) ?_ ?_ PassesOwn.never
  · exact ⟨news, nsub (by assumption) (fun p hp => .tail _ hp), 0, openRows Ds, v0, n0, 0, _, rfl, rfl, TO.pos, TO.root, P0, hv0, D0, ok0, rfl, rfl, rfl, rfl⟩
  · rintro kk m₁ nx h tk hJ90 F N TQ hTQ
    refine hideG fun PP hPP => ?_
    obtain ⟨k, rows, v, n, many, t, rfl, hkk, hk, hG, P, hv, Dv, ok, e1, e2, e3, e4⟩ := hJ90
    refine hPP ?_
    clear hPP PP
    have hrok : ROk rows := TO.rok rows (List.mem_of_getElem? hG)
    have EE : AllB m₁ [(Str.ofString "node", v), (Str.ofString "many", .int many t), (Str.ofString "self", .ref x), (Str.ofString "key", .ref kt)] := ⟨e1, e2, e3, e4, trivial⟩
    replace F := renL _ F EE
    cases n with
    | leaf p =>
      have hp : firstOf Ds ks = p := by
        rw [← P.fst]
        cases p with
        | none =>
          have ok : Gh[k]? = some [] := ok
          rw [hG] at ok; cases ok; rfl
        | some p =>
          obtain ⟨rs, ok⟩ := ok
          rw [hG] at ok; cases ok; rfl
      refine hideG fun PP hPP => ?_
      obtain ⟨y, yn, yt, u, rfl, my, Du⟩ := leaf_in Dv
      refine hPP ?_
      clear hPP PP
      (k_steps <;> repeat' ((first | with_reducible refine stop_out ?_ | with_reducible show wpAny _ _ _ _ _ _); (first | ((k_here; (with_reducible show wpAny _ _ (subscriptTail _ _ (Value.ref _) (Value.int _ _)) _ _ _); k_dflt (first | (refine' item_list_at (by k_asm) (by k_mem) (by first | exact rfl | assumption) (by assumption) (by first | assumption | (rw [sizeLine_eq]; omega)) ?_ (by with_unfolding_all rfl)) | (refine' item_tup_at (by k_asm) (by k_mem) (by first | exact rfl | assumption) (by assumption) (by first | assumption | (rw [sizeLine_eq]; omega)) ?_ (by with_unfolding_all rfl)) | (refine' item_D (by k_asm) (by assumption) (by walk_at "sub") (by assumption) (by first | assumption | exact rfl) (by assumption) ?_ (by with_unfolding_all rfl) (by (intro _; with_unfolding_all rfl)); intro _ _)))) | ((k_here; (with_reducible show wpAny _ _ (subscriptTail _ _ (Value.ref _) (Value.int _ _)) _ _ _); k_dflt (first | (refine' item_tupK 0 (by exact rfl) (by k_asm) (by k_mem) (by exact rfl) (by first | assumption | (rw [sizeLine_eq]; exact Nat.le_of_ble_eq_true rfl)) ?_ (by with_unfolding_all rfl)) | (refine' item_listK 0 (by exact rfl) (by k_asm) (by k_mem) (by exact rfl) (by first | assumption | (rw [sizeLine_eq]; exact Nat.le_of_ble_eq_true rfl)) ?_ (by with_unfolding_all rfl)) | (refine' item_tupK 1 (by exact rfl) (by k_asm) (by k_mem) (by exact rfl) (by first | assumption | (rw [sizeLine_eq]; exact Nat.le_of_ble_eq_true rfl)) ?_ (by with_unfolding_all rfl)) | (refine' item_listK 1 (by exact rfl) (by k_asm) (by k_mem) (by exact rfl) (by first | assumption | (rw [sizeLine_eq]; exact Nat.le_of_ble_eq_true rfl)) ?_ (by with_unfolding_all rfl)) | (refine' item_tupK 2 (by exact rfl) (by k_asm) (by k_mem) (by exact rfl) (by first | assumption | (rw [sizeLine_eq]; exact Nat.le_of_ble_eq_true rfl)) ?_ (by with_unfolding_all rfl)) | (refine' item_tupK 3 (by exact rfl) (by k_asm) (by k_mem) (by exact rfl) (by first | assumption | (rw [sizeLine_eq]; exact Nat.le_of_ble_eq_true rfl)) ?_ (by with_unfolding_all rfl)) | (refine' item_tupK 4 (by exact rfl) (by k_asm) (by k_mem) (by exact rfl) (by first | assumption | (rw [sizeLine_eq]; exact Nat.le_of_ble_eq_true rfl)) ?_ (by with_unfolding_all rfl))))) | fail "no word"); k_steps))
      all_goals (try (((repeat (first | refine veil (by assumption) ?_ | refine turn_ret ?_ | refine turn_brk ?_ | refine wturn_ret ?_ | refine wturn_brk ?_)); (try dsimp only))))
      (((try dsimp only); refine ⟨_, _, _, _, rfl, by assumption, by assumption, ?_⟩; (try dsimp only)))
      exact ⟨[_], rfl, many, DatIn.tuple (.head _) (.cons (hp ▸ Du.mono fun p hp => .tail _ hp) (.cons (.int _ _) .nil))⟩
    | list ps =>
      refine hideG fun PP hPP => ?_
      obtain ⟨y, yn, yt, l, ln, lvs, rfl, my, ml2, Dl⟩ := list_in Dv
      refine hPP ?_
      clear hPP PP
      have hzl : lvs.length ≤ sizeLine := by
        refine hideG fun PP hPP => ?_
        obtain ⟨rows', g1, g2⟩ := ok
        refine hPP ?_
        clear hPP PP
        rw [hG] at g1; cases g1
        have := Dl.length
        rw [List.length_map, g2, List.length_map] at this
        have := hrok.len
        rw [sizeLine_eq]; omega
      refine hideG fun PP hPP => ?_
      obtain ⟨rows', g1, rfl⟩ := ok
      refine hPP ?_
      clear hPP PP
      rw [hG] at g1; cases g1
      have hll := Dl.length
      rw [List.length_map, List.length_map] at hll
      (k_steps <;> repeat' ((first | with_reducible refine stop_out ?_ | with_reducible show wpAny _ _ _ _ _ _); (first | ((k_here; (with_reducible show wpAny _ _ (subscriptTail _ _ (Value.ref _) (Value.int _ _)) _ _ _); k_dflt (first | (refine' item_list_at (by k_asm) (by k_mem) (by first | exact rfl | assumption) (by assumption) (by first | assumption | (rw [sizeLine_eq]; omega)) ?_ (by with_unfolding_all rfl)) | (refine' item_tup_at (by k_asm) (by k_mem) (by first | exact rfl | assumption) (by assumption) (by first | assumption | (rw [sizeLine_eq]; omega)) ?_ (by with_unfolding_all rfl)) | (refine' item_D (by k_asm) (by assumption) (by walk_at "sub") (by assumption) (by first | assumption | exact rfl) (by assumption) ?_ (by with_unfolding_all rfl) (by (intro _; with_unfolding_all rfl)); intro _ _)))) | ((k_here; (with_reducible show wpAny _ _ (subscriptTail _ _ (Value.ref _) (Value.int _ _)) _ _ _); k_dflt (first | (refine' item_tupK 0 (by exact rfl) (by k_asm) (by k_mem) (by exact rfl) (by first | assumption | (rw [sizeLine_eq]; exact Nat.le_of_ble_eq_true rfl)) ?_ (by with_unfolding_all rfl)) | (refine' item_listK 0 (by exact rfl) (by k_asm) (by k_mem) (by exact rfl) (by first | assumption | (rw [sizeLine_eq]; exact Nat.le_of_ble_eq_true rfl)) ?_ (by with_unfolding_all rfl)) | (refine' item_tupK 1 (by exact rfl) (by k_asm) (by k_mem) (by exact rfl) (by first | assumption | (rw [sizeLine_eq]; exact Nat.le_of_ble_eq_true rfl)) ?_ (by with_unfolding_all rfl)) | (refine' item_listK 1 (by exact rfl) (by k_asm) (by k_mem) (by exact rfl) (by first | assumption | (rw [sizeLine_eq]; exact Nat.le_of_ble_eq_true rfl)) ?_ (by with_unfolding_all rfl)) | (refine' item_tupK 2 (by exact rfl) (by k_asm) (by k_mem) (by exact rfl) (by first | assumption | (rw [sizeLine_eq]; exact Nat.le_of_ble_eq_true rfl)) ?_ (by with_unfolding_all rfl)) | (refine' item_tupK 3 (by exact rfl) (by k_asm) (by k_mem) (by exact rfl) (by first | assumption | (rw [sizeLine_eq]; exact Nat.le_of_ble_eq_true rfl)) ?_ (by with_unfolding_all rfl)) | (refine' item_tupK 4 (by exact rfl) (by k_asm) (by k_mem) (by exact rfl) (by first | assumption | (rw [sizeLine_eq]; exact Nat.le_of_ble_eq_true rfl)) ?_ (by with_unfolding_all rfl))))) | fail "no word"); k_steps))
      all_goals (try (((repeat (first | refine veil (by assumption) ?_ | refine turn_ret ?_ | refine turn_brk ?_ | refine wturn_ret ?_ | refine wturn_brk ?_)); (try dsimp only))))
      refine stop_out ?_
      refine for_tup (vs := lvs) (nn := ln) rfl (by assumption) (LkK nx rows ks kt x) ?_ ?_ ?_ ?_ PassesOwn.never
      · rintro i m nx ⟨rfl⟩; exact ml2
      · exact ⟨_, by assumption, rfl, fun _ _ h => absurd h (Nat.not_lt_zero _), rfl, rfl, _, _, rfl⟩
      · rintro i v m₁ nx h tk I oI hv hJ90 off F N TQ hTQ
        refine hideG fun PP hPP => ?_
        obtain ⟨rfl, hj, e1, e2, many, t, e3⟩ := hJ90
        refine hPP ?_
        clear hPP PP
        have EE : AllB m₁ [(Str.ofString "key", .ref kt), (Str.ofString "self", .ref x), (Str.ofString "many", .int many t)] := ⟨e1, e2, e3, trivial⟩
        replace F := renL _ F EE
        refine hideG fun PP hPP => ?_
        obtain ⟨p, hp, Dp⟩ := dat_map Dl hv
        refine hPP ?_
        clear hPP PP
        rw [List.getElem?_map] at hp
        refine hideG fun PP hPP => ?_
        obtain ⟨r, hr, rfl⟩ := Option.map_eq_some_iff.mp hp
        refine hPP ?_
        clear hPP PP
        refine hideG fun PP hPP => ?_
        obtain ⟨D, hD, hDr⟩ := P.at_ r (List.mem_of_getElem? hr)
        refine hPP ?_
        clear hPP PP
        refine hideG fun PP hPP => ?_
        obtain ⟨rv, hrv, RD⟩ := R.get hD
        refine hPP ?_
        clear hPP PP
        have GD := G D (List.mem_of_getElem? hD)
        have RD2 := RD
        refine hideG fun PP hPP => ?_
        obtain ⟨xr, dxr, dwr, kr1, kr2, tr, rfl, mr1, mr2, Wr⟩ := RD2
        refine hPP ?_
        clear hPP PP
        cases Dp
        (k_steps <;> repeat' ((first | with_reducible refine stop_out ?_ | with_reducible show wpAny _ _ _ _ _ _); (first | ((k_here; (with_reducible show wpAny _ _ (subscriptTail _ _ (Value.ref _) (Value.int _ _)) _ _ _); k_dflt (first | (refine' item_list_at (by k_asm) (by k_mem) (by first | exact rfl | assumption) (by assumption) (by first | assumption | (rw [sizeLine_eq]; omega)) ?_ (by with_unfolding_all rfl)) | (refine' item_tup_at (by k_asm) (by k_mem) (by first | exact rfl | assumption) (by assumption) (by first | assumption | (rw [sizeLine_eq]; omega)) ?_ (by with_unfolding_all rfl)) | (refine' item_D (by k_asm) (by assumption) (by walk_at "sub") (by assumption) (by first | assumption | exact rfl) (by assumption) ?_ (by with_unfolding_all rfl) (by (intro _; with_unfolding_all rfl)); intro _ _)))) | ((k_here; (with_reducible show wpAny _ _ (subscriptTail _ _ (Value.ref _) (Value.int _ _)) _ _ _); k_dflt (first | (refine' item_tupK 0 (by exact rfl) (by k_asm) (by k_mem) (by exact rfl) (by first | assumption | (rw [sizeLine_eq]; exact Nat.le_of_ble_eq_true rfl)) ?_ (by with_unfolding_all rfl)) | (refine' item_listK 0 (by exact rfl) (by k_asm) (by k_mem) (by exact rfl) (by first | assumption | (rw [sizeLine_eq]; exact Nat.le_of_ble_eq_true rfl)) ?_ (by with_unfolding_all rfl)) | (refine' item_tupK 1 (by exact rfl) (by k_asm) (by k_mem) (by exact rfl) (by first | assumption | (rw [sizeLine_eq]; exact Nat.le_of_ble_eq_true rfl)) ?_ (by with_unfolding_all rfl)) | (refine' item_listK 1 (by exact rfl) (by k_asm) (by k_mem) (by exact rfl) (by first | assumption | (rw [sizeLine_eq]; exact Nat.le_of_ble_eq_true rfl)) ?_ (by with_unfolding_all rfl)) | (refine' item_tupK 2 (by exact rfl) (by k_asm) (by k_mem) (by exact rfl) (by first | assumption | (rw [sizeLine_eq]; exact Nat.le_of_ble_eq_true rfl)) ?_ (by with_unfolding_all rfl)) | (refine' item_tupK 3 (by exact rfl) (by k_asm) (by k_mem) (by exact rfl) (by first | assumption | (rw [sizeLine_eq]; exact Nat.le_of_ble_eq_true rfl)) ?_ (by with_unfolding_all rfl)) | (refine' item_tupK 4 (by exact rfl) (by k_asm) (by k_mem) (by exact rfl) (by first | assumption | (rw [sizeLine_eq]; exact Nat.le_of_ble_eq_true rfl)) ?_ (by with_unfolding_all rfl))))) | fail "no word"); k_steps))
        all_goals (try (((repeat (first | refine veil (by assumption) ?_ | refine turn_ret ?_ | refine turn_brk ?_ | refine wturn_ret ?_ | refine wturn_brk ?_)); (try dsimp only))))
        (rename News _ _ _ _ => N9)
        refine use (s_matches (RD.mono fun p hp => .tail _ hp) GD (KeyIn.mono ⟨kt, kvs, kn, rfl, mk, hI⟩ fun p hp => .tail _ hp) K) (by assumption) (by assumption) N9 (by decide) ?_
        rintro r9 nx' h' tk' F2 N2 ⟨rfl, rfl⟩
        (k_steps <;> repeat' ((first | with_reducible refine stop_out ?_ | with_reducible show wpAny _ _ _ _ _ _); (first | ((k_here; (with_reducible show wpAny _ _ (subscriptTail _ _ (Value.ref _) (Value.int _ _)) _ _ _); k_dflt (first | (refine' item_list_at (by k_asm) (by k_mem) (by first | exact rfl | assumption) (by assumption) (by first | assumption | (rw [sizeLine_eq]; omega)) ?_ (by with_unfolding_all rfl)) | (refine' item_tup_at (by k_asm) (by k_mem) (by first | exact rfl | assumption) (by assumption) (by first | assumption | (rw [sizeLine_eq]; omega)) ?_ (by with_unfolding_all rfl)) | (refine' item_D (by k_asm) (by assumption) (by walk_at "sub") (by assumption) (by first | assumption | exact rfl) (by assumption) ?_ (by with_unfolding_all rfl) (by (intro _; with_unfolding_all rfl)); intro _ _)))) | ((k_here; (with_reducible show wpAny _ _ (subscriptTail _ _ (Value.ref _) (Value.int _ _)) _ _ _); k_dflt (first | (refine' item_tupK 0 (by exact rfl) (by k_asm) (by k_mem) (by exact rfl) (by first | assumption | (rw [sizeLine_eq]; exact Nat.le_of_ble_eq_true rfl)) ?_ (by with_unfolding_all rfl)) | (refine' item_listK 0 (by exact rfl) (by k_asm) (by k_mem) (by exact rfl) (by first | assumption | (rw [sizeLine_eq]; exact Nat.le_of_ble_eq_true rfl)) ?_ (by with_unfolding_all rfl)) | (refine' item_tupK 1 (by exact rfl) (by k_asm) (by k_mem) (by exact rfl) (by first | assumption | (rw [sizeLine_eq]; exact Nat.le_of_ble_eq_true rfl)) ?_ (by with_unfolding_all rfl)) | (refine' item_listK 1 (by exact rfl) (by k_asm) (by k_mem) (by exact rfl) (by first | assumption | (rw [sizeLine_eq]; exact Nat.le_of_ble_eq_true rfl)) ?_ (by with_unfolding_all rfl)) | (refine' item_tupK 2 (by exact rfl) (by k_asm) (by k_mem) (by exact rfl) (by first | assumption | (rw [sizeLine_eq]; exact Nat.le_of_ble_eq_true rfl)) ?_ (by with_unfolding_all rfl)) | (refine' item_tupK 3 (by exact rfl) (by k_asm) (by k_mem) (by exact rfl) (by first | assumption | (rw [sizeLine_eq]; exact Nat.le_of_ble_eq_true rfl)) ?_ (by with_unfolding_all rfl)) | (refine' item_tupK 4 (by exact rfl) (by k_asm) (by k_mem) (by exact rfl) (by first | assumption | (rw [sizeLine_eq]; exact Nat.le_of_ble_eq_true rfl)) ?_ (by with_unfolding_all rfl))))) | fail "no word"); k_steps))
        all_goals (try (((repeat (first | refine veil (by assumption) ?_ | refine turn_ret ?_ | refine turn_brk ?_ | refine wturn_ret ?_ | refine wturn_brk ?_)); (try dsimp only))))
        · have hhit : rowsHold r.2 ks = true := by rw [hDr]; assumption
          have hf : firstOf Ds ks = some r.1 := by rw [← P.fst]; exact row_some hr hhit hj
          (((try dsimp only); refine ⟨_, _, _, _, rfl, by assumption, by assumption, ?_⟩; (try dsimp only)))
          exact ⟨[_, _], rfl, many + 1, DatIn.tuple (.head _) (.cons (by rw [hf]; exact .int _ _) (.cons (.int _ _) .nil))⟩
        · have hno : rowsHold r.2 ks = false := by rw [hDr]; first | assumption | exact Bool.eq_false_iff.mpr (by assumption)
          refine turn_next nx (by assumption) (by assumption) (.head _) (fun p hp => .tail _ hp) off ⟨rfl, step_all (P := fun q : Nat × Rw => rowsHold q.2 ks = false) hj hr hno, rfl, rfl, _, _, rfl⟩
      · rintro m₁ nx h tk hJ90 F N
        refine hideG fun PP hPP => ?_
        obtain ⟨rfl, hj, e1, e2, many, t, e3⟩ := hJ90
        refine hPP ?_
        clear hPP PP
        have EE : AllB m₁ [(Str.ofString "key", .ref kt), (Str.ofString "self", .ref x), (Str.ofString "many", .int many t)] := ⟨e1, e2, e3, trivial⟩
        replace F := renL _ F EE
        have hn : firstOf Ds ks = none := by
          rw [← P.fst]
          exact row_none (done_all (P := fun q : Nat × Rw => rowsHold q.2 ks = false) hj (by omega))
        (k_steps <;> repeat' ((first | with_reducible refine stop_out ?_ | with_reducible show wpAny _ _ _ _ _ _); (first | ((k_here; (with_reducible show wpAny _ _ (subscriptTail _ _ (Value.ref _) (Value.int _ _)) _ _ _); k_dflt (first | (refine' item_list_at (by k_asm) (by k_mem) (by first | exact rfl | assumption) (by assumption) (by first | assumption | (rw [sizeLine_eq]; omega)) ?_ (by with_unfolding_all rfl)) | (refine' item_tup_at (by k_asm) (by k_mem) (by first | exact rfl | assumption) (by assumption) (by first | assumption | (rw [sizeLine_eq]; omega)) ?_ (by with_unfolding_all rfl)) | (refine' item_D (by k_asm) (by assumption) (by walk_at "sub") (by assumption) (by first | assumption | exact rfl) (by assumption) ?_ (by with_unfolding_all rfl) (by (intro _; with_unfolding_all rfl)); intro _ _)))) | ((k_here; (with_reducible show wpAny _ _ (subscriptTail _ _ (Value.ref _) (Value.int _ _)) _ _ _); k_dflt (first | (refine' item_tupK 0 (by exact rfl) (by k_asm) (by k_mem) (by exact rfl) (by first | assumption | (rw [sizeLine_eq]; exact Nat.le_of_ble_eq_true rfl)) ?_ (by with_unfolding_all rfl)) | (refine' item_listK 0 (by exact rfl) (by k_asm) (by k_mem) (by exact rfl) (by first | assumption | (rw [sizeLine_eq]; exact Nat.le_of_ble_eq_true rfl)) ?_ (by with_unfolding_all rfl)) | (refine' item_tupK 1 (by exact rfl) (by k_asm) (by k_mem) (by exact rfl) (by first | assumption | (rw [sizeLine_eq]; exact Nat.le_of_ble_eq_true rfl)) ?_ (by with_unfolding_all rfl)) | (refine' item_listK 1 (by exact rfl) (by k_asm) (by k_mem) (by exact rfl) (by first | assumption | (rw [sizeLine_eq]; exact Nat.le_of_ble_eq_true rfl)) ?_ (by with_unfolding_all rfl)) | (refine' item_tupK 2 (by exact rfl) (by k_asm) (by k_mem) (by exact rfl) (by first | assumption | (rw [sizeLine_eq]; exact Nat.le_of_ble_eq_true rfl)) ?_ (by with_unfolding_all rfl)) | (refine' item_tupK 3 (by exact rfl) (by k_asm) (by k_mem) (by exact rfl) (by first | assumption | (rw [sizeLine_eq]; exact Nat.le_of_ble_eq_true rfl)) ?_ (by with_unfolding_all rfl)) | (refine' item_tupK 4 (by exact rfl) (by k_asm) (by k_mem) (by exact rfl) (by first | assumption | (rw [sizeLine_eq]; exact Nat.le_of_ble_eq_true rfl)) ?_ (by with_unfolding_all rfl))))) | fail "no word"); k_steps))
        all_goals (try (((repeat (first | refine veil (by assumption) ?_ | refine turn_ret ?_ | refine turn_brk ?_ | refine wturn_ret ?_ | refine wturn_brk ?_)); (try dsimp only))))
        (((try dsimp only); refine ⟨_, _, _, _, rfl, by assumption, by assumption, ?_⟩; (try dsimp only)))
        exact ⟨[_], rfl, many, DatIn.tuple (.head _) (.cons (by rw [hn]; exact .none) (.cons (.int _ _) .nil))⟩
    | ask f xw yes no =>
      refine hideG fun PP hPP => ?_
      obtain ⟨y, yn, yt, tf, tyes, tno, u, rfl, my, Du⟩ := ask_in Dv
      refine hPP ?_
      clear hPP PP
      refine hideG fun PP hPP => ?_
      obtain ⟨o1, o2, o3, o4, hf, hxo, rows', g1, g2, g3⟩ := ok
      refine hPP ?_
      clear hPP PP
      rw [hG] at g1; cases g1
      refine hideG fun PP hPP => ?_
      obtain ⟨tk2, hkx, hpos⟩ := key_get hI K hf
      refine hPP ?_
      clear hPP PP
      have hly : yes < nodes.length := by rw [← TO.len]; exact o3
      have hln : no < nodes.length := by rw [← TO.len]; exact o4
      refine hideG fun PP hPP => ?_
      obtain ⟨vy, ny, hvy, Dy, oky⟩ := nodeAt yes hly
      refine hPP ?_
      clear hPP PP
      refine hideG fun PP hPP => ?_
      obtain ⟨vn, nno, hvn, Dno, okn⟩ := nodeAt no hln
      refine hPP ?_
      clear hPP PP
      (k_steps <;> repeat' ((first | with_reducible refine stop_out ?_ | with_reducible show wpAny _ _ _ _ _ _); (first | ((k_here; (with_reducible show wpAny _ _ (subscriptTail _ _ (Value.ref _) (Value.int _ _)) _ _ _); k_dflt (first | (refine' item_list_at (by k_asm) (by k_mem) (by first | exact rfl | assumption) (by assumption) (by first | assumption | (rw [sizeLine_eq]; omega)) ?_ (by with_unfolding_all rfl)) | (refine' item_tup_at (by k_asm) (by k_mem) (by first | exact rfl | assumption) (by assumption) (by first | assumption | (rw [sizeLine_eq]; omega)) ?_ (by with_unfolding_all rfl)) | (refine' item_D (by k_asm) (by assumption) (by walk_at "sub") (by assumption) (by first | assumption | exact rfl) (by assumption) ?_ (by with_unfolding_all rfl) (by (intro _; with_unfolding_all rfl)); intro _ _)))) | ((k_here; (with_reducible show wpAny _ _ (subscriptTail _ _ (Value.ref _) (Value.int _ _)) _ _ _); k_dflt (first | (refine' item_tupK 0 (by exact rfl) (by k_asm) (by k_mem) (by exact rfl) (by first | assumption | (rw [sizeLine_eq]; exact Nat.le_of_ble_eq_true rfl)) ?_ (by with_unfolding_all rfl)) | (refine' item_listK 0 (by exact rfl) (by k_asm) (by k_mem) (by exact rfl) (by first | assumption | (rw [sizeLine_eq]; exact Nat.le_of_ble_eq_true rfl)) ?_ (by with_unfolding_all rfl)) | (refine' item_tupK 1 (by exact rfl) (by k_asm) (by k_mem) (by exact rfl) (by first | assumption | (rw [sizeLine_eq]; exact Nat.le_of_ble_eq_true rfl)) ?_ (by with_unfolding_all rfl)) | (refine' item_listK 1 (by exact rfl) (by k_asm) (by k_mem) (by exact rfl) (by first | assumption | (rw [sizeLine_eq]; exact Nat.le_of_ble_eq_true rfl)) ?_ (by with_unfolding_all rfl)) | (refine' item_tupK 2 (by exact rfl) (by k_asm) (by k_mem) (by exact rfl) (by first | assumption | (rw [sizeLine_eq]; exact Nat.le_of_ble_eq_true rfl)) ?_ (by with_unfolding_all rfl)) | (refine' item_tupK 3 (by exact rfl) (by k_asm) (by k_mem) (by exact rfl) (by first | assumption | (rw [sizeLine_eq]; exact Nat.le_of_ble_eq_true rfl)) ?_ (by with_unfolding_all rfl)) | (refine' item_tupK 4 (by exact rfl) (by k_asm) (by k_mem) (by exact rfl) (by first | assumption | (rw [sizeLine_eq]; exact Nat.le_of_ble_eq_true rfl)) ?_ (by with_unfolding_all rfl))))) | fail "no word"); k_steps))
      all_goals (try (((repeat (first | refine veil (by assumption) ?_ | refine turn_ret ?_ | refine turn_brk ?_ | refine wturn_ret ?_ | refine wturn_brk ?_)); (try dsimp only))))
      (rename News _ _ _ _ => N9)
      refine use (s_wish_holds Du hpos) (by assumption) (by assumption) N9 (by decide) ?_
      rintro r nx' h' tk' F2 N2 ⟨rfl, rfl⟩
      (k_steps <;> repeat' ((first | with_reducible refine stop_out ?_ | with_reducible show wpAny _ _ _ _ _ _); (first | ((k_here; (with_reducible show wpAny _ _ (subscriptTail _ _ (Value.ref _) (Value.int _ _)) _ _ _); k_dflt (first | (refine' item_list_at (by k_asm) (by k_mem) (by first | exact rfl | assumption) (by assumption) (by first | assumption | (rw [sizeLine_eq]; omega)) ?_ (by with_unfolding_all rfl)) | (refine' item_tup_at (by k_asm) (by k_mem) (by first | exact rfl | assumption) (by assumption) (by first | assumption | (rw [sizeLine_eq]; omega)) ?_ (by with_unfolding_all rfl)) | (refine' item_D (by k_asm) (by assumption) (by walk_at "sub") (by assumption) (by first | assumption | exact rfl) (by assumption) ?_ (by with_unfolding_all rfl) (by (intro _; with_unfolding_all rfl)); intro _ _)))) | ((k_here; (with_reducible show wpAny _ _ (subscriptTail _ _ (Value.ref _) (Value.int _ _)) _ _ _); k_dflt (first | (refine' item_tupK 0 (by exact rfl) (by k_asm) (by k_mem) (by exact rfl) (by first | assumption | (rw [sizeLine_eq]; exact Nat.le_of_ble_eq_true rfl)) ?_ (by with_unfolding_all rfl)) | (refine' item_listK 0 (by exact rfl) (by k_asm) (by k_mem) (by exact rfl) (by first | assumption | (rw [sizeLine_eq]; exact Nat.le_of_ble_eq_true rfl)) ?_ (by with_unfolding_all rfl)) | (refine' item_tupK 1 (by exact rfl) (by k_asm) (by k_mem) (by exact rfl) (by first | assumption | (rw [sizeLine_eq]; exact Nat.le_of_ble_eq_true rfl)) ?_ (by with_unfolding_all rfl)) | (refine' item_listK 1 (by exact rfl) (by k_asm) (by k_mem) (by exact rfl) (by first | assumption | (rw [sizeLine_eq]; exact Nat.le_of_ble_eq_true rfl)) ?_ (by with_unfolding_all rfl)) | (refine' item_tupK 2 (by exact rfl) (by k_asm) (by k_mem) (by exact rfl) (by first | assumption | (rw [sizeLine_eq]; exact Nat.le_of_ble_eq_true rfl)) ?_ (by with_unfolding_all rfl)) | (refine' item_tupK 3 (by exact rfl) (by k_asm) (by k_mem) (by exact rfl) (by first | assumption | (rw [sizeLine_eq]; exact Nat.le_of_ble_eq_true rfl)) ?_ (by with_unfolding_all rfl)) | (refine' item_tupK 4 (by exact rfl) (by k_asm) (by k_mem) (by exact rfl) (by first | assumption | (rw [sizeLine_eq]; exact Nat.le_of_ble_eq_true rfl)) ?_ (by with_unfolding_all rfl))))) | fail "no word"); k_steps))
      all_goals (try (((repeat (first | refine veil (by assumption) ?_ | refine turn_ret ?_ | refine turn_brk ?_ | refine wturn_ret ?_ | refine wturn_brk ?_)); (try dsimp only))))
      · exact ⟨nodes.length - yes, _, _, _, _, by omega, rfl, by assumption, by assumption, yes, _, vy, ny, _, _, rfl, by omega, hly, g2, Pso f xw rows P hrok hf hxo (by assumption), hvy, Dy, oky, rfl, rfl, rfl, rfl⟩
      · exact ⟨nodes.length - no, _, _, _, _, by omega, rfl, by assumption, by assumption, no, _, vn, nno, _, _, rfl, by omega, hln, g3, Pno f xw rows P hrok hf hxo (by first | assumption | exact Bool.eq_false_iff.mpr (by assumption)), hvn, Dno, okn, rfl, rfl, rfl, rfl⟩
end
section
theorem off_I2 : True := by w_top off; trivial
variable {w : World} {mean : ExcName → Option Value} {mg mb : Str → Option Value} {news : List (Addr × Obj)}
theorem key_good {a b : Int} (h1 : 0 ≤ a ∧ a < 8) (h2 : b = -1 ∨ (0 ≤ b ∧ b < 256)) : KeyOk [1, 2, 3, 77, a, 5, 6, b, 7, 8] ∧ KeyB [1, 2, 3, 77, a, 5, 6, b, 7, 8] := by
  refine ⟨⟨rfl, fun k hk => ?_⟩, fun p hp => ?_⟩
  · simp only [List.mem_cons, List.not_mem_nil, or_false] at hk
    omega
  · rcases hp with rfl | rfl | rfl
    · exact .inr ⟨show (0 : Int) ≤ 77 by decide, show (77 : Int) < ((2 ^ bitsOf 3 : Nat) : Int) by decide⟩
    · exact .inr ⟨h1.1, h1.2⟩
    · exact h2
def GoodKey (news : List (Addr × Obj)) (kv : Value) : Prop := ∃ ks, KeyIn news kv ks ∧ KeyOk ks ∧ KeyB ks
theorem GoodKey.mono {a b : List (Addr × Obj)} {v : Value} (h : GoodKey a v) (hs : ∀ p ∈ a, p ∈ b) : GoodKey b v := let ⟨ks, k, o⟩ := h; ⟨ks, k.mono hs, o⟩
theorem ints_mem {vs : List Value} {ns : List Int} {v : Value} {i : Nat} (h : IntsAre vs ns) (e : vs[i]? = some v) : ∃ k t, v = .int k t ∧ k ∈ ns := by
  obtain ⟨k, t, h1, h2⟩ := ints_at h e
  exact ⟨k, t, h2, List.mem_of_getElem? h1⟩
theorem s_law_keys : Spec w mean mg mb 308 2 [] news (fun news' r => ∃ tl l n kvs, news' = tl ++ news ∧ r = .ref l ∧ (l, lstO kvs n) ∈ news' ∧ kvs.length = 36 ∧ ∀ kv ∈ kvs, GoodKey news' kv) := by
  ((refine' spec_intro (by k_is) (by k_is) (by exact rfl) (by exact rfl) (by exact rfl) (by exact rfl) (by exact rfl) (by decide) ?_; k_whole; intro dp' un' gd' fr' envc' outer' A₀' base' g' L' h' ge' dr' os' tk' A9' E9' C' hr' hA' B' X' T' F' N' T' hT'; (try dsimp only [List.map, List.zip, List.zipWith, List.reverse, List.reverseAux] at F'); (try dsimp only); (try k_fold)))
  k_steps
  all_goals (try (((repeat (first | refine veil (by assumption) ?_ | refine turn_ret ?_ | refine turn_brk ?_ | refine wturn_ret ?_ | refine wturn_brk ?_)); (try dsimp only))))
  refine stop_out ?_
  refine ListComp_2 (by assumption) rfl (by with_unfolding_all rfl) (by decide) (by rfl) (by decide) (by rfl) (fun C v => by with_unfolding_all rfl) ?_
  k_steps
  all_goals (try (((repeat (first | refine veil (by assumption) ?_ | refine turn_ret ?_ | refine turn_brk ?_ | refine wturn_ret ?_ | refine wturn_brk ?_)); (try dsimp only))))
  refine stop_out ?_
  rename_i ax hA F9 N9 lt9
  obtain ⟨vs, hvl, hvi, N9⟩ : ∃ vs : List Value, vs.length = 6 ∧ IntsAre vs [0, 1, 3, 4, 6, 7] ∧ News _ _ _ ((ax, lstO vs 0) :: news) := ⟨[_, _, _, _, _, _], rfl, .cons _ _ (.cons _ _ (.cons _ _ (.cons _ _ (.cons _ _ (.cons _ _ .nil))))), N9⟩
  refine ⟨ax, vs, 0, (ax, lstO vs 0) :: news, fun i ys nx => ∃ tl, nx = tl ++ (ax, lstO vs 0) :: news ∧ ys.length = 6 * i ∧ ∀ kv ∈ ys, GoodKey nx kv, rfl, F9, N9, ?_, ?_, ?_, ?_⟩
  · rintro i ys nx ⟨tl, rfl, _⟩; exact List.mem_append_right _ (.head _)
  · exact ⟨[], rfl, rfl, fun _ h => nomatch h⟩
  · rintro i ys nx v I oI C oC D m₂ h tk E' E'' hv hJ90 hoC hm2 F N off hJ91
    refine hideG fun PP hPP => ?_
    obtain ⟨tl, rfl, hyl, hyk⟩ := hJ90
    obtain ⟨ne1, ne2, ne3⟩ := hJ91
    refine hPP ?_
    clear hPP PP
    refine hideG fun PP hPP => ?_
    obtain ⟨k1, t1, rfl, hk1⟩ := ints_mem hvi hv
    refine hPP ?_
    clear hPP PP
    have hi : i < 6 := by have := (List.getElem?_eq_some_iff.mp hv).1; omega
    k_steps
    all_goals (try (((repeat (first | refine veil (by assumption) ?_ | refine turn_ret ?_ | refine turn_brk ?_ | refine wturn_ret ?_ | refine wturn_brk ?_)); (try dsimp only))))
    rename_i bx hB F8 N8 lt8
    obtain ⟨us, hul, hui, N8⟩ : ∃ us : List Value, us.length = 6 ∧ IntsAre us [0, 1, 6, 17, 128, -1] ∧ News _ _ _ ((bx, lstO us 0) :: (I, oI) :: (C, oC) :: (D, LCg.lst ys) :: (tl ++ (ax, lstO vs 0) :: news)) := ⟨[_, _, _, _, _, _], rfl, .cons _ _ (.cons _ _ (.cons _ _ (.cons _ _ (.cons _ _ (.cons _ _ .nil))))), N8⟩
    generalize hR : tl ++ (ax, lstO vs 0) :: news = rest at *
    have bI : @Ne Nat bx I := Nat.ne_of_gt lt8.1
    refine stop_out ?_
    refine inner2 (us := us) (un := 0) (oC := oC) (m₀ := m₂) (ys0 := ys) (nx0 := (I, oI) :: (bx, lstO us 0) :: rest) (J := fun j ys' nxx => ∃ tl2, nxx = tl2 ++ (I, oI) :: (bx, lstO us 0) :: rest ∧ (∀ p ∈ tl2, p.1 ≠ I) ∧ ys'.length = 6 * i + j ∧ (∀ kv ∈ ys', GoodKey (tl2 ++ (bx, lstO us 0) :: rest) kv) ∧ j ≤ 6) rfl (by rfl) (by rfl) F8 (nsub N8 ?_) hoC ?_ ne3 ?_ ?_ ?_ ?_
    · intro p hp
      simp only [List.mem_cons] at hp ⊢
      rcases hp with h | h | h | h | h <;> simp [h]
    · exact List.forall_mem_cons.mpr ⟨⟨ne1, ne2⟩, List.forall_mem_cons.mpr ⟨⟨Nat.ne_of_gt lt8.2.1, Nat.ne_of_gt lt8.2.2.1⟩, fun p hp => (off p hp).2⟩⟩
    · rintro j ys' nxx hJ90
      refine hideG fun PP hPP => ?_
      obtain ⟨tl2, rfl, _, hl2, _, hj6⟩ := hJ90
      refine hPP ?_
      clear hPP PP
      exact ⟨List.mem_append_right _ (.tail _ (.head _)), by rw [hl2, sizeLine_eq]; omega⟩
    · exact ⟨[], rfl, (fun _ h => nomatch h), hyl, fun kv hkv => (hyk kv hkv).mono fun p hp => .tail _ hp, by omega⟩
    · rintro j ys' nxx v2 I2 oI2 oC2 m₃ h tk E3 hv2 hJ90 hoC2 hm3 hrest F N off2 hJ91
      refine hideG fun PP hPP => ?_
      obtain ⟨tl2, rfl, ho2, hyl2, hyk2, hj6⟩ := hJ90
      obtain ⟨q1, q2, q3⟩ := hJ91
      refine hPP ?_
      clear hPP PP
      refine hideG fun PP hPP => ?_
      obtain ⟨k2, t2, rfl, hk2⟩ := ints_mem hui hv2
      refine hPP ?_
      clear hPP PP
      have hj : j < 6 := by have := (List.getElem?_eq_some_iff.mp hv2).1; omega
      have hx1 : m₃ (Str.ofString "first") = some (.int k1 t1) := (hrest _ (by decide)).trans hm2
      k_steps
      all_goals (try (((repeat (first | refine veil (by assumption) ?_ | refine turn_ret ?_ | refine turn_brk ?_ | refine wturn_ret ?_ | refine wturn_brk ?_)); (try dsimp only))))
      rename_i T hT F7 N7 lt7
      obtain ⟨kvs, hkv, N7⟩ : ∃ kvs : List Value, IntsAre kvs [1, 2, 3, 77, k1, 5, 6, k2, 7, 8] ∧ News _ _ _ ((T, tupO kvs 0) :: (I2, oI2) :: (C, oC2) :: (D, LCg.lst ys') :: (tl2 ++ (I, oI) :: (bx, lstO us 0) :: rest)) := ⟨[_, _, _, _, _, _, _, _, _, _], .cons _ _ (.cons _ _ (.cons _ _ (.cons _ _ (.cons _ _ (.cons _ _ (.cons _ _ (.cons _ _ (.cons _ _ (.cons _ _ .nil))))))))), N7⟩
      have hg := key_good (a := k1) (b := k2) (by simp only [List.mem_cons, List.not_mem_nil, or_false] at hk1; omega) (by simp only [List.mem_cons, List.not_mem_nil, or_false] at hk2; omega)
      refine cturn_add (tl := []) F7 N7 (allLt_mem (show AllLt T (_ :: _ :: _ :: _) from ⟨lt7.1, lt7.2.1, lt7.2.2.1, lt7.2.2.2⟩)) (fun _ h => nomatch h) off2 ⟨(T, tupO kvs 0) :: tl2, rfl, List.forall_mem_cons.mpr ⟨Nat.ne_of_gt (allLt_mem lt7.2.2.2 (I, oI) (List.mem_append_right _ (.head _))), ho2⟩, by rw [List.length_append, List.length_singleton]; omega, ?_, by omega⟩
      intro kv hkm
      rcases List.mem_append.mp hkm with hkm | hkm
      · exact (hyk2 kv hkm).mono fun p hp => .tail _ hp
      · rw [List.mem_singleton.mp hkm]
        exact ⟨_, ⟨T, kvs, 0, rfl, .head _, hkv⟩, hg⟩
    · rintro h tk oC3 m₃ ys' nxx hoC3 hm3 F N off3 hJ90
      refine hideG fun PP hPP => ?_
      obtain ⟨tl2, rfl, ho2, hyl2, hyk2, _⟩ := hJ90
      refine hPP ?_
      clear hPP PP
      refine ⟨h, tk, oC3, m₃, ys', tl2 ++ (bx, lstO us 0) :: rest, _, rfl, F, N, .tail _ (.tail _ (List.mem_append_right _ (.head _))), .head _, hoC3, .tail _ (.head _), ?_, ?_, ⟨tl2 ++ (bx, lstO us 0) :: tl, by rw [← hR]; simp, by omega, hyk2⟩⟩
      · intro p hp
        simp only [List.mem_cons, List.mem_append] at hp ⊢
        rcases hp with h | h | h <;> simp [h]
      · intro p hp
        refine ⟨?_, off3 p ?_⟩
        · rcases List.mem_append.mp hp with hp | hp
          · exact ho2 p hp
          · rcases List.mem_cons.mp hp with rfl | hp
            · exact bI
            · exact (off p hp).1
        · simp only [List.mem_cons, List.mem_append] at hp ⊢
          rcases hp with h | h | h <;> simp [h]
  · rintro D h tk ys nx hJ90 F N off
    refine hideG fun PP hPP => ?_
    obtain ⟨tl, rfl, hyl, hyk⟩ := hJ90
    refine hPP ?_
    clear hPP PP
    (try (((repeat (first | refine veil (by assumption) ?_ | refine turn_ret ?_ | refine turn_brk ?_ | refine wturn_ret ?_ | refine wturn_brk ?_)); (try dsimp only))))
    exact ⟨_, _, (D, LCg.lst ys) :: (tl ++ (ax, lstO vs 0) :: news), _, rfl, F, N, (D, LCg.lst ys) :: (tl ++ [(ax, lstO vs 0)]), D, _, ys, by simp, rfl, .head _, by omega, fun kv hkv => (hyk kv hkv).mono fun p hp => .tail _ hp⟩
end
section
theorem off_I3 : True := by w_top off; trivial
variable {w : World} {mean : ExcName → Option Value} {mg mb : Str → Option Value} {news : List (Addr × Obj)}
local macro_rules | `(tactic| walk_at "subscriptTail Call") => `(tactic| (k_here; refine stop_in ?_))
theorem pair_in {v : Value} {a b : Dat} (h : DatIn news v (.tuple [a, b])) : ∃ y n v0 v1, v = .ref y ∧ (y, tupO [v0, v1] n) ∈ news ∧ DatIn news v0 a ∧ DatIn news v1 b := by
  cases h with | tuple m q => cases q with | cons x1 q => cases q with | cons x2 q => cases q; exact ⟨_, _, _, _, rfl, m, x1, x2⟩
theorem TreeIn.mono {w : World} {a b : List (Addr × Obj)} {v : Value} {rvs : List Value} {nodes : List (Option Node)} (h : TreeIn w a v rvs nodes) (hs : ∀ p ∈ a, p ∈ b) : TreeIn w b v rvs nodes := by
  obtain ⟨x, dx, rl, nl, wl, k1, k2, k3, k4, tm, most, rn, nvs, nn, rfl, m1, m2, m3, m4, Dn⟩ := h
  exact ⟨x, dx, rl, nl, wl, k1, k2, k3, k4, tm, most, rn, nvs, nn, rfl, hs _ m1, hs _ m2, hs _ m3, hs _ m4, Dn.mono hs⟩
theorem s_law_tree_right {act : Str} {rl : Addr} {rvs : List Value} {rn most : Nat} {tm : Tok} {Ds : List (List (Nat × Wish))} (ml : (rl, lstO rvs rn) ∈ news) (R : RAll w news act rvs Ds) (G : ∀ D ∈ Ds, DOk D) (hz : rvs.length ≤ 800) (hm1 : 1 ≤ most) (hmo : most ≤ 800) :
    Spec w mean mg mb 313 10 [.ref rl, .int (most : Nat) tm] news (fun news' r => (∃ tl, news' = tl ++ news) ∧ r = .bool true) := by
  ((refine' spec_introC (by k_is) (by k_is) (by exact rfl) (by exact rfl) (by decide +kernel) (by exact rfl) (by exact rfl) (by exact rfl) ?_; k_whole; intro dp' un' gd' fr' envc' outer' A₀' base' g' Lc hc0 ge' dr' os' tk0 cells' A9' E9' Cc hrc hAc Bc Xc Tc Fc Nc Y' l1 TQ hTQ; k_cells Y'; (try simp only [List.cons_append, List.nil_append] at Nc); (try dsimp only); (try k_fold)))
  rename_i o1 o2 d1 d2
  (k_steps <;> repeat' ((first | with_reducible refine stop_out ?_ | with_reducible show wpAny _ _ _ _ _ _); (first | ((k_here; (with_reducible show wpAny _ _ (call (Value.builtin "len") [Value.ref _]) _ _ _); k_dflt (refine' len_lst (by k_asm) (by k_mem) (by first | assumption | (rw [sizeLine_eq]; omega) | (rw [sizeLine_eq]; exact Nat.le_of_ble_eq_true rfl)) ?_))) | ((k_here; (with_reducible show wpAny _ _ (subscriptTail _ _ (Value.ref _) (Value.int _ _)) _ _ _); k_dflt (first | (refine' item_tupK 0 (by exact rfl) (by k_asm) (by k_mem) (by exact rfl) (by first | assumption | (rw [sizeLine_eq]; exact Nat.le_of_ble_eq_true rfl)) ?_ (by with_unfolding_all rfl)) | (refine' item_listK 0 (by exact rfl) (by k_asm) (by k_mem) (by exact rfl) (by first | assumption | (rw [sizeLine_eq]; exact Nat.le_of_ble_eq_true rfl)) ?_ (by with_unfolding_all rfl)) | (refine' item_tupK 1 (by exact rfl) (by k_asm) (by k_mem) (by exact rfl) (by first | assumption | (rw [sizeLine_eq]; exact Nat.le_of_ble_eq_true rfl)) ?_ (by with_unfolding_all rfl)) | (refine' item_listK 1 (by exact rfl) (by k_asm) (by k_mem) (by exact rfl) (by first | assumption | (rw [sizeLine_eq]; exact Nat.le_of_ble_eq_true rfl)) ?_ (by with_unfolding_all rfl)) | (refine' item_tupK 2 (by exact rfl) (by k_asm) (by k_mem) (by exact rfl) (by first | assumption | (rw [sizeLine_eq]; exact Nat.le_of_ble_eq_true rfl)) ?_ (by with_unfolding_all rfl)) | (refine' item_tupK 3 (by exact rfl) (by k_asm) (by k_mem) (by exact rfl) (by first | assumption | (rw [sizeLine_eq]; exact Nat.le_of_ble_eq_true rfl)) ?_ (by with_unfolding_all rfl)) | (refine' item_tupK 4 (by exact rfl) (by k_asm) (by k_mem) (by exact rfl) (by first | assumption | (rw [sizeLine_eq]; exact Nat.le_of_ble_eq_true rfl)) ?_ (by with_unfolding_all rfl))))) | fail "no word"); k_steps))
  all_goals (try (((repeat (first | refine veil (by assumption) ?_ | refine turn_ret ?_ | refine turn_brk ?_ | refine wturn_ret ?_ | refine wturn_brk ?_)); (try dsimp only))))
  have a1 : ∀ p ∈ news, p.1 ≠ Lc + 1 + 1 := fun p hp => Nat.ne_of_lt (Nat.lt_trans (l1 p hp) (by omega))
  have a2 : ∀ p ∈ news, p.1 ≠ Lc + 1 := fun p hp => Nat.ne_of_lt (Nat.lt_trans (l1 p hp) (by omega))
  refine useF (tm := [(Lc + 1 + 1, o1), (Lc + 1, o2)]) (news := news) (s_AclTree ml R G hz hmo) (by assumption) (by assumption) (by assumption) (offP a1 a2) (by decide) ?_
  rintro r8 nx8 h8 tk8 F1 N1 oo hJ90
  refine hideG fun PP hPP => ?_
  obtain ⟨tl1, nodes, rfl, TI, RE⟩ := hJ90
  refine hPP ?_
  clear hPP PP
  have p1 := onP1 oo
  have p2 := onP2 oo
  replace N1 : News _ _ _ ((Lc + 1 + 1, o1) :: (Lc + 1, o2) :: (tl1 ++ news)) := N1
  clear oo Nc
  have TI2 := TI
  refine hideG fun PP hPP => ?_
  obtain ⟨x, dx, rl', nl, wl, k1, k2, k3, k4, tm', most', rn', nvs, nn, rfl, m1, m2, m3, m4, Dn⟩ := TI2
  refine hPP ?_
  clear hPP PP
  have hnl := Dn.length
  rw [List.length_map] at hnl
  have ST := stOk_of G (by rw [← R.length]; omega) RE
  have hodd := tree_odd RE
  have hlen := ST.len
  obtain ⟨Gh, TO⟩ := tree_ok G (by rw [← R.length]; omega) RE
  have hzn : nvs.length ≤ sizeLine := by rw [sizeLine_eq]; omega
  (k_steps <;> repeat' ((first | with_reducible refine stop_out ?_ | with_reducible show wpAny _ _ _ _ _ _); (first | ((k_here; (with_reducible show wpAny _ _ (call (Value.builtin "len") [Value.ref _]) _ _ _); k_dflt (refine' len_lst (by k_asm) (by k_mem) (by first | assumption | (rw [sizeLine_eq]; omega) | (rw [sizeLine_eq]; exact Nat.le_of_ble_eq_true rfl)) ?_))) | ((k_here; (with_reducible show wpAny _ _ (subscriptTail _ _ (Value.ref _) (Value.int _ _)) _ _ _); k_dflt (first | (refine' item_tupK 0 (by exact rfl) (by k_asm) (by k_mem) (by exact rfl) (by first | assumption | (rw [sizeLine_eq]; exact Nat.le_of_ble_eq_true rfl)) ?_ (by with_unfolding_all rfl)) | (refine' item_listK 0 (by exact rfl) (by k_asm) (by k_mem) (by exact rfl) (by first | assumption | (rw [sizeLine_eq]; exact Nat.le_of_ble_eq_true rfl)) ?_ (by with_unfolding_all rfl)) | (refine' item_tupK 1 (by exact rfl) (by k_asm) (by k_mem) (by exact rfl) (by first | assumption | (rw [sizeLine_eq]; exact Nat.le_of_ble_eq_true rfl)) ?_ (by with_unfolding_all rfl)) | (refine' item_listK 1 (by exact rfl) (by k_asm) (by k_mem) (by exact rfl) (by first | assumption | (rw [sizeLine_eq]; exact Nat.le_of_ble_eq_true rfl)) ?_ (by with_unfolding_all rfl)) | (refine' item_tupK 2 (by exact rfl) (by k_asm) (by k_mem) (by exact rfl) (by first | assumption | (rw [sizeLine_eq]; exact Nat.le_of_ble_eq_true rfl)) ?_ (by with_unfolding_all rfl)) | (refine' item_tupK 3 (by exact rfl) (by k_asm) (by k_mem) (by exact rfl) (by first | assumption | (rw [sizeLine_eq]; exact Nat.le_of_ble_eq_true rfl)) ?_ (by with_unfolding_all rfl)) | (refine' item_tupK 4 (by exact rfl) (by k_asm) (by k_mem) (by exact rfl) (by first | assumption | (rw [sizeLine_eq]; exact Nat.le_of_ble_eq_true rfl)) ?_ (by with_unfolding_all rfl))))) | fail "no word"); k_steps))
  all_goals (try (((repeat (first | refine veil (by assumption) ?_ | refine turn_ret ?_ | refine turn_brk ?_ | refine wturn_ret ?_ | refine wturn_brk ?_)); (try dsimp only))))
  · (rename Fr _ _ _ _ => F9)
    (rename News _ _ _ _ => N9)
    (k_steps <;> repeat' ((first | with_reducible refine stop_out ?_ | with_reducible show wpAny _ _ _ _ _ _); (first | ((k_here; (with_reducible show wpAny _ _ (call (Value.builtin "len") [Value.ref _]) _ _ _); k_dflt (refine' len_lst (by k_asm) (by k_mem) (by first | assumption | (rw [sizeLine_eq]; omega) | (rw [sizeLine_eq]; exact Nat.le_of_ble_eq_true rfl)) ?_))) | ((k_here; (with_reducible show wpAny _ _ (subscriptTail _ _ (Value.ref _) (Value.int _ _)) _ _ _); k_dflt (first | (refine' item_tupK 0 (by exact rfl) (by k_asm) (by k_mem) (by exact rfl) (by first | assumption | (rw [sizeLine_eq]; exact Nat.le_of_ble_eq_true rfl)) ?_ (by with_unfolding_all rfl)) | (refine' item_listK 0 (by exact rfl) (by k_asm) (by k_mem) (by exact rfl) (by first | assumption | (rw [sizeLine_eq]; exact Nat.le_of_ble_eq_true rfl)) ?_ (by with_unfolding_all rfl)) | (refine' item_tupK 1 (by exact rfl) (by k_asm) (by k_mem) (by exact rfl) (by first | assumption | (rw [sizeLine_eq]; exact Nat.le_of_ble_eq_true rfl)) ?_ (by with_unfolding_all rfl)) | (refine' item_listK 1 (by exact rfl) (by k_asm) (by k_mem) (by exact rfl) (by first | assumption | (rw [sizeLine_eq]; exact Nat.le_of_ble_eq_true rfl)) ?_ (by with_unfolding_all rfl)) | (refine' item_tupK 2 (by exact rfl) (by k_asm) (by k_mem) (by exact rfl) (by first | assumption | (rw [sizeLine_eq]; exact Nat.le_of_ble_eq_true rfl)) ?_ (by with_unfolding_all rfl)) | (refine' item_tupK 3 (by exact rfl) (by k_asm) (by k_mem) (by exact rfl) (by first | assumption | (rw [sizeLine_eq]; exact Nat.le_of_ble_eq_true rfl)) ?_ (by with_unfolding_all rfl)) | (refine' item_tupK 4 (by exact rfl) (by k_asm) (by k_mem) (by exact rfl) (by first | assumption | (rw [sizeLine_eq]; exact Nat.le_of_ble_eq_true rfl)) ?_ (by with_unfolding_all rfl))))) | fail "no word"); k_steps))
    all_goals (try (((repeat (first | refine veil (by assumption) ?_ | refine turn_ret ?_ | refine turn_brk ?_ | refine wturn_ret ?_ | refine wturn_brk ?_)); (try dsimp only))))
    refine stop_out ?_
    refine ListComp_NT F9 rfl (by with_unfolding_all rfl) (by decide) (by rfl) (by decide) (by rfl) ?_
    (k_steps <;> repeat' ((first | with_reducible refine stop_out ?_ | with_reducible show wpAny _ _ _ _ _ _); (first | ((k_here; (with_reducible show wpAny _ _ (call (Value.builtin "len") [Value.ref _]) _ _ _); k_dflt (refine' len_lst (by k_asm) (by k_mem) (by first | assumption | (rw [sizeLine_eq]; omega) | (rw [sizeLine_eq]; exact Nat.le_of_ble_eq_true rfl)) ?_))) | ((k_here; (with_reducible show wpAny _ _ (subscriptTail _ _ (Value.ref _) (Value.int _ _)) _ _ _); k_dflt (first | (refine' item_tupK 0 (by exact rfl) (by k_asm) (by k_mem) (by exact rfl) (by first | assumption | (rw [sizeLine_eq]; exact Nat.le_of_ble_eq_true rfl)) ?_ (by with_unfolding_all rfl)) | (refine' item_listK 0 (by exact rfl) (by k_asm) (by k_mem) (by exact rfl) (by first | assumption | (rw [sizeLine_eq]; exact Nat.le_of_ble_eq_true rfl)) ?_ (by with_unfolding_all rfl)) | (refine' item_tupK 1 (by exact rfl) (by k_asm) (by k_mem) (by exact rfl) (by first | assumption | (rw [sizeLine_eq]; exact Nat.le_of_ble_eq_true rfl)) ?_ (by with_unfolding_all rfl)) | (refine' item_listK 1 (by exact rfl) (by k_asm) (by k_mem) (by exact rfl) (by first | assumption | (rw [sizeLine_eq]; exact Nat.le_of_ble_eq_true rfl)) ?_ (by with_unfolding_all rfl)) | (refine' item_tupK 2 (by exact rfl) (by k_asm) (by k_mem) (by exact rfl) (by first | assumption | (rw [sizeLine_eq]; exact Nat.le_of_ble_eq_true rfl)) ?_ (by with_unfolding_all rfl)) | (refine' item_tupK 3 (by exact rfl) (by k_asm) (by k_mem) (by exact rfl) (by first | assumption | (rw [sizeLine_eq]; exact Nat.le_of_ble_eq_true rfl)) ?_ (by with_unfolding_all rfl)) | (refine' item_tupK 4 (by exact rfl) (by k_asm) (by k_mem) (by exact rfl) (by first | assumption | (rw [sizeLine_eq]; exact Nat.le_of_ble_eq_true rfl)) ?_ (by with_unfolding_all rfl))))) | fail "no word"); k_steps))
    all_goals (try (((repeat (first | refine veil (by assumption) ?_ | refine turn_ret ?_ | refine turn_brk ?_ | refine wturn_ret ?_ | refine wturn_brk ?_)); (try dsimp only))))
    (rename News _ _ _ _ => N9)
    refine use s_law_keys (by assumption) (by assumption) N9 (by decide) ?_
    rintro r nx' h7 tk7 F7 N7 hJ90
    refine hideG fun PP hPP => ?_
    obtain ⟨tl2, l, ln, kvs, rfl, rfl, mk, hkl, hgk⟩ := hJ90
    refine hPP ?_
    clear hPP PP
    have hzk : kvs.length ≤ sizeLine := by rw [hkl, sizeLine_eq]; decide
    rename Obj => oT
    rename Obj.data oT = _ => dT
    refine ⟨l, kvs, ln, _, fun j ys nx => ys = [] ∧ ∃ tl3, nx = tl3 ++ (tl2 ++ (Lc + 1 + 1, oT) :: (Lc + 1, o2) :: (tl1 ++ news)), rfl, F7, N7, ?_, ⟨rfl, [], rfl⟩, hzk, ?_, ?_⟩
    · rintro i ys nx ⟨_, tl3, rfl⟩; exact List.mem_append_right _ mk
    · rintro i ys nx v hJ90 hv I oI C oC D m₂ h tk E' hoC hm2 F N off ne
      refine hideG fun PP hPP => ?_
      obtain ⟨rfl, tl3, rfl⟩ := hJ90
      refine hPP ?_
      clear hPP PP
      refine hideG fun PP hPP => ?_
      obtain ⟨ks, hk, K, KB⟩ := hgk v (List.mem_of_getElem? hv)
      refine hPP ?_
      clear hPP PP
      (k_steps <;> repeat' ((first | with_reducible refine stop_out ?_ | with_reducible show wpAny _ _ _ _ _ _); (first | ((k_here; (with_reducible show wpAny _ _ (call (Value.builtin "len") [Value.ref _]) _ _ _); k_dflt (refine' len_lst (by k_asm) (by k_mem) (by first | assumption | (rw [sizeLine_eq]; omega) | (rw [sizeLine_eq]; exact Nat.le_of_ble_eq_true rfl)) ?_))) | ((k_here; (with_reducible show wpAny _ _ (subscriptTail _ _ (Value.ref _) (Value.int _ _)) _ _ _); k_dflt (first | (refine' item_tupK 0 (by exact rfl) (by k_asm) (by k_mem) (by exact rfl) (by first | assumption | (rw [sizeLine_eq]; exact Nat.le_of_ble_eq_true rfl)) ?_ (by with_unfolding_all rfl)) | (refine' item_listK 0 (by exact rfl) (by k_asm) (by k_mem) (by exact rfl) (by first | assumption | (rw [sizeLine_eq]; exact Nat.le_of_ble_eq_true rfl)) ?_ (by with_unfolding_all rfl)) | (refine' item_tupK 1 (by exact rfl) (by k_asm) (by k_mem) (by exact rfl) (by first | assumption | (rw [sizeLine_eq]; exact Nat.le_of_ble_eq_true rfl)) ?_ (by with_unfolding_all rfl)) | (refine' item_listK 1 (by exact rfl) (by k_asm) (by k_mem) (by exact rfl) (by first | assumption | (rw [sizeLine_eq]; exact Nat.le_of_ble_eq_true rfl)) ?_ (by with_unfolding_all rfl)) | (refine' item_tupK 2 (by exact rfl) (by k_asm) (by k_mem) (by exact rfl) (by first | assumption | (rw [sizeLine_eq]; exact Nat.le_of_ble_eq_true rfl)) ?_ (by with_unfolding_all rfl)) | (refine' item_tupK 3 (by exact rfl) (by k_asm) (by k_mem) (by exact rfl) (by first | assumption | (rw [sizeLine_eq]; exact Nat.le_of_ble_eq_true rfl)) ?_ (by with_unfolding_all rfl)) | (refine' item_tupK 4 (by exact rfl) (by k_asm) (by k_mem) (by exact rfl) (by first | assumption | (rw [sizeLine_eq]; exact Nat.le_of_ble_eq_true rfl)) ?_ (by with_unfolding_all rfl))))) | fail "no word"); k_steps))
      all_goals (try (((repeat (first | refine veil (by assumption) ?_ | refine turn_ret ?_ | refine turn_brk ?_ | refine wturn_ret ?_ | refine wturn_brk ?_)); (try dsimp only))))
      (rename News _ _ _ _ => N9)
      refine use (s_look (TI.mono fun p hp => by walk_at "mem") (R.mono fun p hp => by walk_at "mem") G TO (hk.mono fun p hp => by walk_at "mem") K (by omega) hz (path_open Ds ks) (fun f x rows P G hf hx hh => so_path KB P G hf hx hh) (fun f x rows P G hf hx hh => no_path KB P G hf hx hh)) (by assumption) (by assumption) N9 (by decide) ?_
      rintro r6 nx6 h6 tk6 F6 N6 hJ90
      refine hideG fun PP hPP => ?_
      obtain ⟨tl4, rfl, nm, Dr⟩ := hJ90
      refine hPP ?_
      clear hPP PP
      refine hideG fun PP hPP => ?_
      obtain ⟨y, yn, v0, v1, rfl, my, D0, D1⟩ := pair_in Dr
      refine hPP ?_
      clear hPP PP
      have hx0 : [v0, v1][0]? = some v0 := rfl
      (k_steps <;> repeat' ((first | with_reducible refine stop_out ?_ | with_reducible show wpAny _ _ _ _ _ _); (first | ((k_here; (with_reducible show wpAny _ _ (call (Value.builtin "len") [Value.ref _]) _ _ _); k_dflt (refine' len_lst (by k_asm) (by k_mem) (by first | assumption | (rw [sizeLine_eq]; omega) | (rw [sizeLine_eq]; exact Nat.le_of_ble_eq_true rfl)) ?_))) | ((k_here; (with_reducible show wpAny _ _ (subscriptTail _ _ (Value.ref _) (Value.int _ _)) _ _ _); k_dflt (first | (refine' item_tupK 0 (by exact rfl) (by k_asm) (by k_mem) (by exact rfl) (by first | assumption | (rw [sizeLine_eq]; exact Nat.le_of_ble_eq_true rfl)) ?_ (by with_unfolding_all rfl)) | (refine' item_listK 0 (by exact rfl) (by k_asm) (by k_mem) (by exact rfl) (by first | assumption | (rw [sizeLine_eq]; exact Nat.le_of_ble_eq_true rfl)) ?_ (by with_unfolding_all rfl)) | (refine' item_tupK 1 (by exact rfl) (by k_asm) (by k_mem) (by exact rfl) (by first | assumption | (rw [sizeLine_eq]; exact Nat.le_of_ble_eq_true rfl)) ?_ (by with_unfolding_all rfl)) | (refine' item_listK 1 (by exact rfl) (by k_asm) (by k_mem) (by exact rfl) (by first | assumption | (rw [sizeLine_eq]; exact Nat.le_of_ble_eq_true rfl)) ?_ (by with_unfolding_all rfl)) | (refine' item_tupK 2 (by exact rfl) (by k_asm) (by k_mem) (by exact rfl) (by first | assumption | (rw [sizeLine_eq]; exact Nat.le_of_ble_eq_true rfl)) ?_ (by with_unfolding_all rfl)) | (refine' item_tupK 3 (by exact rfl) (by k_asm) (by k_mem) (by exact rfl) (by first | assumption | (rw [sizeLine_eq]; exact Nat.le_of_ble_eq_true rfl)) ?_ (by with_unfolding_all rfl)) | (refine' item_tupK 4 (by exact rfl) (by k_asm) (by k_mem) (by exact rfl) (by first | assumption | (rw [sizeLine_eq]; exact Nat.le_of_ble_eq_true rfl)) ?_ (by with_unfolding_all rfl))))) | fail "no word"); k_steps))
      all_goals (try (((repeat (first | refine veil (by assumption) ?_ | refine turn_ret ?_ | refine turn_brk ?_ | refine wturn_ret ?_ | refine wturn_brk ?_)); (try dsimp only))))
      (rename News _ _ _ _ => N9)
      refine use (s_first_match (rl := rl) (by walk_at "mem") (R.mono fun p hp => by walk_at "mem") G (hk.mono fun p hp => by walk_at "mem") K) (by assumption) (by assumption) N9 (by decide) ?_
      rintro r5 nx5 h5 tk5 F5 N5 ⟨rfl, hno⟩
      cases hfo : firstOf Ds ks with
      | none =>
        rw [hfo] at D0 hno
        obtain rfl : r5 = .none := hno
        obtain rfl : v0 = .none := by cases D0; rfl
        (k_steps <;> repeat' ((first | with_reducible refine stop_out ?_ | with_reducible show wpAny _ _ _ _ _ _); (first | ((k_here; (with_reducible show wpAny _ _ (call (Value.builtin "len") [Value.ref _]) _ _ _); k_dflt (refine' len_lst (by k_asm) (by k_mem) (by first | assumption | (rw [sizeLine_eq]; omega) | (rw [sizeLine_eq]; exact Nat.le_of_ble_eq_true rfl)) ?_))) | ((k_here; (with_reducible show wpAny _ _ (subscriptTail _ _ (Value.ref _) (Value.int _ _)) _ _ _); k_dflt (first | (refine' item_tupK 0 (by exact rfl) (by k_asm) (by k_mem) (by exact rfl) (by first | assumption | (rw [sizeLine_eq]; exact Nat.le_of_ble_eq_true rfl)) ?_ (by with_unfolding_all rfl)) | (refine' item_listK 0 (by exact rfl) (by k_asm) (by k_mem) (by exact rfl) (by first | assumption | (rw [sizeLine_eq]; exact Nat.le_of_ble_eq_true rfl)) ?_ (by with_unfolding_all rfl)) | (refine' item_tupK 1 (by exact rfl) (by k_asm) (by k_mem) (by exact rfl) (by first | assumption | (rw [sizeLine_eq]; exact Nat.le_of_ble_eq_true rfl)) ?_ (by with_unfolding_all rfl)) | (refine' item_listK 1 (by exact rfl) (by k_asm) (by k_mem) (by exact rfl) (by first | assumption | (rw [sizeLine_eq]; exact Nat.le_of_ble_eq_true rfl)) ?_ (by with_unfolding_all rfl)) | (refine' item_tupK 2 (by exact rfl) (by k_asm) (by k_mem) (by exact rfl) (by first | assumption | (rw [sizeLine_eq]; exact Nat.le_of_ble_eq_true rfl)) ?_ (by with_unfolding_all rfl)) | (refine' item_tupK 3 (by exact rfl) (by k_asm) (by k_mem) (by exact rfl) (by first | assumption | (rw [sizeLine_eq]; exact Nat.le_of_ble_eq_true rfl)) ?_ (by with_unfolding_all rfl)) | (refine' item_tupK 4 (by exact rfl) (by k_asm) (by k_mem) (by exact rfl) (by first | assumption | (rw [sizeLine_eq]; exact Nat.le_of_ble_eq_true rfl)) ?_ (by with_unfolding_all rfl))))) | fail "no word"); k_steps))
        all_goals (try (((repeat (first | refine veil (by assumption) ?_ | refine turn_ret ?_ | refine turn_brk ?_ | refine wturn_ret ?_ | refine wturn_brk ?_)); (try dsimp only))))
        (try (((repeat (first | refine veil (by assumption) ?_ | refine turn_ret ?_ | refine turn_brk ?_ | refine wturn_ret ?_ | refine wturn_brk ?_)); (try dsimp only))))
        refine ⟨_, _, tl3 ++ (tl2 ++ (Lc + 1 + 1, oT) :: (Lc + 1, o2) :: (tl1 ++ news)), _, rfl, F5, N5, by walk_at "mem", by walk_at "mem", by walk_at "mem", fun p hp => List.mem_append_right _ (.tail _ (.tail _ (.tail _ hp))), off, rfl, tl3, rfl⟩
      | some p9 =>
        rw [hfo] at D0 hno
        obtain ⟨t5, rfl⟩ := hno
        obtain ⟨t6, rfl⟩ : ∃ t, v0 = .int (p9 : Nat) t := by cases D0; exact ⟨_, rfl⟩
        (k_steps <;> repeat' ((first | with_reducible refine stop_out ?_ | with_reducible show wpAny _ _ _ _ _ _); (first | ((k_here; (with_reducible show wpAny _ _ (call (Value.builtin "len") [Value.ref _]) _ _ _); k_dflt (refine' len_lst (by k_asm) (by k_mem) (by first | assumption | (rw [sizeLine_eq]; omega) | (rw [sizeLine_eq]; exact Nat.le_of_ble_eq_true rfl)) ?_))) | ((k_here; (with_reducible show wpAny _ _ (subscriptTail _ _ (Value.ref _) (Value.int _ _)) _ _ _); k_dflt (first | (refine' item_tupK 0 (by exact rfl) (by k_asm) (by k_mem) (by exact rfl) (by first | assumption | (rw [sizeLine_eq]; exact Nat.le_of_ble_eq_true rfl)) ?_ (by with_unfolding_all rfl)) | (refine' item_listK 0 (by exact rfl) (by k_asm) (by k_mem) (by exact rfl) (by first | assumption | (rw [sizeLine_eq]; exact Nat.le_of_ble_eq_true rfl)) ?_ (by with_unfolding_all rfl)) | (refine' item_tupK 1 (by exact rfl) (by k_asm) (by k_mem) (by exact rfl) (by first | assumption | (rw [sizeLine_eq]; exact Nat.le_of_ble_eq_true rfl)) ?_ (by with_unfolding_all rfl)) | (refine' item_listK 1 (by exact rfl) (by k_asm) (by k_mem) (by exact rfl) (by first | assumption | (rw [sizeLine_eq]; exact Nat.le_of_ble_eq_true rfl)) ?_ (by with_unfolding_all rfl)) | (refine' item_tupK 2 (by exact rfl) (by k_asm) (by k_mem) (by exact rfl) (by first | assumption | (rw [sizeLine_eq]; exact Nat.le_of_ble_eq_true rfl)) ?_ (by with_unfolding_all rfl)) | (refine' item_tupK 3 (by exact rfl) (by k_asm) (by k_mem) (by exact rfl) (by first | assumption | (rw [sizeLine_eq]; exact Nat.le_of_ble_eq_true rfl)) ?_ (by with_unfolding_all rfl)) | (refine' item_tupK 4 (by exact rfl) (by k_asm) (by k_mem) (by exact rfl) (by first | assumption | (rw [sizeLine_eq]; exact Nat.le_of_ble_eq_true rfl)) ?_ (by with_unfolding_all rfl))))) | fail "no word"); k_steps))
        all_goals (try (((repeat (first | refine veil (by assumption) ?_ | refine turn_ret ?_ | refine turn_brk ?_ | refine wturn_ret ?_ | refine wturn_brk ?_)); (try dsimp only))))
        · (try (((repeat (first | refine veil (by assumption) ?_ | refine turn_ret ?_ | refine turn_brk ?_ | refine wturn_ret ?_ | refine wturn_brk ?_)); (try dsimp only))))
          refine ⟨_, _, tl3 ++ (tl2 ++ (Lc + 1 + 1, oT) :: (Lc + 1, o2) :: (tl1 ++ news)), _, rfl, F5, N5, by walk_at "mem", by walk_at "mem", by walk_at "mem", fun p hp => List.mem_append_right _ (.tail _ (.tail _ (.tail _ hp))), off, rfl, tl3, rfl⟩
    · rintro D h tk ys nx hJ90 F N off
      refine hideG fun PP hPP => ?_
      obtain ⟨rfl, tl3, rfl⟩ := hJ90
      refine hPP ?_
      clear hPP PP
      (k_steps <;> repeat' ((first | with_reducible refine stop_out ?_ | with_reducible show wpAny _ _ _ _ _ _); (first | ((k_here; (with_reducible show wpAny _ _ (call (Value.builtin "len") [Value.ref _]) _ _ _); k_dflt (refine' len_lst (by k_asm) (by k_mem) (by first | assumption | (rw [sizeLine_eq]; omega) | (rw [sizeLine_eq]; exact Nat.le_of_ble_eq_true rfl)) ?_))) | ((k_here; (with_reducible show wpAny _ _ (subscriptTail _ _ (Value.ref _) (Value.int _ _)) _ _ _); k_dflt (first | (refine' item_tupK 0 (by exact rfl) (by k_asm) (by k_mem) (by exact rfl) (by first | assumption | (rw [sizeLine_eq]; exact Nat.le_of_ble_eq_true rfl)) ?_ (by with_unfolding_all rfl)) | (refine' item_listK 0 (by exact rfl) (by k_asm) (by k_mem) (by exact rfl) (by first | assumption | (rw [sizeLine_eq]; exact Nat.le_of_ble_eq_true rfl)) ?_ (by with_unfolding_all rfl)) | (refine' item_tupK 1 (by exact rfl) (by k_asm) (by k_mem) (by exact rfl) (by first | assumption | (rw [sizeLine_eq]; exact Nat.le_of_ble_eq_true rfl)) ?_ (by with_unfolding_all rfl)) | (refine' item_listK 1 (by exact rfl) (by k_asm) (by k_mem) (by exact rfl) (by first | assumption | (rw [sizeLine_eq]; exact Nat.le_of_ble_eq_true rfl)) ?_ (by with_unfolding_all rfl)) | (refine' item_tupK 2 (by exact rfl) (by k_asm) (by k_mem) (by exact rfl) (by first | assumption | (rw [sizeLine_eq]; exact Nat.le_of_ble_eq_true rfl)) ?_ (by with_unfolding_all rfl)) | (refine' item_tupK 3 (by exact rfl) (by k_asm) (by k_mem) (by exact rfl) (by first | assumption | (rw [sizeLine_eq]; exact Nat.le_of_ble_eq_true rfl)) ?_ (by with_unfolding_all rfl)) | (refine' item_tupK 4 (by exact rfl) (by k_asm) (by k_mem) (by exact rfl) (by first | assumption | (rw [sizeLine_eq]; exact Nat.le_of_ble_eq_true rfl)) ?_ (by with_unfolding_all rfl))))) | fail "no word"); k_steps))
      all_goals (try (((repeat (first | refine veil (by assumption) ?_ | refine turn_ret ?_ | refine turn_brk ?_ | refine wturn_ret ?_ | refine wturn_brk ?_)); (try dsimp only))))
      refine stop_out ?_
      refine eq_nil_B (xs := []) (n₁ := []) (ds := []) true rfl (by assumption) (by walk_at "mem") .nil (fun _ h => nomatch h) (fun _ h => nomatch h) (.head _) hrc.u64 ?_
      (k_steps <;> repeat' ((first | with_reducible refine stop_out ?_ | with_reducible show wpAny _ _ _ _ _ _); (first | ((k_here; (with_reducible show wpAny _ _ (call (Value.builtin "len") [Value.ref _]) _ _ _); k_dflt (refine' len_lst (by k_asm) (by k_mem) (by first | assumption | (rw [sizeLine_eq]; omega) | (rw [sizeLine_eq]; exact Nat.le_of_ble_eq_true rfl)) ?_))) | ((k_here; (with_reducible show wpAny _ _ (subscriptTail _ _ (Value.ref _) (Value.int _ _)) _ _ _); k_dflt (first | (refine' item_tupK 0 (by exact rfl) (by k_asm) (by k_mem) (by exact rfl) (by first | assumption | (rw [sizeLine_eq]; exact Nat.le_of_ble_eq_true rfl)) ?_ (by with_unfolding_all rfl)) | (refine' item_listK 0 (by exact rfl) (by k_asm) (by k_mem) (by exact rfl) (by first | assumption | (rw [sizeLine_eq]; exact Nat.le_of_ble_eq_true rfl)) ?_ (by with_unfolding_all rfl)) | (refine' item_tupK 1 (by exact rfl) (by k_asm) (by k_mem) (by exact rfl) (by first | assumption | (rw [sizeLine_eq]; exact Nat.le_of_ble_eq_true rfl)) ?_ (by with_unfolding_all rfl)) | (refine' item_listK 1 (by exact rfl) (by k_asm) (by k_mem) (by exact rfl) (by first | assumption | (rw [sizeLine_eq]; exact Nat.le_of_ble_eq_true rfl)) ?_ (by with_unfolding_all rfl)) | (refine' item_tupK 2 (by exact rfl) (by k_asm) (by k_mem) (by exact rfl) (by first | assumption | (rw [sizeLine_eq]; exact Nat.le_of_ble_eq_true rfl)) ?_ (by with_unfolding_all rfl)) | (refine' item_tupK 3 (by exact rfl) (by k_asm) (by k_mem) (by exact rfl) (by first | assumption | (rw [sizeLine_eq]; exact Nat.le_of_ble_eq_true rfl)) ?_ (by with_unfolding_all rfl)) | (refine' item_tupK 4 (by exact rfl) (by k_asm) (by k_mem) (by exact rfl) (by first | assumption | (rw [sizeLine_eq]; exact Nat.le_of_ble_eq_true rfl)) ?_ (by with_unfolding_all rfl))))) | fail "no word"); k_steps))
      all_goals (try (((repeat (first | refine veil (by assumption) ?_ | refine turn_ret ?_ | refine turn_brk ?_ | refine wturn_ret ?_ | refine wturn_brk ?_)); (try dsimp only))))
      (try (((repeat (first | refine veil (by assumption) ?_ | refine turn_ret ?_ | refine turn_brk ?_ | refine wturn_ret ?_ | refine wturn_brk ?_)); (try dsimp only))))
      exact ⟨_, _, news, _, rfl, by assumption, nsub (by assumption) (fun p hp => by walk_at "mem"), ⟨[], rfl⟩, rfl⟩
end
section
theorem off_J0 : True := by w_top off; trivial
variable {w : World} {mean : ExcName → Option Value} {mg mb : Str → Option Value} {news : List (Addr × Obj)}
local macro_rules | `(tactic| walk_at "setAttr ref") => `(tactic| (k_here; refine stop_in ?_))
theorem kept_push2 {hh h'' : Heap} {o1 o2 o1' o2' : Obj} {news news' : List (Addr × Obj)} (K : Kept ((hh.push o1).push o2) ((hh.objs.size.succ, o2') :: (hh.objs.size, o1') :: news) h'' news') : Kept hh news h'' news' := by
  have key : ∀ y, @LT.lt Nat _ y hh.objs.size → y ∉ news.map (·.1) → y ∉ ((hh.objs.size.succ, o2') :: (hh.objs.size, o1') :: news).map (·.1) := fun y hlt hy hc => by
    rcases List.mem_cons.mp hc with e1 | hc
    · exact absurd (show y = hh.objs.size + 1 from e1) (Nat.ne_of_lt (Nat.lt_succ_of_lt hlt))
    · rcases List.mem_cons.mp hc with e1 | hc
      · exact absurd (show y = hh.objs.size from e1) (Nat.ne_of_lt hlt)
      · exact hy hc
  refine ⟨fun y o hy e => K.1 y o (key y (Heap.lt_size e) hy) (Heap.get?_push_of_some _ (Heap.get?_push_of_some _ e)), fun p hp hy => ?_⟩
  cases e : hh.get? p.1 with
  | none => rfl
  | some o =>
    have := K.2 p hp (key p.1 (Heap.lt_size e) hy)
    rw [Heap.get?_push_of_some _ (Heap.get?_push_of_some _ e)] at this
    cases this
theorem s_exc_init {e tp : Addr} {msg : Str} {t : Tok} (hlt : ∀ p ∈ news, p.1 < tp) (hx : tp < e) :
    Spec w mean mg mb 29 1 [.ref e, .str msg t] ((e, excObj 45 tp) :: (tp, tupO [.str msg t] 0) :: news) (fun news' r => r = .none ∧ ∃ tl oe tp', news' = (e, oe) :: (tl ++ news) ∧ oe.cls = .ref 45 ∧ oe.data = .fields #[.ref tp', .none, .none, .none, .bool false, .none] ∧ (∀ p ∈ news, p.1 ≠ e)) := by
  have hne : ∀ p ∈ (tp, tupO [.str msg t] 0) :: news, p.1 ≠ e := List.forall_mem_cons.mpr ⟨Nat.ne_of_lt hx, fun p hp => Nat.ne_of_lt (Nat.lt_trans (hlt p hp) hx)⟩
  ((refine' spec_intro (by k_is) (by k_is) (by exact rfl) (by exact rfl) (by exact rfl) (by exact rfl) (by exact rfl) (by decide) ?_; k_whole; intro dp' un' gd' fr' envc' outer' A₀' base' g' L' h' ge' dr' os' tk' A9' E9' C' hr' hA' B' X' T' F' N' T' hT'; (try dsimp only [List.map, List.zip, List.zipWith, List.reverse, List.reverseAux] at F'); (try dsimp only); (try k_fold)))
  (k_steps <;> repeat' ((first | with_reducible refine stop_out ?_ | with_reducible show wpAny _ _ _ _ _ _); (first | ((k_here; (with_reducible show wpAny _ _ (getMethod _ _ _) _ _ _); (refine' exc_method (by k_asm) (by k_asm) ?_))) | fail "no word"); k_steps))
  all_goals (try (((repeat (first | refine veil (by assumption) ?_ | refine turn_ret ?_ | refine turn_brk ?_ | refine wturn_ret ?_ | refine wturn_brk ?_)); (try dsimp only))))
  refine exc_init (by assumption) (by assumption) hne (by assumption) (by rw [sizeLine_eq]; exact Nat.le_of_ble_eq_true rfl) ?_
  intro D h1 F1 N1 l1
  have hD : @Ne Nat D e := Nat.ne_of_gt (l1 (e, excObj 45 tp) (.head _))
  (k_steps <;> repeat' ((first | with_reducible refine stop_out ?_ | with_reducible show wpAny _ _ _ _ _ _); (first | ((k_here; (with_reducible show wpAny _ _ (getMethod _ _ _) _ _ _); (refine' exc_method (by k_asm) (by k_asm) ?_))) | fail "no word"); k_steps))
  all_goals (try (((repeat (first | refine veil (by assumption) ?_ | refine turn_ret ?_ | refine turn_brk ?_ | refine wturn_ret ?_ | refine wturn_brk ?_)); (try dsimp only))))
  refine exc_store (C2 := 32) F1 N1 (List.forall_mem_cons.mpr ⟨hD, hne⟩) (by assumption) (by k_is) (by rfl) (by rfl) (by k_is) (by k_is) ?_
  intro h2 oe tk2 F2 N2 c2 d2
  (k_steps <;> repeat' ((first | with_reducible refine stop_out ?_ | with_reducible show wpAny _ _ _ _ _ _); (first | ((k_here; (with_reducible show wpAny _ _ (getMethod _ _ _) _ _ _); (refine' exc_method (by k_asm) (by k_asm) ?_))) | fail "no word"); k_steps))
  all_goals (try (((repeat (first | refine veil (by assumption) ?_ | refine turn_ret ?_ | refine turn_brk ?_ | refine wturn_ret ?_ | refine wturn_brk ?_)); (try dsimp only))))
  (try (((repeat (first | refine veil (by assumption) ?_ | refine turn_ret ?_ | refine turn_brk ?_ | refine wturn_ret ?_ | refine wturn_brk ?_)); (try dsimp only))))
  exact ⟨_, _, (e, oe) :: ([_, _] ++ news), _, rfl, F2, N2, rfl, _, oe, D, rfl, c2, d2, fun p hp => hne p (.tail _ hp)⟩
theorem s_TableError {msg : Str} {t : Tok} :
    Spec w mean mg mb 45 2 [.str msg t] news (fun news' r => ∃ e tl oe tp, r = .ref e ∧ news' = (e, oe) :: (tl ++ news) ∧ oe.cls = .ref 45 ∧ oe.data = .fields #[.ref tp, .none, .none, .none, .bool false, .none] ∧ (∀ p ∈ news, p.1 ≠ e)) := by
  intro A env outer A₀ base h₀ L m s R hr hA hf' hke B F X N T ret
  have hr2 : Room (A.under (.builtin "type.__call__" ⟨.ref 45 :: [.str msg t], []⟩)) 1 := by
    rw [aro_of hr.hh]
    exact ⟨rfl, by have := hr.dep; show A.depth + 1 + 1 < _; omega, by have := hr.un; show A.units + 1 + 10 * 1 + 100 < _; omega⟩
  have hA2 : (A.under (.builtin "type.__call__" ⟨.ref 45 :: [.str msg t], []⟩)).frames = some (env :: outer) := by
    rw [aro_of hr.hh]; exact hA
  have XK := X.keeps F.keep
  refine hideG fun PP hPP => ?_
  obtain ⟨nm, q, bs, hdct, sn, sub, ab, col, dd, k0, k1, k2, k3, k5, hC⟩ := cls45 XK
  refine hPP ?_
  clear hPP PP
  refine hideG fun PP hPP => ?_
  obtain ⟨hh, gg, dr, tt, os⟩ := s
  refine hPP ?_
  clear hPP PP
  have N2 := (N.push F { cls := .type "tuple", data := .seq [Value.str msg t].toArray }).push (F.push _) (excObj 45 hh.objs.size)
  rw [Heap.size_push] at N2
  refine exc_make PySem.F.excBase_Exception (by decide +kernel) (by decide +kernel) (by decide +kernel) hC XK (fI := 29) (by k_is) (by k_is) ?_ (by rw [sizeLine_eq]; exact Nat.le_of_ble_eq_true rfl)
  refine s_exc_init (news := news) (fun p hp => Heap.lt_size (N p hp).1) (Nat.lt_succ_self _) _ env outer A₀ base h₀ L m _ _ hr2 hA2 hf' hke B ((F.push _).push _) X N2 T ?_
  rintro r news' h'' tk' F'' N'' K'' hJ90
  refine hideG fun PP hPP => ?_
  obtain ⟨rfl, tl, oe, tp', rfl, hc, hd, hn⟩ := hJ90
  refine hPP ?_
  clear hPP PP
  exact ⟨rfl, ret _ _ _ _ F'' N'' (kept_push2 K'') ⟨_, tl, oe, tp', rfl, rfl, hc, hd, hn⟩⟩
end
section
theorem off_J1 : True := by w_top off; trivial
variable {w : World} {mean : ExcName → Option Value} {mg mb : Str → Option Value} {news : List (Addr × Obj)}
def FOk (w : World) (news : List (Addr × Obj)) (keys : List Nat) (v : Value) : Prop := ∃ d D, v = .ref d ∧ HasW w news d D ∧ D.map (·.1) = keys ∧ ∀ q ∈ D, EOk q
theorem FOk.mono {a b : List (Addr × Obj)} {keys : List Nat} {v : Value} (h : FOk w a keys v) (hs : ∀ p ∈ a, p ∈ b) : FOk w b keys v := let ⟨d, D, e, W, k, o⟩ := h; ⟨d, D, e, W.mono hs, k, o⟩
def mlen (q : Nat × Wish) : Nat := (q.2.masks (bitsOf q.1)).length
def mcount (R : Rw) : Nat := R.foldl (fun n q => n * mlen q) 1
theorem mcount_snoc {R : Rw} {i : Nat} {q : Nat × Wish} (h : R[i]? = some q) : mcount (R.take (i + 1)) = mcount (R.take i) * mlen q := by
  rw [take_snoc h, mcount, List.foldl_append]; rfl
theorem bits_le (p : Nat) : bitsOf p ≤ 12 := by unfold bitsOf; split <;> (try split) <;> omega
theorem mlen_pos {q : Nat × Wish} (h : EOk q) : 0 < mlen q := by
  obtain ⟨p, x⟩ := q
  cases x with
  | mask v m => exact Nat.zero_lt_one
  | range lo hi => exact L_pos h.2.1
theorem L_le {b hi : Nat} : ∀ (f lo : Nat), hi + 1 - lo ≤ f → L b hi lo ≤ f
  | 0, lo, h => by rw [L_done (by omega)]; exact Nat.le_refl _
  | f + 1, lo, h => by
    by_cases hl : lo ≤ hi
    · rw [L_more hl]
      have hp := Nat.two_pow_pos (fitK lo hi (startK lo b))
      have := L_le (b := b) (hi := hi) f (lo + 2 ^ fitK lo hi (startK lo b)) (by omega)
      omega
    · rw [L_done hl]; omega
theorem mlen_le {q : Nat × Wish} (h : EOk q) : mlen q ≤ 4096 := by
  obtain ⟨p, x⟩ := q
  cases x with
  | mask v m => exact (by decide : 1 ≤ 4096)
  | range lo hi =>
    have h1 : hi < 2 ^ bitsOf p := h.2.2
    have h2 : 2 ^ bitsOf p ≤ 4096 := Nat.pow_le_pow_right (by decide) (bits_le p)
    exact Nat.le_trans (L_le (hi + 1 - lo) lo (Nat.le_refl _)) (by omega)
theorem mcount_le {R : Rw} (h : ∀ q ∈ R, EOk q) (i : Nat) : ∀ k, mcount (R.take i) ≤ mcount (R.take (i + k))
  | 0 => Nat.le_refl _
  | k + 1 => by
    refine Nat.le_trans (mcount_le h i k) ?_
    cases e : R[i + k]? with
    | none =>
      have := List.getElem?_eq_none_iff.mp e
      rw [List.take_of_length_le this, List.take_of_length_le (by omega)]; exact Nat.le_refl _
    | some q =>
      rw [← Nat.add_assoc, mcount_snoc e]
      exact Nat.le_mul_of_pos_right _ (mlen_pos (h q (List.mem_of_getElem? e)))
theorem mcount_le_all {R : Rw} (h : ∀ q ∈ R, EOk q) (i : Nat) : mcount (R.take i) ≤ mcount R := by
  have := mcount_le h i R.length
  rw [List.take_of_length_le (by omega : R.length ≤ i + R.length)] at this
  exact this
theorem mcount_pos {R : Rw} (h : ∀ q ∈ R, EOk q) : 0 < mcount R := mcount_le_all h 0
theorem set_D2 {A : Around} {E : Value → Shared → Prop} {s : Shared} {h₀ : Heap} {L : Addr} {m : Str → Option Value} {n0 : List (Addr × Obj)} {d : Addr} {o : Obj} {D : List (Nat × Wish)} {p : Nat} {x : Wish} {k : Int} {t : Tok} {v : Value} {g : Obj → List (Addr × Obj)} {Q : Unit → Shared → Prop} (F : Fr h₀ L s.heap m) (N : News h₀ L s.heap news) (U : UpdF d o news g)
    (W' : IsW w n0 d o D) (h64 : D.length < 64) (hk : k = (p : Int)) (hn : p ∉ D.map (·.1)) (hv : DatIn n0 v x.dat)
    (h : ∀ h' o', Fr h₀ L h' m → News h₀ L h' (g o') → IsW w n0 d o' (D ++ [(p, x)]) → Q () { s with heap := h', toks := s.toks + 1 }) :
    Stop (wpAny (model PR w) A (setItem (.ref d) (.int k t) v) Q E s) := by
  obtain ⟨⟨kvs, hd, hw⟩, lo⟩ := W'
  subst hk
  exact kda_set (knd := PySem.intKind PR w) F N U hd (intKind_is _ _ _ _) (by rw [hw.length, sizeLine_eq]; omega) fun h' o' F' N' hd' => h h' o' F' N' ⟨⟨_, hd', hw.put hn hv⟩, lo⟩
theorem nodup_take {α β : Type} {l : List α} {f : α → β} (h : (l.map f).Nodup) {i : Nat} {x : α} (e : l[i]? = some x) : f x ∉ (l.take i).map f := by
  intro hc
  have hi : i < l.length := (List.getElem?_eq_some_iff.mp e).1
  have h2 : l.map f = (l.take i).map f ++ (l.drop i).map f := by rw [← List.map_append, List.take_append_drop]
  rw [h2, List.nodup_append] at h
  refine h.2.2 _ hc _ (List.mem_map_of_mem ?_) rfl
  refine List.mem_of_getElem? (i := 0) ?_
  rw [List.getElem?_drop, Nat.add_zero]; exact e
theorem slot_lt {a b M q : Nat} (h1 : a < b) (h2 : q < M) : a * M + q < b * M := by
  have := Nat.mul_le_mul_right M (show a + 1 ≤ b from h1)
  rw [Nat.add_mul, Nat.one_mul] at this
  omega
theorem masks_ok {b : Nat} {x : Wish} (hx : x.ok b) {p : Nat × Nat} (hp : p ∈ x.masks b) : (Wish.mask p.1 p.2).ok b := by
  cases x with
  | mask v m => rw [List.mem_singleton.mp hp]; exact hx
  | range lo hi => exact ranges_ok hx.2 _ lo (Nat.le_refl _) p hp
end
section
theorem off_J2 : True := by w_top off; trivial
variable {w : World} {mean : ExcName → Option Value} {mg mb : Str → Option Value} {news : List (Addr × Obj)}
local macro_rules | `(tactic| walk_at "setItem ref int") => `(tactic| (k_here; refine stop_in ?_))
inductive MaJ (w : World) (TL : List (Addr × Obj)) (D : List (Nat × Wish)) (most : Int) (t : Tok) (i : Nat) (m : Str → Option Value) (nx : List (Addr × Obj)) : Prop
  | mk (fl : Addr) (fvs : List Value) (fn : Nat) (tl2 : List (Addr × Obj)) (e : nx = tl2 ++ TL) (mf : (fl, lstO fvs fn) ∈ nx) (hfk : ∀ v ∈ fvs, FOk w nx (((srt D).take i).map (·.1)) v) (hfl : fvs.length = mcount ((srt D).take i))
    (hf1 : fvs.length ≤ 1 ∨ (fvs.length : Int) ≤ most) (hf2 : i = 0 ∨ (fvs.length : Int) ≤ most) (e1 : m (Str.ofString "found") = some (.ref fl)) (e2 : m (Str.ofString "most") = some (.int most t))
inductive MbJ (w : World) (ll : Addr) (TL T2 : List (Addr × Obj)) (I : Addr) (ks : List Nat) (ml : Nat) (rl2 : Addr) (k : Int) (yt : Tok) (most : Int) (t : Tok) (j : Nat) (m : Str → Option Value) (nx : List (Addr × Obj)) : Prop
  | mk (lvs : List Value) (ln : Nat) (tl4 : List (Addr × Obj)) (e : nx = (ll, lstO lvs ln) :: (tl4 ++ TL)) (offl : ∀ p ∈ tl4 ++ TL, p.1 ≠ ll) (off4 : ∀ p ∈ tl4, p.1 ≠ I) (hlk : ∀ v ∈ lvs, FOk w (tl4 ++ T2) ks v) (hll : lvs.length = j * ml)
    (f1 : m (Str.ofString "longer") = some (.ref ll)) (f2 : m (Str.ofString "rows") = some (.ref rl2)) (f3 : m (Str.ofString "place") = some (.int k yt)) (f4 : m (Str.ofString "most") = some (.int most t))
inductive McJ (w : World) (ll : Addr) (TL T2 : List (Addr × Obj)) (I I2 : Addr) (ks : List Nat) (n0 : Nat) (rl2 : Addr) (k : Int) (yt : Tok) (most : Int) (t : Tok) (d2 : Addr) (q : Nat) (m : Str → Option Value) (nx : List (Addr × Obj)) : Prop
  | mk (lvs : List Value) (ln : Nat) (tl5 : List (Addr × Obj)) (e : nx = (ll, lstO lvs ln) :: (tl5 ++ TL)) (offl : ∀ p ∈ tl5 ++ TL, p.1 ≠ ll) (off5 : ∀ p ∈ tl5, p.1 ≠ I ∧ p.1 ≠ I2) (hlk : ∀ v ∈ lvs, FOk w (tl5 ++ T2) ks v) (hll : lvs.length = n0 + q)
    (f1 : m (Str.ofString "longer") = some (.ref ll)) (f2 : m (Str.ofString "rows") = some (.ref rl2)) (f3 : m (Str.ofString "place") = some (.int k yt)) (f4 : m (Str.ofString "most") = some (.int most t)) (f5 : m (Str.ofString "wishes") = some (.ref d2))

theorem s_masked {v : Value} {D : List (Nat × Wish)} {most : Int} {t : Tok} (h1 : RuleIn w news (Str.ofString "let") v D) (G : DOk D) (hm0 : 0 ≤ most) (hm : most ≤ 300) :
    SpecX w mean mg mb 175 7 [v, .int most t] news (fun news' r => ∃ tl l n vs, news' = tl ++ news ∧ r = .ref l ∧ (l, lstO vs n) ∈ news' ∧ vs.length = mcount (srt D) ∧ (D = [] ∨ (mcount (srt D) : Int) ≤ most)) (most < (mcount (srt D) : Int)) (.ref 45) := by
  refine hideG fun PP hPP => ?_
  obtain ⟨x, dx, dw, k1, k2, tt, rfl, m1, m2, W⟩ := id h1
  refine hPP ?_
  clear hPP PP
  have hE : ∀ q ∈ srt D, EOk q := fun q hq => G.mem q ((srt_perm D).mem_iff.mp hq)
  ((refine' spec_introCX (by k_is) (by k_is) (by exact rfl) (by exact rfl) (by decide +kernel) (by exact rfl) (by exact rfl) (by exact rfl) ?_; k_whole; intro dp' un' gd' fr' envc' outer' A₀' base' g' Lc hc0 ge' dr' os' tk0 cells' E A9' E9' Cc hrc hAc Bc Xc Tc Fc Nc Y' l1 hE' hEr TQ hTQ; k_cells Y'; (try simp only [List.cons_append, List.nil_append] at Nc); (try dsimp only); (try k_fold)))
  (k_steps <;> repeat' ((first | with_reducible refine stop_out ?_ | with_reducible show wpAny _ _ _ _ _ _); (first | ((k_here; (with_reducible show wpAny _ _ (binaryOp _ _ _) _ _ _); k_dflt (refine' mul_int ?_ (by first | assumption | exact mulok_fmod _ | mul_fits)))) | ((k_here; (with_reducible show wpAny _ _ (call (Value.builtin "len") [Value.ref _]) _ _ _); k_dflt (refine' len_lst (by k_asm) (by k_mem) (by first | assumption | (rw [sizeLine_eq]; omega) | (rw [sizeLine_eq]; exact Nat.le_of_ble_eq_true rfl)) ?_))) | ((k_here; (with_reducible show wpAny _ _ (call (Value.builtin _) [Value.ref _, _]) _ _ _); k_dflt (refine' append_L (by k_asm) (by k_asm) (by k_upd) (by first | assumption | (rw [sizeLine_eq]; omega) | (rw [sizeLine_eq]; exact Nat.le_of_ble_eq_true rfl)) ?_); intro _ _ _; (try k_sweep))) | ((k_here; (with_reducible show wpAny _ _ (call (Value.type "dict") [Value.ref _]) _ _ _); k_dflt (refine' dict_D (by exact Top.nolimit (by k_asm)) (by k_asm) (by k_asm) (by assumption) (by walk_at "sub") (by assumption) ?_); intro _ _ _ _ _ _ l1Q; (try k_lt l1Q); (try (revert l1Q; intro _)))) | fail "no word"); k_steps))
  all_goals (try (((repeat (first | refine veil (by assumption) ?_ | refine turn_ret ?_ | refine turn_brk ?_ | refine wturn_ret ?_ | refine wturn_brk ?_)); (try dsimp only))))
  rename_i oc dc d1 h2 o2 lo hs2 fs2 hi2 fi2 l2 l h3 l3 h4 F4 N4
  generalize hB : (l, lstO [Value.ref d1] 0) :: (d1, o2) :: (Lc + 1, oc) :: news = B0 at *
  replace N4 : News _ Lc h4 B0 := N4
  have hsubB : ∀ p ∈ news, p ∈ B0 := fun p hp => by rw [← hB]; exact .tail _ (.tail _ (.tail _ hp))
  have hF1 : FOk w B0 [] (.ref d1) := ⟨d1, [], rfl, ⟨o2, by rw [← hB]; exact .tail _ (.head _), ⟨⟨[], hi2, .nil⟩, lo⟩⟩, rfl, fun _ h => nomatch h⟩
  have hmB : (l, lstO [Value.ref d1] 0) ∈ B0 := by rw [← hB]; exact .head _
  refine use (s_rows (P := news) hsubB h1 G) (by assumption) (by assumption) N4 (by decide) ?_
  rintro r nx h5 tk5 F5 N5 hJ90
  refine hideG fun PP hPP => ?_
  obtain ⟨tl, rfl, Dr⟩ := hJ90
  refine hPP ?_
  clear hPP PP
  refine hideG fun PP hPP => ?_
  obtain ⟨rl, rn, rvs, rfl, mr, Dr⟩ := dat_list Dr
  refine hPP ?_
  clear hPP PP
  replace mr : (rl, lstO rvs rn) ∈ tl ++ B0 := by
    rcases List.mem_append.mp mr with h | h
    · exact List.mem_append_left _ h
    · exact List.mem_append_right _ (hsubB _ h)
  replace Dr := Dr.mono (news' := tl ++ B0) fun p hp => by
    rcases List.mem_append.mp hp with h | h
    · exact List.mem_append_left _ h
    · exact List.mem_append_right _ (hsubB _ h)
  (k_steps <;> repeat' ((first | with_reducible refine stop_out ?_ | with_reducible show wpAny _ _ _ _ _ _); (first | ((k_here; (with_reducible show wpAny _ _ (binaryOp _ _ _) _ _ _); k_dflt (refine' mul_int ?_ (by first | assumption | exact mulok_fmod _ | mul_fits)))) | ((k_here; (with_reducible show wpAny _ _ (call (Value.builtin "len") [Value.ref _]) _ _ _); k_dflt (refine' len_lst (by k_asm) (by k_mem) (by first | assumption | (rw [sizeLine_eq]; omega) | (rw [sizeLine_eq]; exact Nat.le_of_ble_eq_true rfl)) ?_))) | ((k_here; (with_reducible show wpAny _ _ (call (Value.builtin _) [Value.ref _, _]) _ _ _); k_dflt (refine' append_L (by k_asm) (by k_asm) (by k_upd) (by first | assumption | (rw [sizeLine_eq]; omega) | (rw [sizeLine_eq]; exact Nat.le_of_ble_eq_true rfl)) ?_); intro _ _ _; (try k_sweep))) | ((k_here; (with_reducible show wpAny _ _ (call (Value.type "dict") [Value.ref _]) _ _ _); k_dflt (refine' dict_D (by exact Top.nolimit (by k_asm)) (by k_asm) (by k_asm) (by assumption) (by walk_at "sub") (by assumption) ?_); intro _ _ _ _ _ _ l1Q; (try k_lt l1Q); (try (revert l1Q; intro _)))) | fail "no word"); k_steps))
  all_goals (try (((repeat (first | refine veil (by assumption) ?_ | refine turn_ret ?_ | refine turn_brk ?_ | refine wturn_ret ?_ | refine wturn_brk ?_)); (try dsimp only))))
  refine stop_out ?_
  refine for_list (vs := rvs) (nn := rn) rfl F5 (MaJ w (tl ++ B0) D most t) ?_ ?_ ?_ ?_ hE'
  · rintro i m nx ⟨fl, fvs, fn, tl2, rfl⟩; exact List.mem_append_right _ mr
  · exact ⟨_, N5, l, [.ref d1], 0, [], rfl, List.mem_append_right _ hmB, fun v hv => by rw [List.mem_singleton.mp hv]; exact hF1.mono fun p hp => List.mem_append_right _ hp, rfl, .inl (Nat.le_refl _), .inl rfl, rfl, rfl⟩
  · rintro i v m₁ nx h tk I oI hv hJ90 off F N TQ hTQ
    refine hideG fun PP hPP => ?_
    obtain ⟨fl, fvs, fn, tl2, rfl, mf, hfk, hfl, hf1, hf2, e1, e2⟩ := hJ90
    refine hPP ?_
    clear hPP PP
    have EE : AllB m₁ [(Str.ofString "found", .ref fl), (Str.ofString "most", .int most t)] := ⟨e1, e2, trivial⟩
    replace F := renL _ F EE
    refine hideG fun PP hPP => ?_
    obtain ⟨⟨p, y⟩, hq, Dq⟩ := dat_map Dr hv
    refine hPP ?_
    clear hPP PP
    have hqE := hE (p, y) (List.mem_of_getElem? hq)
    obtain ⟨hp3, hok⟩ := hqE
    refine hideG fun PP hPP => ?_
    obtain ⟨yy, yn, yt, yu, rfl, my, Dy⟩ := rdat_in Dq
    refine hPP ?_
    clear hPP PP
    generalize hkk : ((p, y).1 : Int) = k at my
    have hkk' : k = (p : Int) := hkk.symm
    (k_steps <;> repeat' ((first | with_reducible refine stop_out ?_ | with_reducible show wpAny _ _ _ _ _ _); (first | ((k_here; (with_reducible show wpAny _ _ (binaryOp _ _ _) _ _ _); k_dflt (refine' mul_int ?_ (by first | assumption | exact mulok_fmod _ | mul_fits)))) | ((k_here; (with_reducible show wpAny _ _ (call (Value.builtin "len") [Value.ref _]) _ _ _); k_dflt (refine' len_lst (by k_asm) (by k_mem) (by first | assumption | (rw [sizeLine_eq]; omega) | (rw [sizeLine_eq]; exact Nat.le_of_ble_eq_true rfl)) ?_))) | ((k_here; (with_reducible show wpAny _ _ (call (Value.builtin _) [Value.ref _, _]) _ _ _); k_dflt (refine' append_L (by k_asm) (by k_asm) (by k_upd) (by first | assumption | (rw [sizeLine_eq]; omega) | (rw [sizeLine_eq]; exact Nat.le_of_ble_eq_true rfl)) ?_); intro _ _ _; (try k_sweep))) | ((k_here; (with_reducible show wpAny _ _ (call (Value.type "dict") [Value.ref _]) _ _ _); k_dflt (refine' dict_D (by exact Top.nolimit (by k_asm)) (by k_asm) (by k_asm) (by assumption) (by walk_at "sub") (by assumption) ?_); intro _ _ _ _ _ _ l1Q; (try k_lt l1Q); (try (revert l1Q; intro _)))) | fail "no word"); k_steps))
    all_goals (try (((repeat (first | refine veil (by assumption) ?_ | refine turn_ret ?_ | refine turn_brk ?_ | refine wturn_ret ?_ | refine wturn_brk ?_)); (try dsimp only))))
    rw [fb hkk' hp3]
    (rename News _ _ _ _ => N9)
    refine useF (tm := [(_, _)]) (s_wish_masks (news := tl2 ++ (tl ++ B0)) (Dy.mono fun p hp => by walk_at "mem") hok (bits_le p)) (by assumption) (by assumption) N9 (off1 (by assumption)) (by decide) ?_
    rintro r8 nx8 h8 tk8 F8 N8 oo8 hJ90
    refine hideG fun PP hPP => ?_
    obtain ⟨⟨tl3, rfl⟩, Dm⟩ := hJ90
    refine hPP ?_
    clear hPP PP
    have oI3 : ∀ p ∈ tl3, p.1 ≠ I := fun p hp => on1 oo8 p (List.mem_append_left _ hp)
    replace N8 : News _ _ _ ((I, oI) :: (tl3 ++ (tl2 ++ (tl ++ B0)))) := N8
    replace N8 : News _ _ _ (tl3 ++ (I, oI) :: (tl2 ++ (tl ++ B0))) := nsub N8 fun p hp => by
      rcases List.mem_append.mp hp with hp | hp
      · exact .tail _ (List.mem_append_left _ hp)
      · rcases List.mem_cons.mp hp with rfl | hp
        · exact .head _
        · exact .tail _ (List.mem_append_right _ hp)
    replace Dm := Dm.mono (news' := tl3 ++ (I, oI) :: (tl2 ++ (tl ++ B0))) fun p hp => by
      rcases List.mem_append.mp hp with hp | hp
      · exact List.mem_append_left _ hp
      · exact List.mem_append_right _ (.tail _ hp)
    clear oo8
    refine hideG fun PP hPP => ?_
    obtain ⟨rl2, rn2, mvs, rfl, mr2, Dm⟩ := dat_list Dm
    refine hPP ?_
    clear hPP PP
    have hml := Dm.length
    rw [List.length_map] at hml
    have hml1 : mvs.length = mlen (p, y) := hml
    have hml2 := mlen_le (hE (p, y) (List.mem_of_getElem? hq))
    have hzm : mvs.length ≤ sizeLine := by rw [sizeLine_eq]; omega
    have hzf : fvs.length ≤ sizeLine := by rw [sizeLine_eq]; omega
    have hmul : IntMulOk (fvs.length : Int) (mvs.length : Int) := IntMulOk.of_right (intBits_le_64 (by omega) (by omega))
    have hstep := mcount_snoc hq
    (k_steps <;> repeat' ((first | with_reducible refine stop_out ?_ | with_reducible show wpAny _ _ _ _ _ _); (first | ((k_here; (with_reducible show wpAny _ _ (binaryOp _ _ _) _ _ _); k_dflt (refine' mul_int ?_ (by first | assumption | exact mulok_fmod _ | mul_fits)))) | ((k_here; (with_reducible show wpAny _ _ (call (Value.builtin "len") [Value.ref _]) _ _ _); k_dflt (refine' len_lst (by k_asm) (by k_mem) (by first | assumption | (rw [sizeLine_eq]; omega) | (rw [sizeLine_eq]; exact Nat.le_of_ble_eq_true rfl)) ?_))) | ((k_here; (with_reducible show wpAny _ _ (call (Value.builtin _) [Value.ref _, _]) _ _ _); k_dflt (refine' append_L (by k_asm) (by k_asm) (by k_upd) (by first | assumption | (rw [sizeLine_eq]; omega) | (rw [sizeLine_eq]; exact Nat.le_of_ble_eq_true rfl)) ?_); intro _ _ _; (try k_sweep))) | ((k_here; (with_reducible show wpAny _ _ (call (Value.type "dict") [Value.ref _]) _ _ _); k_dflt (refine' dict_D (by exact Top.nolimit (by k_asm)) (by k_asm) (by k_asm) (by assumption) (by walk_at "sub") (by assumption) ?_); intro _ _ _ _ _ _ l1Q; (try k_lt l1Q); (try (revert l1Q; intro _)))) | fail "no word"); k_steps))
    all_goals (try (((repeat (first | refine veil (by assumption) ?_ | refine turn_ret ?_ | refine turn_brk ?_ | refine wturn_ret ?_ | refine wturn_brk ?_)); (try dsimp only))))
    · refine stop_out ?_
      refine Raise_X (K := hd.heap_1 w.params) (C := 45) rfl (by k_is) (by k_is) ?_
      (k_steps <;> repeat' ((first | with_reducible refine stop_out ?_ | with_reducible show wpAny _ _ _ _ _ _); (first | ((k_here; (with_reducible show wpAny _ _ (binaryOp _ _ _) _ _ _); k_dflt (refine' mul_int ?_ (by first | assumption | exact mulok_fmod _ | mul_fits)))) | ((k_here; (with_reducible show wpAny _ _ (call (Value.builtin "len") [Value.ref _]) _ _ _); k_dflt (refine' len_lst (by k_asm) (by k_mem) (by first | assumption | (rw [sizeLine_eq]; omega) | (rw [sizeLine_eq]; exact Nat.le_of_ble_eq_true rfl)) ?_))) | ((k_here; (with_reducible show wpAny _ _ (call (Value.builtin _) [Value.ref _, _]) _ _ _); k_dflt (refine' append_L (by k_asm) (by k_asm) (by k_upd) (by first | assumption | (rw [sizeLine_eq]; omega) | (rw [sizeLine_eq]; exact Nat.le_of_ble_eq_true rfl)) ?_); intro _ _ _; (try k_sweep))) | ((k_here; (with_reducible show wpAny _ _ (call (Value.type "dict") [Value.ref _]) _ _ _); k_dflt (refine' dict_D (by exact Top.nolimit (by k_asm)) (by k_asm) (by k_asm) (by assumption) (by walk_at "sub") (by assumption) ?_); intro _ _ _ _ _ _ l1Q; (try k_lt l1Q); (try (revert l1Q; intro _)))) | fail "no word"); k_steps))
      all_goals (try (((repeat (first | refine veil (by assumption) ?_ | refine turn_ret ?_ | refine turn_brk ?_ | refine wturn_ret ?_ | refine wturn_brk ?_)); (try dsimp only))))
      (rename News _ _ _ _ => N9)
      refine use s_TableError (by assumption) (by assumption) N9 (by decide) ?_
      rintro r7 nx7 h7 tk7 F7 N7 hJ90
      refine hideG fun PP hPP => ?_
      obtain ⟨e, tl7, oe, tp7, rfl, rfl, hcl, hdt, hne⟩ := hJ90
      refine hPP ?_
      clear hPP PP
      have hEr2 : most < (mcount (srt D) : Int) := by
        have h1 := mcount_le_all hE (i + 1)
        have h2 := (by assumption : most < (fvs.length : Int) * (mvs.length : Int))
        rw [hstep, ← hfl, ← hml1] at h1
        have h3 : ((fvs.length * mvs.length : Nat) : Int) ≤ (mcount (srt D) : Int) := by exact_mod_cast h1
        rw [Int.natCast_mul] at h3
        exact Int.lt_of_lt_of_le h2 h3
      have hsn : ∀ p ∈ news, p ∈ (tl3 ++ (I, oI) :: (tl2 ++ (tl ++ B0))) := fun p hp => List.mem_append_right _ (.tail _ (List.mem_append_right _ (List.mem_append_right _ (hsubB p hp))))
      exact ⟨e, oe, _, rfl, Xc.keeps F7.keep, (N7 _ (.head _)).1, hcl, hdt, rfl, hEr e oe _ _ _ h7 tk7 _ hEr2 F7 N7 (.head _) hcl hdt rfl rfl (fun p hp => .tail _ (List.mem_append_right _ (hsn p hp))) (fun p hp => hne p (hsn p hp))⟩
    · have hle : fvs.length * mvs.length ≤ 300 := by
        have h2 := (by assumption : ¬ most < (fvs.length : Int) * (mvs.length : Int))
        have h3 : ((fvs.length * mvs.length : Nat) : Int) ≤ most := by rw [Int.natCast_mul]; omega
        omega
      have hle2 : ((fvs.length * mvs.length : Nat) : Int) ≤ most := by
        have h2 := (by assumption : ¬ most < (fvs.length : Int) * (mvs.length : Int))
        rw [Int.natCast_mul]; omega
      rename_i ll _ lt9 _ F9 N9
      generalize hBx : tl2 ++ (tl ++ B0) = Bx at *
      have nI : @Ne Nat I ll := Nat.ne_of_lt (lt9 (I, oI) (List.mem_append_right _ (.head _)))
      have hkeys : ((srt D).take (i + 1)).map (·.1) = ((srt D).take i).map (·.1) ++ [p] := by rw [take_snoc hq, List.map_append]; rfl
      have hpk : p ∉ ((srt D).take i).map (·.1) := nodup_take (f := fun q : Nat × Wish => q.1) (((srt_perm D).map _).nodup_iff.mpr G.nd) hq
      refine stop_out ?_
      refine for_list (vs := fvs) (nn := fn) rfl F9 (MbJ w ll (tl3 ++ (I, oI) :: Bx) (tl3 ++ Bx) I (((srt D).take (i + 1)).map (·.1)) mvs.length rl2 k yt most t) ?_ ?_ ?_ ?_ hE'
      · rintro j m nx2 ⟨lvs, ln, tl4, rfl⟩; exact .tail _ (List.mem_append_right _ (List.mem_append_right _ (.tail _ mf)))
      · exact ⟨_, N9, [], 0, [], rfl, fun p hp => Nat.ne_of_lt (lt9 p hp), (fun _ h => nomatch h), (fun _ h => nomatch h), by simp, rfl, rfl, rfl, rfl⟩
      · rintro j v2 m₂ nx2 h tk I2 oI2 hv2 hJ90 off2 F N TQ hTQ
        refine hideG fun PP hPP => ?_
        obtain ⟨lvs, ln, tl4, rfl, offl, off4, hlk, hll, f1, f2, f3, f4⟩ := hJ90
        refine hPP ?_
        clear hPP PP
        have EF : AllB m₂ [(Str.ofString "longer", .ref ll), (Str.ofString "rows", .ref rl2), (Str.ofString "place", .int k yt), (Str.ofString "most", .int most t)] := ⟨f1, f2, f3, f4, trivial⟩
        replace F := renL _ F EF
        refine hideG fun PP hPP => ?_
        obtain ⟨d2, D2, rfl, W2, hk2, hE2⟩ := hfk v2 (List.mem_of_getElem? hv2)
        refine hPP ?_
        clear hPP PP
        have hj : j < fvs.length := (List.getElem?_eq_some_iff.mp hv2).1
        have hD64 : D2.length < 64 := by
          have h1 : D2.length = (D2.map (·.1)).length := by rw [List.length_map]
          rw [hk2, List.length_map, List.length_take, (srt_perm D).length_eq] at h1
          have := G.len
          omega
        have n2 : @Ne Nat ll I2 := off2 (ll, _) (.head _)
        (k_steps <;> repeat' ((first | with_reducible refine stop_out ?_ | with_reducible show wpAny _ _ _ _ _ _); (first | ((k_here; (with_reducible show wpAny _ _ (binaryOp _ _ _) _ _ _); k_dflt (refine' mul_int ?_ (by first | assumption | exact mulok_fmod _ | mul_fits)))) | ((k_here; (with_reducible show wpAny _ _ (call (Value.builtin "len") [Value.ref _]) _ _ _); k_dflt (refine' len_lst (by k_asm) (by k_mem) (by first | assumption | (rw [sizeLine_eq]; omega) | (rw [sizeLine_eq]; exact Nat.le_of_ble_eq_true rfl)) ?_))) | ((k_here; (with_reducible show wpAny _ _ (call (Value.builtin _) [Value.ref _, _]) _ _ _); k_dflt (refine' append_L (by k_asm) (by k_asm) (by k_upd) (by first | assumption | (rw [sizeLine_eq]; omega) | (rw [sizeLine_eq]; exact Nat.le_of_ble_eq_true rfl)) ?_); intro _ _ _; (try k_sweep))) | ((k_here; (with_reducible show wpAny _ _ (call (Value.type "dict") [Value.ref _]) _ _ _); k_dflt (refine' dict_D (by exact Top.nolimit (by k_asm)) (by k_asm) (by k_asm) (by assumption) (by walk_at "sub") (by assumption) ?_); intro _ _ _ _ _ _ l1Q; (try k_lt l1Q); (try (revert l1Q; intro _)))) | fail "no word"); k_steps))
        all_goals (try (((repeat (first | refine veil (by assumption) ?_ | refine turn_ret ?_ | refine turn_brk ?_ | refine wturn_ret ?_ | refine wturn_brk ?_)); (try dsimp only))))
        refine stop_out ?_
        (rename Fr _ _ _ _ => F7)
        (rename News _ _ _ _ => N7)
        refine for_list (vs := mvs) (nn := rn2) rfl F7 (McJ w ll ((I2, oI2) :: (tl4 ++ (tl3 ++ (I, oI) :: Bx))) (tl4 ++ (tl3 ++ Bx)) I I2 (((srt D).take (i + 1)).map (·.1)) (j * mvs.length) rl2 k yt most t d2) ?_ ?_ ?_ ?_ hE'
        · rintro q m nx3 ⟨lvs, ln, tl5, rfl⟩; exact .tail _ (List.mem_append_right _ (.tail _ (List.mem_append_right _ mr2)))
        · refine ⟨_, nsub N7 ?_, lvs, ln, [], rfl, List.forall_mem_cons.mpr ⟨Ne.symm n2, offl⟩, (fun _ h => nomatch h), hlk, hll, rfl, rfl, rfl, rfl, rfl⟩
          intro p hp
          rcases List.mem_cons.mp hp with rfl | hp
          · exact .tail _ (.head _)
          · rcases List.mem_cons.mp hp with rfl | hp
            · exact .head _
            · exact .tail _ (.tail _ hp)
        · rintro q v3 m₃ nx3 h tk I3 oI3 hv3 hJ90 off3 F N TQ hTQ
          refine hideG fun PP hPP => ?_
          obtain ⟨lvs, ln, tl5, rfl, offl5, off5, hlk5, hll5, g1, g2, g3, g4, g5⟩ := hJ90
          refine hPP ?_
          clear hPP PP
          have EG : AllB m₃ [(Str.ofString "longer", .ref ll), (Str.ofString "rows", .ref rl2), (Str.ofString "place", .int k yt), (Str.ofString "most", .int most t), (Str.ofString "wishes", .ref d2)] := ⟨g1, g2, g3, g4, g5, trivial⟩
          replace F := renL _ F EG
          refine hideG fun PP hPP => ?_
          obtain ⟨⟨mv, mm⟩, hmq, Dq3⟩ := dat_map Dm hv3
          refine hPP ?_
          clear hPP PP
          refine hideG fun PP hPP => ?_
          obtain ⟨x3, n3, t3, u3, rfl, mx3⟩ := dat2 Dq3
          refine hPP ?_
          clear hPP PP
          have hqM : q < mvs.length := (List.getElem?_eq_some_iff.mp hv3).1
          have hzl : lvs.length ≤ sizeLine := by have := slot_lt hj hqM; rw [sizeLine_eq]; omega
          have n3' : @Ne Nat ll I3 := off3 (ll, _) (.head _)
          (k_steps <;> repeat' ((first | with_reducible refine stop_out ?_ | with_reducible show wpAny _ _ _ _ _ _); (first | ((k_here; (with_reducible show wpAny _ _ (binaryOp _ _ _) _ _ _); k_dflt (refine' mul_int ?_ (by first | assumption | exact mulok_fmod _ | mul_fits)))) | ((k_here; (with_reducible show wpAny _ _ (call (Value.builtin "len") [Value.ref _]) _ _ _); k_dflt (refine' len_lst (by k_asm) (by k_mem) (by first | assumption | (rw [sizeLine_eq]; omega) | (rw [sizeLine_eq]; exact Nat.le_of_ble_eq_true rfl)) ?_))) | ((k_here; (with_reducible show wpAny _ _ (call (Value.builtin _) [Value.ref _, _]) _ _ _); k_dflt (refine' append_L (by k_asm) (by k_asm) (by k_upd) (by first | assumption | (rw [sizeLine_eq]; omega) | (rw [sizeLine_eq]; exact Nat.le_of_ble_eq_true rfl)) ?_); intro _ _ _; (try k_sweep))) | ((k_here; (with_reducible show wpAny _ _ (call (Value.type "dict") [Value.ref _]) _ _ _); k_dflt (refine' dict_D (by exact Top.nolimit (by k_asm)) (by k_asm) (by k_asm) (by assumption) (by walk_at "sub") (by assumption) ?_); intro _ _ _ _ _ _ l1Q; (try k_lt l1Q); (try (revert l1Q; intro _)))) | fail "no word"); k_steps))
          all_goals (try (((repeat (first | refine veil (by assumption) ?_ | refine turn_ret ?_ | refine turn_brk ?_ | refine wturn_ret ?_ | refine wturn_brk ?_)); (try dsimp only))))
          rename_i X oX _ WX lX hR _ NR _ FT NT _ _
          have hTX : @LT.lt Nat _ X hR.objs.size := Heap.lt_size (NR _ (.head _)).1
          have lX2 : ∀ p ∈ tl5 ++ (I2, oI2) :: (tl4 ++ (tl3 ++ (I, oI) :: Bx)), @LT.lt Nat _ p.1 X := allLt_mem lX.2.2
          have hXr : ∀ p ∈ (I3, oI3) :: (ll, lstO lvs ln) :: (tl5 ++ (I2, oI2) :: (tl4 ++ (tl3 ++ (I, oI) :: Bx))), p.1 ≠ X := List.forall_mem_cons.mpr ⟨Nat.ne_of_lt lX.1, List.forall_mem_cons.mpr ⟨Nat.ne_of_lt lX.2.1, fun p hp => Nat.ne_of_lt (lX2 p hp)⟩⟩
          obtain ⟨t9, NT⟩ : ∃ t9, News _ _ _ ((hR.objs.size, tupO [.str (Str.ofString "mask") t9, .int (mv : Nat) t3, .int (mm : Nat) u3] 0) :: (X, oX) :: (I3, oI3) :: (ll, lstO lvs ln) :: (tl5 ++ (I2, oI2) :: (tl4 ++ (tl3 ++ (I, oI) :: Bx)))) := ⟨_, NT⟩
          have hW64 := hD64
          refine set_D2 (n0 := (hR.objs.size, tupO [.str (Str.ofString "mask") t9, .int (mv : Nat) t3, .int (mm : Nat) u3] 0) :: (tl5 ++ (tl4 ++ (tl3 ++ Bx)))) FT NT (.tail (Nat.ne_of_gt hTX) (.head hXr)) (WX.mono fun p hp => by walk_at "mem") hD64 hkk' (hk2 ▸ hpk) (x := .mask mv mm) ?_ ?_
          · exact DatIn.tuple (.head _) (.cons (.str _ _) (.cons (.int _ _) (.cons (.int _ _) .nil)))
          intro h9 o9 F9 N9 W9
          generalize hTs : hR.objs.size = T at *
          (k_steps <;> repeat' ((first | with_reducible refine stop_out ?_ | with_reducible show wpAny _ _ _ _ _ _); (first | ((k_here; (with_reducible show wpAny _ _ (binaryOp _ _ _) _ _ _); k_dflt (refine' mul_int ?_ (by first | assumption | exact mulok_fmod _ | mul_fits)))) | ((k_here; (with_reducible show wpAny _ _ (call (Value.builtin "len") [Value.ref _]) _ _ _); k_dflt (refine' len_lst (by k_asm) (by k_mem) (by first | assumption | (rw [sizeLine_eq]; omega) | (rw [sizeLine_eq]; exact Nat.le_of_ble_eq_true rfl)) ?_))) | ((k_here; (with_reducible show wpAny _ _ (call (Value.builtin _) [Value.ref _, _]) _ _ _); k_dflt (refine' append_L (by k_asm) (by k_asm) (by k_upd) (by first | assumption | (rw [sizeLine_eq]; omega) | (rw [sizeLine_eq]; exact Nat.le_of_ble_eq_true rfl)) ?_); intro _ _ _; (try k_sweep))) | ((k_here; (with_reducible show wpAny _ _ (call (Value.type "dict") [Value.ref _]) _ _ _); k_dflt (refine' dict_D (by exact Top.nolimit (by k_asm)) (by k_asm) (by k_asm) (by assumption) (by walk_at "sub") (by assumption) ?_); intro _ _ _ _ _ _ l1Q; (try k_lt l1Q); (try (revert l1Q; intro _)))) | fail "no word"); k_steps))
          all_goals (try (((repeat (first | refine veil (by assumption) ?_ | refine turn_ret ?_ | refine turn_brk ?_ | refine wturn_ret ?_ | refine wturn_brk ?_)); (try dsimp only))))
          rename_i _ h8 F8 N8
          have hI3X : @LT.lt Nat _ I3 X := lX.1
          have hllX : @LT.lt Nat _ ll X := lX.2.1
          have hIX : @LT.lt Nat _ I X := lX2 (I, oI) (List.mem_append_right _ (.tail _ (List.mem_append_right _ (List.mem_append_right _ (.head _)))))
          have hI2X : @LT.lt Nat _ I2 X := lX2 (I2, oI2) (List.mem_append_right _ (.head _))
          have hll3 : (ll, lstO (lvs ++ [Value.ref X]) (ln + 1)).1 ≠ I3 := n3'
          refine turn_next ((ll, lstO (lvs ++ [Value.ref X]) (ln + 1)) :: (((T, tupO [.str (Str.ofString "mask") t9, .int (mv : Nat) t3, .int (mm : Nat) u3] 0) :: (X, o9) :: tl5) ++ (I2, oI2) :: (tl4 ++ (tl3 ++ (I, oI) :: Bx)))) F8 N8 (.tail _ (.tail _ (.head _))) ?_ ?_
            ⟨lvs ++ [.ref X], ln + 1, (T, tupO [.str (Str.ofString "mask") t9, .int (mv : Nat) t3, .int (mm : Nat) u3] 0) :: (X, o9) :: tl5, rfl, List.forall_mem_cons.mpr ⟨Nat.ne_of_gt (Nat.lt_trans hllX hTX), List.forall_mem_cons.mpr ⟨Nat.ne_of_gt hllX, offl5⟩⟩, List.forall_mem_cons.mpr ⟨⟨Nat.ne_of_gt (Nat.lt_trans hIX hTX), Nat.ne_of_gt (Nat.lt_trans hI2X hTX)⟩, List.forall_mem_cons.mpr ⟨⟨Nat.ne_of_gt hIX, Nat.ne_of_gt hI2X⟩, off5⟩⟩, ?_, by rw [List.length_append, List.length_singleton]; omega, rfl, rfl, rfl, rfl, rfl⟩
          · intro p hp
            rcases List.mem_cons.mp hp with rfl | hp
            · exact .tail _ (.tail _ (.tail _ (.head _)))
            · rcases List.mem_cons.mp hp with rfl | hp
              · exact .head _
              · rcases List.mem_cons.mp hp with rfl | hp
                · exact .tail _ (.head _)
                · exact .tail _ (.tail _ (.tail _ (.tail _ hp)))
          · exact List.forall_mem_cons.mpr ⟨hll3, List.forall_mem_cons.mpr ⟨Nat.ne_of_gt (Nat.lt_trans hI3X hTX), List.forall_mem_cons.mpr ⟨Nat.ne_of_gt hI3X, fun p hp => off3 p (.tail _ hp)⟩⟩⟩
          · intro v hvm
            rcases List.mem_append.mp hvm with hvm | hvm
            · exact (hlk5 v hvm).mono fun p hp => .tail _ (.tail _ hp)
            · rw [List.mem_singleton.mp hvm]
              refine ⟨X, D2 ++ [(p, .mask mv mm)], rfl, ⟨o9, .tail _ (.head _), W9.mono fun p hp => ?_⟩, by rw [List.map_append, hk2, hkeys]; rfl, fun q hq => ?_⟩
              · rcases List.mem_cons.mp hp with rfl | hp
                · exact .head _
                · exact .tail _ (.tail _ hp)
              · rcases List.mem_append.mp hq with hq | hq
                · exact hE2 q hq
                · rw [List.mem_singleton.mp hq]
                  exact ⟨hp3, masks_ok hok (List.mem_of_getElem? hmq)⟩
        · rintro m₃ nx3 h tk hJ90 F N
          refine hideG fun PP hPP => ?_
          obtain ⟨lvs, ln, tl5, rfl, offl5, off5, hlk5, hll5, g1, g2, g3, g4, g5⟩ := hJ90
          refine hPP ?_
          clear hPP PP
          (k_steps <;> repeat' ((first | with_reducible refine stop_out ?_ | with_reducible show wpAny _ _ _ _ _ _); (first | ((k_here; (with_reducible show wpAny _ _ (binaryOp _ _ _) _ _ _); k_dflt (refine' mul_int ?_ (by first | assumption | exact mulok_fmod _ | mul_fits)))) | ((k_here; (with_reducible show wpAny _ _ (call (Value.builtin "len") [Value.ref _]) _ _ _); k_dflt (refine' len_lst (by k_asm) (by k_mem) (by first | assumption | (rw [sizeLine_eq]; omega) | (rw [sizeLine_eq]; exact Nat.le_of_ble_eq_true rfl)) ?_))) | ((k_here; (with_reducible show wpAny _ _ (call (Value.builtin _) [Value.ref _, _]) _ _ _); k_dflt (refine' append_L (by k_asm) (by k_asm) (by k_upd) (by first | assumption | (rw [sizeLine_eq]; omega) | (rw [sizeLine_eq]; exact Nat.le_of_ble_eq_true rfl)) ?_); intro _ _ _; (try k_sweep))) | ((k_here; (with_reducible show wpAny _ _ (call (Value.type "dict") [Value.ref _]) _ _ _); k_dflt (refine' dict_D (by exact Top.nolimit (by k_asm)) (by k_asm) (by k_asm) (by assumption) (by walk_at "sub") (by assumption) ?_); intro _ _ _ _ _ _ l1Q; (try k_lt l1Q); (try (revert l1Q; intro _)))) | fail "no word"); k_steps))
          all_goals (try (((repeat (first | refine veil (by assumption) ?_ | refine turn_ret ?_ | refine turn_brk ?_ | refine wturn_ret ?_ | refine wturn_brk ?_)); (try dsimp only))))
          (rename Fr _ _ _ _ => F6)
          (rename News _ _ _ _ => N6)
          refine turn_next ((ll, lstO lvs ln) :: ((tl5 ++ tl4) ++ (tl3 ++ (I, oI) :: Bx))) F6 N6 (.tail _ (List.mem_append_right _ (.head _))) ?_ ?_
            ⟨lvs, ln, tl5 ++ tl4, rfl, ?_, ?_, fun v hv => ?_, by rw [hll5, Nat.add_mul, Nat.one_mul], g1, g2, g3, g4⟩
          · walk_at "sub"
          · refine List.forall_mem_cons.mpr ⟨n2, fun p hp => ?_⟩
            rcases List.mem_append.mp hp with hp | hp
            · rcases List.mem_append.mp hp with hp | hp
              · exact (off5 p hp).2
              · exact off2 p (.tail _ (List.mem_append_left _ hp))
            · exact off2 p (.tail _ (List.mem_append_right _ hp))
          · intro p hp
            refine offl5 p (sub_use ?_ hp)
            walk_at "sub"
          · intro p hp
            rcases List.mem_append.mp hp with hp | hp
            · exact (off5 p hp).1
            · exact off4 p hp
          · have := hlk5 v hv
            rw [← List.append_assoc] at this
            exact this
      · rintro m₂ nx2 h tk hJ90 F N
        refine hideG fun PP hPP => ?_
        obtain ⟨lvs, ln, tl4, rfl, offl, off4, hlk, hll, f1, f2, f3, f4⟩ := hJ90
        refine hPP ?_
        clear hPP PP
        have EF : AllB m₂ [(Str.ofString "longer", .ref ll), (Str.ofString "rows", .ref rl2), (Str.ofString "place", .int k yt), (Str.ofString "most", .int most t)] := ⟨f1, f2, f3, f4, trivial⟩
        replace F := renL _ F EF
        (k_steps <;> repeat' ((first | with_reducible refine stop_out ?_ | with_reducible show wpAny _ _ _ _ _ _); (first | ((k_here; (with_reducible show wpAny _ _ (binaryOp _ _ _) _ _ _); k_dflt (refine' mul_int ?_ (by first | assumption | exact mulok_fmod _ | mul_fits)))) | ((k_here; (with_reducible show wpAny _ _ (call (Value.builtin "len") [Value.ref _]) _ _ _); k_dflt (refine' len_lst (by k_asm) (by k_mem) (by first | assumption | (rw [sizeLine_eq]; omega) | (rw [sizeLine_eq]; exact Nat.le_of_ble_eq_true rfl)) ?_))) | ((k_here; (with_reducible show wpAny _ _ (call (Value.builtin _) [Value.ref _, _]) _ _ _); k_dflt (refine' append_L (by k_asm) (by k_asm) (by k_upd) (by first | assumption | (rw [sizeLine_eq]; omega) | (rw [sizeLine_eq]; exact Nat.le_of_ble_eq_true rfl)) ?_); intro _ _ _; (try k_sweep))) | ((k_here; (with_reducible show wpAny _ _ (call (Value.type "dict") [Value.ref _]) _ _ _); k_dflt (refine' dict_D (by exact Top.nolimit (by k_asm)) (by k_asm) (by k_asm) (by assumption) (by walk_at "sub") (by assumption) ?_); intro _ _ _ _ _ _ l1Q; (try k_lt l1Q); (try (revert l1Q; intro _)))) | fail "no word"); k_steps))
        all_goals (try (((repeat (first | refine veil (by assumption) ?_ | refine turn_ret ?_ | refine turn_brk ?_ | refine wturn_ret ?_ | refine wturn_brk ?_)); (try dsimp only))))
        (rename Fr _ _ _ _ => F6)
        (rename News _ _ _ _ => N6)
        subst hBx
        refine turn_next (((ll, lstO lvs ln) :: (tl4 ++ (tl3 ++ tl2))) ++ (tl ++ B0)) F6 N6 (.tail _ (List.mem_append_right _ (List.mem_append_right _ (.head _)))) ?_ ?_
          ⟨ll, lvs, ln, (ll, lstO lvs ln) :: (tl4 ++ (tl3 ++ tl2)), rfl, .head _, fun v hv => (hlk v hv).mono fun p hp => ?_, by rw [hll, hstep, hml1, hfl], .inr (by rw [hll]; exact hle2), .inr (by rw [hll]; exact hle2), rfl, rfl⟩
        · walk_at "sub"
        · refine List.forall_mem_cons.mpr ⟨Ne.symm nI, fun p hp => ?_⟩
          replace hp : p ∈ (tl4 ++ (tl3 ++ tl2)) ++ (tl ++ B0) := hp
          have hp2 : p ∈ tl4 ∨ p ∈ tl3 ∨ p ∈ tl2 ++ (tl ++ B0) := by
            have hp3 : p ∈ tl4 ++ (tl3 ++ (tl2 ++ (tl ++ B0))) := sub_use (by walk_at "sub") hp
            exact (List.mem_append.mp hp3).imp id List.mem_append.mp
          rcases hp2 with hp | hp | hp
          · exact off4 p hp
          · exact oI3 p hp
          · exact off p hp
        · refine sub_use ?_ hp
          walk_at "sub"
  · rintro m₁ nx h tk hJ90 F N
    refine hideG fun PP hPP => ?_
    obtain ⟨fl, fvs, fn, tl2, rfl, mf, hfk, hfl, hf1, hf2, e1, e2⟩ := hJ90
    refine hPP ?_
    clear hPP PP
    have hrl : rvs.length = (srt D).length := by have := Dr.length; rw [List.length_map] at this; exact this
    rw [hrl, List.take_of_length_le (Nat.le_refl _)] at hfl hfk
    have EE : AllB m₁ [(Str.ofString "found", .ref fl), (Str.ofString "most", .int most t)] := ⟨e1, e2, trivial⟩
    replace F := renL _ F EE
    have hzf : fvs.length ≤ sizeLine := by rw [sizeLine_eq]; omega
    have hcm : (Lc + 1, oc) ∈ B0 := by rw [← hB]; exact .tail _ (.tail _ (.head _))
    generalize hBx : tl2 ++ (tl ++ B0) = Bx at *
    have hsB : ∀ p ∈ B0, p ∈ Bx := fun p hp => by rw [← hBx]; exact List.mem_append_right _ (List.mem_append_right _ hp)
    have hcm2 := hsB _ hcm
    have hm1 := hsB _ (hsubB _ m1)
    have hm2 := hsB _ (hsubB _ m2)
    (k_steps <;> repeat' ((first | with_reducible refine stop_out ?_ | with_reducible show wpAny _ _ _ _ _ _); (first | ((k_here; (with_reducible show wpAny _ _ (binaryOp _ _ _) _ _ _); k_dflt (refine' mul_int ?_ (by first | assumption | exact mulok_fmod _ | mul_fits)))) | ((k_here; (with_reducible show wpAny _ _ (call (Value.builtin "len") [Value.ref _]) _ _ _); k_dflt (refine' len_lst (by k_asm) (by k_mem) (by first | assumption | (rw [sizeLine_eq]; omega) | (rw [sizeLine_eq]; exact Nat.le_of_ble_eq_true rfl)) ?_))) | ((k_here; (with_reducible show wpAny _ _ (call (Value.builtin _) [Value.ref _, _]) _ _ _); k_dflt (refine' append_L (by k_asm) (by k_asm) (by k_upd) (by first | assumption | (rw [sizeLine_eq]; omega) | (rw [sizeLine_eq]; exact Nat.le_of_ble_eq_true rfl)) ?_); intro _ _ _; (try k_sweep))) | ((k_here; (with_reducible show wpAny _ _ (call (Value.type "dict") [Value.ref _]) _ _ _); k_dflt (refine' dict_D (by exact Top.nolimit (by k_asm)) (by k_asm) (by k_asm) (by assumption) (by walk_at "sub") (by assumption) ?_); intro _ _ _ _ _ _ l1Q; (try k_lt l1Q); (try (revert l1Q; intro _)))) | fail "no word"); k_steps))
    all_goals (try (((repeat (first | refine veil (by assumption) ?_ | refine turn_ret ?_ | refine turn_brk ?_ | refine wturn_ret ?_ | refine wturn_brk ?_)); (try dsimp only))))
    refine stop_out ?_
    refine LCg.ListComp_U (F₀ := F) (by with_unfolding_all rfl) (by decide) (by rfl) (by decide) (by rfl) ?_
    (k_steps <;> repeat' ((first | with_reducible refine stop_out ?_ | with_reducible show wpAny _ _ _ _ _ _); (first | ((k_here; (with_reducible show wpAny _ _ (binaryOp _ _ _) _ _ _); k_dflt (refine' mul_int ?_ (by first | assumption | exact mulok_fmod _ | mul_fits)))) | ((k_here; (with_reducible show wpAny _ _ (call (Value.builtin "len") [Value.ref _]) _ _ _); k_dflt (refine' len_lst (by k_asm) (by k_mem) (by first | assumption | (rw [sizeLine_eq]; omega) | (rw [sizeLine_eq]; exact Nat.le_of_ble_eq_true rfl)) ?_))) | ((k_here; (with_reducible show wpAny _ _ (call (Value.builtin _) [Value.ref _, _]) _ _ _); k_dflt (refine' append_L (by k_asm) (by k_asm) (by k_upd) (by first | assumption | (rw [sizeLine_eq]; omega) | (rw [sizeLine_eq]; exact Nat.le_of_ble_eq_true rfl)) ?_); intro _ _ _; (try k_sweep))) | ((k_here; (with_reducible show wpAny _ _ (call (Value.type "dict") [Value.ref _]) _ _ _); k_dflt (refine' dict_D (by exact Top.nolimit (by k_asm)) (by k_asm) (by k_asm) (by assumption) (by walk_at "sub") (by assumption) ?_); intro _ _ _ _ _ _ l1Q; (try k_lt l1Q); (try (revert l1Q; intro _)))) | fail "no word"); k_steps))
    all_goals (try (((repeat (first | refine veil (by assumption) ?_ | refine turn_ret ?_ | refine turn_brk ?_ | refine wturn_ret ?_ | refine wturn_brk ?_)); (try dsimp only))))
    refine LCg.CompSrc.ledger rfl (by assumption) (by assumption) mf (by rw [List.size_toArray]; exact hzf) ?_
    intro g1
    refine comp_rest (fun i ys nx => nx = Bx ∧ ys.length = i) ?_ ⟨rfl, rfl⟩ ?_ ?_
    · rintro i ys nx ⟨rfl, _⟩; exact .inr ⟨_, mf, rfl, _, rfl⟩
    · rintro i ys nx v I oI C oC Dl m₂ h tk E9 hi ⟨rfl, hyl⟩ hP hC hx F N off hJ90
      refine hideG fun PP hPP => ?_
      obtain ⟨ne1, ne2, ne3⟩ := hJ90
      refine hPP ?_
      clear hPP PP
      refine hideG fun PP hPP => ?_
      obtain ⟨d2, D2, rfl, W2, hk2, hE2⟩ := hfk v (List.mem_of_getElem? (by simpa using hP))
      refine hPP ?_
      clear hPP PP
      (k_steps <;> repeat' ((first | with_reducible refine stop_out ?_ | with_reducible show wpAny _ _ _ _ _ _); (first | ((k_here; (with_reducible show wpAny _ _ (binaryOp _ _ _) _ _ _); k_dflt (refine' mul_int ?_ (by first | assumption | exact mulok_fmod _ | mul_fits)))) | ((k_here; (with_reducible show wpAny _ _ (call (Value.builtin "len") [Value.ref _]) _ _ _); k_dflt (refine' len_lst (by k_asm) (by k_mem) (by first | assumption | (rw [sizeLine_eq]; omega) | (rw [sizeLine_eq]; exact Nat.le_of_ble_eq_true rfl)) ?_))) | ((k_here; (with_reducible show wpAny _ _ (call (Value.builtin _) [Value.ref _, _]) _ _ _); k_dflt (refine' append_L (by k_asm) (by k_asm) (by k_upd) (by first | assumption | (rw [sizeLine_eq]; omega) | (rw [sizeLine_eq]; exact Nat.le_of_ble_eq_true rfl)) ?_); intro _ _ _; (try k_sweep))) | ((k_here; (with_reducible show wpAny _ _ (call (Value.type "dict") [Value.ref _]) _ _ _); k_dflt (refine' dict_D (by exact Top.nolimit (by k_asm)) (by k_asm) (by k_asm) (by assumption) (by walk_at "sub") (by assumption) ?_); intro _ _ _ _ _ _ l1Q; (try k_lt l1Q); (try (revert l1Q; intro _)))) | fail "no word"); k_steps))
      all_goals (try (((repeat (first | refine veil (by assumption) ?_ | refine turn_ret ?_ | refine turn_brk ?_ | refine wturn_ret ?_ | refine wturn_brk ?_)); (try dsimp only))))
      have hD2 : D2.length < 64 := by
        have h1 : D2.length = (D2.map (·.1)).length := by rw [List.length_map]
        rw [hk2, List.length_map, (srt_perm D).length_eq] at h1
        have := G.len
        omega
      have G2 : DOk D2 := ⟨by rw [hk2]; exact ((srt_perm D).map _).nodup_iff.mpr G.nd, hE2, hD2⟩
      (rename News _ _ _ _ => N9)
      refine use (s_AclRule (.inl rfl) (P := nx) (fun p hp => .tail _ (.tail _ (.tail _ hp))) W2 G2) (by assumption) (by assumption) N9 (by decide) ?_
      rintro r9 nx9 h9 tk9 F9 N9 hJ90
      refine hideG fun PP hPP => ?_
      obtain ⟨tl9, rfl, _⟩ := hJ90
      refine hPP ?_
      clear hPP PP
      (try (((repeat (first | refine veil (by assumption) ?_ | refine turn_ret ?_ | refine turn_brk ?_ | refine wturn_ret ?_ | refine wturn_brk ?_)); (try dsimp only))))
      exact ⟨_, _, nx, _, rfl, F9, N9, by walk_at "mem", by walk_at "mem", by walk_at "mem", fun p hp => List.mem_append_right _ (.tail _ (.tail _ (.tail _ hp))), off, rfl, by rw [List.length_append, List.length_singleton, hyl]⟩
    · rintro ys nx ⟨rfl, hyl⟩
      intro Df hf tkf Ff Nf of
      (try (((repeat (first | refine veil (by assumption) ?_ | refine turn_ret ?_ | refine turn_brk ?_ | refine wturn_ret ?_ | refine wturn_brk ?_)); (try dsimp only))))
      (try (((repeat (first | refine veil (by assumption) ?_ | refine turn_ret ?_ | refine turn_brk ?_ | refine wturn_ret ?_ | refine wturn_brk ?_)); (try dsimp only))))
      refine ⟨_, _, (Df, LCg.lst ys) :: news, _, rfl, Ff, nsub Nf ?_, [(Df, LCg.lst ys)], Df, _, ys, rfl, rfl, .head _, ?_⟩
      · intro p hp
        rcases List.mem_cons.mp hp with rfl | hp
        · exact .head _
        · exact .tail _ (hsB _ (hsubB _ hp))
      · refine ⟨by rw [hyl, ← hfl]; simp, ?_⟩
        rw [← hfl]
        rcases hf2 with h | h
        · left
          rw [hrl, (srt_perm D).length_eq] at h
          exact List.eq_nil_of_length_eq_zero h
        · exact .inr h
end
section
theorem off_J3 : True := by w_top off; trivial
variable {w : World} {mean : ExcName → Option Value} {mg mb : Str → Option Value} {news : List (Addr × Obj)}
def Hid (P : Prop) : Prop := P
theorem s_masked_right {dw : Addr} {many : Int} {t : Tok} {D : List (Nat × Wish)} (W : HasW w news dw D) (G : DOk D) (hne : D ≠ []) (hm : many = (mcount (srt D) : Nat)) (hle : many ≤ 300) :
    Spec0 w mean mg mb 303 8 [.ref dw, .int many t] news (fun news' r => news' = news ∧ r = .bool true) := by
  have hE : ∀ q ∈ srt D, EOk q := fun q hq => G.mem q ((srt_perm D).mem_iff.mp hq)
  have hpos := mcount_pos hE
  have hm0 : 0 ≤ many := by omega
  refine' spec_intro0 ?ho ?hcd ?hb ?hl ?c1 ?c2 ?c3 ?c4 ?_
  case ho => k_is
  case hcd => k_is
  case hb => exact rfl
  case hl => exact rfl
  case c1 => exact rfl
  case c2 => exact rfl
  case c3 => exact rfl
  case c4 => decide
  k_whole
  intro dp' un' gd' fr' cn cs Lc a ccd A₁ base' g' L' h' ge' dr' os' tk' A9' E9' C' hr' hA' B' X' T' hAe D' XB TB F' N'
  replace hAe : Hid _ := hAe
  replace XB : Hid _ := XB
  replace TB : Hid _ := TB
  (try dsimp only [List.map, List.zip, List.zipWith, List.reverse, List.reverseAux] at F'); (try dsimp only); (try k_fold)
  (k_steps <;> repeat' ((first | with_reducible refine stop_out ?_ | with_reducible show wpAny _ _ _ _ _ _); (first | ((k_here; (with_reducible show wpAny _ _ (call (Value.builtin "len") [Value.ref _]) _ _ _); k_dflt (refine' len_lst (by k_asm) (by k_mem) (by first | assumption | (rw [sizeLine_eq]; omega) | (rw [sizeLine_eq]; exact Nat.le_of_ble_eq_true rfl)) ?_))) | fail "no word"); k_steps))
  all_goals (try (((repeat (first | refine veil (by assumption) ?_ | refine turn_ret ?_ | refine turn_brk ?_ | refine wturn_ret ?_ | refine wturn_brk ?_)); (try dsimp only))))
  (rename News _ _ _ _ => N9)
  refine use (s_AclRule (.inl rfl) (fun p hp => hp) W G) (by assumption) (by assumption) N9 (by decide) ?_
  rintro r1 nx1 h1 tk1 F1 N1 hJ90
  refine hideG fun PP hPP => ?_
  obtain ⟨tl1, rfl, R1⟩ := hJ90
  refine hPP ?_
  clear hPP PP
  (k_steps <;> repeat' ((first | with_reducible refine stop_out ?_ | with_reducible show wpAny _ _ _ _ _ _); (first | ((k_here; (with_reducible show wpAny _ _ (call (Value.builtin "len") [Value.ref _]) _ _ _); k_dflt (refine' len_lst (by k_asm) (by k_mem) (by first | assumption | (rw [sizeLine_eq]; omega) | (rw [sizeLine_eq]; exact Nat.le_of_ble_eq_true rfl)) ?_))) | fail "no word"); k_steps))
  all_goals (try (((repeat (first | refine veil (by assumption) ?_ | refine turn_ret ?_ | refine turn_brk ?_ | refine wturn_ret ?_ | refine wturn_brk ?_)); (try dsimp only))))
  (rename News _ _ _ _ => N9)
  refine use ((s_masked R1 G hm0 hle).spec (by omega)) (by assumption) (by assumption) N9 (by decide) ?_
  rintro r2 nx2 h2 tk2 F2 N2 hJ90
  refine hideG fun PP hPP => ?_
  obtain ⟨tl2, l2, n2, vs2, rfl, rfl, ml2, hv2, _⟩ := hJ90
  refine hPP ?_
  clear hPP PP
  have hz2 : vs2.length ≤ sizeLine := by rw [sizeLine_eq]; omega
  (k_steps <;> repeat' ((first | with_reducible refine stop_out ?_ | with_reducible show wpAny _ _ _ _ _ _); (first | ((k_here; (with_reducible show wpAny _ _ (call (Value.builtin "len") [Value.ref _]) _ _ _); k_dflt (refine' len_lst (by k_asm) (by k_mem) (by first | assumption | (rw [sizeLine_eq]; omega) | (rw [sizeLine_eq]; exact Nat.le_of_ble_eq_true rfl)) ?_))) | fail "no word"); k_steps))
  all_goals (try (((repeat (first | refine veil (by assumption) ?_ | refine turn_ret ?_ | refine turn_brk ?_ | refine wturn_ret ?_ | refine wturn_brk ?_)); (try dsimp only))))
  refine wpAny_Try_except ?_
  (k_steps <;> repeat' ((first | with_reducible refine stop_out ?_ | with_reducible show wpAny _ _ _ _ _ _); (first | ((k_here; (with_reducible show wpAny _ _ (call (Value.builtin "len") [Value.ref _]) _ _ _); k_dflt (refine' len_lst (by k_asm) (by k_mem) (by first | assumption | (rw [sizeLine_eq]; omega) | (rw [sizeLine_eq]; exact Nat.le_of_ble_eq_true rfl)) ?_))) | fail "no word"); k_steps))
  all_goals (try (((repeat (first | refine veil (by assumption) ?_ | refine turn_ret ?_ | refine turn_brk ?_ | refine wturn_ret ?_ | refine wturn_brk ?_)); (try dsimp only))))
  (rename Fr _ _ _ _ => F3)
  (rename News _ _ _ _ => N3)
  refine useX (s_masked (R1.mono fun p hp => List.mem_append_right _ hp) G (by omega) (by omega)) (by assumption) F3 N3 (by decide) ?_ ?_
  · rintro r4 nx4 h4 tk4 F4 N4 hJ90
    refine hideG fun PP hPP => ?_
    obtain ⟨_, _, _, _, _, _, _, _, hd⟩ := hJ90
    refine hPP ?_
    clear hPP PP
    exfalso
    rcases hd with h | h
    · exact hne h
    · omega
  · intro hq e G2 h3 tk3 RR FG US
    have hAe2 : A9' = A₁.deeper (envX (Str.ofString "_law_masked_right") _ L' 303 (.ref 302) []) := hAe
    rw [hAe2]
    refine kts_lookSN RR FG B' US D' fun h5 RR5 US5 => ?_
    refine hit_SN0 (KF := hd.heap_1 w.params) (g₀ := g') RR5 FG B' US5 XB TB D' KtsTurn.refl (by kts_test) (fun h6 g6 T6 F6 N6 B6 X6 P6 D6 => ?_) (PassesOwnAt.never)
    (k_steps <;> repeat' ((first | with_reducible refine stop_out ?_ | with_reducible show wpAny _ _ _ _ _ _); (first | ((k_here; (with_reducible show wpAny _ _ (call (Value.builtin "len") [Value.ref _]) _ _ _); k_dflt (refine' len_lst (by k_asm) (by k_mem) (by first | assumption | (rw [sizeLine_eq]; omega) | (rw [sizeLine_eq]; exact Nat.le_of_ble_eq_true rfl)) ?_))) | fail "no word"); k_steps))
    all_goals (try (((repeat (first | refine veil (by assumption) ?_ | refine turn_ret ?_ | refine turn_brk ?_ | refine wturn_ret ?_ | refine wturn_brk ?_)); (try dsimp only))))
    exact ⟨g6, L', h6, _, news, _, rfl, T6, F6, nsub N6 (fun p hp => by walk_at "mem"), rfl, rfl⟩
end
section
theorem off_J4 : True := by w_top off; trivial
variable {w : World} {mean : ExcName → Option Value} {mg mb : Str → Option Value} {news : List (Addr × Obj)}
local macro_rules | `(tactic| walk_at "subscriptTail") => `(tactic| (k_here; refine stop_in ?_))
theorem mcount_perm {A B : Rw} (h : A.Perm B) : mcount A = mcount B := by
  have key : ∀ n, A.foldl (fun n q => n * mlen q) n = B.foldl (fun n q => n * mlen q) n := by
    induction h with
    | nil => intro n; rfl
    | cons x _ ih => intro n; exact ih _
    | swap x y l => intro n; simp only [List.foldl_cons, Nat.mul_assoc, Nat.mul_comm (mlen x)]
    | trans _ _ h1 h2 => intro n; exact (h1 n).trans (h2 n)
  exact key 1
theorem mlen_range {p lo hi : Nat} (h : EOk (p, .range lo hi)) : mlen (p, .range lo hi) = blocks (bitsOf p) lo hi := L_blocks _ _ _ h.2.1 h.2.2
theorem s_law_many {dw : Addr} {D : List (Nat × Wish)} (W : HasW w news dw D) (G : DOk D) :
    Spec w mean mg mb 296 14 [.ref dw] news (fun news' r => news' = news ∧ ∃ t, r = .int (mcount D : Nat) t) := by
  refine hideG fun PP hPP => ?_
  obtain ⟨o, mo, W0⟩ := id W
  refine hPP ?_
  clear hPP PP
  have hn := G.nd
  ((refine' spec_intro (by k_is) (by k_is) (by exact rfl) (by exact rfl) (by exact rfl) (by exact rfl) (by exact rfl) (by decide) ?_; k_whole; intro dp' un' gd' fr' envc' outer' A₀' base' g' L' h' ge' dr' os' tk' A9' E9' C' hr' hA' B' X' T' F' N' T' hT'; (try dsimp only [List.map, List.zip, List.zipWith, List.reverse, List.reverseAux] at F'); (try dsimp only); (try k_fold)))
  (k_steps <;> repeat' ((first | with_reducible refine stop_out ?_ | with_reducible show wpAny _ _ _ _ _ _); (first | ((k_here; (with_reducible show wpAny _ _ (binaryOp _ _ _) _ _ _); k_dflt (refine' mul_int ?_ (by first | assumption | exact mulok_fmod _ | mul_fits)))) | ((k_here; (with_reducible show wpAny _ _ (subscriptTail _ _ (Value.ref _) (Value.int _ _)) _ _ _); k_dflt (first | (refine' item_list_at (by k_asm) (by k_mem) (by first | exact rfl | assumption) (by assumption) (by first | assumption | (rw [sizeLine_eq]; omega)) ?_ (by with_unfolding_all rfl)) | (refine' item_tup_at (by k_asm) (by k_mem) (by first | exact rfl | assumption) (by assumption) (by first | assumption | (rw [sizeLine_eq]; omega)) ?_ (by with_unfolding_all rfl)) | (refine' item_D (by k_asm) (by assumption) (by walk_at "sub") (by assumption) (by first | assumption | exact rfl) (by assumption) ?_ (by with_unfolding_all rfl) (by (intro _; with_unfolding_all rfl)); intro _ _)))) | fail "no word"); k_steps))
  all_goals (try (((repeat (first | refine veil (by assumption) ?_ | refine turn_ret ?_ | refine turn_brk ?_ | refine wturn_ret ?_ | refine wturn_brk ?_)); (try dsimp only))))
  refine stop_out ?_
  refine for_dict (o := o) (D := D) rfl (by assumption) W0 (fun i m nx => nx = news ∧ m (Str.ofString "wishes") = some (.ref dw) ∧ ∃ t, m (Str.ofString "many") = some (.int (mcount (D.take i) : Nat) t)) ?_ ?_ ?_ ?_ PassesOwn.never
  · rintro i m nx ⟨rfl, _⟩; exact mo
  · exact ⟨_, by assumption, rfl, rfl, _, rfl⟩
  · rintro i p x t m₁ nx h tk I oI hD hJ90 off F N TQ hTQ
    refine hideG fun PP hPP => ?_
    obtain ⟨rfl, e1, t9, e2⟩ := hJ90
    refine hPP ?_
    clear hPP PP
    have EE : AllB m₁ [(Str.ofString "wishes", .ref dw), (Str.ofString "many", .int (mcount (D.take i) : Nat) t9)] := ⟨e1, e2, trivial⟩
    replace F := renL _ F EE
    have hm : (p, x) ∈ D := List.mem_of_getElem? hD
    have hE := G.mem _ hm
    have hstep := mcount_snoc hD
    (k_steps <;> repeat' ((first | with_reducible refine stop_out ?_ | with_reducible show wpAny _ _ _ _ _ _); (first | ((k_here; (with_reducible show wpAny _ _ (binaryOp _ _ _) _ _ _); k_dflt (refine' mul_int ?_ (by first | assumption | exact mulok_fmod _ | mul_fits)))) | ((k_here; (with_reducible show wpAny _ _ (subscriptTail _ _ (Value.ref _) (Value.int _ _)) _ _ _); k_dflt (first | (refine' item_list_at (by k_asm) (by k_mem) (by first | exact rfl | assumption) (by assumption) (by first | assumption | (rw [sizeLine_eq]; omega)) ?_ (by with_unfolding_all rfl)) | (refine' item_tup_at (by k_asm) (by k_mem) (by first | exact rfl | assumption) (by assumption) (by first | assumption | (rw [sizeLine_eq]; omega)) ?_ (by with_unfolding_all rfl)) | (refine' item_D (by k_asm) (by assumption) (by walk_at "sub") (by assumption) (by first | assumption | exact rfl) (by assumption) ?_ (by with_unfolding_all rfl) (by (intro _; with_unfolding_all rfl)); intro _ _)))) | fail "no word"); k_steps))
    all_goals (try (((repeat (first | refine veil (by assumption) ?_ | refine turn_ret ?_ | refine turn_brk ?_ | refine wturn_ret ?_ | refine wturn_brk ?_)); (try dsimp only))))
    rename_i v9 hv9
    cases x with
    | mask a c =>
      refine hideG fun PP hPP => ?_
      obtain ⟨y, n, t1, u, z, rfl, my⟩ := datS2 hv9
      refine hPP ?_
      clear hPP PP
      (k_steps <;> repeat' ((first | with_reducible refine stop_out ?_ | with_reducible show wpAny _ _ _ _ _ _); (first | ((k_here; (with_reducible show wpAny _ _ (binaryOp _ _ _) _ _ _); k_dflt (refine' mul_int ?_ (by first | assumption | exact mulok_fmod _ | mul_fits)))) | ((k_here; (with_reducible show wpAny _ _ (subscriptTail _ _ (Value.ref _) (Value.int _ _)) _ _ _); k_dflt (first | (refine' item_list_at (by k_asm) (by k_mem) (by first | exact rfl | assumption) (by assumption) (by first | assumption | (rw [sizeLine_eq]; omega)) ?_ (by with_unfolding_all rfl)) | (refine' item_tup_at (by k_asm) (by k_mem) (by first | exact rfl | assumption) (by assumption) (by first | assumption | (rw [sizeLine_eq]; omega)) ?_ (by with_unfolding_all rfl)) | (refine' item_D (by k_asm) (by assumption) (by walk_at "sub") (by assumption) (by first | assumption | exact rfl) (by assumption) ?_ (by with_unfolding_all rfl) (by (intro _; with_unfolding_all rfl)); intro _ _)))) | fail "no word"); k_steps))
      all_goals (try (((repeat (first | refine veil (by assumption) ?_ | refine turn_ret ?_ | refine turn_brk ?_ | refine wturn_ret ?_ | refine wturn_brk ?_)); (try dsimp only))))
      refine turn_next nx (by assumption) (by assumption) (.head _) (fun p hp => .tail _ hp) off ⟨rfl, rfl, _, congrArg (fun z => some (Value.int z _)) ?_⟩
      rw [hstep]
      have : mlen (p, .mask a c) = 1 := rfl
      rw [this, Int.natCast_mul]; rfl
    | range a c =>
      refine hideG fun PP hPP => ?_
      obtain ⟨y, n, t1, u, z, rfl, my⟩ := datS2 hv9
      refine hPP ?_
      clear hPP PP
      (k_steps <;> repeat' ((first | with_reducible refine stop_out ?_ | with_reducible show wpAny _ _ _ _ _ _); (first | ((k_here; (with_reducible show wpAny _ _ (binaryOp _ _ _) _ _ _); k_dflt (refine' mul_int ?_ (by first | assumption | exact mulok_fmod _ | mul_fits)))) | ((k_here; (with_reducible show wpAny _ _ (subscriptTail _ _ (Value.ref _) (Value.int _ _)) _ _ _); k_dflt (first | (refine' item_list_at (by k_asm) (by k_mem) (by first | exact rfl | assumption) (by assumption) (by first | assumption | (rw [sizeLine_eq]; omega)) ?_ (by with_unfolding_all rfl)) | (refine' item_tup_at (by k_asm) (by k_mem) (by first | exact rfl | assumption) (by assumption) (by first | assumption | (rw [sizeLine_eq]; omega)) ?_ (by with_unfolding_all rfl)) | (refine' item_D (by k_asm) (by assumption) (by walk_at "sub") (by assumption) (by first | assumption | exact rfl) (by assumption) ?_ (by with_unfolding_all rfl) (by (intro _; with_unfolding_all rfl)); intro _ _)))) | fail "no word"); k_steps))
      all_goals (try (((repeat (first | refine veil (by assumption) ?_ | refine turn_ret ?_ | refine turn_brk ?_ | refine wturn_ret ?_ | refine wturn_brk ?_)); (try dsimp only))))
      (rename News _ _ _ _ => N9)
      refine use (s_law_bits hE.1) (by assumption) (by assumption) N9 (by decide) ?_
      rintro r1 nx1 h1 tk1 F1 N1 hJ90
      refine hideG fun PP hPP => ?_
      obtain ⟨rfl, t8, rfl⟩ := hJ90
      refine hPP ?_
      clear hPP PP
      have hb : bitsOf p ≤ 12 := bits_le p
      have hpw : (2 : Int) ^ ((bitsOf p : Int)).toNat = ((2 ^ bitsOf p : Nat) : Int) := by simp
      (k_steps <;> repeat' ((first | with_reducible refine stop_out ?_ | with_reducible show wpAny _ _ _ _ _ _); (first | ((k_here; (with_reducible show wpAny _ _ (binaryOp _ _ _) _ _ _); k_dflt (refine' mul_int ?_ (by first | assumption | exact mulok_fmod _ | mul_fits)))) | ((k_here; (with_reducible show wpAny _ _ (subscriptTail _ _ (Value.ref _) (Value.int _ _)) _ _ _); k_dflt (first | (refine' item_list_at (by k_asm) (by k_mem) (by first | exact rfl | assumption) (by assumption) (by first | assumption | (rw [sizeLine_eq]; omega)) ?_ (by with_unfolding_all rfl)) | (refine' item_tup_at (by k_asm) (by k_mem) (by first | exact rfl | assumption) (by assumption) (by first | assumption | (rw [sizeLine_eq]; omega)) ?_ (by with_unfolding_all rfl)) | (refine' item_D (by k_asm) (by assumption) (by walk_at "sub") (by assumption) (by first | assumption | exact rfl) (by assumption) ?_ (by with_unfolding_all rfl) (by (intro _; with_unfolding_all rfl)); intro _ _)))) | fail "no word"); k_steps))
      all_goals (try (((repeat (first | refine veil (by assumption) ?_ | refine turn_ret ?_ | refine turn_brk ?_ | refine wturn_ret ?_ | refine wturn_brk ?_)); (try dsimp only))))
      (rename News _ _ _ _ => N9)
      refine use (s_law_blocks (bitsOf p) rfl rfl hpw hE.2.1 hE.2.2) (by assumption) (by assumption) N9 (by show bitsOf p + 1 ≤ 13; omega) ?_
      rintro r2 nx2 h2 tk2 F2 N2 hJ90
      refine hideG fun PP hPP => ?_
      obtain ⟨rfl, t7, rfl⟩ := hJ90
      refine hPP ?_
      clear hPP PP
      have hml := mlen_le hE
      rw [mlen_range hE] at hml
      have hmul : IntMulOk (mcount (D.take i) : Int) ((blocks (bitsOf p) a c : Nat) : Int) := IntMulOk.of_right (intBits_le_64 (by omega) (by omega))
      (k_steps <;> repeat' ((first | with_reducible refine stop_out ?_ | with_reducible show wpAny _ _ _ _ _ _); (first | ((k_here; (with_reducible show wpAny _ _ (binaryOp _ _ _) _ _ _); k_dflt (refine' mul_int ?_ (by first | assumption | exact mulok_fmod _ | mul_fits)))) | ((k_here; (with_reducible show wpAny _ _ (subscriptTail _ _ (Value.ref _) (Value.int _ _)) _ _ _); k_dflt (first | (refine' item_list_at (by k_asm) (by k_mem) (by first | exact rfl | assumption) (by assumption) (by first | assumption | (rw [sizeLine_eq]; omega)) ?_ (by with_unfolding_all rfl)) | (refine' item_tup_at (by k_asm) (by k_mem) (by first | exact rfl | assumption) (by assumption) (by first | assumption | (rw [sizeLine_eq]; omega)) ?_ (by with_unfolding_all rfl)) | (refine' item_D (by k_asm) (by assumption) (by walk_at "sub") (by assumption) (by first | assumption | exact rfl) (by assumption) ?_ (by with_unfolding_all rfl) (by (intro _; with_unfolding_all rfl)); intro _ _)))) | fail "no word"); k_steps))
      all_goals (try (((repeat (first | refine veil (by assumption) ?_ | refine turn_ret ?_ | refine turn_brk ?_ | refine wturn_ret ?_ | refine wturn_brk ?_)); (try dsimp only))))
      refine turn_next nx (by assumption) (by assumption) (.head _) (fun p hp => .tail _ hp) off ⟨rfl, rfl, _, congrArg (fun z => some (Value.int z _)) ?_⟩
      rw [hstep, mlen_range hE, Int.natCast_mul]
  · rintro m₁ nx h tk hJ90 F N
    refine hideG fun PP hPP => ?_
    obtain ⟨rfl, e1, t9, e2⟩ := hJ90
    refine hPP ?_
    clear hPP PP
    have EE : AllB m₁ [(Str.ofString "wishes", .ref dw), (Str.ofString "many", .int (mcount (D.take D.length) : Nat) t9)] := ⟨e1, e2, trivial⟩
    replace F := renL _ F EE
    rw [List.take_of_length_le (Nat.le_refl _)] at F
    (k_steps <;> repeat' ((first | with_reducible refine stop_out ?_ | with_reducible show wpAny _ _ _ _ _ _); (first | ((k_here; (with_reducible show wpAny _ _ (binaryOp _ _ _) _ _ _); k_dflt (refine' mul_int ?_ (by first | assumption | exact mulok_fmod _ | mul_fits)))) | ((k_here; (with_reducible show wpAny _ _ (subscriptTail _ _ (Value.ref _) (Value.int _ _)) _ _ _); k_dflt (first | (refine' item_list_at (by k_asm) (by k_mem) (by first | exact rfl | assumption) (by assumption) (by first | assumption | (rw [sizeLine_eq]; omega)) ?_ (by with_unfolding_all rfl)) | (refine' item_tup_at (by k_asm) (by k_mem) (by first | exact rfl | assumption) (by assumption) (by first | assumption | (rw [sizeLine_eq]; omega)) ?_ (by with_unfolding_all rfl)) | (refine' item_D (by k_asm) (by assumption) (by walk_at "sub") (by assumption) (by first | assumption | exact rfl) (by assumption) ?_ (by with_unfolding_all rfl) (by (intro _; with_unfolding_all rfl)); intro _ _)))) | fail "no word"); k_steps))
    all_goals (try (((repeat (first | refine veil (by assumption) ?_ | refine turn_ret ?_ | refine turn_brk ?_ | refine wturn_ret ?_ | refine wturn_brk ?_)); (try dsimp only))))
    (try (((repeat (first | refine veil (by assumption) ?_ | refine turn_ret ?_ | refine turn_brk ?_ | refine wturn_ret ?_ | refine wturn_brk ?_)); (try dsimp only))))
    exact ⟨_, _, nx, _, rfl, F, N, rfl, _, rfl⟩
end
section
theorem off_J5 : True := by w_top off; trivial
variable {w : World} {mean : ExcName → Option Value} {mg mb : Str → Option Value} {news : List (Addr × Obj)}
theorem ite_nn (c : Prop) [Decidable c] : (0 : Int) ≤ if c then 1 else 0 := by split <;> decide
theorem len_heap {A : Around} {E : Value → Shared → Prop} {s : Shared} {h₀ : Heap} {L l : Addr} {m : Str → Option Value} {vs : List Value} {Q : Value → Shared → Prop} (F : Fr h₀ L s.heap m) (P : h₀.IsList l vs.toArray) (hz : vs.length ≤ sizeLine) (h : Q (.int vs.length (s.toks + 1)) { s with toks := s.toks + 1 + 1 }) :
    wpAny (model PR w) A (call (.builtin "len") [.ref l]) Q E s := by
  obtain ⟨o, e, c⟩ := P
  rw [sizeLine_eq] at hz
  have e9 : (vs.toArray).size = vs.length := by simp
  exact call_len_list ⟨o, F.keep _ _ e, c⟩ (by rw [e9]; omega) (by rw [e9]; exact h)
theorem s_law_pool {sc : Addr} {vs : List Value} {ns : List Int} {t : Tok} (hI : IntsAre vs ns) (hl : vs.length ≤ 63) :
    SpecP (fun h => h.IsList sc vs.toArray) w mean mg mb 254 1 [.ref sc, .int 0 t] news (fun news' r => ∃ src o, news' = (src, o) :: news ∧ (∀ p ∈ news, p.1 ≠ src) ∧ Src o ∧ r = .ref src) := by
  refine' spec_introP (fun h h' k ⟨o, e, c⟩ => ⟨o, k _ _ e, c⟩) ?ho ?hcd ?hb ?hl ?c1 ?c2 ?c3 ?c4 ?_
  case ho => k_is
  case hcd => k_is
  case hb => exact rfl
  case hl => exact rfl
  case c1 => exact rfl
  case c2 => exact rfl
  case c3 => exact rfl
  case c4 => decide
  k_whole
  intro dp' un' gd' fr' envc' outer' A₀' base' g' L' h' ge' dr' os' tk' A9' E9' C' hr' hA' B' X' T' P' F' N'
  (try dsimp only [List.map, List.zip, List.zipWith, List.reverse, List.reverseAux] at F'); (try dsimp only); (try k_fold)
  (k_steps <;> repeat' ((first | with_reducible refine stop_out ?_ | with_reducible show wpAny _ _ _ _ _ _); (first | ((k_here; (with_reducible show wpAny _ _ (binaryOp _ _ _) _ _ _); k_dflt (refine' mul_int ?_ (by first | assumption | exact mulok_fmod _ | mul_fits)))) | fail "no word"); k_steps))
  all_goals (try (((repeat (first | refine veil (by assumption) ?_ | refine turn_ret ?_ | refine turn_brk ?_ | refine wturn_ret ?_ | refine wturn_brk ?_)); (try dsimp only))))
  refine len_heap F' P' (by rw [sizeLine_eq]; omega) ?_
  (k_steps <;> repeat' ((first | with_reducible refine stop_out ?_ | with_reducible show wpAny _ _ _ _ _ _); (first | ((k_here; (with_reducible show wpAny _ _ (binaryOp _ _ _) _ _ _); k_dflt (refine' mul_int ?_ (by first | assumption | exact mulok_fmod _ | mul_fits)))) | fail "no word"); k_steps))
  all_goals (try (((repeat (first | refine veil (by assumption) ?_ | refine turn_ret ?_ | refine turn_brk ?_ | refine wturn_ret ?_ | refine wturn_brk ?_)); (try dsimp only))))
  all_goals (
    rename_i l9 _ F9 N9 l1
    (try (((repeat (first | refine veil (by assumption) ?_ | refine turn_ret ?_ | refine turn_brk ?_ | refine wturn_ret ?_ | refine wturn_brk ?_)); (try dsimp only))))
    refine ⟨_, _, _, _, rfl, F9, N9, l9, _, rfl, fun p hp => Nat.ne_of_lt (l1 p hp), ⟨_, _, _, _, _, rfl, Int.mul_nonneg (by split <;> omega) (ite_nn _), Int.fmod_nonneg_of_pos _ (by decide), Int.fmod_lt_of_pos _ (by decide)⟩, rfl⟩)
end
section
theorem off_K1 : True := by w_top off; trivial
variable {w : World} {mean : ExcName → Option Value} {mg mb : Str → Option Value} {news : List (Addr × Obj)}
local macro_rules | `(tactic| walk_at "subscriptTail") => `(tactic| (k_here; refine stop_in ?_))
local macro_rules | `(tactic| walk_at "eval Dict") => `(tactic| (k_here; (with_reducible show wpAny _ _ (eval (Expr.Dict (_ :: _) _ _) _) _ _ _); refine stop_in ?_))
local macro_rules | `(tactic| walk_at "setItem ref int") => `(tactic| (k_here; refine stop_in ?_))
local macro_rules | `(tactic| k_qdec) => `(tactic| decide +kernel)
structure PsOk (ps : List Nat) : Prop where
  nd : ps.Nodup
  mem : ∀ p ∈ ps, p = 3 ∨ p = 4 ∨ p = 7
  len : ps.length ≤ 3
def PlIn (news : List (Addr × Obj)) (v : Value) (ps : List Nat) : Prop := ∃ pl pn pvs, v = .ref pl ∧ (pl, lstO pvs pn) ∈ news ∧ IntsAre pvs (ps.map fun (p : Nat) => (p : Int))
theorem PlIn.mono {a b : List (Addr × Obj)} {v : Value} {ps : List Nat} (h : PlIn a v ps) (hs : ∀ p ∈ a, p ∈ b) : PlIn b v ps := let ⟨x, y, z, e, m, i⟩ := h; ⟨x, y, z, e, hs _ m, i⟩
theorem psOk_of {ps : List Nat} (h : decide ps.Nodup && ps.all (fun p => p == 3 || p == 4 || p == 7) && decide (ps.length ≤ 3) = true) : PsOk ps := by
  simp only [Bool.and_eq_true, decide_eq_true_eq, List.all_eq_true, Bool.or_eq_true, beq_iff_eq] at h
  exact ⟨h.1.1, fun p hp => by rcases h.1.2 p hp with (h | h) | h <;> simp [h], h.2⟩
theorem dict1 {d T : Addr} {o : Obj} {tk t1 t2 t3 : Tok} {n : Nat} {a c : Nat} (hd : o.IsDictOf (PySem.intKind PR w) (intKeyPairs [(.int 4 tk, .ref T)])) (lo : (d == sysModules) = false) (hT : (T, tupO [.str (Str.ofString "range") t1, .int (a : Nat) t2, .int (c : Nat) t3] n) ∈ news) : IsW w news d o [(4, .range a c)] :=
  ⟨⟨_, hd, .cons (DatIn.tuple hT (.cons (.str _ _) (.cons (.int _ _) (.cons (.int _ _) .nil)))) .nil⟩, lo⟩
theorem g4 {a c : Nat} (h1 : a ≤ c) (h2 : c < 8) : DOk [(4, .range a c)] :=
  ⟨by simp, fun q hq => by rw [List.mem_singleton.mp hq]; exact ⟨.inr (.inl rfl), h1, h2⟩, Nat.le_of_ble_eq_true rfl⟩
theorem m4 {a c : Nat} (h1 : a ≤ c) (h2 : c < 8) : mcount (srt [(4, .range a c)]) = blocks 3 a c := by
  rw [mcount_perm (srt_perm _)]
  have h : EOk (4, .range a c) := ⟨.inr (.inl rfl), h1, h2⟩
  have : mcount [(4, Wish.range a c)] = 1 * mlen (4, .range a c) := rfl
  rw [this, mlen_range h, Nat.one_mul]; rfl
theorem lawRoom (cn : Str) (cs : Scope) (L a : Addr) (ccd : Value) : Room (callerA.deeper (envOf cn cs L a ccd)) 20 :=
  ⟨rfl, by show 1 + claimMargin + 1 + 20 < recursionLimit; decide +kernel, by show 4 + 3 + 10 * 20 + 100 < cLine; decide +kernel⟩
theorem lawCx {cn : Str} {cs : Scope} {L a : Addr} {ccd : Value} {base : Heap} (K0 : Below callerA base [] base) (X : (hd.heap_1 w.params).In base) (T : Top topView Lz mean mg mb base) (hk : cs.kind = .function) :
    Cx w mean mg mb (callerA.deeper (envOf cn cs L a ccd)) 20 (envOf cn cs L a ccd) [] callerA base base L :=
  ⟨lawRoom _ _ _ _ _, Around.frames_deeper K0.stack, rfl, hk, K0, X, T⟩
theorem lawStart {cn : Str} {cs : Scope} {L a : Addr} {ccd : Value} {base : Heap} {body : List Stmt} {Q : Flow → Shared → Prop} {E : Value → Shared → Prop} {s : Shared} (K0 : Below callerA base [] base) (X : (hd.heap_1 w.params).In base) (T : Top topView Lz mean mg mb base) (hk : cs.kind = .function)
    (h : let A9 : Around := callerA.deeper (envOf cn cs L a ccd); let E9 : Env := envOf cn cs L a ccd; Cx w mean mg mb A9 20 E9 [] callerA base base L → wpAny (model PR w) A9 (execs body E9) Q E s) : wpAny (model PR w) (callerA.deeper (envOf cn cs L a ccd)) (execs body (envOf cn cs L a ccd)) Q E s := h (lawCx K0 X T hk)
theorem unveil {M : Model} {A : Around} {t : Sem Flow} {Q : Flow → Shared → Prop} {E : Value → Shared → Prop} {s : Shared} (h : ∀ T : Flow → Shared → Prop, Veil Q T → wpAny M A t T E s) : wpAny M A t Q E s := h _ veil0
theorem offs_nil {nx : List (Addr × Obj)} : ∀ p ∈ ([] : List (Addr × Obj)), ∀ q ∈ nx, q.1 ≠ p.1 := fun _ h => nomatch h
theorem offs_cons {nx tm : List (Addr × Obj)} {I : Addr} {a : Obj} (h : ∀ p ∈ nx, p.1 ≠ I) (t : ∀ p ∈ tm, ∀ q ∈ nx, q.1 ≠ p.1) : ∀ p ∈ (I, a) :: tm, ∀ q ∈ nx, q.1 ≠ p.1 := fun p hp => by
  cases hp with
  | head => exact h
  | tail _ hp => exact t p hp
inductive WaJ (w : World) (wd src : Addr) (R8 : List (Addr × Obj)) (ps : List Nat) (i : Nat) (m : Str → Option Value) (nx : List (Addr × Obj)) : Prop
  | mk (o' ow : Obj) (D : Rw) (tl : List (Addr × Obj)) (e : nx = (wd, ow) :: (src, o') :: (tl ++ R8)) (h1 : Src o') (h2 : ∀ p ∈ tl ++ R8, p.1 ≠ src) (h3 : ∀ p ∈ tl ++ R8, p.1 ≠ wd) (h4 : IsW w (tl ++ R8) wd ow D) (h5 : D.map (·.1) = ps.take i) (h6 : ∀ q ∈ D, EOk q)
    (b1 : m (Str.ofString "wishes") = some (.ref wd)) (b2 : m (Str.ofString "source") = some (.ref src))
inductive WbJ (w : World) (rl src : Addr) (i : Nat) (m : Str → Option Value) (nx : List (Addr × Obj)) : Prop
  | mk (o' : Obj) (Ds : List Rw) (rvs : List Value) (tl : List (Addr × Obj)) (rn : Nat) (e : nx = (rl, lstO rvs rn) :: (src, o') :: tl) (h1 : Src o') (h2 : ∀ p ∈ tl, p.1 ≠ src) (h3 : ∀ p ∈ tl, p.1 ≠ rl) (h4 : RAll w tl (Str.ofString "drop") rvs Ds) (h5 : ∀ D ∈ Ds, DOk D) (h6 : rvs.length = i)
    (b1 : m (Str.ofString "rules") = some (.ref rl)) (b2 : m (Str.ofString "source") = some (.ref src))
inductive WcJ (w : World) (wd src I rl : Addr) (oI : Obj) (rvs : List Value) (rn : Nat) (R9 : List (Addr × Obj)) (ps : List Nat) (i : Nat) (m : Str → Option Value) (nx : List (Addr × Obj)) : Prop
  | mk (o' ow : Obj) (D : Rw) (tl : List (Addr × Obj)) (e : nx = (wd, ow) :: (src, o') :: (I, oI) :: (rl, lstO rvs rn) :: (tl ++ R9)) (h1 : Src o') (h2 : ∀ p ∈ tl ++ R9, p.1 ≠ src) (h3 : ∀ p ∈ tl ++ R9, p.1 ≠ wd) (h3b : ∀ p ∈ tl ++ R9, p.1 ≠ I) (h3c : ∀ p ∈ tl ++ R9, p.1 ≠ rl) (h4 : IsW w (tl ++ R9) wd ow D) (h5 : D.map (·.1) = ps.take i) (h6 : ∀ q ∈ D, EOk q)
    (b1 : m (Str.ofString "rules") = some (.ref rl)) (b2 : m (Str.ofString "wishes") = some (.ref wd)) (b3 : m (Str.ofString "source") = some (.ref src))
theorem law_holds : PySem.Challenge.rw_pf0388_01.Holds := hd (by
  k_go0
  all_goals (try k_fold)
  (rename Below _ _ _ _ => K0)
  (rename Frag.In _ _ => KX)
  (rename Top _ _ _ _ _ _ => TT)
  (rename IntsAre _ _ => hI)
  (rename Heap.IsList _ _ _ => hL)
  (rename Fr _ _ _ _ => F)
  (rename News _ _ _ _ => N0)
  (rename ¬ _ => hlen)
  have hlen2 := hI.length
  rename Shared => s₁
  refine wpAny_mono (Q := fun f s' => Hidden (∃ h' tk m', s' = { s₁ with heap := h', toks := tk } ∧ Fr s₁.heap s₁.heap.objs.size h' m' ∧ f = .ret (.bool true))) (E := fun _ _ => False) ?_ ?_ (fun _ _ h => h.elim)
  rotate_left
  · rintro f s' hJ90
    refine hideG fun PP hPP => ?_
    obtain ⟨⟨h', tk, m', rfl, F', rfl⟩⟩ := hJ90
    refine hPP ?_
    clear hPP PP
    (k_steps <;> repeat' ((first | with_reducible refine stop_out ?_ | with_reducible show wpAny _ _ _ _ _ _); (first | ((k_here; (with_reducible show wpAny _ _ (call (Value.builtin _) [Value.ref _, _]) _ _ _); k_dflt (refine' append_L (by k_asm) (by k_asm) (by k_upd) (by first | assumption | (rw [sizeLine_eq]; omega) | (rw [sizeLine_eq]; exact Nat.le_of_ble_eq_true rfl)) ?_); intro _ _ _; (try k_sweep))) | ((k_here; (with_reducible show wpAny _ _ (subscriptTail _ _ (Value.ref _) (Value.int _ _)) _ _ _); k_dflt (first | (refine' item_list_at (by k_asm) (by k_mem) (by first | exact rfl | assumption) (by assumption) (by first | assumption | (rw [sizeLine_eq]; omega)) ?_ (by with_unfolding_all rfl)) | (refine' item_tup_at (by k_asm) (by k_mem) (by first | exact rfl | assumption) (by assumption) (by first | assumption | (rw [sizeLine_eq]; omega)) ?_ (by with_unfolding_all rfl)) | (refine' item_D (by k_asm) (by assumption) (by walk_at "sub") (by assumption) (by first | assumption | exact rfl) (by assumption) ?_ (by with_unfolding_all rfl) (by (intro _; with_unfolding_all rfl)); intro _ _)))) | fail "no word"); k_steps))
    all_goals (try (((repeat (first | refine veil (by assumption) ?_ | refine turn_ret ?_ | refine turn_brk ?_ | refine wturn_ret ?_ | refine wturn_brk ?_)); (try dsimp only))))
  dsimp only at F ⊢
  rename_i q1 q2 q3 q4 q5 q6 q7 q8 q9 q10 q11 q12 q13 q14 q15 q16 q17 q18 q19 q20 q21 q22 q23 q24 q25 q26 q27 q28 q29 q30 q31 q32 q33 q34 q35 q36 q37 q38 q39 q40
  (try clear q40); (try clear q39); (try clear q38); (try clear q37); (try clear q36); (try clear q35); (try clear q34); (try clear q33); (try clear q32); (try clear q31); (try clear q30); (try clear q29); (try clear q28); (try clear q27); (try clear q26); (try clear q25); (try clear q24); (try clear q23); (try clear q22); (try clear q21); (try clear q20); (try clear q19); (try clear q18); (try clear q17); (try clear q16); (try clear q15); (try clear q14); (try clear q13); (try clear q12); (try clear q11); (try clear q10); (try clear q9); (try clear q8); (try clear q7); (try clear q6); (try clear q5); (try clear q4); (try clear q3); (try clear q2); (try clear q1)
  rename World => w9
  replace K0 : Below callerA s₁.heap [] s₁.heap := K0
  refine hideG fun PP hPP => ?_
  obtain ⟨hp0, ge0, dr0, tk0, os0⟩ := s₁
  refine hPP ?_
  clear hPP PP
  (try dsimp only at *)
  refine lawStart K0 KX TT (by rfl) ?_
  intro A9 E9 C
  refine unveil fun TQ hTQ => ?_
  (k_steps <;> repeat' ((first | with_reducible refine stop_out ?_ | with_reducible show wpAny _ _ _ _ _ _); (first | ((k_here; (with_reducible show wpAny _ _ (call (Value.builtin _) [Value.ref _, _]) _ _ _); k_dflt (refine' append_L (by k_asm) (by k_asm) (by k_upd) (by first | assumption | (rw [sizeLine_eq]; omega) | (rw [sizeLine_eq]; exact Nat.le_of_ble_eq_true rfl)) ?_); intro _ _ _; (try k_sweep))) | ((k_here; (with_reducible show wpAny _ _ (subscriptTail _ _ (Value.ref _) (Value.int _ _)) _ _ _); k_dflt (first | (refine' item_list_at (by k_asm) (by k_mem) (by first | exact rfl | assumption) (by assumption) (by first | assumption | (rw [sizeLine_eq]; omega)) ?_ (by with_unfolding_all rfl)) | (refine' item_tup_at (by k_asm) (by k_mem) (by first | exact rfl | assumption) (by assumption) (by first | assumption | (rw [sizeLine_eq]; omega)) ?_ (by with_unfolding_all rfl)) | (refine' item_D (by k_asm) (by assumption) (by walk_at "sub") (by assumption) (by first | assumption | exact rfl) (by assumption) ?_ (by with_unfolding_all rfl) (by (intro _; with_unfolding_all rfl)); intro _ _)))) | fail "no word"); k_steps))
  all_goals (try (((repeat (first | refine veil (by assumption) ?_ | refine turn_ret ?_ | refine turn_brk ?_ | refine wturn_ret ?_ | refine wturn_brk ?_)); (try dsimp only))))
  refine stop_out ?_
  ((with_reducible refine' kdn_int (by k_dflt rfl) (by assumption) (by assumption) (by exact Top.nolimit (by assumption)) (by k_dflt rfl) (by k_dflt rfl) (by exact List.cons_ne_nil _ _) (by k_dflt (exact Nat.le_of_ble_eq_true rfl)) ?_))
  intro d1 h1 o1 F1 N1 l1 lo1 hd1
  (k_steps <;> repeat' ((first | with_reducible refine stop_out ?_ | with_reducible show wpAny _ _ _ _ _ _); (first | ((k_here; (with_reducible show wpAny _ _ (call (Value.builtin _) [Value.ref _, _]) _ _ _); k_dflt (refine' append_L (by k_asm) (by k_asm) (by k_upd) (by first | assumption | (rw [sizeLine_eq]; omega) | (rw [sizeLine_eq]; exact Nat.le_of_ble_eq_true rfl)) ?_); intro _ _ _; (try k_sweep))) | ((k_here; (with_reducible show wpAny _ _ (subscriptTail _ _ (Value.ref _) (Value.int _ _)) _ _ _); k_dflt (first | (refine' item_list_at (by k_asm) (by k_mem) (by first | exact rfl | assumption) (by assumption) (by first | assumption | (rw [sizeLine_eq]; omega)) ?_ (by with_unfolding_all rfl)) | (refine' item_tup_at (by k_asm) (by k_mem) (by first | exact rfl | assumption) (by assumption) (by first | assumption | (rw [sizeLine_eq]; omega)) ?_ (by with_unfolding_all rfl)) | (refine' item_D (by k_asm) (by assumption) (by walk_at "sub") (by assumption) (by first | assumption | exact rfl) (by assumption) ?_ (by with_unfolding_all rfl) (by (intro _; with_unfolding_all rfl)); intro _ _)))) | fail "no word"); k_steps))
  all_goals (try (((repeat (first | refine veil (by assumption) ?_ | refine turn_ret ?_ | refine turn_brk ?_ | refine wturn_ret ?_ | refine wturn_brk ?_)); (try dsimp only))))
  rename_i T1 _ _ _ _ _ oD _ _ hdD
  (rename Fr _ _ _ _ => F2)
  (rename News _ _ _ _ => N2)
  obtain ⟨ta, tb, tc, N2⟩ : ∃ ta tb tc, News _ _ _ [(T1, tupO [.str (Str.ofString "range") ta, .int (1 : Nat) tb, .int (6 : Nat) tc] 0), (d1, oD)] := ⟨_, _, _, N2⟩
  refine use0 (s_masked_right (D := [(4, .range 1 6)]) ⟨oD, .tail _ (.head _), dict1 hdD lo1 (.head _)⟩ (g4 (by decide) (by decide)) (by simp) (by rw [m4 (by decide) (by decide)]; rfl) (by decide)) C KX TT F2 N2 (by decide) ?_
  rintro r3 nx3 h3 tk3 F3 N3 ⟨rfl, rfl⟩
  replace N3 : News _ _ _ [] := nsub N3 (fun _ h => nomatch h)
  clear N2
  (k_steps <;> repeat' ((first | with_reducible refine stop_out ?_ | with_reducible show wpAny _ _ _ _ _ _); (first | ((k_here; (with_reducible show wpAny _ _ (call (Value.builtin _) [Value.ref _, _]) _ _ _); k_dflt (refine' append_L (by k_asm) (by k_asm) (by k_upd) (by first | assumption | (rw [sizeLine_eq]; omega) | (rw [sizeLine_eq]; exact Nat.le_of_ble_eq_true rfl)) ?_); intro _ _ _; (try k_sweep))) | ((k_here; (with_reducible show wpAny _ _ (subscriptTail _ _ (Value.ref _) (Value.int _ _)) _ _ _); k_dflt (first | (refine' item_list_at (by k_asm) (by k_mem) (by first | exact rfl | assumption) (by assumption) (by first | assumption | (rw [sizeLine_eq]; omega)) ?_ (by with_unfolding_all rfl)) | (refine' item_tup_at (by k_asm) (by k_mem) (by first | exact rfl | assumption) (by assumption) (by first | assumption | (rw [sizeLine_eq]; omega)) ?_ (by with_unfolding_all rfl)) | (refine' item_D (by k_asm) (by assumption) (by walk_at "sub") (by assumption) (by first | assumption | exact rfl) (by assumption) ?_ (by with_unfolding_all rfl) (by (intro _; with_unfolding_all rfl)); intro _ _)))) | fail "no word"); k_steps))
  all_goals (try (((repeat (first | refine veil (by assumption) ?_ | refine turn_ret ?_ | refine turn_brk ?_ | refine wturn_ret ?_ | refine wturn_brk ?_)); (try dsimp only))))
  refine stop_out ?_
  ((with_reducible refine' kdn_int (by k_dflt rfl) (by assumption) (by assumption) (by exact Top.nolimit (by assumption)) (by k_dflt rfl) (by k_dflt rfl) (by exact List.cons_ne_nil _ _) (by k_dflt (exact Nat.le_of_ble_eq_true rfl)) ?_))
  intro d4 h4 o4 F4 N4 l4 lo4 hd4
  (k_steps <;> repeat' ((first | with_reducible refine stop_out ?_ | with_reducible show wpAny _ _ _ _ _ _); (first | ((k_here; (with_reducible show wpAny _ _ (call (Value.builtin _) [Value.ref _, _]) _ _ _); k_dflt (refine' append_L (by k_asm) (by k_asm) (by k_upd) (by first | assumption | (rw [sizeLine_eq]; omega) | (rw [sizeLine_eq]; exact Nat.le_of_ble_eq_true rfl)) ?_); intro _ _ _; (try k_sweep))) | ((k_here; (with_reducible show wpAny _ _ (subscriptTail _ _ (Value.ref _) (Value.int _ _)) _ _ _); k_dflt (first | (refine' item_list_at (by k_asm) (by k_mem) (by first | exact rfl | assumption) (by assumption) (by first | assumption | (rw [sizeLine_eq]; omega)) ?_ (by with_unfolding_all rfl)) | (refine' item_tup_at (by k_asm) (by k_mem) (by first | exact rfl | assumption) (by assumption) (by first | assumption | (rw [sizeLine_eq]; omega)) ?_ (by with_unfolding_all rfl)) | (refine' item_D (by k_asm) (by assumption) (by walk_at "sub") (by assumption) (by first | assumption | exact rfl) (by assumption) ?_ (by with_unfolding_all rfl) (by (intro _; with_unfolding_all rfl)); intro _ _)))) | fail "no word"); k_steps))
  all_goals (try (((repeat (first | refine veil (by assumption) ?_ | refine turn_ret ?_ | refine turn_brk ?_ | refine wturn_ret ?_ | refine wturn_brk ?_)); (try dsimp only))))
  rename_i T4 _ _ _ _ _ oD4 _ _ hdD4
  (rename Fr _ _ _ _ => F5)
  (rename News _ _ _ _ => N5)
  obtain ⟨ta4, tb4, tc4, N5⟩ : ∃ ta tb tc, News _ _ _ [(T4, tupO [.str (Str.ofString "range") ta, .int (0 : Nat) tb, .int (7 : Nat) tc] 0), (d4, oD4)] := ⟨_, _, _, N5⟩
  refine use0 (s_masked_right (D := [(4, .range 0 7)]) ⟨oD4, .tail _ (.head _), dict1 hdD4 lo4 (.head _)⟩ (g4 (by decide) (by decide)) (by simp) (by rw [m4 (by decide) (by decide)]; rfl) (by decide)) C KX TT F5 N5 (by decide) ?_
  rintro r6 nx6 h6 tk6 F6 N6 ⟨rfl, rfl⟩
  replace N6 : News _ _ _ [] := nsub N6 (fun _ h => nomatch h)
  clear N5
  (k_steps <;> repeat' ((first | with_reducible refine stop_out ?_ | with_reducible show wpAny _ _ _ _ _ _); (first | ((k_here; (with_reducible show wpAny _ _ (call (Value.builtin _) [Value.ref _, _]) _ _ _); k_dflt (refine' append_L (by k_asm) (by k_asm) (by k_upd) (by first | assumption | (rw [sizeLine_eq]; omega) | (rw [sizeLine_eq]; exact Nat.le_of_ble_eq_true rfl)) ?_); intro _ _ _; (try k_sweep))) | ((k_here; (with_reducible show wpAny _ _ (subscriptTail _ _ (Value.ref _) (Value.int _ _)) _ _ _); k_dflt (first | (refine' item_list_at (by k_asm) (by k_mem) (by first | exact rfl | assumption) (by assumption) (by first | assumption | (rw [sizeLine_eq]; omega)) ?_ (by with_unfolding_all rfl)) | (refine' item_tup_at (by k_asm) (by k_mem) (by first | exact rfl | assumption) (by assumption) (by first | assumption | (rw [sizeLine_eq]; omega)) ?_ (by with_unfolding_all rfl)) | (refine' item_D (by k_asm) (by assumption) (by walk_at "sub") (by assumption) (by first | assumption | exact rfl) (by assumption) ?_ (by with_unfolding_all rfl) (by (intro _; with_unfolding_all rfl)); intro _ _)))) | fail "no word"); k_steps))
  all_goals (try (((repeat (first | refine veil (by assumption) ?_ | refine turn_ret ?_ | refine turn_brk ?_ | refine wturn_ret ?_ | refine wturn_brk ?_)); (try dsimp only))))
  refine useP (s_law_pool hI (by omega)) C hL F6 N6 (by decide) ?_
  rintro r7 nx7 h7 tk7 F7 N7 hJ90
  refine hideG fun PP hPP => ?_
  obtain ⟨src, o7, rfl, _, ho7, rfl⟩ := hJ90
  refine hPP ?_
  clear hPP PP
  clear N6
  (k_steps <;> repeat' ((first | with_reducible refine stop_out ?_ | with_reducible show wpAny _ _ _ _ _ _); (first | ((k_here; (with_reducible show wpAny _ _ (call (Value.builtin _) [Value.ref _, _]) _ _ _); k_dflt (refine' append_L (by k_asm) (by k_asm) (by k_upd) (by first | assumption | (rw [sizeLine_eq]; omega) | (rw [sizeLine_eq]; exact Nat.le_of_ble_eq_true rfl)) ?_); intro _ _ _; (try k_sweep))) | ((k_here; (with_reducible show wpAny _ _ (subscriptTail _ _ (Value.ref _) (Value.int _ _)) _ _ _); k_dflt (first | (refine' item_list_at (by k_asm) (by k_mem) (by first | exact rfl | assumption) (by assumption) (by first | assumption | (rw [sizeLine_eq]; omega)) ?_ (by with_unfolding_all rfl)) | (refine' item_tup_at (by k_asm) (by k_mem) (by first | exact rfl | assumption) (by assumption) (by first | assumption | (rw [sizeLine_eq]; omega)) ?_ (by with_unfolding_all rfl)) | (refine' item_D (by k_asm) (by assumption) (by walk_at "sub") (by assumption) (by first | assumption | exact rfl) (by assumption) ?_ (by with_unfolding_all rfl) (by (intro _; with_unfolding_all rfl)); intro _ _)))) | fail "no word"); k_steps))
  all_goals (try (((repeat (first | refine veil (by assumption) ?_ | refine turn_ret ?_ | refine turn_brk ?_ | refine wturn_ret ?_ | refine wturn_brk ?_)); (try dsimp only))))
  rename_i la _ lta lb _ ltb lc _ ltc ld _ ltd le _ lte lf _ F8 N8 ltf
  obtain ⟨va, vb, vc, vd, ve, ia, ib, ic, id', ie, N8⟩ : ∃ va vb vc vd ve : List Value, IntsAre va (([4] : List Nat).map fun (p : Nat) => (p : Int)) ∧ IntsAre vb (([4, 7] : List Nat).map fun (p : Nat) => (p : Int)) ∧ IntsAre vc (([7] : List Nat).map fun (p : Nat) => (p : Int)) ∧ IntsAre vd (([4, 3] : List Nat).map fun (p : Nat) => (p : Int)) ∧ IntsAre ve (([4, 7, 3] : List Nat).map fun (p : Nat) => (p : Int)) ∧
      News _ _ _ ((lf, lstO [.ref la, .ref lb, .ref lc, .ref ld, .ref le] 0) :: (le, lstO ve 0) :: (ld, lstO vd 0) :: (lc, lstO vc 0) :: (lb, lstO vb 0) :: (la, lstO va 0) :: [(src, o7)]) :=
    ⟨[_], [_, _], [_], [_, _], [_, _, _], .cons _ _ .nil, .cons _ _ (.cons _ _ .nil), .cons _ _ .nil, .cons _ _ (.cons _ _ .nil), .cons _ _ (.cons _ _ (.cons _ _ .nil)), N8⟩
  have hoff : ∀ p ∈ [(lf, lstO [.ref la, .ref lb, .ref lc, .ref ld, .ref le] 0), (le, lstO ve 0), (ld, lstO vd 0), (lc, lstO vc 0), (lb, lstO vb 0), (la, lstO va 0)], p.1 ≠ src := by
    refine List.forall_mem_cons.mpr ⟨?_, List.forall_mem_cons.mpr ⟨?_, List.forall_mem_cons.mpr ⟨?_, List.forall_mem_cons.mpr ⟨?_, List.forall_mem_cons.mpr ⟨?_, List.forall_mem_cons.mpr ⟨?_, fun _ h => nomatch h⟩⟩⟩⟩⟩⟩
    all_goals k_ne
  have hpl : ∀ v ∈ [Value.ref la, .ref lb, .ref lc, .ref ld, .ref le], ∃ ps, PlIn [(lf, lstO [.ref la, .ref lb, .ref lc, .ref ld, .ref le] 0), (le, lstO ve 0), (ld, lstO vd 0), (lc, lstO vc 0), (lb, lstO vb 0), (la, lstO va 0)] v ps ∧ PsOk ps ∧ ps ≠ [] := by
    refine List.forall_mem_cons.mpr ⟨⟨_, ⟨la, 0, va, rfl, by simp, ia⟩, psOk_of (by decide), by simp⟩, List.forall_mem_cons.mpr ⟨⟨_, ⟨lb, 0, vb, rfl, by simp, ib⟩, psOk_of (by decide), by simp⟩, List.forall_mem_cons.mpr ⟨⟨_, ⟨lc, 0, vc, rfl, by simp, ic⟩, psOk_of (by decide), by simp⟩, List.forall_mem_cons.mpr ⟨⟨_, ⟨ld, 0, vd, rfl, by simp, id'⟩, psOk_of (by decide), by simp⟩, List.forall_mem_cons.mpr ⟨⟨_, ⟨le, 0, ve, rfl, by simp, ie⟩, psOk_of (by decide), by simp⟩, fun _ h => nomatch h⟩⟩⟩⟩⟩
  have hmf : (lf, lstO [.ref la, .ref lb, .ref lc, .ref ld, .ref le] 0) ∈ [(lf, lstO [.ref la, .ref lb, .ref lc, .ref ld, .ref le] 0), (le, lstO ve 0), (ld, lstO vd 0), (lc, lstO vc 0), (lb, lstO vb 0), (la, lstO va 0)] := .head _
  replace N8 : News _ _ _ ((src, o7) :: [(lf, lstO [.ref la, .ref lb, .ref lc, .ref ld, .ref le] 0), (le, lstO ve 0), (ld, lstO vd 0), (lc, lstO vc 0), (lb, lstO vb 0), (la, lstO va 0)]) := nsub N8 (by walk_at "sub")
  generalize hlv : [Value.ref la, .ref lb, .ref lc, .ref ld, .ref le] = lvs at *
  have hlv5 : lvs.length = 5 := by rw [← hlv]; rfl
  generalize hR8 : [(lf, lstO lvs 0), (le, lstO ve 0), (ld, lstO vd 0), (lc, lstO vc 0), (lb, lstO vb 0), (la, lstO va 0)] = R8 at *
  clear hlv hR8 ia ib ic id' ie ltf lte ltd ltc ltb
  refine use (s_take hoff ho7 (by decide) (by decide)) C F8 N8 (by decide) ?_
  rintro r9 nx9 h9 tk9 F9 N9 hJ90
  refine hideG fun PP hPP => ?_
  obtain ⟨o9, td9, d9, rfl, ho9, rfl, hd9⟩ := hJ90
  refine hPP ?_
  clear hPP PP
  have hx9 : lvs[d9]? = some (lvs[d9]'(by omega)) := List.getElem?_eq_getElem _
  refine hideG fun PP hPP => ?_
  obtain ⟨ps, hplv, hps, hpne⟩ := hpl _ (List.mem_of_getElem? hx9)
  refine hPP ?_
  clear hPP PP
  generalize lvs[d9]'_ = v9 at hx9 hplv
  refine hideG fun PP hPP => ?_
  obtain ⟨pl, pn, pvs, rfl, mp, ip⟩ := hplv
  refine hPP ?_
  clear hPP PP
  clear N8
  (k_steps <;> repeat' ((first | with_reducible refine stop_out ?_ | with_reducible show wpAny _ _ _ _ _ _); (first | ((k_here; (with_reducible show wpAny _ _ (call (Value.builtin _) [Value.ref _, _]) _ _ _); k_dflt (refine' append_L (by k_asm) (by k_asm) (by k_upd) (by first | assumption | (rw [sizeLine_eq]; omega) | (rw [sizeLine_eq]; exact Nat.le_of_ble_eq_true rfl)) ?_); intro _ _ _; (try k_sweep))) | ((k_here; (with_reducible show wpAny _ _ (subscriptTail _ _ (Value.ref _) (Value.int _ _)) _ _ _); k_dflt (first | (refine' item_list_at (by k_asm) (by k_mem) (by first | exact rfl | assumption) (by assumption) (by first | assumption | (rw [sizeLine_eq]; omega)) ?_ (by with_unfolding_all rfl)) | (refine' item_tup_at (by k_asm) (by k_mem) (by first | exact rfl | assumption) (by assumption) (by first | assumption | (rw [sizeLine_eq]; omega)) ?_ (by with_unfolding_all rfl)) | (refine' item_D (by k_asm) (by assumption) (by walk_at "sub") (by assumption) (by first | assumption | exact rfl) (by assumption) ?_ (by with_unfolding_all rfl) (by (intro _; with_unfolding_all rfl)); intro _ _)))) | fail "no word"); k_steps))
  all_goals (try (((repeat (first | refine veil (by assumption) ?_ | refine turn_ret ?_ | refine turn_brk ?_ | refine wturn_ret ?_ | refine wturn_brk ?_)); (try dsimp only))))
  rename_i wd _ ow0 low _ _ hiw _ lw _ F10 N10
  have nsw : @Ne Nat src wd := Nat.ne_of_lt lw.1
  have hoffw : ∀ p ∈ R8, p.1 ≠ wd := fun p hp => Nat.ne_of_lt (allLt_mem lw.2 p hp)
  refine stop_out ?_
  refine for_list (vs := pvs) (nn := pn) rfl F10 (WaJ w9 wd src R8 ps) ?_ ?_ ?_ ?_ PassesOwn.never
  · rintro i m nx ⟨o', ow, D, tl, rfl⟩; exact .tail _ (.tail _ (List.mem_append_right _ mp))
  · exact ⟨_, N10, o9, ow0, [], [], rfl, ho9, hoff, hoffw, ⟨⟨[], hiw, .nil⟩, low⟩, by simp, (fun _ h => nomatch h), rfl, rfl⟩
  · rintro i v m₁ nx h tk I oI hv hJ90 off F N TQ hTQ
    refine hideG fun PP hPP => ?_
    obtain ⟨o', ow, D, tl, rfl, hs', offs, offw, hW, hDk, hDe, e1, e2⟩ := hJ90
    refine hPP ?_
    clear hPP PP
    have EE : AllB m₁ [(Str.ofString "wishes", .ref wd), (Str.ofString "source", .ref src)] := ⟨e1, e2, trivial⟩
    replace F := renL _ F EE
    refine hideG fun PP hPP => ?_
    obtain ⟨k, t, hk, rfl⟩ := ints_at ip hv
    refine hPP ?_
    clear hPP PP
    rw [List.getElem?_map] at hk
    refine hideG fun PP hPP => ?_
    obtain ⟨p, hp, rfl⟩ := Option.map_eq_some_iff.mp hk
    refine hPP ?_
    clear hPP PP
    have hp3 := hps.mem p (List.mem_of_getElem? hp)
    have hpk : p ∉ ps.take i := by
      have := nodup_take (f := fun q : Nat => q) (by rw [List.map_id']; exact hps.nd) hp
      rwa [List.map_id'] at this
    have hD64 : D.length < 64 := by
      have h1 : D.length = (D.map (·.1)).length := by rw [List.length_map]
      rw [hDk, List.length_take] at h1
      have := hps.len
      omega
    (k_steps <;> repeat' ((first | with_reducible refine stop_out ?_ | with_reducible show wpAny _ _ _ _ _ _); (first | ((k_here; (with_reducible show wpAny _ _ (call (Value.builtin _) [Value.ref _, _]) _ _ _); k_dflt (refine' append_L (by k_asm) (by k_asm) (by k_upd) (by first | assumption | (rw [sizeLine_eq]; omega) | (rw [sizeLine_eq]; exact Nat.le_of_ble_eq_true rfl)) ?_); intro _ _ _; (try k_sweep))) | ((k_here; (with_reducible show wpAny _ _ (subscriptTail _ _ (Value.ref _) (Value.int _ _)) _ _ _); k_dflt (first | (refine' item_list_at (by k_asm) (by k_mem) (by first | exact rfl | assumption) (by assumption) (by first | assumption | (rw [sizeLine_eq]; omega)) ?_ (by with_unfolding_all rfl)) | (refine' item_tup_at (by k_asm) (by k_mem) (by first | exact rfl | assumption) (by assumption) (by first | assumption | (rw [sizeLine_eq]; omega)) ?_ (by with_unfolding_all rfl)) | (refine' item_D (by k_asm) (by assumption) (by walk_at "sub") (by assumption) (by first | assumption | exact rfl) (by assumption) ?_ (by with_unfolding_all rfl) (by (intro _; with_unfolding_all rfl)); intro _ _)))) | fail "no word"); k_steps))
    all_goals (try (((repeat (first | refine veil (by assumption) ?_ | refine turn_ret ?_ | refine turn_brk ?_ | refine wturn_ret ?_ | refine wturn_brk ?_)); (try dsimp only))))
    (rename Fr _ _ _ _ => F11)
    (rename News _ _ _ _ => N11)
    refine useF (tm := [(I, oI), (wd, ow)]) (news := (src, o') :: (tl ++ R8)) (s_law_wish offs hs' hp3) C F11 N11 (offP (fun p hp => off p (.tail _ hp)) (List.forall_mem_cons.mpr ⟨nsw, offw⟩)) (by decide) ?_
    rintro r12 nx12 h12 tk12 F12 N12 oo hJ90
    refine hideG fun PP hPP => ?_
    obtain ⟨o2, tl2, x, rfl, ho2, hoff2, Dx, hx⟩ := hJ90
    refine hPP ?_
    clear hPP PP
    have p1 := onP1 oo
    have p2 := onP2 oo
    replace N12 : News _ _ _ ((I, oI) :: (wd, ow) :: (src, o2) :: (tl2 ++ (tl ++ R8))) := N12
    clear oo N11
    have nwI : @Ne Nat wd I := off (wd, ow) (.head _)
    (k_steps <;> repeat' ((first | with_reducible refine stop_out ?_ | with_reducible show wpAny _ _ _ _ _ _); (first | ((k_here; (with_reducible show wpAny _ _ (call (Value.builtin _) [Value.ref _, _]) _ _ _); k_dflt (refine' append_L (by k_asm) (by k_asm) (by k_upd) (by first | assumption | (rw [sizeLine_eq]; omega) | (rw [sizeLine_eq]; exact Nat.le_of_ble_eq_true rfl)) ?_); intro _ _ _; (try k_sweep))) | ((k_here; (with_reducible show wpAny _ _ (subscriptTail _ _ (Value.ref _) (Value.int _ _)) _ _ _); k_dflt (first | (refine' item_list_at (by k_asm) (by k_mem) (by first | exact rfl | assumption) (by assumption) (by first | assumption | (rw [sizeLine_eq]; omega)) ?_ (by with_unfolding_all rfl)) | (refine' item_tup_at (by k_asm) (by k_mem) (by first | exact rfl | assumption) (by assumption) (by first | assumption | (rw [sizeLine_eq]; omega)) ?_ (by with_unfolding_all rfl)) | (refine' item_D (by k_asm) (by assumption) (by walk_at "sub") (by assumption) (by first | assumption | exact rfl) (by assumption) ?_ (by with_unfolding_all rfl) (by (intro _; with_unfolding_all rfl)); intro _ _)))) | fail "no word"); k_steps))
    all_goals (try (((repeat (first | refine veil (by assumption) ?_ | refine turn_ret ?_ | refine turn_brk ?_ | refine wturn_ret ?_ | refine wturn_brk ?_)); (try dsimp only))))
    (rename Fr _ _ _ _ => F13)
    (rename News _ _ _ _ => N13)
    refine set_D2 (n0 := tl2 ++ (tl ++ R8)) F13 N13 (.tail (Ne.symm nwI) (.head p2)) (hW.mono fun p hp => by walk_at "mem") hD64 rfl (hDk ▸ hpk) Dx ?_
    intro h14 o14 F14 N14 W14
    (k_steps <;> repeat' ((first | with_reducible refine stop_out ?_ | with_reducible show wpAny _ _ _ _ _ _); (first | ((k_here; (with_reducible show wpAny _ _ (call (Value.builtin _) [Value.ref _, _]) _ _ _); k_dflt (refine' append_L (by k_asm) (by k_asm) (by k_upd) (by first | assumption | (rw [sizeLine_eq]; omega) | (rw [sizeLine_eq]; exact Nat.le_of_ble_eq_true rfl)) ?_); intro _ _ _; (try k_sweep))) | ((k_here; (with_reducible show wpAny _ _ (subscriptTail _ _ (Value.ref _) (Value.int _ _)) _ _ _); k_dflt (first | (refine' item_list_at (by k_asm) (by k_mem) (by first | exact rfl | assumption) (by assumption) (by first | assumption | (rw [sizeLine_eq]; omega)) ?_ (by with_unfolding_all rfl)) | (refine' item_tup_at (by k_asm) (by k_mem) (by first | exact rfl | assumption) (by assumption) (by first | assumption | (rw [sizeLine_eq]; omega)) ?_ (by with_unfolding_all rfl)) | (refine' item_D (by k_asm) (by assumption) (by walk_at "sub") (by assumption) (by first | assumption | exact rfl) (by assumption) ?_ (by with_unfolding_all rfl) (by (intro _; with_unfolding_all rfl)); intro _ _)))) | fail "no word"); k_steps))
    all_goals (try (((repeat (first | refine veil (by assumption) ?_ | refine turn_ret ?_ | refine turn_brk ?_ | refine wturn_ret ?_ | refine wturn_brk ?_)); (try dsimp only))))
    (rename Fr _ _ _ _ => F15)
    (rename News _ _ _ _ => N15)
    refine turn_next ((wd, o14) :: (src, o2) :: ((tl2 ++ tl) ++ R8)) F15 N15 (.head _) (fun p hp => by rw [List.append_assoc] at hp; exact .tail _ hp) ?_
      ⟨o2, o14, D ++ [(p, x)], tl2 ++ tl, rfl, ho2, by rw [List.append_assoc]; exact hoff2, fun p hp => p2 p (.tail _ (by rw [← List.append_assoc]; exact hp)), by rw [List.append_assoc]; exact W14, by rw [List.map_append, hDk, take_snoc hp]; rfl, fun q hq => ?_, rfl, rfl⟩
    · refine List.forall_mem_cons.mpr ⟨nwI, fun p hp => p1 p ?_⟩
      rw [List.append_assoc] at hp; exact hp
    · rcases List.mem_append.mp hq with hq | hq
      · exact hDe q hq
      · rw [List.mem_singleton.mp hq]; exact ⟨hp3, hx⟩
  · rintro m₁ nx h tk hJ90 F N
    refine hideG fun PP hPP => ?_
    obtain ⟨o', ow, D, tl, rfl, hs', offs, offw, hW, hDk, hDe, e1, e2⟩ := hJ90
    refine hPP ?_
    clear hPP PP
    have EE : AllB m₁ [(Str.ofString "wishes", .ref wd), (Str.ofString "source", .ref src)] := ⟨e1, e2, trivial⟩
    replace F := renL _ F EE
    have hpvl : ps.take pvs.length = ps := by
      have := ip.length
      rw [List.length_map] at this
      rw [this, List.take_length]
    rw [hpvl] at hDk
    have hDne : D ≠ [] := by rintro rfl; exact hpne hDk.symm
    have hG : DOk D := ⟨by rw [hDk]; exact hps.nd, hDe, by
      have h1 : D.length = (D.map (·.1)).length := by rw [List.length_map]
      rw [hDk] at h1
      have := hps.len
      omega⟩
    have hHW : HasW w9 ((wd, ow) :: (src, o') :: (tl ++ R8)) wd D := ⟨ow, .head _, hW.mono fun p hp => by walk_at "mem"⟩
    clear hDk hDe hpvl hW e1 e2 EE
    dsimp only
    refine exec_cut (fun s' => ∃ h' tk m', s' = ⟨h', ge0, dr0, tk, os0⟩ ∧ Fr hp0 hp0.objs.size h' m' ∧ News hp0 hp0.objs.size h' [(src, o')] ∧ m' (Str.ofString "source") = some (.ref src)) ?_ ?_
    · (k_steps <;> repeat' ((first | with_reducible refine stop_out ?_ | with_reducible show wpAny _ _ _ _ _ _); (first | ((k_here; (with_reducible show wpAny _ _ (call (Value.builtin _) [Value.ref _, _]) _ _ _); k_dflt (refine' append_L (by k_asm) (by k_asm) (by k_upd) (by first | assumption | (rw [sizeLine_eq]; omega) | (rw [sizeLine_eq]; exact Nat.le_of_ble_eq_true rfl)) ?_); intro _ _ _; (try k_sweep))) | ((k_here; (with_reducible show wpAny _ _ (subscriptTail _ _ (Value.ref _) (Value.int _ _)) _ _ _); k_dflt (first | (refine' item_list_at (by k_asm) (by k_mem) (by first | exact rfl | assumption) (by assumption) (by first | assumption | (rw [sizeLine_eq]; omega)) ?_ (by with_unfolding_all rfl)) | (refine' item_tup_at (by k_asm) (by k_mem) (by first | exact rfl | assumption) (by assumption) (by first | assumption | (rw [sizeLine_eq]; omega)) ?_ (by with_unfolding_all rfl)) | (refine' item_D (by k_asm) (by assumption) (by walk_at "sub") (by assumption) (by first | assumption | exact rfl) (by assumption) ?_ (by with_unfolding_all rfl) (by (intro _; with_unfolding_all rfl)); intro _ _)))) | fail "no word"); k_steps))
      all_goals (try (((repeat (first | refine veil (by assumption) ?_ | refine turn_ret ?_ | refine turn_brk ?_ | refine wturn_ret ?_ | refine wturn_brk ?_)); (try dsimp only))))
      (rename Fr _ _ _ _ => F20)
      (rename News _ _ _ _ => N20)
      refine use (s_law_many hHW hG) C F20 N20 (by decide) ?_
      rintro r21 nx21 h21 tk21 F21 N21 hJ90
      refine hideG fun PP hPP => ?_
      obtain ⟨rfl, tm21, rfl⟩ := hJ90
      refine hPP ?_
      clear hPP PP
      (k_steps <;> repeat' ((first | with_reducible refine stop_out ?_ | with_reducible show wpAny _ _ _ _ _ _); (first | ((k_here; (with_reducible show wpAny _ _ (call (Value.builtin _) [Value.ref _, _]) _ _ _); k_dflt (refine' append_L (by k_asm) (by k_asm) (by k_upd) (by first | assumption | (rw [sizeLine_eq]; omega) | (rw [sizeLine_eq]; exact Nat.le_of_ble_eq_true rfl)) ?_); intro _ _ _; (try k_sweep))) | ((k_here; (with_reducible show wpAny _ _ (subscriptTail _ _ (Value.ref _) (Value.int _ _)) _ _ _); k_dflt (first | (refine' item_list_at (by k_asm) (by k_mem) (by first | exact rfl | assumption) (by assumption) (by first | assumption | (rw [sizeLine_eq]; omega)) ?_ (by with_unfolding_all rfl)) | (refine' item_tup_at (by k_asm) (by k_mem) (by first | exact rfl | assumption) (by assumption) (by first | assumption | (rw [sizeLine_eq]; omega)) ?_ (by with_unfolding_all rfl)) | (refine' item_D (by k_asm) (by assumption) (by walk_at "sub") (by assumption) (by first | assumption | exact rfl) (by assumption) ?_ (by with_unfolding_all rfl) (by (intro _; with_unfolding_all rfl)); intro _ _)))) | fail "no word"); k_steps))
      all_goals (try (((repeat (first | refine veil (by assumption) ?_ | refine turn_ret ?_ | refine turn_brk ?_ | refine wturn_ret ?_ | refine wturn_brk ?_)); (try dsimp only))))
      · (rename News _ _ _ _ => N22)
        refine use (s_law_many hHW hG) C F21 N22 (by decide) ?_
        rintro r23 nx23 h23 tk23 F23 N23 hJ90
        refine hideG fun PP hPP => ?_
        obtain ⟨rfl, tm23, rfl⟩ := hJ90
        refine hPP ?_
        clear hPP PP
        (k_steps <;> repeat' ((first | with_reducible refine stop_out ?_ | with_reducible show wpAny _ _ _ _ _ _); (first | ((k_here; (with_reducible show wpAny _ _ (call (Value.builtin _) [Value.ref _, _]) _ _ _); k_dflt (refine' append_L (by k_asm) (by k_asm) (by k_upd) (by first | assumption | (rw [sizeLine_eq]; omega) | (rw [sizeLine_eq]; exact Nat.le_of_ble_eq_true rfl)) ?_); intro _ _ _; (try k_sweep))) | ((k_here; (with_reducible show wpAny _ _ (subscriptTail _ _ (Value.ref _) (Value.int _ _)) _ _ _); k_dflt (first | (refine' item_list_at (by k_asm) (by k_mem) (by first | exact rfl | assumption) (by assumption) (by first | assumption | (rw [sizeLine_eq]; omega)) ?_ (by with_unfolding_all rfl)) | (refine' item_tup_at (by k_asm) (by k_mem) (by first | exact rfl | assumption) (by assumption) (by first | assumption | (rw [sizeLine_eq]; omega)) ?_ (by with_unfolding_all rfl)) | (refine' item_D (by k_asm) (by assumption) (by walk_at "sub") (by assumption) (by first | assumption | exact rfl) (by assumption) ?_ (by with_unfolding_all rfl) (by (intro _; with_unfolding_all rfl)); intro _ _)))) | fail "no word"); k_steps))
        all_goals (try (((repeat (first | refine veil (by assumption) ?_ | refine turn_ret ?_ | refine turn_brk ?_ | refine wturn_ret ?_ | refine wturn_brk ?_)); (try dsimp only))))
        refine use0 (s_masked_right hHW hG hDne (by rw [mcount_perm (srt_perm D)]) (by omega)) C KX TT F23 N23 (by decide) ?_
        rintro r24 nx24 h24 tk24 F24 N24 ⟨rfl, rfl⟩
        (k_steps <;> repeat' ((first | with_reducible refine stop_out ?_ | with_reducible show wpAny _ _ _ _ _ _); (first | ((k_here; (with_reducible show wpAny _ _ (call (Value.builtin _) [Value.ref _, _]) _ _ _); k_dflt (refine' append_L (by k_asm) (by k_asm) (by k_upd) (by first | assumption | (rw [sizeLine_eq]; omega) | (rw [sizeLine_eq]; exact Nat.le_of_ble_eq_true rfl)) ?_); intro _ _ _; (try k_sweep))) | ((k_here; (with_reducible show wpAny _ _ (subscriptTail _ _ (Value.ref _) (Value.int _ _)) _ _ _); k_dflt (first | (refine' item_list_at (by k_asm) (by k_mem) (by first | exact rfl | assumption) (by assumption) (by first | assumption | (rw [sizeLine_eq]; omega)) ?_ (by with_unfolding_all rfl)) | (refine' item_tup_at (by k_asm) (by k_mem) (by first | exact rfl | assumption) (by assumption) (by first | assumption | (rw [sizeLine_eq]; omega)) ?_ (by with_unfolding_all rfl)) | (refine' item_D (by k_asm) (by assumption) (by walk_at "sub") (by assumption) (by first | assumption | exact rfl) (by assumption) ?_ (by with_unfolding_all rfl) (by (intro _; with_unfolding_all rfl)); intro _ _)))) | fail "no word"); k_steps))
        all_goals (try (((repeat (first | refine veil (by assumption) ?_ | refine turn_ret ?_ | refine turn_brk ?_ | refine wturn_ret ?_ | refine wturn_brk ?_)); (try dsimp only))))
        exact ⟨rfl, _, _, _, rfl, F24, nsub N24 (by simp), rfl⟩
      · exact ⟨rfl, _, _, _, rfl, F21, nsub N21 (by simp), rfl⟩
    · rintro s' hJ90
      refine hideG fun PP hPP => ?_
      obtain ⟨h', tk', m', rfl, F30, N30, e⟩ := hJ90
      refine hPP ?_
      clear hPP PP
      have EE : AllB m' [(Str.ofString "source", .ref src)] := ⟨e, trivial⟩
      replace F30 := renL _ F30 EE
      clear hHW N F offs offw
      (k_steps <;> repeat' ((first | with_reducible refine stop_out ?_ | with_reducible show wpAny _ _ _ _ _ _); (first | ((k_here; (with_reducible show wpAny _ _ (call (Value.builtin _) [Value.ref _, _]) _ _ _); k_dflt (refine' append_L (by k_asm) (by k_asm) (by k_upd) (by first | assumption | (rw [sizeLine_eq]; omega) | (rw [sizeLine_eq]; exact Nat.le_of_ble_eq_true rfl)) ?_); intro _ _ _; (try k_sweep))) | ((k_here; (with_reducible show wpAny _ _ (subscriptTail _ _ (Value.ref _) (Value.int _ _)) _ _ _); k_dflt (first | (refine' item_list_at (by k_asm) (by k_mem) (by first | exact rfl | assumption) (by assumption) (by first | assumption | (rw [sizeLine_eq]; omega)) ?_ (by with_unfolding_all rfl)) | (refine' item_tup_at (by k_asm) (by k_mem) (by first | exact rfl | assumption) (by assumption) (by first | assumption | (rw [sizeLine_eq]; omega)) ?_ (by with_unfolding_all rfl)) | (refine' item_D (by k_asm) (by assumption) (by walk_at "sub") (by assumption) (by first | assumption | exact rfl) (by assumption) ?_ (by with_unfolding_all rfl) (by (intro _; with_unfolding_all rfl)); intro _ _)))) | fail "no word"); k_steps))
      all_goals (try (((repeat (first | refine veil (by assumption) ?_ | refine turn_ret ?_ | refine turn_brk ?_ | refine wturn_ret ?_ | refine wturn_brk ?_)); (try dsimp only))))
      (rename Fr _ _ _ _ => F31)
      (rename News _ _ _ _ => N31)
      rename_i rl _ lrl _
      have nrl : @Ne Nat src rl := by k_ne
      refine useF (tm := [(rl, lstO [] 0)]) (news := [(src, o')]) (s_take (rest := []) (fun _ h => nomatch h) hs' (by decide) (by decide)) C F31 N31 (off1 (List.forall_mem_cons.mpr ⟨nrl, fun _ h => nomatch h⟩)) (by decide) ?_
      rintro r32 nx32 h32 tk32 F32 N32 oo hJ90
      refine hideG fun PP hPP => ?_
      obtain ⟨o32, td32, d32, rfl, ho32, rfl, hd32⟩ := hJ90
      refine hPP ?_
      clear hPP PP
      replace N32 : News _ _ _ [(rl, lstO [] 0), (src, o32)] := N32
      clear oo N31
      (k_steps <;> repeat' ((first | with_reducible refine stop_out ?_ | with_reducible show wpAny _ _ _ _ _ _); (first | ((k_here; (with_reducible show wpAny _ _ (call (Value.builtin _) [Value.ref _, _]) _ _ _); k_dflt (refine' append_L (by k_asm) (by k_asm) (by k_upd) (by first | assumption | (rw [sizeLine_eq]; omega) | (rw [sizeLine_eq]; exact Nat.le_of_ble_eq_true rfl)) ?_); intro _ _ _; (try k_sweep))) | ((k_here; (with_reducible show wpAny _ _ (subscriptTail _ _ (Value.ref _) (Value.int _ _)) _ _ _); k_dflt (first | (refine' item_list_at (by k_asm) (by k_mem) (by first | exact rfl | assumption) (by assumption) (by first | assumption | (rw [sizeLine_eq]; omega)) ?_ (by with_unfolding_all rfl)) | (refine' item_tup_at (by k_asm) (by k_mem) (by first | exact rfl | assumption) (by assumption) (by first | assumption | (rw [sizeLine_eq]; omega)) ?_ (by with_unfolding_all rfl)) | (refine' item_D (by k_asm) (by assumption) (by walk_at "sub") (by assumption) (by first | assumption | exact rfl) (by assumption) ?_ (by with_unfolding_all rfl) (by (intro _; with_unfolding_all rfl)); intro _ _)))) | fail "no word"); k_steps))
      all_goals (try (((repeat (first | refine veil (by assumption) ?_ | refine turn_ret ?_ | refine turn_brk ?_ | refine wturn_ret ?_ | refine wturn_brk ?_)); (try dsimp only))))
      (rename IsRange _ _ _ _ _ _ _ _ => hr33)
      obtain ⟨tr1, tr2, tr3, hr33⟩ : ∃ t u v, IsRange _ _ 0 ((2 + d32 : Nat) : Int) 1 t u v := ⟨_, _, _, by rw [Int.natCast_add]; exact hr33⟩
      (rename Fr _ _ _ _ => F33)
      (rename News _ _ _ _ => N33)
      refine stop_out ?_
      refine for_range rfl hr33 (by omega) F33 (WbJ w9 rl src) ?_ ?_ ?_ PassesOwn.never
      · exact ⟨_, N33, o32, [], [], [], 0, rfl, ho32, (fun _ h => nomatch h), (fun _ h => nomatch h), .nil, (fun _ h => nomatch h), rfl, rfl, rfl⟩
      · clear F31 F33 N33 hr33
        rintro i v m₁ nx h tk I oI hi ⟨tv, rfl⟩ hJ90 off F N TQ hTQ
        refine hideG fun PP hPP => ?_
        obtain ⟨o', Ds, rvs, tl, rn, rfl, hs', offs, offr, hR, hDs, hrl, e1, e2⟩ := hJ90
        refine hPP ?_
        clear hPP PP
        have EE : AllB m₁ [(Str.ofString "rules", .ref rl), (Str.ofString "source", .ref src)] := ⟨e1, e2, trivial⟩
        replace F := renL _ F EE
        (k_steps <;> repeat' ((first | with_reducible refine stop_out ?_ | with_reducible show wpAny _ _ _ _ _ _); (first | ((k_here; (with_reducible show wpAny _ _ (call (Value.builtin _) [Value.ref _, _]) _ _ _); k_dflt (refine' append_L (by k_asm) (by k_asm) (by k_upd) (by first | assumption | (rw [sizeLine_eq]; omega) | (rw [sizeLine_eq]; exact Nat.le_of_ble_eq_true rfl)) ?_); intro _ _ _; (try k_sweep))) | ((k_here; (with_reducible show wpAny _ _ (subscriptTail _ _ (Value.ref _) (Value.int _ _)) _ _ _); k_dflt (first | (refine' item_list_at (by k_asm) (by k_mem) (by first | exact rfl | assumption) (by assumption) (by first | assumption | (rw [sizeLine_eq]; omega)) ?_ (by with_unfolding_all rfl)) | (refine' item_tup_at (by k_asm) (by k_mem) (by first | exact rfl | assumption) (by assumption) (by first | assumption | (rw [sizeLine_eq]; omega)) ?_ (by with_unfolding_all rfl)) | (refine' item_D (by k_asm) (by assumption) (by walk_at "sub") (by assumption) (by first | assumption | exact rfl) (by assumption) ?_ (by with_unfolding_all rfl) (by (intro _; with_unfolding_all rfl)); intro _ _)))) | fail "no word"); k_steps))
        all_goals (try (((repeat (first | refine veil (by assumption) ?_ | refine turn_ret ?_ | refine turn_brk ?_ | refine wturn_ret ?_ | refine wturn_brk ?_)); (try dsimp only))))
        (rename Fr _ _ _ _ => F34)
        (rename News _ _ _ _ => N34)
        rename_i wd _ ow0 low _ _ hiw _ lw _ la _ lla lb _ llb lc _ llc ld _ lld lf _ llf
        have cs : ∀ p ∈ tl, p.1 ≠ I := fun p hp => off p (.tail _ (.tail _ hp))
        have nIr : @Ne Nat rl I := off (rl, lstO rvs rn) (.head _)
        have nIs : @Ne Nat src I := off (src, o') (.tail _ (.head _))
        have nrs : @Ne Nat src rl := nrl
        have ctw : ∀ p ∈ tl, p.1 ≠ wd := fun p hp => Nat.ne_of_lt (allLt_mem lw.2.2.2 p hp)
        have nwI : @Ne Nat I wd := Nat.ne_of_lt lw.1
        have nwr : @Ne Nat rl wd := Nat.ne_of_lt lw.2.1
        have nws : @Ne Nat src wd := Nat.ne_of_lt lw.2.2.1
        obtain ⟨va, vb, vc, ia, ib, ic, N34⟩ : ∃ va vb vc : List Value, IntsAre va (([4] : List Nat).map fun (p : Nat) => (p : Int)) ∧ IntsAre vb (([7] : List Nat).map fun (p : Nat) => (p : Int)) ∧ IntsAre vc (([4, 7] : List Nat).map fun (p : Nat) => (p : Int)) ∧
            News _ _ _ ((lf, lstO [.ref la, .ref lb, .ref lc, .ref ld] 0) :: (ld, lstO [] 0) :: (lc, lstO vc 0) :: (lb, lstO vb 0) :: (la, lstO va 0) :: (wd, ow0) :: (I, oI) :: (rl, lstO rvs rn) :: (src, o') :: tl) :=
          ⟨[_], [_], [_, _], .cons _ _ .nil, .cons _ _ .nil, .cons _ _ (.cons _ _ .nil), N34⟩
        have c5 : ∀ (X : Addr), @Ne Nat lf X → @Ne Nat ld X → @Ne Nat lc X → @Ne Nat lb X → @Ne Nat la X → (∀ p ∈ tl, p.1 ≠ X) → ∀ p ∈ (lf, lstO [.ref la, .ref lb, .ref lc, .ref ld] 0) :: (ld, lstO [] 0) :: (lc, lstO vc 0) :: (lb, lstO vb 0) :: (la, lstO va 0) :: tl, p.1 ≠ X := fun X h1 h2 h3 h4 h5 h6 =>
          List.forall_mem_cons.mpr ⟨h1, List.forall_mem_cons.mpr ⟨h2, List.forall_mem_cons.mpr ⟨h3, List.forall_mem_cons.mpr ⟨h4, List.forall_mem_cons.mpr ⟨h5, h6⟩⟩⟩⟩⟩
        have c5s := c5 src (by k_ne) (by k_ne) (by k_ne) (by k_ne) (by k_ne) offs
        have c5r := c5 rl (by k_ne) (by k_ne) (by k_ne) (by k_ne) (by k_ne) offr
        have c5I := c5 I (by k_ne) (by k_ne) (by k_ne) (by k_ne) (by k_ne) cs
        have c5w := c5 wd (by k_ne) (by k_ne) (by k_ne) (by k_ne) (by k_ne) ctw
        have hpl2 : ∀ v ∈ [Value.ref la, .ref lb, .ref lc, .ref ld], ∃ ps, PlIn ((lf, lstO [.ref la, .ref lb, .ref lc, .ref ld] 0) :: (ld, lstO [] 0) :: (lc, lstO vc 0) :: (lb, lstO vb 0) :: (la, lstO va 0) :: tl) v ps ∧ PsOk ps := by
          refine List.forall_mem_cons.mpr ⟨⟨_, ⟨la, 0, va, rfl, by simp, ia⟩, psOk_of (by decide)⟩, List.forall_mem_cons.mpr ⟨⟨_, ⟨lb, 0, vb, rfl, by simp, ib⟩, psOk_of (by decide)⟩, List.forall_mem_cons.mpr ⟨⟨_, ⟨lc, 0, vc, rfl, by simp, ic⟩, psOk_of (by decide)⟩, List.forall_mem_cons.mpr ⟨⟨[], ⟨ld, 0, [], rfl, by simp, .nil⟩, psOk_of (by decide)⟩, fun _ h => nomatch h⟩⟩⟩⟩
        have hmf2 : (lf, lstO [.ref la, .ref lb, .ref lc, .ref ld] 0) ∈ (lf, lstO [.ref la, .ref lb, .ref lc, .ref ld] 0) :: (ld, lstO [] 0) :: (lc, lstO vc 0) :: (lb, lstO vb 0) :: (la, lstO va 0) :: tl := .head _
        have htl : ∀ p ∈ tl, p ∈ (lf, lstO [.ref la, .ref lb, .ref lc, .ref ld] 0) :: (ld, lstO [] 0) :: (lc, lstO vc 0) :: (lb, lstO vb 0) :: (la, lstO va 0) :: tl := fun p hp => .tail _ (.tail _ (.tail _ (.tail _ (.tail _ hp))))
        replace N34 : News _ _ _ ([(I, oI), (wd, ow0), (rl, lstO rvs rn)] ++ (src, o') :: (lf, lstO [.ref la, .ref lb, .ref lc, .ref ld] 0) :: (ld, lstO [] 0) :: (lc, lstO vc 0) :: (lb, lstO vb 0) :: (la, lstO va 0) :: tl) := nsub N34 (by walk_at "sub")
        generalize hlv : [Value.ref la, .ref lb, .ref lc, .ref ld] = lvs2 at *
        have hlv4 : lvs2.length = 4 := by rw [← hlv]; rfl
        generalize hR9 : (lf, lstO lvs2 0) :: (ld, lstO [] 0) :: (lc, lstO vc 0) :: (lb, lstO vb 0) :: (la, lstO va 0) :: tl = R9 at *
        clear hlv hR9 ia ib ic llf lld llc llb lla c5
        refine useF (s_law_one c5s hs' hmf2 (by omega) (by omega) (by rw [sizeLine_eq]; omega)) C F34 N34 (offs_cons (List.forall_mem_cons.mpr ⟨nIs, c5I⟩) (offs_cons (List.forall_mem_cons.mpr ⟨nws, c5w⟩) (offs_cons (List.forall_mem_cons.mpr ⟨nrs, c5r⟩) offs_nil))) (by decide) ?_
        rintro r35 nx35 h35 tk35 F35 N35 oo hJ90
        refine hideG fun PP hPP => ?_
        obtain ⟨o35, rfl, ho35, jx, hjx⟩ := hJ90
        refine hPP ?_
        clear hPP PP
        clear oo N34 hs'
        refine hideG fun PP hPP => ?_
        obtain ⟨ps2, hplv2, hps2⟩ := hpl2 _ (List.mem_of_getElem? hjx)
        refine hPP ?_
        clear hPP PP
        refine hideG fun PP hPP => ?_
        obtain ⟨pl2, pn2, pvs2, rfl, mp2, ip2⟩ := hplv2
        refine hPP ?_
        clear hPP PP
        (k_steps <;> repeat' ((first | with_reducible refine stop_out ?_ | with_reducible show wpAny _ _ _ _ _ _); (first | ((k_here; (with_reducible show wpAny _ _ (call (Value.builtin _) [Value.ref _, _]) _ _ _); k_dflt (refine' append_L (by k_asm) (by k_asm) (by k_upd) (by first | assumption | (rw [sizeLine_eq]; omega) | (rw [sizeLine_eq]; exact Nat.le_of_ble_eq_true rfl)) ?_); intro _ _ _; (try k_sweep))) | ((k_here; (with_reducible show wpAny _ _ (subscriptTail _ _ (Value.ref _) (Value.int _ _)) _ _ _); k_dflt (first | (refine' item_list_at (by k_asm) (by k_mem) (by first | exact rfl | assumption) (by assumption) (by first | assumption | (rw [sizeLine_eq]; omega)) ?_ (by with_unfolding_all rfl)) | (refine' item_tup_at (by k_asm) (by k_mem) (by first | exact rfl | assumption) (by assumption) (by first | assumption | (rw [sizeLine_eq]; omega)) ?_ (by with_unfolding_all rfl)) | (refine' item_D (by k_asm) (by assumption) (by walk_at "sub") (by assumption) (by first | assumption | exact rfl) (by assumption) ?_ (by with_unfolding_all rfl) (by (intro _; with_unfolding_all rfl)); intro _ _)))) | fail "no word"); k_steps))
        all_goals (try (((repeat (first | refine veil (by assumption) ?_ | refine turn_ret ?_ | refine turn_brk ?_ | refine wturn_ret ?_ | refine wturn_brk ?_)); (try dsimp only))))
        refine stop_out ?_
        refine for_list (vs := pvs2) (nn := pn2) rfl F35 (WcJ w9 wd src I rl oI rvs rn R9 ps2) ?_ ?_ ?_ ?_ PassesOwn.never
        · rintro i m nx ⟨o', ow, D, tl', rfl⟩; exact .tail _ (.tail _ (.tail _ (.tail _ (List.mem_append_right _ mp2))))
        · exact ⟨_, nsub N35 (by walk_at "sub"), o35, ow0, [], [], rfl, ho35, c5s, c5w, c5I, c5r, ⟨⟨[], hiw, .nil⟩, low⟩, by simp, (fun _ h => nomatch h), rfl, rfl, rfl⟩
        · clear F35 N35
          rintro i2 v m₃ nx h3 tk3 I2 oI2 hv hJ90 off3 F N TQ hTQ
          refine hideG fun PP hPP => ?_
          obtain ⟨o3, ow, D, tl', rfl, hs3, as, aw, aI, ar, hW, hDk, hDe, e1, e2, e3⟩ := hJ90
          refine hPP ?_
          clear hPP PP
          have EE : AllB m₃ [(Str.ofString "rules", .ref rl), (Str.ofString "wishes", .ref wd), (Str.ofString "source", .ref src)] := ⟨e1, e2, e3, trivial⟩
          replace F := renL _ F EE
          refine hideG fun PP hPP => ?_
          obtain ⟨k, t, hk, rfl⟩ := ints_at ip2 hv
          refine hPP ?_
          clear hPP PP
          rw [List.getElem?_map] at hk
          refine hideG fun PP hPP => ?_
          obtain ⟨p, hp, rfl⟩ := Option.map_eq_some_iff.mp hk
          refine hPP ?_
          clear hPP PP
          have hp3 := hps2.mem p (List.mem_of_getElem? hp)
          have hpk : p ∉ ps2.take i2 := by
            have := nodup_take (f := fun q : Nat => q) (by rw [List.map_id']; exact hps2.nd) hp
            rwa [List.map_id'] at this
          have hD64 : D.length < 64 := by
            have h1 : D.length = (D.map (·.1)).length := by rw [List.length_map]
            rw [hDk, List.length_take] at h1
            have := hps2.len
            omega
          (k_steps <;> repeat' ((first | with_reducible refine stop_out ?_ | with_reducible show wpAny _ _ _ _ _ _); (first | ((k_here; (with_reducible show wpAny _ _ (call (Value.builtin _) [Value.ref _, _]) _ _ _); k_dflt (refine' append_L (by k_asm) (by k_asm) (by k_upd) (by first | assumption | (rw [sizeLine_eq]; omega) | (rw [sizeLine_eq]; exact Nat.le_of_ble_eq_true rfl)) ?_); intro _ _ _; (try k_sweep))) | ((k_here; (with_reducible show wpAny _ _ (subscriptTail _ _ (Value.ref _) (Value.int _ _)) _ _ _); k_dflt (first | (refine' item_list_at (by k_asm) (by k_mem) (by first | exact rfl | assumption) (by assumption) (by first | assumption | (rw [sizeLine_eq]; omega)) ?_ (by with_unfolding_all rfl)) | (refine' item_tup_at (by k_asm) (by k_mem) (by first | exact rfl | assumption) (by assumption) (by first | assumption | (rw [sizeLine_eq]; omega)) ?_ (by with_unfolding_all rfl)) | (refine' item_D (by k_asm) (by assumption) (by walk_at "sub") (by assumption) (by first | assumption | exact rfl) (by assumption) ?_ (by with_unfolding_all rfl) (by (intro _; with_unfolding_all rfl)); intro _ _)))) | fail "no word"); k_steps))
          all_goals (try (((repeat (first | refine veil (by assumption) ?_ | refine turn_ret ?_ | refine turn_brk ?_ | refine wturn_ret ?_ | refine wturn_brk ?_)); (try dsimp only))))
          (rename Fr _ _ _ _ => F61)
          (rename News _ _ _ _ => N61)
          replace N61 : News _ _ _ ([(I2, oI2), (wd, ow), (I, oI), (rl, lstO rvs rn)] ++ (src, o3) :: (tl' ++ R9)) := nsub N61 (by walk_at "sub")
          refine useF (s_law_wish as hs3 hp3) C F61 N61 (offs_cons (List.forall_mem_cons.mpr ⟨off3 (src, o3) (.tail _ (.head _)), fun p hp => off3 p (.tail _ (.tail _ (.tail _ (.tail _ hp))))⟩) (offs_cons (List.forall_mem_cons.mpr ⟨nws, aw⟩) (offs_cons (List.forall_mem_cons.mpr ⟨nIs, aI⟩) (offs_cons (List.forall_mem_cons.mpr ⟨nrs, ar⟩) offs_nil)))) (by decide) ?_
          rintro r62 nx62 h62 tk62 F62 N62 oo hJ90
          refine hideG fun PP hPP => ?_
          obtain ⟨o2, tl2, x, rfl, ho2, hoff2, Dx, hx⟩ := hJ90
          refine hPP ?_
          clear hPP PP
          have p1 := oo _ (.head _)
          have pw := oo _ (.tail _ (.head _))
          have pI := oo _ (.tail _ (.tail _ (.head _)))
          have pr := oo _ (.tail _ (.tail _ (.tail _ (.head _))))
          replace N62 : News _ _ _ ((wd, ow) :: (I2, oI2) :: (src, o2) :: (I, oI) :: (rl, lstO rvs rn) :: (tl2 ++ (tl' ++ R9))) := nsub N62 (by walk_at "sub")
          clear oo N61
          have nwI2 : @Ne Nat wd I2 := off3 (wd, ow) (.head _)
          have pall : ∀ p ∈ (I2, oI2) :: (src, o2) :: (I, oI) :: (rl, lstO rvs rn) :: (tl2 ++ (tl' ++ R9)), p.1 ≠ wd :=
            List.forall_mem_cons.mpr ⟨Ne.symm nwI2, List.forall_mem_cons.mpr ⟨nws, List.forall_mem_cons.mpr ⟨nwI, List.forall_mem_cons.mpr ⟨nwr, fun p hp => pw p (.tail _ hp)⟩⟩⟩⟩
          have ra : ∀ {P : Addr × Obj → Prop}, (∀ p ∈ tl2 ++ (tl' ++ R9), P p) → ∀ p ∈ (tl2 ++ tl') ++ R9, P p := fun h p hp => h p (by rw [← List.append_assoc]; exact hp)
          have of5 : ∀ p ∈ (wd, ow) :: (src, o2) :: (I, oI) :: (rl, lstO rvs rn) :: ((tl2 ++ tl') ++ R9), p.1 ≠ I2 :=
            List.forall_mem_cons.mpr ⟨nwI2, List.forall_mem_cons.mpr ⟨p1 (src, o2) (.head _), List.forall_mem_cons.mpr ⟨off3 (I, oI) (.tail _ (.tail _ (.head _))), List.forall_mem_cons.mpr ⟨off3 (rl, lstO rvs rn) (.tail _ (.tail _ (.tail _ (.head _)))), ra fun p hp => p1 p (.tail _ hp)⟩⟩⟩⟩
          (k_steps <;> repeat' ((first | with_reducible refine stop_out ?_ | with_reducible show wpAny _ _ _ _ _ _); (first | ((k_here; (with_reducible show wpAny _ _ (call (Value.builtin _) [Value.ref _, _]) _ _ _); k_dflt (refine' append_L (by k_asm) (by k_asm) (by k_upd) (by first | assumption | (rw [sizeLine_eq]; omega) | (rw [sizeLine_eq]; exact Nat.le_of_ble_eq_true rfl)) ?_); intro _ _ _; (try k_sweep))) | ((k_here; (with_reducible show wpAny _ _ (subscriptTail _ _ (Value.ref _) (Value.int _ _)) _ _ _); k_dflt (first | (refine' item_list_at (by k_asm) (by k_mem) (by first | exact rfl | assumption) (by assumption) (by first | assumption | (rw [sizeLine_eq]; omega)) ?_ (by with_unfolding_all rfl)) | (refine' item_tup_at (by k_asm) (by k_mem) (by first | exact rfl | assumption) (by assumption) (by first | assumption | (rw [sizeLine_eq]; omega)) ?_ (by with_unfolding_all rfl)) | (refine' item_D (by k_asm) (by assumption) (by walk_at "sub") (by assumption) (by first | assumption | exact rfl) (by assumption) ?_ (by with_unfolding_all rfl) (by (intro _; with_unfolding_all rfl)); intro _ _)))) | fail "no word"); k_steps))
          all_goals (try (((repeat (first | refine veil (by assumption) ?_ | refine turn_ret ?_ | refine turn_brk ?_ | refine wturn_ret ?_ | refine wturn_brk ?_)); (try dsimp only))))
          (rename Fr _ _ _ _ => F63)
          (rename News _ _ _ _ => N63)
          refine set_D2 (n0 := tl2 ++ (tl' ++ R9)) F63 N63 (.head pall) (hW.mono fun p hp => by walk_at "mem") hD64 rfl (hDk ▸ hpk) Dx ?_
          intro h64 o64 F64 N64 W64
          (k_steps <;> repeat' ((first | with_reducible refine stop_out ?_ | with_reducible show wpAny _ _ _ _ _ _); (first | ((k_here; (with_reducible show wpAny _ _ (call (Value.builtin _) [Value.ref _, _]) _ _ _); k_dflt (refine' append_L (by k_asm) (by k_asm) (by k_upd) (by first | assumption | (rw [sizeLine_eq]; omega) | (rw [sizeLine_eq]; exact Nat.le_of_ble_eq_true rfl)) ?_); intro _ _ _; (try k_sweep))) | ((k_here; (with_reducible show wpAny _ _ (subscriptTail _ _ (Value.ref _) (Value.int _ _)) _ _ _); k_dflt (first | (refine' item_list_at (by k_asm) (by k_mem) (by first | exact rfl | assumption) (by assumption) (by first | assumption | (rw [sizeLine_eq]; omega)) ?_ (by with_unfolding_all rfl)) | (refine' item_tup_at (by k_asm) (by k_mem) (by first | exact rfl | assumption) (by assumption) (by first | assumption | (rw [sizeLine_eq]; omega)) ?_ (by with_unfolding_all rfl)) | (refine' item_D (by k_asm) (by assumption) (by walk_at "sub") (by assumption) (by first | assumption | exact rfl) (by assumption) ?_ (by with_unfolding_all rfl) (by (intro _; with_unfolding_all rfl)); intro _ _)))) | fail "no word"); k_steps))
          all_goals (try (((repeat (first | refine veil (by assumption) ?_ | refine turn_ret ?_ | refine turn_brk ?_ | refine wturn_ret ?_ | refine wturn_brk ?_)); (try dsimp only))))
          (rename Fr _ _ _ _ => F65)
          (rename News _ _ _ _ => N65)
          refine turn_next ((wd, o64) :: (src, o2) :: (I, oI) :: (rl, lstO rvs rn) :: ((tl2 ++ tl') ++ R9)) F65 N65 (.tail _ (.head _)) (by walk_at "sub") (List.forall_mem_cons.mpr ⟨nwI2, (List.forall_mem_cons.mp of5).2⟩)
            ⟨o2, o64, D ++ [(p, x)], tl2 ++ tl', rfl, ho2, ra hoff2, ra fun p hp => pw p (.tail _ hp), ra fun p hp => pI p (.tail _ hp), ra fun p hp => pr p (.tail _ hp), by rw [List.append_assoc]; exact W64, by rw [List.map_append, hDk, take_snoc hp]; rfl, fun q hq => ?_, rfl, rfl, rfl⟩
          rcases List.mem_append.mp hq with hq | hq
          · exact hDe q hq
          · rw [List.mem_singleton.mp hq]; exact ⟨hp3, hx⟩
        · rintro m₂ nx h2 tk2 hJ90 F N
          refine hideG fun PP hPP => ?_
          obtain ⟨o2, ow, D, tl', rfl, hs2, as, aw, aI, ar, hW, hDk, hDe, e1, e2, e3⟩ := hJ90
          refine hPP ?_
          clear hPP PP
          have EE : AllB m₂ [(Str.ofString "rules", .ref rl), (Str.ofString "wishes", .ref wd), (Str.ofString "source", .ref src)] := ⟨e1, e2, e3, trivial⟩
          replace F := renL _ F EE
          have hpvl : ps2.take pvs2.length = ps2 := by
            have := ip2.length
            rw [List.length_map] at this
            rw [this, List.take_length]
          rw [hpvl] at hDk
          have hG : DOk D := ⟨by rw [hDk]; exact hps2.nd, hDe, by
            have h1 : D.length = (D.map (·.1)).length := by rw [List.length_map]
            rw [hDk] at h1
            have := hps2.len
            omega⟩
          have hHW : HasW w9 ((wd, ow) :: (tl' ++ R9)) wd D := ⟨ow, .head _, hW.mono fun p hp => by walk_at "mem"⟩
          (k_steps <;> repeat' ((first | with_reducible refine stop_out ?_ | with_reducible show wpAny _ _ _ _ _ _); (first | ((k_here; (with_reducible show wpAny _ _ (call (Value.builtin _) [Value.ref _, _]) _ _ _); k_dflt (refine' append_L (by k_asm) (by k_asm) (by k_upd) (by first | assumption | (rw [sizeLine_eq]; omega) | (rw [sizeLine_eq]; exact Nat.le_of_ble_eq_true rfl)) ?_); intro _ _ _; (try k_sweep))) | ((k_here; (with_reducible show wpAny _ _ (subscriptTail _ _ (Value.ref _) (Value.int _ _)) _ _ _); k_dflt (first | (refine' item_list_at (by k_asm) (by k_mem) (by first | exact rfl | assumption) (by assumption) (by first | assumption | (rw [sizeLine_eq]; omega)) ?_ (by with_unfolding_all rfl)) | (refine' item_tup_at (by k_asm) (by k_mem) (by first | exact rfl | assumption) (by assumption) (by first | assumption | (rw [sizeLine_eq]; omega)) ?_ (by with_unfolding_all rfl)) | (refine' item_D (by k_asm) (by assumption) (by walk_at "sub") (by assumption) (by first | assumption | exact rfl) (by assumption) ?_ (by with_unfolding_all rfl) (by (intro _; with_unfolding_all rfl)); intro _ _)))) | fail "no word"); k_steps))
          all_goals (try (((repeat (first | refine veil (by assumption) ?_ | refine turn_ret ?_ | refine turn_brk ?_ | refine wturn_ret ?_ | refine wturn_brk ?_)); (try dsimp only))))
          (rename Fr _ _ _ _ => F71)
          (rename News _ _ _ _ => N71)
          replace N71 : News _ _ _ ([(I, oI), (rl, lstO rvs rn), (src, o2)] ++ (wd, ow) :: (tl' ++ R9)) := nsub N71 (by walk_at "sub")
          refine useF (s_AclRule (.inr rfl) (P := (wd, ow) :: (tl' ++ R9)) (fun _ h => h) hHW hG) C F71 N71 (offs_cons (List.forall_mem_cons.mpr ⟨Ne.symm nwI, aI⟩) (offs_cons (List.forall_mem_cons.mpr ⟨Ne.symm nwr, ar⟩) (offs_cons (List.forall_mem_cons.mpr ⟨Ne.symm nws, as⟩) offs_nil))) (by decide) ?_
          rintro r72 nx72 h72 tk72 F72 N72 oo hJ90
          refine hideG fun PP hPP => ?_
          obtain ⟨tl3, rfl, hRule⟩ := hJ90
          refine hPP ?_
          clear hPP PP
          have qI := oo _ (.head _)
          have qr := oo _ (.tail _ (.head _))
          have qs := oo _ (.tail _ (.tail _ (.head _)))
          have hsub : ∀ p ∈ tl, p ∈ tl3 ++ (wd, ow) :: (tl' ++ R9) := fun p hp => List.mem_append_right _ (.tail _ (List.mem_append_right _ (htl p hp)))
          clear oo N71
          dsimp only at qI qr qs
          generalize tl3 ++ (wd, ow) :: (tl' ++ R9) = R10 at *
          replace N72 : News _ _ _ ((rl, lstO rvs rn) :: (I, oI) :: (src, o2) :: R10) := nsub N72 (by walk_at "sub")
          have hall : ∀ p ∈ (I, oI) :: (src, o2) :: R10, p.1 ≠ rl := List.forall_mem_cons.mpr ⟨Ne.symm nIr, List.forall_mem_cons.mpr ⟨nrs, qr⟩⟩
          have hz8 : rvs.length < 800 := by omega
          (k_steps <;> repeat' ((first | with_reducible refine stop_out ?_ | with_reducible show wpAny _ _ _ _ _ _); (first | ((k_here; (with_reducible show wpAny _ _ (call (Value.builtin _) [Value.ref _, _]) _ _ _); k_dflt (refine' append_L (by k_asm) (by k_asm) (by k_upd) (by first | assumption | (rw [sizeLine_eq]; omega) | (rw [sizeLine_eq]; exact Nat.le_of_ble_eq_true rfl)) ?_); intro _ _ _; (try k_sweep))) | ((k_here; (with_reducible show wpAny _ _ (subscriptTail _ _ (Value.ref _) (Value.int _ _)) _ _ _); k_dflt (first | (refine' item_list_at (by k_asm) (by k_mem) (by first | exact rfl | assumption) (by assumption) (by first | assumption | (rw [sizeLine_eq]; omega)) ?_ (by with_unfolding_all rfl)) | (refine' item_tup_at (by k_asm) (by k_mem) (by first | exact rfl | assumption) (by assumption) (by first | assumption | (rw [sizeLine_eq]; omega)) ?_ (by with_unfolding_all rfl)) | (refine' item_D (by k_asm) (by assumption) (by walk_at "sub") (by assumption) (by first | assumption | exact rfl) (by assumption) ?_ (by with_unfolding_all rfl) (by (intro _; with_unfolding_all rfl)); intro _ _)))) | fail "no word"); k_steps))
          all_goals (try (((repeat (first | refine veil (by assumption) ?_ | refine turn_ret ?_ | refine turn_brk ?_ | refine wturn_ret ?_ | refine wturn_brk ?_)); (try dsimp only))))
          (rename Fr _ _ _ _ => F73)
          (rename News _ _ _ _ => N73)
          refine turn_next ((rl, lstO (rvs ++ [r72]) (rn + 1)) :: (src, o2) :: R10) F73 N73 (.tail _ (.head _)) (by walk_at "sub") (List.forall_mem_cons.mpr ⟨nIr, List.forall_mem_cons.mpr ⟨nIs, qI⟩⟩)
            ⟨o2, Ds ++ [D], rvs ++ [r72], R10, _, rfl, hs2, qs, qr, hR.snoc hsub hRule, fun q hq => ?_, by rw [List.length_append, hrl]; rfl, rfl, rfl⟩
          rcases List.mem_append.mp hq with hq | hq
          · exact hDs q hq
          · rw [List.mem_singleton.mp hq]; exact hG
      · clear F31 F33 N33 hr33
        rintro m₁ nx h tk hJ90 F N
        refine hideG fun PP hPP => ?_
        obtain ⟨o', Ds, rvs, tl, rn, rfl, hs', offs, offr, hR, hDs, hrl, e1, e2⟩ := hJ90
        refine hPP ?_
        clear hPP PP
        have EE : AllB m₁ [(Str.ofString "rules", .ref rl), (Str.ofString "source", .ref src)] := ⟨e1, e2, trivial⟩
        replace F := renL _ F EE
        (k_steps <;> repeat' ((first | with_reducible refine stop_out ?_ | with_reducible show wpAny _ _ _ _ _ _); (first | ((k_here; (with_reducible show wpAny _ _ (call (Value.builtin _) [Value.ref _, _]) _ _ _); k_dflt (refine' append_L (by k_asm) (by k_asm) (by k_upd) (by first | assumption | (rw [sizeLine_eq]; omega) | (rw [sizeLine_eq]; exact Nat.le_of_ble_eq_true rfl)) ?_); intro _ _ _; (try k_sweep))) | ((k_here; (with_reducible show wpAny _ _ (subscriptTail _ _ (Value.ref _) (Value.int _ _)) _ _ _); k_dflt (first | (refine' item_list_at (by k_asm) (by k_mem) (by first | exact rfl | assumption) (by assumption) (by first | assumption | (rw [sizeLine_eq]; omega)) ?_ (by with_unfolding_all rfl)) | (refine' item_tup_at (by k_asm) (by k_mem) (by first | exact rfl | assumption) (by assumption) (by first | assumption | (rw [sizeLine_eq]; omega)) ?_ (by with_unfolding_all rfl)) | (refine' item_D (by k_asm) (by assumption) (by walk_at "sub") (by assumption) (by first | assumption | exact rfl) (by assumption) ?_ (by with_unfolding_all rfl) (by (intro _; with_unfolding_all rfl)); intro _ _)))) | fail "no word"); k_steps))
        all_goals (try (((repeat (first | refine veil (by assumption) ?_ | refine turn_ret ?_ | refine turn_brk ?_ | refine wturn_ret ?_ | refine wturn_brk ?_)); (try dsimp only))))
        (rename Fr _ _ _ _ => F40)
        (rename News _ _ _ _ => N40)
        refine useF (tm := [(rl, lstO rvs rn)]) (news := (src, o') :: tl) (s_take offs hs' (by decide) (by decide)) C F40 N40 (off1 (List.forall_mem_cons.mpr ⟨nrl, offr⟩)) (by decide) ?_
        rintro r41 nx41 h41 tk41 F41 N41 oo hJ90
        refine hideG fun PP hPP => ?_
        obtain ⟨o41, td41, d41, rfl, ho41, rfl, hd41⟩ := hJ90
        refine hPP ?_
        clear hPP PP
        clear oo N40
        (k_steps <;> repeat' ((first | with_reducible refine stop_out ?_ | with_reducible show wpAny _ _ _ _ _ _); (first | ((k_here; (with_reducible show wpAny _ _ (call (Value.builtin _) [Value.ref _, _]) _ _ _); k_dflt (refine' append_L (by k_asm) (by k_asm) (by k_upd) (by first | assumption | (rw [sizeLine_eq]; omega) | (rw [sizeLine_eq]; exact Nat.le_of_ble_eq_true rfl)) ?_); intro _ _ _; (try k_sweep))) | ((k_here; (with_reducible show wpAny _ _ (subscriptTail _ _ (Value.ref _) (Value.int _ _)) _ _ _); k_dflt (first | (refine' item_list_at (by k_asm) (by k_mem) (by first | exact rfl | assumption) (by assumption) (by first | assumption | (rw [sizeLine_eq]; omega)) ?_ (by with_unfolding_all rfl)) | (refine' item_tup_at (by k_asm) (by k_mem) (by first | exact rfl | assumption) (by assumption) (by first | assumption | (rw [sizeLine_eq]; omega)) ?_ (by with_unfolding_all rfl)) | (refine' item_D (by k_asm) (by assumption) (by walk_at "sub") (by assumption) (by first | assumption | exact rfl) (by assumption) ?_ (by with_unfolding_all rfl) (by (intro _; with_unfolding_all rfl)); intro _ _)))) | fail "no word"); k_steps))
        all_goals (try (((repeat (first | refine veil (by assumption) ?_ | refine turn_ret ?_ | refine turn_brk ?_ | refine wturn_ret ?_ | refine wturn_brk ?_)); (try dsimp only))))
        (rename Fr _ _ _ _ => F42)
        (rename News _ _ _ _ => N42)
        rename_i ll _ lll
        obtain ⟨ms, hms, N42⟩ : ∃ ms : List Value, (∀ v ∈ ms, ∃ (n : Nat) (t : Tok), v = .int n t ∧ 1 ≤ n ∧ n ≤ 9) ∧ News _ _ _ ((ll, lstO ms 0) :: (rl, lstO rvs rn) :: (src, o41) :: tl) :=
          ⟨[_, _, _], List.forall_mem_cons.mpr ⟨⟨1, _, rfl, by decide, by decide⟩, List.forall_mem_cons.mpr ⟨⟨2 + d41, _, rfl, by omega, by omega⟩, List.forall_mem_cons.mpr ⟨⟨4, _, rfl, by decide, by decide⟩, fun _ h => nomatch h⟩⟩⟩, N42⟩
        refine stop_out ?_
        refine for_list (vs := ms) (nn := 0) rfl F42 (fun i m nx => nx = (ll, lstO ms 0) :: (rl, lstO rvs rn) :: tl ∧ m (Str.ofString "rules") = some (.ref rl)) ?_ ?_ ?_ ?_ PassesOwn.never
        · rintro i m nx ⟨rfl, _⟩; exact .head _
        · exact ⟨_, nsub N42 (by walk_at "sub"), rfl, rfl⟩
        · clear F42 N42
          rintro i v m₄ nx h4 tk4 I oI hv ⟨rfl, e1⟩ off F N TQ hTQ
          have EE : AllB m₄ [(Str.ofString "rules", .ref rl)] := ⟨e1, trivial⟩
          replace F := renL _ F EE
          refine hideG fun PP hPP => ?_
          obtain ⟨n, t, rfl, h1, h9⟩ := hms v (List.mem_of_getElem? hv)
          refine hPP ?_
          clear hPP PP
          (k_steps <;> repeat' ((first | with_reducible refine stop_out ?_ | with_reducible show wpAny _ _ _ _ _ _); (first | ((k_here; (with_reducible show wpAny _ _ (call (Value.builtin _) [Value.ref _, _]) _ _ _); k_dflt (refine' append_L (by k_asm) (by k_asm) (by k_upd) (by first | assumption | (rw [sizeLine_eq]; omega) | (rw [sizeLine_eq]; exact Nat.le_of_ble_eq_true rfl)) ?_); intro _ _ _; (try k_sweep))) | ((k_here; (with_reducible show wpAny _ _ (subscriptTail _ _ (Value.ref _) (Value.int _ _)) _ _ _); k_dflt (first | (refine' item_list_at (by k_asm) (by k_mem) (by first | exact rfl | assumption) (by assumption) (by first | assumption | (rw [sizeLine_eq]; omega)) ?_ (by with_unfolding_all rfl)) | (refine' item_tup_at (by k_asm) (by k_mem) (by first | exact rfl | assumption) (by assumption) (by first | assumption | (rw [sizeLine_eq]; omega)) ?_ (by with_unfolding_all rfl)) | (refine' item_D (by k_asm) (by assumption) (by walk_at "sub") (by assumption) (by first | assumption | exact rfl) (by assumption) ?_ (by with_unfolding_all rfl) (by (intro _; with_unfolding_all rfl)); intro _ _)))) | fail "no word"); k_steps))
          all_goals (try (((repeat (first | refine veil (by assumption) ?_ | refine turn_ret ?_ | refine turn_brk ?_ | refine wturn_ret ?_ | refine wturn_brk ?_)); (try dsimp only))))
          (rename Fr _ _ _ _ => F81)
          (rename News _ _ _ _ => N81)
          refine use (s_law_tree_right (.tail _ (.tail _ (.head _))) (hR.mono fun p hp => .tail _ (.tail _ (.tail _ hp))) hDs (by omega) h1 (by omega)) C F81 N81 (by decide) ?_
          rintro r82 nx82 h82 tk82 F82 N82 hJ90
          refine hideG fun PP hPP => ?_
          obtain ⟨⟨tl4, rfl⟩, rfl⟩ := hJ90
          refine hPP ?_
          clear hPP PP
          (k_steps <;> repeat' ((first | with_reducible refine stop_out ?_ | with_reducible show wpAny _ _ _ _ _ _); (first | ((k_here; (with_reducible show wpAny _ _ (call (Value.builtin _) [Value.ref _, _]) _ _ _); k_dflt (refine' append_L (by k_asm) (by k_asm) (by k_upd) (by first | assumption | (rw [sizeLine_eq]; omega) | (rw [sizeLine_eq]; exact Nat.le_of_ble_eq_true rfl)) ?_); intro _ _ _; (try k_sweep))) | ((k_here; (with_reducible show wpAny _ _ (subscriptTail _ _ (Value.ref _) (Value.int _ _)) _ _ _); k_dflt (first | (refine' item_list_at (by k_asm) (by k_mem) (by first | exact rfl | assumption) (by assumption) (by first | assumption | (rw [sizeLine_eq]; omega)) ?_ (by with_unfolding_all rfl)) | (refine' item_tup_at (by k_asm) (by k_mem) (by first | exact rfl | assumption) (by assumption) (by first | assumption | (rw [sizeLine_eq]; omega)) ?_ (by with_unfolding_all rfl)) | (refine' item_D (by k_asm) (by assumption) (by walk_at "sub") (by assumption) (by first | assumption | exact rfl) (by assumption) ?_ (by with_unfolding_all rfl) (by (intro _; with_unfolding_all rfl)); intro _ _)))) | fail "no word"); k_steps))
          all_goals (try (((repeat (first | refine veil (by assumption) ?_ | refine turn_ret ?_ | refine turn_brk ?_ | refine wturn_ret ?_ | refine wturn_brk ?_)); (try dsimp only))))
          (rename Fr _ _ _ _ => F83)
          (rename News _ _ _ _ => N83)
          exact turn_next ((ll, lstO ms 0) :: (rl, lstO rvs rn) :: tl) F83 N83 (List.mem_append_right _ (.head _)) (fun p hp => List.mem_append_right _ (.tail _ hp)) off ⟨rfl, rfl⟩
        · rintro m₄ nx h4 tk4 ⟨rfl, e1⟩ F N
          (k_steps <;> repeat' ((first | with_reducible refine stop_out ?_ | with_reducible show wpAny _ _ _ _ _ _); (first | ((k_here; (with_reducible show wpAny _ _ (call (Value.builtin _) [Value.ref _, _]) _ _ _); k_dflt (refine' append_L (by k_asm) (by k_asm) (by k_upd) (by first | assumption | (rw [sizeLine_eq]; omega) | (rw [sizeLine_eq]; exact Nat.le_of_ble_eq_true rfl)) ?_); intro _ _ _; (try k_sweep))) | ((k_here; (with_reducible show wpAny _ _ (subscriptTail _ _ (Value.ref _) (Value.int _ _)) _ _ _); k_dflt (first | (refine' item_list_at (by k_asm) (by k_mem) (by first | exact rfl | assumption) (by assumption) (by first | assumption | (rw [sizeLine_eq]; omega)) ?_ (by with_unfolding_all rfl)) | (refine' item_tup_at (by k_asm) (by k_mem) (by first | exact rfl | assumption) (by assumption) (by first | assumption | (rw [sizeLine_eq]; omega)) ?_ (by with_unfolding_all rfl)) | (refine' item_D (by k_asm) (by assumption) (by walk_at "sub") (by assumption) (by first | assumption | exact rfl) (by assumption) ?_ (by with_unfolding_all rfl) (by (intro _; with_unfolding_all rfl)); intro _ _)))) | fail "no word"); k_steps))
          all_goals (try (((repeat (first | refine veil (by assumption) ?_ | refine turn_ret ?_ | refine turn_brk ?_ | refine wturn_ret ?_ | refine wturn_brk ?_)); (try dsimp only))))
          exact ⟨⟨_, _, _, rfl, F, rfl⟩⟩)
end
end Mine
theorem PySem.Challenge.cw_pf0388_01_holds : PySem.Challenge.rw_pf0388_01.Holds :=
  Mine.law_holds
