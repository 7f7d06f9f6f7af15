import PyProof.Rows.All
import Wide.All
import OpenK.AllK
import Wide.FinOn
import Lean
import PySem.Challenge.RW_nt0588_01
open PySem PySem.W PySem.Spec PySem.Calls PyProof.Rows
set_option Elab.async false
set_option maxRecDepth 100000
set_option maxHeartbeats 25000000

namespace Mine
noncomputable def isDef : Stmt → Bool
  | .Assign .. => false
  | _ => true
noncomputable def viewOf (p : Program) : Program := { p with main := { p.main with body := p.main.body.filter isDef } }
noncomputable def view : Program := viewOf PySem.Challenge.pw_nt0588_01
theorem left_of {p q : Program} {loose : List Str} {Xt : Shared → Bool} {α : Type} {Yf : Shared → α} {Ya : World → α} {N : Nat} {g0 : Bool} (e : opening p = plainProg p.main.scope.names) (hN : Nat.ble 600 N = true) (f : ∀ s, fenceModules? p s = some s)
    (h : ∀ w os, (topFrom treeTable p w N ⟨boot_heap w.params, Array.mk [], boot_drawn, boot_toks, os⟩).map (fun s => (openSeen q loose (importedModules p.main.body) Xt g0 s, Yf s)) = some (openGood q loose, Ya w)) : LeftO p q loose Xt Yf Ya N g0 := fun w => by
  obtain ⟨⟨h', gs, d, k, os⟩, e1, e2⟩ := Option.map_eq_some_iff.mp (boot_open e hN f w)
  obtain ⟨rfl, rfl, rfl, rfl⟩ : h' = boot_heap w.params ∧ gs = Array.mk [] ∧ d = boot_drawn ∧ k = boot_toks := by simpa using e2
  unfold openEnds
  rw [e1]
  exact h w os
end Mine
local macro_rules | `(tactic| o_head $H) => `(tactic| apply holds_open (r := OpenLaw.row PySem.Challenge.rw_nt0588_01) (q := Mine.view) (loose := []) (Xt := fun s => xlAt Mine.view [] s && recOk (RowW.records (OpenRow.toRowW (OpenLaw.row PySem.Challenge.rw_nt0588_01))) s) (XP := XL Mine.view []) (Yf := Hook.obs $H) (Ya := Hook.val $H) (YP := Hook.says $H) (N := 2314)
    (Mine.left_of (by kernel_rfl) (by decide +kernel) (fun s => by kernel_rfl) (fun w os => by
      show Option.map _ (topFrom treeTable PySem.Challenge.pw_nt0588_01 w 2314 _) = _
      unfold topFrom
      try rw [PySem.W.Fast.te14082659384304107361, PySem.W.Fast.te14364793385576792824, PySem.W.Fast.te4187177175401517315]
      kernel_rfl))
    (Hook.of $H) (Hook.keeps $H) (fun s e => xl_of s (Bool.and_eq_true_iff.mp e).1) XL.keeps (by rfl) (by rfl) (by rfl) (fun s e => recFacts_of (Bool.and_eq_true_iff.mp e).2) (by rfl) (by first | assumption | decide +kernel) (by decide +kernel) ⟨rfl, rfl, rfl, rfl, rfl, by decide +kernel⟩)
open_top Mine.hd for PySem.Challenge.rw_nt0588_01
namespace Mine
section
/-! A0 -/
/-- a call of the def at f ends, whoever calls, and hands back what R says; what stood stays -/
noncomputable def Okc (w : World) (mg mb : Str → Option Value) (mean : ExcName → Option Value) (f : Addr) (vs : List Value) (need : Nat) (s : Shared) (R : Value → Heap → Prop) : Prop :=
  ∀ (dp un : Nat) (gd : Option (List Code)) (cn : Str) (cs : Scope) (a : Addr) (ccd : Value) (cl : List (Str × Addr)) (outer : List Env) (A₀ : Around) (base h₀ : Heap) (L : Addr) (m : Str → Option Value) (Q E : Value → Shared → Prop),
    Below A₀ base outer h₀ → Fr h₀ L s.heap m → (Mine.hd.heap_39 w.params).In h₀ → Top Mine.view (looseW Mine.view []) mean mg mb h₀ → cs.kind = .function → dp + need < recursionLimit → un + 8 * need < cLine →
    (∀ v h' tk', s.heap.StaysIn h' → R v h' → Q v { s with heap := h', toks := tk' }) →
    wpAny (model PySem.Challenge.rw_nt0588_01.row.prog w) (ktrTop dp un gd cn cs L a ccd cl outer) (call (.ref f) vs) Q E s

/-- a stop for the walk -/
noncomputable def Halt (P : Prop) : Prop := P
theorem Halt.mk {P : Prop} (h : Halt P) : P := h
theorem Halt.out {P : Prop} (h : P) : Halt P := h

noncomputable def LeaveS (g : Heap) (R : Result → Shared → Prop) (v : Value) (s' : Shared) : Prop :=
  ∃ L' m', Fr g L' s'.heap m' ∧ R (.ok (.ret v)) s'
theorem leaveS_ {g : Heap} {R : Result → Shared → Prop} {v : Value} {s' : Shared} {L' : Addr} {m' : Str → Option Value} (F : Fr g L' s'.heap m') (h : R (.ok (.ret v)) s') : LeaveS g R v s' := ⟨L', m', F, h⟩

theorem Fr.stays {h₀ h h' : Heap} {L : Addr} {m : Str → Option Value} (F : Fr h₀ L h m) (st : h.StaysIn h') : Fr h₀ L h' m :=
  ⟨let ⟨o, es, ep, e, r⟩ := F.ns; ⟨o, es, ep, st _ _ e, r⟩, fun b o e => st b o (F.keep b o e), F.above⟩
theorem News.stays {h₀ h h' : Heap} {L : Addr} {news : List (Addr × Obj)} (N : News h₀ L h news) (st : h.StaysIn h') : News h₀ L h' news :=
  fun p hp => ⟨st _ _ (N p hp).1, (N p hp).2⟩
theorem News.consOf {h₀ h h' : Heap} {L a : Addr} {o : Obj} {m : Str → Option Value} {news : List (Addr × Obj)} (F : Fr h₀ L h m) (N : News h₀ L h news) (st : h.StaysIn h')
    (ha : h'.get? a = some o) (hn : h.get? a = none) : News h₀ L h' ((a, o) :: news) := by
  intro p hp
  rcases List.mem_cons.mp hp with rfl | hp
  · refine ⟨ha, fun q => ?_, ?_⟩
    · obtain ⟨oL, _, _, hL, _⟩ := F.ns
      rw [show a = L from q, hL] at hn; cases hn
    · cases q : h₀.get? a with
      | none => rfl
      | some o' => rw [F.keep _ _ q] at hn; cases hn
  · exact News.stays N st p hp

abbrev RI (n : Int) : Value → Heap → Prop := fun v _ => ∃ t, v = .int n t
abbrev RB (b : Bool) : Value → Heap → Prop := fun v _ => v = .bool b
abbrev RS (x : Str) : Value → Heap → Prop := fun v _ => ∃ t, v = .str x t
abbrev RY (b : Array UInt8) : Value → Heap → Prop := fun v _ => ∃ t, v = .bytes b t
abbrev RL (s : Shared) (ns : List Int) : Value → Heap → Prop := fun v h' => ∃ a vs c, v = .ref a ∧ h'.get? a = some (listOf vs.toArray c) ∧ IntsAre vs ns ∧ s.heap.get? a = none

section
variable {w : World} {mg mb : Str → Option Value} {mean : ExcName → Option Value} {f : Addr} {vs : List Value} {need : Nat} {s : Shared}
  {dp un : Nat} {gd : Option (List Code)} {cn : Str} {cs : Scope} {a : Addr} {ccd : Value} {cl : List (Str × Addr)} {outer : List Env} {A₀ : Around} {base h₀ : Heap} {L : Addr} {m : Str → Option Value} {Q E : Value → Shared → Prop} {news : List (Addr × Obj)}

theorem useI {n : Int} (C : Okc w mg mb mean f vs need s (RI n)) (B : Below A₀ base outer h₀) (F : Fr h₀ L s.heap m) (N : News h₀ L s.heap news) (X : (Mine.hd.heap_39 w.params).In h₀) (T : Top Mine.view (looseW Mine.view []) mean mg mb h₀) (hk : cs.kind = .function) (hd : dp + need < recursionLimit) (hu : un + 8 * need < cLine)
    (ret : ∀ t h' tk', Fr h₀ L h' m → News h₀ L h' news → Q (.int n t) { s with heap := h', toks := tk' }) :
    wpAny (model PySem.Challenge.rw_nt0588_01.row.prog w) (ktrTop dp un gd cn cs L a ccd cl outer) (call (.ref f) vs) Q E s :=
  C _ _ _ _ _ _ _ _ _ _ _ _ _ _ _ _ B F X T hk hd hu fun v h' tk' st r => by
    obtain ⟨t, rfl⟩ := r
    exact ret t h' tk' (Fr.stays F st) (News.stays N st)
theorem useB {b : Bool} (C : Okc w mg mb mean f vs need s (RB b)) (B : Below A₀ base outer h₀) (F : Fr h₀ L s.heap m) (N : News h₀ L s.heap news) (X : (Mine.hd.heap_39 w.params).In h₀) (T : Top Mine.view (looseW Mine.view []) mean mg mb h₀) (hk : cs.kind = .function) (hd : dp + need < recursionLimit) (hu : un + 8 * need < cLine)
    (ret : ∀ h' tk', Fr h₀ L h' m → News h₀ L h' news → Q (.bool b) { s with heap := h', toks := tk' }) :
    wpAny (model PySem.Challenge.rw_nt0588_01.row.prog w) (ktrTop dp un gd cn cs L a ccd cl outer) (call (.ref f) vs) Q E s :=
  C _ _ _ _ _ _ _ _ _ _ _ _ _ _ _ _ B F X T hk hd hu fun v h' tk' st r => by
    subst r
    exact ret h' tk' (Fr.stays F st) (News.stays N st)
theorem useS {x : Str} (C : Okc w mg mb mean f vs need s (RS x)) (B : Below A₀ base outer h₀) (F : Fr h₀ L s.heap m) (N : News h₀ L s.heap news) (X : (Mine.hd.heap_39 w.params).In h₀) (T : Top Mine.view (looseW Mine.view []) mean mg mb h₀) (hk : cs.kind = .function) (hd : dp + need < recursionLimit) (hu : un + 8 * need < cLine)
    (ret : ∀ t h' tk', Fr h₀ L h' m → News h₀ L h' news → Q (.str x t) { s with heap := h', toks := tk' }) :
    wpAny (model PySem.Challenge.rw_nt0588_01.row.prog w) (ktrTop dp un gd cn cs L a ccd cl outer) (call (.ref f) vs) Q E s :=
  C _ _ _ _ _ _ _ _ _ _ _ _ _ _ _ _ B F X T hk hd hu fun v h' tk' st r => by
    obtain ⟨t, rfl⟩ := r
    exact ret t h' tk' (Fr.stays F st) (News.stays N st)
theorem useY {x : Array UInt8} (C : Okc w mg mb mean f vs need s (RY x)) (B : Below A₀ base outer h₀) (F : Fr h₀ L s.heap m) (N : News h₀ L s.heap news) (X : (Mine.hd.heap_39 w.params).In h₀) (T : Top Mine.view (looseW Mine.view []) mean mg mb h₀) (hk : cs.kind = .function) (hd : dp + need < recursionLimit) (hu : un + 8 * need < cLine)
    (ret : ∀ t h' tk', Fr h₀ L h' m → News h₀ L h' news → Q (.bytes x t) { s with heap := h', toks := tk' }) :
    wpAny (model PySem.Challenge.rw_nt0588_01.row.prog w) (ktrTop dp un gd cn cs L a ccd cl outer) (call (.ref f) vs) Q E s :=
  C _ _ _ _ _ _ _ _ _ _ _ _ _ _ _ _ B F X T hk hd hu fun v h' tk' st r => by
    obtain ⟨t, rfl⟩ := r
    exact ret t h' tk' (Fr.stays F st) (News.stays N st)
theorem useL {ns : List Int} (C : Okc w mg mb mean f vs need s (RL s ns)) (B : Below A₀ base outer h₀) (F : Fr h₀ L s.heap m) (N : News h₀ L s.heap news) (X : (Mine.hd.heap_39 w.params).In h₀) (T : Top Mine.view (looseW Mine.view []) mean mg mb h₀) (hk : cs.kind = .function) (hd : dp + need < recursionLimit) (hu : un + 8 * need < cLine)
    (ret : ∀ b us c h' tk', IntsAre us ns → (∀ p ∈ news, p.1 ≠ b) → Fr h₀ L h' m → News h₀ L h' ((b, listOf us.toArray c) :: news) → Q (.ref b) { s with heap := h', toks := tk' }) :
    wpAny (model PySem.Challenge.rw_nt0588_01.row.prog w) (ktrTop dp un gd cn cs L a ccd cl outer) (call (.ref f) vs) Q E s :=
  C _ _ _ _ _ _ _ _ _ _ _ _ _ _ _ _ B F X T hk hd hu fun v h' tk' st r => by
    obtain ⟨b, us, c, rfl, hb, hi, hn⟩ := r
    exact ret b us c h' tk' hi (fun p hp q => by rw [← q, (N p hp).1] at hn; cases hn) (Fr.stays F st) (News.consOf F N st hb hn)
end

section
variable {prog : Program} {w : World} {A A₀ : Around} {s : Shared} {K : Frag} {L : Addr} {h₀ base : Heap} {m mg mb : Str → Option Value} {p : Program} {loose : List Str} {mean : ExcName → Option Value}
/-- entering a plain def: the callee's base is the caller's whole heap -/
theorem enterS {env : Env} {outer : List Env} {R : Result → Shared → Prop} {name qual : Str} {params : Arguments} {body : List Stmt} {scope : Scope} {dV kV doc pm cdv ct oc : Value} {an od : Option Addr} {osl : Array (Option Value)} {f : Addr} {args : Args} {binds : List (Str × Value)}
    (B : Below A₀ base outer h₀) (F : Fr h₀ L s.heap m) (X₀ : K.In h₀) (T : Top p loose mean mg mb h₀) (hA : A.frames = some (env :: outer)) (hf : env.frame = some L) (hke : env.scope.kind = .function)
    (ho : K.lookup f = some ⟨oc, od, .func (fnOf name qual params body scope dV kV doc pm an cdv ct), osl⟩) (hcd : codeIn K cdv qual = true) (hroom : A.depth < recursionLimit)
    (hbind : BindsTo s (fnOf name qual params body scope dV kV doc pm an cdv ct) args binds) (hloc : ∀ y ∈ binds, scope.names.lookup y.1 = some .local)
    (h : ∀ L' h₁, Fr s.heap L' h₁ (fun y => binds.reverse.lookup y) → News s.heap L' h₁ [] → Below A base (env :: outer) s.heap → K.In s.heap → Top p loose mean mg mb s.heap →
      wpAny (model prog w) (A.deeper (envOf qual scope L' f cdv)) (execs body (envOf qual scope L' f cdv))
        (fun fl s' => LeaveS s.heap R (match fl with | .ret v => v | _ => .none) s')
        (fun e s' => wpAny (model prog w) (A.deeper (envOf qual scope L' f cdv)) (leaving (envOf qual scope L' f cdv) e) (fun _ s'' => R (.error e) s'') (fun e' s'' => R (.error e') s'') s')
        { s with heap := h₁, toks := s.toks + binds.length })
    (hco : scope.isCoroutine = false) (hgen : scope.isGenerator = false) (hk : scope.kind = .function)
    (hcell : ∀ x ∈ scope.names, x.2 ≠ .cell) : codeAny (model prog w) A (.call (.ref f) args) R s := by
  have X := X₀.keeps F.keep
  have T' := T.keeps F.keep
  have B₁ := pushX B F hf hke
  refine codeAny_call_def (fd := fnOf name qual params body scope dV kV doc pm an cdv ct) (body := body) (binds := binds) hroom (X _ _ ho) rfl T'.nolimit (codeRec_of X hcd) rfl hbind hcell hloc (fun h₁ hns hk₁ => ?_) hco hgen hk
  refine wpAny_mono (h s.heap.objs.size h₁ ⟨hns, hk₁, Nat.le_refl _⟩ News.nil ⟨hA, fun b o e => F.keep b o (B.stays b o e), B₁.frames⟩ X T') (fun fl s' hl => ?_) fun _ _ y => y
  obtain ⟨L', m', F', k⟩ := hl
  exact k
/-- entering a def with cells -/
theorem enterC {env : Env} {outer : List Env} {R : Result → Shared → Prop} {name qual : Str} {params : Arguments} {body : List Stmt} {scope : Scope} {dV kV doc pm cdv ct oc : Value} {an od : Option Addr} {osl : Array (Option Value)} {f : Addr} {args : Args} {binds : List (Str × Value)}
    (B : Below A₀ base outer h₀) (F : Fr h₀ L s.heap m) (X₀ : K.In h₀) (T : Top p loose mean mg mb h₀) (hA : A.frames = some (env :: outer)) (hf : env.frame = some L) (hke : env.scope.kind = .function)
    (ho : K.lookup f = some ⟨oc, od, .func (fnOf name qual params body scope dV kV doc pm an cdv ct), osl⟩) (hcd : codeIn K cdv qual = true) (hroom : A.depth < recursionLimit)
    (hbind : BindsTo s (fnOf name qual params body scope dV kV doc pm an cdv ct) args binds) (hkind : (binds.all fun y => scope.names.lookup y.1 == some .local || scope.names.lookup y.1 == some .cell) = true)
    (hnd : ((cellsFrom 0 scope.names []).map (·.1)).Nodup)
    (h : ∀ L' h₁ tk cells, Fr s.heap L' h₁ (bindL (envOfC qual scope L' f cdv).kindOf binds fun _ => none) → News s.heap L' h₁ (cells ++ []) →
      CellsAre (bindC (envOfC qual scope L' f cdv).kindOf binds fun _ => none) (cellsFrom (L' + 1) scope.names []) cells → Below A base (env :: outer) s.heap → K.In s.heap → Top p loose mean mg mb s.heap →
      wpAny (model prog w) (A.deeper (envOfC qual scope L' f cdv)) (execs body (envOfC qual scope L' f cdv))
        (fun fl s' => LeaveS s.heap R (match fl with | .ret v => v | _ => .none) s')
        (fun e s' => wpAny (model prog w) (A.deeper (envOfC qual scope L' f cdv)) (leaving (envOfC qual scope L' f cdv) e) (fun _ s'' => R (.error e) s'') (fun e' s'' => R (.error e') s'') s')
        { s with heap := h₁, toks := tk })
    (hco : scope.isCoroutine = false) (hgen : scope.isGenerator = false) (hk : scope.kind = .function) : codeAny (model prog w) A (.call (.ref f) args) R s := by
  have X := X₀.keeps F.keep
  have T' := T.keeps F.keep
  have B₁ := pushX B F hf hke
  refine codeAny_call_function hroom (X _ _ ho) rfl hco hgen rfl (codeRec_of X hcd) (hbind _ _ _ _ ?_)
  refine wpAny_newFunctionEnv_cells hk (kindsX hkind _) fun env' he s' x => ?_
  subst he
  refine ⟨T'.nolimit.keeps x.toInCall.keep, codeAny_func ?_⟩
  obtain ⟨h₁, tk, rfl, _⟩ := x.done
  have hk₁ := x.toInCall.keep
  obtain ⟨cells, NC, Y⟩ := Cl.news (h₀ := s.heap) (Nat.le_refl _) fun n c hm => ⟨x.cell n c (lookup_of_mem_nodup (cellsFrom_names scope.names 0 (s.heap.objs.size + 1) [] [] rfl ▸ hnd) hm), x.above n c hm⟩
  refine wpAny_mono (h s.heap.objs.size h₁ tk cells ⟨x.toInCall.ns, hk₁, Nat.le_refl _⟩ (by rw [List.append_nil]; exact NC) Y ⟨hA, fun b o e => F.keep b o (B.stays b o e), B₁.frames⟩ X T') (fun fl s' hl => ?_) fun _ _ y => y
  obtain ⟨L', m', F', k⟩ := hl
  exact k
end
theorem ne_at {a b : Addr} {o : Obj} {news : List (Addr × Obj)} (h : ∀ p ∈ news, p.1 ≠ b) (m : (a, o) ∈ news) : (show Nat from a) ≠ (show Nat from b) := h _ m
theorem ne_ta {a b : Addr} {o : Obj} {news : List (Addr × Obj)} (h : ∀ p ∈ news, p.1 ≠ b) (m : (a, o) ∈ news) : (show Nat from b) ≠ (show Nat from a) := (h _ m).symm
theorem lt_at {a b : Addr} {o : Obj} {news : List (Addr × Obj)} (h : ∀ p ∈ news, p.1 < b) (m : (a, o) ∈ news) : (show Nat from a) ≠ (show Nat from b) := Nat.ne_of_lt (h _ m)
theorem lt_ta {a b : Addr} {o : Obj} {news : List (Addr × Obj)} (h : ∀ p ∈ news, p.1 < b) (m : (a, o) ∈ news) : (show Nat from b) ≠ (show Nat from a) := Nat.ne_of_gt (h _ m)
theorem off_ne {b : Addr} {news : List (Addr × Obj)} (h : LCg.Off1 b news) : ∀ p ∈ news, p.1 ≠ b := by
  induction news with
  | nil => exact fun _ m => nomatch m
  | cons q r ih =>
    intro p m
    rcases List.mem_cons.mp m with e | m
    · rw [e]; exact h.1
    · exact ih h.2 p m
/-- a display of written ints and texts, in one step -/
noncomputable def valsF : List PySem.Expr → (Nat → Tok) → Nat → List Value
  | .Constant (.int i) _ _ :: r, f, k => .int i (f k) :: valsF r f (k + 1)
  | .Constant (.str x) _ _ :: r, f, k => .str x (f k) :: valsF r f (k + 1)
  | _, _, _ => []
noncomputable def allC : List PySem.Expr → Bool
  | [] => true
  | .Constant (.int _) _ _ :: r => allC r
  | .Constant (.str _) _ _ :: r => allC r
  | _ => false
theorem allC_inv {e : PySem.Expr} {r : List PySem.Expr} (h : allC (e :: r) = true) : allC r = true ∧ ((∃ i k p, e = .Constant (.int i) k p) ∨ ∃ x k p, e = .Constant (.str x) k p) := by
  unfold allC at h
  split at h
  · rename_i h2; cases h2
  · rename_i h2; cases h2; exact ⟨h, .inl ⟨_, _, _, rfl⟩⟩
  · rename_i h2; cases h2; exact ⟨h, .inr ⟨_, _, _, rfl⟩⟩
  · cases h
theorem spliced_at {M : Model} {A : Around} {E : Value → Shared → Prop} {env : Env} {pos : Pos} (es : List PySem.Expr) : ∀ (s : Shared) (Q : List Value → Shared → Prop) (t k : Nat), allC es = true → s.toks = t + k →
    (∀ t', Q (valsF es (fun j => t + j) k) { s with toks := t' }) → wpAny M A (spliced (backTo pos (starEach es env))) Q E s := by
  induction es with
  | nil => exact fun s Q t k _ _ h => args_nil (h s.toks)
  | cons e r ih =>
    intro s Q t k hc hs h
    obtain ⟨hr, ⟨i, kd, p, rfl⟩ | ⟨x, kd, p, rfl⟩⟩ := allC_inv hc
    · refine args_cons (wpAny_Constant_int (ih { s with toks := s.toks + 1 } _ t (k + 1) hr (congrArg (· + 1) hs) fun t' => ?_)) rfl
      have := h t'
      rw [show valsF (.Constant (.int i) kd p :: r) (fun j => t + j) k = .int i (t + k) :: valsF r (fun j => t + j) (k + 1) from rfl, ← hs] at this
      exact this
    · refine args_cons (PySem.Calls.Constant_str (ih { s with toks := s.toks + 1 } _ t (k + 1) hr (congrArg (· + 1) hs) fun t' => ?_)) rfl
      have := h t'
      rw [show valsF (.Constant (.str x) kd p :: r) (fun j => t + j) k = .str x (t + k) :: valsF r (fun j => t + j) (k + 1) from rfl, ← hs] at this
      exact this
theorem spliced_consts {M : Model} {A : Around} {E : Value → Shared → Prop} {env : Env} {pos : Pos} {es : List PySem.Expr} {s : Shared} {Q : List Value → Shared → Prop} (hc : allC es = true)
    (h : ∀ f t', Q (valsF es f 0) { s with toks := t' }) : wpAny M A (spliced (backTo pos (starEach es env))) Q E s := spliced_at es s Q s.toks 0 hc rfl fun t' => h _ t'
end
local macro_rules | `(tactic| walk_at $s:str) => `(tactic| k_extra $s)
local macro_rules | `(tactic| k_lt $h:ident) => `(tactic| skip)
local macro_rules | `(tactic| omega) => `(tactic| first | with_reducible assumption | decide +kernel | with_reducible exact Int.natCast_nonneg _ | with_reducible exact Int.ofNat_lt.mpr (by assumption) | with_reducible exact Int.ofNat_le.mpr (by assumption))
local macro_rules | `(tactic| k_ne) => `(tactic| (refine neN ?_; (try dsimp only); first | exact ne_at (by assumption) (by k_mem) | exact ne_ta (by assumption) (by k_mem) | exact lt_at (by assumption) (by k_mem) | exact lt_ta (by assumption) (by k_mem) | omega))
section
/-! L1 -/
/-- the octets of a number -/
noncomputable def u8 (c : Int) : List Int :=
  if c < 128 then [c]
  else if c < 2048 then [192 + c / 64, 128 + c % 64]
  else if c < 65536 then [224 + c / 4096, 128 + c / 64 % 64, 128 + c % 64]
  else [240 + c / 262144, 128 + c / 4096 % 64, 128 + c / 64 % 64, 128 + c % 64]
theorem u8_1 {n : Int} (h : n < 128) : u8 n = [n] := by rw [u8, if_pos h]
theorem u8_2 {n : Int} (h : ¬ n < 128) (h2 : n < 2048) : u8 n = [192 + n / 64, 128 + n % 64] := by rw [u8, if_neg h, if_pos h2]
theorem u8_3 {n : Int} (h : ¬ n < 2048) (h2 : n < 65536) : u8 n = [224 + n / 4096, 128 + n / 64 % 64, 128 + n % 64] := by
  rw [u8, if_neg (by omega), if_neg h, if_pos h2]
theorem u8_4 {n : Int} (h : ¬ n < 65536) : u8 n = [240 + n / 262144, 128 + n / 4096 % 64, 128 + n / 64 % 64, 128 + n % 64] := by
  rw [u8, if_neg (by omega), if_neg (by omega), if_neg h]
/-- a surrogate as FFFD -/
noncomputable def cl (c : Int) : Int := if 55296 ≤ c ∧ c ≤ 57343 then 65533 else c

theorem or128 {x : Int} (h0 : 0 ≤ x) (h1 : x < 64) : Builtin.bitOr 128 x = 128 + x := by
  have h : ∀ k : Fin 64, Builtin.bitOr 128 (k.val : Int) = 128 + (k.val : Int) := by decide +kernel
  have := h ⟨x.toNat, by omega⟩
  simpa [Int.toNat_of_nonneg h0] using this
theorem or192 {x : Int} (h0 : 0 ≤ x) (h1 : x < 32) : Builtin.bitOr 192 x = 192 + x := by
  have h : ∀ k : Fin 32, Builtin.bitOr 192 (k.val : Int) = 192 + (k.val : Int) := by decide +kernel
  have := h ⟨x.toNat, by omega⟩
  simpa [Int.toNat_of_nonneg h0] using this
theorem or224 {x : Int} (h0 : 0 ≤ x) (h1 : x < 16) : Builtin.bitOr 224 x = 224 + x := by
  have h : ∀ k : Fin 16, Builtin.bitOr 224 (k.val : Int) = 224 + (k.val : Int) := by decide +kernel
  have := h ⟨x.toNat, by omega⟩
  simpa [Int.toNat_of_nonneg h0] using this
theorem or240 {x : Int} (h0 : 0 ≤ x) (h1 : x < 8) : Builtin.bitOr 240 x = 240 + x := by
  have h : ∀ k : Fin 8, Builtin.bitOr 240 (k.val : Int) = 240 + (k.val : Int) := by decide +kernel
  have := h ⟨x.toNat, by omega⟩
  simpa [Int.toNat_of_nonneg h0] using this
theorem and63 {x : Int} (h0 : 0 ≤ x) : Builtin.bitAnd x 63 = x % 64 := by
  unfold Builtin.bitAnd
  simp only [h0, decide_true, show decide ((0:Int) ≤ 63) = true from rfl]
  have := Nat.and_two_pow_sub_one_eq_mod x.toNat 6
  simp only [show (2:Nat) ^ 6 - 1 = 63 from rfl, show (2:Nat)^6 = 64 from rfl] at this
  show ((x.toNat &&& 63 : Nat) : Int) = x % 64
  rw [this]; omega
theorem fd6 (n : Int) : n.fdiv (2 ^ Int.toNat 6) = n / 64 := by
  rw [show ((2:Int) ^ Int.toNat 6) = 64 from by decide]; exact Int.fdiv_eq_ediv_of_nonneg n (by decide)
theorem fd12 (n : Int) : n.fdiv (2 ^ Int.toNat 12) = n / 4096 := by
  rw [show ((2:Int) ^ Int.toNat 12) = 4096 from by decide]; exact Int.fdiv_eq_ediv_of_nonneg n (by decide)
theorem fd18 (n : Int) : n.fdiv (2 ^ Int.toNat 18) = n / 262144 := by
  rw [show ((2:Int) ^ Int.toNat 18) = 262144 from by decide]; exact Int.fdiv_eq_ediv_of_nonneg n (by decide)
noncomputable def c1tab : List Int := [8364, 0, 8218, 402, 8222, 8230, 8224, 8225, 710, 8240, 352, 8249, 338, 0, 381, 0, 0, 8216, 8217, 8220, 8221, 8226, 8211, 8212, 732, 8482, 353, 8250, 339, 0, 382, 376]
/-- a C1 control's sign in windows-1252, or the number itself -/
noncomputable def c1 (n : Int) : Int := if 128 ≤ n ∧ n ≤ 159 then (if c1tab.getD (n - 128).toNat 0 = 0 then n else c1tab.getD (n - 128).toNat 0) else n
open PySem
/-- the least place from 128 on, below 128 + k, at which c1 gives n; else -1 -/
noncomputable def seek (n : Int) : Nat → Int
  | 0 => -1
  | k + 1 => let r := seek n k; if r = -1 then (if c1 (128 + (k : Int)) = n then 128 + k else -1) else r
theorem seek_none {n : Int} : ∀ {k : Nat}, (∀ j : Nat, j < k → c1 (128 + (j : Int)) ≠ n) → seek n k = -1
  | 0, _ => rfl
  | k + 1, h => by
    have e := seek_none (n := n) (k := k) fun j hj => h j (by omega)
    simp only [seek, e, if_true, if_neg (h k (by omega))]
theorem seek_keep {n : Int} {k : Nat} {v : Int} (h : seek n k = v) (hv : v ≠ -1) : ∀ j, k ≤ j → seek n j = v := by
  intro j hj
  induction j with
  | zero => obtain rfl : k = 0 := by omega
            exact h
  | succ j ih =>
    by_cases e : k = j + 1
    · rw [← e]; exact h
    · have := ih (by omega)
      simp only [seek, this, if_neg hv]
theorem seek_hit {n : Int} {k : Nat} (h : ∀ j : Nat, j < k → c1 (128 + (j : Int)) ≠ n) (e : c1 (128 + (k : Int)) = n) {j : Nat} (hj : k < j) : seek n j = 128 + k := by
  refine seek_keep (k := k + 1) ?_ (by omega) j (by omega)
  simp only [seek, seek_none h, if_true, if_pos e]
/-- the one octet for a number in a single-octet encoding, or -1 -/
noncomputable def oo (n : Int) (y : Str) : Int :=
  if n < 128 then n
  else if y = "x-user-defined" then (if 63360 ≤ n ∧ n ≤ 63487 then n - 63360 + 128 else -1)
  else if 160 ≤ n ∧ n ≤ 255 then n else seek n 32
end
section
/-! L2 -/
noncomputable def refd (n : Int) : List Int := KStt.codes (Str.ofString "&#" ++ Str.ofString (toString n) ++ Str.ofString ";")
noncomputable def oc (n : Int) (y : Str) : List Int := if ([Str.ofString "windows-1252", Str.ofString "x-user-defined"].any fun x => x == y) = true then (if 0 ≤ oo n y then [oo n y] else refd n) else u8 n
noncomputable def isName (y : Str) : Bool := [Str.ofString "UTF-8", Str.ofString "UTF-16BE", Str.ofString "UTF-16LE", Str.ofString "windows-1252", Str.ofString "x-user-defined"].any fun x => x == y
noncomputable def encI (cs : List Int) (y : Str) : List Int := cs.flatMap fun n => oc (cl n) y
/-- decimal digits' codes -/
noncomputable def decs (k : Nat) : List Int := (Nat.toDigits 10 k).map (fun c => (c.toNat : Int))
theorem digit_code {d : Nat} (h : d < 10) : ((Nat.digitChar d).toNat : Int) = 48 + d := by
  have : ∀ e : Fin 10, ((Nat.digitChar e.val).toNat : Int) = 48 + (e.val : Int) := by decide
  exact this ⟨d, h⟩
theorem decs_if (k : Nat) : decs k = if k < 10 then [48 + (k : Int)] else decs (k / 10) ++ [48 + ((k % 10 : Nat) : Int)] := by
  unfold decs
  rw [Nat.toDigits_eq_if (by decide)]
  split
  · rename_i h; simp [digit_code h]
  · rw [List.map_append]; simp only [List.map_cons, List.map_nil, digit_code (Nat.mod_lt k (by decide))]
theorem decs_ne (k : Nat) : decs k ≠ [] := by
  rw [decs_if]; split <;> simp
theorem decs_digit (k : Nat) : ∀ d ∈ decs k, 48 ≤ d ∧ d ≤ 57 := by
  induction k using Nat.strongRecOn with
  | ind k ih =>
    intro d hd
    rw [decs_if] at hd
    split at hd
    · rw [List.mem_singleton.mp hd]; omega
    · rcases List.mem_append.mp hd with hd | hd
      · exact ih (k / 10) (by omega) d hd
      · rw [List.mem_singleton.mp hd]; omega
theorem decs_head (k : Nat) (h : 0 < k) : (decs k).getD 0 0 ≠ 48 := by
  induction k using Nat.strongRecOn with
  | ind k ih =>
    rw [decs_if]
    split
    · simp; omega
    · have h2 := ih (k / 10) (by omega) (by omega)
      have h3 := decs_ne (k / 10)
      cases e : decs (k / 10) with
      | nil => exact absurd e h3
      | cons a r => rw [e] at h2; simpa using h2
noncomputable def decv (ds : List Int) : Int := ds.foldl (fun a d => a * 10 + d - 48) 0
theorem decv_snoc (ds : List Int) (d : Int) : decv (ds ++ [d]) = decv ds * 10 + d - 48 := by simp [decv]
theorem decs_val (k : Nat) : decv (decs k) = k := by
  induction k using Nat.strongRecOn with
  | ind k ih =>
    rw [decs_if]
    split
    · simp only [decv, List.foldl_cons, List.foldl_nil]; omega
    · rw [decv_snoc, ih (k / 10) (by omega)]; omega
theorem codes_append (a b : Str) : KStt.codes (a ++ b) = KStt.codes a ++ KStt.codes b := by
  unfold KStt.codes
  rw [Str.cps_append, Array.toList_append, List.map_append]
theorem codes_ofString (s : String) : KStt.codes (Str.ofString s) = s.toList.map fun c => (c.toNat : Int) := by
  unfold KStt.codes
  rw [Str.ofString_eq_toList]
  simp
theorem refd_eq (k : Nat) : refd (k : Int) = 38 :: 35 :: (decs k ++ [59]) := by
  unfold refd
  rw [codes_append, codes_append, codes_ofString, codes_ofString, codes_ofString]
  have e : (toString (k : Int)) = k.repr := rfl
  rw [e, Nat.repr_eq_ofList_toDigits]
  simp [decs]
theorem c1_range {j : Nat} (h : j < 32) : 0 ≤ c1 (128 + (j : Int)) := by
  have : ∀ e : Fin 32, 0 ≤ c1 (128 + (e.val : Int)) := by decide +kernel
  exact this ⟨j, h⟩
theorem seek_lt (n : Int) : ∀ k : Nat, k ≤ 32 → seek n k < 160 ∧ (0 ≤ seek n k → 128 ≤ seek n k)
  | 0, _ => by simp [seek]
  | k + 1, h => by
    have e := seek_lt n k (by omega)
    simp only [seek]
    split
    · split <;> omega
    · exact e
theorem oo_lt {n : Int} {y : Str} (h : n < 1114112) : oo n y < 256 := by
  unfold oo
  have := seek_lt n 32 (by decide)
  split
  · omega
  · split
    · split <;> omega
    · split <;> omega
theorem u8_byte {n : Int} (h0 : 0 ≤ n) (h1 : n < 1114112) : ∀ b ∈ u8 n, 0 ≤ b ∧ b < 256 := by
  intro b hb
  unfold u8 at hb
  (repeat' split at hb) <;> simp only [List.mem_cons, List.not_mem_nil, or_false] at hb <;> omega
theorem refd_byte {n : Int} (h0 : 0 ≤ n) : ∀ b ∈ refd n, 0 ≤ b ∧ b < 256 := by
  intro b hb
  obtain ⟨k, rfl⟩ : ∃ k : Nat, n = k := ⟨n.toNat, by omega⟩
  rw [refd_eq] at hb
  simp only [List.mem_cons, List.mem_append, List.not_mem_nil, or_false] at hb
  rcases hb with h | h | h | h
  · omega
  · omega
  · have := decs_digit k b h; omega
  · omega
theorem oc_byte {n : Int} {y : Str} (h0 : 0 ≤ n) (h1 : n < 1114112) : ∀ b ∈ oc n y, 0 ≤ b ∧ b < 256 := by
  intro b hb
  unfold oc at hb
  split at hb
  · split at hb
    · rename_i h; rw [List.mem_singleton.mp hb]; exact ⟨h, oo_lt h1⟩
    · exact refd_byte h0 b hb
  · exact u8_byte h0 h1 b hb
theorem cl_range {n : Int} (h0 : 0 ≤ n) (h1 : n < 1114112) : 0 ≤ cl n ∧ cl n < 1114112 := by
  unfold cl; split <;> omega
theorem encI_byte {cs : List Int} {y : Str} (h : ∀ c ∈ cs, 0 ≤ c ∧ c < 1114112) : ∀ b ∈ encI cs y, 0 ≤ b ∧ b < 256 := by
  intro b hb
  obtain ⟨c, hc, hb⟩ := List.mem_flatMap.mp hb
  have := cl_range (h c hc).1 (h c hc).2
  exact oc_byte this.1 this.2 b hb
theorem u8_len (n : Int) : 1 ≤ (u8 n).length ∧ (u8 n).length ≤ 4 := by
  unfold u8; (repeat' split) <;> simp
theorem decs_len {k : Nat} (h : k < 10000000) : (decs k).length ≤ 7 := by
  have h2 := PySem.int_text_length_le10 (a := (k : Int)) (k := 7) (by decide) (by omega)
  have e : (decs k).length = (toString (k : Int)).length := by
    show _ = (k.repr).length
    rw [Nat.repr_eq_ofList_toDigits]; simp [decs]
  have : ∀ k : Nat, k < 10 ^ 7 → (decs k).length ≤ 7 := by
    have : ∀ j k : Nat, k < 10 ^ (j + 1) → (decs k).length ≤ j + 1 := by
      intro j
      induction j with
      | zero => intro k hk; rw [decs_if, if_pos (by omega)]; simp
      | succ j ih =>
        intro k hk
        rw [decs_if]
        split
        · simp
        · rw [List.length_append]
          have := ih (k / 10) (by rw [Nat.pow_succ] at hk; omega)
          simp; omega
    exact this 6
  exact this k (by omega)
theorem oc_len {n : Int} {y : Str} (h0 : 0 ≤ n) (h1 : n < 1114112) : (oc n y).length ≤ 10 := by
  unfold oc
  split
  · split
    · simp
    · obtain ⟨k, rfl⟩ : ∃ k : Nat, n = k := ⟨n.toNat, by omega⟩
      rw [refd_eq]
      have := decs_len (k := k) (by omega)
      simp; omega
  · have := u8_len n; omega
theorem encI_len {y : Str} : ∀ {cs : List Int}, (∀ c ∈ cs, 0 ≤ c ∧ c < 1114112) → (encI cs y).length ≤ 10 * cs.length
  | [], _ => by simp [encI]
  | c :: cs, h => by
    have ih := encI_len (y := y) (cs := cs) fun d hd => h d (List.mem_cons_of_mem _ hd)
    have hc := cl_range (h c (List.mem_cons_self ..)).1 (h c (List.mem_cons_self ..)).2
    have h1 := oc_len (y := y) hc.1 hc.2
    unfold encI at ih ⊢
    rw [List.flatMap_cons, List.length_append, List.length_cons]
    omega
theorem encI_snoc (cs : List Int) (n : Int) (y : Str) : encI (cs ++ [n]) y = encI cs y ++ oc (cl n) y := by simp [encI]
theorem encI_app (a b : List Int) (y : Str) : encI (a ++ b) y = encI a y ++ encI b y := by simp [encI]
theorem codes_nat {x : Str} : ∀ c ∈ KStt.codes x, 0 ≤ c := by
  intro c hc
  unfold KStt.codes at hc
  obtain ⟨k, _, rfl⟩ := List.mem_map.mp hc
  omega
noncomputable def nonch (n : Int) : Bool := decide (64976 ≤ n ∧ n ≤ 65007 ∨ 0 ≤ n ∧ n ≤ 1114111 ∧ 65534 ≤ n % 65536)
theorem c1_bounds {n : Int} (h0 : 0 ≤ n) (h1 : n < 1114112) : 0 ≤ c1 n ∧ c1 n < 1114112 := by
  have key : ∀ e : Fin 32, 0 ≤ c1 (128 + (e.val : Int)) ∧ c1 (128 + (e.val : Int)) < 1114112 := by decide +kernel
  by_cases h : 128 ≤ n ∧ n ≤ 159
  · have := key ⟨(n - 128).toNat, by omega⟩
    rw [show (128 + (((n - 128).toNat : Nat) : Int)) = n by omega] at this
    exact this
  · rw [c1, if_neg h]; exact ⟨h0, h1⟩
theorem c1_out {n : Int} (h : ¬ (128 ≤ n ∧ n ≤ 159)) : c1 n = n := by rw [c1, if_neg h]
/-- the law's own table -/
noncomputable def hiT : List Int := [8364, 129, 8218, 402, 8222, 8230, 8224, 8225, 710, 8240, 352, 8249, 338, 141, 381, 143, 144, 8216, 8217, 8220, 8221, 8226, 8211, 8212, 732, 8482, 353, 8250, 339, 157, 382, 376]
theorem hi_c1 {n : Int} (h0 : 128 ≤ n) (h1 : n ≤ 159) : hiT.getD (n - 128).toNat 0 = c1 n := by
  have key : ∀ e : Fin 32, hiT.getD e.val 0 = c1 (128 + (e.val : Int)) := by decide +kernel
  have := key ⟨(n - 128).toNat, by omega⟩
  rw [show (128 + (((n - 128).toNat : Nat) : Int)) = n by omega] at this
  exact this
end
section
/-! L3 -/
theorem weight_small {n : Int} (h0 : 0 ≤ n) (h1 : n < 1114112) : PyData.weight (.int n) ≤ 22 := by
  simp only [PyData.weight]
  split
  · omega
  · have : n.natAbs.log2 < 21 := (Nat.log2_lt (by rename ¬ _ => h; intro e; apply h; simp; omega)).mpr (by omega)
    omega
theorem weightAll_small : ∀ {ns : List Int}, (∀ n ∈ ns, 0 ≤ n ∧ n < 1114112) → PyData.weightAll (ns.map .int) ≤ 23 * ns.length
  | [], _ => by simp [PyData.weightAll]
  | n :: r, h => by
    have h1 := weight_small (h n (List.mem_cons_self ..)).1 (h n (List.mem_cons_self ..)).2
    have h2 := weightAll_small (ns := r) fun m hm => h m (List.mem_cons_of_mem _ hm)
    simp only [List.map_cons, PyData.weightAll, List.length_cons]
    omega
theorem lay_small {ns : List Int} (h : ∀ n ∈ ns, 0 ≤ n ∧ n < 1114112) (hl : ns.length < 1000) : PyData.layable0 (.list (ns.map .int)) = true := by
  unfold PyData.layable0
  rw [Bool.and_eq_true, Bool.and_eq_true]
  refine ⟨⟨?_, ?_⟩, ?_⟩
  · simp only [PyData.canLay0]; exact canLayAll0_ints ns
  · have := PySem.W.depthAll_ints ns
    apply decide_eq_true
    simp only [PyData.depth]; omega
  · have := weightAll_small h
    apply decide_eq_true
    simp only [PyData.weight]; omega
/-- the top five bits below the eighth, then a nought -/
noncomputable def onesL (b : Int) : List Int := List.map (fun k' : Int => (b.fdiv (2 ^ (7 - k').toNat)).fmod 2) (rangeKs 0 (5 - 0 : Int).toNat) ++ [0]
theorem onesL_eq (b : Int) : onesL b = [b / 128 % 2, b / 64 % 2, b / 32 % 2, b / 16 % 2, b / 8 % 2, 0] := by
  have e : rangeKs 0 (5 - 0 : Int).toNat = [0, 1, 2, 3, 4] := by decide
  unfold onesL
  rw [e]
  have f2 : ∀ x : Int, x.fmod 2 = x % 2 := fun x => Int.fmod_eq_emod_of_nonneg x (by decide)
  have d : ∀ (x : Int) (k : Nat), x.fdiv (2 ^ k) = x / 2 ^ k := fun x k => Int.fdiv_eq_ediv_of_nonneg x (Int.pow_nonneg (by decide))
  simp only [List.map_cons, List.map_nil, List.cons_append, List.nil_append, f2, d]
  simp only [show ((7 : Int) - 0).toNat = 7 from rfl, show ((7 : Int) - 1).toNat = 6 from rfl, show ((7 : Int) - 2).toNat = 5 from rfl, show ((7 : Int) - 3).toNat = 4 from rfl, show ((7 : Int) - 4).toNat = 3 from rfl,
    show (2 : Int) ^ 7 = 128 from rfl, show (2 : Int) ^ 6 = 64 from rfl, show (2 : Int) ^ 5 = 32 from rfl, show (2 : Int) ^ 4 = 16 from rfl, show (2 : Int) ^ 3 = 8 from rfl]
theorem onesL_bits {b : Int} : ∀ n ∈ onesL b, 0 ≤ n ∧ n < 1114112 := by
  intro n hn
  rw [onesL_eq] at hn
  simp only [List.mem_cons, List.not_mem_nil, or_false] at hn
  omega
theorem onesL_len (b : Int) : (onesL b).length = 6 := by rw [onesL_eq]; rfl
theorem onesL_mem (b : Int) : (0 : Int) ∈ onesL b := by rw [onesL_eq]; simp
theorem idx_miss {a : Int} {r : List Int} (h : a ≠ 0) : (a :: r).idxOf 0 = r.idxOf 0 + 1 := by rw [List.idxOf_cons, show (a == 0) = false from beq_false_of_ne h]; rfl
theorem idx_hit {a : Int} {r : List Int} (h : a = 0) : (a :: r).idxOf 0 = 0 := by rw [h, List.idxOf_cons_self]
theorem ones1 {b : Int} (h0 : 0 ≤ b) (h1 : b < 128) : (onesL b).idxOf 0 = 0 := by rw [onesL_eq, idx_hit (by omega)]
theorem ones2 {b : Int} (h0 : 192 ≤ b) (h1 : b < 224) : (onesL b).idxOf 0 = 2 := by rw [onesL_eq, idx_miss (by omega), idx_miss (by omega), idx_hit (by omega)]
theorem ones3 {b : Int} (h0 : 224 ≤ b) (h1 : b < 240) : (onesL b).idxOf 0 = 3 := by rw [onesL_eq, idx_miss (by omega), idx_miss (by omega), idx_miss (by omega), idx_hit (by omega)]
theorem ones4 {b : Int} (h0 : 240 ≤ b) (h1 : b < 248) : (onesL b).idxOf 0 = 4 := by rw [onesL_eq, idx_miss (by omega), idx_miss (by omega), idx_miss (by omega), idx_miss (by omega), idx_hit (by omega)]
noncomputable def offs (ps : List Int) (i : Nat) : Nat := ((ps.take i).flatMap u8).length
theorem offs_total {ps : List Int} {i : Nat} (h : ps.length ≤ i) : offs ps i = (ps.flatMap u8).length := by
  unfold offs; rw [List.take_of_length_le h]
theorem offs_at {ps : List Int} {i : Nat} (h : i < ps.length) : ∃ pre post, ps.flatMap u8 = pre ++ u8 (ps.getD i 0) ++ post ∧ pre.length = offs ps i ∧ offs ps (i + 1) = offs ps i + (u8 (ps.getD i 0)).length := by
  have e : ps = ps.take i ++ ps.getD i 0 :: ps.drop (i + 1) := by
    have : ps.getD i 0 = ps[i] := by simp [List.getD, h]
    rw [this]; simp
  refine ⟨(ps.take i).flatMap u8, (ps.drop (i + 1)).flatMap u8, ?_, rfl, ?_⟩
  · conv => lhs; rw [e]
    simp
  · unfold offs
    have : ps.take (i + 1) = ps.take i ++ [ps.getD i 0] := by
      rw [List.take_add_one]; simp [List.getD, h]
    rw [this]; simp
/-- the slice behind a first octet -/
theorem behind_eq {ns pre post tl : List Int} {b : Int} {a many : Nat} (h : ns = pre ++ (b :: tl) ++ post) (hp : pre.length = a) (hm : many = tl.length + 1) (X Y : Nat) (hX : X = min (a + many) ns.length - (a + 1)) (hY : Y = a + 1) :
    List.take X (List.drop Y ns) = tl := by
  subst hX hY hm hp h
  simp only [List.length_append, List.length_cons]
  rw [show min (pre.length + (tl.length + 1)) (pre.length + (tl.length + 1) + post.length) - (pre.length + 1) = tl.length by omega]
  rw [show pre ++ b :: tl ++ post = (pre ++ [b]) ++ (tl ++ post) by simp]
  rw [List.drop_left' (by simp), List.take_left' rfl]
theorem behind_ints {ws : List Value} {ns pre post tl : List Int} {b : Int} {a many X Y : Nat} (hi : IntsAre ws (List.take X (List.drop Y ns))) (h : ns = pre ++ (b :: tl) ++ post) (hp : pre.length = a) (hm : many = tl.length + 1) (hX : X = min (a + many) ns.length - (a + 1)) (hY : Y = a + 1) : IntsAre ws tl := by
  rw [← behind_eq h hp hm X Y hX hY]; exact hi
noncomputable def edgesL (v : Int) (i : Nat) : List Int := ([0, 128, 2048, 65536].take i).filter fun e : Int => decide (e ≤ v)
theorem edgesL_hit {v e : Int} {i : Nat} (h : [0, 128, 2048, 65536][i]? = some e) (hv : e ≤ v) : edgesL v (i + 1) = edgesL v i ++ [e] := by
  unfold edgesL; rw [List.take_add_one, h, List.filter_append]; simp [hv]
theorem edgesL_miss {v e : Int} {i : Nat} (h : [0, 128, 2048, 65536][i]? = some e) (hv : ¬ e ≤ v) : edgesL v (i + 1) = edgesL v i := by
  unfold edgesL; rw [List.take_add_one, h, List.filter_append]; simp; omega
theorem edges1 {v : Int} (h0 : 0 ≤ v) (h : v < 128) : (edgesL v 4).length = 1 := by
  unfold edgesL; simp [h0, show ¬ 128 ≤ v by omega, show ¬ 2048 ≤ v by omega, show ¬ 65536 ≤ v by omega]
theorem edges2 {v : Int} (h0 : 128 ≤ v) (h : v < 2048) : (edgesL v 4).length = 2 := by
  unfold edgesL; simp [h0, show 0 ≤ v by omega, show ¬ 2048 ≤ v by omega, show ¬ 65536 ≤ v by omega]
theorem edges3 {v : Int} (h0 : 2048 ≤ v) (h : v < 65536) : (edgesL v 4).length = 3 := by
  unfold edgesL; simp [h0, show 0 ≤ v by omega, show 128 ≤ v by omega, show ¬ 65536 ≤ v by omega]
theorem edges4 {v : Int} (h0 : 65536 ≤ v) : (edgesL v 4).length = 4 := by
  unfold edgesL; simp [h0, show 0 ≤ v by omega, show 128 ≤ v by omega, show 2048 ≤ v by omega]
noncomputable def runv (b : Int) (l : List Int) : Int := l.foldl (fun a o => a * 64 + o % 64) b
theorem runv_snoc (b : Int) (l : List Int) (o : Int) : runv b (l ++ [o]) = runv b l * 64 + o % 64 := by simp [runv]
theorem flat_len : ∀ ps : List Int, ps.length ≤ (ps.flatMap u8).length
  | [] => Nat.le_refl _
  | p :: r => by
    have h1 := u8_len p
    have h2 := flat_len r
    rw [List.flatMap_cons, List.length_append, List.length_cons]; omega
theorem edges_at {t0 t1 t2 t3 : Tok} {i : Nat} {v : Value} (h : (#[.int 0 t0, .int 128 t1, .int 2048 t2, .int 65536 t3] : Array Value)[i]? = some v) :
    ∃ e t, v = .int e t ∧ ([0, 128, 2048, 65536] : List Int)[i]? = some e := by
  match i, h with
  | 0, h => simp at h; exact ⟨0, t0, h.symm, rfl⟩
  | 1, h => simp at h; exact ⟨128, t1, h.symm, rfl⟩
  | 2, h => simp at h; exact ⟨2048, t2, h.symm, rfl⟩
  | 3, h => simp at h; exact ⟨65536, t3, h.symm, rfl⟩
  | n + 4, h => simp at h
end
section
/-! L7 -/
/-- what the reader finds at a first octet: the ones ahead, the octets behind, the point -/
theorem u8_cls {p : Int} (h0 : 0 ≤ p) (h1 : p < 1114112) : ∃ (c many : Nat) (b : Int) (tl : List Int), u8 p = b :: tl ∧ c ≠ 1 ∧ c ≤ 4 ∧ (if 1 > (c : Int) then (1 : Int) else (c : Int)) = (many : Int) ∧ many = tl.length + 1 ∧ (onesL b).idxOf 0 = c ∧
    (∀ o ∈ tl, o / 64 = 2) ∧ runv (b.fmod (2 ^ (7 - (c : Int)).toNat)) tl = p ∧ (edgesL p 4).length = many := by
  have fm : ∀ (b : Int) (k : Nat), b.fmod (2 ^ k) = b % 2 ^ k := fun b k => Int.fmod_eq_emod_of_nonneg b (Int.pow_nonneg (by decide))
  by_cases q1 : p < 128
  · refine ⟨0, 1, p, [], u8_1 q1, by decide, by decide, by decide, rfl, ones1 h0 q1, (fun _ h => nomatch h), ?_, edges1 h0 q1⟩
    rw [fm]
    show p % 128 = p
    omega
  by_cases q2 : p < 2048
  · refine ⟨2, 2, _, _, u8_2 q1 q2, by decide, by decide, by decide, rfl, ones2 (by omega) (by omega), ?_, ?_, edges2 (by omega) q2⟩
    · intro o ho
      simp only [List.mem_cons, List.not_mem_nil, or_false] at ho
      omega
    · rw [fm, show (2 : Int) ^ (7 - ((2 : Nat) : Int)).toNat = 32 from rfl]
      simp only [runv, List.foldl_cons, List.foldl_nil]
      omega
  by_cases q3 : p < 65536
  · refine ⟨3, 3, _, _, u8_3 q2 q3, by decide, by decide, by decide, rfl, ones3 (by omega) (by omega), ?_, ?_, edges3 (by omega) q3⟩
    · intro o ho
      simp only [List.mem_cons, List.not_mem_nil, or_false] at ho
      omega
    · rw [fm, show (2 : Int) ^ (7 - ((3 : Nat) : Int)).toNat = 16 from rfl]
      simp only [runv, List.foldl_cons, List.foldl_nil]
      omega
  · refine ⟨4, 4, _, _, u8_4 q3, by decide, by decide, by decide, rfl, ones4 (by omega) (by omega), ?_, ?_, edges4 (by omega)⟩
    · intro o ho
      simp only [List.mem_cons, List.not_mem_nil, or_false] at ho
      omega
    · rw [fm, show (2 : Int) ^ (7 - ((4 : Nat) : Int)).toNat = 8 from rfl]
      simp only [runv, List.foldl_cons, List.foldl_nil]
      omega
end
section
/-! LC -/
section
variable {prog : Program} {w : World} {A : Around} {E : Value → Shared → Prop} {s : Shared} {h₀ : Heap} {L : Addr} {m : Str → Option Value} {env : Env}

noncomputable def SrcS (prog : Program) (w : World) (A : Around) (h₀ : Heap) (L : Addr) (m : Str → Option Value) (env : Env) (elt : Expr) (x : Str) (scope : Scope) (cl : List (Str × Addr)) (Fin : Shared → List Value → List (Addr × Obj) → Prop) (xv : Value) (s₁ : Shared) : Prop :=
  ∃ (xt : Str) (tx : Tok) (news : List (Addr × Obj)), xv = .str xt tx ∧ A.handled = none ∧ Fr h₀ L s₁.heap m ∧ News h₀ L s₁.heap news ∧ xt.cps.size ≤ sizeLine ∧
    ∀ g, LCg.CompRest prog w A h₀ L m env elt x scope cl { s₁ with heap := g } (fun _ => True) (SignAt xt) (Fin { s₁ with heap := g }) xt.cps.size 0 [] news

/-- a comprehension over a text -/
theorem ListComp_S {elt iter : Expr} {x : Str} {px : Pos} {scope : Scope} {cl : List (Str × Addr)} {pos : Pos} {Q : Value → Shared → Prop} (_F₀ : Fr h₀ L s.heap m)
    (hclos : closureFor scope env = pure cl) (hcell : ∀ y ∈ scope.names, y.2 ≠ .cell) (hkind : scope.kind = .function)
    (hnames : ∀ y ∈ scope.names, y.2 = .local → scope.names.lookup y.1 = some .local) (hx : scope.names.lookup x = some .local)
    (h : wpAny (model prog w) A (eval iter env) (SrcS prog w A h₀ L m env elt x scope cl (fun s₂ => LCg.FinE h₀ L m s₂ Q)) E s)
    (hs : ∀ x, foldedSetIterable iter env x = pure x := by intro _; rfl) :
    wpAny (model prog w) A (eval (.ListComp elt [⟨.Name x px, iter, [], 0⟩] scope pos) env) Q E s := by
  rw [eval_ListComp]
  refine wpAny_comprehension_free (use := none) rfl hs hclos hkind hnames (wpAny_mono h (fun xv s₁ h₁ => ?_) fun _ _ e => e)
  obtain ⟨xt, tx, news, rfl, hh, F, N, hsz, R⟩ := h₁
  have fin : ∀ D C h tk m' ys news', Fr h₀ L h m → News h₀ L h ((D, LCg.lst ys) :: news') → LCg.Off1 D news' → h.Ns C m' → h₀.get? C = none → C ≠ L → C ≠ D → (∀ p ∈ news', p.1 ≠ C) →
      LCg.FinE h₀ L m { s₁ with heap := h } Q ys news' → ∃ m', h.Ns C m' ∧ ∀ h'', Heap.SameBut C h h'' → Q (.ref D) { s₁ with heap := h'', toks := tk } := by
    intro D C h tk m' ys news' F' N' o1 hn hC₀ hCL hCD offC fin
    refine ⟨m', hn, fun h'' hs'' => fin D h'' tk (F'.change hs'' hCL hC₀) (fun p hp => ?_) o1⟩
    refine ⟨hs''.extBut _ _ ?_ (N' p hp).1, (N' p hp).2⟩
    rcases List.mem_cons.mp hp with rfl | hp
    · exact Ne.symm hCD
    · exact offC p hp
  have stay : ∀ (cls : String) i (h h' : Heap) (o : Obj) (nw : List (Addr × Obj)), h.IsStrIter s₁.heap.objs.size cls xt tx i → h.get? s₁.heap.objs.size = some o → h'.get? s₁.heap.objs.size = some o → (∀ b o, h₀.get? b = some o → h'.get? b = some o) → News h₀ L h' nw → True → h'.IsStrIter s₁.heap.objs.size cls xt tx i :=
    fun cls i h h' o nw st e e' _ _ _ => by obtain ⟨o', q, r⟩ := st; rw [e] at q; cases q; exact ⟨o, e', r⟩
  cases ha : xt.cps.all (· < 128)
  · refine wpAny_pyIter_wide ha ?_
    refine LCg.block_U (Walks.strWide hh _ xt tx) hsz (fun i h st => by obtain ⟨o, e, _⟩ := st; exact ⟨o, e⟩) (stay _) hcell hkind hx ⟨_, Heap.get?_push_size _ rfl, rfl, rfl⟩ (fun b hb => ?_)
      (F.keeps fun _ _ e => Heap.get?_push_of_some _ e) (N.grown fun _ _ e => Heap.get?_push_of_some _ e) (Nat.ne_of_lt F.ns.lt) (next_is_new F) (fun p hp => Nat.ne_of_lt (Heap.lt_size (N p hp).1)) trivial (R _) ?_
    · rw [List.mem_singleton.mp hb]
      show s₁.heap.objs.size < (s₁.heap.push _).objs.size
      rw [Heap.size_push]; exact Nat.lt_succ_self _
    · intro D C h tk m' ys news' F' N' o1 hn hC₀ hD₀ hCL hDL hCD offC f
      exact fin D C h tk m' ys news' F' N' o1 hn hC₀ hCL hCD offC f
  · refine wpAny_pyIter_ascii ha ?_
    refine LCg.block_U (Walks.strAscii hh _ xt tx) hsz (fun i h st => by obtain ⟨o, e, _⟩ := st; exact ⟨o, e⟩) (stay _) hcell hkind hx ⟨_, Heap.get?_push_size _ rfl, rfl, rfl⟩ (fun b hb => ?_)
      (F.keeps fun _ _ e => Heap.get?_push_of_some _ e) (N.grown fun _ _ e => Heap.get?_push_of_some _ e) (Nat.ne_of_lt F.ns.lt) (next_is_new F) (fun p hp => Nat.ne_of_lt (Heap.lt_size (N p hp).1)) trivial (R _) ?_
    · rw [List.mem_singleton.mp hb]
      show s₁.heap.objs.size < (s₁.heap.push _).objs.size
      rw [Heap.size_push]; exact Nat.lt_succ_self _
    · intro D C h tk m' ys news' F' N' o1 hn hC₀ hD₀ hCL hDL hCD offC f
      exact fin D C h tk m' ys news' F' N' o1 hn hC₀ hCL hCD offC f

/-- the turns of a comprehension by an invariant over what it has made -/
theorem rest_inv {elt : Expr} {x : Str} {scope : Scope} {cl : List (Str × Addr)} {S : List (Addr × Obj) → Prop} {P : Nat → Value → Prop} {Fin : List Value → List (Addr × Obj) → Prop} {n : Nat} {news : List (Addr × Obj)}
    (J : Nat → List Value → List (Addr × Obj) → Prop) (h0 : J 0 [] news)
    (turn : ∀ i v I oI C oC D m₂ h tk (E' : Value → Shared → Prop) ys nw, i < n → J i ys nw → P i v → LCg.NsObj oC m₂ → m₂ x = some v → Fr h₀ L h m → News h₀ L h ((I, oI) :: (C, oC) :: (D, LCg.lst ys) :: nw) → LCg.Off3 I C D nw → ((@Ne Nat I C) ∧ (@Ne Nat I D) ∧ (@Ne Nat C D)) →
      wpAny (model prog w) A (eval elt (compEnvC scope cl C env)) (LCg.CompEnd h₀ L m { s with heap := h, toks := tk } I oI C oC D (LCg.lst ys) S (fun y nw' => J (i + 1) (ys ++ [y]) nw')) E' { s with heap := h, toks := tk })
    (fin : ∀ ys nw, J n ys nw → Fin ys nw) : LCg.CompRest prog w A h₀ L m env elt x scope cl s S P Fin n 0 [] news := by
  have key : ∀ (j i : Nat) (ys : List Value) (nw : List (Addr × Obj)), i + j = n → J i ys nw → LCg.CompRest prog w A h₀ L m env elt x scope cl s S P Fin j i ys nw := by
    intro j
    induction j with
    | zero => intro i ys nw hi hJ; obtain rfl : i = n := by omega
              exact LCg.CompRest.zero (fin ys nw hJ)
    | succ j ih =>
      intro i ys nw hi hJ
      refine LCg.CompRest.succ ?_
      intro v I oI C oC D m₂ h tk E' hP hC hx F N off ne
      refine wpAny_mono (turn i v I oI C oC D m₂ h tk E' ys nw (by omega) hJ hP hC hx F N off ne) (fun y s₂ hq => ?_) fun _ _ e => e
      obtain ⟨h', tk', nw', e, F', N', off', hS, hJ'⟩ := hq
      exact ⟨h', tk', nw', e, F', N', off', hS, ih (i + 1) _ nw' (by omega) hJ'⟩
  exact key n 0 [] news (by omega) h0
/-- a text's signs, each to its number -/
theorem rest_ords {elt : Expr} {x : Str} {scope : Scope} {cl : List (Str × Addr)} {S : List (Addr × Obj) → Prop} {Fin : List Value → List (Addr × Obj) → Prop} {xt : Str} {news : List (Addr × Obj)}
    (turn : ∀ n u I oI C oC D m₂ h tk (E' : Value → Shared → Prop) ys, xt.cps[(ys : List Value).length]? = some n → LCg.NsObj oC m₂ → m₂ x = some (.str ⟨#[n]⟩ u) → Fr h₀ L h m → News h₀ L h ((I, oI) :: (C, oC) :: (D, LCg.lst ys) :: news) → LCg.Off3 I C D news → ((@Ne Nat I C) ∧ (@Ne Nat I D) ∧ (@Ne Nat C D)) →
      wpAny (model prog w) A (eval elt (compEnvC scope cl C env)) (LCg.CompEnd h₀ L m { s with heap := h, toks := tk } I oI C oC D (LCg.lst ys) S (fun y nw' => nw' = news ∧ ∃ t, y = .int (n : Int) t)) E' { s with heap := h, toks := tk })
    (fin : ∀ ys, IntsAre ys (KStt.codes xt) → Fin ys news) : LCg.CompRest prog w A h₀ L m env elt x scope cl s S (SignAt xt) Fin xt.cps.size 0 [] news := by
  refine rest_inv (fun i ys nw => nw = news ∧ ys.length = i ∧ IntsAre ys ((KStt.codes xt).take i)) ⟨rfl, rfl, IntsAre.nil⟩ ?_ ?_
  · rintro i v I oI C oC D m₂ h tk E' ys nw hi ⟨rfl, hl, hJ⟩ ⟨n, u, hn, rfl⟩ hC hx F N off ne
    subst hl
    refine wpAny_mono (turn n u I oI C oC D m₂ h tk E' ys hn hC hx F N off ne) (fun y s₂ hq => ?_) fun _ _ e => e
    obtain ⟨h', tk', nw', e, F', N', off', hS, hnw, t, hy⟩ := hq
    refine ⟨h', tk', nw', e, F', N', off', hS, hnw, by simp, ?_⟩
    rw [hy, List.take_add_one, KStt.code_at hn]
    exact IntsAre.append hJ (IntsAre.cons _ _ IntsAre.nil)
  · rintro ys nw ⟨rfl, hl, hJ⟩
    have e : (KStt.codes xt).take xt.cps.size = KStt.codes xt := by
      apply List.take_of_length_le
      rw [KStt.codes_length]; exact Nat.le_refl _
    rw [e] at hJ
    exact fin ys hJ
/-- where a turn's element ends: what must stand stands -/
noncomputable def EndS (h₀ : Heap) (L : Addr) (m : Str → Option Value) (s : Shared) (keep : List (Addr × Obj)) (R : Value → Prop) (y : Value) (s' : Shared) : Prop :=
  ∃ h' tk' all, s' = { s with heap := h', toks := tk' } ∧ Fr h₀ L h' m ∧ News h₀ L h' all ∧ (∀ p ∈ keep, p ∈ all) ∧ R y
theorem EndS.intro {keep all : List (Addr × Obj)} {R : Value → Prop} {y : Value} {h' : Heap} {tk' : Nat} (F : Fr h₀ L h' m) (N : News h₀ L h' all) (sub : ∀ p ∈ keep, p ∈ all) (r : R y) :
    EndS h₀ L m s keep R y { s with heap := h', toks := tk' } := ⟨h', tk', all, rfl, F, N, sub, r⟩
theorem rest_fix {elt : Expr} {x : Str} {scope : Scope} {cl : List (Str × Addr)} {S : List (Addr × Obj) → Prop} {P : Nat → Value → Prop} {Fin : List Value → List (Addr × Obj) → Prop} {n : Nat} {news : List (Addr × Obj)}
    (J : Nat → List Value → Prop) (hS : S news) (h0 : J 0 [])
    (turn : ∀ i v I oI C oC D m₂ h tk (E' : Value → Shared → Prop) ys, i < n → J i ys → P i v → LCg.NsObj oC m₂ → m₂ x = some v → Fr h₀ L h m → News h₀ L h ((I, oI) :: (C, oC) :: (D, LCg.lst ys) :: news) → LCg.Off3 I C D news → ((@Ne Nat I C) ∧ (@Ne Nat I D) ∧ (@Ne Nat C D)) →
      wpAny (model prog w) A (eval elt (compEnvC scope cl C env)) (EndS h₀ L m { s with heap := h, toks := tk } ((I, oI) :: (C, oC) :: (D, LCg.lst ys) :: news) (fun y => J (i + 1) (ys ++ [y]))) E' { s with heap := h, toks := tk })
    (fin : ∀ ys, J n ys → Fin ys news) : LCg.CompRest prog w A h₀ L m env elt x scope cl s S P Fin n 0 [] news := by
  refine rest_inv (fun i ys nw => nw = news ∧ J i ys) ⟨rfl, h0⟩ ?_ (by rintro ys nw ⟨rfl, h⟩; exact fin ys h)
  rintro i v I oI C oC D m₂ h tk E' ys nw hi ⟨rfl, hJ⟩ hP hC hx F N off ne
  refine wpAny_mono (turn i v I oI C oC D m₂ h tk E' ys hi hJ hP hC hx F N off ne) (fun y s₂ hq => ?_) fun _ _ e => e
  obtain ⟨h', tk', all, rfl, F', N', sub, r⟩ := hq
  exact LCg.CompEnd.intro F' N' nw sub off hS ⟨rfl, r⟩
/-- the same, with a test -/
theorem restT_fix {ct elt : Expr} {x : Str} {scope : Scope} {cl : List (Str × Addr)} {S : List (Addr × Obj) → Prop} {P : Nat → Value → Prop} {Fin : List Value → List (Addr × Obj) → Prop} {n : Nat} {news : List (Addr × Obj)}
    (J : Nat → List Value → Prop) (hS : S news) (h0 : J 0 [])
    (turn : ∀ i v I oI C oC D m₂ h tk (E' : Value → Shared → Prop) ys, i < n → J i ys → P i v → LCg.NsObj oC m₂ → m₂ x = some v → Fr h₀ L h m → News h₀ L h ((I, oI) :: (C, oC) :: (D, LCg.lst ys) :: news) → LCg.Off3 I C D news → ((@Ne Nat I C) ∧ (@Ne Nat I D) ∧ (@Ne Nat C D)) →
      wpAny (model prog w) A (isTrue ct (compEnvC scope cl C env) (eval ct (compEnvC scope cl C env))) (fun ok s' => if ok = true then
        wpAny (model prog w) A (eval elt (compEnvC scope cl C env)) (EndS h₀ L m { s with heap := h, toks := tk } ((I, oI) :: (C, oC) :: (D, LCg.lst ys) :: news) (fun y => J (i + 1) (ys ++ [y]))) E' s'
        else EndS h₀ L m { s with heap := h, toks := tk } ((I, oI) :: (C, oC) :: (D, LCg.lst ys) :: news) (fun _ => J (i + 1) ys) Value.none s') E' { s with heap := h, toks := tk })
    (fin : ∀ ys, J n ys → Fin ys news) : LCt.CompRestT prog w A h₀ L m env ct elt x scope cl s S P Fin n 0 [] news := by
  have key : ∀ (j i : Nat) (ys : List Value), i + j = n → J i ys → LCt.CompRestT prog w A h₀ L m env ct elt x scope cl s S P Fin j i ys news := by
    intro j
    induction j with
    | zero => intro i ys hi hJ; obtain rfl : i = n := by omega
              exact LCt.CompRestT.zero (fin ys hJ)
    | succ j ih =>
      intro i ys hi hJ
      refine LCt.CompRestT.succ ?_
      intro v I oI C oC D m₂ h tk E' hP hC hx F N off ne
      refine wpAny_mono (turn i v I oI C oC D m₂ h tk E' ys (by omega) hJ hP hC hx F N off ne) (fun ok s₂ hq => ?_) fun _ _ e => e
      split at hq
      · rename_i hok
        rw [if_pos hok]
        refine wpAny_mono hq (fun y s₃ hq => ?_) fun _ _ e => e
        obtain ⟨h', tk', all, rfl, F', N', sub, r⟩ := hq
        exact LCg.CompEnd.intro F' N' news sub off hS (ih (i + 1) _ (by omega) r)
      · rename_i hok
        rw [if_neg hok]
        obtain ⟨h', tk', all, rfl, F', N', sub, r⟩ := hq
        exact LCg.CompEnd.intro F' N' news sub off hS (ih (i + 1) _ (by omega) r)
  exact key n 0 [] (by omega) h0
theorem ints_at {vs : List Value} {ns : List Int} (hi : IntsAre vs ns) {i : Nat} {v : Value} (h : vs.toArray[i]? = some v) : ∃ k t, v = .int k t ∧ ns[i]? = some k := by
  obtain ⟨k, t, e, hk⟩ := IntsAre.at hi i v (by simpa using h)
  exact ⟨k, t, e, hk⟩
abbrev tupOf (its : Array Value) (k : Nat) : Obj := { cls := .type "tuple", data := .seq its k }
noncomputable def SrcTT (prog : Program) (w : World) (A : Around) (h₀ : Heap) (L : Addr) (m : Str → Option Value) (env : Env) (ct elt : Expr) (x : Str) (scope : Scope) (cl : List (Str × Addr)) (Fin : Shared → List Value → List (Addr × Obj) → Prop) (xv : Value) (s₁ : Shared) : Prop :=
  ∃ (ax : Addr) (its : Array Value) (k : Nat) (news : List (Addr × Obj)), xv = .ref ax ∧ A.handled = none ∧ Fr h₀ L s₁.heap m ∧ News h₀ L s₁.heap news ∧ (ax, tupOf its k) ∈ news ∧ its.size ≤ sizeLine ∧
    ∀ g, LCt.CompRestT prog w A h₀ L m env ct elt x scope cl { s₁ with heap := g } (fun nw => (ax, tupOf its k) ∈ nw) (fun i v => its[i]? = some v) (Fin { s₁ with heap := g }) its.size 0 [] news
/-- a comprehension over a made tuple, with a test -/
theorem ListComp_TT {ct elt iter : Expr} {x : Str} {px : Pos} {scope : Scope} {cl : List (Str × Addr)} {pos : Pos} {Q : Value → Shared → Prop} (_F₀ : Fr h₀ L s.heap m)
    (hclos : closureFor scope env = pure cl) (hcell : ∀ y ∈ scope.names, y.2 ≠ .cell) (hkind : scope.kind = .function)
    (hnames : ∀ y ∈ scope.names, y.2 = .local → scope.names.lookup y.1 = some .local) (hx : scope.names.lookup x = some .local)
    (h : wpAny (model prog w) A (eval iter env) (SrcTT prog w A h₀ L m env ct elt x scope cl (fun s₂ => LCg.FinE h₀ L m s₂ Q)) E s)
    (hs : ∀ x, foldedSetIterable iter env x = pure x := by intro _; rfl) :
    wpAny (model prog w) A (eval (.ListComp elt [⟨.Name x px, iter, [ct], 0⟩] scope pos) env) Q E s := by
  rw [eval_ListComp]
  refine wpAny_comprehension_free (use := none) rfl hs hclos hkind hnames (wpAny_mono h (fun xv s₁ h₁ => ?_) fun _ _ e => e)
  obtain ⟨ax, its, k, news, rfl, hh, F, N, hm, hsz, R⟩ := h₁
  have hl : s₁.heap.IsTuple ax its := ⟨_, N.get hm, rfl, _, rfl⟩
  have hlt : ax < s₁.heap.objs.size := Heap.lt_size (N.get hm)
  refine wpAny_pyIter_tuple hl ?_
  refine LCt.block_T (Walks.tuple hh s₁.heap.objs.size ax (Nat.ne_of_lt hlt) its) hsz (fun i h st => by obtain ⟨o, e, _⟩ := st.1; exact ⟨o, e⟩) ?_ hcell hkind hx ⟨⟨_, Heap.get?_push_size _ rfl, rfl, rfl⟩, ⟨_, Heap.get?_push_of_some _ (N.get hm), rfl, _, rfl⟩⟩ (fun b hb => ?_)
    (F.keeps fun _ _ e => Heap.get?_push_of_some _ e) (N.grown fun _ _ e => Heap.get?_push_of_some _ e) (Nat.ne_of_lt F.ns.lt) (next_is_new F) (fun p hp => Nat.ne_of_lt (Heap.lt_size (N p hp).1)) hm (R _) ?_
  · intro i h h' o nw st e e' _ N' S'
    refine ⟨?_, ⟨_, N'.get S', rfl, _, rfl⟩⟩
    obtain ⟨o', q, r⟩ := st.1
    rw [e] at q; cases q; exact ⟨o, e', r⟩
  · show b < (s₁.heap.push _).objs.size
    rw [Heap.size_push]
    rcases List.mem_cons.mp hb with rfl | hb
    · exact Nat.lt_succ_self _
    · rw [List.mem_singleton.mp hb]; exact Nat.lt_succ_of_lt hlt
  · intro D C h tk m' ys news' F' N' o1 hn hC₀ hD₀ hCL hDL hCD offC fin
    refine ⟨m', hn, fun h'' hs'' => fin D h'' tk (F'.change hs'' hCL hC₀) (fun p hp => ?_) o1⟩
    refine ⟨hs''.extBut _ _ ?_ (N' p hp).1, (N' p hp).2⟩
    rcases List.mem_cons.mp hp with rfl | hp
    · exact Ne.symm hCD
    · exact offC p hp
end
end
section
/-! S11 -/
theorem n_one {n : Nat} (h : (n : Int) = 1) : n = 1 := by omega
section
theorem my_len {prog : Program} {w : World} {A : Around} {E : Value → Shared → Prop} {s : Shared} {h₀ : Heap} {L : Addr} {news : List (Addr × Obj)} {l : Addr} {ys : List Value} {k : Int} {Q : Value → Shared → Prop} (N : News h₀ L s.heap news) (hm : (l, LCg.lst ys) ∈ news) (hk : (ys.length : Int) = k) (hz : k ≤ 16384) (h : Q (.int k (s.toks + 1)) { s with toks := s.toks + 1 + 1 }) :
    wpAny (model prog w) A (call (.builtin "len") [.ref l]) Q E s := kun_lenL (News.isList N hm) (by simpa using hk) hz h
theorem sp_read {w mg mb mean s} {l : Addr} {vs : List Value} {ns ps : List Int} (hl : s.heap.IsList l vs.toArray) (hi : IntsAre vs ns) (hns : ns = ps.flatMap u8) (hp : ∀ p ∈ ps, 0 ≤ p ∧ p < 1114112) (hlen : ns.length < 1000) : Okc w mg mb mean 138 [.ref l] 12 s (RL s ps) := by
  k_with_none
  k_with "execs cons" => first | k_fold | fail
  k_with "spliced" => first | (k_here; (with_reducible show wpAny _ _ (spliced (backTo _ (starEach (_ :: _ :: _) _))) _ _ _); (with_reducible refine spliced_consts (by with_unfolding_all rfl) ?_); intro f0 t0; dsimp only [valsF, Nat.reduceAdd]) | fail
  k_with "FinE" => first | (k_dflt (intro D0' h0' tk0' F0' N0' o0'); (have o0' := off_ne o0'); (try simp only [List.cons_append, List.nil_append, List.map_cons, List.map_nil] at N0' o0'); (try dsimp only); (try k_fold)) | fail
  k_with "FinA" => first | (k_dflt (intro D0' h0' tk0' F0' N0' o0'); (have o0' := off_ne o0'); (try simp only [List.cons_append, List.nil_append, List.map_cons, List.map_nil] at N0' o0'); (try dsimp only); (try k_fold)) | fail
  k_with "LeaveS" => first | (refine leaveS_ (by assumption) ?_; (try dsimp only)) | fail
  k_with "binaryOp RShift int int" => first | (k_here; (with_reducible refine rshift_int (by decide) ?_)) | fail
  k_with "call builtin:len" => first | (k_here; (with_reducible show wpAny _ _ (call (Value.builtin "len") [Value.ref _]) _ _ _); k_dflt (refine my_len (by k_asm) (by k_mem) (by assumption) (by omega) ?_; k_whole)) | fail
  k_with "call builtin:list.append" => first | (k_here; (with_reducible show wpAny _ _ (call (Value.builtin _) [Value.ref _, _]) _ _ _); k_dflt (refine append_K (by k_asm) (by k_asm) (by k_upd) ?_ (by ((simp only [List.size_toArray, PySem.sizeLine_eq]); omega)); k_whole); intro h' F' N'; (try k_sweep)) | fail
  k_with "eval ListComp" => first | (k_here; (with_reducible show wpAny _ _ (eval (Expr.ListComp _ [⟨_, Expr.Tuple _ _ _, [_], _⟩] _ _) _) _ _ _); k_dflt (refine ListComp_TT (by k_asm) (by with_unfolding_all rfl) (by decide) (by rfl) (by decide) (by rfl) ?_)) | fail
  k_with "exec For Name Name cons nil" => first | (k_here; (rename Fr _ _ _ _ => lF'); (with_unfolding_all refine For_invVF lF' (by exact rfl) (by exact rfl) ?_; k_whole)) | fail
  k_with "exec For Name Call cons nil" => first | (k_here; (rename Fr _ _ _ _ => lF'); (with_unfolding_all refine For_invVF lF' (by exact rfl) (by exact rfl) ?_; k_whole)) | fail
  k_with "subscriptTail Name Slice ref ref" => first | (k_here; (with_reducible show wpAny _ _ (subscriptTail _ (PySem.Expr.Slice _ _ none _) (Value.ref _) (Value.ref _)) _ _ _); k_dflt (refine kmk_slice_ints (by k_asm) (by k_asm) (by kmk_list) (by kmk_part) (by kmk_part) (by l_ints) (by first | exact kmk_run (by l_ints) (by omega) (by omega) | kmk_nums) (by kmk_len) ?_ (by with_unfolding_all rfl) (by kmk_pure) (by kmk_size)); intro D' ws' h' F' N' l1 hI' hC' hL'; (try simp only [Int.reduceNeg, Int.neg_neg, Int.reduceToNat] at hI' hC' hL'); (try k_lt l1); (try k_sweep)) | fail
  k_with "pyIter ref" => first | (refine Halt.mk ?_) | fail
  k_with "exec While" => first | (refine Halt.mk ?_) | fail
  k_with "InvEndN" => first | (refine Halt.mk ?_) | fail
  k_with "KswEnd" => first | (refine Halt.mk ?_) | fail
  k_with "call builtin:list.index" => first | (refine Halt.mk ?_) | fail
  unfold Okc
  k_fill
  intro dp un gd cn cs a ccd cl outer A₀ base h₀ L m Q E B F X T hk hd hu hret
  w_top on
  refine wpAny_call ?_
  k_dflt (refine' enterC ?k1 ?k2 ?k3 ?k5 ?kA ?kF ?kK ?k6 ?k7 ?k8 ?k9 ?kB ?kD ?_ ?c2 ?c3 ?c4; (case kA => exact rfl); (case kF => exact rfl); (case kK => assumption); (case k1 => k_asm); (case k2 => k_asm); (case k3 => k_asm); (case k5 => k_asm); (case k6 => k_is); (case k7 => k_is); (case k8 => ktr_room); (case k9 => exact BindsTo.of_eq rfl); (case kB => exact rfl); (case kD => decide +kernel); (case c2 => exact rfl); (case c3 => exact rfl); (case c4 => exact rfl); k_whole; intro L' h' tk' cells' F' N' Y' B' X' T'; k_cells Y'; (try simp only [List.cons_append, List.nil_append, List.append_nil] at N'); (try dsimp only); (try k_fold))
  clear B F X T hk
  (try k_fold); repeat' (first | (k_unfold; (try dsimp only)) | walk1 | (dsimp only; walk1))
  refine Halt.out ?_
  (rename Fr _ _ _ _ => lF); (rename News _ _ _ _ => lN)
  refine ksw_while (σ := Nat × Obj × Obj × List Value × Nat × Tok) (fun q => [(_, listOf q.2.2.2.1.toArray q.2.2.2.2.1), (_, q.2.2.1), (_, q.2.1), _]) (fun _ => [])
    (fun q => q.2.1.data = .cell (some (.int (offs ps q.1 : Nat) q.2.2.2.2.2)) ∧ ∃ v, q.2.2.1.data = .cell v) [Str.ofString "ones", Str.ofString "many", Str.ofString "behind", Str.ofString "octet"]
    (fun q => q.1 ≤ ps.length ∧ IntsAre q.2.2.2.1 (ps.take q.1)) (fun q => ps.length - q.1) (0, _, _, [], 0, _) lF lN ⟨by assumption, _, by assumption⟩ (fun p hp => nomatch hp) ⟨Nat.zero_le _, IntsAre.nil⟩ ?_
  rintro ⟨i, oat, opt, us, c, tk9⟩ u9 h9 k9 ⟨hat, vpt, hpt⟩ ⟨hip, hus⟩ F N
  simp only at hat hpt hip hus N F
  have husl : us.length < 1000 := by
    have h1 := hus.length
    have h2 := flat_len ps
    rw [← hns] at h2
    rw [List.length_take] at h1
    omega
  by_cases hlt : i < ps.length
  · obtain ⟨pre, post, hap, hpl, hnx⟩ := offs_at hlt
    have hpp := hp (ps.getD i 0) (by simp [List.getD, hlt])
    rw [← hns] at hap
    generalize hpg : ps.getD i 0 = p at hap hpl hnx hpp
    generalize hao : offs ps i = a at hpl hnx hat
    have hla : a + (u8 p).length ≤ ns.length := by rw [hap]; simp; omega
    obtain ⟨n9, many, b, tl, hu, hc1, hc4, hmx, hml, hix, htl, hrun, hE⟩ := u8_cls hpp.1 hpp.2
    have hb : ns.getD (a : Int).toNat 0 = b := by rw [hap, hu]; simp [List.getD, ← hpl]
    have hap' : ns = pre ++ (b :: tl) ++ post := by rw [hu] at hap; exact hap
    rw [hu] at hla hnx
    simp only [List.length_cons] at hla hnx
    (try k_fold); repeat' (first | (k_unfold; (try dsimp only)) | walk1 | (dsimp only; walk1))
    refine Halt.out ?_
    rename IntsAre _ (_ ++ [0]) => i9
    rename News _ _ _ (_ :: _ :: _) => N9
    refine index_list_ints (ns := onesL (ns.getD (a : Int).toNat 0)) (News.isList N9 (List.Mem.head _)) i9 (lay_small onesL_bits (by rw [onesL_len]; decide)) (onesL_mem _) ?_
    rw [hb, hix]
    clear i9
    (try k_fold); repeat' (first | (k_unfold; (try dsimp only)) | walk1 | (dsimp only; walk1))
    refine Halt.out ?_
    rename IntsAre _ (List.take _ _) => i9
    rename News _ _ _ (_ :: _ :: _) => N9
    rename Fr _ _ _ _ => F9
    rw [hmx] at i9 F9
    have i10 := behind_ints (many := many) i9 hap' hpl hml rfl rfl
    clear i9
    have hwl := i10.length
    rename _ = Data.cell (some (Value.int (Int.fmod _ (2 ^ _)) _)) => d9
    rw [hb] at d9
    refine kst_listL (nn := 0) (σ := Obj × Int × Tok) (fun q => [_, _, _, _, _, (_, q.1), _, _]) (fun _ => []) (fun q => q.1.data = .cell (some (.int q.2.1 q.2.2))) [] (fun pre q => q.2.1 = runv (b.fmod (2 ^ (7 - (n9 : Int)).toNat)) pre) (_, b.fmod (2 ^ (7 - (n9 : Int)).toNat), _) (by rfl) (fun _ => ?_) i10 F9 N9 d9 (fun p hp => nomatch hp) rfl ?_ ?_
    · k_mem
    · rintro ⟨oq, v9, t9⟩ pre1 post1 n1 t1 u1 h1 k1 own hsp hmem off hfa hpv F N
      simp only at hfa hpv
      have hn2 : n1.fdiv 64 = 2 := by
        rw [Int.fdiv_eq_ediv_of_nonneg _ (by decide)]
        exact htl _ hmem
      have hn3 : n1.fmod 64 = n1 % 64 := Int.fmod_eq_emod_of_nonneg n1 (by decide)
      (try k_fold); repeat' (first | (k_unfold; (try dsimp only)) | walk1 | (dsimp only; walk1))
      · rename n1.fdiv 64 ≠ 2 => hq
        exact absurd hn2 hq
      · refine Halt.out ?_
        (rename Fr _ _ _ _ => F8); (rename News _ _ _ _ => N8)
        refine kst_end (_, v9 * 64 + n1.fmod 64, _) F8 N8 (fun p hp => List.mem_append_left _ hp) (fun p hp => List.mem_append_right [_, _, _, _, _, _, _, _] hp) rfl (by assumption) (fun p hp => nomatch hp) ?_ ?_
        · intro z h1 h2 h3
          simp only [kstB, if_neg h1, h3]
          rfl
        · show _ = runv _ _
          rw [runv_snoc, ← hpv, hn3]
    · rintro ⟨oq, v9, t9⟩ u' h' tk' hfa hpv F N
      simp only at hfa hpv N F
      have hpv2 : v9 = p := hpv.trans hrun
      clear hpv hrun
      subst hpv2
      (try k_fold); repeat' (first | (k_unfold; (try dsimp only)) | walk1 | (dsimp only; walk1))
      · rename (n9 : Int) = 1 => hq
        exact absurd (n_one hq) hc1
      · exfalso; omega
      refine ⟨_, #[.int 0 _, .int 128 _, .int 2048 _, .int 65536 _], _, _, rfl, rfl, by k_asm, by k_asm, by k_mem, by rw [PySem.sizeLine_eq]; show 4 ≤ _; decide, ?_⟩
      intro g
      refine restT_fix (fun i ys => IntsAre ys (edgesL v9 i)) (by k_mem) IntsAre.nil ?_ ?_
      · intro i v I oI C oC D m₂ h tk E' ys hi1 hJ hv hC hx F N off ne
        simp only [LCg.Off3, and_true] at off
        obtain ⟨e, t, rfl, he⟩ := edges_at hv
        (try k_fold); repeat' (first | (k_unfold; (try dsimp only)) | walk1 | (dsimp only; walk1))
        · refine EndS.intro (by assumption) (by assumption) (fun p hp => hp) ?_
          rw [edgesL_hit he (by assumption)]
          exact IntsAre.append hJ (IntsAre.cons _ _ IntsAre.nil)
        · refine EndS.intro (by assumption) (by assumption) (fun p hp => hp) ?_
          rw [edgesL_miss he (by omega)]
          exact hJ
      · intro ys hJ
        have hz9 : (ys.length : Int) = (many : Int) := congrArg Nat.cast ((IntsAre.length (show IntsAre ys (edgesL v9 4) from hJ)).trans hE)
        clear hJ
        (try k_fold); repeat' (first | (k_unfold; (try dsimp only)) | walk1 | (dsimp only; walk1))
        · exact absurd rfl (by assumption)
        try dsimp only [List.cons_append, List.nil_append]
        k_dflt (refine' append_K ?k1 ?k2 ?k3 ?_ ?z)
        case k1 => k_asm
        case k2 => k_asm
        case k3 => k_upd
        case z => simp only [List.size_toArray, PySem.sizeLine_eq]; omega
        intro h' F' N'
        (try k_fold); repeat' (first | (k_unfold; (try dsimp only)) | walk1 | (dsimp only; walk1))
        refine Halt.out ?_
        (rename Fr _ _ _ _ => F8); (rename News _ _ _ _ => N8)
        rename _ = Data.cell (some (Value.int (_ + _) _)) => d8
        simp only [List.push_toArray] at N8
        refine ksw_end (i + 1, _, _, us ++ [Value.int v9 t9], c + 1, _) F8 N8 (fun p hp => List.mem_append_right [_, _, _, _, _, _] hp) ⟨d8.trans (congrArg (fun z => Data.cell (some (Value.int z _))) ?_), _, hfa⟩ (fun p hp => nomatch hp) (by intro z h2 h3; (simp only [List.contains_cons, List.contains_nil, Bool.or_false, Bool.or_eq_false_iff, beq_eq_false_iff_ne, ne_eq] at h3); simp [kstB, h3]) ⟨hlt, ?_⟩ ?_
        · simp only [hnx]
          omega
        · show IntsAre _ _
          rw [List.take_add_one, List.getElem?_eq_getElem hlt]
          rw [show ps[i] = v9 by rw [← hpg]; simp [List.getD, hlt]]
          exact IntsAre.append (by assumption) (IntsAre.cons _ _ IntsAre.nil)
        · show ps.length - (i + 1) < ps.length - i
          omega
  · obtain rfl : i = ps.length := by omega
    have hla : (offs ps ps.length : Int) = ns.length := by rw [offs_total (Nat.le_refl _), ← hns]
    (try k_fold); repeat' (first | (k_unfold; (try dsimp only)) | walk1 | (dsimp only; walk1))
    refine hret _ _ _ (Fr.keep (by assumption)) ⟨_, _, _, rfl, News.get (by assumption) (List.Mem.head _), ?_, News.fresh (by assumption) (List.Mem.head _)⟩
    rw [List.take_length] at hus
    exact hus
end
end
section
/-! S1 -/
theorem sp_surr {w mg mb mean s} {n : Int} {t : Tok} : Okc w mg mb mean 21 [.int n t] 1 s (RB (decide (55296 ≤ n ∧ n ≤ 57343))) := by
  k_with_none
  k_with "execs cons" => first | k_fold | fail
  k_with "spliced" => first | (k_here; (with_reducible show wpAny _ _ (spliced (backTo _ (starEach (_ :: _ :: _) _))) _ _ _); (with_reducible refine spliced_consts (by with_unfolding_all rfl) ?_); intro f0 t0; dsimp only [valsF, Nat.reduceAdd]) | fail
  k_with "FinE" => first | (k_dflt (intro D0' h0' tk0' F0' N0' o0'); (have o0' := off_ne o0'); (try simp only [List.cons_append, List.nil_append, List.map_cons, List.map_nil] at N0' o0'); (try dsimp only); (try k_fold)) | fail
  k_with "FinA" => first | (k_dflt (intro D0' h0' tk0' F0' N0' o0'); (have o0' := off_ne o0'); (try simp only [List.cons_append, List.nil_append, List.map_cons, List.map_nil] at N0' o0'); (try dsimp only); (try k_fold)) | fail
  k_with "LeaveS" => first | (refine leaveS_ (by assumption) ?_; (try dsimp only)) | fail
  k_with "binaryOp RShift int int" => first | (k_here; (with_reducible refine rshift_int (by decide) ?_)) | fail
  unfold Okc
  k_fill
  intro dp un gd cn cs a ccd cl outer A₀ base h₀ L m Q E B F X T hk hd hu hret
  w_top on
  refine wpAny_call ?_
  k_dflt (refine' enterS ?k1 ?k2 ?k3 ?k5 ?kA ?kF ?kK ?k6 ?k7 ?k8 ?k9 ?kB ?_ ?c2 ?c3 ?c4 ?c5; (case kA => exact rfl); (case kF => exact rfl); (case kK => assumption); (case k1 => k_asm); (case k2 => k_asm); (case k3 => k_asm); (case k5 => k_asm); (case k6 => k_is); (case k7 => k_is); (case k8 => ktr_room); (case k9 => exact BindsTo.of_eq rfl); (case c5 => decide); (case kB => exact locs rfl); (case c2 => exact rfl); (case c3 => exact rfl); (case c4 => exact rfl); k_whole; intro L' h' F' N' B' X' T'; (try dsimp only); (try k_fold))
  clear B F X T hk
  (try k_fold); repeat' (first | (k_unfold; (try dsimp only)) | walk1 | (dsimp only; walk1))
  all_goals refine hret _ _ _ (Fr.keep (by assumption)) ?_
  all_goals (simp only [Value.bool.injEq, decide_eq_decide]; omega)
theorem sp_nonch {w mg mb mean s} {n : Int} {t : Tok} : Okc w mg mb mean 28 [.int n t] 1 s (RB (nonch n)) := by
  k_with_none
  k_with "execs cons" => first | k_fold | fail
  k_with "spliced" => first | (k_here; (with_reducible show wpAny _ _ (spliced (backTo _ (starEach (_ :: _ :: _) _))) _ _ _); (with_reducible refine spliced_consts (by with_unfolding_all rfl) ?_); intro f0 t0; dsimp only [valsF, Nat.reduceAdd]) | fail
  k_with "FinE" => first | (k_dflt (intro D0' h0' tk0' F0' N0' o0'); (have o0' := off_ne o0'); (try simp only [List.cons_append, List.nil_append, List.map_cons, List.map_nil] at N0' o0'); (try dsimp only); (try k_fold)) | fail
  k_with "FinA" => first | (k_dflt (intro D0' h0' tk0' F0' N0' o0'); (have o0' := off_ne o0'); (try simp only [List.cons_append, List.nil_append, List.map_cons, List.map_nil] at N0' o0'); (try dsimp only); (try k_fold)) | fail
  k_with "LeaveS" => first | (refine leaveS_ (by assumption) ?_; (try dsimp only)) | fail
  k_with "binaryOp RShift int int" => first | (k_here; (with_reducible refine rshift_int (by decide) ?_)) | fail
  have fm : n.fmod 65536 = n % 65536 := Int.fmod_eq_emod_of_nonneg n (by decide)
  unfold Okc
  k_fill
  intro dp un gd cn cs a ccd cl outer A₀ base h₀ L m Q E B F X T hk hd hu hret
  w_top on
  refine wpAny_call ?_
  k_dflt (refine' enterS ?k1 ?k2 ?k3 ?k5 ?kA ?kF ?kK ?k6 ?k7 ?k8 ?k9 ?kB ?_ ?c2 ?c3 ?c4 ?c5; (case kA => exact rfl); (case kF => exact rfl); (case kK => assumption); (case k1 => k_asm); (case k2 => k_asm); (case k3 => k_asm); (case k5 => k_asm); (case k6 => k_is); (case k7 => k_is); (case k8 => ktr_room); (case k9 => exact BindsTo.of_eq rfl); (case c5 => decide); (case kB => exact locs rfl); (case c2 => exact rfl); (case c3 => exact rfl); (case c4 => exact rfl); k_whole; intro L' h' F' N' B' X' T'; (try dsimp only); (try k_fold))
  clear B F X T hk
  (try k_fold); repeat' (first | (k_unfold; (try dsimp only)) | walk1 | (dsimp only; walk1))
  all_goals refine hret _ _ _ (Fr.keep (by assumption)) ?_
  all_goals (unfold nonch; simp only [Value.bool.injEq, decide_eq_decide]; omega)
theorem sp_ctl {w mg mb mean s} {n : Int} {t : Tok} : Okc w mg mb mean 35 [.int n t] 1 s (RB (decide (0 ≤ n ∧ n ≤ 31 ∨ 127 ≤ n ∧ n ≤ 159))) := by
  k_with_none
  k_with "execs cons" => first | k_fold | fail
  k_with "spliced" => first | (k_here; (with_reducible show wpAny _ _ (spliced (backTo _ (starEach (_ :: _ :: _) _))) _ _ _); (with_reducible refine spliced_consts (by with_unfolding_all rfl) ?_); intro f0 t0; dsimp only [valsF, Nat.reduceAdd]) | fail
  k_with "FinE" => first | (k_dflt (intro D0' h0' tk0' F0' N0' o0'); (have o0' := off_ne o0'); (try simp only [List.cons_append, List.nil_append, List.map_cons, List.map_nil] at N0' o0'); (try dsimp only); (try k_fold)) | fail
  k_with "FinA" => first | (k_dflt (intro D0' h0' tk0' F0' N0' o0'); (have o0' := off_ne o0'); (try simp only [List.cons_append, List.nil_append, List.map_cons, List.map_nil] at N0' o0'); (try dsimp only); (try k_fold)) | fail
  k_with "LeaveS" => first | (refine leaveS_ (by assumption) ?_; (try dsimp only)) | fail
  k_with "binaryOp RShift int int" => first | (k_here; (with_reducible refine rshift_int (by decide) ?_)) | fail
  unfold Okc
  k_fill
  intro dp un gd cn cs a ccd cl outer A₀ base h₀ L m Q E B F X T hk hd hu hret
  w_top on
  refine wpAny_call ?_
  k_dflt (refine' enterS ?k1 ?k2 ?k3 ?k5 ?kA ?kF ?kK ?k6 ?k7 ?k8 ?k9 ?kB ?_ ?c2 ?c3 ?c4 ?c5; (case kA => exact rfl); (case kF => exact rfl); (case kK => assumption); (case k1 => k_asm); (case k2 => k_asm); (case k3 => k_asm); (case k5 => k_asm); (case k6 => k_is); (case k7 => k_is); (case k8 => ktr_room); (case k9 => exact BindsTo.of_eq rfl); (case c5 => decide); (case kB => exact locs rfl); (case c2 => exact rfl); (case c3 => exact rfl); (case c4 => exact rfl); k_whole; intro L' h' F' N' B' X' T'; (try dsimp only); (try k_fold))
  clear B F X T hk
  (try k_fold); repeat' (first | (k_unfold; (try dsimp only)) | walk1 | (dsimp only; walk1))
  all_goals refine hret _ _ _ (Fr.keep (by assumption)) ?_
  all_goals (simp only [Value.bool.injEq, decide_eq_decide]; omega)
theorem sp_c1 {w mg mb mean s} {n : Int} {t : Tok} : Okc w mg mb mean 42 [.int n t] 1 s (RI (c1 n)) := by
  k_with_none
  k_with "execs cons" => first | k_fold | fail
  k_with "spliced" => first | (k_here; (with_reducible show wpAny _ _ (spliced (backTo _ (starEach (_ :: _ :: _) _))) _ _ _); (with_reducible refine spliced_consts (by with_unfolding_all rfl) ?_); intro f0 t0; dsimp only [valsF, Nat.reduceAdd]) | fail
  k_with "FinE" => first | (k_dflt (intro D0' h0' tk0' F0' N0' o0'); (have o0' := off_ne o0'); (try simp only [List.cons_append, List.nil_append, List.map_cons, List.map_nil] at N0' o0'); (try dsimp only); (try k_fold)) | fail
  k_with "FinA" => first | (k_dflt (intro D0' h0' tk0' F0' N0' o0'); (have o0' := off_ne o0'); (try simp only [List.cons_append, List.nil_append, List.map_cons, List.map_nil] at N0' o0'); (try dsimp only); (try k_fold)) | fail
  k_with "LeaveS" => first | (refine leaveS_ (by assumption) ?_; (try dsimp only)) | fail
  k_with "binaryOp RShift int int" => first | (k_here; (with_reducible refine rshift_int (by decide) ?_)) | fail
  unfold Okc
  k_fill
  intro dp un gd cn cs a ccd cl outer A₀ base h₀ L m Q E B F X T hk hd hu hret
  w_top on
  refine wpAny_call ?_
  k_dflt (refine' enterS ?k1 ?k2 ?k3 ?k5 ?kA ?kF ?kK ?k6 ?k7 ?k8 ?k9 ?kB ?_ ?c2 ?c3 ?c4 ?c5; (case kA => exact rfl); (case kF => exact rfl); (case kK => assumption); (case k1 => k_asm); (case k2 => k_asm); (case k3 => k_asm); (case k5 => k_asm); (case k6 => k_is); (case k7 => k_is); (case k8 => ktr_room); (case k9 => exact BindsTo.of_eq rfl); (case c5 => decide); (case kB => exact locs rfl); (case c2 => exact rfl); (case c3 => exact rfl); (case c4 => exact rfl); k_whole; intro L' h' F' N' B' X' T'; (try dsimp only); (try k_fold))
  clear B F X T hk
  (try k_fold); repeat' (first | (k_unfold; (try dsimp only)) | walk1 | (dsimp only; walk1))
  all_goals refine hret _ _ _ (Fr.keep (by assumption)) ?_
  · rw [c1, if_pos ⟨by omega, by omega⟩, if_neg (by assumption)]
    exact ⟨_, rfl⟩
  · rw [c1, if_pos ⟨by omega, by omega⟩, if_pos (by assumption)]
    exact ⟨_, rfl⟩
  · rw [c1, if_neg (by omega)]
    exact ⟨_, rfl⟩
  · rw [c1, if_neg (by omega)]
    exact ⟨_, rfl⟩
end
section
/-! S8 -/
section
noncomputable def RN (s : Shared) (k : Int) : Value → Heap → Prop := fun v h' => ∃ a S x t c, v = .ref a ∧ h'.get? a = some ({ cls := .type "tuple", data := .seq #[.str S t, x] c } : Obj) ∧ S = ⟨#[k.toNat]⟩ ∧ s.heap.get? a = none
theorem sp_numref {w mg mb mean s} {n : Int} {t : Tok} (h0 : 128 ≤ n) (h1 : n < 1114112) (h2 : ¬ (55296 ≤ n ∧ n ≤ 57343)) : Okc w mg mb mean 49 [.int n t] 4 s (RN s (c1 n)) := by
  k_with_none
  k_with "execs cons" => first | k_fold | fail
  k_with "spliced" => first | (k_here; (with_reducible show wpAny _ _ (spliced (backTo _ (starEach (_ :: _ :: _) _))) _ _ _); (with_reducible refine spliced_consts (by with_unfolding_all rfl) ?_); intro f0 t0; dsimp only [valsF, Nat.reduceAdd]) | fail
  k_with "FinE" => first | (k_dflt (intro D0' h0' tk0' F0' N0' o0'); (have o0' := off_ne o0'); (try simp only [List.cons_append, List.nil_append, List.map_cons, List.map_nil] at N0' o0'); (try dsimp only); (try k_fold)) | fail
  k_with "FinA" => first | (k_dflt (intro D0' h0' tk0' F0' N0' o0'); (have o0' := off_ne o0'); (try simp only [List.cons_append, List.nil_append, List.map_cons, List.map_nil] at N0' o0'); (try dsimp only); (try k_fold)) | fail
  k_with "LeaveS" => first | (refine leaveS_ (by assumption) ?_; (try dsimp only)) | fail
  k_with "binaryOp RShift int int" => first | (k_here; (with_reducible refine rshift_int (by decide) ?_)) | fail
  k_with "call ref" => first | (k_here; (with_reducible show wpAny _ _ (call (Value.ref 21) _) _ _ _); k_dflt (refine useB (sp_surr) (by k_asm) (by k_asm) (by k_asm) (by k_in) (by k_asm) (by first | exact rfl | assumption) (by ktr_room) (by ktr_units) ?_; k_whole); intro h8 tk8 F8 N8; (try dsimp only); (try k_fold)) | fail
  k_with "call ref" => first | (k_here; (with_reducible show wpAny _ _ (call (Value.ref 42) _) _ _ _); k_dflt (refine useI (sp_c1) (by k_asm) (by k_asm) (by k_asm) (by k_in) (by k_asm) (by first | exact rfl | assumption) (by ktr_room) (by ktr_units) ?_; k_whole); intro t8 h8 tk8 F8 N8; (try dsimp only); (try k_fold)) | fail
  k_with "call ref" => first | (k_here; (with_reducible show wpAny _ _ (call (Value.ref 35) _) _ _ _); k_dflt (refine useB (sp_ctl) (by k_asm) (by k_asm) (by k_asm) (by k_in) (by k_asm) (by first | exact rfl | assumption) (by ktr_room) (by ktr_units) ?_; k_whole); intro h8 tk8 F8 N8; (try dsimp only); (try k_fold)) | fail
  k_with "call ref" => first | (k_here; (with_reducible show wpAny _ _ (call (Value.ref 28) _) _ _ _); k_dflt (refine useB (sp_nonch) (by k_asm) (by k_asm) (by k_asm) (by k_in) (by k_asm) (by first | exact rfl | assumption) (by ktr_room) (by ktr_units) ?_; k_whole); intro h8 tk8 F8 N8; (try dsimp only); (try k_fold)) | fail
  have hc := c1_bounds (n := n) (by omega) h1
  unfold Okc
  k_fill
  intro dp un gd cn cs a ccd cl outer A₀ base h₀ L m Q E B F X T hk hd hu hret
  w_top on
  refine wpAny_call ?_
  k_dflt (refine' enterS ?k1 ?k2 ?k3 ?k5 ?kA ?kF ?kK ?k6 ?k7 ?k8 ?k9 ?kB ?_ ?c2 ?c3 ?c4 ?c5; (case kA => exact rfl); (case kF => exact rfl); (case kK => assumption); (case k1 => k_asm); (case k2 => k_asm); (case k3 => k_asm); (case k5 => k_asm); (case k6 => k_is); (case k7 => k_is); (case k8 => ktr_room); (case k9 => exact BindsTo.of_eq rfl); (case c5 => decide); (case kB => exact locs rfl); (case c2 => exact rfl); (case c3 => exact rfl); (case c4 => exact rfl); k_whole; intro L' h' F' N' B' X' T'; (try dsimp only); (try k_fold))
  clear B F X T hk
  (try k_fold); repeat' (first | (k_unfold; (try dsimp only)) | walk1 | (dsimp only; walk1))
  · exfalso; omega
  · refine hret _ _ _ (Fr.keep (by assumption)) ⟨_, _, _, _, _, rfl, News.get (by assumption) (List.Mem.head _), ?_, News.fresh (by assumption) (List.Mem.head _)⟩
    rw [c1_out (by have := @nonch.eq_1 n; rename nonch n = true => hq; rw [hq, eq_comm, decide_eq_true_eq] at this; omega)]
  · exfalso; rename _ = true => hq; simp at hq; omega
  · refine hret _ _ _ (Fr.keep (by assumption)) ⟨_, _, _, _, _, rfl, News.get (by assumption) (List.Mem.head _), ?_, News.fresh (by assumption) (List.Mem.head _)⟩
    rfl
  · refine hret _ _ _ (Fr.keep (by assumption)) ⟨_, _, _, _, _, rfl, News.get (by assumption) (List.Mem.head _), ?_, News.fresh (by assumption) (List.Mem.head _)⟩
    rw [c1_out (by omega)]
end
theorem useN {w : World} {mg mb : Str → Option Value} {mean : ExcName → Option Value} {f : Addr} {vs : List Value} {need : Nat} {s : Shared}
  {dp un : Nat} {gd : Option (List Code)} {cn : Str} {cs : Scope} {a : Addr} {ccd : Value} {cl : List (Str × Addr)} {outer : List Env} {A₀ : Around} {base h₀ : Heap} {L : Addr} {m : Str → Option Value} {Q E : Value → Shared → Prop} {news : List (Addr × Obj)}
  {k : Int} (C : Okc w mg mb mean f vs need s (RN s k)) (B : Below A₀ base outer h₀) (F : Fr h₀ L s.heap m) (N : News h₀ L s.heap news) (X : (Mine.hd.heap_39 w.params).In h₀) (T : Top Mine.view (looseW Mine.view []) mean mg mb h₀) (hk : cs.kind = .function) (hd : dp + need < recursionLimit) (hu : un + 8 * need < cLine)
    (ret : ∀ b S x t c h' tk', S = ⟨#[k.toNat]⟩ → (∀ p ∈ news, p.1 ≠ b) → Fr h₀ L h' m → News h₀ L h' ((b, ({ cls := .type "tuple", data := .seq #[.str S t, x] c } : Obj)) :: news) → Q (.ref b) { s with heap := h', toks := tk' }) :
    wpAny (model PySem.Challenge.rw_nt0588_01.row.prog w) (ktrTop dp un gd cn cs L a ccd cl outer) (call (.ref f) vs) Q E s :=
  C _ _ _ _ _ _ _ _ _ _ _ _ _ _ _ _ B F X T hk hd hu fun v h' tk' st r => by
    obtain ⟨b, S, x, t, c, rfl, hb, hS, hn⟩ := r
    exact ret b S x t c h' tk' hS (fun p hp q => by rw [← q, (N p hp).1] at hn; cases hn) (Fr.stays F st) (News.consOf F N st hb hn)
theorem sp_high {w mg mb mean s} : Okc w mg mb mean 121 [] 1 s (RL s hiT) := by
  k_with_none
  k_with "execs cons" => first | k_fold | fail
  k_with "spliced" => first | (k_here; (with_reducible show wpAny _ _ (spliced (backTo _ (starEach (_ :: _ :: _) _))) _ _ _); (with_reducible refine spliced_consts (by with_unfolding_all rfl) ?_); intro f0 t0; dsimp only [valsF, Nat.reduceAdd]) | fail
  k_with "FinE" => first | (k_dflt (intro D0' h0' tk0' F0' N0' o0'); (have o0' := off_ne o0'); (try simp only [List.cons_append, List.nil_append, List.map_cons, List.map_nil] at N0' o0'); (try dsimp only); (try k_fold)) | fail
  k_with "FinA" => first | (k_dflt (intro D0' h0' tk0' F0' N0' o0'); (have o0' := off_ne o0'); (try simp only [List.cons_append, List.nil_append, List.map_cons, List.map_nil] at N0' o0'); (try dsimp only); (try k_fold)) | fail
  k_with "LeaveS" => first | (refine leaveS_ (by assumption) ?_; (try dsimp only)) | fail
  k_with "binaryOp RShift int int" => first | (k_here; (with_reducible refine rshift_int (by decide) ?_)) | fail
  k_with "call ref" => first | (k_here; (with_reducible show wpAny _ _ (call (Value.ref 21) _) _ _ _); k_dflt (refine useB (sp_surr) (by k_asm) (by k_asm) (by k_asm) (by k_in) (by k_asm) (by first | exact rfl | assumption) (by ktr_room) (by ktr_units) ?_; k_whole); intro h8 tk8 F8 N8; (try dsimp only); (try k_fold)) | fail
  k_with "call ref" => first | (k_here; (with_reducible show wpAny _ _ (call (Value.ref 42) _) _ _ _); k_dflt (refine useI (sp_c1) (by k_asm) (by k_asm) (by k_asm) (by k_in) (by k_asm) (by first | exact rfl | assumption) (by ktr_room) (by ktr_units) ?_; k_whole); intro t8 h8 tk8 F8 N8; (try dsimp only); (try k_fold)) | fail
  k_with "call ref" => first | (k_here; (with_reducible show wpAny _ _ (call (Value.ref 35) _) _ _ _); k_dflt (refine useB (sp_ctl) (by k_asm) (by k_asm) (by k_asm) (by k_in) (by k_asm) (by first | exact rfl | assumption) (by ktr_room) (by ktr_units) ?_; k_whole); intro h8 tk8 F8 N8; (try dsimp only); (try k_fold)) | fail
  k_with "call ref" => first | (k_here; (with_reducible show wpAny _ _ (call (Value.ref 28) _) _ _ _); k_dflt (refine useB (sp_nonch) (by k_asm) (by k_asm) (by k_asm) (by k_in) (by k_asm) (by first | exact rfl | assumption) (by ktr_room) (by ktr_units) ?_; k_whole); intro h8 tk8 F8 N8; (try dsimp only); (try k_fold)) | fail
  unfold Okc
  k_fill
  intro dp un gd cn cs a ccd cl outer A₀ base h₀ L m Q E B F X T hk hd hu hret
  w_top on
  refine wpAny_call ?_
  k_dflt (refine' enterS ?k1 ?k2 ?k3 ?k5 ?kA ?kF ?kK ?k6 ?k7 ?k8 ?k9 ?kB ?_ ?c2 ?c3 ?c4 ?c5; (case kA => exact rfl); (case kF => exact rfl); (case kK => assumption); (case k1 => k_asm); (case k2 => k_asm); (case k3 => k_asm); (case k5 => k_asm); (case k6 => k_is); (case k7 => k_is); (case k8 => ktr_room); (case k9 => exact BindsTo.of_eq rfl); (case c5 => decide); (case kB => exact locs rfl); (case c2 => exact rfl); (case c3 => exact rfl); (case c4 => exact rfl); k_whole; intro L' h' F' N' B' X' T'; (try dsimp only); (try k_fold))
  clear B F X T hk
  (try k_fold); repeat' (first | (k_unfold; (try dsimp only)) | walk1 | (dsimp only; walk1))
  refine hret _ _ _ (Fr.keep (by assumption)) ⟨_, _, _, rfl, News.get (by assumption) (List.Mem.head _), ?_, News.fresh (by assumption) (List.Mem.head _)⟩
  unfold hiT
  repeat' (first | exact IntsAre.nil | refine IntsAre.cons _ _ ?_)
end
section
/-! S9 -/
section
theorem sp_refer {w mg mb mean s} {l : Addr} {vs : List Value} {ns : List Int} {k : Nat} {t : Tok} (hl : s.heap.IsList l vs.toArray) (hi : IntsAre vs ns) (hns : ns = 38 :: 35 :: (decs k ++ [59])) (h1 : 128 ≤ k) (h2 : k < 1114112) (h3 : ¬ (55296 ≤ k ∧ k ≤ 57343)) : Okc w mg mb mean 157 [.ref l, .int (k : Int) t] 16 s (RB true) := by
  k_with_none
  k_with "execs cons" => first | k_fold | fail
  k_with "spliced" => first | (k_here; (with_reducible show wpAny _ _ (spliced (backTo _ (starEach (_ :: _ :: _) _))) _ _ _); (with_reducible refine spliced_consts (by with_unfolding_all rfl) ?_); intro f0 t0; dsimp only [valsF, Nat.reduceAdd]) | fail
  k_with "FinE" => first | (k_dflt (intro D0' h0' tk0' F0' N0' o0'); (have o0' := off_ne o0'); (try simp only [List.cons_append, List.nil_append, List.map_cons, List.map_nil] at N0' o0'); (try dsimp only); (try k_fold)) | fail
  k_with "FinA" => first | (k_dflt (intro D0' h0' tk0' F0' N0' o0'); (have o0' := off_ne o0'); (try simp only [List.cons_append, List.nil_append, List.map_cons, List.map_nil] at N0' o0'); (try dsimp only); (try k_fold)) | fail
  k_with "LeaveS" => first | (refine leaveS_ (by assumption) ?_; (try dsimp only)) | fail
  k_with "binaryOp RShift int int" => first | (k_here; (with_reducible refine rshift_int (by decide) ?_)) | fail
  k_with "call ref" => first | (k_here; (with_reducible show wpAny _ _ (call (Value.ref 121) _) _ _ _); k_dflt (refine useL (sp_high) (by k_asm) (by k_asm) (by k_asm) (by k_in) (by k_asm) (by first | exact rfl | assumption) (by ktr_room) (by ktr_units) ?_; k_whole); intro b8 us8 c8 h8 tk8 i8 ne8 F8 N8; (try dsimp only); (try k_fold)) | fail
  k_with "call ref" => first | (k_here; (with_reducible show wpAny _ _ (call (Value.ref 49) _) _ _ _); k_dflt (refine useN ((sp_numref (by omega) (by omega) (by omega))) (by k_asm) (by k_asm) (by k_asm) (by k_in) (by k_asm) (by first | exact rfl | assumption) (by ktr_room) (by ktr_units) ?_; k_whole); intro b8 S8 x8 t8 c8 h8 tk8 e8 ne8 F8 N8; (try dsimp only); (try k_fold)) | fail
  k_with "exec For Name Name cons nil" => first | (k_here; (rename Fr _ _ _ _ => lF'); (with_unfolding_all refine For_invVF lF' (by exact rfl) (by exact rfl) ?_; k_whole)) | fail
  k_with "exec For Name Call cons nil" => first | (k_here; (rename Fr _ _ _ _ => lF'); (with_unfolding_all refine For_invVF lF' (by exact rfl) (by exact rfl) ?_; k_whole)) | fail
  k_with "pyIter ref" => first | (refine Halt.mk ?_) | fail
  k_with "InvEndN" => first | (refine Halt.mk ?_) | fail
  have hhl : hiT.length = 32 := rfl
  have hhb : 0 ≤ hiT.getD ((k : Int) - 128).toNat 0 ∧ hiT.getD ((k : Int) - 128).toNat 0 < 1114112 := by
    by_cases hq : (k : Int) ≤ 159
    · rw [hi_c1 (by omega) hq]; exact c1_bounds (by omega) (by omega)
    · have : hiT.length ≤ ((k : Int) - 128).toNat := by omega
      simp [List.getD, List.getElem?_eq_none this]
  have hdl := decs_len (k := k) (by omega)
  have hdn : 0 < (decs k).length := List.length_pos_iff.mpr (decs_ne k)
  have hn : ns.length = (decs k).length + 3 := by rw [hns]; simp
  have hn1 : ns.length < 1000 := by omega
  have e1 : List.take 2 ns = [38, 35] := by rw [hns]; rfl
  have e2 : List.take (ns.length - 1 - 2) (List.drop 2 ns) = decs k := by rw [hn, hns]; simp
  have e3 : ns.getD (-1 + (ns.length : Int)).toNat 0 = 59 := by
    rw [show (-1 + (ns.length : Int)).toNat = (decs k).length + 2 by omega, hns]
    simp [List.getD]
  unfold Okc
  k_fill
  intro dp un gd cn cs a ccd cl outer A₀ base h₀ L m Q E B F X T hk hd hu hret
  w_top on
  refine wpAny_call ?_
  k_dflt (refine' enterS ?k1 ?k2 ?k3 ?k5 ?kA ?kF ?kK ?k6 ?k7 ?k8 ?k9 ?kB ?_ ?c2 ?c3 ?c4 ?c5; (case kA => exact rfl); (case kF => exact rfl); (case kK => assumption); (case k1 => k_asm); (case k2 => k_asm); (case k3 => k_asm); (case k5 => k_asm); (case k6 => k_is); (case k7 => k_is); (case k8 => ktr_room); (case k9 => exact BindsTo.of_eq rfl); (case c5 => decide); (case kB => exact locs rfl); (case c2 => exact rfl); (case c3 => exact rfl); (case c4 => exact rfl); k_whole; intro L' h' F' N' B' X' T'; (try dsimp only); (try k_fold))
  clear B F X T hk
  (try k_fold); repeat' (first | (k_unfold; (try dsimp only)) | walk1 | (dsimp only; walk1))
  · exact absurd e3 (by assumption)
  · rename decide (_ = _) = true => hq
    rw [e2] at hq
    exact absurd (of_decide_eq_true hq) (decs_ne k)
  · rename List.getD _ _ _ = 48 => hq
    rw [e2] at hq
    exact absurd hq (decs_head k (by omega))
  · refine Halt.out ?_
    rename IntsAre _ (List.take (ns.length - 1 - 2) (List.drop 2 ns)) => i9
    rw [e2] at i9
    (rename Fr _ _ _ _ => lF'); (rename News _ _ _ _ => lN')
    refine kst_listL (nn := 0) (σ := Int × Tok) (fun _ => _) (fun c => [(Str.ofString "number", .int c.1 c.2)]) (fun _ => True) [] (fun pre c => c.1 = decv pre) (0, _) (by rfl) (fun _ => ?_) i9 lF' lN' trivial (fun p hp => by rw [List.mem_singleton.mp hp]; rfl) rfl ?_ ?_
    · k_mem
    · rintro ⟨a9, t9⟩ pre post n t' u' h' tk' own hsp hmem off _ hp F N
      have hdg := decs_digit k n hmem
      simp only at hp
      subst hp
      (try k_fold); repeat' (first | (k_unfold; (try dsimp only)) | walk1 | (dsimp only; walk1))
      refine Halt.out ?_
      (rename Fr _ _ _ _ => F9); (rename News _ _ _ _ => N9)
      refine kst_end (decv pre * 10 + n - 48, _) F9 N9 (fun p hp => List.mem_append_left _ hp) (fun p hp => List.mem_append_right _ hp) rfl trivial (fun p hp => by rw [List.mem_singleton.mp hp]; rfl) ?_ ?_
      · intro z h1 h2 h3
        have h4 := h2 _ (List.Mem.head _)
        simp only [kstB, if_neg h1, h3, if_neg h4]
        rfl
      · show _ = decv _
        rw [decv_snoc]
    · rintro ⟨a9, t9⟩ u' h' tk' _ hp F N
      simp only [decs_val] at hp
      subst hp
      (try k_fold); repeat' (first | (k_unfold; (try dsimp only)) | walk1 | (dsimp only; walk1))
      · refine hret _ _ _ (Fr.keep (by assumption)) ?_
        rename _ = Str.mk _ => e9
        rw [e9, hi_c1 (by omega) (by assumption)]
        simp
      · rename ¬ _ = _ => hq
        exact absurd rfl hq
      · refine hret _ _ _ (Fr.keep (by assumption)) ?_
        rename _ = Str.mk _ => e9
        rw [e9, c1_out (by omega)]
        simp
      · rename ¬ _ = _ => hq
        exact absurd rfl hq
end
end
section
/-! S5 -/
theorem cl_eq (a : Int) : (if a.fdiv 2048 = 27 then (65533 : Int) else a) = cl a := by
  unfold cl
  have e : a.fdiv 2048 = a / 2048 := Int.fdiv_eq_ediv_of_nonneg a (by decide)
  rw [e]
  split <;> split <;> omega
section
theorem sp_clean {w mg mb mean s} {l : Addr} {vs : List Value} {ns : List Int} (hl : s.heap.IsList l vs.toArray) (hi : IntsAre vs ns) (hlen : ns.length < 1000) : Okc w mg mb mean 133 [.ref l] 4 s (RL s (ns.map cl)) := by
  k_with_none
  k_with "execs cons" => first | k_fold | fail
  k_with "spliced" => first | (k_here; (with_reducible show wpAny _ _ (spliced (backTo _ (starEach (_ :: _ :: _) _))) _ _ _); (with_reducible refine spliced_consts (by with_unfolding_all rfl) ?_); intro f0 t0; dsimp only [valsF, Nat.reduceAdd]) | fail
  k_with "FinE" => first | (k_dflt (intro D0' h0' tk0' F0' N0' o0'); (have o0' := off_ne o0'); (try simp only [List.cons_append, List.nil_append, List.map_cons, List.map_nil] at N0' o0'); (try dsimp only); (try k_fold)) | fail
  k_with "FinA" => first | (k_dflt (intro D0' h0' tk0' F0' N0' o0'); (have o0' := off_ne o0'); (try simp only [List.cons_append, List.nil_append, List.map_cons, List.map_nil] at N0' o0'); (try dsimp only); (try k_fold)) | fail
  k_with "LeaveS" => first | (refine leaveS_ (by assumption) ?_; (try dsimp only)) | fail
  k_with "binaryOp RShift int int" => first | (k_here; (with_reducible refine rshift_int (by decide) ?_)) | fail
  k_with "eval ListComp" => first | (k_here; k_dflt (refine LCg.ListComp_U (F₀ := by k_asm) (by with_unfolding_all rfl) (by decide) (by rfl) (by decide) (by rfl) ?_)) | fail
  k_with "CompSrc" => first | (refine Halt.mk ?_) | fail
  have hz := hi.length
  unfold Okc
  k_fill
  intro dp un gd cn cs a ccd cl outer A₀ base h₀ L m Q E B F X T hk hd hu hret
  w_top on
  refine wpAny_call ?_
  k_dflt (refine' enterS ?k1 ?k2 ?k3 ?k5 ?kA ?kF ?kK ?k6 ?k7 ?k8 ?k9 ?kB ?_ ?c2 ?c3 ?c4 ?c5; (case kA => exact rfl); (case kF => exact rfl); (case kK => assumption); (case k1 => k_asm); (case k2 => k_asm); (case k3 => k_asm); (case k5 => k_asm); (case k6 => k_is); (case k7 => k_is); (case k8 => ktr_room); (case k9 => exact BindsTo.of_eq rfl); (case c5 => decide); (case kB => exact locs rfl); (case c2 => exact rfl); (case c3 => exact rfl); (case c4 => exact rfl); k_whole; intro L' h' F' N' B' X' T'; (try dsimp only); (try k_fold))
  clear B F X T hk
  (try k_fold); repeat' (first | (k_unfold; (try dsimp only)) | walk1 | (dsimp only; walk1))
  refine Halt.out ?_
  refine LCg.CompSrc.base (by rfl) (by k_asm) (by k_asm) hl (by rw [PySem.sizeLine_eq, List.size_toArray]; omega) ?_
  intro g
  refine rest_fix (fun i ys => IntsAre ys ((ns.take i).map Mine.cl)) (Or.inl hl) IntsAre.nil ?_ ?_
  · rintro i v I oI C oC D m₂ h tk E' ys hi1 hJ hv hC hx F N off ne
    obtain ⟨k, t, rfl, hk⟩ := ints_at hi hv
    have e : (ns.take (i + 1)).map Mine.cl = (ns.take i).map Mine.cl ++ [Mine.cl k] := by rw [List.take_add_one, hk]; simp
    simp only [LCg.Off3, and_true] at off
    (try k_fold); repeat' (first | (k_unfold; (try dsimp only)) | walk1 | (dsimp only; walk1))
    · refine EndS.intro (by assumption) (by assumption) (fun p hp => hp) ?_
      rw [e, ← cl_eq, if_pos (by assumption)]
      exact IntsAre.append hJ (IntsAre.cons _ _ IntsAre.nil)
    · refine EndS.intro (by assumption) (by assumption) (fun p hp => hp) ?_
      rw [e, ← cl_eq, if_neg (by assumption)]
      exact IntsAre.append hJ (IntsAre.cons _ _ IntsAre.nil)
  · intro ys hJ
    rw [show vs.toArray.size = ns.length by rw [List.size_toArray]; omega, List.take_length] at hJ
    (try k_fold); repeat' (first | (k_unfold; (try dsimp only)) | walk1 | (dsimp only; walk1))
    refine hret _ _ _ (Fr.keep (by assumption)) ⟨_, _, _, rfl, News.get (by assumption) (List.Mem.head _), ?_, News.fresh (by assumption) (List.Mem.head _)⟩
    exact hJ
end
end
section
/-! S2 -/
theorem oo_hit {n kN : Int} {y : Str} {kPre : List Int} (hn : ¬ n < 128) (hy : ¬ y = "x-user-defined") (h1 : ¬ (160 ≤ n ∧ n ≤ 255)) (kEq : kN = 128 + (kPre.length : Int)) (kLt : kPre.length < 32)
    (kInv : ∀ j : Nat, j < kPre.length → c1 (128 + (j : Int)) ≠ n) (e : c1 kN = n) : kN = oo n y := by
  rw [oo, if_neg hn, if_neg hy, if_neg h1]
  subst kEq
  rw [seek_hit kInv e kLt]
theorem oo_miss {n : Int} {y : Str} (hn : ¬ n < 128) (hy : ¬ y = "x-user-defined") (h1 : ¬ (160 ≤ n ∧ n ≤ 255))
    (kInv : ∀ j : Nat, j < 32 → c1 (128 + (j : Int)) ≠ n) : -1 = oo n y := by
  rw [oo, if_neg hn, if_neg hy, if_neg h1, seek_none kInv]
theorem oo_step {n kN : Int} {kPre : List Int} (kEq : kN = 128 + (kPre.length : Int)) (kInv : ∀ j : Nat, j < kPre.length → c1 (128 + (j : Int)) ≠ n) (e : ¬ c1 kN = n) :
    ∀ j : Nat, j < (kPre ++ [kN]).length → c1 (128 + (j : Int)) ≠ n := by
  intro j hj
  by_cases q : j < kPre.length
  · exact kInv j q
  · have : j = kPre.length := by simp at hj; omega
    subst this; rw [← kEq]; exact e
theorem sp_oo {w mg mb mean s} {n : Int} {t u : Tok} {x : Str} : Okc w mg mb mean 95 [.int n t, .str x u] 4 s (RI (oo n x)) := by
  k_with_none
  k_with "execs cons" => first | k_fold | fail
  k_with "spliced" => first | (k_here; (with_reducible show wpAny _ _ (spliced (backTo _ (starEach (_ :: _ :: _) _))) _ _ _); (with_reducible refine spliced_consts (by with_unfolding_all rfl) ?_); intro f0 t0; dsimp only [valsF, Nat.reduceAdd]) | fail
  k_with "FinE" => first | (k_dflt (intro D0' h0' tk0' F0' N0' o0'); (have o0' := off_ne o0'); (try simp only [List.cons_append, List.nil_append, List.map_cons, List.map_nil] at N0' o0'); (try dsimp only); (try k_fold)) | fail
  k_with "FinA" => first | (k_dflt (intro D0' h0' tk0' F0' N0' o0'); (have o0' := off_ne o0'); (try simp only [List.cons_append, List.nil_append, List.map_cons, List.map_nil] at N0' o0'); (try dsimp only); (try k_fold)) | fail
  k_with "LeaveS" => first | (refine leaveS_ (by assumption) ?_; (try dsimp only)) | fail
  k_with "binaryOp RShift int int" => first | (k_here; (with_reducible refine rshift_int (by decide) ?_)) | fail
  k_with "call ref" => first | (k_here; (with_reducible show wpAny _ _ (call (Value.ref 42) _) _ _ _); k_dflt (refine useI (sp_c1) (by k_asm) (by k_asm) (by k_asm) (by k_in) (by k_asm) (by first | exact rfl | assumption) (by ktr_room) (by ktr_units) ?_; k_whole); intro t8 h8 tk8 F8 N8; (try dsimp only); (try k_fold)) | fail
  unfold Okc
  k_fill
  intro dp un gd cn cs a ccd cl outer A₀ base h₀ L m Q E B F X T hk hd hu hret
  w_top on
  refine wpAny_call ?_
  k_dflt (refine' enterS ?k1 ?k2 ?k3 ?k5 ?kA ?kF ?kK ?k6 ?k7 ?k8 ?k9 ?kB ?_ ?c2 ?c3 ?c4 ?c5; (case kA => exact rfl); (case kF => exact rfl); (case kK => assumption); (case k1 => k_asm); (case k2 => k_asm); (case k3 => k_asm); (case k5 => k_asm); (case k6 => k_is); (case k7 => k_is); (case k8 => ktr_room); (case k9 => exact BindsTo.of_eq rfl); (case c5 => decide); (case kB => exact locs rfl); (case c2 => exact rfl); (case c3 => exact rfl); (case c4 => exact rfl); k_whole; intro L' h' F' N' B' X' T'; (try dsimp only); (try k_fold))
  clear B F X T hk
  k_with_none
  k_with "execs cons" => first | k_fold | fail
  k_with "spliced" => first | (k_here; (with_reducible show wpAny _ _ (spliced (backTo _ (starEach (_ :: _ :: _) _))) _ _ _); (with_reducible refine spliced_consts (by with_unfolding_all rfl) ?_); intro f0 t0; dsimp only [valsF, Nat.reduceAdd]) | fail
  k_with "FinE" => first | (k_dflt (intro D0' h0' tk0' F0' N0' o0'); (have o0' := off_ne o0'); (try simp only [List.cons_append, List.nil_append, List.map_cons, List.map_nil] at N0' o0'); (try dsimp only); (try k_fold)) | fail
  k_with "FinA" => first | (k_dflt (intro D0' h0' tk0' F0' N0' o0'); (have o0' := off_ne o0'); (try simp only [List.cons_append, List.nil_append, List.map_cons, List.map_nil] at N0' o0'); (try dsimp only); (try k_fold)) | fail
  k_with "LeaveS" => first | (refine leaveS_ (by assumption) ?_; (try dsimp only)) | fail
  k_with "binaryOp RShift int int" => first | (k_here; (with_reducible refine rshift_int (by decide) ?_)) | fail
  k_with "call ref" => first | (k_here; (with_reducible show wpAny _ _ (call (Value.ref 42) _) _ _ _); k_dflt (refine useI (sp_c1) (by k_asm) (by k_asm) (by k_asm) (by k_in) (by k_asm) (by first | exact rfl | assumption) (by ktr_room) (by ktr_units) ?_; k_whole); intro t8 h8 tk8 F8 N8; (try dsimp only); (try k_fold)) | fail
  k_with "pyIter ref" => k_search (fun pre => ∀ j : Nat, j < pre.length → c1 (128 + (j : Int)) ≠ n)
  k_with "state" => first | exact (fun j hj => absurd hj (Nat.not_lt_zero j)) | exact oo_step (by assumption) (by assumption) (by assumption)
  (try k_fold); repeat' (first | (k_unfold; (try dsimp only)) | walk1 | (dsimp only; walk1))
  k_with_none
  k_with "execs cons" => first | k_fold | fail
  k_with "spliced" => first | (k_here; (with_reducible show wpAny _ _ (spliced (backTo _ (starEach (_ :: _ :: _) _))) _ _ _); (with_reducible refine spliced_consts (by with_unfolding_all rfl) ?_); intro f0 t0; dsimp only [valsF, Nat.reduceAdd]) | fail
  k_with "FinE" => first | (k_dflt (intro D0' h0' tk0' F0' N0' o0'); (have o0' := off_ne o0'); (try simp only [List.cons_append, List.nil_append, List.map_cons, List.map_nil] at N0' o0'); (try dsimp only); (try k_fold)) | fail
  k_with "FinA" => first | (k_dflt (intro D0' h0' tk0' F0' N0' o0'); (have o0' := off_ne o0'); (try simp only [List.cons_append, List.nil_append, List.map_cons, List.map_nil] at N0' o0'); (try dsimp only); (try k_fold)) | fail
  k_with "LeaveS" => first | (refine leaveS_ (by assumption) ?_; (try dsimp only)) | fail
  k_with "binaryOp RShift int int" => first | (k_here; (with_reducible refine rshift_int (by decide) ?_)) | fail
  k_with "call ref" => first | (k_here; (with_reducible show wpAny _ _ (call (Value.ref 42) _) _ _ _); k_dflt (refine useI (sp_c1) (by k_asm) (by k_asm) (by k_asm) (by k_in) (by k_asm) (by first | exact rfl | assumption) (by ktr_room) (by ktr_units) ?_; k_whole); intro t8 h8 tk8 F8 N8; (try dsimp only); (try k_fold)) | fail
  all_goals refine hret _ _ _ (Fr.keep (by assumption)) ?_
  · exact ⟨_, by rw [oo, if_pos (by omega)]⟩
  · exact ⟨_, by rw [oo, if_neg (by omega), if_pos (eq_of_beq (by assumption)), if_pos ⟨by omega, by omega⟩]⟩
  · exact ⟨_, by rw [oo, if_neg (by omega), if_pos (eq_of_beq (by assumption)), if_neg (by omega)]⟩
  · exact ⟨_, by rw [oo, if_neg (by omega), if_pos (eq_of_beq (by assumption)), if_neg (by omega)]⟩
  · exact ⟨_, by rw [oo, if_neg (by omega), if_neg (fun e => absurd (beq_iff_eq.mpr e) (Bool.eq_false_iff.mp (by assumption))), if_pos ⟨by omega, by omega⟩]⟩
  · exact ⟨kT, congrArg (fun z => Value.int z kT) (oo_hit (by omega) (fun e => absurd (beq_iff_eq.mpr e) (Bool.eq_false_iff.mp (by assumption))) (by omega) kEq kLt kInv (by assumption))⟩
  · exact ⟨_, congrArg (fun z => Value.int z _) (oo_miss (by omega) (fun e => absurd (beq_iff_eq.mpr e) (Bool.eq_false_iff.mp (by assumption))) (by omega) (fun j hj => kInv j (by rw [rangeKs_length]; exact hj)))⟩
  · exact ⟨kT, congrArg (fun z => Value.int z kT) (oo_hit (by omega) (fun e => absurd (beq_iff_eq.mpr e) (Bool.eq_false_iff.mp (by assumption))) (by omega) kEq kLt kInv (by assumption))⟩
  · exact ⟨_, congrArg (fun z => Value.int z _) (oo_miss (by omega) (fun e => absurd (beq_iff_eq.mpr e) (Bool.eq_false_iff.mp (by assumption))) (by omega) (fun j hj => kInv j (by rw [rangeKs_length]; exact hj)))⟩
end
section
/-! SU -/
section
variable {prog : Program} {w : World} {A : Around} {E : Value → Shared → Prop} {s : Shared} {Q : Value → Shared → Prop} {a : Int} {t u : Tok}
theorem rsh6 (h : ∀ (t9 : Tok) (k9 : Nat), Q (.int (a / 64) t9) { s with toks := k9 }) : wpAny (model prog w) A (binaryOp .RShift (.int a t) (.int 6 u)) Q E s :=
  rshift_int (by decide) (by rw [fd6]; exact h _ _)
theorem rsh12 (h : ∀ (t9 : Tok) (k9 : Nat), Q (.int (a / 4096) t9) { s with toks := k9 }) : wpAny (model prog w) A (binaryOp .RShift (.int a t) (.int 12 u)) Q E s :=
  rshift_int (by decide) (by rw [fd12]; exact h _ _)
theorem rsh18 (h : ∀ (t9 : Tok) (k9 : Nat), Q (.int (a / 262144) t9) { s with toks := k9 }) : wpAny (model prog w) A (binaryOp .RShift (.int a t) (.int 18 u)) Q E s :=
  rshift_int (by decide) (by rw [fd18]; exact h _ _)
theorem an63 (h0 : 0 ≤ a) (h : ∀ (t9 : Tok) (k9 : Nat), Q (.int (a % 64) t9) { s with toks := k9 }) : wpAny (model prog w) A (binaryOp .BitAnd (.int a t) (.int 63 u)) Q E s :=
  and_int (by rw [and63 h0]; exact h _ _)
theorem bo128 (h0 : 0 ≤ a) (h1 : a < 64) (h : ∀ (t9 : Tok) (k9 : Nat), Q (.int (128 + a) t9) { s with toks := k9 }) : wpAny (model prog w) A (binaryOp .BitOr (.int 128 t) (.int a u)) Q E s :=
  or_int (by rw [or128 h0 h1]; exact h _ _)
theorem bo192 (h0 : 0 ≤ a) (h1 : a < 32) (h : ∀ (t9 : Tok) (k9 : Nat), Q (.int (192 + a) t9) { s with toks := k9 }) : wpAny (model prog w) A (binaryOp .BitOr (.int 192 t) (.int a u)) Q E s :=
  or_int (by rw [or192 h0 h1]; exact h _ _)
theorem bo224 (h0 : 0 ≤ a) (h1 : a < 16) (h : ∀ (t9 : Tok) (k9 : Nat), Q (.int (224 + a) t9) { s with toks := k9 }) : wpAny (model prog w) A (binaryOp .BitOr (.int 224 t) (.int a u)) Q E s :=
  or_int (by rw [or224 h0 h1]; exact h _ _)
theorem bo240 (h0 : 0 ≤ a) (h1 : a < 8) (h : ∀ (t9 : Tok) (k9 : Nat), Q (.int (240 + a) t9) { s with toks := k9 }) : wpAny (model prog w) A (binaryOp .BitOr (.int 240 t) (.int a u)) Q E s :=
  or_int (by rw [or240 h0 h1]; exact h _ _)
end
theorem sp_u8 {w mg mb mean s} {n : Int} {t : Tok} (h0 : 0 ≤ n) (h1 : n < 1114112) : Okc w mg mb mean 88 [.int n t] 1 s (RL s (u8 n)) := by
  k_with_none
  k_with "execs cons" => first | k_fold | fail
  k_with "spliced" => first | (k_here; (with_reducible show wpAny _ _ (spliced (backTo _ (starEach (_ :: _ :: _) _))) _ _ _); (with_reducible refine spliced_consts (by with_unfolding_all rfl) ?_); intro f0 t0; dsimp only [valsF, Nat.reduceAdd]) | fail
  k_with "FinE" => first | (k_dflt (intro D0' h0' tk0' F0' N0' o0'); (have o0' := off_ne o0'); (try simp only [List.cons_append, List.nil_append, List.map_cons, List.map_nil] at N0' o0'); (try dsimp only); (try k_fold)) | fail
  k_with "FinA" => first | (k_dflt (intro D0' h0' tk0' F0' N0' o0'); (have o0' := off_ne o0'); (try simp only [List.cons_append, List.nil_append, List.map_cons, List.map_nil] at N0' o0'); (try dsimp only); (try k_fold)) | fail
  k_with "LeaveS" => first | (refine leaveS_ (by assumption) ?_; (try dsimp only)) | fail
  k_with "binaryOp RShift int int" => first | (k_here; (with_reducible refine rshift_int (by decide) ?_)) | fail
  k_with "binaryOp RShift int int" => first | (k_here; with_reducible (first | refine rsh6 ?_ | refine rsh12 ?_ | refine rsh18 ?_); intro t9 k9; (try dsimp only)) | fail
  k_with "binaryOp BitAnd int int" => first | (k_here; with_reducible (refine an63 ?a ?_); (case a => omega); intro t9 k9; (try dsimp only)) | fail
  k_with "binaryOp BitOr int int" => first | (k_here; with_reducible (first | refine bo128 ?a ?b ?_ | refine bo192 ?a ?b ?_ | refine bo224 ?a ?b ?_ | refine bo240 ?a ?b ?_); (case a => omega); (case b => omega); intro t9 k9; (try dsimp only)) | fail
  unfold Okc
  k_fill
  intro dp un gd cn cs a ccd cl outer A₀ base h₀ L m Q E B F X T hk hd hu hret
  w_top on
  refine wpAny_call ?_
  k_dflt (refine' enterS ?k1 ?k2 ?k3 ?k5 ?kA ?kF ?kK ?k6 ?k7 ?k8 ?k9 ?kB ?_ ?c2 ?c3 ?c4 ?c5; (case kA => exact rfl); (case kF => exact rfl); (case kK => assumption); (case k1 => k_asm); (case k2 => k_asm); (case k3 => k_asm); (case k5 => k_asm); (case k6 => k_is); (case k7 => k_is); (case k8 => ktr_room); (case k9 => exact BindsTo.of_eq rfl); (case c5 => decide); (case kB => exact locs rfl); (case c2 => exact rfl); (case c3 => exact rfl); (case c4 => exact rfl); k_whole; intro L' h' F' N' B' X' T'; (try dsimp only); (try k_fold))
  clear B F X T hk
  (try k_fold); repeat' (first | (k_unfold; (try dsimp only)) | walk1 | (dsimp only; walk1))
  all_goals refine hret _ _ _ (Fr.keep (by assumption)) ⟨_, _, _, rfl, News.get (by assumption) (List.Mem.head _), ?_, News.fresh (by assumption) (List.Mem.head _)⟩
  · rw [u8_1 (by omega)]
    exact IntsAre.cons _ _ IntsAre.nil
  · rw [u8_2 (by omega) (by omega)]
    exact IntsAre.cons _ _ (IntsAre.cons _ _ IntsAre.nil)
  · rw [u8_3 (by omega) (by omega)]
    exact IntsAre.cons _ _ (IntsAre.cons _ _ (IntsAre.cons _ _ IntsAre.nil))
  · rw [u8_4 (by omega)]
    exact IntsAre.cons _ _ (IntsAre.cons _ _ (IntsAre.cons _ _ (IntsAre.cons _ _ IntsAre.nil)))
end
section
/-! S3 -/
theorem refd_size {n : Int} (h0 : 0 ≤ n) (h1 : n < 1114112) : (Str.ofString "&#" ++ Str.ofString (toString n) ++ Str.ofString ";").cps.size ≤ sizeLine := by
  have h := PySem.int_text_length_le10 (a := n) (k := 7) (by decide) (by omega)
  show PySem.Str.length _ ≤ _
  rw [PySem.Str.length_append, PySem.Str.length_append, PySem.ofString_length, PySem.ofString_length, PySem.ofString_length, PySem.sizeLine_eq]
  simp only [show ("&#" : String).length = 2 from rfl, show (";" : String).length = 1 from rfl]
  omega
section
theorem sp_oso {w mg mb mean s} {n : Int} {t u : Tok} {x : Str} (h0 : 0 ≤ n) (h1 : n < 1114112) : Okc w mg mb mean 100 [.int n t, .str x u] 8 s (RL s (oc n x)) := by
  k_with_none
  k_with "execs cons" => first | k_fold | fail
  k_with "spliced" => first | (k_here; (with_reducible show wpAny _ _ (spliced (backTo _ (starEach (_ :: _ :: _) _))) _ _ _); (with_reducible refine spliced_consts (by with_unfolding_all rfl) ?_); intro f0 t0; dsimp only [valsF, Nat.reduceAdd]) | fail
  k_with "FinE" => first | (k_dflt (intro D0' h0' tk0' F0' N0' o0'); (have o0' := off_ne o0'); (try simp only [List.cons_append, List.nil_append, List.map_cons, List.map_nil] at N0' o0'); (try dsimp only); (try k_fold)) | fail
  k_with "FinA" => first | (k_dflt (intro D0' h0' tk0' F0' N0' o0'); (have o0' := off_ne o0'); (try simp only [List.cons_append, List.nil_append, List.map_cons, List.map_nil] at N0' o0'); (try dsimp only); (try k_fold)) | fail
  k_with "LeaveS" => first | (refine leaveS_ (by assumption) ?_; (try dsimp only)) | fail
  k_with "binaryOp RShift int int" => first | (k_here; (with_reducible refine rshift_int (by decide) ?_)) | fail
  k_with "call ref" => first | (k_here; (with_reducible show wpAny _ _ (call (Value.ref 95) _) _ _ _); k_dflt (refine useI (sp_oo) (by k_asm) (by k_asm) (by k_asm) (by k_in) (by k_asm) (by first | exact rfl | assumption) (by ktr_room) (by ktr_units) ?_; k_whole); intro t8 h8 tk8 F8 N8; (try dsimp only); (try k_fold)) | fail
  k_with "call ref" => first | (k_here; (with_reducible show wpAny _ _ (call (Value.ref 88) _) _ _ _); k_dflt (refine useL (sp_u8 (by assumption) (by assumption)) (by k_asm) (by k_asm) (by k_asm) (by k_in) (by k_asm) (by first | exact rfl | assumption) (by ktr_room) (by ktr_units) ?_; k_whole); intro b8 us8 c8 h8 tk8 i8 ne8 F8 N8; (try dsimp only); (try k_fold)) | fail
  k_with "eval ListComp" => first | (k_here; k_dflt (refine ListComp_S (by k_asm) (by rfl) (by decide) (by rfl) (by decide) (by rfl) ?_)) | fail
  unfold Okc
  k_fill
  intro dp un gd cn cs a ccd cl outer A₀ base h₀ L m Q E B F X T hk hd hu hret
  w_top on
  refine wpAny_call ?_
  k_dflt (refine' enterS ?k1 ?k2 ?k3 ?k5 ?kA ?kF ?kK ?k6 ?k7 ?k8 ?k9 ?kB ?_ ?c2 ?c3 ?c4 ?c5; (case kA => exact rfl); (case kF => exact rfl); (case kK => assumption); (case k1 => k_asm); (case k2 => k_asm); (case k3 => k_asm); (case k5 => k_asm); (case k6 => k_is); (case k7 => k_is); (case k8 => ktr_room); (case k9 => exact BindsTo.of_eq rfl); (case c5 => decide); (case kB => exact locs rfl); (case c2 => exact rfl); (case c3 => exact rfl); (case c4 => exact rfl); k_whole; intro L' h' F' N' B' X' T'; (try dsimp only); (try k_fold))
  clear B F X T hk
  (try k_fold); repeat' (first | (k_unfold; (try dsimp only)) | walk1 | (dsimp only; walk1))
  · refine hret _ _ _ (Fr.keep (by assumption)) ⟨_, _, _, rfl, News.get (by assumption) (List.Mem.head _), ?_, News.fresh (by assumption) (List.Mem.head _)⟩
    rw [oc, if_pos (by assumption), if_pos (by assumption)]
    exact IntsAre.cons _ _ IntsAre.nil
  · refine ⟨_, _, _, rfl, rfl, by k_asm, by k_asm, ?sz, ?_⟩
    case sz => exact refd_size (by assumption) (by assumption)
    intro g
    refine rest_ords (fun n u I oI C oC D m₂ h tk E' ys hn hC hx F N off ne => ?_) (fun ys hi => ?_)
    · simp only [LCg.Off3, and_true] at off
      (try k_fold); repeat' (first | (k_unfold; (try dsimp only)) | walk1 | (dsimp only; walk1))
    · (try k_fold); repeat' (first | (k_unfold; (try dsimp only)) | walk1 | (dsimp only; walk1))
      refine hret _ _ _ (Fr.keep (by assumption)) ⟨_, _, _, rfl, News.get (by assumption) (List.Mem.head _), ?_, News.fresh (by assumption) (List.Mem.head _)⟩
      rw [oc, if_pos (by assumption), if_neg (by assumption)]
      exact hi
  · refine hret _ _ _ (Fr.keep (by assumption)) ⟨_, _, _, rfl, News.get (by assumption) (List.Mem.head _), ?_, News.fresh (by assumption) (List.Mem.head _)⟩
    rw [oc, if_neg (by rw [Bool.not_eq_true]; assumption)]
    assumption
end
end
section
/-! S4 -/
section
theorem kstB_nil (f : Str → Option Value) (z : Str) : kstB f [] z = f z := rfl
theorem sp_enc {w mg mb mean s} {x y : Str} {t u : Tok} (hx : ∀ c ∈ KStt.codes x, c < 1114112) (hz : x.cps.size ≤ 1000) (hy : isName y = true): Okc w mg mb mean 107 [.str x t, .str y u] 10 s (RY ((encI (KStt.codes x) y).map fun n => n.toNat.toUInt8).toArray) := by
  k_with_none
  k_with "execs cons" => first | k_fold | fail
  k_with "spliced" => first | (k_here; (with_reducible show wpAny _ _ (spliced (backTo _ (starEach (_ :: _ :: _) _))) _ _ _); (with_reducible refine spliced_consts (by with_unfolding_all rfl) ?_); intro f0 t0; dsimp only [valsF, Nat.reduceAdd]) | fail
  k_with "FinE" => first | (k_dflt (intro D0' h0' tk0' F0' N0' o0'); (have o0' := off_ne o0'); (try simp only [List.cons_append, List.nil_append, List.map_cons, List.map_nil] at N0' o0'); (try dsimp only); (try k_fold)) | fail
  k_with "FinA" => first | (k_dflt (intro D0' h0' tk0' F0' N0' o0'); (have o0' := off_ne o0'); (try simp only [List.cons_append, List.nil_append, List.map_cons, List.map_nil] at N0' o0'); (try dsimp only); (try k_fold)) | fail
  k_with "LeaveS" => first | (refine leaveS_ (by assumption) ?_; (try dsimp only)) | fail
  k_with "binaryOp RShift int int" => first | (k_here; (with_reducible refine rshift_int (by decide) ?_)) | fail
  k_with "call ref" => first | (k_here; (with_reducible show wpAny _ _ (call (Value.ref 21) _) _ _ _); k_dflt (refine useB (sp_surr) (by k_asm) (by k_asm) (by k_asm) (by k_in) (by k_asm) (by first | exact rfl | assumption) (by ktr_room) (by ktr_units) ?_; k_whole); intro h8 tk8 F8 N8; (try dsimp only); (try k_fold)) | fail
  k_with "call ref" => first | (k_here; (with_reducible show wpAny _ _ (call (Value.ref 100) _) _ _ _); k_dflt (refine useL (sp_oso (by omega) (by omega)) (by k_asm) (by k_asm) (by k_asm) (by k_in) (by k_asm) (by first | exact rfl | assumption) (by ktr_room) (by ktr_units) ?_; k_whole); intro b8 us8 c8 h8 tk8 i8 ne8 F8 N8; (try dsimp only); (try k_fold)) | fail
  k_with "exec For Name Name cons nil" => first | (k_here; (rename Fr _ _ _ _ => lF'); (with_unfolding_all refine For_invVF lF' (by exact rfl) (by exact rfl) ?_; k_whole)) | fail
  k_with "exec For Name Call cons nil" => first | (k_here; (rename Fr _ _ _ _ => lF'); (with_unfolding_all refine For_invVF lF' (by exact rfl) (by exact rfl) ?_; k_whole)) | fail
  k_with "pyIter str" => first | (refine Halt.mk ?_) | fail
  k_with "execs cons Raise" => first | (refine Halt.mk ?_) | fail
  k_with "call builtin:list.extend" => first | (refine Halt.mk ?_) | fail
  k_with "call type:bytes" => first | (refine Halt.mk ?_) | fail
  k_with "InvEndN" => first | (refine Halt.mk ?_) | fail
  have hsz : (encI (KStt.codes x) y).length ≤ 10000 := by
    have := encI_len (y := y) (cs := KStt.codes x) fun c hc => ⟨codes_nat c hc, hx c hc⟩
    rw [KStt.codes_length] at this
    have e : x.length = x.cps.size := rfl
    omega
  unfold Okc
  k_fill
  intro dp un gd cn cs a ccd cl outer A₀ base h₀ L m Q E B F X T hk hd hu hret
  w_top on
  refine wpAny_call ?_
  k_dflt (refine' enterS ?k1 ?k2 ?k3 ?k5 ?kA ?kF ?kK ?k6 ?k7 ?k8 ?k9 ?kB ?_ ?c2 ?c3 ?c4 ?c5; (case kA => exact rfl); (case kF => exact rfl); (case kK => assumption); (case k1 => k_asm); (case k2 => k_asm); (case k3 => k_asm); (case k5 => k_asm); (case k6 => k_is); (case k7 => k_is); (case k8 => ktr_room); (case k9 => exact BindsTo.of_eq rfl); (case c5 => decide); (case kB => exact locs rfl); (case c2 => exact rfl); (case c3 => exact rfl); (case c4 => exact rfl); k_whole; intro L' h' F' N' B' X' T'; (try dsimp only); (try k_fold))
  clear B F X T hk
  (try k_fold); repeat' (first | (k_unfold; (try dsimp only)) | walk1 | (dsimp only; walk1))
  · refine Halt.out ?_
    (rename Fr _ _ _ _ => lF'); (rename News _ _ _ _ => lN')
    rename ∀ p ∈ _, _ < _ => l1q
    have l1' := Nat.ne_of_lt (l1q _ (List.Mem.head _))
    refine KStt.kst_text (σ := List Value × Nat) (fun c => (_, listOf c.1.toArray c.2) :: _) (fun _ => []) (fun _ => True) [Str.ofString "code"] (fun pre c => IntsAre c.1 (encI pre y)) ([], 0) (by rfl) lF' lN' trivial (fun p hp => nomatch hp) IntsAre.nil ?_ ?_
    · intro c pre post n t' u' h' tk' own hcd off _ hp F N
      have hn1 : (n : Int) < 1114112 := hx _ (by rw [hcd]; simp)
      have hn0 : (0 : Int) ≤ n := by omega
      have hpl : (encI pre y).length ≤ 10000 := by rw [hcd, encI_app, List.length_append] at hsz; omega
      simp only [List.cons_append, List.nil_append] at N
      (try k_fold); repeat' (first | (k_unfold; (try dsimp only)) | walk1 | (dsimp only; walk1))
      · refine Halt.out ?_
        have e : oc (Mine.cl (n : Int)) y = oc (65533) y := by rw [Mine.cl, if_pos (by assumption)]
        rename List Value => us9
        rename IntsAre _ (oc (65533) y) => i9
        rename ∀ p ∈ _, _ ≠ _ => ne9
        rename News _ _ _ (_ :: _ :: _) => N9
        rename Fr _ _ _ _ => F9
        refine extend_in_ints (own := [_]) F9 N9 ?_ ?_ (News.get N9 (List.Mem.head _)) hp i9 ?_ ?_
        · intro p hp
          rw [List.mem_singleton.mp hp]
          exact fun e => ne9 _ (List.Mem.head _) e.symm
        · intro p hp
          rcases List.mem_cons.mp hp with rfl | hp
          · exact l1'
          · exact off p hp _ (List.Mem.head _)
        · intro h7 n7 F7 N7 i7
          (try k_fold); repeat' (first | (k_unfold; (try dsimp only)) | walk1 | (dsimp only; walk1))
          refine Halt.out ?_
          refine InvEndN.intro (nx := _ :: _) F7 N7 ⟨(c.1 ++ us9, n7), rfl, trivial, (fun p hp => nomatch hp), ?_, ?_⟩ rfl ?_ ?_
          · intro z h1 _ h2
            have h3 : z ≠ Str.ofString "code" := by rintro rfl; exact absurd h2 (by decide)
            simp only [kstB_nil, if_neg h1, if_neg h3, h2]
            rfl
          · show IntsAre _ _
            rw [encI_snoc, e]
            exact i7
          · intro p hp
            exact List.mem_append_right _ (by
              rcases List.mem_cons.mp hp with rfl | hp
              · exact List.Mem.head _
              · rw [List.mem_singleton.mp hp]; exact .tail _ (.head _))
          · intro p hp
            exact List.mem_append_right _ (.tail _ (.tail _ hp))
        · have h5 := hp.length
          have h6 := i9.length
          have h7 := oc_len (n := 65533) (y := y) (by omega) (by omega)
          rw [PySem.sizeLine_eq, List.size_toArray]; omega
      · refine Halt.out ?_
        have e : oc (Mine.cl (n : Int)) y = oc ((n : Int)) y := by rw [Mine.cl, if_neg (by assumption)]
        rename List Value => us9
        rename IntsAre _ (oc ((n : Int)) y) => i9
        rename ∀ p ∈ _, _ ≠ _ => ne9
        rename News _ _ _ (_ :: _ :: _) => N9
        rename Fr _ _ _ _ => F9
        refine extend_in_ints (own := [_]) F9 N9 ?_ ?_ (News.get N9 (List.Mem.head _)) hp i9 ?_ ?_
        · intro p hp
          rw [List.mem_singleton.mp hp]
          exact fun e => ne9 _ (List.Mem.head _) e.symm
        · intro p hp
          rcases List.mem_cons.mp hp with rfl | hp
          · exact l1'
          · exact off p hp _ (List.Mem.head _)
        · intro h7 n7 F7 N7 i7
          (try k_fold); repeat' (first | (k_unfold; (try dsimp only)) | walk1 | (dsimp only; walk1))
          refine Halt.out ?_
          refine InvEndN.intro (nx := _ :: _) F7 N7 ⟨(c.1 ++ us9, n7), rfl, trivial, (fun p hp => nomatch hp), ?_, ?_⟩ rfl ?_ ?_
          · intro z h1 _ h2
            have h3 : z ≠ Str.ofString "code" := by rintro rfl; exact absurd h2 (by decide)
            simp only [kstB_nil, if_neg h1, if_neg h3, h2]
            rfl
          · show IntsAre _ _
            rw [encI_snoc, e]
            exact i7
          · intro p hp
            exact List.mem_append_right _ (by
              rcases List.mem_cons.mp hp with rfl | hp
              · exact List.Mem.head _
              · rw [List.mem_singleton.mp hp]; exact .tail _ (.head _))
          · intro p hp
            exact List.mem_append_right _ (.tail _ (.tail _ hp))
        · have h5 := hp.length
          have h6 := i9.length
          have h7 := oc_len (n := (n : Int)) (y := y) (by omega) (by omega)
          rw [PySem.sizeLine_eq, List.size_toArray]; omega
    · intro c u' h' tk' _ hp F N
      (try k_fold); repeat' (first | (k_unfold; (try dsimp only)) | walk1 | (dsimp only; walk1))
      refine Halt.out ?_
      (rename Fr _ _ _ _ => F9); (rename News _ _ _ _ => N9)
      refine bytes_K F9 N9 (News.isList N9 (List.Mem.head _)) hp (encI_byte fun c hc => ⟨codes_nat c hc, hx c hc⟩) ?_ rfl ?_
      · have := hp.length; rw [PySem.sizeLine_eq]; omega
      · intro h8 t8 k8 F8 N8 _
        (try k_fold); repeat' (first | (k_unfold; (try dsimp only)) | walk1 | (dsimp only; walk1))
        refine hret _ _ _ (Fr.keep (by assumption)) ?_
        exact ⟨_, rfl⟩
  · exact absurd hy (by rw [Bool.not_eq_true]; assumption)
end
end
section
/-! LB -/
section
variable {prog : Program} {w : World} {A : Around} {E : Value → Shared → Prop} {s : Shared} {b : Array UInt8} {t : Tok}
abbrev ByteAt (b : Array UInt8) : Nat → Value → Prop := fun i v => ∃ c u, b[i]? = some c ∧ v = .int (c.toNat : Int) u
theorem bytes_len_look : typeLookup (.type "bytes") "__len__" = pure (some (.builtin "bytes.__len__")) := by rw [typeLookup_type, builtinLookup_eq_fast]; kernel_rfl
/-- list(b) of a bytes object: the new list's own turns -/
theorem init_bytes {R : Result → Shared → Prop} (hh : A.handled = none) (S : Addr) (hS : s.heap.get? S = some { cls := .type "list", data := .seq #[] })
    (hR : ∀ h' tk acc' c', (∀ a o, a ≠ S → s.heap.get? a = some o → h'.get? a = some o) → h'.get? S = some { cls := .type "list", dict := none, data := .seq acc' c', slots := #[] } →
      ItemsOf (ByteAt b) acc' b.size → R (.ok (.ret .none)) { s with heap := h', toks := tk }) (hn : b.size ≤ sizeLine) :
    wpAny (model prog w) A.in1 (Builtin.«list.__init__» ⟨[.ref S, .bytes b t], []⟩)
      (fun fin s' => match fin with | .done f => R (.ok f) s' | .again c' => c'.quiet = true ∧ codeAny (model prog w) A c' R s') (fun e s' => R (.error e) s') s := by
  show wpAny _ _ (Builtin.List.listItems (.ref S) >>= fun old => updateSeq S (fun _ => #[]) >>= fun _ => letGo old.toList.reverse >>= fun _ => Builtin.List.listExtendWith (.ref S) (.bytes b t) .none) _ _ s
  unfold Builtin.List.listItems
  refine wpAny_bind (wpAny_bind (wpAny_seqItems hS rfl (wpAny_pure (wpAny_bind (wpAny_updateSeq hS rfl (wpAny_bind (wpAny_letGo ?_)))))))
  have h2 := Heap.get?_update_self (Obj.mapSeq (fun _ => (#[] : Array Value))) hS rfl
  unfold Builtin.List.listExtendWith
  refine wpAny_bind (wpAny_typeOf (T := "bytes") (v := .bytes b t) rfl ?_)
  simp only [show Builtin.List.listSameRef (.ref S) (.bytes b t) = false from rfl, show (Value.type "bytes" == Value.type "list") = false from by decide, show (Value.type "bytes" == Value.type "tuple") = false from by decide, Bool.or_false, Bool.false_eq_true, if_false]
  refine wpAny_bind (KBw.pyIter_bytes ?_)
  refine wpAny_bind (wpAny_holding ?_)
  unfold Builtin.List.listLengthHint
  refine wpAny_bind (wpAny_specialOf (T := "bytes") (v := .bytes b t) rfl bytes_len_look ?_)
  wp_delta
  refine wpAny_bind (wpAny_isInstance (T := "bytes") (v := .bytes b t) (b := true) rfl (by rw [isSubtype_type]; kernel_rfl) ?_)
  show wpAny _ _ (typeOf (Value.bytes b t) >>= _) _ _ _
  refine wpAny_bind (wpAny_typeOf (T := "bytes") (v := .bytes b t) rfl (wpAny_pure ?_))
  rw [if_neg (by decide)]
  have ne : S ≠ (s.heap.update S (Obj.mapSeq (fun _ => (#[] : Array Value)))).objs.size := Nat.ne_of_lt (Heap.lt_size h2)
  refine wpAny_pure ⟨plainId_quiet F.plain_extend_loop _, codeAny_extend_loopS (KBw.walks (A := A.in1) hh _ b t).toS hn _ (fun hm => ne (List.mem_singleton.mp hm)) _ b.size 0 _ _ _ rfl (Nat.zero_le _) ⟨_, Heap.get?_push_size _ rfl, rfl, rfl⟩ (Heap.get?_push_of_some _ h2) (ItemsOf.nil _) fun s' acc' c' hm hS' hacc => ?_⟩
  rw [Moved.eq_with hm]
  refine hR s'.heap s'.toks acc' c' (fun a o ha e => ?_) hS' hacc
  have e2 : (s.heap.update S (Obj.mapSeq (fun _ => (#[] : Array Value)))).get? a = some o := (Heap.get?_update_other _ _ (Ne.symm ha)).trans e
  refine hm.heap a o (fun hmem => ?_) (Heap.get?_push_of_some _ e2)
  rcases List.mem_cons.mp hmem with q | hmem
  · exact ha q
  · exact absurd (Heap.lt_size e2) (by rw [List.mem_singleton.mp hmem]; exact Nat.lt_irrefl _)
theorem items_ints {acc : Array Value} {ks : List Int} (hk : KBw.bInts b = ks) (h : ItemsOf (ByteAt b) acc b.size) : IntsAre acc.toList ks := by
  have key : ∀ (vs : List Value) (ns : List Int), vs.length = ns.length → (∀ (j : Nat) v, vs[j]? = some v → ∃ n t, ns[j]? = some n ∧ v = .int n t) → IntsAre vs ns := by
    intro vs
    induction vs with
    | nil => intro ns hl _; cases ns with
      | nil => exact IntsAre.nil
      | cons a r => cases hl
    | cons v vs ih =>
      intro ns hl hj
      cases ns with
      | nil => cases hl
      | cons a r =>
        obtain ⟨n, t, e1, rfl⟩ := hj 0 v rfl
        simp only [List.getElem?_cons_zero, Option.some.injEq] at e1
        subst e1
        exact IntsAre.cons _ _ (ih r (by simpa using hl) fun j u hu => by simpa using hj (j + 1) u (by simpa using hu))
  subst hk
  refine key _ _ (by rw [KBw.ints_length, Array.length_toList]; exact h.1) fun j v hv => ?_
  obtain ⟨c, u, hc, e⟩ := h.2 j v (by rw [← hv, Array.getElem?_toList])
  exact ⟨_, u, KBw.ints_get hc, e⟩
theorem list_bytes {h₀ : Heap} {L : Addr} {m : Str → Option Value} {news : List (Addr × Obj)} {Q : Value → Shared → Prop} {ks : List Int} (hh : A.handled = none) (F : Fr h₀ L s.heap m) (N : News h₀ L s.heap news) (hk : KBw.bInts b = ks) (hn : ks.length ≤ sizeLine)
    (h : ∀ D us c h' tk, IntsAre us ks → (∀ p ∈ news, p.1 ≠ D) → Fr h₀ L h' m → News h₀ L h' ((D, listOf us.toArray c) :: news) → Q (.ref D) { s with heap := h', toks := tk }) :
    wpAny (model prog w) A (call (.type "list") [.bytes b t]) Q E s := by
  have hz : b.size ≤ sizeLine := by rw [← KBw.ints_length b, hk]; exact hn
  refine callType_codes (Q₁ := fun obj s₁ => obj = .ref s.heap.objs.size ∧ s₁ = { s with heap := s.heap.push { cls := .type "list", data := .seq #[] } }) PySem.F.called_list (PySem.F.typeCall_list_1 _) PySem.F.entry_list_init
    (code_list_new _ ⟨rfl, rfl⟩) fun obj s₁ h₁ => ?_
  obtain ⟨rfl, rfl⟩ := h₁
  have hS : (s.heap.push { cls := .type "list", data := .seq #[] }).get? s.heap.objs.size = some { cls := .type "list", data := .seq #[] } := Heap.get?_push_size _ rfl
  refine ⟨⟨_, hS, rfl⟩, PySem.F.args_list_init_2 _ _, init_bytes (A := A.in1) hh _ hS (fun h' tk acc' c' hk' hS' hacc => ?_) hz⟩
  have st : ∀ a o, s.heap.get? a = some o → h'.get? a = some o := fun a o e => hk' a o (Nat.ne_of_lt (Heap.lt_size e)) (Heap.get?_push_of_some _ e)
  have hS2 : h'.get? s.heap.objs.size = some (listOf (List.toArray acc'.toList) c') := by rw [Array.toArray_toList]; exact hS'
  exact ⟨rfl, h _ acc'.toList c' h' tk (items_ints hk hacc) (fun p hp => Nat.ne_of_lt (Heap.lt_size (N p hp).1)) (F.keeps st) (news_pushed F N st hS2 rfl)⟩
theorem bInts_of {ns : List Int} (h : ∀ n ∈ ns, 0 ≤ n ∧ n < 256) : KBw.bInts (ns.map fun n => n.toNat.toUInt8).toArray = ns := by
  rw [KBw.ints_list, List.map_map]
  conv => rhs; rw [← List.map_id ns]
  refine List.map_congr_left fun n hn => ?_
  have := h n hn
  have e : (n.toNat.toUInt8).toNat = n.toNat := by
    rw [Nat.toUInt8_eq, UInt8.toNat_ofNat']
    exact Nat.mod_eq_of_lt (by omega)
  simp only [Function.comp, e, id]
  omega
end
end
section
/-! LF -/
/-- the end of a turn that may have made its lists anew: only the walk's own objects are to stay apart -/
noncomputable def EndF (h₀ : Heap) (L : Addr) (J : (Str → Option Value) → List (Addr × Obj) → Prop) (own : List (Addr × Obj)) (s₁ s₂ : Shared) : Prop :=
  ∃ h' tk m' all nx, s₂ = { s₁ with heap := h', toks := tk } ∧ Fr h₀ L h' m' ∧ News h₀ L h' all ∧ (∀ p ∈ nx, p ∈ all) ∧ (∀ p ∈ own, p ∈ all) ∧ (∀ p ∈ nx, ∀ q ∈ own, p.1 ≠ q.1) ∧ J m' nx
noncomputable def PostF (h₀ : Heap) (L : Addr) (J : (Str → Option Value) → List (Addr × Obj) → Prop) (own : List (Addr × Obj)) (s₁ : Shared) (Q : Flow → Shared → Prop) (f : Flow) (s₂ : Shared) : Prop :=
  match f with
  | .ret v => Q (.ret v) s₂
  | .brk => Q .next s₂
  | _ => EndF h₀ L J own s₁ s₂
section
variable {prog : Program} {w : World} {A : Around} {E : Value → Shared → Prop} {s : Shared} {env : Env} {h₀ : Heap} {x : Str} {body : List Stmt} {Q : Flow → Shared → Prop}
theorem iter_free {l : Addr} {vs : List Value} {ns : List Int} {m₀ : Str → Option Value} {news : List (Addr × Obj)} (J : Nat → (Str → Option Value) → List (Addr × Obj) → Prop)
    (hh : A.handled = none) (hl : h₀.IsList l vs.toArray) (hi : IntsAre vs ns) (F : Fr h₀ env.locals s.heap m₀) (N : News h₀ env.locals s.heap news) (hj : J 0 m₀ news)
    (turn : ∀ i n t m₁ nw h tk own, ns[i]? = some n → (∀ p ∈ nw, ∀ q ∈ own, p.1 ≠ q.1) → J i m₁ nw → Fr h₀ env.locals h (fun y => if y = x then some (.int n t) else m₁ y) → News h₀ env.locals h (nw ++ own) →
      wpAny (model prog w) A (execs body env) (PostF h₀ env.locals (J (i + 1)) own { s with heap := h, toks := tk } Q) E { s with heap := h, toks := tk })
    (done : ∀ m₁ nw h tk, J ns.length m₁ nw → Fr h₀ env.locals h m₁ → News h₀ env.locals h nw → Q .next { s with heap := h, toks := tk }) :
    wpAny (model prog w) A (pyIter (.ref l)) (fun it s₂ => LoopAtV prog w A h₀ env x body Q E it s₂) E s := by
  have hls : s.heap.IsList l vs.toArray := hl.at fun o e => F.keep l o e
  obtain ⟨ol, hol, _⟩ := id hl
  have hlt : l < env.locals := Nat.lt_of_lt_of_le (Heap.lt_size hol) F.above
  have hI : ∀ p ∈ news, p.1 ≠ s.heap.objs.size := fun p hp => Nat.ne_of_lt (Heap.lt_size (N p hp).1)
  refine wpAny_pyIter_list hls ?_
  have W := Walks.list (prog := prog) (w := w) hh s.heap.objs.size l (Nat.ne_of_lt (Nat.lt_trans hlt F.ns.lt)) vs.toArray
  rw [show vs.toArray.size = ns.length by simp [hi.length]] at W
  refine ⟨_, _, _, ns.length, _, _, m₀, news, J, rfl, W, fun hm => ?_, fun b hb => ?_, fun p hp hq => hI p hp (List.mem_singleton.mp hq), ⟨⟨_, Heap.get?_push_size _ rfl, rfl, rfl⟩, hls.at fun o e => Heap.get?_push_of_some _ e⟩,
    F.push _, N.grown fun _ _ e => Heap.get?_push_of_some _ e, hj, ?_, fun h' tk m' nw F' N' _ hJ => done m' nw h' tk hJ F' N'⟩
  · rcases List.mem_cons.mp hm with e | hm
    · exact absurd F.ns.lt (e ▸ Nat.lt_irrefl _)
    · exact absurd hlt ((List.mem_singleton.mp hm) ▸ Nat.lt_irrefl _)
  · rw [List.mem_singleton.mp hb]; exact next_is_new F
  · rintro i v m₁ nw s₁ own ⟨g, tk', rfl⟩ hin hP hJ hoff hown _ hfull st F₁ N₁
    obtain ⟨⟨oI, hoI, _⟩, _⟩ := st
    have hIown : (s.heap.objs.size, oI) ∈ own := hfull _ (List.mem_cons_self ..) (next_is_new F) oI hoI
    have apart : ∀ p ∈ nw, ∀ q ∈ own, p.1 ≠ q.1 := by
      intro p hp q hq e
      rcases List.mem_cons.mp (hown q hq) with h1 | h1
      · exact hoff p hp (by rw [e, h1]; exact List.mem_singleton.mpr rfl)
      · have h3 := (N₁ p (List.mem_append_right _ hp)).2.2
        rw [e, List.mem_singleton.mp h1, hol] at h3
        cases h3
    have hlt' : i < ns.length := hin
    obtain ⟨t, hx⟩ := hi.get i ns[i] (by simp [hlt'])
    have hv : v = .int ns[i] t := by
      have hP' : vs[i]? = some v := by simpa using hP
      rw [hx] at hP'; exact (Option.some.inj hP').symm
    subst hv
    have N₂ : News h₀ env.locals g (nw ++ own) := fun p hp => N₁ p ((List.mem_append.mp hp).elim (fun h => List.mem_append.mpr (.inr h)) fun h => List.mem_append.mpr (.inl h))
    refine wpAny_mono (turn i ns[i] t m₁ nw g tk' own (by simp [hlt']) apart hJ F₁ N₂) (fun f s₂ p => ?_) fun _ _ e => e
    have fin : EndF h₀ env.locals (J (i + 1)) own { s with heap := g, toks := tk' } s₂ → LoopStepU h₀ env.locals [s.heap.objs.size] own (J (i + 1)) { s with heap := g, toks := tk' } .next s₂ := by
      rintro ⟨h', tk, m', all, nx, e, F', N', hn, ho, ha, hm⟩
      exact ⟨rfl, h', tk, m', nx, e, F', fun p hp => N' p ((List.mem_append.mp hp).elim (ho p) (hn p)), fun p hp hq => ha p hp _ hIown (List.mem_singleton.mp hq), hm⟩
    cases f with
    | ret v => exact .ret p
    | brk => exact .brk p
    | next => exact .next (fin p)
    | cont => exact .cont (fin p)
/-- the loop over a list of ints by a typed state, lists made anew allowed -/
theorem kst_free {σ : Type} {l : Addr} {vs : List Value} {ns : List Int} {m₀ : Str → Option Value} (Led : σ → List (Addr × Obj)) (ps : σ → List (Str × Value)) (stored : List Str) (P : List Int → σ → Prop) (c₀ : σ)
    (hh : A.handled = none) (hl : h₀.IsList l vs.toArray) (hi : IntsAre vs ns) (F : Fr h₀ env.locals s.heap m₀) (N : News h₀ env.locals s.heap (Led c₀)) (hk : ∀ p ∈ ps c₀, m₀ p.1 = some p.2) (hp : P [] c₀)
    (turn : ∀ (c : σ) pre post n t (u : Str → Option Value) h tk own, ns = pre ++ n :: post → (∀ p ∈ Led c, ∀ q ∈ own, p.1 ≠ q.1) → P pre c →
      Fr h₀ env.locals h (fun y => if y = x then some (.int n t) else kstB (fun z => if stored.contains z then u z else m₀ z) (ps c) y) → News h₀ env.locals h (Led c ++ own) →
      wpAny (model prog w) A (execs body env) (PostF h₀ env.locals (KstS Led ps (fun _ => True) x stored m₀ P (pre ++ [n])) own { s with heap := h, toks := tk } Q) E { s with heap := h, toks := tk })
    (done : ∀ (c : σ) (u : Str → Option Value) h tk, P ns c → Fr h₀ env.locals h (fun y => if y = x then u y else kstB (fun z => if stored.contains z then u z else m₀ z) (ps c) y) → News h₀ env.locals h (Led c) → Q .next { s with heap := h, toks := tk }) :
    wpAny (model prog w) A (pyIter (.ref l)) (fun it s₂ => LoopAtV prog w A h₀ env x body Q E it s₂) E s := by
  refine iter_free (fun i m nx => KstS Led ps (fun _ => True) x stored m₀ P (ns.take i) m nx) hh hl hi F N ⟨c₀, rfl, trivial, hk, fun _ _ _ _ => rfl, by simpa using hp⟩ ?_ ?_
  · rintro i n t m₁ nx h tk own hn hoff ⟨c, rfl, _, h1, h2, hp'⟩ F₁ N₁
    have hs : ns.take (i + 1) = ns.take i ++ [n] := by simp [List.take_add_one, hn]
    have e : ns = ns.take i ++ n :: ns.drop (i + 1) := by
      have ht := List.take_append_drop (i + 1) ns
      rw [hs, List.append_assoc] at ht
      exact ht.symm
    rw [hs]
    exact turn c _ _ n t m₁ h tk own e hoff hp' (kst_fr h1 h2 F₁) N₁
  · rintro m₁ nx h tk ⟨c, rfl, _, h1, h2, hp'⟩ F₁ N₁
    rw [List.take_length] at hp'
    exact done c m₁ h tk hp' (kst_frOut h1 h2 F₁) N₁
theorem free_end {σ : Type} {Led : σ → List (Addr × Obj)} {ps : σ → List (Str × Value)} {stored : List Str} {m₀ : Str → Option Value} {P : List Int → σ → Prop} {pre : List Int} (c : σ) {L : Addr} {m' : Str → Option Value} {own all : List (Addr × Obj)} {s₁ : Shared} {h' : Heap} {tk : Nat}
    (F : Fr h₀ L h' m') (N : News h₀ L h' all) (hn : ∀ p ∈ Led c, p ∈ all) (ho : ∀ p ∈ own, p ∈ all) (ha : ∀ p ∈ Led c, ∀ q ∈ own, p.1 ≠ q.1) (hk : ∀ p ∈ ps c, m' p.1 = some p.2) (hr : ∀ z, z ≠ x → (∀ p ∈ ps c, z ≠ p.1) → stored.contains z = false → m' z = m₀ z) (hp : P pre c) :
    PostF h₀ L (KstS Led ps (fun _ => True) x stored m₀ P pre) own s₁ Q .next { s₁ with heap := h', toks := tk } :=
  ⟨h', tk, m', all, Led c, rfl, F, N, hn, ho, ha, c, rfl, trivial, hk, hr, hp⟩
end
end
section
/-! L4 -/
/-- the sign of a number -/
abbrev sgn (k : Int) : Str := ⟨#[k.toNat]⟩
/-- the text of a list of numbers -/
abbrev txt (ps : List Int) : Str := PySem.Txt.join (Str.ofString "") (ps.map sgn)
theorem codes_empty : KStt.codes (Str.ofString "") = [] := by rw [codes_ofString]; rfl
theorem codes_sgn1 {p : Int} (h : 0 ≤ p) : KStt.codes (sgn p) = [p] := by
  unfold KStt.codes
  simp [Int.toNat_of_nonneg h]
theorem codes_txt : ∀ {ps : List Int}, (∀ p ∈ ps, 0 ≤ p) → KStt.codes (txt ps) = ps := by
  intro ps h
  show KStt.codes (Builtin.Str.glued (Str.ofString "") (ps.map sgn)) = ps
  rw [StrLaws.glued_eq_join]
  induction ps with
  | nil => exact codes_empty
  | cons p r ih =>
    have hp := h p (List.mem_cons_self ..)
    have hr := ih fun q hq => h q (List.mem_cons_of_mem _ hq)
    cases r with
    | nil => exact codes_sgn1 hp
    | cons q r =>
      show KStt.codes (sgn p ++ Str.ofString "" ++ Str.join (Str.ofString "") ((q :: r).map sgn)) = _
      rw [codes_append, codes_append, codes_empty, codes_sgn1 hp, hr]
      rfl
theorem size_txt {ps : List Int} (h : ∀ p ∈ ps, 0 ≤ p) : (txt ps).cps.size = ps.length := by
  have e : (txt ps).cps.size = (KStt.codes (txt ps)).length := by rw [KStt.codes_length]; rfl
  rw [e, codes_txt h]
theorem txt_lt {ps : List Int} (h : ∀ p ∈ ps, 0 ≤ p ∧ p < 1114112) : ∀ c ∈ KStt.codes (txt ps), c < 1114112 := by
  rw [codes_txt fun p hp => (h p hp).1]
  exact fun c hc => (h c hc).2
end
section
/-! S12 -/
section
theorem strs_snoc {y : Str} {t : Tok} : ∀ {vs : List Value} {ys : List Str}, StrsAre vs ys → StrsAre (vs ++ [.str y t]) (ys ++ [y])
  | _, _, .nil => .cons y t .nil
  | _, _, .cons z u r => .cons z u (strs_snoc r)
theorem join_signs {prog : Program} {w : World} {A : Around} {E : Value → Shared → Prop} {s : Shared} {t : Tok} {Q : Value → Shared → Prop} {D : Addr} {ys : List Value} {ps : List Int} (hl : s.heap.IsList D ys.toArray) (h : StrsAre ys (ps.map sgn)) (hn : ps.length < 1000)
    (k : ∀ t' k', Q (.str (txt ps) t') { s with toks := k' }) : wpAny (model prog w) A (call (.builtin "str.join") [.str (Str.ofString "") t, .ref D]) Q E s := by
  have hc := h.carried
  rw [List.map_map] at hc
  exact KT.join_1 (l := ps) (g := sgn) hl hc (fun _ _ => rfl) (by omega) fun t' k' _ => k t' k'
theorem codes_sgn {p : Int} (h : 0 ≤ p) : KStt.codes ⟨#[p.toNat]⟩ = [p] := by
  unfold KStt.codes
  simp [Int.toNat_of_nonneg h]
theorem enc_byte {x y : Str} (hx : ∀ c ∈ KStt.codes x, c < 1114112) : ∀ n ∈ encI (KStt.codes x) y, 0 ≤ n ∧ n < 256 := encI_byte fun c hc => ⟨codes_nat c hc, hx c hc⟩
theorem enc_fit {x y : Str} (hx : ∀ c ∈ KStt.codes x, c < 1114112) (hz : x.cps.size ≤ 1000) : (encI (KStt.codes x) y).length ≤ 10000 := by
  have := encI_len (y := y) (cs := KStt.codes x) fun c hc => ⟨codes_nat c hc, hx c hc⟩
  rw [KStt.codes_length] at this
  have e : x.length = x.cps.size := rfl
  omega
theorem sgn_lt {p : Int} (h : 0 ≤ p) (h1 : p < 1114112) : ∀ c ∈ KStt.codes ⟨#[p.toNat]⟩, c < 1114112 := by
  rw [codes_sgn h]; intro c hc; rw [List.mem_singleton.mp hc]; exact h1
theorem sp_refer2 {w mg mb mean s} {l : Addr} {vs : List Value} {ns : List Int} {n : Int} {t : Tok} (hl : s.heap.IsList l vs.toArray) (hi : IntsAre vs ns) (hns : ns = refd n) (h1 : 128 ≤ n) (h2 : n < 1114112) (h3 : ¬ (55296 ≤ n ∧ n ≤ 57343)) : Okc w mg mb mean 157 [.ref l, .int n t] 16 s (RB true) := by
  obtain ⟨k, rfl⟩ : ∃ k : Nat, n = k := ⟨n.toNat, by omega⟩
  exact sp_refer hl hi (by rw [hns, refd_eq]) (by omega) (by omega) (by omega)
theorem nodict_of {h : Heap} {a : Addr} {its : Array Value} {c : Nat} (e : h.get? a = some (listOf its c)) : h.NoDictAt (.ref a) := by
  exact ⟨_, e, rfl⟩
section
variable {prog : Program} {w : World} {A : Around} {E : Value → Shared → Prop} {s : Shared} {h₀ : Heap} {L lt : Addr} {m : Str → Option Value} {vt : List Value} {c : Nat}
theorem index_get {its : Array Value} {pl : Sem Bool} {Q : Value × List Value → Shared → Prop} (F : Fr h₀ L s.heap m) (hg : h₀.get? lt = some (listOf its c)) (h : Q (.builtin "list.index", [.ref lt]) s) :
    wpAny (model prog w) A (getMethod (.ref lt) (Str.ofString "index") pl) Q E s :=
  getMethod_list_of PySem.F.slot_list_index PySem.F.type_list_index ⟨_, F.keep _ _ hg, rfl, _, rfl⟩ (nodict_of (F.keep _ _ hg)) h
theorem index_call {tb : List Int} {k : Int} {t : Tok} {Q : Value → Shared → Prop} (F : Fr h₀ L s.heap m) (hg : h₀.get? lt = some (listOf vt.toArray c)) (hi : IntsAre vt tb) (hlay : PyData.layable0 (.list (tb.map .int)) = true) (hk : k ∈ tb)
    (h : ∀ t' k', Q (.int (tb.idxOf k : Nat) t') { s with toks := k' }) : wpAny (model prog w) A (call (.builtin "list.index") [.ref lt, .int k t]) Q E s :=
  index_list_ints ⟨_, F.keep _ _ hg, rfl, _, rfl⟩ hi hlay hk (h _ _)
end

local macro_rules | `(tactic| kmk_sum) => `(tactic| ((simp only [PySem.sizeLine_eq]); omega))
theorem sp_single {w mg mb mean s} {l lt : Addr} {vs vt : List Value} {ps tb : List Int} {y : Str} {u : Tok} (hl : s.heap.IsList l vs.toArray) (hi : IntsAre vs ps) {ct : Nat} (hgt : s.heap.get? lt = some (listOf vt.toArray ct)) (hit : IntsAre vt tb)
    (hps : ∀ p ∈ ps, 0 ≤ p ∧ p < 1114112) (hlen : ps.length < 20) (htl : tb.length < 1000) (htr : ∀ p ∈ tb, 0 ≤ p ∧ p < 1114112) (hy : isName y = true)
    (htb : ∀ p ∈ ps, (cl p ∈ tb → oc (cl p) y = [(tb.idxOf (cl p) : Int)]) ∧ (cl p ∉ tb → 128 ≤ cl p ∧ oc (cl p) y = refd (cl p))) :
    Okc w mg mb mean 162 [.ref l, .str y u, .ref lt] 20 s (RB true) := by
  k_with_none
  k_with "execs cons" => first | k_fold | fail
  k_with "spliced" => first | (k_here; (with_reducible show wpAny _ _ (spliced (backTo _ (starEach (_ :: _ :: _) _))) _ _ _); (with_reducible refine spliced_consts (by with_unfolding_all rfl) ?_); intro f0 t0; dsimp only [valsF, Nat.reduceAdd]) | fail
  k_with "FinE" => first | (k_dflt (intro D0' h0' tk0' F0' N0' o0'); (have o0' := off_ne o0'); (try simp only [List.cons_append, List.nil_append, List.map_cons, List.map_nil] at N0' o0'); (try dsimp only); (try k_fold)) | fail
  k_with "FinA" => first | (k_dflt (intro D0' h0' tk0' F0' N0' o0'); (have o0' := off_ne o0'); (try simp only [List.cons_append, List.nil_append, List.map_cons, List.map_nil] at N0' o0'); (try dsimp only); (try k_fold)) | fail
  k_with "LeaveS" => first | (refine leaveS_ (by assumption) ?_; (try dsimp only)) | fail
  k_with "binaryOp RShift int int" => first | (k_here; (with_reducible refine rshift_int (by decide) ?_)) | fail
  k_with "call ref" => first | (k_here; (with_reducible show wpAny _ _ (call (Value.ref 107) _) _ _ _); k_dflt (refine useY ((sp_enc (by first | assumption | exact sgn_lt (by omega) (by omega)) (by first | assumption | (show 1 ≤ 1000; decide)) (by assumption))) (by k_asm) (by k_asm) (by k_asm) (by k_in) (by k_asm) (by first | exact rfl | assumption) (by ktr_room) (by ktr_units) ?_; k_whole); intro t8 h8 tk8 F8 N8; (try dsimp only); (try k_fold)) | fail
  k_with "call type:list" => first | (k_here; (with_reducible show wpAny _ _ (call (Value.type _) [Value.bytes _ _]) _ _ _); k_dflt (refine list_bytes (by rfl) (by k_asm) (by k_asm) (by exact bInts_of (enc_byte (by first | assumption | exact sgn_lt (by omega) (by omega)))) (by (refine Nat.le_trans (enc_fit (by first | assumption | exact sgn_lt (by omega) (by omega)) (by first | assumption | (show 1 ≤ 1000; decide))) (by rw [PySem.sizeLine_eq]; decide))) ?_; k_whole); intro b8 us8 c8 h8 tk8 i8 ne8 F8 N8; (try dsimp only); (try k_fold)) | fail
  k_with "call ref" => first | (k_here; (with_reducible show wpAny _ _ (call (Value.ref 133) _) _ _ _); k_dflt (refine useL ((sp_clean (News.isList (by assumption) (by k_mem)) (IntsAre.cons _ _ IntsAre.nil) (by simp only [List.length_cons, List.length_nil]; decide))) (by k_asm) (by k_asm) (by k_asm) (by k_in) (by k_asm) (by first | exact rfl | assumption) (by ktr_room) (by ktr_units) ?_; k_whole); intro b8 us8 c8 h8 tk8 i8 ne8 F8 N8; (try dsimp only); (try k_fold)) | fail
  k_with "eval ListComp" => first | (k_here; k_dflt (refine LCg.ListComp_U (F₀ := by k_asm) (by with_unfolding_all rfl) (by decide) (by rfl) (by decide) (by rfl) ?_)) | fail
  k_with "CompSrc" => first | (refine Halt.mk ?_) | fail
  k_with "call ref" => first | (k_here; (with_reducible show wpAny _ _ (call (Value.ref 157) _) _ _ _); k_dflt (refine useB ((sp_refer2 (News.isList (by assumption) (by k_mem)) (by assumption) (by assumption) (by assumption) (by assumption) (by assumption))) (by k_asm) (by k_asm) (by k_asm) (by k_in) (by k_asm) (by first | exact rfl | assumption) (by ktr_room) (by ktr_units) ?_; k_whole); intro h8 tk8 F8 N8; (try dsimp only); (try k_fold)) | fail
  k_with "getMethod ref" => first | (refine Halt.mk ?_) | fail
  k_with "call builtin:list.index" => first | (refine Halt.mk ?_) | fail
  k_with "exec For Name Name cons nil" => first | (k_here; (rename Fr _ _ _ _ => lF'); (with_unfolding_all refine For_invVF lF' (by exact rfl) (by exact rfl) ?_; k_whole)) | fail
  k_with "exec For Name Call cons nil" => first | (k_here; (rename Fr _ _ _ _ => lF'); (with_unfolding_all refine For_invVF lF' (by exact rfl) (by exact rfl) ?_; k_whole)) | fail
  k_with "pyIter ref" => first | (refine Halt.mk ?_) | fail
  k_with "PostF" => first | (refine Halt.mk ?_) | fail
  k_with "call type:bytes" => first | (refine Halt.mk ?_) | fail
  k_with "call builtin:str.join" => first | (k_here; (with_reducible show wpAny _ _ (call (Value.builtin _) _) _ _ _); (rename StrsAre _ _ => sj9); k_dflt (refine join_signs (News.isList (by assumption) (List.Mem.head _)) sj9 (by omega) ?_); intro t9 k9; (try dsimp only)) | fail
  k_with "binaryOp Add ref ref" => first | (k_here; (with_reducible show wpAny _ _ (binaryOp _ (Value.ref _) (Value.ref _)) _ _ _); k_dflt (refine kmk_add_ints (by k_asm) (by k_asm) (by kmk_list) (by kmk_list) (by l_ints) (by l_ints) ?_ (by kmk_sum)); intro D' ws' h' F' N' lD hI') | fail
  have hlt : s.heap.IsList lt vt.toArray := ⟨_, hgt, rfl, _, rfl⟩
  unfold Okc
  k_fill
  intro dp un gd cn cs a ccd cl outer A₀ base h₀ L m Q E B F X T hk hd hu hret
  w_top on
  refine wpAny_call ?_
  k_dflt (refine' enterS ?k1 ?k2 ?k3 ?k5 ?kA ?kF ?kK ?k6 ?k7 ?k8 ?k9 ?kB ?_ ?c2 ?c3 ?c4 ?c5; (case kA => exact rfl); (case kF => exact rfl); (case kK => assumption); (case k1 => k_asm); (case k2 => k_asm); (case k3 => k_asm); (case k5 => k_asm); (case k6 => k_is); (case k7 => k_is); (case k8 => ktr_room); (case k9 => exact BindsTo.of_eq rfl); (case c5 => decide); (case kB => exact locs rfl); (case c2 => exact rfl); (case c3 => exact rfl); (case c4 => exact rfl); k_whole; intro L' h' F' N' B' X' T'; (try dsimp only); (try k_fold))
  clear B F X T hk
  (try k_fold); repeat' (first | (k_unfold; (try dsimp only)) | walk1 | (dsimp only; walk1))
  refine Halt.out ?_
  (rename Fr _ _ _ _ => lF'); (rename News _ _ _ _ => lN')
  refine kst_free (σ := Addr × List Value × Nat) (fun q => [(q.1, listOf q.2.1.toArray q.2.2)]) (fun q => [(Str.ofString "octets", .ref q.1)]) [Str.ofString "piece", Str.ofString "clean"] (fun pre q => IntsAre q.2.1 (encI pre y)) (_, [], 0) (by rfl) hl hi lF' lN' (fun p hp => by rw [List.mem_singleton.mp hp]; rfl) IntsAre.nil ?_ ?_
  · rintro ⟨a9, us9, c9⟩ pre post n t' u' h' tk' own hsp off hp F N
    have hmem : n ∈ ps := by rw [hsp]; simp
    have hn := hps n hmem
    have hcr := cl_range hn.1 hn.2
    have hcr2 := hcr.2
    have hcs : ¬ (55296 ≤ Mine.cl n ∧ Mine.cl n ≤ 57343) := by unfold Mine.cl; split <;> omega
    have e0 : encI (KStt.codes ⟨#[n.toNat]⟩) y = oc (Mine.cl n) y := by rw [codes_sgn hn.1]; simp [encI]
    have hb1 : (encI pre y).length ≤ 200 := by
      have h1 := encI_len (y := y) (cs := pre) fun c hc => hps c (by rw [hsp]; simp [hc])
      have h2 : pre.length < ps.length := by rw [hsp, List.length_append, List.length_cons]; omega
      omega
    have hb2 : (encI (KStt.codes ⟨#[n.toNat]⟩) y).length ≤ 10 := by rw [e0]; exact oc_len hcr.1 hcr.2
    obtain ⟨hin, hout⟩ := htb n hmem
    simp only [List.cons_append, List.nil_append] at hp N F
    by_cases hq : Mine.cl n ∈ tb
    · have e1 := e0.trans (hin hq)
      (try k_fold); repeat' (first | (k_unfold; (try dsimp only)) | walk1 | (dsimp only; walk1))
      · refine Halt.out ?_
        refine index_get (by assumption) hgt ?_
        (try k_fold); repeat' (first | (k_unfold; (try dsimp only)) | walk1 | (dsimp only; walk1))
        refine Halt.out ?_
        refine index_call (by assumption) hgt hit (lay_small htr htl) hq ?_
        intro t9 k9
        (try k_fold); repeat' (first | (k_unfold; (try dsimp only)) | walk1 | (dsimp only; walk1))
        · refine Halt.out ?_
          (rename Fr _ _ _ _ => F9); (rename News _ _ _ _ => N9); (rename IntsAre _ (encI pre y ++ _) => i9); (rename ∀ p ∈ _, _ < _ => l9)
          refine free_end (_, _, 0) F9 N9 (fun p hp => by rw [List.mem_singleton.mp hp]; exact List.Mem.head _) (fun p hp => ?_) (fun p hp q hq => ?_) (fun p hp => by rw [List.mem_singleton.mp hp]; rfl) ?_ ?_
          · repeat (first | exact hp | apply List.Mem.tail)
          · rw [List.mem_singleton.mp hp]
            exact (Nat.ne_of_lt (l9 q (by repeat (first | exact hq | apply List.Mem.tail)))).symm
          · intro z h1 h2 h3
            have h4 := h2 _ (List.Mem.head _)
            have h5 : z ≠ Str.ofString "piece" := by rintro rfl; exact absurd h3 (by decide)
            have h6 : z ≠ Str.ofString "clean" := by rintro rfl; exact absurd h3 (by decide)
            simp only [kstB, if_neg h1, h3, if_neg h4, if_neg h5, if_neg h6]
            rfl
          · show IntsAre _ (encI (pre ++ [n]) y)
            rw [encI_snoc, ← e0]
            exact i9
        · rename ¬ _ = [_] => hq9
          exact absurd e1 hq9
      · rename _ = false => hq9
        have h7 := List.any_eq_false.mp hq9 _ hq
        exact absurd (beq_self_eq_true _) h7
    · have e1 := (hout hq).2
      have h128 := (hout hq).1
      have e2 := e0.trans e1
      (try k_fold); repeat' (first | (k_unfold; (try dsimp only)) | walk1 | (dsimp only; walk1))
      · exfalso
        rename _ = true => hq9
        obtain ⟨x, hx, e⟩ := List.any_eq_true.mp hq9
        exact hq (by rw [eq_of_beq e] at hx; exact hx)
      · refine Halt.out ?_
        (rename Fr _ _ _ _ => F9); (rename News _ _ _ _ => N9); (rename IntsAre _ (encI pre y ++ _) => i9); (rename ∀ p ∈ _, _ < _ => l9)
        refine free_end (_, _, 0) F9 N9 (fun p hp => by rw [List.mem_singleton.mp hp]; exact List.Mem.head _) (fun p hp => ?_) (fun p hp q hq => ?_) (fun p hp => by rw [List.mem_singleton.mp hp]; rfl) ?_ ?_
        · repeat (first | exact hp | apply List.Mem.tail)
        · rw [List.mem_singleton.mp hp]
          exact (Nat.ne_of_lt (l9 q (by repeat (first | exact hq | apply List.Mem.tail)))).symm
        · intro z h1 h2 h3
          have h4 := h2 _ (List.Mem.head _)
          have h5 : z ≠ Str.ofString "piece" := by rintro rfl; exact absurd h3 (by decide)
          have h6 : z ≠ Str.ofString "clean" := by rintro rfl; exact absurd h3 (by decide)
          simp only [kstB, if_neg h1, h3, if_neg h4, if_neg h5, if_neg h6]
          rfl
        · show IntsAre _ (encI (pre ++ [n]) y)
          rw [encI_snoc, ← e0]
          exact i9
  · rintro ⟨a9, us9, c9⟩ u' h' tk' hp F N
    have hj0 : ∀ p ∈ ps, 0 ≤ p := fun p hp => (hps p hp).1
    have hjc := codes_txt hj0
    have hjx := txt_lt hps
    have hjz : (txt ps).cps.size ≤ 1000 := by rw [size_txt hj0]; omega
    have hsz := hi.length
    have hby : ∀ n ∈ encI ps y, 0 ≤ n ∧ n < 256 := encI_byte hps
    have hfit : (encI ps y).length ≤ 200 := by have := encI_len (y := y) hps; omega
    simp only at hp N F
    (try k_fold); repeat' (first | (k_unfold; (try dsimp only)) | walk1 | (dsimp only; walk1))
    refine Halt.out ?_
    refine LCg.CompSrc.base (by rfl) (by k_asm) (by k_asm) hl (by rw [PySem.sizeLine_eq, List.size_toArray]; omega) ?_
    intro g
    refine rest_fix (fun i ys => StrsAre ys ((ps.take i).map sgn)) (Or.inl hl) StrsAre.nil ?_ ?_
    · rintro i v I oI C oC D m₂ h tk E' ys hi1 hJ hv hC hx F N off ne
      obtain ⟨k, t, rfl, hk⟩ := ints_at hi hv
      have hkr := hps k (List.mem_of_getElem? hk)
      have e : (ps.take (i + 1)).map sgn = (ps.take i).map sgn ++ [sgn k] := by rw [List.take_add_one, hk]; simp
      simp only [LCg.Off3, and_true] at off
      (try k_fold); repeat' (first | (k_unfold; (try dsimp only)) | walk1 | (dsimp only; walk1))
      refine EndS.intro (by assumption) (by assumption) (fun p hp => hp) ?_
      rw [e]
      exact strs_snoc hJ
    · intro ys hJ
      rw [show vs.toArray.size = ps.length by rw [List.size_toArray]; omega, List.take_length] at hJ
      (try k_fold); repeat' (first | (k_unfold; (try dsimp only)) | walk1 | (dsimp only; walk1))
      refine Halt.out ?_
      (rename Fr _ _ _ _ => F9); (rename News _ _ _ _ => N9)
      refine bytes_K F9 N9 (News.isList N9 (by k_mem)) hp hby (by have := hp.length; rw [PySem.sizeLine_eq]; omega) rfl ?_
      intro h8 t8 k8 F8 N8 _
      (try k_fold); repeat' (first | (k_unfold; (try dsimp only)) | walk1 | (dsimp only; walk1))
      refine hret _ _ _ (Fr.keep (by assumption)) ?_
      show Value.bool _ = _
      rw [hjc, beq_self_eq_true]
end
end
section
/-! S6 -/
noncomputable def ordL : List Int → List Int → Int
  | [], [] => 0
  | [], _ :: _ => -1
  | _ :: _, [] => 1
  | a :: r, b :: q => if a < b then -1 else if b < a then 1 else ordL r q
theorem ordL_at : ∀ (k : Nat) (a b : List Int), (∀ j : Nat, j < k → a.getD j 0 = b.getD j 0) → k < a.length → k < b.length → a.getD k 0 ≠ b.getD k 0 → ordL a b = if a.getD k 0 < b.getD k 0 then -1 else 1
  | 0, x :: a, y :: b, _, _, _, hn => by
    simp only [List.getD_cons_zero] at hn ⊢
    unfold ordL
    split
    · rfl
    · rw [if_pos (by omega)]
  | k + 1, x :: a, y :: b, h, h1, h2, hn => by
    have e : x = y := by simpa using h 0 (by omega)
    simp only [List.getD_cons_succ] at hn ⊢
    unfold ordL
    rw [if_neg (by omega), if_neg (by omega)]
    exact ordL_at k a b (fun j hj => by simpa using h (j + 1) (by omega)) (by simpa using h1) (by simpa using h2) hn
  | _, [], _, _, h1, _, _ => absurd h1 (Nat.not_lt_zero _)
  | _, _ :: _, [], _, _, h2, _ => absurd h2 (Nat.not_lt_zero _)
theorem ordL_all : ∀ (a b : List Int), (∀ j : Nat, j < a.length → j < b.length → a.getD j 0 = b.getD j 0) → ordL a b = if a.length = b.length then 0 else if a.length < b.length then -1 else 1
  | [], [], _ => rfl
  | [], _ :: _, _ => by simp [ordL]
  | _ :: _, [], _ => by simp [ordL]
  | x :: a, y :: b, h => by
    have e : x = y := by simpa using h 0 (by simp) (by simp)
    unfold ordL
    rw [if_neg (by omega), if_neg (by omega), ordL_all a b fun j h1 h2 => by simpa using h (j + 1) (by simpa using h1) (by simpa using h2)]
    simp only [List.length_cons, Nat.add_right_cancel_iff, Nat.add_lt_add_iff_right]
theorem ord_step {ns ns' : List Int} {kN : Int} {kPre : List Int} (kEq : kN = 0 + (kPre.length : Int)) (kInv : ∀ j : Nat, j < kPre.length → ns.getD j 0 = ns'.getD j 0) (e : ns.getD kN.toNat 0 = ns'.getD kN.toNat 0) :
    ∀ j : Nat, j < (kPre ++ [kN]).length → ns.getD j 0 = ns'.getD j 0 := by
  intro j hj
  by_cases q : j < kPre.length
  · exact kInv j q
  · have : j = kPre.length := by simp at hj; omega
    subst this
    have e2 : kN.toNat = kPre.length := by omega
    rw [e2] at e; exact e
theorem sp_order {w mg mb mean s} {l l' : Addr} {vs vs' : List Value} {ns ns' : List Int} (hl : s.heap.IsList l vs.toArray) (hi : IntsAre vs ns) (hl' : s.heap.IsList l' vs'.toArray) (hi' : IntsAre vs' ns') (hn : ns.length < 1000) (hn' : ns'.length < 1000) : Okc w mg mb mean 145 [.ref l, .ref l'] 4 s (RI (ordL ns ns')) := by
  k_with_none
  k_with "execs cons" => first | k_fold | fail
  k_with "spliced" => first | (k_here; (with_reducible show wpAny _ _ (spliced (backTo _ (starEach (_ :: _ :: _) _))) _ _ _); (with_reducible refine spliced_consts (by with_unfolding_all rfl) ?_); intro f0 t0; dsimp only [valsF, Nat.reduceAdd]) | fail
  k_with "FinE" => first | (k_dflt (intro D0' h0' tk0' F0' N0' o0'); (have o0' := off_ne o0'); (try simp only [List.cons_append, List.nil_append, List.map_cons, List.map_nil] at N0' o0'); (try dsimp only); (try k_fold)) | fail
  k_with "FinA" => first | (k_dflt (intro D0' h0' tk0' F0' N0' o0'); (have o0' := off_ne o0'); (try simp only [List.cons_append, List.nil_append, List.map_cons, List.map_nil] at N0' o0'); (try dsimp only); (try k_fold)) | fail
  k_with "LeaveS" => first | (refine leaveS_ (by assumption) ?_; (try dsimp only)) | fail
  k_with "binaryOp RShift int int" => first | (k_here; (with_reducible refine rshift_int (by decide) ?_)) | fail
  unfold Okc
  k_fill
  intro dp un gd cn cs a ccd cl outer A₀ base h₀ L m Q E B F X T hk hd hu hret
  w_top on
  refine wpAny_call ?_
  k_dflt (refine' enterS ?k1 ?k2 ?k3 ?k5 ?kA ?kF ?kK ?k6 ?k7 ?k8 ?k9 ?kB ?_ ?c2 ?c3 ?c4 ?c5; (case kA => exact rfl); (case kF => exact rfl); (case kK => assumption); (case k1 => k_asm); (case k2 => k_asm); (case k3 => k_asm); (case k5 => k_asm); (case k6 => k_is); (case k7 => k_is); (case k8 => ktr_room); (case k9 => exact BindsTo.of_eq rfl); (case c5 => decide); (case kB => exact locs rfl); (case c2 => exact rfl); (case c3 => exact rfl); (case c4 => exact rfl); k_whole; intro L' h' F' N' B' X' T'; (try dsimp only); (try k_fold))
  clear B F X T hk
  k_with_none
  k_with "execs cons" => first | k_fold | fail
  k_with "spliced" => first | (k_here; (with_reducible show wpAny _ _ (spliced (backTo _ (starEach (_ :: _ :: _) _))) _ _ _); (with_reducible refine spliced_consts (by with_unfolding_all rfl) ?_); intro f0 t0; dsimp only [valsF, Nat.reduceAdd]) | fail
  k_with "FinE" => first | (k_dflt (intro D0' h0' tk0' F0' N0' o0'); (have o0' := off_ne o0'); (try simp only [List.cons_append, List.nil_append, List.map_cons, List.map_nil] at N0' o0'); (try dsimp only); (try k_fold)) | fail
  k_with "FinA" => first | (k_dflt (intro D0' h0' tk0' F0' N0' o0'); (have o0' := off_ne o0'); (try simp only [List.cons_append, List.nil_append, List.map_cons, List.map_nil] at N0' o0'); (try dsimp only); (try k_fold)) | fail
  k_with "LeaveS" => first | (refine leaveS_ (by assumption) ?_; (try dsimp only)) | fail
  k_with "binaryOp RShift int int" => first | (k_here; (with_reducible refine rshift_int (by decide) ?_)) | fail
  k_with "pyIter ref" => k_search (fun pre => ∀ j : Nat, j < pre.length → ns.getD j 0 = ns'.getD j 0)
  k_with "state" => first | exact (fun j hj => absurd hj (Nat.not_lt_zero j)) | exact ord_step (by assumption) (by assumption) (by assumption)
  (try k_fold); repeat' (first | (k_unfold; (try dsimp only)) | walk1 | (dsimp only; walk1))
  k_with_none
  k_with "execs cons" => first | k_fold | fail
  k_with "spliced" => first | (k_here; (with_reducible show wpAny _ _ (spliced (backTo _ (starEach (_ :: _ :: _) _))) _ _ _); (with_reducible refine spliced_consts (by with_unfolding_all rfl) ?_); intro f0 t0; dsimp only [valsF, Nat.reduceAdd]) | fail
  k_with "FinE" => first | (k_dflt (intro D0' h0' tk0' F0' N0' o0'); (have o0' := off_ne o0'); (try simp only [List.cons_append, List.nil_append, List.map_cons, List.map_nil] at N0' o0'); (try dsimp only); (try k_fold)) | fail
  k_with "FinA" => first | (k_dflt (intro D0' h0' tk0' F0' N0' o0'); (have o0' := off_ne o0'); (try simp only [List.cons_append, List.nil_append, List.map_cons, List.map_nil] at N0' o0'); (try dsimp only); (try k_fold)) | fail
  k_with "LeaveS" => first | (refine leaveS_ (by assumption) ?_; (try dsimp only)) | fail
  k_with "binaryOp RShift int int" => first | (k_here; (with_reducible refine rshift_int (by decide) ?_)) | fail
  all_goals refine hret _ _ _ (Fr.keep (by assumption)) ?_
  · have e2 : kN.toNat = kPre.length := by omega
    exact ⟨_, congrArg (fun z => Value.int z _) (by rw [ordL_at kPre.length ns ns' kInv (by split at kLt <;> omega) (by split at kLt <;> omega) (by rw [← e2]; assumption), if_pos (by rw [← e2]; assumption)])⟩
  · have e2 : kN.toNat = kPre.length := by omega
    exact ⟨_, congrArg (fun z => Value.int z _) (by rw [ordL_at kPre.length ns ns' kInv (by split at kLt <;> omega) (by split at kLt <;> omega) (by rw [← e2]; assumption), if_neg (by rw [← e2]; assumption)])⟩
  all_goals (
    have e3 := ordL_all ns ns' fun j h1 h2 => kInv j (by rw [rangeKs_length]; split <;> omega)
    exact ⟨_, congrArg (fun z => Value.int z _) (by rw [e3]; (repeat' split) <;> omega)⟩)
end
section
/-! S7 -/
noncomputable def placesF (ns ms : List Int) (n : Nat) : List Int := ((List.range n).filter fun i => decide ((ns.drop i).take ms.length = ms)).map fun (i : Nat) => (i : Int)
theorem placesF_hit {ns ms : List Int} {n : Nat} (h : (ns.drop n).take ms.length = ms) : placesF ns ms (n + 1) = placesF ns ms n ++ [(n : Int)] := by
  unfold placesF; rw [List.range_succ, List.filter_append, List.map_append]; simp [h]
theorem placesF_miss {ns ms : List Int} {n : Nat} (h : ¬ (ns.drop n).take ms.length = ms) : placesF ns ms (n + 1) = placesF ns ms n := by
  unfold placesF; rw [List.range_succ, List.filter_append, List.map_append]; simp [h]
theorem at_zero (i : Nat) : (0 + (i : Int)).toNat = i := by rw [Int.zero_add]; rfl
theorem at_len {i n k : Nat} (h : i < n + 1 - k) : min (0 + (i : Int) + (k : Int)).toNat n - (0 + (i : Int)).toNat = k := by
  rw [at_zero, Int.zero_add, show ((i : Int) + (k : Int)).toNat = i + k from rfl]
  omega
section
theorem sp_places {w mg mb mean s} {l l' : Addr} {vs vs' : List Value} {ns ns' : List Int} (hl : s.heap.IsList l vs.toArray) (hi : IntsAre vs ns) (hl' : s.heap.IsList l' vs'.toArray) (hi' : IntsAre vs' ns') (hn : ns.length < 1000) (hn' : ns'.length < 1000) : Okc w mg mb mean 150 [.ref l, .ref l'] 12 s (RL s (placesF ns ns' (ns.length + 1 - ns'.length))) := by
  k_with_none
  k_with "execs cons" => first | k_fold | fail
  k_with "spliced" => first | (k_here; (with_reducible show wpAny _ _ (spliced (backTo _ (starEach (_ :: _ :: _) _))) _ _ _); (with_reducible refine spliced_consts (by with_unfolding_all rfl) ?_); intro f0 t0; dsimp only [valsF, Nat.reduceAdd]) | fail
  k_with "FinE" => first | (k_dflt (intro D0' h0' tk0' F0' N0' o0'); (have o0' := off_ne o0'); (try simp only [List.cons_append, List.nil_append, List.map_cons, List.map_nil] at N0' o0'); (try dsimp only); (try k_fold)) | fail
  k_with "FinA" => first | (k_dflt (intro D0' h0' tk0' F0' N0' o0'); (have o0' := off_ne o0'); (try simp only [List.cons_append, List.nil_append, List.map_cons, List.map_nil] at N0' o0'); (try dsimp only); (try k_fold)) | fail
  k_with "LeaveS" => first | (refine leaveS_ (by assumption) ?_; (try dsimp only)) | fail
  k_with "binaryOp RShift int int" => first | (k_here; (with_reducible refine rshift_int (by decide) ?_)) | fail
  k_with "eval ListComp" => first | (k_here; k_dflt (refine LCt.ListComp_T (F₀ := by k_asm) (by with_unfolding_all rfl) (by decide) (by rfl) (by decide) (by rfl) ?_)) | fail
  k_with "CompSrcT" => first | (refine Halt.mk ?_) | fail
  k_with "subscriptTail Name Slice ref ref" => first | (k_here; (with_reducible show wpAny _ _ (subscriptTail _ (PySem.Expr.Slice _ _ none _) (Value.ref _) (Value.ref _)) _ _ _); k_dflt (refine kmk_slice_ints (by k_asm) (by k_asm) (by kmk_list) (by kmk_part) (by kmk_part) (by l_ints) (by first | exact kmk_run (by l_ints) (by omega) (by omega) | kmk_nums) (by kmk_len) ?_ (by with_unfolding_all rfl) (by kmk_pure) (by kmk_size)); intro D' ws' h' F' N' l1 hI' hC' hL'; (try simp only [Int.reduceNeg, Int.neg_neg, Int.reduceToNat] at hI' hC' hL'); (try k_lt l1); (try k_sweep)) | fail
  unfold Okc
  k_fill
  intro dp un gd cn cs a ccd cl outer A₀ base h₀ L m Q E B F X T hk hd hu hret
  w_top on
  refine wpAny_call ?_
  k_dflt (refine' enterC ?k1 ?k2 ?k3 ?k5 ?kA ?kF ?kK ?k6 ?k7 ?k8 ?k9 ?kB ?kD ?_ ?c2 ?c3 ?c4; (case kA => exact rfl); (case kF => exact rfl); (case kK => assumption); (case k1 => k_asm); (case k2 => k_asm); (case k3 => k_asm); (case k5 => k_asm); (case k6 => k_is); (case k7 => k_is); (case k8 => ktr_room); (case k9 => exact BindsTo.of_eq rfl); (case kB => exact rfl); (case kD => decide +kernel); (case c2 => exact rfl); (case c3 => exact rfl); (case c4 => exact rfl); k_whole; intro L' h' tk' cells' F' N' Y' B' X' T'; k_cells Y'; (try simp only [List.cons_append, List.nil_append, List.append_nil] at N'); (try dsimp only); (try k_fold))
  clear B F X T hk
  (try k_fold); repeat' (first | (k_unfold; (try dsimp only)) | walk1 | (dsimp only; walk1))
  refine Halt.out ?_
  refine LCt.CompSrcT.range (n := ns.length + 1 - ns'.length) (by rfl) (by k_asm) (by k_asm) (by assumption) ?_ ?_ ?_ ?_
  · exact small_one (by omega) (by omega) (by omega) (by omega)
  · rw [rangeSize_nat]; omega
  · rw [PySem.sizeLine_eq]; omega
  · intro g
    refine restT_fix (fun i ys => IntsAre ys (placesF ns ns' i)) trivial IntsAre.nil ?_ ?_
    · rintro i v I oI C oC D m₂ h tk E' ys hi1 hJ ⟨t, rfl⟩ hC hx F N off ne
      clear off ne
      have e1 := at_len hi1
      have e2 : (0 + (i : Int)).toNat = i := at_zero i
      (try k_fold); repeat' (first | (k_unfold; (try dsimp only)) | walk1 | (dsimp only; walk1))
      · refine EndS.intro (by assumption) (by assumption) (fun p hp => .tail _ hp) ?_
        rename List.take _ _ = ns' => hq
        rw [e1, e2] at hq
        rw [placesF_hit hq]
        rw [Int.zero_add]
        exact IntsAre.append hJ (IntsAre.cons _ _ IntsAre.nil)
      · refine EndS.intro (by assumption) (by assumption) (fun p hp => .tail _ hp) ?_
        rename ¬ List.take _ _ = ns' => hq
        rw [e1, e2] at hq
        rw [placesF_miss hq]
        exact hJ
    · intro ys hJ
      (try k_fold); repeat' (first | (k_unfold; (try dsimp only)) | walk1 | (dsimp only; walk1))
      refine hret _ _ _ (Fr.keep (by assumption)) ⟨_, _, _, rfl, News.get (by assumption) (List.Mem.head _), ?_, News.fresh (by assumption) (List.Mem.head _)⟩
      exact hJ
end
end
section
/-! L5 -/
theorem ordL_same : ∀ (x a b : List Int), ordL (x ++ a) (x ++ b) = ordL a b
  | [], _, _ => rfl
  | y :: x, a, b => by
    show (if y < y then (-1 : Int) else if y < y then 1 else ordL (x ++ a) (x ++ b)) = _
    rw [if_neg (by omega), if_neg (by omega)]
    exact ordL_same x a b
theorem u8_cons (c : Int) : ∃ b r, u8 c = b :: r := by
  unfold u8
  (repeat' split) <;> exact ⟨_, _, rfl⟩
theorem ordL_one {x y : Int} (h : x < y) (r t : List Int) : ordL (x :: r) (y :: t) = -1 := by
  show (if x < y then (-1 : Int) else _) = _
  rw [if_pos h]
theorem ordL_eqc {x : Int} (r t : List Int) : ordL (x :: r) (x :: t) = ordL r t := ordL_same [x] r t
theorem ordL_neg : ∀ (a b : List Int), ordL b a = - ordL a b
  | [], [] => rfl
  | [], _ :: _ => rfl
  | _ :: _, [] => rfl
  | x :: a, y :: b => by
    show (if y < x then (-1 : Int) else if x < y then 1 else ordL b a) = -(if x < y then (-1 : Int) else if y < x then 1 else ordL a b)
    rw [ordL_neg a b]
    by_cases h : x < y
    · rw [if_pos h, if_pos h, if_neg (by omega)]; rfl
    · rw [if_neg h, if_neg h]
      split <;> rfl
theorem two_lt {b p q : Int} (h : p < q) (r t : List Int) : ordL ((b + p / 64) :: (128 + p % 64) :: r) ((b + q / 64) :: (128 + q % 64) :: t) = -1 := by
  by_cases e : p / 64 = q / 64
  · rw [e, ordL_eqc]; exact ordL_one (by omega) _ _
  · exact ordL_one (by omega) _ _
theorem three_lt {b p q : Int} (h : p < q) (r t : List Int) : ordL ((b + p / 4096) :: (128 + p / 64 % 64) :: (128 + p % 64) :: r) ((b + q / 4096) :: (128 + q / 64 % 64) :: (128 + q % 64) :: t) = -1 := by
  have e1 : ∀ x : Int, x / 4096 = x / 64 / 64 := fun x => by omega
  rw [e1 p, e1 q]
  by_cases e : p / 64 = q / 64
  · rw [e, ordL_eqc, ordL_eqc]; exact ordL_one (by omega) _ _
  · exact two_lt (by omega) _ _
theorem four_lt {b p q : Int} (h : p < q) (r t : List Int) : ordL ((b + p / 262144) :: (128 + p / 4096 % 64) :: (128 + p / 64 % 64) :: (128 + p % 64) :: r) ((b + q / 262144) :: (128 + q / 4096 % 64) :: (128 + q / 64 % 64) :: (128 + q % 64) :: t) = -1 := by
  have e1 : ∀ x : Int, x / 4096 = x / 64 / 64 := fun x => by omega
  have e2 : ∀ x : Int, x / 262144 = x / 64 / 4096 := fun x => by omega
  rw [e1 p, e1 q, e2 p, e2 q]
  by_cases e : p / 64 = q / 64
  · rw [e, ordL_eqc, ordL_eqc, ordL_eqc]; exact ordL_one (by omega) _ _
  · exact three_lt (by omega) _ _
/-- the first octet, and the class it tells -/
theorem u8_head {p : Int} (h0 : 0 ≤ p) (h1 : p < 1114112) : ∃ x t, u8 p = x :: t ∧ ((p < 128 ∧ x < 128) ∨ (128 ≤ p ∧ p < 2048 ∧ 192 ≤ x ∧ x < 224) ∨ (2048 ≤ p ∧ p < 65536 ∧ 224 ≤ x ∧ x < 240) ∨ (65536 ≤ p ∧ 240 ≤ x)) := by
  by_cases q1 : p < 128
  · exact ⟨_, _, u8_1 q1, .inl ⟨q1, q1⟩⟩
  by_cases q2 : p < 2048
  · exact ⟨_, _, u8_2 q1 q2, .inr (.inl (by omega))⟩
  by_cases q3 : p < 65536
  · exact ⟨_, _, u8_3 q2 q3, .inr (.inr (.inl (by omega)))⟩
  · exact ⟨_, _, u8_4 q3, .inr (.inr (.inr (by omega)))⟩
theorem ord_lt {p q : Int} (h0 : 0 ≤ p) (h1 : q < 1114112) (h : p < q) (r r' : List Int) : ordL (u8 p ++ r) (u8 q ++ r') = -1 := by
  have far : (p < 128 ∧ ¬ q < 128) ∨ (p < 2048 ∧ ¬ q < 2048) ∨ (p < 65536 ∧ ¬ q < 65536) → ordL (u8 p ++ r) (u8 q ++ r') = -1 := by
    intro hf
    obtain ⟨x, t, e, hx⟩ := u8_head h0 (by omega : p < 1114112)
    obtain ⟨y, t', e', hy⟩ := u8_head (by omega : 0 ≤ q) h1
    rw [e, e']
    exact ordL_one (by omega) _ _
  by_cases q1 : q < 128
  · rw [u8_1 q1, u8_1 (by omega : p < 128)]; exact ordL_one h _ _
  by_cases p1 : p < 128
  · exact far (.inl ⟨p1, q1⟩)
  by_cases q2 : q < 2048
  · rw [u8_2 q1 q2, u8_2 p1 (by omega)]; exact two_lt h _ _
  by_cases p2 : p < 2048
  · exact far (.inr (.inl ⟨p2, q2⟩))
  by_cases q3 : q < 65536
  · rw [u8_3 q2 q3, u8_3 p2 (by omega)]; exact three_lt h _ _
  by_cases p3 : p < 65536
  · exact far (.inr (.inr ⟨p3, q3⟩))
  · rw [u8_4 q3, u8_4 p3]; exact four_lt h _ _
theorem ord_gt {p q : Int} (h0 : 0 ≤ q) (h1 : p < 1114112) (h : q < p) (r r' : List Int) : ordL (u8 p ++ r) (u8 q ++ r') = 1 := by
  rw [ordL_neg, ord_lt h0 h1 h]; rfl
/-- octets stand in the points' sequence -/
theorem ord_flat : ∀ (a b : List Int), (∀ p ∈ a, 0 ≤ p ∧ p < 1114112) → (∀ p ∈ b, 0 ≤ p ∧ p < 1114112) → ordL (a.flatMap u8) (b.flatMap u8) = ordL a b
  | [], [], _, _ => rfl
  | [], q :: b, _, _ => by
    obtain ⟨x, r, e⟩ := u8_cons q
    rw [List.flatMap_cons, e]; rfl
  | p :: a, [], _, _ => by
    obtain ⟨x, r, e⟩ := u8_cons p
    rw [List.flatMap_cons, e]; rfl
  | p :: a, q :: b, ha, hb => by
    have h1 := ha p (List.mem_cons_self ..)
    have h2 := hb q (List.mem_cons_self ..)
    rw [List.flatMap_cons, List.flatMap_cons]
    conv => rhs; unfold ordL
    by_cases e1 : p < q
    · rw [if_pos e1, ord_lt h1.1 h2.2 e1]
    · by_cases e2 : q < p
      · rw [if_neg e1, if_pos e2, ord_gt h2.1 h1.2 e2]
      · obtain rfl : p = q := by omega
        rw [if_neg e1, if_neg e1, ordL_same]
        exact ord_flat a b (fun x hx => ha x (List.mem_cons_of_mem _ hx)) fun x hx => hb x (List.mem_cons_of_mem _ hx)
theorem u8_pre {p c : Int} (h0 : 0 ≤ p) (h1 : p < 1114112) (g0 : 0 ≤ c) (g1 : c < 1114112) {t t' : List Int} (h : u8 p ++ t = u8 c ++ t') : p = c := by
  have same : ordL (u8 c ++ t') (u8 c ++ t') = 0 := by
    have := ordL_same (u8 c ++ t') [] []
    rw [List.append_nil] at this
    exact this
  rcases Int.lt_trichotomy p c with x | x | x
  · have := ord_lt h0 g1 x t t'
    rw [h, same] at this; cases this
  · exact x
  · have := ord_gt g0 h1 x t t'
    rw [h, same] at this; cases this
theorem hit_iff {p c : Int} (h0 : 0 ≤ p) (h1 : p < 1114112) (g0 : 0 ≤ c) (g1 : c < 1114112) (t : List Int) : (u8 p ++ t).take (u8 c).length = u8 c ↔ p = c := by
  constructor
  · intro h
    refine u8_pre h0 h1 g0 g1 (t := t) (t' := (u8 p ++ t).drop (u8 c).length) ?_
    conv => rhs; lhs; rw [← h]
    rw [List.take_append_drop]
  · rintro rfl
    exact List.take_left' rfl
theorem u8_first {c : Int} (g0 : 0 ≤ c) (g1 : c < 1114112) : ∃ b r, u8 c = b :: r ∧ (b < 128 ∨ 192 ≤ b) := by
  unfold u8
  (repeat' split) <;> exact ⟨_, _, rfl, by omega⟩
theorem u8_next {p : Int} (g0 : 0 ≤ p) (g1 : p < 1114112) {i : Nat} (h : 0 < i) (h2 : i < (u8 p).length) : ∃ b r, (u8 p).drop i = b :: r ∧ 128 ≤ b ∧ b < 192 := by
  by_cases q1 : p < 128
  · rw [u8_1 q1] at h2
    simp only [List.length_cons, List.length_nil] at h2
    omega
  by_cases q2 : p < 2048
  · rw [u8_2 q1 q2] at h2 ⊢
    simp only [List.length_cons, List.length_nil] at h2
    obtain rfl : i = 1 := by omega
    exact ⟨_, _, rfl, by omega⟩
  by_cases q3 : p < 65536
  · rw [u8_3 q2 q3] at h2 ⊢
    simp only [List.length_cons, List.length_nil] at h2
    have : i = 1 ∨ i = 2 := by omega
    rcases this with rfl | rfl <;> exact ⟨_, _, rfl, by omega⟩
  · rw [u8_4 q3] at h2 ⊢
    simp only [List.length_cons, List.length_nil] at h2
    have : i = 1 ∨ i = 2 ∨ i = 3 := by omega
    rcases this with rfl | rfl | rfl <;> exact ⟨_, _, rfl, by omega⟩
theorem no_mid {p c : Int} (h0 : 0 ≤ p) (h1 : p < 1114112) (g0 : 0 ≤ c) (g1 : c < 1114112) (t : List Int) {i : Nat} (h : 0 < i) (h2 : i < (u8 p).length) : ¬ ((u8 p ++ t).drop i).take (u8 c).length = u8 c := by
  intro e
  obtain ⟨b, r, e1, hb⟩ := u8_first g0 g1
  obtain ⟨d, q, e2, hd⟩ := u8_next h0 h1 h h2
  rw [List.drop_append_of_le_length (by omega), e2, e1] at e
  simp only [List.length_cons, List.cons_append, List.take_succ_cons, List.cons.injEq] at e
  omega
noncomputable def hitsL (ns ms : List Int) (n : Nat) : List Nat := (List.range n).filter fun i => decide ((ns.drop i).take ms.length = ms)
theorem range_split (a b : Nat) : List.range (a + b) = List.range a ++ (List.range b).map (a + ·) := List.range_add
/-- a sign's octets begin just where the sign stands -/
theorem hits_flat {c : Int} (g0 : 0 ≤ c) (g1 : c < 1114112) : ∀ (a : List Int), (∀ p ∈ a, 0 ≤ p ∧ p < 1114112) →
    hitsL (a.flatMap u8) (u8 c) (a.flatMap u8).length = ((List.range a.length).filter fun k => decide (a.getD k 0 = c)).map (offs a)
  | [], _ => rfl
  | p :: a, h => by
    have hp := h p (List.mem_cons_self ..)
    have ih := hits_flat g0 g1 a fun x hx => h x (List.mem_cons_of_mem _ hx)
    rw [List.flatMap_cons]
    generalize ht : a.flatMap u8 = t at ih ⊢
    have hlen := (u8_len p).1
    unfold hitsL
    rw [List.length_append, range_split, List.filter_append, List.length_cons]
    have e1 : (List.range (u8 p).length).filter (fun i => decide (((u8 p ++ t).drop i).take (u8 c).length = u8 c)) = if p = c then [0] else [] := by
      obtain ⟨k, hk⟩ : ∃ k, (u8 p).length = k + 1 := ⟨(u8 p).length - 1, by omega⟩
      rw [hk, List.range_succ_eq_map, List.filter_cons]
      have e2 : (List.filter (fun i => decide (((u8 p ++ t).drop i).take (u8 c).length = u8 c)) (List.map Nat.succ (List.range k))) = [] := by
        rw [List.filter_eq_nil_iff]
        intro i hi
        obtain ⟨j, hj, rfl⟩ := List.mem_map.mp hi
        rw [List.mem_range] at hj
        have := no_mid hp.1 hp.2 g0 g1 t (i := j + 1) (by omega) (by omega)
        simpa using this
      rw [e2]
      simp only [List.drop_zero, hit_iff hp.1 hp.2 g0 g1 t]
      split <;> rename_i hq
      · rw [if_pos (of_decide_eq_true hq)]
      · rw [if_neg (fun e => hq (decide_eq_true e))]
    have e3 : ((List.range t.length).map ((u8 p).length + ·)).filter (fun i => decide (((u8 p ++ t).drop i).take (u8 c).length = u8 c)) = ((List.range a.length).filter fun k => decide (a.getD k 0 = c)).map (fun k => (u8 p).length + offs a k) := by
      rw [List.filter_map]
      have e4 : ((fun i => decide (((u8 p ++ t).drop i).take (u8 c).length = u8 c)) ∘ ((u8 p).length + ·)) = fun i => decide ((t.drop i).take (u8 c).length = u8 c) := by
        funext i
        simp only [Function.comp]
        rw [List.drop_append, List.drop_eq_nil_of_le (by omega), List.nil_append, show (u8 p).length + i - (u8 p).length = i by omega]
      rw [e4]
      unfold hitsL at ih
      rw [ih, List.map_map]
      rfl
    rw [e1, e3, List.range_succ_eq_map, List.filter_cons]
    have e5 : (List.map Nat.succ (List.range a.length)).filter (fun k => decide ((p :: a).getD k 0 = c)) = ((List.range a.length).filter fun k => decide (a.getD k 0 = c)).map Nat.succ := by
      rw [List.filter_map]
      rfl
    rw [e5]
    have e6 : ∀ k, offs (p :: a) (k + 1) = (u8 p).length + offs a k := by
      intro k; unfold offs; simp
    simp only [List.getD_cons_zero]
    by_cases hq : p = c
    · rw [if_pos hq, if_pos (by simpa using hq), List.map_cons, List.map_map]
      show 0 :: _ = offs (p :: a) 0 :: _
      congr 1
      exact List.map_congr_left fun k _ => (e6 k).symm
    · rw [if_neg hq, if_neg (by simpa using hq), List.map_map]
      exact List.map_congr_left fun k _ => (e6 k).symm
theorem hits_short {ns ms : List Int} (h : 0 < ms.length) : hitsL ns ms (ns.length + 1 - ms.length) = hitsL ns ms ns.length := by
  unfold hitsL
  have e : ns.length = (ns.length + 1 - ms.length) + (ns.length - (ns.length + 1 - ms.length)) := by omega
  conv => rhs; rw [e, range_split, List.filter_append]
  have e2 : ((List.range (ns.length - (ns.length + 1 - ms.length))).map ((ns.length + 1 - ms.length) + ·)).filter (fun i => decide ((ns.drop i).take ms.length = ms)) = [] := by
    rw [List.filter_eq_nil_iff]
    intro i hi
    obtain ⟨j, hj, rfl⟩ := List.mem_map.mp hi
    rw [List.mem_range] at hj
    intro e
    have := congrArg List.length (of_decide_eq_true e)
    rw [List.length_take, List.length_drop] at this
    omega
  rw [e2, List.append_nil]
/-- the places where a sign stands, each its first octet's place -/
noncomputable def dueF (a : List Int) (c : Int) (n : Nat) : List Int := ((List.range n).filter fun k => decide (a.getD k 0 = c)).map fun k => (offs a k : Int)
theorem places_due {a : List Int} {c : Int} (ha : ∀ p ∈ a, 0 ≤ p ∧ p < 1114112) (g0 : 0 ≤ c) (g1 : c < 1114112) :
    placesF (a.flatMap u8) (u8 c) ((a.flatMap u8).length + 1 - (u8 c).length) = dueF a c a.length := by
  have h := (u8_len c).1
  have e : placesF (a.flatMap u8) (u8 c) ((a.flatMap u8).length + 1 - (u8 c).length) = (hitsL (a.flatMap u8) (u8 c) ((a.flatMap u8).length + 1 - (u8 c).length)).map fun (i : Nat) => (i : Int) := rfl
  rw [e, hits_short (by omega), hits_flat g0 g1 a ha, List.map_map]
  rfl
theorem dueF_hit {a : List Int} {c : Int} {n : Nat} (h : a.getD n 0 = c) : dueF a c (n + 1) = dueF a c n ++ [(offs a n : Int)] := by
  unfold dueF; rw [List.range_succ, List.filter_append, List.map_append]; simp only [List.filter_cons, decide_eq_true h, if_true, List.filter_nil, List.map_cons, List.map_nil]
theorem dueF_miss {a : List Int} {c : Int} {n : Nat} (h : ¬ a.getD n 0 = c) : dueF a c (n + 1) = dueF a c n := by
  unfold dueF; rw [List.range_succ, List.filter_append, List.map_append]; simp only [List.filter_cons, decide_eq_false h, Bool.false_eq_true, if_false, List.filter_nil, List.map_nil, List.append_nil]
end
section
/-! LL -/
/-- lists of ints, each at an address of its own among what was made -/
noncomputable def PAre (ys : List Value) (nw : List (Addr × Obj)) (nss : List (List Int)) : Prop :=
  ys.length = nss.length ∧ ∀ (i : Nat) (v : Value), ys[i]? = some v → ∃ (ns : List Int) (a : Addr) (us : List Value) (c : Nat), nss[i]? = some ns ∧ v = .ref a ∧ (a, listOf us.toArray c) ∈ nw ∧ IntsAre us ns
theorem PAre.nil : PAre [] [] [] := ⟨rfl, fun _ _ h => by simp at h⟩
theorem PAre.snoc {ys : List Value} {nw : List (Addr × Obj)} {nss : List (List Int)} {a : Addr} {us : List Value} {c : Nat} {ns : List Int} (h : PAre ys nw nss) (hi : IntsAre us ns) :
    PAre (ys ++ [.ref a]) (nw ++ [(a, listOf us.toArray c)]) (nss ++ [ns]) := by
  refine ⟨by simp [h.1], fun i v hv => ?_⟩
  by_cases q : i < ys.length
  · rw [List.getElem?_append_left q] at hv
    obtain ⟨ns', a', us', c', e1, e2, e3, e4⟩ := h.2 i v hv
    exact ⟨ns', a', us', c', by rw [List.getElem?_append_left (by rw [← h.1]; exact q)]; exact e1, e2, List.mem_append_left _ e3, e4⟩
  · have hl : i < (ys ++ [Value.ref a]).length := by
      obtain ⟨hl, _⟩ := List.getElem?_eq_some_iff.mp hv
      exact hl
    have e : i = ys.length := by simp at hl; omega
    subst e
    have hv2 : v = .ref a := by simpa using hv.symm
    refine ⟨ns, a, us, c, ?_, hv2, List.mem_append_right _ (List.Mem.head _), hi⟩
    rw [h.1]; simp
theorem PAre.mono {ys : List Value} {nw nw' : List (Addr × Obj)} {nss : List (List Int)} (h : PAre ys nw nss) (sub : ∀ p ∈ nw, p ∈ nw') : PAre ys nw' nss :=
  ⟨h.1, fun i v hv => let ⟨ns, a, us, c, e1, e2, e3, e4⟩ := h.2 i v hv; ⟨ns, a, us, c, e1, e2, sub _ e3, e4⟩⟩
section
variable {prog : Program} {w : World} {A : Around} {E : Value → Shared → Prop} {s : Shared} {h₀ : Heap} {L : Addr} {m : Str → Option Value} {env : Env}
/-- where a turn's element ends, a list made in it -/
noncomputable def EndL (h₀ : Heap) (L : Addr) (m : Str → Option Value) (s : Shared) (keep : List (Addr × Obj)) (ns : List Int) (y : Value) (s' : Shared) : Prop :=
  ∃ h' tk' all a us c, s' = { s with heap := h', toks := tk' } ∧ Fr h₀ L h' m ∧ News h₀ L h' all ∧ (∀ p ∈ keep, p ∈ all) ∧ (a, listOf us.toArray c) ∈ all ∧ (∀ p ∈ keep, p.1 ≠ a) ∧ y = .ref a ∧ IntsAre us ns
theorem EndL.intro {keep all : List (Addr × Obj)} {ns : List Int} {h' : Heap} {tk' : Nat} {a : Addr} {us : List Value} {c : Nat} (F : Fr h₀ L h' m) (N : News h₀ L h' all) (sub : ∀ p ∈ keep, p ∈ all) (hm : (a, listOf us.toArray c) ∈ all) (off : ∀ p ∈ keep, p.1 ≠ a) (hi : IntsAre us ns) :
    EndL h₀ L m s keep ns (.ref a) { s with heap := h', toks := tk' } := ⟨h', tk', all, a, us, c, rfl, F, N, sub, hm, off, rfl, hi⟩
theorem rest_lists {elt : Expr} {x : Str} {scope : Scope} {cl : List (Str × Addr)} {S : List (Addr × Obj) → Prop} {Fin : List Value → List (Addr × Obj) → Prop} {vs : List Value} {ps : List Int} {news : List (Addr × Obj)} (g : Int → List Int)
    (hi : IntsAre vs ps) (hS : ∀ nw, S nw)
    (turn : ∀ k t I oI C oC D m₂ h tk (E' : Value → Shared → Prop) ys nw, k ∈ ps → LCg.NsObj oC m₂ → m₂ x = some (.int k t) → Fr h₀ L h m → News h₀ L h ((I, oI) :: (C, oC) :: (D, LCg.lst ys) :: nw) →
      wpAny (model prog w) A (eval elt (compEnvC scope cl C env)) (EndL h₀ L m { s with heap := h, toks := tk } ((I, oI) :: (C, oC) :: (D, LCg.lst ys) :: nw) (g k)) E' { s with heap := h, toks := tk })
    (fin : ∀ ys pn, PAre ys pn (ps.map g) → OwnOff pn (news.map (·.1)) → Fin ys (news ++ pn)) : LCg.CompRest prog w A h₀ L m env elt x scope cl s S (fun i v => vs.toArray[i]? = some v) Fin vs.toArray.size 0 [] news := by
  rw [show vs.toArray.size = ps.length by rw [List.size_toArray]; exact hi.length]
  refine rest_inv (fun i ys nw => ∃ pn, nw = news ++ pn ∧ PAre ys pn ((ps.take i).map g) ∧ OwnOff pn (news.map (·.1))) ⟨[], by simp, PAre.nil, fun _ h => nomatch h⟩ ?_ ?_
  · rintro i v I oI C oC D m₂ h tk E' ys nw hi1 ⟨pn, rfl, hP, hO⟩ hv hC hx F N off ne
    obtain ⟨k, t, rfl, hk⟩ := ints_at hi hv
    refine wpAny_mono (turn k t I oI C oC D m₂ h tk E' ys _ (List.mem_of_getElem? hk) hC hx F N) (fun y s₂ hq => ?_) fun _ _ e => e
    obtain ⟨h', tk', all, a, us, c, rfl, F', N', sub, hm, offa, rfl, hu⟩ := hq
    refine LCg.CompEnd.intro F' N' (news ++ (pn ++ [(a, listOf us.toArray c)])) (fun p hp => ?_) ?_ (hS _) ⟨_, rfl, ?_, ?_⟩
    · rcases List.mem_cons.mp hp with rfl | hp
      · exact sub _ (List.Mem.head _)
      · rcases List.mem_cons.mp hp with rfl | hp
        · exact sub _ (.tail _ (List.Mem.head _))
        · rcases List.mem_cons.mp hp with rfl | hp
          · exact sub _ (.tail _ (.tail _ (List.Mem.head _)))
          · rw [← List.append_assoc] at hp
            rcases List.mem_append.mp hp with hp | hp
            · exact sub _ (.tail _ (.tail _ (.tail _ hp)))
            · rw [List.mem_singleton.mp hp]; exact hm
    · refine LCg.Off3.of fun p hp => ?_
      rw [← List.append_assoc] at hp
      rcases List.mem_append.mp hp with hp | hp
      · exact LCg.Off3.mem off p hp
      · rw [List.mem_singleton.mp hp]
        exact ⟨(offa (I, oI) (List.Mem.head _)).symm, (offa (C, oC) (.tail _ (List.Mem.head _))).symm, (offa (D, LCg.lst ys) (.tail _ (.tail _ (List.Mem.head _)))).symm⟩
    · rw [List.take_add_one, hk, List.map_append]
      exact hP.snoc hu
    · intro p hp b hb
      rcases List.mem_append.mp hp with hp | hp
      · exact hO p hp b hb
      · rw [List.mem_singleton.mp hp]
        obtain ⟨q, hq, rfl⟩ := List.mem_map.mp hb
        exact (offa q (.tail _ (.tail _ (.tail _ (List.mem_append_left _ hq))))).symm
  · rintro ys nw ⟨pn, rfl, hP, hO⟩
    rw [List.take_length] at hP
    exact fin ys pn hP hO
end
end
section
/-! LP -/
/-- [z for x in iter for z in x] -/
abbrev two (z x : Str) (pe pz px px2 : Pos) (iter : Expr) (scope : Scope) (pos : Pos) : Expr :=
  .ListComp (.Name z pe) [⟨.Name x px, iter, [], 0⟩, ⟨.Name z pz, .Name x px2, [], 0⟩] scope pos
section
variable {z x : Str} {pe pz px px2 : Pos} {iter : Expr} {scope : Scope} {pos : Pos} {it acc : Value} {env : Env}
theorem turn_in : compTurn (two z x pe pz px px2 iter scope pos) 1 it acc env = (standAt (Expr.Name x px2).pos >>= fun _ => pyNext it >>= fun r => match r with
    | none => pure (.done .next)
    | some v => letOwnedTupleGo (.Name z pz) it v >>= fun _ => assign (.Name z pz) env v >>= fun _ => (eval (.Name z pe) env >>= fun y => call (.builtin "list.append") [acc, y] >>= fun _ => pure ()) >>= fun _ =>
      again (.compLoop (two z x pe pz px px2 iter scope pos) 1 it acc env)) := by rfl
theorem turn_out : compTurn (two z x pe pz px px2 iter scope pos) 0 it acc env = (standAt iter.pos >>= fun _ => pyNext it >>= fun r => match r with
    | none => pure (.done .next)
    | some v => letOwnedTupleGo (.Name x px) it v >>= fun _ => assign (.Name x px) env v >>= fun _ =>
      eval (.Name x px2) env >>= fun y => standAt (Expr.Name x px2).pos >>= fun _ => foldedSetIterable (.Name x px2) env y >>= fun y => holding [y] (pyIter y) >>= fun i => runOwn (.compStart (two z x pe pz px px2 iter scope pos) 1 i acc env) env >>= fun _ =>
      again (.compLoop (two z x pe pz px px2 iter scope pos) 0 it acc env)) := by rfl
variable {prog : Program} {w : World} {A : Around} {E : Value → Shared → Prop} {R : Result → Shared → Prop} {s : Shared}
theorem start_in (h0 : ∀ it', (it' = it) → codeAny (model prog w) A (.compLoop (two z x pe pz px px2 iter scope pos) 1 it' acc env) R s)
    (h : ∀ Q E', Q it s → wpAny (model prog w) A (pyIter it) Q E' s) : codeAny (model prog w) A (.compStart (two z x pe pz px px2 iter scope pos) 1 it acc env) R s := by
  refine codeAny_of_tree ?_
  show wpAny _ _ ((compStart (two z x pe pz px px2 iter scope pos) 1 it acc env).onRaise (fun x => do noteFrame x env; standAt theWindowsPlace)) _ _ s
  refine wpAny_notedAt ?_
  unfold compStart
  show wpAny _ _ (ask >>= _) _ _ s
  refine wpAny_bind (wpAny_askSetting (wpAny_ite ?_))
  split
  · first
      | exact wpAny_bind (wpAny_pure (wpAny_pure (And.intro rfl (h0 _ rfl))))
      | exact wpAny_pure (And.intro rfl (h0 _ rfl))
  · first
      | exact wpAny_bind (wpAny_rule (wpAny_bind (wpAny_standAt (wpAny_bind (h _ _ (wpAny_pure (And.intro rfl (h0 _ rfl))))))))
      | (refine wpAny_bind (wpAny_rule ?_); show wpAny _ _ (standAt _ >>= _) _ _ s; exact wpAny_bind (wpAny_standAt (wpAny_bind (h _ _ (wpAny_pure (And.intro rfl (h0 _ rfl)))))))

variable {cl : List (Str × Addr)}
/-- the inner loop: the items of one list, each appended -/
theorem loop_in {C D I b : Addr} {us ys : List Value} {cb : Nat} {m : Str → Option Value} (hh : A.handled = none) (hkind : scope.kind = .function) (hz : scope.names.lookup z = some .local) (hdb : (z == ("__debug__" : Str)) = false)
    (hb : s.heap.get? b = some (listOf us.toArray cb)) (hI : s.heap.IsListIter I b 0) (hC : s.heap.Ns C m) (hD : s.heap.get? D = some (LCg.lst ys)) (d1 : I ≠ C) (d2 : I ≠ D) (d3 : C ≠ D) (d4 : b ≠ I) (d5 : b ≠ C) (d6 : b ≠ D) (hfit : (ys ++ us).length ≤ sizeLine)
    (hR : ∀ h' tk m', h'.Ns C m' → h'.get? D = some (LCg.lst (ys ++ us)) → (∀ a o, a ≠ I → a ≠ C → a ≠ D → s.heap.get? a = some o → h'.get? a = some o) → R (.ok .next) { s with heap := h', toks := tk }) :
    codeAny (model prog w) A (.compLoop (two z x pe pz px px2 iter scope pos) 1 (.ref I) (.ref D) (compEnvC scope cl C env)) R s := by
  have W := Walks.list (prog := prog) (w := w) hh I b d4 us.toArray
  refine codeAny_loop rfl (fun k s' => ∃ h' tk j m', s' = { s with heap := h', toks := tk } ∧ j ≤ us.length ∧ k = us.length + 1 - j ∧ (h'.IsListIter I b j ∧ h'.IsList b us.toArray) ∧ h'.Ns C m' ∧ h'.get? D = some (LCg.lst (ys ++ us.take j)) ∧
      ∀ a o, a ≠ I → a ≠ C → a ≠ D → s.heap.get? a = some o → h'.get? a = some o) (fun k s' hk => ?_) (us.length + 1)
    ⟨s.heap, s.toks, 0, m, rfl, Nat.zero_le _, rfl, ⟨hI, _, hb, rfl, _, rfl⟩, hC, by simpa using hD, fun _ _ _ _ _ e => e⟩
  obtain ⟨h', tk, j, m', rfl, hj, rfl, st, hn, hD', old⟩ := hk
  show wpAny _ A ((compTurn (two z x pe pz px px2 iter scope pos) 1 (.ref I) (.ref D) (compEnvC scope cl C env)).onRaise (fun x => do noteFrame x (compEnvC scope cl C env); theTreesLotGoes x)) _ _ _
  refine wpAny_noted ?_
  rw [turn_in]
  refine wpAny_bind (wpAny_standAt (wpAny_bind ?_))
  by_cases hlt : j < us.length
  · refine W.item j _ _ _ (by simpa using hlt) st fun v h₂ tk₂ hv st₂ hk₂ => ?_
    have hv' : us[j]? = some v := by simpa using hv
    refine wpAny_bind (wpAny_of_eq (a := ()) rfl ?_)
    refine wpAny_bind (wpAny_assign_Name (wpAny_storeName_local (m := m') (lookup_relabel_local hz) (hn.at' fun o e => hk₂ _ o (by simpa using Ne.symm d1) e) (fun h₃ hn₃ hs₃ => ?_) (by simp [compEnvC, relabel, hkind])))
    have hs3 : ∀ a o, a ≠ C → h₂.get? a = some o → h₃.get? a = some o := fun a o q e => hs₃.extBut a o q e
    have zD : h₃.get? D = some (LCg.lst (ys ++ us.take j)) := hs3 _ _ (Ne.symm d3) (hk₂ _ _ (by simpa using Ne.symm d2) hD')
    have st3 : h₃.IsListIter I b (j + 1) ∧ h₃.IsList b us.toArray := ⟨st₂.1.at fun o e => hs3 _ _ d1 e, st₂.2.at fun o e => hs3 _ _ d5 e⟩
    refine wpAny_bind (wpAny_bind (wpAny_Name (wpAny_loadName_local (v := v) (by simp [compEnvC, relabel, hkind]) (lookup_relabel_local hz) hn₃ (by simp) ?_) hdb))
    have hz5 : (ys ++ us.take j).toArray.size ≤ sizeLine := by
      rw [List.size_toArray]
      refine Nat.le_trans ?_ hfit
      simp only [List.length_append, List.length_take]
      omega
    refine wpAny_bind (append_at (hsz := hz5) zD fun h₅ hs₅ hD₅ => wpAny_pure (wpAny_pure ⟨rfl, us.length + 1 - (j + 1), by omega, h₅, _, j + 1, _, rfl, hlt, rfl, ⟨st3.1.at fun o e => hs₅.extBut _ o d2 e, st3.2.at fun o e => hs₅.extBut _ o d6 e⟩, hn₃.at' fun o e => hs₅.extBut _ o d3 e, ?_, fun a o a1 a2 a3 e => ?_⟩))
    · rw [hD₅, List.take_add_one, hv', ← List.append_assoc]
      exact congrArg some (LCg.lst_snoc (ys ++ us.take j) v)
    · exact hs₅.extBut _ o a3 (hs3 _ _ a2 (hk₂ _ _ (by simpa using a1) (old a o a1 a2 a3 e)))
  · obtain rfl : j = us.length := by omega
    have st' : h'.IsListIter I b us.toArray.size ∧ h'.IsList b us.toArray := by simpa using st
    refine W.done _ _ _ st' fun h₂ tk₂ hk₂ => wpAny_pure (hR h₂ tk₂ m' (hn.at' fun o e => hk₂ _ o (by simpa using Ne.symm d1) e) ?_ fun a o a1 a2 a3 e => hk₂ _ _ (by simpa using a1) (old a o a1 a2 a3 e))
    rw [hk₂ _ _ (by simpa using Ne.symm d2) hD', List.take_length]

/-- the outer loop over lists -/
theorem loop_out {C D I P : Addr} {vs : List Value} {uss : List (List Value)} {m : Str → Option Value} (hh : A.handled = none) (hkind : scope.kind = .function) (hz : scope.names.lookup z = some .local) (hx : scope.names.lookup x = some .local) (hdb : (z == ("__debug__" : Str)) = false) (hdx : (x == ("__debug__" : Str)) = false)
    (hl : s.heap.IsList P vs.toArray) (hI : s.heap.IsListIter I P 0) (hC : s.heap.Ns C m) (hD : s.heap.get? D = some (LCg.lst [])) (d1 : I ≠ C) (d2 : I ≠ D) (d3 : C ≠ D) (d4 : P ≠ I) (d5 : P ≠ C) (d6 : P ≠ D) (hlen : vs.length = uss.length)
    (hp : ∀ (i : Nat) (v : Value), vs[i]? = some v → ∃ (us : List Value) (a : Addr) (c : Nat), uss[i]? = some us ∧ v = .ref a ∧ s.heap.get? a = some (listOf us.toArray c) ∧ a ≠ I ∧ a ≠ C ∧ a ≠ D) (hfit : uss.flatten.length ≤ sizeLine)
    (hR : ∀ h' tk m', h'.Ns C m' → h'.get? D = some (LCg.lst uss.flatten) → (∀ a o, a ≠ I → a ≠ C → a ≠ D → s.heap.get? a = some o → h'.get? a = some o) → R (.ok .next) { s with heap := h', toks := tk }) :
    codeAny (model prog w) A (.compLoop (two z x pe pz px px2 iter scope pos) 0 (.ref I) (.ref D) (compEnvC scope cl C env)) R s := by
  have W := Walks.list (prog := prog) (w := w) hh I P d4 vs.toArray
  refine codeAny_loop rfl (fun k s' => ∃ h' tk i m', s' = { s with heap := h', toks := tk } ∧ i ≤ vs.length ∧ k = vs.length + 1 - i ∧ (h'.IsListIter I P i ∧ h'.IsList P vs.toArray) ∧ h'.Ns C m' ∧ h'.get? D = some (LCg.lst (uss.take i).flatten) ∧
      ∀ a o, a ≠ I → a ≠ C → a ≠ D → s.heap.get? a = some o → h'.get? a = some o) (fun k s' hk => ?_) (vs.length + 1)
    ⟨s.heap, s.toks, 0, m, rfl, Nat.zero_le _, rfl, ⟨hI, hl⟩, hC, by simpa using hD, fun _ _ _ _ _ e => e⟩
  obtain ⟨h', tk, i, m', rfl, hi, rfl, st, hn, hD', old⟩ := hk
  show wpAny _ A ((compTurn (two z x pe pz px px2 iter scope pos) 0 (.ref I) (.ref D) (compEnvC scope cl C env)).onRaise (fun x => do noteFrame x (compEnvC scope cl C env); theTreesLotGoes x)) _ _ _
  refine wpAny_noted ?_
  rw [turn_out]
  refine wpAny_bind (wpAny_standAt (wpAny_bind ?_))
  by_cases hlt : i < vs.length
  · refine W.item i _ _ _ (by simpa using hlt) st fun v h₂ tk₂ hv st₂ hk₂ => ?_
    obtain ⟨us, a, c, hu, rfl, ha, a1, a2, a3⟩ := hp i v (by simpa using hv)
    refine wpAny_bind (wpAny_of_eq (a := ()) rfl ?_)
    refine wpAny_bind (wpAny_assign_Name (wpAny_storeName_local (m := m') (lookup_relabel_local hx) (hn.at' fun o e => hk₂ _ o (by simpa using Ne.symm d1) e) (fun h₃ hn₃ hs₃ => ?_) (by simp [compEnvC, relabel, hkind])))
    have hs3 : ∀ a o, a ≠ C → h₂.get? a = some o → h₃.get? a = some o := fun a o q e => hs₃.extBut a o q e
    have zD : h₃.get? D = some (LCg.lst (uss.take i).flatten) := hs3 _ _ (Ne.symm d3) (hk₂ _ _ (by simpa using Ne.symm d2) hD')
    have st3 : h₃.IsListIter I P (i + 1) ∧ h₃.IsList P vs.toArray := ⟨st₂.1.at fun o e => hs3 _ _ d1 e, st₂.2.at fun o e => hs3 _ _ d5 e⟩
    have za : h₃.get? a = some (listOf us.toArray c) := hs3 _ _ a2 (hk₂ _ _ (by simpa using a1) (old _ _ a1 a2 a3 ha))
    refine wpAny_bind (wpAny_Name (wpAny_loadName_local (v := .ref a) (by simp [compEnvC, relabel, hkind]) (lookup_relabel_local hx) hn₃ (by simp) ?_) hdx)
    refine wpAny_bind (wpAny_standAt (wpAny_bind (wpAny_of_eq (a := .ref a) rfl (wpAny_bind (wpAny_holding (wpAny_pyIter_list (items := us.toArray) ⟨_, za, rfl, _, rfl⟩ ?_))))))
    have lt : ∀ {b o}, h₃.get? b = some o → b ≠ h₃.objs.size := fun e => Nat.ne_of_lt (Heap.lt_size e)
    obtain ⟨oC, eC, _⟩ := LCg.ns_obj hn₃
    have aI := lt za
    have CI := lt eC
    have DI := lt zD
    have up : ∀ b o, h₃.get? b = some o → (h₃.push { cls := .type "list_iterator", data := .fields #[.ref a, .int 0 0] }).get? b = some o := fun b o e => Heap.get?_push_of_some _ e
    have hI2 : (h₃.push { cls := .type "list_iterator", data := .fields #[.ref a, .int 0 0] }).IsListIter h₃.objs.size a 0 := ⟨_, Heap.get?_push_size _ rfl, rfl, rfl⟩
    have hz5 : ((uss.take i).flatten ++ us).length ≤ sizeLine := by
      refine Nat.le_trans ?_ hfit
      have e : uss = uss.take i ++ us :: uss.drop (i + 1) := by
        have ht := List.take_append_drop (i + 1) uss
        rw [List.take_add_one, hu] at ht
        simpa using ht.symm
      conv => rhs; rw [e]
      simp only [List.length_append, List.flatten_append, List.flatten_cons]
      omega
    refine wpAny_bind (wpAny_runOwn ?_)
    have hh2 : (A.mark none).handled = none := hh
    refine start_in (fun it' e => ?_) fun Q E' hq => (Walks.list (prog := prog) (w := w) hh2 _ a aI us.toArray).self 0 _ _ _ ⟨hI2, _, up _ _ za, rfl, _, rfl⟩ hq
    subst e
    refine loop_in (us := us) (ys := (uss.take i).flatten) hh2 hkind hz hdb (up _ _ za) hI2 (hn₃.at' fun o e => up _ o e) (up _ _ zD) (Ne.symm CI) (Ne.symm DI) d3 aI a2 a3 hz5 fun h₅ tk₅ m₅ hn₅ hD₅ hk₅ => ?_
    refine wpAny_pure ⟨rfl, vs.length + 1 - (i + 1), by omega, h₅, tk₅, i + 1, m₅, rfl, hlt, rfl, ?_, hn₅, ?_, fun b o b1 b2 b3 e => ?_⟩
    · obtain ⟨oI, eI, rI⟩ := id st3.1
      obtain ⟨oP, eP, rP⟩ := id st3.2
      exact ⟨⟨oI, hk₅ _ _ (lt eI) d1 d2 (up _ _ eI), rI⟩, ⟨oP, hk₅ _ _ (lt eP) d5 d6 (up _ _ eP), rP⟩⟩
    · rw [hD₅, List.take_add_one, hu]
      simp
    · have e3 := hs3 _ _ b2 (hk₂ _ _ (by simpa using b1) (old b o b1 b2 b3 e))
      exact hk₅ _ _ (lt e3) b2 b3 (up _ _ e3)
  · obtain rfl : i = vs.length := by omega
    have st' : h'.IsListIter I P vs.toArray.size ∧ h'.IsList P vs.toArray := by simpa using st
    refine W.done _ _ _ st' fun h₂ tk₂ hk₂ => wpAny_pure (hR h₂ tk₂ m' (hn.at' fun o e => hk₂ _ o (by simpa using Ne.symm d1) e) ?_ fun a o a1 a2 a3 e => hk₂ _ _ (by simpa using a1) (old a o a1 a2 a3 e))
    rw [hk₂ _ _ (by simpa using Ne.symm d2) hD', hlen, List.take_length]

theorem PAre.lists : ∀ {ys : List Value} {nw : List (Addr × Obj)} {nss : List (List Int)}, PAre ys nw nss → ∃ uss : List (List Value), ys.length = uss.length ∧
    (∀ (i : Nat) (v : Value), ys[i]? = some v → ∃ (us : List Value) (a : Addr) (c : Nat), uss[i]? = some us ∧ v = .ref a ∧ (a, listOf us.toArray c) ∈ nw) ∧ IntsAre uss.flatten nss.flatten
  | [], nw, [], _ => ⟨[], rfl, fun _ _ h => by simp at h, IntsAre.nil⟩
  | [], _, _ :: _, h => by cases h.1
  | _ :: _, _, [], h => by cases h.1
  | y :: ys, nw, ns :: nss, h => by
    obtain ⟨uss, e1, e2, e3⟩ := PAre.lists (ys := ys) (nw := nw) (nss := nss) ⟨by simpa using h.1, fun i v hv => h.2 (i + 1) v (by simpa using hv)⟩
    obtain ⟨ns', a, us, c, f1, f2, f3, f4⟩ := h.2 0 y rfl
    have : ns = ns' := by simpa using f1
    subst this
    refine ⟨us :: uss, by simp [e1], fun i v hv => ?_, ?_⟩
    · cases i with
      | zero =>
        have : y = v := by simpa using hv
        subst this
        exact ⟨us, a, c, rfl, f2, f3⟩
      | succ i =>
        obtain ⟨us', a', c', g1, g2, g3⟩ := e2 i v (by simpa using hv)
        exact ⟨us', a', c', by simpa using g1, g2, g3⟩
    · rw [List.flatten_cons, List.flatten_cons]
      exact IntsAre.append f4 e3
variable {h₀ : Heap} {L : Addr} {m : Str → Option Value} {Q : Value → Shared → Prop}
noncomputable def SrcF (A : Around) (h₀ : Heap) (L : Addr) (m : Str → Option Value) (Q : Value → Shared → Prop) (xv : Value) (s₁ : Shared) : Prop :=
  ∃ (P : Addr) (vs : List Value) (c : Nat) (news : List (Addr × Obj)) (nss : List (List Int)), xv = .ref P ∧ A.handled = none ∧ Fr h₀ L s₁.heap m ∧ News h₀ L s₁.heap news ∧ (P, listOf vs.toArray c) ∈ news ∧ PAre vs news nss ∧ nss.flatten.length ≤ sizeLine ∧
    ∀ D us h tk, IntsAre us nss.flatten → (∀ p ∈ news, p.1 ≠ D) → Fr h₀ L h m → News h₀ L h ((D, LCg.lst us) :: news) → Q (.ref D) { s₁ with heap := h, toks := tk }
theorem flat_comp (_F : Fr h₀ L s.heap m) (hclos : closureFor scope env = pure cl) (hcell : ∀ y ∈ scope.names, y.2 ≠ .cell) (hkind : scope.kind = .function)
    (hnames : ∀ y ∈ scope.names, y.2 = .local → scope.names.lookup y.1 = some .local) (hx : scope.names.lookup x = some .local) (hz : scope.names.lookup z = some .local) (hdb : (z == ("__debug__" : Str)) = false) (hdx : (x == ("__debug__" : Str)) = false)
    (h : wpAny (model prog w) A (eval iter env) (SrcF A h₀ L m Q) E s) (hs : ∀ x, foldedSetIterable iter env x = pure x := by intro _; rfl) :
    wpAny (model prog w) A (eval (two z x pe pz px px2 iter scope pos) env) Q E s := by
  rw [eval_ListComp]
  refine wpAny_comprehension_free (use := none) rfl hs hclos hkind hnames (wpAny_mono h (fun xv s₁ h₁ => ?_) fun _ _ e => e)
  obtain ⟨P, vs, c, news, nss, rfl, hh, F, N, hm, hP, hsz, fin⟩ := h₁
  obtain ⟨uss, hlen, hat, hi⟩ := hP.lists
  have zP := (N _ hm).1
  refine wpAny_pyIter_list (items := vs.toArray) ⟨_, zP, rfl, _, rfl⟩ ?_
  refine wpAny_newObj_type (wpAny_newFunctionEnv hcell (by intro y hy; simp at hy) (fun h₁ hns₁ hsb₁ => ?_) hkind)
  dsimp only at hns₁ hsb₁ ⊢
  generalize hH1 : s₁.heap.push { cls := .type "list_iterator", data := .fields #[.ref P, .int 0 0] } = H1 at hns₁ hsb₁ ⊢
  generalize hH2 : H1.push { cls := .type "list", dict := none, data := .seq ([] : List Value).toArray } = H2 at hns₁ hsb₁ ⊢
  have s1 : H1.objs.size = s₁.heap.objs.size + 1 := by rw [← hH1, Heap.size_push]
  have s2 : H2.objs.size = s₁.heap.objs.size + 2 := by rw [← hH2, Heap.size_push, s1]
  have up1 : ∀ b o, s₁.heap.get? b = some o → H1.get? b = some o := fun b o e => hH1 ▸ Heap.get?_push_of_some _ e
  have up2 : ∀ b o, H1.get? b = some o → H2.get? b = some o := fun b o e => hH2 ▸ Heap.get?_push_of_some _ e
  have up3 : ∀ b o, H2.get? b = some o → h₁.get? b = some o := fun b o e => hsb₁.extBut b o (Nat.ne_of_lt (Heap.lt_size e)) (Heap.get?_push_of_some _ e)
  have up : ∀ b o, s₁.heap.get? b = some o → h₁.get? b = some o := fun b o e => up3 _ _ (up2 _ _ (up1 _ _ e))
  have oldlt : ∀ {b o}, s₁.heap.get? b = some o → b < s₁.heap.objs.size := fun e => Heap.lt_size e
  have eI : h₁.IsListIter s₁.heap.objs.size P 0 := ⟨_, up3 _ _ (up2 _ _ (hH1 ▸ Heap.get?_push_size _ rfl)), rfl, rfl⟩
  have eD : h₁.get? H1.objs.size = some (LCg.lst []) := up3 _ _ (hH2 ▸ Heap.get?_push_size _ rfl)
  have IC : s₁.heap.objs.size ≠ H2.objs.size := by rw [s2]; omega
  have ID : s₁.heap.objs.size ≠ H1.objs.size := by rw [s1]; omega
  have CD : H2.objs.size ≠ H1.objs.size := by rw [s1, s2]; omega
  have off : ∀ {b o}, s₁.heap.get? b = some o → b ≠ s₁.heap.objs.size ∧ b ≠ H2.objs.size ∧ b ≠ H1.objs.size := fun e => by
    rw [s1, s2]
    exact ⟨Nat.ne_of_lt (oldlt e), Nat.ne_of_lt (Nat.lt_of_lt_of_le (oldlt e) (Nat.le_add_right _ 2)), Nat.ne_of_lt (Nat.lt_of_lt_of_le (oldlt e) (Nat.le_add_right _ 1))⟩
  have offP := off zP
  have fresh₀ : ∀ a, s₁.heap.objs.size ≤ a → h₀.get? a = none := fun a ha => by
    cases e : h₀.get? a with
    | none => rfl
    | some o' => exact absurd (oldlt (F.keep a o' e)) (Nat.not_lt.mpr ha)
  have hLlt : L < s₁.heap.objs.size := F.ns.lt
  have loop : ∀ s₃ : Shared, s₃ = { s₁ with heap := h₁, toks := s₁.toks + ([] : List (Str × Value)).length } →
      codeAny (model prog w) A (.compLoop (two z x pe pz px px2 iter scope pos) 0 (.ref s₁.heap.objs.size) (.ref H1.objs.size) (compEnvC scope cl H2.objs.size env)) (compPost (model prog w) A E none Q (.ref H1.objs.size) H2.objs.size) s₃ := by
    rintro s₃ rfl
    refine loop_out (vs := vs) (uss := uss) hh hkind hz hx hdb hdx ⟨_, up _ _ zP, rfl, _, rfl⟩ eI hns₁ eD IC ID CD offP.1 offP.2.1 offP.2.2 hlen (fun i v hv => ?_) (by rw [hi.length]; exact hsz) fun h5 tk5 m5 hn5 hD5 hk5 => ?_
    · obtain ⟨us, a, c', g1, g2, g3⟩ := hat i v hv
      have za := (N _ g3).1
      exact ⟨us, a, c', g1, g2, up _ _ za, off za⟩
    · refine ⟨m5, hn5, fun h6 hs6 => ?_⟩
      have keep : ∀ b o, s₁.heap.get? b = some o → h6.get? b = some o := fun b o e => hs6.extBut b o (off e).2.1 (hk5 b o (off e).1 (off e).2.1 (off e).2.2 (up b o e))
      refine fin H1.objs.size uss.flatten h6 tk5 hi (fun p hp => (off (N p hp).1).2.2) (F.keeps keep) fun p hp => ?_
      rcases List.mem_cons.mp hp with rfl | hp
      · refine ⟨hs6.extBut _ _ (Ne.symm CD) hD5, ?_, fresh₀ _ (by rw [s1]; exact Nat.le_succ _)⟩
        intro q
        have h3 : (H1.objs.size : Nat) < s₁.heap.objs.size := by rw [show H1.objs.size = L from q]; exact hLlt
        rw [s1] at h3
        omega
      · exact ⟨keep _ _ (N p hp).1, (N p hp).2⟩
  have W := Walks.list (prog := prog) (w := w) hh s₁.heap.objs.size P offP.1 vs.toArray
  exact codeAny_compStart_list (loop _ rfl) (W.self 0 _ _ _ ⟨eI, ⟨_, up _ _ zP, rfl, _, rfl⟩⟩ (loop _ rfl))
end
end
section
/-! LT -/
section
variable {prog : Program} {w : World} {A : Around} {E : Value → Shared → Prop} {s : Shared} {env : Env} {h₀ : Heap} {x : Str} {px : Pos} {body : List Stmt} {Q : Flow → Shared → Prop}
/-- where a turn ends: the state again, and the walk's own iterator -/
noncomputable def EndT {σ : Type} (h₀ : Heap) (L : Addr) (Led : σ → List (Addr × Obj)) (Facts : σ → Prop) (stored : List Str) (m₀ : Str → Option Value) (I : Addr) (oI : Obj) (s₁ : Shared) (Q : Flow → Shared → Prop) (f : Flow) (s₂ : Shared) : Prop :=
  match f with
  | .ret v => Q (.ret v) s₂
  | .brk => Q .next s₂
  | _ => ∃ (c : σ) (h' : Heap) (tk : Nat) (m' : Str → Option Value) (all : List (Addr × Obj)), s₂ = { s₁ with heap := h', toks := tk } ∧ Fr h₀ L h' m' ∧ News h₀ L h' all ∧ (∀ p ∈ Led c, p ∈ all) ∧ (I, oI) ∈ all ∧ (∀ p ∈ Led c, p.1 ≠ I) ∧ Facts c ∧ ∀ z, stored.contains z = false → m' z = m₀ z
theorem turns_cell {σ : Type} {ax : Addr} {vs : List Value} {ns : List Int} {nn : Nat} {m₀ : Str → Option Value} (Led : σ → List (Addr × Obj)) (Facts : σ → Prop) (stored : List Str) (c₀ : σ)
    (hh : A.handled = none) (hm : ∀ c, (ax, listOf vs.toArray nn) ∈ Led c) (hi : IntsAre vs ns) (F : Fr h₀ env.locals s.heap m₀) (N : News h₀ env.locals s.heap (Led c₀)) (hf : Facts c₀)
    (turn : ∀ (c : σ) n t (u : Str → Option Value) h tk I oI, n ∈ ns → Facts c → (∀ p ∈ Led c, p.1 ≠ I) → Fr h₀ env.locals h (fun z => if stored.contains z then u z else m₀ z) → News h₀ env.locals h ((I, oI) :: Led c) →
      wpAny (model prog w) A (assign (.Name x px) env (.int n t)) (fun _ s₃ => wpAny (model prog w) A (execs body env) (EndT h₀ env.locals Led Facts stored m₀ I oI { s with heap := h, toks := tk } Q) E s₃) E { s with heap := h, toks := tk })
    (done : ∀ (c : σ) (u : Str → Option Value) h tk, Facts c → Fr h₀ env.locals h (fun z => if stored.contains z then u z else m₀ z) → News h₀ env.locals h (Led c) → Q .next { s with heap := h, toks := tk }) :
    wpAny (model prog w) A (pyIter (.ref ax)) (fun it s₂ => TurnsAt prog w A h₀ env (.Name x px) body Q E it s₂) E s := by
  have zA := (N _ (hm c₀)).1
  have hls : s.heap.IsList ax vs.toArray := ⟨_, zA, rfl, _, rfl⟩
  have hlt : ax < s.heap.objs.size := Heap.lt_size zA
  have fr : ∀ {m₁ : Str → Option Value} {h : Heap}, (∀ z, stored.contains z = false → m₁ z = m₀ z) → Fr h₀ env.locals h m₁ → Fr h₀ env.locals h (fun z => if stored.contains z then m₁ z else m₀ z) := by
    intro m₁ h e F
    have em : (fun z => if stored.contains z = true then m₁ z else m₀ z) = m₁ := by
      funext z
      cases q : stored.contains z with
      | true => simp
      | false => simp only [Bool.false_eq_true, if_false]; exact (e z q).symm
    rw [em]; exact F
  refine wpAny_pyIter_list hls ?_
  have W := Walks.list (prog := prog) (w := w) hh s.heap.objs.size ax (Nat.ne_of_lt hlt) vs.toArray
  have T := KTurns.ofWalks (target := .Name x px) W (fun i v s' Q' E' _ q => wpAny_of_eq (a := ()) rfl q)
  refine ⟨_, _, _, _, _, _, _, m₀, Led c₀, fun _ m nx => ∃ c, nx = Led c ∧ Facts c ∧ ∀ z, stored.contains z = false → m z = m₀ z, rfl, T, fun hq => ?_, fun b hb => ?_, fun p hp hq => ?_, ⟨⟨_, Heap.get?_push_size _ rfl, rfl, rfl⟩, hls.at fun o e => Heap.get?_push_of_some _ e⟩,
    F.push _, N.grown fun _ _ e => Heap.get?_push_of_some _ e, ⟨c₀, rfl, hf, fun _ _ => rfl⟩, ?_, ?_⟩
  · rcases List.mem_cons.mp hq with e | hq
    · exact absurd F.ns.lt (e ▸ Nat.lt_irrefl _)
    · exact absurd (List.mem_singleton.mp hq).symm (N _ (hm c₀)).2.1
  · rw [List.mem_singleton.mp hb]; exact next_is_new F
  · exact absurd (Heap.lt_size (N p hp).1) ((List.mem_singleton.mp hq) ▸ Nat.lt_irrefl _)
  · rintro i v m₁ nw h₁ tk₁ own hin hP ⟨c, rfl, hfc, hmm⟩ hoff hown hownat hfull st F₁ N₁
    obtain ⟨⟨oI, hoI, _⟩, _⟩ := st
    have hIown : (s.heap.objs.size, oI) ∈ own := hfull _ (List.mem_cons_self ..) (next_is_new F) oI hoI
    have apart : ∀ p ∈ Led c, p.1 ≠ s.heap.objs.size := fun p hp e => hoff p hp (List.mem_singleton.mpr e)
    have hlt' : i < ns.length := by rw [← hi.length]; simpa using hin
    obtain ⟨t, hx⟩ := hi.get i ns[i] (by simp [hlt'])
    have hv : v = .int ns[i] t := by
      have hP' : vs[i]? = some v := by simpa using hP
      rw [hx] at hP'; exact (Option.some.inj hP').symm
    subst hv
    have N₂ : News h₀ env.locals h₁ ((s.heap.objs.size, oI) :: Led c) := fun p hp => by
      rcases List.mem_cons.mp hp with rfl | hp
      · exact N₁ _ (List.mem_append_left _ hIown)
      · exact N₁ p (List.mem_append_right _ hp)
    have hax : ∀ p ∈ own, p = (s.heap.objs.size, oI) ∨ p = (ax, listOf vs.toArray nn) := by
      rintro ⟨b, o⟩ hp
      have g := hownat _ hp
      rcases List.mem_cons.mp (hown _ hp) with h1 | h1
      · left
        have h1' : b = s.heap.objs.size := h1
        subst h1'
        have : some oI = some o := hoI.symm.trans g
        rw [Option.some.inj this]
      · right
        have h1' : b = ax := List.mem_singleton.mp h1
        subst h1'
        have : some (listOf vs.toArray nn) = some o := (N₁ _ (List.mem_append_right _ (hm c))).1.symm.trans g
        rw [Option.some.inj this]
    refine wpAny_mono (turn c ns[i] t m₁ h₁ tk₁ _ oI (List.getElem_mem _) hfc apart (fr hmm F₁) N₂) (fun _ s₃ h₃ => wpAny_mono h₃ (fun f s₄ p => ?_) fun _ _ e => e) fun _ _ e => e
    have fin : (∃ (c : σ) (h' : Heap) (tk : Nat) (m' : Str → Option Value) (all : List (Addr × Obj)), s₄ = { s with heap := h', toks := tk } ∧ Fr h₀ env.locals h' m' ∧ News h₀ env.locals h' all ∧ (∀ p ∈ Led c, p ∈ all) ∧ (s.heap.objs.size, oI) ∈ all ∧ (∀ p ∈ Led c, p.1 ≠ s.heap.objs.size) ∧ Facts c ∧ ∀ z, stored.contains z = false → m' z = m₀ z) →
        LoopStepU h₀ env.locals [s.heap.objs.size] own (fun m nx => ∃ c, nx = Led c ∧ Facts c ∧ ∀ z, stored.contains z = false → m z = m₀ z) { s with heap := h₁, toks := tk₁ } .next s₄ := by
      rintro ⟨c', h', tk, m', all, e, F', N', hn, hI, ha, hf', hm'⟩
      refine ⟨rfl, h', tk, m', Led c', e, F', fun p hp => ?_, fun p hp hq => ha p hp (List.mem_singleton.mp hq), c', rfl, hf', hm'⟩
      rcases List.mem_append.mp hp with hp | hp
      · rcases hax p hp with rfl | rfl
        · exact N' _ hI
        · exact N' _ (hn _ (hm c'))
      · exact N' _ (hn p hp)
    cases f with
    | ret v => exact .ret p
    | brk => exact .brk p
    | next => exact .next (fin p)
    | cont => exact .cont (fin p)
  · rintro h' tk m' nw F' N' _ ⟨c, rfl, hfc, hmm⟩
    exact done c m' h' tk hfc (fr hmm F') N'
theorem endT_ {σ : Type} {h₀ : Heap} {L : Addr} {Led : σ → List (Addr × Obj)} {Facts : σ → Prop} {stored : List Str} {m₀ : Str → Option Value} {I : Addr} {oI : Obj} {s₁ : Shared} {h' : Heap} {tk : Nat} {m' : Str → Option Value} {all : List (Addr × Obj)} (c : σ)
    (F : Fr h₀ L h' m') (N : News h₀ L h' all) (hn : ∀ p ∈ Led c, p ∈ all) (hI : (I, oI) ∈ all) (ha : ∀ p ∈ Led c, p.1 ≠ I) (hf : Facts c) (hm : ∀ z, stored.contains z = false → m' z = m₀ z) :
    EndT h₀ L Led Facts stored m₀ I oI s₁ Q .next { s₁ with heap := h', toks := tk } := ⟨c, h', tk, m', all, rfl, F, N, hn, hI, ha, hf, hm⟩
end
end
section
/-! LQ -/
section
variable {prog : Program} {w : World} {A : Around} {E : Value → Shared → Prop} {s : Shared} {h₀ : Heap} {L l : Addr} {m : Str → Option Value} {news : List (Addr × Obj)} {Q : Value → Shared → Prop}
theorem len_lst {us : List Value} {c : Nat} {k : Int} (N : News h₀ L s.heap news) (hm : (l, listOf us.toArray c) ∈ news) (hk : (us.length : Int) = k) (hz : k ≤ 16384) (h : ∀ t k', Q (.int k t) { s with toks := k' }) :
    wpAny (model prog w) A (call (.builtin "len") [.ref l]) Q E s := kun_lenL (News.isList N hm) (by simpa using hk) hz (h _ _)
theorem slice_upto {value slice : Expr} {ys : List Value} {c : Nat} {k : Int} {t : Tok} (F : Fr h₀ L s.heap m) (N : News h₀ L s.heap news) (hm : (l, listOf ys.toArray c) ∈ news) (hk : 0 ≤ k)
    (h : ∀ D h', Fr h₀ L h' m → News h₀ L h' ((D, listOf (ys.take k.toNat).toArray 0) :: news) → (∀ p ∈ news, p.1 < D) → Q (.ref D) { s with heap := h' })
    (hs : subscripted slice false (.ref l) (.ref s.heap.objs.size) = operate [.ref s.heap.objs.size, .ref l] (getItem (.ref l) (.ref s.heap.objs.size))) (ht : ∀ r, letTemporaryGo value (.ref l) r = pure ()) (hz : ys.length ≤ 1000) :
    wpAny (model prog w) A (subscriptTail value slice (.ref l) (.ref s.heap.objs.size)) Q E { s with heap := s.heap.push { cls := .type "slice", data := .fields #[.none, .int k t, .none] } } := by
  refine kmk_slice (lo := none) (hi := some k) F N (News.isList N hm) IsPart.none (IsPart.int _ _) (fun D h' F' N' l1 => h D h' F' ?_ l1) hs ht (by rw [List.size_toArray, PySem.sizeLine_eq]; omega)
  have e : sliceBounds none (some k) none ys.toArray.size = (((0 : Nat) : Int), ((min k.toNat ys.toArray.size : Nat) : Int), 1) := by
    simp only [sliceBounds, Option.getD_none, show (1 : Int) > 0 by decide, if_true, if_neg (show ¬ (k < 0) by omega)]
    congr 1
    congr 1
    omega
  rw [kmk_pick_nat _ e] at N'
  have e2 : ((ys.toArray.toList.drop 0).take (min k.toNat ys.toArray.size - 0)) = ys.take k.toNat := by
    rw [List.drop_zero, Nat.sub_zero, List.size_toArray, kmk_take_min]
  rw [e2] at N'
  exact N'
end
section
variable {prog : Program} {w : World} {A : Around} {E : Value → Shared → Prop} {s : Shared} {h₀ : Heap} {L l : Addr} {m : Str → Option Value} {news : List (Addr × Obj)} {Q : Value → Shared → Prop}
theorem item_made {value slice : Expr} {vs : List Value} {c : Nat} {ns : List Int} {j : Int} {u : Tok} (N : News h₀ L s.heap news) (hm : (l, listOf vs.toArray c) ∈ news) (hi : IntsAre vs ns) (h0 : 0 ≤ j) (h1 : j < (ns.length : Int)) (hz : ns.length < 1000) (h : ∀ t, Q (.int (ns.getD j.toNat 0) t) s)
    (hs : subscripted slice false (.ref l) (.int j u) = operate [.ref l, .int j u] (getItem (.ref l) (.int j u))) :
    wpAny (model prog w) A (subscriptTail value slice (.ref l) (.int j u)) Q E s :=
  item_anyK (News.isList N hm) hi h0 h1 (by omega) h hs
end
section
variable {prog : Program} {w : World} {A : Around} {E : Value → Shared → Prop} {s : Shared} {h₀ : Heap} {L l : Addr} {m : Str → Option Value} {news : List (Addr × Obj)} {Q : Value → Shared → Prop}
theorem upto_ints {value slice : Expr} {ys : List Value} {ns : List Int} {c : Nat} {k : Int} {t : Tok} (F : Fr h₀ L s.heap m) (N : News h₀ L s.heap news) (hm : (l, listOf ys.toArray c) ∈ news) (hi : IntsAre ys ns) (hk : 0 ≤ k)
    (h : ∀ D ws h', Fr h₀ L h' m → News h₀ L h' ((D, listOf (List.toArray ws) 0) :: news) → (∀ p ∈ news, p.1 < D) → IntsAre ws (ns.take k.toNat) → Q (.ref D) { s with heap := h' })
    (hs : subscripted slice false (.ref l) (.ref s.heap.objs.size) = operate [.ref s.heap.objs.size, .ref l] (getItem (.ref l) (.ref s.heap.objs.size))) (ht : ∀ r, letTemporaryGo value (.ref l) r = pure ()) (hz : ns.length ≤ 1000) :
    wpAny (model prog w) A (subscriptTail value slice (.ref l) (.ref s.heap.objs.size)) Q E { s with heap := s.heap.push { cls := .type "slice", data := .fields #[.none, .int k t, .none] } } :=
  slice_upto F N hm hk (fun D h' F' N' l1 => h D _ h' F' N' l1 (hi.take _)) hs ht (by rw [hi.length]; exact hz)
end
section
variable {prog : Program} {w : World} {A : Around} {E : Value → Shared → Prop} {s : Shared} {h₀ : Heap} {L l : Addr} {m : Str → Option Value} {news : List (Addr × Obj)} {Q : Value → Shared → Prop}
theorem idx_of {k : Int} {n : Nat} (h0 : 0 ≤ k) (h1 : k < (n : Int)) : seqIndex? k n = some k.toNat := seqIndex_of h0 h1
/-- some int of a made tuple -/
theorem tup_int {value slice : Expr} {vs : List Value} {c : Nat} {ns : List Int} {k : Int} {u : Tok} (N : News h₀ L s.heap news) (hm : (l, ({ cls := .type "tuple", data := .seq vs.toArray c } : Obj)) ∈ news) (hi : IntsAre vs ns) (h0 : 0 ≤ k) (h1 : k < (ns.length : Int)) (hz : ns.length < 1000) (h : ∀ n t, Q (.int n t) s)
    (hs : subscripted slice false (.ref l) (.int k u) = operate [.ref l, .int k u] (getItem (.ref l) (.int k u))) :
    wpAny (model prog w) A (subscriptTail value slice (.ref l) (.int k u)) Q E s := by
  have hl := hi.length
  obtain ⟨t, hx⟩ := hi.get k.toNat (ns[k.toNat]'(by omega)) (List.getElem?_eq_getElem _)
  exact item_tupleT (j := k.toNat) ⟨_, (N _ hm).1, rfl, _, rfl⟩ (by omega) (by omega) (idx_of h0 (by omega)) hx (h _ t) hs
/-- some text of a made tuple -/
theorem tup_str {value slice : Expr} {vs : List Value} {c : Nat} {ws : List Str} {k : Int} {u : Tok} (N : News h₀ L s.heap news) (hm : (l, ({ cls := .type "tuple", data := .seq vs.toArray c } : Obj)) ∈ news) (hi : StrsAre vs ws) (h0 : 0 ≤ k) (h1 : k < (ws.length : Int)) (hz : ws.length < 1000) (h : ∀ y t, y ∈ ws → Q (.str y t) s)
    (hs : subscripted slice false (.ref l) (.int k u) = operate [.ref l, .int k u] (getItem (.ref l) (.int k u))) :
    wpAny (model prog w) A (subscriptTail value slice (.ref l) (.int k u)) Q E s := by
  have hl := hi.length
  obtain ⟨t, hx⟩ := hi.get k.toNat (ws[k.toNat]'(by omega)) (List.getElem?_eq_getElem _)
  exact item_tupleT (j := k.toNat) ⟨_, (N _ hm).1, rfl, _, rfl⟩ (by omega) (by omega) (idx_of h0 (by omega)) hx (h _ t (List.getElem_mem _)) hs
end
theorem sum_lens (ps : List Int) (i : Nat) : (((ps.map u8).take i).map fun ns => (ns.length : Int)).sum = (offs ps i : Int) := by
  unfold offs
  rw [← List.map_take]
  generalize ps.take i = qs
  induction qs with
  | nil => rfl
  | cons q r ih =>
    rw [List.map_cons, List.map_cons, List.sum_cons, ih, List.flatMap_cons, List.length_append]
    omega
end
section
/-! S13 -/
section
theorem ne_map {l l' : List (Addr × Obj)} {I : Addr} (e : l'.map (·.1) = l.map (·.1)) (h : ∀ p ∈ l, p.1 ≠ I) : ∀ p ∈ l', p.1 ≠ I := by
  intro p hp
  have h1 : p.1 ∈ l'.map (·.1) := List.mem_map.mpr ⟨p, hp, rfl⟩
  rw [e] at h1
  obtain ⟨q, hq, e2⟩ := List.mem_map.mp h1
  rw [← e2]; exact h q hq
theorem getD_in {l : List Int} {i : Nat} (h : i < l.length) : l.getD i 0 ∈ l := by
  rw [List.getD_eq_getElem?_getD, List.getElem?_eq_getElem h]
  exact List.getElem_mem _
theorem oc_wide {y : Str} (h : ([Str.ofString "windows-1252", Str.ofString "x-user-defined"].any fun x => x == y) = false) (n : Int) : oc n y = u8 n := by
  rw [oc, if_neg (by rw [h]; decide)]
theorem enc_wide {y : Str} (h : ([Str.ofString "windows-1252", Str.ofString "x-user-defined"].any fun x => x == y) = false) (ps : List Int) : encI ps y = (ps.map cl).flatMap u8 := by
  unfold encI
  rw [List.flatMap_map]
  congr 1
  funext n
  exact oc_wide h _
theorem sp_wide {w mg mb mean s} {l l' : Addr} {vs vs' : List Value} {ps qs : List Int} {y : Str} {u : Tok} (hl : s.heap.IsList l vs.toArray) (hi : IntsAre vs ps) (hl' : s.heap.IsList l' vs'.toArray) (hi' : IntsAre vs' qs)
    (hps : ∀ p ∈ ps, 0 ≤ p ∧ p < 1114112) (hqs : ∀ p ∈ qs, 0 ≤ p ∧ p < 1114112) (hlen : ps.length < 20) (hlen3 : 3 ≤ ps.length) (hlen' : qs.length < 20) (hlen1 : 1 ≤ qs.length) (hy : isName y = true) (hw : ([Str.ofString "windows-1252", Str.ofString "x-user-defined"].any fun x => x == y) = false) :
    Okc w mg mb mean 167 [.ref l, .ref l', .str y u] 30 s (RB true) := by
  k_with_none
  k_with "execs cons" => first | k_fold | fail
  k_with "spliced" => first | (k_here; (with_reducible show wpAny _ _ (spliced (backTo _ (starEach (_ :: _ :: _) _))) _ _ _); (with_reducible refine spliced_consts (by with_unfolding_all rfl) ?_); intro f0 t0; dsimp only [valsF, Nat.reduceAdd]) | fail
  k_with "FinE" => first | (k_dflt (intro D0' h0' tk0' F0' N0' o0'); (have o0' := off_ne o0'); (try simp only [List.cons_append, List.nil_append, List.map_cons, List.map_nil] at N0' o0'); (try dsimp only); (try k_fold)) | fail
  k_with "FinA" => first | (k_dflt (intro D0' h0' tk0' F0' N0' o0'); (have o0' := off_ne o0'); (try simp only [List.cons_append, List.nil_append, List.map_cons, List.map_nil] at N0' o0'); (try dsimp only); (try k_fold)) | fail
  k_with "LeaveS" => first | (refine leaveS_ (by assumption) ?_; (try dsimp only)) | fail
  k_with "binaryOp RShift int int" => first | (k_here; (with_reducible refine rshift_int (by decide) ?_)) | fail
  k_with "call ref" => first | (k_here; (with_reducible show wpAny _ _ (call (Value.ref 107) _) _ _ _); k_dflt (refine useY ((sp_enc (by first | assumption | exact sgn_lt (by omega) (by omega)) (by first | assumption | (show 1 ≤ 1000; decide)) (by first | assumption | exact rfl))) (by k_asm) (by k_asm) (by k_asm) (by k_in) (by k_asm) (by first | exact rfl | assumption) (by ktr_room) (by ktr_units) ?_; k_whole); intro t8 h8 tk8 F8 N8; (try dsimp only); (try k_fold)) | fail
  k_with "call type:list" => first | (k_here; (with_reducible show wpAny _ _ (call (Value.type _) [Value.bytes _ _]) _ _ _); k_dflt (refine list_bytes (by rfl) (by k_asm) (by k_asm) (by exact bInts_of (enc_byte (by first | assumption | exact sgn_lt (by omega) (by omega)))) (by (refine Nat.le_trans (enc_fit (by first | assumption | exact sgn_lt (by omega) (by omega)) (by first | assumption | (show 1 ≤ 1000; decide))) (by rw [PySem.sizeLine_eq]; decide))) ?_; k_whole); intro b8 us8 c8 h8 tk8 i8 ne8 F8 N8; (try dsimp only); (try k_fold)) | fail
  k_with "eval ListComp" => first | (k_here; (with_reducible show wpAny _ _ (eval (Expr.ListComp _ [⟨_, _, _, _⟩] _ _) _) _ _ _); k_dflt (refine LCg.ListComp_U (F₀ := by k_asm) (by with_unfolding_all rfl) (by decide) (by rfl) (by decide) (by rfl) ?_)) | fail
  k_with "call builtin:str.join" => first | (k_here; (with_reducible show wpAny _ _ (call (Value.builtin _) _) _ _ _); (rename StrsAre _ _ => sj9); k_dflt (refine join_signs (News.isList (by assumption) (List.Mem.head _)) sj9 (by omega) ?_); intro t9 k9; (try dsimp only)) | fail
  k_with "call ref" => first | (k_here; (with_reducible show wpAny _ _ (call (Value.ref 133) _) _ _ _); k_dflt (refine useL ((sp_clean (by kmk_list) (by first | assumption | exact IntsAre.cons _ _ IntsAre.nil) (by first | omega | (simp only [List.length_cons, List.length_nil]; decide)))) (by k_asm) (by k_asm) (by k_asm) (by k_in) (by k_asm) (by first | exact rfl | assumption) (by ktr_room) (by ktr_units) ?_; k_whole); intro b8 us8 c8 h8 tk8 i8 ne8 F8 N8; (try dsimp only); (try k_fold)) | fail
  k_with "call ref" => first | (k_here; (with_reducible show wpAny _ _ (call (Value.ref 145) _) _ _ _); k_dflt (refine useI ((sp_order (by kmk_list) (by assumption) (by kmk_list) (by assumption) (by assumption) (by assumption))) (by k_asm) (by k_asm) (by k_asm) (by k_in) (by k_asm) (by first | exact rfl | assumption) (by ktr_room) (by ktr_units) ?_; k_whole); intro t8 h8 tk8 F8 N8; (try dsimp only); (try k_fold)) | fail
  k_with "call ref" => first | (k_here; (with_reducible show wpAny _ _ (call (Value.ref 138) _) _ _ _); k_dflt (refine useL ((sp_read (by kmk_list) (by assumption) (by assumption) (by assumption) (by assumption))) (by k_asm) (by k_asm) (by k_asm) (by k_in) (by k_asm) (by first | exact rfl | assumption) (by ktr_room) (by ktr_units) ?_; k_whole); intro b8 us8 c8 h8 tk8 i8 ne8 F8 N8; (try dsimp only); (try k_fold)) | fail
  k_with "call builtin:len" => first | (k_here; (with_reducible show wpAny _ _ (call (Value.builtin "len") [Value.ref _]) _ _ _); k_dflt (refine len_lst (by k_asm) (by first | k_mem | (repeat (first | assumption | apply List.Mem.tail))) (by assumption) (by omega) ?_; k_whole); intro t8 k8; (try dsimp only)) | fail
  k_with "subscriptTail Name Slice ref ref" => first | (k_here; (with_reducible show wpAny _ _ (subscriptTail _ (PySem.Expr.Slice none (some _) none _) (Value.ref _) (Value.ref _)) _ _ _); k_dflt (refine slice_upto (by k_asm) (by k_asm) (by k_mem) (by omega) ?_ (by with_unfolding_all rfl) (by (intro _; with_unfolding_all rfl)) (by omega)); intro D' h' F' N' l1; (try k_lt l1); (try k_sweep)) | fail
  k_with "eval ListComp" => first | (k_here; (with_reducible show wpAny _ _ (eval (Expr.ListComp _ [⟨_, _, _, _⟩, ⟨_, _, _, _⟩] _ _) _) _ _ _); k_dflt (refine flat_comp (by k_asm) (by with_unfolding_all rfl) (by decide) (by rfl) (by decide) (by rfl) (by rfl) (by decide) (by decide) ?_)) | fail
  k_with "eval ListComp" => first | (k_here; (with_reducible show wpAny _ _ (eval (Expr.ListComp _ [⟨_, _, [_], _⟩] _ _) _) _ _ _); k_dflt (refine LCt.ListComp_T (F₀ := by k_asm) (by with_unfolding_all rfl) (by decide) (by rfl) (by decide) (by rfl) ?_)) | fail
  k_with "exec For Name List cons nil" => first | (k_here; (rename Fr _ _ _ _ => lF'); (with_unfolding_all refine For_turns lF' ?_; k_whole)) | fail
  k_with "call ref" => first | (k_here; (with_reducible show wpAny _ _ (call (Value.ref 150) _) _ _ _); k_dflt (refine useL ((sp_places (by kmk_list) (by assumption) (by kmk_list) (by assumption) (by assumption) (by assumption))) (by k_asm) (by k_asm) (by k_asm) (by k_in) (by k_asm) (by first | exact rfl | assumption) (by ktr_room) (by ktr_units) ?_; k_whole); intro b8 us8 c8 h8 tk8 i8 ne8 F8 N8; (try dsimp only); (try k_fold)) | fail
  k_with "CompSrcT" => first | (refine Halt.mk ?_) | fail
  k_with "EndT" => first | (refine Halt.mk ?_) | fail
  k_with "pyIter ref" => first | (refine Halt.mk ?_) | fail
  k_with "subscriptTail Name Name ref int" => first | (k_here; k_dflt (refine item_made (by k_asm) (by k_mem) (by assumption) (by omega) (by ((simp only [List.length_map, List.length_range]); omega)) (by ((simp only [List.length_map, List.length_range]); omega)) ?_ (by with_unfolding_all rfl)); intro t8; (try dsimp only)) | fail
  k_with "SrcF" => first | (refine Halt.mk ?_) | fail
  k_with "CompSrc" => first | (refine Halt.mk ?_) | fail
  k_with "call type:bytes" => first | (refine Halt.mk ?_) | fail
  have hj0 : ∀ p ∈ ps, 0 ≤ p := fun p hp => (hps p hp).1
  have hjc := codes_txt hj0
  have hjx := txt_lt hps
  have hjz : (txt ps).cps.size ≤ 1000 := by rw [size_txt hj0]; omega
  have hsz := hi.length
  have hE : encI (KStt.codes (txt ps)) (Str.ofString "UTF-8") = (ps.map Mine.cl).flatMap u8 := by rw [hjc]; exact enc_wide rfl ps
  have hEy : encI (KStt.codes (txt ps)) y = (ps.map Mine.cl).flatMap u8 := by rw [hjc]; exact enc_wide hw ps
  have hEr : ∀ p ∈ ps.map Mine.cl, 0 ≤ p ∧ p < 1114112 := by
    intro p hp
    obtain ⟨q, hq, rfl⟩ := List.mem_map.mp hp
    exact cl_range (hps q hq).1 (hps q hq).2
  have hEl : (encI (KStt.codes (txt ps)) (Str.ofString "UTF-8")).length < 1000 := by
    rw [hjc]; have := encI_len (y := Str.ofString "UTF-8") hps; omega
  have hEb : ∀ n ∈ encI (KStt.codes (txt ps)) (Str.ofString "UTF-8"), 0 ≤ n ∧ n < 256 := by rw [hjc]; exact encI_byte hps
  have hj0' : ∀ p ∈ qs, 0 ≤ p := fun p hp => (hqs p hp).1
  have hjc' := codes_txt hj0'
  have hjx' := txt_lt hqs
  have hjz' : (txt qs).cps.size ≤ 1000 := by rw [size_txt hj0']; omega
  have hsz' := hi'.length
  have hE2 : encI (KStt.codes (txt qs)) (Str.ofString "UTF-8") = (qs.map Mine.cl).flatMap u8 := by rw [hjc']; exact enc_wide rfl qs
  have hEr2 : ∀ p ∈ qs.map Mine.cl, 0 ≤ p ∧ p < 1114112 := by
    intro p hp
    obtain ⟨q, hq, rfl⟩ := List.mem_map.mp hp
    exact cl_range (hqs q hq).1 (hqs q hq).2
  have hEl2 : (encI (KStt.codes (txt qs)) (Str.ofString "UTF-8")).length < 1000 := by
    rw [hjc']; have := encI_len (y := Str.ofString "UTF-8") hqs; omega
  have hord : ordL (encI (KStt.codes (txt ps)) (Str.ofString "UTF-8")) (encI (KStt.codes (txt qs)) (Str.ofString "UTF-8")) = ordL (ps.map Mine.cl) (qs.map Mine.cl) := by
    rw [hE, hE2]; exact ord_flat _ _ hEr hEr2
  have hml : (ps.map Mine.cl).length < 1000 := by rw [List.length_map]; omega
  have hmlen : (ps.map Mine.cl).length = ps.length := List.length_map _
  have hml' : (qs.map Mine.cl).length < 1000 := by rw [List.length_map]; omega
  unfold Okc
  k_fill
  intro dp un gd cn cs a ccd cl outer A₀ base h₀ L m Q E B F X T hk hd hu hret
  w_top on
  refine wpAny_call ?_
  k_dflt (refine' enterC ?k1 ?k2 ?k3 ?k5 ?kA ?kF ?kK ?k6 ?k7 ?k8 ?k9 ?kB ?kD ?_ ?c2 ?c3 ?c4; (case kA => exact rfl); (case kF => exact rfl); (case kK => assumption); (case k1 => k_asm); (case k2 => k_asm); (case k3 => k_asm); (case k5 => k_asm); (case k6 => k_is); (case k7 => k_is); (case k8 => ktr_room); (case k9 => exact BindsTo.of_eq rfl); (case kB => exact rfl); (case kD => decide +kernel); (case c2 => exact rfl); (case c3 => exact rfl); (case c4 => exact rfl); k_whole; intro L' h' tk' cells' F' N' Y' B' X' T'; k_cells Y'; (try simp only [List.cons_append, List.nil_append, List.append_nil] at N'); (try dsimp only); (try k_fold))
  clear B F X T hk
  rename_i ob1 ob2 ob3 ob4 db1 db2 db3 db4
  (try k_fold); repeat' (first | (k_unfold; (try dsimp only)) | walk1 | (dsimp only; walk1))
  refine Halt.out ?_
  refine LCg.CompSrc.base (by rfl) (by k_asm) (by k_asm) hl (by rw [PySem.sizeLine_eq, List.size_toArray]; omega) ?_
  intro g
  refine rest_fix (fun i ys => StrsAre ys ((ps.take i).map sgn)) (Or.inl hl) StrsAre.nil ?_ ?_
  · rintro i v I oI C oC D m₂ h tk E' ys hi1 hJ hv hC hx F N off ne
    obtain ⟨k, t, rfl, hk⟩ := ints_at hi hv
    have hkr := hps k (List.mem_of_getElem? hk)
    have e : (ps.take (i + 1)).map sgn = (ps.take i).map sgn ++ [sgn k] := by rw [List.take_add_one, hk]; simp
    clear off ne
    (try k_fold); repeat' (first | (k_unfold; (try dsimp only)) | walk1 | (dsimp only; walk1))
    refine EndS.intro (by assumption) (by assumption) (fun p hp => hp) ?_
    rw [e]
    exact strs_snoc hJ
  · intro ys hJ
    rw [show vs.toArray.size = ps.length by rw [List.size_toArray]; omega, List.take_length] at hJ
    (try k_fold); repeat' (first | (k_unfold; (try dsimp only)) | walk1 | (dsimp only; walk1))
    refine Halt.out ?_
    (rename Fr _ _ _ _ => F9); (rename News _ _ _ _ => N9); (rename IntsAre _ (encI (KStt.codes (txt ps)) _) => i9)
    refine bytes_K F9 N9 (News.isList N9 (by k_mem)) i9 hEb (by have := i9.length; rw [PySem.sizeLine_eq]; omega) rfl ?_
    intro h8 t8 k8 F8 N8 _
    clear F9 N9
    (try k_fold); repeat' (first | (k_unfold; (try dsimp only)) | walk1 | (dsimp only; walk1))
    · exfalso
      rename (_ != _) = true => hq9
      rw [hEy, hE] at hq9
      simp at hq9
    refine Halt.out ?_
    refine LCg.CompSrc.base (by rfl) (by k_asm) (by k_asm) hl (by rw [PySem.sizeLine_eq, List.size_toArray]; omega) ?_
    intro g2
    refine rest_lists (fun k => u8 (Mine.cl k)) hi (fun _ => Or.inl hl) ?_ ?_
    · intro k t I oI C oC D m₂ h tk E' ys nw hk hC hx F N
      have hkr := hps k hk
      have e9 : encI (KStt.codes ⟨#[k.toNat]⟩) (Str.ofString "UTF-8") = u8 (Mine.cl k) := by rw [codes_sgn hkr.1, enc_wide rfl]; simp
      (try k_fold); repeat' (first | (k_unfold; (try dsimp only)) | walk1 | (dsimp only; walk1))
      refine EndL.intro (by assumption) (by assumption) (fun p hp => .tail _ hp) (List.Mem.head _) (by assumption) ?_
      rw [← e9]
      assumption
    · intro yp pn hP hO D9 h9 tk9 F9 N9 o9
      have o9 := off_ne o9
      try simp only [List.cons_append, List.nil_append, List.map_cons, List.map_nil] at N9 o9 hO
      have hyl : (yp.length : Int) = ((ps.length : Nat) : Int) := by have := hP.1; simp only [List.length_map] at this; omega
      (try k_fold); repeat' (first | (k_unfold; (try dsimp only)) | walk1 | (dsimp only; walk1))
      refine Halt.out ?_
      refine LCg.CompSrc.range (n := ps.length) (by rfl) (by k_asm) (by k_asm) (by assumption) (small_one (by omega) (by omega) (by omega) (by omega)) (by first | exact rangeSize_nat _ _ | (rw [rangeSize_nat]; omega)) (by rw [PySem.sizeLine_eq]; omega) ?_
      intro g3
      refine rest_fix (fun i ys => IntsAre ys ((List.range i).map fun k => (offs (ps.map Mine.cl) k : Int))) trivial IntsAre.nil ?_ ?_
      · rintro i v I oI C oC D m₂ h tk E' ys hi1 hJ ⟨t, rfl⟩ hC hx F N off ne
        clear off ne
        (try k_fold); repeat' (first | (k_unfold; (try dsimp only)) | walk1 | (dsimp only; walk1))
        refine Halt.out ?_
        refine LCg.CompSrc.ledger (by rfl) (by k_asm) (by k_asm) (List.Mem.head _) (by rw [PySem.sizeLine_eq, List.size_toArray, List.length_take]; omega) ?_
        intro g4
        refine rest_fix (fun j ys => IntsAre ys ((((ps.map fun k => u8 (Mine.cl k)).take i).take j).map fun ns => (ns.length : Int))) (Or.inr ⟨_, List.Mem.head _, rfl, _, rfl⟩) IntsAre.nil ?_ ?_
        · rintro j v I2 oI2 C2 oC2 D2 m3 h3 tk3 E3 ys2 hj hJ2 hv2 hC2 hx2 F2 N2 _ _
          have hv3 : (yp.take (0 + (i : Int)).toNat)[j]? = some v := by simpa using hv2
          have hji : j < i := by rw [List.size_toArray, List.length_take] at hj; omega
          rw [show (0 + (i : Int)).toNat = i by omega, List.getElem?_take, if_pos hji] at hv3
          obtain ⟨ns, a, us, c, g1, rfl, g2, g3'⟩ := hP.2 j v hv3
          have hul : (us.length : Int) = ((ns.length : Nat) : Int) := by rw [g3'.length]
          have hns : ns.length ≤ 4 := by
            rw [List.getElem?_map] at g1
            obtain ⟨k0, _, rfl⟩ := Option.map_eq_some_iff.mp g1
            exact (u8_len _).2
          (try k_fold); repeat' (first | (k_unfold; (try dsimp only)) | walk1 | (dsimp only; walk1))
          refine EndS.intro (by assumption) (by assumption) (fun p hp => hp) ?_
          rw [List.take_add_one, List.getElem?_take, if_pos hji, g1, List.map_append]
          exact IntsAre.append hJ2 (IntsAre.cons _ _ IntsAre.nil)
        · intro ys2 hJ2
          rw [List.size_toArray, List.length_take, show (0 + (i : Int)).toNat = i by omega, List.take_of_length_le (by rw [List.length_take, List.length_map]; omega), show (ps.map fun k => u8 (Mine.cl k)) = (ps.map Mine.cl).map u8 by rw [List.map_map]; rfl] at hJ2
          (try k_fold); repeat' (first | (k_unfold; (try dsimp only)) | walk1 | (dsimp only; walk1))
          refine EndS.intro (by assumption) (by assumption) (fun p hp => by repeat (first | exact hp | apply List.Mem.tail)) ?_
          have e := sum_lens (ps.map Mine.cl) i
          rw [List.range_succ, List.map_append, List.map_cons, List.map_nil, ← e]
          exact IntsAre.append hJ (IntsAre.cons _ _ IntsAre.nil)
      · intro ys hJ
        have hfe : (ps.map fun k => u8 (Mine.cl k)).flatten = encI (KStt.codes (txt ps)) (Str.ofString "UTF-8") := by
          rw [hE, List.flatMap_def, List.map_map]; rfl
        (try k_fold); repeat' (first | (k_unfold; (try dsimp only)) | walk1 | (dsimp only; walk1))
        refine Halt.out ?_
        refine ⟨_, _, _, _, ps.map fun k => u8 (Mine.cl k), rfl, rfl, by k_asm, by k_asm, by k_mem, hP.mono (fun p hp => by repeat (first | exact hp | apply List.Mem.tail)), by rw [hfe, PySem.sizeLine_eq]; omega, ?_⟩
        intro D7 us7 h7 tk7 hu7 ne7 F7 N7
        rw [hfe] at hu7
        (try k_fold); repeat' (first | (k_unfold; (try dsimp only)) | walk1 | (dsimp only; walk1))
        refine Halt.out ?_
        refine LCg.CompSrc.base (by rfl) (by k_asm) (by k_asm) hl' (by rw [PySem.sizeLine_eq, List.size_toArray]; omega) ?_
        intro g5
        refine rest_fix (fun i ys => StrsAre ys ((qs.take i).map sgn)) (Or.inl hl') StrsAre.nil ?_ ?_
        · rintro i v I oI C oC D m₂ h tk E' ys hi1 hJ hv hC hx F N off ne
          obtain ⟨k, t, rfl, hk⟩ := ints_at hi' hv
          have hkr := hqs k (List.mem_of_getElem? hk)
          have e : (qs.take (i + 1)).map sgn = (qs.take i).map sgn ++ [sgn k] := by rw [List.take_add_one, hk]; simp
          clear off ne
          (try k_fold); repeat' (first | (k_unfold; (try dsimp only)) | walk1 | (dsimp only; walk1))
          refine EndS.intro (by assumption) (by assumption) (fun p hp => hp) ?_
          rw [e]
          exact strs_snoc hJ
        · intro ys hJ
          rw [show vs'.toArray.size = qs.length by rw [List.size_toArray]; omega, List.take_length] at hJ
          (try k_fold); repeat' (first | (k_unfold; (try dsimp only)) | walk1 | (dsimp only; walk1))
          · rename _ ≠ _ => hq9
            exact absurd hord hq9
          refine Halt.out ?_
          (rename Fr _ _ _ _ => F9); (rename News _ _ _ _ => N9)
          refine turns_cell (fun op : Obj => _ :: _ :: _ :: _ :: _ :: _ :: _ :: _ :: _ :: _ :: _ :: _ :: _ :: _ :: (_, op) :: _) (fun op => ∃ v, op.data = .cell v) [Str.ofString "piece", Str.ofString "due"] ob4 rfl (fun _ => List.Mem.head _) (IntsAre.cons _ _ (IntsAre.cons _ _ IntsAre.nil)) F9 N9 ⟨_, db4⟩ ?_ ?_
          · intro op n t u h tk I oI hn ⟨ov, hov⟩ off F N
            clear F9 N9
            simp only [List.mem_cons, List.not_mem_nil, or_false] at hn
            have hn2 : 0 ≤ n ∧ n < 1114112 := by
              rcases hn with rfl | rfl
              · exact hps _ (getD_in (show Int.toNat 2 < ps.length from hlen3))
              · exact hqs _ (getD_in (by omega))
            have e9 : encI (KStt.codes ⟨#[n.toNat]⟩) (Str.ofString "UTF-8") = u8 (Mine.cl n) := by rw [codes_sgn hn2.1, enc_wide rfl]; simp
            have hcn := cl_range hn2.1 hn2.2
            have hpn : (encI (KStt.codes ⟨#[n.toNat]⟩) (Str.ofString "UTF-8")).length < 1000 := by rw [e9]; have := u8_len (Mine.cl n); omega
            have hpl : placesF (encI (KStt.codes (txt ps)) (Str.ofString "UTF-8")) (encI (KStt.codes ⟨#[n.toNat]⟩) (Str.ofString "UTF-8")) ((encI (KStt.codes (txt ps)) (Str.ofString "UTF-8")).length + 1 - (encI (KStt.codes ⟨#[n.toNat]⟩) (Str.ofString "UTF-8")).length) = dueF (ps.map Mine.cl) (Mine.cl n) ps.length := by
              rw [e9, hE, places_due hEr hcn.1 hcn.2, hmlen]
            (try k_fold); repeat' (first | (k_unfold; (try dsimp only)) | walk1 | (dsimp only; walk1))
            refine Halt.out ?_
            refine LCt.CompSrcT.range (n := ps.length) (by rfl) (by k_asm) (by k_asm) (by assumption) (small_one (by omega) (by omega) (by omega) (by omega)) (by rw [rangeSize_nat]; omega) (by rw [PySem.sizeLine_eq]; omega) ?_
            intro g6
            refine restT_fix (fun i ys => IntsAre ys (dueF (ps.map Mine.cl) (Mine.cl n) i)) trivial IntsAre.nil ?_ ?_
            · rintro i v I2 oI2 C2 oC2 D2 m3 h3 tk3 E3 ys2 hi1 hJ2 ⟨t2, rfl⟩ hC2 hx2 F2 N2 off2 ne2
              clear off2 ne2
              have e8 : ((List.range ps.length).map fun k => (offs (ps.map Mine.cl) k : Int)).getD (0 + (i : Int)).toNat 0 = (offs (ps.map Mine.cl) i : Int) := by
                rw [show (0 + (i : Int)).toNat = i by omega]
                simp [List.getD, hi1]
              (try k_fold); repeat' (first | (k_unfold; (try dsimp only)) | walk1 | (dsimp only; walk1))
              · refine EndS.intro (by assumption) (by assumption) (fun p hp => by repeat (first | exact hp | apply List.Mem.tail)) ?_
                rename List.getD _ _ _ = _ => hq9
                rw [show (0 + (i : Int)).toNat = i by omega] at hq9
                have hq8 : (ps.map Mine.cl).getD i 0 = Mine.cl n := hq9
                rw [dueF_hit hq8, e8]
                exact IntsAre.append hJ2 (IntsAre.cons _ _ IntsAre.nil)
              · refine EndS.intro (by assumption) (by assumption) (fun p hp => by repeat (first | exact hp | apply List.Mem.tail)) ?_
                rename ¬ List.getD _ _ _ = _ => hq9
                rw [show (0 + (i : Int)).toNat = i by omega] at hq9
                have hq8 : ¬ (ps.map Mine.cl).getD i 0 = Mine.cl n := hq9
                rw [dueF_miss hq8]
                exact hJ2
            · intro ys2 hJ2
              rw [← hpl] at hJ2
              (try k_fold); repeat' (first | (k_unfold; (try dsimp only)) | walk1 | (dsimp only; walk1))
              refine Halt.out ?_
              (rename Fr _ _ _ _ => F9); (rename News _ _ _ _ => N9); (rename _ = Data.cell (some (Value.int n t)) => dn)
              refine endT_ _ F9 N9 (fun p hp => ?_) ?_ ?_ (⟨_, dn⟩ : ∃ v, Obj.data _ = .cell v) ?_
              · repeat (first | exact hp | apply List.Mem.tail)
              · k_mem
              · exact ne_map (by rfl) off
              · intro z hz
                have h1 : z ≠ Str.ofString "piece" := by rintro rfl; exact absurd hz (by decide)
                have h2 : z ≠ Str.ofString "due" := by rintro rfl; exact absurd hz (by decide)
                simp only [if_neg h1, if_neg h2, hz]
                rfl
          · intro op u h tk ⟨ov, hov⟩ F N
            clear F9 N9
            (try k_fold); repeat' (first | (k_unfold; (try dsimp only)) | walk1 | (dsimp only; walk1))
            refine hret _ _ _ (Fr.keep (by assumption)) ?_
            rfl
end
end
section
/-! S14a -/
section
/-- some int -/
noncomputable def RZ : Value → Heap → Prop := fun v _ => ∃ n t, v = .int n t
/-- some point -/
noncomputable def RP : Value → Heap → Prop := fun v _ => ∃ p t, v = .int p t ∧ 0 ≤ p ∧ p < 1114112
theorem sp_digit {w mg mb mean s} {l : Addr} {vs : List Value} {ns : List Int} {k : Int} {t : Tok} (hl : s.heap.IsList l vs.toArray) (hi : IntsAre vs ns) (h0 : 0 ≤ k) (h1 : k < 100) (hn : ns.length ≤ 63) : Okc w mg mb mean 114 [.ref l, .int k t] 1 s RZ := by
  k_with_none
  k_with "execs cons" => first | k_fold | fail
  k_with "spliced" => first | (k_here; (with_reducible show wpAny _ _ (spliced (backTo _ (starEach (_ :: _ :: _) _))) _ _ _); (with_reducible refine spliced_consts (by with_unfolding_all rfl) ?_); intro f0 t0; dsimp only [valsF, Nat.reduceAdd]) | fail
  k_with "FinE" => first | (k_dflt (intro D0' h0' tk0' F0' N0' o0'); (have o0' := off_ne o0'); (try simp only [List.cons_append, List.nil_append, List.map_cons, List.map_nil] at N0' o0'); (try dsimp only); (try k_fold)) | fail
  k_with "FinA" => first | (k_dflt (intro D0' h0' tk0' F0' N0' o0'); (have o0' := off_ne o0'); (try simp only [List.cons_append, List.nil_append, List.map_cons, List.map_nil] at N0' o0'); (try dsimp only); (try k_fold)) | fail
  k_with "LeaveS" => first | (refine leaveS_ (by assumption) ?_; (try dsimp only)) | fail
  k_with "binaryOp RShift int int" => first | (k_here; (with_reducible refine rshift_int (by decide) ?_)) | fail
  unfold Okc
  k_fill
  intro dp un gd cn cs a ccd cl outer A₀ base h₀ L m Q E B F X T hk hd hu hret
  w_top on
  refine wpAny_call ?_
  k_dflt (refine' enterS ?k1 ?k2 ?k3 ?k5 ?kA ?kF ?kK ?k6 ?k7 ?k8 ?k9 ?kB ?_ ?c2 ?c3 ?c4 ?c5; (case kA => exact rfl); (case kF => exact rfl); (case kK => assumption); (case k1 => k_asm); (case k2 => k_asm); (case k3 => k_asm); (case k5 => k_asm); (case k6 => k_is); (case k7 => k_is); (case k8 => ktr_room); (case k9 => exact BindsTo.of_eq rfl); (case c5 => decide); (case kB => exact locs rfl); (case c2 => exact rfl); (case c3 => exact rfl); (case c4 => exact rfl); k_whole; intro L' h' F' N' B' X' T'; (try dsimp only); (try k_fold))
  clear B F X T hk
  (try k_fold); repeat' (first | (k_unfold; (try dsimp only)) | walk1 | (dsimp only; walk1))
  all_goals refine hret _ _ _ (Fr.keep (by assumption)) ?_
  all_goals exact ⟨_, _, rfl⟩
theorem hi_range {k : Nat} (h : k < 32) : 0 ≤ hiT.getD k 0 ∧ hiT.getD k 0 < 1114112 := by
  have key : ∀ e : Fin 32, 0 ≤ hiT.getD e.val 0 ∧ hiT.getD e.val 0 < 1114112 := by decide +kernel
  exact key ⟨k, h⟩
theorem ed_range {k : Nat} (h : k < 27) : 0 ≤ ([127, 256, 128, 160, 255, 159, 65536, 2047, 2048, 65535, 1114111, 55295, 55296, 57343, 57344, 65533, 129, 130, 0, 38, 262143, 262144, 64976, 65534, 65279, 157, 35] : List Int).getD k 0 ∧ ([127, 256, 128, 160, 255, 159, 65536, 2047, 2048, 65535, 1114111, 55295, 55296, 57343, 57344, 65533, 129, 130, 0, 38, 262143, 262144, 64976, 65534, 65279, 157, 35] : List Int).getD k 0 < 1114112 := by
  have key : ∀ e : Fin 27, 0 ≤ ([127, 256, 128, 160, 255, 159, 65536, 2047, 2048, 65535, 1114111, 55295, 55296, 57343, 57344, 65533, 129, 130, 0, 38, 262143, 262144, 64976, 65534, 65279, 157, 35] : List Int).getD e.val 0 ∧ ([127, 256, 128, 160, 255, 159, 65536, 2047, 2048, 65535, 1114111, 55295, 55296, 57343, 57344, 65533, 129, 130, 0, 38, 262143, 262144, 64976, 65534, 65279, 157, 35] : List Int).getD e.val 0 < 1114112 := by decide +kernel
  exact key ⟨k, h⟩
theorem fm_range (a : Int) {b : Int} (h : 0 < b) : 0 ≤ a.fmod b ∧ a.fmod b < b := ⟨Int.fmod_nonneg_of_pos a h, Int.fmod_lt_of_pos a h⟩
theorem sp_point {w mg mb mean s} {n k : Int} {t u : Tok} (h0 : 0 ≤ k) (h1 : k < 8) : Okc w mg mb mean 128 [.int n t, .int k u] 4 s RP := by
  k_with_none
  k_with "execs cons" => first | k_fold | fail
  k_with "spliced" => first | (k_here; (with_reducible show wpAny _ _ (spliced (backTo _ (starEach (_ :: _ :: _) _))) _ _ _); (with_reducible refine spliced_consts (by with_unfolding_all rfl) ?_); intro f0 t0; dsimp only [valsF, Nat.reduceAdd]) | fail
  k_with "FinE" => first | (k_dflt (intro D0' h0' tk0' F0' N0' o0'); (have o0' := off_ne o0'); (try simp only [List.cons_append, List.nil_append, List.map_cons, List.map_nil] at N0' o0'); (try dsimp only); (try k_fold)) | fail
  k_with "FinA" => first | (k_dflt (intro D0' h0' tk0' F0' N0' o0'); (have o0' := off_ne o0'); (try simp only [List.cons_append, List.nil_append, List.map_cons, List.map_nil] at N0' o0'); (try dsimp only); (try k_fold)) | fail
  k_with "LeaveS" => first | (refine leaveS_ (by assumption) ?_; (try dsimp only)) | fail
  k_with "binaryOp RShift int int" => first | (k_here; (with_reducible refine rshift_int (by decide) ?_)) | fail
  k_with "call ref" => first | (k_here; (with_reducible show wpAny _ _ (call (Value.ref 121) _) _ _ _); k_dflt (refine useL (sp_high) (by k_asm) (by k_asm) (by k_asm) (by k_in) (by k_asm) (by first | exact rfl | assumption) (by ktr_room) (by ktr_units) ?_; k_whole); intro b8 us8 c8 h8 tk8 i8 ne8 F8 N8; (try dsimp only); (try k_fold)) | fail
  have hhl : hiT.length = 32 := rfl
  unfold Okc
  k_fill
  intro dp un gd cn cs a ccd cl outer A₀ base h₀ L m Q E B F X T hk hd hu hret
  w_top on
  refine wpAny_call ?_
  k_dflt (refine' enterS ?k1 ?k2 ?k3 ?k5 ?kA ?kF ?kK ?k6 ?k7 ?k8 ?k9 ?kB ?_ ?c2 ?c3 ?c4 ?c5; (case kA => exact rfl); (case kF => exact rfl); (case kK => assumption); (case k1 => k_asm); (case k2 => k_asm); (case k3 => k_asm); (case k5 => k_asm); (case k6 => k_is); (case k7 => k_is); (case k8 => ktr_room); (case k9 => exact BindsTo.of_eq rfl); (case c5 => decide); (case kB => exact locs rfl); (case c2 => exact rfl); (case c3 => exact rfl); (case c4 => exact rfl); k_whole; intro L' h' F' N' B' X' T'; (try dsimp only); (try k_fold))
  clear B F X T hk
  (try k_fold); repeat' (first | (k_unfold; (try dsimp only)) | walk1 | (dsimp only; walk1))
  all_goals refine hret _ _ _ (Fr.keep (by assumption)) ?_
  · have := fm_range (n.fdiv 4 + k) (b := 32) (by decide)
    exact ⟨_, _, rfl, hi_range (by omega)⟩
  · have := fm_range (n.fdiv 4 + k) (b := 131) (by decide)
    exact ⟨_, _, rfl, by omega, by omega⟩
  · have := fm_range (n.fdiv 4 + k) (b := 27) (by decide)
    exact ⟨_, _, rfl, ed_range (by omega)⟩
  · have := fm_range (n.fdiv 4 + k + 4099 * k) (b := 1114112) (by decide)
    exact ⟨_, _, rfl, this.1, this.2⟩
end
section
variable {w : World} {mg mb : Str → Option Value} {mean : ExcName → Option Value} {f : Addr} {vs : List Value} {need : Nat} {s : Shared}
  {dp un : Nat} {gd : Option (List Code)} {cn : Str} {cs : Scope} {a : Addr} {ccd : Value} {cl : List (Str × Addr)} {outer : List Env} {A₀ : Around} {base h₀ : Heap} {L : Addr} {m : Str → Option Value} {Q E : Value → Shared → Prop} {news : List (Addr × Obj)}
theorem useZ (C : Okc w mg mb mean f vs need s RZ) (B : Below A₀ base outer h₀) (F : Fr h₀ L s.heap m) (N : News h₀ L s.heap news) (X : (Mine.hd.heap_39 w.params).In h₀) (T : Top Mine.view (looseW Mine.view []) mean mg mb h₀) (hk : cs.kind = .function) (hd : dp + need < recursionLimit) (hu : un + 8 * need < cLine)
    (ret : ∀ n t h' tk', Fr h₀ L h' m → News h₀ L h' news → Q (.int n t) { s with heap := h', toks := tk' }) :
    wpAny (model PySem.Challenge.rw_nt0588_01.row.prog w) (ktrTop dp un gd cn cs L a ccd cl outer) (call (.ref f) vs) Q E s :=
  C _ _ _ _ _ _ _ _ _ _ _ _ _ _ _ _ B F X T hk hd hu fun v h' tk' st r => by
    obtain ⟨n, t, rfl⟩ := r
    exact ret n t h' tk' (Fr.stays F st) (News.stays N st)
theorem useP (C : Okc w mg mb mean f vs need s RP) (B : Below A₀ base outer h₀) (F : Fr h₀ L s.heap m) (N : News h₀ L s.heap news) (X : (Mine.hd.heap_39 w.params).In h₀) (T : Top Mine.view (looseW Mine.view []) mean mg mb h₀) (hk : cs.kind = .function) (hd : dp + need < recursionLimit) (hu : un + 8 * need < cLine)
    (ret : ∀ n t h' tk', (0 ≤ n ∧ n < 1114112) → Fr h₀ L h' m → News h₀ L h' news → Q (.int n t) { s with heap := h', toks := tk' }) :
    wpAny (model PySem.Challenge.rw_nt0588_01.row.prog w) (ktrTop dp un gd cn cs L a ccd cl outer) (call (.ref f) vs) Q E s :=
  C _ _ _ _ _ _ _ _ _ _ _ _ _ _ _ _ B F X T hk hd hu fun v h' tk' st r => by
    obtain ⟨n, t, rfl, h⟩ := r
    exact ret n t h' tk' h (Fr.stays F st) (News.stays N st)
end
end
section
/-! XC -/
/-- the tail of a class whose base's base is Exception -/
abbrev bmE : List Value := [.type "Exception", .type "BaseException", .type "object"]
noncomputable def quietN : List Str := ["__init__", "__getattribute__", "__getattr__", "__setattr__", "why"]
/-- a class without a body of its own, under a class with an __init__ alone, under Exception -/
structure CP where
  (nm q : Str) (N : Addr) (bs : List Value) (sn : List Str) (sub : List Value) (ab : Bool) (col : Option Bool) (dd : Option Addr) (k0 k1 k2 k3 k5 : Option Value)
abbrev CP.obj (c : CP) (C : Addr) (bm : List Value) : Obj := excClassObj c.nm c.q C c.N c.bs bm true c.sn c.sub c.ab c.col c.dd c.k0 c.k1 c.k2 c.k3 c.k5 "Exception.__new__"
noncomputable def Low (h : Heap) (C fI : Addr) : Prop :=
  ∃ (D : Addr) (c c' : CP) (mN mN' : Str → Option Value), h.get? C = some (c.obj C (.ref D :: bmE)) ∧ h.get? D = some (c'.obj D bmE) ∧
    h.Ns c.N mN ∧ h.Ns c'.N mN' ∧ mN' "__init__" = some (.ref fI) ∧ (∀ n ∈ quietN, mN n = none) ∧ (∀ n ∈ quietN, n ≠ "__init__" → mN' n = none) ∧
    ∃ oI, h.get? fI = some oI ∧ oI.cls = .type "function"
theorem Low.keeps {h h' : Heap} {C fI : Addr} (x : Low h C fI) (k : ∀ b o, h.get? b = some o → h'.get? b = some o) : Low h' C fI := by
  obtain ⟨D, c, c', mN, mN', hC, hD, hn, hn', hi, q1, q2, oI, ho, hc⟩ := x
  exact ⟨D, c, c', mN, mN', k _ _ hC, k _ _ hD, hn.keeps k, hn'.keeps k, hi, q1, q2, oI, k _ _ ho, hc⟩

section
variable {M : Model} {A : Around} {E : Value → Shared → Prop} {h : Heap} {g : Array GenState} {d : Drawn} {t : Nat} {os : OsState} {C fI : Addr}
theorem along_low {D : Addr} {c : CP} {mN' : Str → Option Value} {name : Str} {y : Option Value} {Q : Option Value → Shared → Prop}
    (hD : h.get? D = some (c.obj D bmE)) (hn' : h.Ns c.N mN') (hB : typeLookup (.type "Exception") name = pure y)
    (hq : Q (match mN' name with | some v => some v | none => y) ⟨h, g, d, t, os⟩) : wpAny M A (lookupAlong (.ref D :: bmE) name) Q E ⟨h, g, d, t, os⟩ := by
  have hrest : lookupAlong bmE name = pure y := by rw [typeLookup_eq, F.excBase_Exception.mroIs] at hB; exact hB
  rw [lookupAlong_cons]
  refine wpAny_bind (wpAny_classOwn_exc hD hn' ?_)
  cases hv : mN' name with
  | some v => rw [hv] at hq; exact wpAny_pure hq
  | none => rw [hv] at hq; show wpAny M A (lookupAlong bmE name) Q E _; rw [hrest]; exact wpAny_pure hq
theorem lk_low (O : Low h C fI) {name : Str} (hm : name ∈ quietN) (hne : name ≠ "__init__") {y : Option Value} {Q : Option Value → Shared → Prop} (hB : typeLookup (.type "Exception") name = pure y)
    (hq : Q y ⟨h, g, d, t, os⟩) : wpAny M A (typeLookup (.ref C) name) Q E ⟨h, g, d, t, os⟩ := by
  obtain ⟨D, c, c', mN, mN', hC, hD, hn, hn', hi, q1, q2, _⟩ := O
  rw [typeLookup_eq]
  refine wpAny_bind (wpAny_mroOf_exc hC ?_)
  rw [lookupAlong_cons]
  refine wpAny_bind (wpAny_classOwn_exc hC hn ?_)
  rw [q1 _ hm]
  refine along_low hD hn' hB ?_
  rw [q2 _ hm hne]
  exact hq
theorem lk_low_init (O : Low h C fI) {Q : Option Value → Shared → Prop}
    (hq : Q (some (.ref fI)) ⟨h, g, d, t, os⟩) : wpAny M A (typeLookup (.ref C) "__init__") Q E ⟨h, g, d, t, os⟩ := by
  obtain ⟨D, c, c', mN, mN', hC, hD, hn, hn', hi, q1, q2, _⟩ := O
  rw [typeLookup_eq]
  refine wpAny_bind (wpAny_mroOf_exc hC ?_)
  rw [lookupAlong_cons]
  refine wpAny_bind (wpAny_classOwn_exc hC hn ?_)
  rw [q1 _ (List.Mem.head _)]
  refine along_low hD hn' F.excBase_Exception.init.lookup ?_
  rw [hi]
  exact hq
end

section
variable {prog : Program} {w : World} {A : Around} {E : Value → Shared → Prop} {h : Heap} {g : Array GenState} {d : Drawn} {t : Nat} {os : OsState} {C fI : Addr}
theorem new_low (O : Low h C fI) {rest : List Value} {R : Result → Shared → Prop}
    (hq : R (.ok (.ret (.ref (h.objs.size + 1)))) ⟨(h.push { cls := .type "tuple", data := .seq rest.toArray }).push
      { cls := .ref C, data := .fields #[.ref h.objs.size, .none, .none, .none, .bool false, .none] }, g, d, t, os⟩) (hrest : rest.length ≤ sizeLine := by size_fits) :
    codeAny (model prog w) A (.builtin "Exception.__new__" ⟨.ref C :: rest, []⟩) R ⟨h, g, d, t, os⟩ := by
  obtain ⟨D, c, c', mN, mN', hC, hD, hn, hn', hi, q1, q2, _⟩ := O
  have hends := F.excBase_Exception.ends
  have hcB : (Value.ref C :: .ref D :: bmE).contains (.type "Exception") = true := rfl
  have hcA : (Value.ref C :: .ref D :: bmE).contains (.type "AttributeError") = false := rfl
  have hcN : (Value.ref C :: .ref D :: bmE).contains (.type "NameError") = false := rfl
  refine codeAny_builtinAt F.excBase_Exception.entry ?_
  unfold Builtin.«BaseException.__new__»
  refine PySem.wpAt_bind ?_
  show PySem.wpAt _ _ _ (stack >>= _) _ _ _
  refine PySem.wpAt_bind (PySem.wpAt_stack fun p below => PySem.wpAt_of_wpAny ?_)
  wp_walk
  refine PySem.wpAt_of_wpAny ?_
  rw [F.excBase_Exception.owner]
  repeat (first | with_reducible refine wpAny_madeHere_exc F.excBase_Exception.canon hC ?_ | with_reducible refine wpAny_loadPart_at hC ?_ | (with_reducible refine wpAny_isSubtype_exc hC ?_; first | rw [hcB] | rw [hcA] | rw [hcN]) | wp_step)
  show R _ _
  rw [Heap.size_push]
  exact hq
theorem check_new_low (O : Low h C fI) {M : Model} {rest : List Value} {Q : Unit → Shared → Prop}
    (hq : Q () ⟨h, g, d, t, os⟩) : wpAny M A (checkBuiltinCall "Exception.__new__" ⟨.ref C :: rest, []⟩) Q E ⟨h, g, d, t, os⟩ := by
  obtain ⟨D, c, c', mN, mN', hC, _⟩ := O
  exact wpAny_check_new_subU (bmB := .ref D :: bmE) F.excBase_Exception rfl .base hC hq
theorem tcall_low (O : Low h C fI) {rest : List Value} {Q : Fin → Shared → Prop}
    (hq : ∀ h' e, Heap.MadeExcOf h h' e (.ref C) rest →
      wpAny (model prog w) A (call (.ref fI) (.ref e :: rest)) (fun r s' => r = .none ∧ Q (.done (.ret (.ref e))) s') E ⟨h', g, d, t, os⟩) (hrest : rest.length ≤ sizeLine := by size_fits) :
    wpAny (model prog w) A (Builtin.«type.__call__» ⟨.ref C :: rest, []⟩) Q E ⟨h, g, d, t, os⟩ := by
  have O' := O
  obtain ⟨D, c, c', mN, mN', hC, hD, hn, hn', hi, q1, q2, oI, hfI, hfc⟩ := O
  repeat (first | with_reducible refine wpAny_loadPart_at hC ?_ | with_reducible refine wpAny_madeBy_exc hC ?_ | wp_step)
  refine codeAny_call_builtin_code (Code.quiet_builtin _ F.excBase_Exception.quiet) (check_new_low O' ?_)
  refine new_low O' ?_ hrest
  show wpAny _ _ _ _ _ _
  have hk : ∀ b o, h.get? b = some o → ((h.push { cls := .type "tuple", data := .seq rest.toArray }).push { cls := .ref C, data := .fields #[.ref h.objs.size, .none, .none, .none, .bool false, .none] }).get? b = some o :=
    fun b o e => Heap.get?_push_of_some _ (Heap.get?_push_of_some _ e)
  have hC₁ := hk _ _ hC
  have hfI₁ := hk _ _ hfI
  have O₁ := O'.keeps hk
  have hget : ((h.push { cls := .type "tuple", data := .seq rest.toArray }).push
      { cls := .ref C, data := .fields #[.ref h.objs.size, .none, .none, .none, .bool false, .none] }).get? (h.objs.size + 1) = some
      { cls := .ref C, data := .fields #[.ref h.objs.size, .none, .none, .none, .bool false, .none] } := by heap_get
  have hcC : (Value.ref C :: .ref D :: bmE).contains (.ref C) = true := by simp
  unfold isInstance
  repeat (first | with_reducible refine wpAny_loadPart_at hget ?_ | (with_reducible refine wpAny_isSubtype_exc hC₁ ?_; rw [hcC]) | wp_step)
  show wpAny _ _ (typeLookup (.ref C) _) _ _ _
  refine lk_low_init O₁ ?_
  refine wpAny_holding (wpAny_bind ?_)
  unfold bindSpecial
  refine wpAny_bind (wpAny_typeOf (T := "function") ⟨_, hfI₁, hfc⟩ ?_)
  rw [if_pos (by decide)]
  refine wpAny_pure (wpAny_bind (wpAny_mono (hq _ (h.objs.size + 1) ⟨hk, Heap.get?_none_of_le (Nat.le_succ _), h.objs.size, hget, Heap.get?_none_of_le (Nat.le_refl _), ?_⟩) (fun r s' hr => ?_) fun _ _ x => x))
  · exact Heap.get?_push_of_some _ (Heap.get?_push_at rfl rfl)
  · obtain ⟨rfl, hQ⟩ := hr
    wp_walk
    exact hQ
theorem call_low (O : Low h C fI) {rest : List Value} {Q : Value → Shared → Prop}
    (hq : ∀ h' e, Heap.MadeExcOf h h' e (.ref C) rest →
      wpAny (model prog w) (A.under (.builtin "type.__call__" ⟨.ref C :: rest, []⟩)) (call (.ref fI) (.ref e :: rest)) (fun r s' => r = .none ∧ Q (.ref e) s') E ⟨h', g, d, t, os⟩) (hrest : rest.length ≤ sizeLine := by size_fits) :
    wpAny (model prog w) A (call (.ref C) rest) Q E ⟨h, g, d, t, os⟩ := by
  have f1 := tc_lookup
  have f2 := tc_bind (.ref C)
  have O' := O
  obtain ⟨D, c, c', mN, mN', hC, _⟩ := O
  have hT : (⟨h, g, d, t, os⟩ : Shared).TypeIs (.ref C) "type" := ⟨_, hC, rfl⟩
  refine wpAny_call (codeAny_of_tree ?_)
  show wpAny _ _ (callAny (.ref C) _) _ _ _
  repeat (any_goals (first | assumption | with_reducible refine wpAny_loadPart_at hC ?_ | wp_step))
  refine ⟨rfl, ?_⟩
  refine codeAny_call_builtin_at (Code.quiet_builtin _ (by decide +kernel)) entry_typeCall (wpAny_check_type_call_sub hC (tcall_low (hrest := hrest) O' fun h' e hm => ?_))
  exact hq h' e hm
end
end
section
/-! XD -/
open Builtin Builtin.ObjectAttr

section
variable {prog : Program} {w : World} {A : Around} {E : Value → Shared → Prop} {h : Heap} {g : Array GenState} {d : Drawn} {t : Nat} {os : OsState} {C fI x : Addr}
theorem init_bi (O : Low h C fI) {e t0 : Addr} {rest : List Value} {Q : Value → Shared → Prop}
    (he : h.get? e = some { cls := .ref C, data := .fields #[.ref t0, .none, .none, .none, .bool false, .none] })
    (hq : ∀ h' t1, h'.get? e = some { cls := .ref C, data := .fields #[.ref t1, .none, .none, .none, .bool false, .none] } → (∀ b o, b ≠ e → h.get? b = some o → h'.get? b = some o) → Q .none ⟨h', g, d, t, os⟩) (hrest : rest.length ≤ sizeLine := by size_fits) :
    wpAny (model prog w) A (call (.builtin "Exception.__init__") (.ref e :: rest)) Q E ⟨h, g, d, t, os⟩ := by
  obtain ⟨D, c, c', mN, mN', hC, _⟩ := O
  have hcB : (Value.ref C :: .ref D :: bmE).contains (.type "Exception") = true := rfl
  have hshort := F.excBase_Exception.noStar
  refine wpAny_call (codeAny_call_builtin F.excBase_Exception.init.plain F.excBase_Exception.initEntry ?_)
  simp only [checkBuiltinCall, F.excBase_Exception.initKind, F.excBase_Exception.initSplit, F.excBase_Exception.initRow]
  repeat (first | (with_reducible refine wpAny_loadPart_at he ?_) | with_reducible refine wpAny_loadPart_at hC ?_ | (with_reducible refine wpAny_isSubtype_exc hC ?_; rw [hcB]) | wp_step)
  refine wpAny_onRaise ?_
  rw [show ∀ (a b : String) (n : Nat), Bind.check ⟨.positional, "*", "Exception", .self, [⟨"args", .varPos, false⟩]⟩ a b n (List.map (fun x => x.fst) ({ pos := Value.ref e :: rest } : Args).kw) = pure () from
    fun a b n => check_star_args _ _ _ _ _ _]
  refine wpAny_pure ?_
  have he₁ := Heap.get?_push_of_some { cls := .type "tuple", data := .seq rest.toArray } he
  wp_walk
  refine hq _ h.objs.size (Heap.get?_update_self _ he₁ rfl) fun b o hb hbo => ?_
  rw [Heap.get?_update_other _ _ (Ne.symm hb)]
  exact Heap.get?_push_of_some _ hbo
end

theorem lk_why : typeLookup (.type "Exception") "why" = pure none := by rw [typeLookup_type, builtinLookup_eq_fast]; kernel_rfl
section
variable {prog : Program} {w : World} {A : Around} {E : Value → Shared → Prop} {h : Heap} {g : Array GenState} {d : Drawn} {t : Nat} {os : OsState} {C fI x : Addr} {v : Value} {vs : Array Value}
theorem mro_low (O : Low h C fI) {M : Model} {Q : List Value → Shared → Prop} (hq : ∀ D, Q (.ref C :: .ref D :: bmE) ⟨h, g, d, t, os⟩) : wpAny M A (mroOf (.ref C)) Q E ⟨h, g, d, t, os⟩ := by
  obtain ⟨D, c, c', mN, mN', hC, _⟩ := O
  exact wpAny_mroOf_exc hC (hq D)
theorem set_entry {tk : Tok} {o : Obj} {Q : Fin → Shared → Prop} (O : Low h C fI) (hx : h.get? x = some o) (hc : o.cls = .ref C) (hdn : o.dict = none) (hdv : o.data = .fields vs) (hsl : o.slots = #[])
    (hq : ∀ h' D tk', h'.get? x = some { cls := .ref C, dict := some D, data := .fields vs } → h.get? D = none → D ≠ x → h'.Ns D (fun y => if y = "why" then some v else none) →
      (∀ b o, b ≠ x → h.get? b = some o → h'.get? b = some o) → Q (.done (.ret .none)) ⟨h', g, d, tk', os⟩) :
    wpAny (model prog w) A (Builtin.«object.__setattr__» ⟨[.ref x, .str "why" tk, v], []⟩) Q E ⟨h, g, d, t, os⟩ := by
  have hpass := F.store_Exception.passes (.ref x)
  have hm : ("why" : Str) ∈ quietN := .tail _ (.tail _ (.tail _ (.tail _ (.head _))))
  have hne : ("why" : Str) ≠ "__init__" := by decide
  have O' := O
  obtain ⟨D, c, c', mN, mN', hC, _⟩ := O
  unfold Builtin.«object.__setattr__»
  repeat (first | rw [refuse_eq] | (rw [refuseLoop_ref, refuseLoop_ref, hpass]) | (with_reducible refine wpAny_loadPart_at hx ?_; rw [hc]) | with_reducible refine wpAny_mroOf_exc hC ?_ | with_reducible refine lk_low O' hm hne lk_why ?_ | wp_step)
  rw [hdn, if_neg (by simp [typeHasDict])]
  split
  · rename_i hcd
    cases hcd
  split
  · rename_i c hcd
    rw [hcd] at hdv; cases hdv
  have hx₁ : (h.push { cls := .type "dict", data := .dict #[] }).get? x = some o := Heap.get?_push_of_some _ hx
  have hxs : x ≠ h.objs.size := Nat.ne_of_lt (Heap.lt_size hx)
  refine wpAny_bind (wpAny_alloc' ?_)
  refine wpAny_bind (wpAny_update' hx₁ ?_)
  refine wpAny_pure ?_
  have hgd : ((h.push { cls := .type "dict", data := .dict #[] }).update x fun o => { cls := o.cls, dict := some h.objs.size, data := o.data, slots := o.slots }).get? h.objs.size
      = some { cls := .type "dict", data := .dict #[] } :=
    (Heap.get?_update_ne _ _ _ _ hxs.symm).trans (Heap.get?_push_at rfl rfl)
  have hnd : ((h.push { cls := .type "dict", data := .dict #[] }).update x fun o => { cls := o.cls, dict := some h.objs.size, data := o.data, slots := o.slots }).Ns h.objs.size (fun _ => none) :=
    ⟨_, #[], _, hgd, rfl, fun e he => absurd he (by simp), fun _ => rfl⟩
  show wpAny _ _ (storeInDict h.objs.size (.str "why" tk) "why" v) _ _ _
  unfold storeInDict newKeyGuard
  refine wpAny_bind (wpAny_pure (wpAny_bind (wpAny_nsSet1 (Heap.Ns1.of_empty hnd) fun h' hn' hs => ?_)))
  obtain ⟨oD, esD, epD, hoD, hdD, hcD⟩ := hn'.count (Within.cons "why" v Within.nil)
  refine wpAny_bind (wpAny_lookBehind hoD (by rw [hdD]; exact pastItsLine_dict (Nat.le_trans hcD (by rw [List.length_cons, List.length_nil, sizeLine_eq]; omega))) ?_)
  wp_walk
  refine hq h' h.objs.size _ ((hs.2 x hxs).trans ((Heap.get?_update_self _ hx₁ ?_).trans (by rw [hc, hdv, hsl]))) (Heap.get?_none_of_le (Nat.le_refl _)) hxs.symm ?_ fun b ob hbx hb => ?_
  · have hfr := (Heap.get?_some_iff.mp hx).2
    obtain ⟨oc, od, odt, osl⟩ := o
    cases odt <;> first | rfl | exact hfr
  · exact hn'.ns
  · exact (hs.2 b (Nat.ne_of_lt (Heap.lt_size hb))).trans ((Heap.get?_update_ne _ _ _ _ hbx).trans (Heap.get?_push_of_some _ hb))
theorem set_check (O : Low h C fI) {M : Model} {o : Obj} {nameV : Value} {Q : Unit → Shared → Prop} (hx : h.get? x = some o) (hc : o.cls = .ref C) (hq : Q () ⟨h, g, d, t, os⟩) :
    wpAny M A (checkBuiltinCall "object.__setattr__" ⟨[.ref x, nameV, v], []⟩) Q E ⟨h, g, d, t, os⟩ := by
  obtain ⟨D, c, c', mN, mN', hC, _⟩ := O
  have SF := F.store_Exception
  have hcB : (Value.ref C :: .ref D :: bmE).contains (.type "object") = true := rfl
  have ha := SF.args (.ref x) nameV v
  simp only [checkBuiltinCall, SF.kind, SF.split]
  refine wpAny_bind ?_
  · unfold isInstance
    repeat (first | (with_reducible refine wpAny_loadPart_at hx ?_; rw [hc]) | (with_reducible refine wpAny_isSubtype_exc hC ?_; rw [hcB]) | wp_step)
    exact hq
theorem set_low {Q : Unit → Shared → Prop} (O : Low h C fI) (hx : h.get? x = some { cls := .ref C, data := .fields vs })
    (hq : ∀ h' D tk', h'.get? x = some { cls := .ref C, dict := some D, data := .fields vs } → h.get? D = none → D ≠ x → h'.Ns D (fun y => if y = "why" then some v else none) →
      (∀ b o, b ≠ x → h.get? b = some o → h'.get? b = some o) → Q () ⟨h', g, d, tk', os⟩) :
    wpAny (model prog w) A (setAttr (.ref x) "why" v) Q E ⟨h, g, d, t, os⟩ := by
  have SF := F.store_Exception
  have f3 := SF.slot.bind (.ref x)
  have hm : ("__setattr__" : Str) ∈ quietN := .tail _ (.tail _ (.tail _ (.head _)))
  have hne : ("__setattr__" : Str) ≠ "__init__" := by decide
  unfold setAttr callSpecial? specialOf
  repeat (any_goals (first | assumption | with_reducible refine wpAny_loadPart_at hx ?_ | with_reducible refine lk_low O hm hne SF.slot.lookup ?_ | wp_step))
  refine codeAny_call_builtin SF.slot.plain SF.entry (set_check O hx rfl (set_entry O hx rfl rfl rfl rfl fun h' D tk' x1 x2 x3 x4 x5 => ?_))
  repeat (any_goals (first | assumption | wp_step))
  exact hq h' D tk' x1 x2 x3 x4 x5
end
end
section
/-! XI -/
theorem ns_some {K : Frag} {h : Heap} {N : Addr} {mg : Str → Option Value} {n : Str} {v : Value} (X : K.In h) (G : h.Ns N mg) (e : nsIn K N n = some (some v)) : mg n = some v := by
  obtain ⟨o, es, ep, ho, hd, _, hf⟩ := G
  unfold nsIn at e
  split at e
  · rename_i c d es' n' sl q
    have := X _ _ q
    rw [ho] at this
    cases this
    cases hd
    split at e
    · rename_i en he
      cases e
      rw [← hf]
      unfold nsFind findBy
      rw [← Array.find?_toList, he]
      rfl
    · split at e <;> cases e
  · cases e
theorem low_of {P : Params} {h : Heap} (X : (Mine.hd.heap_39 P).In h) : Low h 79 63 := by
  have n1 := Heap.Ns.of_isNs (isNs_of_in (N := 78) X (by kernel_rfl))
  have n2 := Heap.Ns.of_isNs (isNs_of_in (N := 65) X (by kernel_rfl))
  have a1 : ∀ n ∈ quietN, nsIn (Mine.hd.heap_39 P) 78 n = some none := by
    intro n hn
    simp only [quietN, List.mem_cons, List.not_mem_nil, or_false] at hn
    rcases hn with rfl | rfl | rfl | rfl | rfl <;> rfl
  have a2 : ∀ n ∈ quietN, n ≠ "__init__" → nsIn (Mine.hd.heap_39 P) 65 n = some none := by
    intro n hn hne
    simp only [quietN, List.mem_cons, List.not_mem_nil, or_false] at hn
    rcases hn with rfl | rfl | rfl | rfl | rfl
    · exact absurd rfl hne
    all_goals rfl
  exact ⟨66, ⟨_, _, 78, _, _, _, _, _, _, _, _, _, _, _⟩, ⟨_, _, 65, _, _, _, _, _, _, _, _, _, _, _⟩, _, _, X 79 _ rfl, X 66 _ rfl, n1, n2, ns_some X n2 rfl,
    fun n hn => ns_none_of X n1 (a1 n hn), fun n hn hne => ns_none_of X n2 (a2 n hn hne), _, X 63 _ rfl, rfl⟩
theorem Fr.but {g h h' : Heap} {L e : Addr} {m : Str → Option Value} (F : Fr g L h m) (hen : g.get? e = none) (heL : L ≠ e) (k : ∀ b o, b ≠ e → h.get? b = some o → h'.get? b = some o) : Fr g L h' m :=
  ⟨let ⟨o, es, ep, q, r⟩ := F.ns; ⟨o, es, ep, k _ _ heL q, r⟩, fun b o q => k b o (fun z => by rw [z, hen] at q; cases q) (F.keep b o q), F.above⟩
section
variable {prog : Program} {w : World} {A : Around} {s : Shared} {K : Frag} {L : Addr} {h₀ : Heap} {m mg mb : Str → Option Value} {p : Program} {loose : List Str} {mean : ExcName → Option Value}
theorem hide_in {h₀ h : Heap} {e : Addr} (k : h₀.StaysIn h) (hen : h₀.get? e = none) : h₀.StaysIn (hideAll h [e]) :=
  fun b o q => hideAll_get _ (k b o q) fun hm => by
    rw [List.mem_singleton.mp hm, hen] at q; cases q
/-- entering a plain def with one object taken out of the callee's base -/
theorem enterI {R : Result → Shared → Prop} {name qual : Str} {params : Arguments} {body : List Stmt} {scope : Scope} {dV kV doc pm cdv ct oc : Value} {an od : Option Addr} {osl : Array (Option Value)} {f e : Addr} {oe : Obj} {args : Args} {binds : List (Str × Value)}
    (st : h₀.StaysIn s.heap) (X₀ : K.In h₀) (T : Top p loose mean mg mb h₀) (he : s.heap.get? e = some oe) (hen : h₀.get? e = none)
    (ho : K.lookup f = some ⟨oc, od, .func (fnOf name qual params body scope dV kV doc pm an cdv ct), osl⟩) (hcd : codeIn K cdv qual = true) (hroom : A.depth < recursionLimit)
    (hbind : BindsTo s (fnOf name qual params body scope dV kV doc pm an cdv ct) args binds) (hloc : ∀ y ∈ binds, scope.names.lookup y.1 = some .local)
    (h : ∀ L' h₁, Fr (hideAll s.heap [e]) L' h₁ (fun y => binds.reverse.lookup y) → News (hideAll s.heap [e]) L' h₁ [(e, oe)] → K.In (hideAll s.heap [e]) → Top p loose mean mg mb (hideAll s.heap [e]) →
      wpAny (model prog w) (A.deeper (envOf qual scope L' f cdv)) (execs body (envOf qual scope L' f cdv))
        (fun fl s' => R (.ok (.ret (match fl with | .ret v => v | _ => .none))) s')
        (fun e s' => wpAny (model prog w) (A.deeper (envOf qual scope L' f cdv)) (leaving (envOf qual scope L' f cdv) e) (fun _ s'' => R (.error e) s'') (fun e' s'' => R (.error e') s'') s')
        { s with heap := h₁, toks := s.toks + binds.length })
    (hco : scope.isCoroutine = false) (hgen : scope.isGenerator = false) (hk : scope.kind = .function)
    (hcell : ∀ x ∈ scope.names, x.2 ≠ .cell) : codeAny (model prog w) A (.call (.ref f) args) R s := by
  have X := X₀.keeps st
  have T' := T.keeps st
  have sg := hide_in st hen
  refine codeAny_call_def (fd := fnOf name qual params body scope dV kV doc pm an cdv ct) (body := body) (binds := binds) hroom (X _ _ ho) rfl T'.nolimit (codeRec_of X hcd) rfl hbind hcell hloc (fun h₁ hns hk₁ => ?_) hco hgen hk
  exact h s.heap.objs.size h₁ ⟨hns, fun b o q => hk₁ b o (of_hideAll _ q), Nat.le_of_eq (hideAll_size _ _)⟩
    (fun q hq => by
      rw [List.mem_singleton.mp hq]
      exact ⟨hk₁ _ _ he, Nat.ne_of_lt (Heap.lt_size he), hideAll_none _ (List.Mem.head _)⟩) (X₀.keeps sg) (T.keeps sg)
end
section
local macro_rules | `(tactic| k_room) => `(tactic| ktr_room)
theorem init_low {w : World} {A : Around} {s : Shared} {mg mb : Str → Option Value} {mean : ExcName → Option Value} {h₀ : Heap} {e t0 : Addr} {x : Str} {u : Tok} {Q E : Value → Shared → Prop}
    (st : h₀.StaysIn s.heap) (X : (Mine.hd.heap_39 w.params).In h₀) (T : Top Mine.view (looseW Mine.view []) mean mg mb h₀) (he : s.heap.get? e = some { cls := .ref 79, data := .fields #[.ref t0, .none, .none, .none, .bool false, .none] }) (hen : h₀.get? e = none)
    (hroom : A.depth < recursionLimit)
    (hq : ∀ h' D t1 tk', h'.get? e = some { cls := .ref 79, dict := some D, data := .fields #[.ref t1, .none, .none, .none, .bool false, .none] } → s.heap.get? D = none → D ≠ e → h'.Ns D (fun y => if y = "why" then some (.str x u) else none) →
      (∀ b o, b ≠ e → s.heap.get? b = some o → h'.get? b = some o) → Q .none { s with heap := h', toks := tk' }) :
    wpAny (model PySem.Challenge.rw_nt0588_01.row.prog w) A (call (.ref 63) [.ref e, .str x u]) Q E s := by
  k_with_none
  k_with "execs cons" => first | k_fold | fail
  k_with "spliced" => first | (k_here; (with_reducible show wpAny _ _ (spliced (backTo _ (starEach (_ :: _ :: _) _))) _ _ _); (with_reducible refine spliced_consts (by with_unfolding_all rfl) ?_); intro f0 t0; dsimp only [valsF, Nat.reduceAdd]) | fail
  k_with "FinE" => first | (k_dflt (intro D0' h0' tk0' F0' N0' o0'); (have o0' := off_ne o0'); (try simp only [List.cons_append, List.nil_append, List.map_cons, List.map_nil] at N0' o0'); (try dsimp only); (try k_fold)) | fail
  k_with "FinA" => first | (k_dflt (intro D0' h0' tk0' F0' N0' o0'); (have o0' := off_ne o0'); (try simp only [List.cons_append, List.nil_append, List.map_cons, List.map_nil] at N0' o0'); (try dsimp only); (try k_fold)) | fail
  k_with "LeaveS" => first | (refine leaveS_ (by assumption) ?_; (try dsimp only)) | fail
  k_with "binaryOp RShift int int" => first | (k_here; (with_reducible refine rshift_int (by decide) ?_)) | fail
  k_with "getMethod type:Exception" => first | (k_here; refine method_type (v := Value.builtin "Exception.__init__") (by k_asm) (by k_asm) (by first | rfl | kernel_rfl) (by decide +kernel) (by rfl) (by rfl) ?_) | fail
  k_with "call builtin:Exception.__init__" => first | (refine Halt.mk ?_) | fail
  k_with "setAttr ref" => first | (refine Halt.mk ?_) | fail
  revert X; k_fill; intro X
  w_top on
  refine wpAny_call ?_
  k_dflt (refine' enterI ?k1 ?k2 ?k3 ?k5 ?kA ?k6 ?k7 ?k8 ?k9 ?kB ?_ ?c2 ?c3 ?c4 ?c5; (case k1 => exact st); (case k2 => k_asm); (case k3 => k_asm); (case k5 => exact he); (case kA => exact hen); (case k6 => k_is); (case k7 => k_is); (case k8 => exact hroom); (case k9 => exact BindsTo.of_eq rfl); (case c5 => decide); (case kB => exact locs rfl); (case c2 => exact rfl); (case c3 => exact rfl); (case c4 => exact rfl); k_whole; intro L' h' F' N' X' T'; (try dsimp only); (try k_fold))

  (try k_fold); repeat' (first | (k_unfold; (try dsimp only)) | walk1 | (dsimp only; walk1))
  refine Halt.out ?_
  have eL : L' ≠ e := fun q => (N' _ (List.Mem.head _)).2.1 q.symm
  have ge : (hideAll s.heap [e]).get? e = none := hideAll_none _ (List.Mem.head _)
  refine init_bi ((low_of X').keeps F'.keep) (N'.get (List.Mem.head _)) fun h2 t1 he2 hk2 => ?_
  have F2 := Fr.but F' ge eL hk2
  have N2 : News (hideAll s.heap [e]) L' h2 [(e, { cls := .ref 79, data := .fields #[.ref t1, .none, .none, .none, .bool false, .none] })] := fun p hp => by
    rw [List.mem_singleton.mp hp]; exact ⟨he2, fun q => eL q.symm, ge⟩
  clear F' N' hk2
  (try k_fold); repeat' (first | (k_unfold; (try dsimp only)) | walk1 | (dsimp only; walk1))
  refine Halt.out ?_
  refine set_low ((low_of X').keeps F2.keep) he2 fun h3 D tk3 x1 x2 x3 x4 x5 => ?_
  have F3 := Fr.but F2 ge eL x5
  (try k_fold); repeat' (first | (k_unfold; (try dsimp only)) | walk1 | (dsimp only; walk1))
  have dn : s.heap.get? D = none := by
    cases q : s.heap.get? D with
    | none => rfl
    | some o => have := F2.keep D o (hideAll_get _ q fun hm => x3 (List.mem_singleton.mp hm)); rw [x2] at this; cases this
  exact hq _ D t1 _ x1 dn x3 x4 fun b o hb hbo => x5 b o hb (F2.keep b o (hideAll_get _ hbo fun hm => hb (List.mem_singleton.mp hm)))
end
end
section
/-! XS -/
theorem dict_mapFields (o : Obj) (f) : (o.mapFields f).dict = o.dict := by
  obtain ⟨c, d, dt, sl⟩ := o
  cases dt <;> rfl

/-- e stands in the heap, of class cls, its attributes in D, its last note T, the note's flight fl -/
noncomputable def NotedD (h base : Heap) (e D : Addr) (cls fl : Value) : Prop :=
  ∃ oe vs T oT ts, h.get? e = some oe ∧ (oe.cls = cls ∧ oe.dict = some D) ∧ oe.data = .fields vs ∧ vs[1]? = some (.ref T) ∧ base.get? T = none ∧ T ≠ e ∧ h.get? T = some oT ∧ oT.data = .fields ts ∧ ts[3]? = some fl
/-- e flies (fl = none) or is held over the frames l; base stays -/
noncomputable def FlyD (base : Heap) (l : List Env) (e D : Addr) (cls fl : Value) (h : Heap) : Prop :=
  base.StaysIn h ∧ base.get? e = none ∧ h.FunFrames base l ∧ NotedD h base e D cls fl
theorem FlyD.there {base h : Heap} {l : List Env} {e D : Addr} {cls fl : Value} (x : FlyD base l e D cls fl h) : ∃ ob, h.get? e = some ob ∧ ob.cls = cls ∧ ob.dict = some D := by
  obtain ⟨_, _, _, oe, _, _, _, _, he, hc, _⟩ := x
  exact ⟨oe, he, hc⟩

section
variable {M : Model} {A : Around} {E : Value → Shared → Prop} {s : Shared}
theorem setFlightD {base : Heap} {l : List Env} {e D : Addr} {cls fl : Value} {Q : Unit → Shared → Prop} (x : FlyD base l e D cls fl s.heap)
    (h : ∀ h', FlyD base l e D cls .none h' → s.heap.UpToSlots h' → Q () { s with heap := h' }) :
    wpAny M A (setFlight (.ref e) none) Q E s := by
  obtain ⟨hkb, hen, hl, oe, vs, T, oT, ts, he, hcls, hd, h1, hnT, hTe, hT, hdT, h3⟩ := x
  have hsz3 : 3 < ts.size := (Array.getElem?_eq_some_iff.mp h3).1
  have other : ∀ b, b ≠ T → (s.heap.update T (Obj.mapFields (·.setIfInBounds 3 ((none : Option Addr).elim Value.none fun f => rawInt f)))).get? b = s.heap.get? b :=
    fun b hb => Heap.get?_update_other _ _ (Ne.symm hb)
  have noRecord : ∀ b o, s.heap.get? b = some o → (∀ vs, o.data ≠ .fields vs) → b ≠ T := fun b o hb hnf q => by
    rw [q, hT] at hb; injection hb with hb; subst hb; exact hnf ts hdT
  unfold setFlight
  refine wpAny_bind (wpAny_field he hd h1 ?_)
  rw [if_pos (show (Value.ref T != Value.none) = true from by simp)]
  refine wpAny_setField hT hdT hsz3 (h _ ⟨fun b o hbo => (other b fun q => by rw [q, hnT] at hbo; cases hbo).trans (hkb b o hbo), hen,
    hl.of_keeps fun b o hb hnf => ⟨o, (other b (noRecord b o hb hnf)).trans hb, rfl⟩, ?_⟩ fun b o hb hnf => ⟨o.slots, (other b (noRecord b o hb hnf)).trans hb⟩)
  exact ⟨oe, vs, T, _, _, (other e (Ne.symm hTe)).trans he, hcls, hd, h1, hnT, hTe, Heap.get?_update_self _ hT (Obj.isFreed_of_fields (Obj.data_mapFields hdT _)), Obj.data_mapFields hdT _, by simp [hsz3]⟩

theorem entryD {base : Heap} {env : Env} {outer : List Env} {L e D : Addr} {oe : Obj} {vs : Array Value} {head : Value} {hadNext : Bool} {Q : Unit → Shared → Prop}
    (hfr : A.frames = some (env :: outer)) (hl : s.heap.FunFrames base (env :: outer)) (hf : env.frame = some L)
    (he : s.heap.get? e = some oe) (hkb : base.StaysIn s.heap) (hen : base.get? e = none) (hd : oe.data = .fields vs) (hsz : 1 < vs.size) (hD : oe.dict = some D)
    (h : ∀ h', FlyD base (env :: outer) e D oe.cls (rawInt L) h' → s.heap.UpToSlots h' → Q () { s with heap := h' }) :
    wpAny M A (do let a ← frameOf env; let pl ← entryPlaceOf L hadNext; let b ← EntryCells.newEntry head a .none (rawInt L) .none pl; setField (.ref e) 1 b) Q E s := by
  have hene : e ∉ (env :: outer).filterMap (·.frame) := fun hm => by
    obtain ⟨_, o, ho, hnf⟩ := hl.mem hm
    rw [he] at ho; injection ho with ho; subst ho; exact hnf vs hd
  refine wpAny_bind (wpAny_frameOf_fun hfr hl hf fun h₁ hs₁ => ?_)
  refine wpAny_bind (wpAny_entryPlaceOf fun pl hpl => ?_)
  unfold EntryCells.newEntry newFields
  refine wpAny_bind (wpAny_newObj_type ?_ (hpl.sizeOk5 _ _ _ _ _))
  have he₁ : h₁.get? e = some oe := (hs₁.2.1 e hene).trans he
  have kb₁ : base.StaysIn h₁ := fun b o hbo => (hs₁.2.1 b fun hm => by rw [(hl.mem hm).1] at hbo; cases hbo).trans (hkb b o hbo)
  have he₂ := Heap.get?_push_of_some (h := h₁) { cls := .type "traceback", dict := none, data := .fields ([head, .ref L, .none, rawInt L, .none] ++ (if pl.isEmpty then List.replicate 6 Value.none else pl)).toArray } he₁
  refine wpAny_setField he₂ hd hsz ?_
  have hTe : h₁.objs.size ≠ e := Nat.ne_of_gt (Heap.lt_size he₁)
  have hd₃ := Obj.data_mapFields hd (·.setIfInBounds 1 (Value.ref h₁.objs.size))
  have he₃ := Heap.get?_update_self (Obj.mapFields (·.setIfInBounds 1 (Value.ref h₁.objs.size))) he₂ (Obj.isFreed_of_fields hd₃)
  have hT₃ := (Heap.get?_update_other (h₁.push { cls := .type "traceback", dict := none, data := .fields ([head, .ref L, .none, rawInt L, .none] ++ (if pl.isEmpty then List.replicate 6 Value.none else pl)).toArray })
    (Obj.mapFields (·.setIfInBounds 1 (Value.ref h₁.objs.size))) (Ne.symm hTe)).trans (Heap.get?_push_size h₁ rfl)
  have keep : ∀ b o, b ≠ e → h₁.get? b = some o →
      ((h₁.push { cls := .type "traceback", dict := none, data := .fields ([head, .ref L, .none, rawInt L, .none] ++ (if pl.isEmpty then List.replicate 6 Value.none else pl)).toArray }).update e (Obj.mapFields (·.setIfInBounds 1 (Value.ref h₁.objs.size)))).get? b = some o :=
    fun b o hbe hb => by
      rw [Heap.get?_update_other _ _ (Ne.symm hbe)]
      exact Heap.get?_push_of_some _ hb
  have noRecord : ∀ b o, s.heap.get? b = some o → (∀ vs, o.data ≠ .fields vs) → b ≠ e := fun b o hb hnf q => by
    rw [q, he] at hb; injection hb with hb; subst hb; exact hnf vs hd
  refine h _ ⟨fun b o hbo => keep b o (fun q => by rw [q, hen] at hbo; cases hbo) (kb₁ b o hbo), hen, hl.of_keeps fun b o hb hnf => ?_, ?_⟩ (fun b o hb hnf => ?_)
  · obtain ⟨sl, hs⟩ := hs₁.2.2 b o hb
    exact ⟨_, keep b _ (noRecord b o hb hnf) hs, rfl⟩
  · exact ⟨_, _, h₁.objs.size, _, _, he₃, ⟨Obj.cls_mapFields _ _, (dict_mapFields _ _).trans hD⟩, hd₃, by simp [hsz], kb₁.fresh, hTe, hT₃, rfl, by first | (simp; done) | (rcases hpl with rfl | ⟨_, _, _, _, _, _, _, rfl⟩ <;> simp)⟩
  · obtain ⟨sl, hs⟩ := hs₁.2.2 b o hb
    exact ⟨sl, keep b _ (noRecord b o hb hnf) hs⟩

/-- a fresh exception leaves its own frame -/
theorem leaves_firstD {base : Heap} {env : Env} {outer : List Env} {L e D : Addr} {oe : Obj} {vs : Array Value} {Q : Unit → Shared → Prop}
    (hfr : A.frames = some (env :: outer)) (hl : s.heap.FunFrames base (env :: outer)) (hf : env.frame = some L)
    (he : s.heap.get? e = some oe) (hkb : base.StaysIn s.heap) (hen : base.get? e = none) (hd : oe.data = .fields vs) (h1 : vs[1]? = some .none) (hD : oe.dict = some D)
    (h : ∀ h', FlyD base outer e D oe.cls .none h' → s.heap.UpToSlots h' → Q () { s with heap := h' }) : wpAny M A (leaving env (.ref e)) Q E s := by
  unfold leaving noteFrame
  simp only [hf]
  refine wpAny_bind (wpAny_bind (wpAny_field he hd h1 ?_))
  rw [if_neg (by decide)]
  refine entryD hfr hl hf he hkb hen hd (Array.getElem?_eq_some_iff.mp h1).1 hD fun h' x u => ?_
  refine setFlightD x fun h'' y u' => h h'' ⟨y.1, y.2.1, ?_, y.2.2.2⟩ (u.trans u')
  obtain ⟨_, _, k⟩ := y.2.2.1
  exact k

/-- a flying exception is looked at by the frame that catches it -/
theorem looksD {base : Heap} {env : Env} {outer : List Env} {L e D : Addr} {cls : Value} {Q : Unit → Shared → Prop}
    (hfr : A.frames = some (env :: outer)) (hf : env.frame = some L) (x : FlyD base (env :: outer) e D cls .none s.heap)
    (h : ∀ h', FlyD base (env :: outer) e D cls (rawInt L) h' → s.heap.UpToSlots h' → Q () { s with heap := h' }) : wpAny M A (noteFrame (.ref e) env) Q E s := by
  obtain ⟨hkb, hen, hl, oe, vs, T, oT, ts, he, ⟨hcls, hD⟩, hd, h1, hnT, hTe, hT, hdT, h3⟩ := x
  subst hcls
  unfold noteFrame
  simp only [hf]
  refine wpAny_bind (wpAny_field he hd h1 ?_)
  rw [if_pos (show (Value.ref T != Value.none) = true from by simp)]
  refine wpAny_bind (wpAny_field hT hdT h3 ?_)
  rw [if_neg (show ¬ ((Value.none == rawInt L) = true) from by simp [rawInt])]
  refine wpAny_bind (wpAny_setField hT hdT (Array.getElem?_eq_some_iff.mp h3).1 ?_)
  have other : ∀ b, b ≠ T → (s.heap.update T (Obj.mapFields (·.setIfInBounds 3 Value.none))).get? b = s.heap.get? b := fun b hb => Heap.get?_update_other _ _ (Ne.symm hb)
  have noRecord : ∀ b o, s.heap.get? b = some o → (∀ vs, o.data ≠ .fields vs) → b ≠ T := fun b o hb hnf q => by
    rw [q, hT] at hb; injection hb with hb; subst hb; exact hnf ts hdT
  refine entryD hfr (hl.of_keeps fun b o hb hnf => ⟨o, (other b (noRecord b o hb hnf)).trans hb, rfl⟩) hf ((other e (Ne.symm hTe)).trans he)
    (fun b o hbo => (other b fun q => by rw [q, hnT] at hbo; cases hbo).trans (hkb b o hbo)) hen hd (Array.getElem?_eq_some_iff.mp h1).1 hD
    fun h' x u => h h' x fun b o hb hnf => u b o ((other b (noRecord b o hb hnf)).trans hb) hnf
end
end
section
/-! XG -/
open Builtin Builtin.ObjectAttr
theorem lk_why' : typeLookup (.type "Exception") "why" = pure none := by rw [typeLookup_type, builtinLookup_eq_fast]; kernel_rfl
section
variable {prog : Program} {w : World} {A : Around} {E : Value → Shared → Prop} {h : Heap} {g : Array GenState} {d : Drawn} {t : Nat} {os : OsState} {C fI x D : Addr} {v : Value} {o : Obj} {vs : Array Value} {mA : Str → Option Value}
theorem get_check (O : Low h C fI) {M : Model} {nameV : Value} {Q : Unit → Shared → Prop} (hx : h.get? x = some o) (hc : o.cls = .ref C) (hq : Q () ⟨h, g, d, t, os⟩) :
    wpAny M A (checkBuiltinCall "BaseException.__getattribute__" ⟨[.ref x, nameV], []⟩) Q E ⟨h, g, d, t, os⟩ := by
  obtain ⟨D, c, c', mN, mN', hC, _⟩ := O
  have hk : builtinKind "BaseException.__getattribute__" = some .slot := by decide +kernel
  have hsplit : splitId "BaseException.__getattribute__" = some ("BaseException", "__getattribute__") := by decide +kernel
  have hcB : (Value.ref C :: .ref D :: bmE).contains (.type "BaseException") = true := rfl
  have ha := F.args_bexc_ga (.ref x) nameV
  simp only [checkBuiltinCall, hk, hsplit]
  refine wpAny_bind ?_
  · unfold isInstance
    repeat (first | (with_reducible refine wpAny_loadPart_at hx ?_; rw [hc]) | (with_reducible refine wpAny_isSubtype_exc hC ?_; rw [hcB]) | wp_step)
    exact hq
theorem get_entry {tk : Tok} {Q : Fin → Shared → Prop} (O : Low h C fI) (hx : h.get? x = some o) (hc : o.cls = .ref C) (hdv : o.data = .fields vs) (hdd : o.dict = some D) (hn : h.Ns D mA) (hv : mA "why" = some v) (hq : Q (.done (.ret v)) ⟨h, g, d, t, os⟩) :
    wpAny (model prog w) A (Builtin.«object.__getattribute__» ⟨[.ref x, .str "why" tk], []⟩) Q E ⟨h, g, d, t, os⟩ := by
  have hm : ("why" : Str) ∈ quietN := .tail _ (.tail _ (.tail _ (.tail _ (.head _))))
  have hne : ("why" : Str) ≠ "__init__" := by decide
  repeat (any_goals (first | assumption | (with_reducible refine wpAny_loadPart_at hx ?_; rw [hc]) | with_reducible refine lk_low O hm hne lk_why' ?_ | wp_step))
  rw [hdv]
  have O' := O
  obtain ⟨D, c, c', mN, mN', hC, _⟩ := O
  unfold instanceDict
  repeat (any_goals (first | assumption | (with_reducible refine wpAny_loadPart_at hx ?_; rw [hc]) | with_reducible refine wpAny_loadPart_at hC ?_ | wp_step))
  rw [hdd]
  unfold inDict
  repeat (any_goals (first | assumption | (with_reducible refine wpAny_nsGet hn ?_; rw [hv]) | wp_step))
theorem get_call {tk : Tok} {R : Result → Shared → Prop} (O : Low h C fI) (hx : h.get? x = some o) (hc : o.cls = .ref C) (hdv : o.data = .fields vs) (hdd : o.dict = some D) (hn : h.Ns D mA) (hv : mA "why" = some v) (hq : R (.ok (.ret v)) ⟨h, g, d, t, os⟩) :
    codeAny (model prog w) A (.call (.builtin "BaseException.__getattribute__") ⟨[.ref x, .str "why" tk], []⟩) R ⟨h, g, d, t, os⟩ :=
  codeAny_call_builtin F.attrBase_Exception.ga.plain F.entry_bexc_ga (get_check O hx hc (get_entry O hx hc hdv hdd hn hv hq))
theorem get_by {tk : Tok} {fill expr : Bool} {Q : Value → Shared → Prop} (O : Low h C fI) (hx : h.get? x = some o) (hc : o.cls = .ref C) (hdv : o.data = .fields vs) (hdd : o.dict = some D) (hn : h.Ns D mA) (hv : mA "why" = some v) (hh : handedOut v = pure v) (hq : Q v ⟨h, g, d, t, os⟩) :
    wpAny (model prog w) A (getAttrBy (.ref x) (.str "why" tk) fill expr) Q E ⟨h, g, d, t, os⟩ := by
  have f3 := F.attrBase_Exception.ga.bind (.ref x)
  have hx0 : (expr && onTheHeap (Value.builtin "BaseException.__getattribute__")) = false := by cases expr <;> rfl
  have hx2 : (Value.builtin "BaseException.__getattribute__" == Value.builtin "object.__getattribute__") = false := by decide +kernel
  have hx1 : (onTheHeap (Value.ref C) && Value.builtin "BaseException.__getattribute__" == Value.builtin "object.__getattribute__") = false := by rw [hx2]; rfl
  have hm1 : ("__getattribute__" : Str) ∈ quietN := .tail _ (.head _)
  have hm2 : ("__getattr__" : Str) ∈ quietN := .tail _ (.tail _ (.head _))
  have hn1 : ("__getattribute__" : Str) ≠ "__init__" := by decide
  have hn2 : ("__getattr__" : Str) ≠ "__init__" := by decide
  repeat (any_goals (first | assumption | (with_reducible refine wpAny_loadPart_at hx ?_; rw [hc]) | with_reducible refine lk_low O hm1 hn1 F.attrBase_Exception.ga.lookup ?_ | with_reducible refine lk_low O hm2 hn2 F.attrBase_Exception.noGetattr ?_ | wp_step))
  refine get_call O hx hc hdv hdd hn hv ?_
  repeat (any_goals (first | assumption | (rw [hh]) | wp_step))
theorem get_low {expr : Bool} {Q : Value → Shared → Prop} (O : Low h C fI) (hx : h.get? x = some o) (hc : o.cls = .ref C) (hdv : o.data = .fields vs) (hdd : o.dict = some D) (hn : h.Ns D mA) (hv : mA "why" = some v) (hh : handedOut v = pure v) (hq : Q v ⟨h, g, d, t + 1, os⟩) :
    wpAny (model prog w) A (getAttr (.ref x) "why" expr) Q E ⟨h, g, d, t, os⟩ := by
  unfold getAttr
  repeat (any_goals (first | assumption | with_reducible apply get_by O hx hc hdv hdd hn hv hh | wp_step))
end
end
section
/-! XR -/
section
variable {M : Model} {A : Around} {E : Value → Shared → Prop} {s : Shared} {env : Env}
noncomputable def Thrown (E : Value → Shared → Prop) (v : Value) (s₁ : Shared) : Prop :=
  ∃ a D t, v = .ref a ∧ Low s₁.heap 79 63 ∧ s₁.heap.get? a = some { cls := .ref 79, dict := some D, data := .fields #[.ref t, .none, .none, .none, .bool false, .none] } ∧ E (.ref a) s₁
theorem Raise_low {e : Expr} {pos : Pos} {Q : Flow → Shared → Prop} (hh : A.handled = none)
    (h : wpAny M A (eval e env) (Thrown E) E s) : wpAny M A (exec (.Raise (some e) none pos) env) Q E s := by
  show wpAny M A (do standAt pos; raiseStmt env (some (do let v ← eval e env; standAt pos; pure v)) none) Q E s
  refine wpAny_bind (wpAny_standAt ?_)
  unfold raiseStmt
  dsimp only
  refine wpAny_bind (wpAny_bind (wpAny_mono h (fun v s₁ h₁ => wpAny_bind (wpAny_standAt (wpAny_pure ?_))) fun _ _ x => x))
  obtain ⟨a, D', t, rfl, O, he, hE⟩ := h₁
  obtain ⟨D, c, c', mN, mN', hC, _⟩ := O
  have hcB : (Value.ref 79 :: .ref D :: bmE).contains (.type "BaseException") = true := rfl
  obtain ⟨hp, g, d, tk, os⟩ := s₁
  repeat (first | with_reducible refine wpAny_loadPart_at he ?_ | with_reducible refine wpAny_loadPart_at hC ?_ | (with_reducible refine wpAny_isSubtype_exc hC ?_; rw [hcB]) | wp_step)
  exact wpAny_raiseNew_none hh hE
end

theorem make_low {w : World} {A : Around} {s : Shared} {mg mb : Str → Option Value} {mean : ExcName → Option Value} {x : Str} {u : Tok} {E : Value → Shared → Prop}
    (X : (Mine.hd.heap_39 w.params).In s.heap) (T : Top Mine.view (looseW Mine.view []) mean mg mb s.heap) (hroom : (A.under (.builtin "type.__call__" ⟨.ref 79 :: [.str x u], []⟩)).depth < recursionLimit)
    (hq : ∀ h' e D t1 tk', s.heap.StaysIn h' → s.heap.get? e = none → s.heap.get? D = none → D ≠ e →
      h'.get? e = some { cls := .ref 79, dict := some D, data := .fields #[.ref t1, .none, .none, .none, .bool false, .none] } → h'.Ns D (fun y => if y = "why" then some (.str x u) else none) →
      E (.ref e) { s with heap := h', toks := tk' }) :
    wpAny (model PySem.Challenge.rw_nt0588_01.row.prog w) A (call (.ref 79) [.str x u]) (Thrown E) E s := by
  obtain ⟨h, g, d, tk, os⟩ := s
  refine call_low (low_of X) fun h' e hm => ?_
  obtain ⟨t0, he, _, _⟩ := hm.there
  refine init_low (h₀ := h) hm.keeps X T he hm.new hroom fun h2 D t1 tk2 x1 x2 x3 x4 x5 => ⟨rfl, ?_⟩
  have k2 : h.StaysIn h2 := fun b o q => x5 b o (fun z => by rw [z, hm.new] at q; cases q) (hm.keeps b o q)
  have dn : h.get? D = none := by
    cases q : h.get? D with
    | none => rfl
    | some o => have := hm.keeps D o q; rw [x2] at this; cases this
  exact ⟨e, D, t1, rfl, (low_of X).keeps k2, x1, hq h2 e D t1 tk2 k2 hm.new dn x3 x1 x4⟩

section
variable {M : Model} {A : Around} {E : Value → Shared → Prop} {s' : Shared} {base g h : Heap} {outer : List Env} {L a e D t : Addr} {C : Value} {m mD : Str → Option Value} {name : Str} {scope : Scope} {cd : Value} {Q : Unit → Shared → Prop}
theorem leave_D (K : Below A base outer g) (F : Fr g L h m) (st : h.StaysIn s'.heap) (hen : h.get? e = none) (hDn : h.get? D = none) (hDe : D ≠ e)
    (he : s'.heap.get? e = some { cls := C, dict := some D, data := .fields #[.ref t, .none, .none, .none, .bool false, .none] }) (hNs : s'.heap.Ns D mD)
    (hQ : ∀ h' B, FlyD B outer e D C .none h' → g.UpToSlots h' → base.StaysIn B → (∀ b o, g.get? b = some o → b ∉ outer.filterMap (·.frame) → B.get? b = some o) → B.Ns D mD → g.get? e = none → g.get? D = none → Q () { s' with heap := h' })
    (hk : scope.kind = .function := by rfl) :
    wpAny M (A.deeper (envOf name scope L a cd)) (leaving (envOf name scope L a cd) (.ref e)) Q E s' := by
  have K' := K.push (name := name) (a := a) (cd := cd) F hk
  have FF : s'.heap.FunFrames base (envOf name scope L a cd :: outer) := K'.frames.of_keeps fun b o q _ => ⟨o, st b o q, rfl⟩
  have nfr : ∀ b ∈ (envOf name scope L a cd :: outer).filterMap (·.frame), ∃ o, h.get? b = some o := fun b hb => by
    obtain ⟨_, o, ho, _⟩ := K'.frames.mem hb
    exact ⟨o, ho⟩
  have get : ∀ b o, s'.heap.get? b = some o → b ≠ e → b ∉ (envOf name scope L a cd :: outer).filterMap (·.frame) → (hideAll s'.heap (e :: (envOf name scope L a cd :: outer).filterMap (·.frame))).get? b = some o :=
    fun b o q n1 n2 => hideAll_get _ q fun hm => by
      rcases List.mem_cons.mp hm with z | z
      · exact n1 z
      · exact n2 z
  have hin : ∀ env ∈ (envOf name scope L a cd :: outer), ∀ b, env.frame = some b → b ∈ e :: (envOf name scope L a cd :: outer).filterMap (·.frame) := fun env he b hb => List.mem_cons_of_mem _ (List.mem_filterMap.mpr ⟨env, he, hb⟩)
  have sb : base.StaysIn (hideAll s'.heap (e :: (envOf name scope L a cd :: outer).filterMap (·.frame))) := fun b o q => by
    refine get b o (st b o (K'.stays b o q)) (fun z => ?_) fun hm => ?_
    · have := K'.stays b o q
      rw [z, hen] at this; cases this
    · rw [(K'.frames.mem hm).1] at q; cases q
  have sg : ∀ b o, g.get? b = some o → b ∉ outer.filterMap (·.frame) → (hideAll s'.heap (e :: (envOf name scope L a cd :: outer).filterMap (·.frame))).get? b = some o := fun b o q nm => by
    refine get b o (st b o (F.keep b o q)) (fun z => ?_) fun hm => ?_
    · have := F.keep b o q
      rw [z, hen] at this; cases this
    · rcases kts_mem hm with z | z
      · rw [z, kts_self F] at q; cases q
      · exact nm z
  have nD : (hideAll s'.heap (e :: (envOf name scope L a cd :: outer).filterMap (·.frame))).Ns D mD := by
    obtain ⟨o, es, ep, q, r⟩ := hNs
    refine ⟨o, es, ep, get D o q hDe (fun hm => ?_), r⟩
    obtain ⟨o', ho'⟩ := nfr D hm
    rw [hDn] at ho'
    cases ho'
  refine leaves_firstD (oe := { cls := C, dict := some D, data := .fields #[.ref t, .none, .none, .none, .bool false, .none] }) K'.stack (funFrames_hide FF hin) rfl he (fun b o q => of_hideAll _ q) (hideAll_none _ (List.Mem.head _)) rfl rfl rfl fun h' x u => ?_
  exact hQ h' _ x (((Heap.UpToSlots.of_keeps F.keep).trans (Heap.UpToSlots.of_keeps st)).trans u) sb sg nD (kts_none F.keep hen) (kts_none F.keep hDn)
end

section
variable {prog : Program} {w : World} {A₀ : Around} {E : Value → Shared → Prop} {s' : Shared} {base g G B : Heap} {outer : List Env} {L a e D : Addr} {m mD : Str → Option Value} {name : Str} {scope : Scope} {cd : Value}
  {n : Str} {b₀ : Stmt} {suite : List Stmt} {pos np : Pos} {rest : List ExceptHandler} {Q : Flow → Shared → Prop} {P : Params}
  {p : Program} {loose : List Str} {mean : ExcName → Option Value} {mg mb : Str → Option Value} {x : Str}
theorem caught_D (R : FlyD B (envOf name scope L a cd :: outer) e D (.ref 79) .none s'.heap) (hBG : ∀ b o, G.get? b = some o → b ∉ (envOf name scope L a cd :: outer).filterMap (·.frame) → B.get? b = some o) (hBD : B.Ns D mD) (heG : G.get? e = none) (hDG : G.get? D = none)
    (F : Fr g L G m) (K : Below A₀ base outer g) (hsm : G.UpToSlots s'.heap) (XB : (Mine.hd.heap_39 P).In base) (TB : Top p loose mean mg mb base)
    (ex : nsIn (Mine.hd.heap_39 P) mainGlobals x = some (some (.ref 79)))
    (k : ∀ h' g' tk, KtsTurn (outer.filterMap (·.frame)) g g' → Fr g' L h' (fun y => if y = n then some (.ref e) else m y) → (∃ ob vs, h'.get? e = some ob ∧ ob.cls = .ref 79 ∧ ob.data = .fields vs ∧ ob.dict = some D) → h'.Ns D mD → Below A₀ base outer g' → (Mine.hd.heap_39 P).In g' → Top p loose mean mg mb g' →
      wpAny (model prog w) ((A₀.deeper (envOf name scope L a cd)).mark (some (.ref e))) (execs (b₀ :: suite) (envOf name scope L a cd))
        (fun f s₄ => wpAny (model prog w) (A₀.deeper (envOf name scope L a cd)) (do bindName (envOf name scope L a cd) n .none; unbindBehindTheSuite (envOf name scope L a cd) n pos) (fun _ s₅ => Q f s₅) E s₄)
        (AsSuiteRaised (model prog w) ((A₀.deeper (envOf name scope L a cd)).mark (some (.ref e))) (envOf name scope L a cd) n pos (notedBy (model prog w) ((A₀.deeper (envOf name scope L a cd)).mark (some (.ref e))) (envOf name scope L a cd) (cameBackBy (model prog w) (A₀.deeper (envOf name scope L a cd)) (envOf name scope L a cd) E)))
        { s' with heap := h', toks := tk })
    (hk : scope.kind = .function := by rfl) (hlo : (envOf name scope L a cd).kindOf n = some .local := by rfl) (hx : (envOf name scope L a cd).kindOf x = some .globalImplicit := by rfl) (hd : (x == ("__debug__" : Str)) = false := by decide) :
    wpAny (model prog w) (A₀.deeper (envOf name scope L a cd)) (noteFrame (.ref e) (envOf name scope L a cd))
      (fun _ s₂ => wpAny (model prog w) (A₀.deeper (envOf name scope L a cd)) (setFlight (.ref e) none) (fun _ s₃ =>
        wpAny (model prog w) (A₀.deeper (envOf name scope L a cd)) (handleBy (.ref e) (envOf name scope L a cd) (.ExceptHandler (some (.Name x np)) (some n) (b₀ :: suite) pos :: rest)) Q E s₃) E s₂) E s' := by
  have hL : B.get? L = none := by
    obtain ⟨_, ⟨L', _, hf, hn', _⟩, _⟩ := R.2.2.1
    obtain rfl : L = L' := Option.some.inj hf
    exact hn'
  refine looksD (Around.frames_deeper K.stack) rfl R fun h₄ hheld₄ hsm₄ => ?_
  refine setFlightD hheld₄ fun h₅ hheld hsm₅' => ?_
  have hsm₅ := hsm₄.trans hsm₅'
  obtain ⟨g₅, T₅, F₅, K₅⟩ := kts_ground K F hBG hheld.1 (hsm.trans hsm₅)
  have X₅ : (Mine.hd.heap_39 P).In g₅ := XB.keeps K₅.stays
  have P₅ : TopRead p loose mg mb g₅ := topRead_of (TB.keeps K₅.stays)
  obtain ⟨ob, hob, hobc, _⟩ := hheld.there
  obtain ⟨D₁, c, c', mN, mN', hC, _⟩ := (low_of X₅).keeps F₅.keep
  refine wpAny_handleBy_cons (codeAny_handlers_test (name_K F₅ X₅ P₅ ex ?_ hk hx hd)) (by intro q; cases q)
  refine wpAny_excMatches_sub_self hC hob hobc rfl (codeAny_handlers_suite_as ?_)
  refine setFlightD hheld fun h₆ hfl₆ hsm₆ => ?_
  obtain ⟨g₆, T₆, F₆, K₆⟩ := kts_ground K F hBG hfl₆.1 ((hsm.trans hsm₅).trans hsm₆)
  obtain ⟨_, heB, _, oe, vs, T, oT, ts, hoe, ⟨hoec, hoed⟩, hoev, _⟩ := id hfl₆
  obtain ⟨oD, es, ep, hoD, hrD⟩ := hBD
  have ne₆ : g₆.get? e = none := T₆.none_ _ (kts_none F.keep heG)
  have nD₆ : g₆.get? D = none := T₆.none_ _ (kts_none F.keep hDG)
  have N₆ := News.more F₆ News.nil hoe (fun es n q => by rw [hoev] at q; cases q) ne₆
  have N₇ : News g₆ L h₆ [(D, oD)] := fun q hq => by
    rw [List.mem_singleton.mp hq]
    refine ⟨hfl₆.1 _ _ hoD, fun z => ?_, nD₆⟩
    have z' : D = L := z
    rw [z', hL] at hoD
    cases hoD
  have X₆ : (Mine.hd.heap_39 P).In g₆ := XB.keeps K₆.stays
  have P₆ : Top p loose mean mg mb g₆ := TB.keeps K₆.stays
  refine stN F₆ (news := [(e, oe)] ++ [(D, oD)]) (fun q hq => (List.mem_append.mp hq).elim (N₆ q) (N₇ q)) (fun h₇ F₇ N₈ => ?_) hk hlo
  exact k h₇ g₆ _ T₆ F₇ ⟨oe, vs, (N₈ (e, oe) (List.Mem.head _)).1, hoec, hoev, hoed⟩ ⟨oD, es, ep, (N₈ (D, oD) (List.Mem.tail _ (List.Mem.head _))).1, hrD⟩ K₆ X₆ P₆
end

noncomputable def LeaveR (fs : List Addr) (h₀ : Heap) (L : Addr) (m : Str → Option Value) (news : List (Addr × Obj)) (g : Heap) (R : Result → Shared → Prop) (v : Value) (s' : Shared) : Prop :=
  ∃ g' L' m', KtsTurn fs g g' ∧ Fr g' L' s'.heap m' ∧ (Fr h₀ L s'.heap m → News h₀ L s'.heap news → R (.ok (.ret v)) s')
theorem leaveR_ {fs : List Addr} {h₀ : Heap} {L : Addr} {m : Str → Option Value} {news : List (Addr × Obj)} {g g' : Heap} {R : Result → Shared → Prop} {v : Value} {s' : Shared} {L' : Addr} {m' : Str → Option Value}
    (T : KtsTurn fs g g') (F : Fr g' L' s'.heap m') (h : Fr h₀ L s'.heap m → News h₀ L s'.heap news → R (.ok (.ret v)) s') : LeaveR fs h₀ L m news g R v s' := ⟨g', L', m', T, F, h⟩
section
variable {prog : Program} {w : World} {A A₀ : Around} {s : Shared} {K : Frag} {L : Addr} {h₀ : Heap} {m mg mb : Str → Option Value} {p : Program} {loose : List Str} {mean : ExcName → Option Value} {news : List (Addr × Obj)}
/-- entering a plain def that may catch, from a top that nobody called -/
theorem enterR {env : Env} {R : Result → Shared → Prop} {name qual : Str} {params : Arguments} {body : List Stmt} {scope : Scope} {dV kV doc pm cdv ct oc : Value} {an od : Option Addr} {osl : Array (Option Value)} {f : Addr} {args : Args} {binds : List (Str × Value)}
    (B : Below A₀ h₀ [] h₀) (F : Fr h₀ L s.heap m) (N : News h₀ L s.heap news) (X₀ : K.In h₀) (T : Top p loose mean mg mb h₀) (hA : A.frames = some [env]) (hf : env.frame = some L) (hke : env.scope.kind = .function)
    (ho : K.lookup f = some ⟨oc, od, .func (fnOf name qual params body scope dV kV doc pm an cdv ct), osl⟩) (hcd : codeIn K cdv qual = true) (hroom : A.depth < recursionLimit)
    (hbind : BindsTo s (fnOf name qual params body scope dV kV doc pm an cdv ct) args binds) (hloc : ∀ y ∈ binds, scope.names.lookup y.1 = some .local)
    (h : ∀ L' h₁, Fr s.heap L' h₁ (fun y => binds.reverse.lookup y) → News s.heap L' h₁ [] → Below A h₀ [env] s.heap → K.In s.heap → Top p loose mean mg mb s.heap →
      wpAny (model prog w) (A.deeper (envOf qual scope L' f cdv)) (execs body (envOf qual scope L' f cdv))
        (fun fl s' => LeaveR ([env].filterMap (·.frame)) h₀ L m news s.heap R (match fl with | .ret v => v | _ => .none) s')
        (fun e s' => wpAny (model prog w) (A.deeper (envOf qual scope L' f cdv)) (leaving (envOf qual scope L' f cdv) e) (fun _ s'' => R (.error e) s'') (fun e' s'' => R (.error e') s'') s')
        { s with heap := h₁, toks := s.toks + binds.length })
    (hco : scope.isCoroutine = false) (hgen : scope.isGenerator = false) (hk : scope.kind = .function)
    (hcell : ∀ x ∈ scope.names, x.2 ≠ .cell) : codeAny (model prog w) A (.call (.ref f) args) R s := by
  have X := X₀.keeps F.keep
  have T' := T.keeps F.keep
  have B₁ := pushX B F hf hke
  have hfs : [env].filterMap (·.frame) = [L] := by simp [hf]
  refine codeAny_call_def (fd := fnOf name qual params body scope dV kV doc pm an cdv ct) (body := body) (binds := binds) hroom (X _ _ ho) rfl T'.nolimit (codeRec_of X hcd) rfl hbind hcell hloc (fun h₁ hns hk₁ => ?_) hco hgen hk
  refine wpAny_mono (h s.heap.objs.size h₁ ⟨hns, hk₁, Nat.le_refl _⟩ News.nil ⟨hA, F.keep, B₁.frames⟩ X T') (fun fl s' hl => ?_) fun _ _ y => y
  obtain ⟨g', L', m', T₁, F', k⟩ := hl
  rw [hfs] at T₁
  have nL : h₀.get? L = none := kts_self F
  have other : ∀ b o, s.heap.get? b = some o → b ≠ L → s'.heap.get? b = some o := fun b o q ne => F'.keep b o (T₁.other b o q fun hm => ne (List.mem_singleton.mp hm))
  refine k ⟨?_, fun b o q => other b o (F.keep b o q) (fun z => by rw [z, nL] at q; cases q), F.above⟩ fun q hq => ⟨other _ _ (N q hq).1 (N q hq).2.1, (N q hq).2⟩
  obtain ⟨o, es, ep, q, hd, r⟩ := F.ns
  obtain ⟨sl, hs⟩ := T₁.up q
  exact ⟨_, es, ep, F'.keep _ _ hs, hd, r⟩
end
end
section
/-! S10 -/
section
local macro_rules | `(tactic| k_room) => `(tactic| ktr_room)
/-- the def that catches, called by a top that nobody called -/
noncomputable def Okr (w : World) (mg mb : Str → Option Value) (mean : ExcName → Option Value) (f : Addr) (vs : List Value) (need : Nat) (s : Shared) (x : Str) : Prop :=
  ∀ (dp un : Nat) (gd : Option (List Code)) (cn : Str) (cs : Scope) (a : Addr) (ccd : Value) (cl : List (Str × Addr)) (A₀ : Around) (h₀ : Heap) (L : Addr) (m : Str → Option Value) (news : List (Addr × Obj)) (Q E : Value → Shared → Prop),
    Below A₀ h₀ [] h₀ → Fr h₀ L s.heap m → News h₀ L s.heap news → (Mine.hd.heap_39 w.params).In h₀ → Top Mine.view (looseW Mine.view []) mean mg mb h₀ → cs.kind = .function → dp + need < recursionLimit → un + 8 * need < cLine →
    (∀ t h' tk', Fr h₀ L h' m → News h₀ L h' news → Q (.str x t) { s with heap := h', toks := tk' }) →
    wpAny (model PySem.Challenge.rw_nt0588_01.row.prog w) (ktrTop dp un gd cn cs L a ccd cl []) (call (.ref f) vs) Q E s
theorem make_K {w : World} {A : Around} {s : Shared} {mg mb : Str → Option Value} {mean : ExcName → Option Value} {x : Str} {u : Tok} {E : Value → Shared → Prop} {g : Heap} {L : Addr} {m : Str → Option Value}
    (F : Fr g L s.heap m) (X : (Mine.hd.heap_39 w.params).In g) (T : Top Mine.view (looseW Mine.view []) mean mg mb g) (hroom : (A.under (.builtin "type.__call__" ⟨.ref 79 :: [.str x u], []⟩)).depth < recursionLimit)
    (hq : ∀ h' e D t1 tk', s.heap.StaysIn h' → s.heap.get? e = none → s.heap.get? D = none → D ≠ e →
      h'.get? e = some { cls := .ref 79, dict := some D, data := .fields #[.ref t1, .none, .none, .none, .bool false, .none] } → h'.Ns D (fun y => if y = "why" then some (.str x u) else none) →
      E (.ref e) { s with heap := h', toks := tk' }) :
    wpAny (model PySem.Challenge.rw_nt0588_01.row.prog w) A (call (.ref 79) [.str x u]) (Thrown E) E s := make_low (X.keeps F.keep) (T.keeps F.keep) hroom hq
theorem sp_refusal {w mg mb mean s} {x y : Str} {t u : Tok} (hy : isName y = false) (hy2 : y.length ≤ 1000): Okr w mg mb mean 174 [.str x t, .str y u] 14 s (Str.ofString "no encoder of " ++ y) := by
  k_with_none
  k_with "execs cons" => first | k_fold | fail
  k_with "spliced" => first | (k_here; (with_reducible show wpAny _ _ (spliced (backTo _ (starEach (_ :: _ :: _) _))) _ _ _); (with_reducible refine spliced_consts (by with_unfolding_all rfl) ?_); intro f0 t0; dsimp only [valsF, Nat.reduceAdd]) | fail
  k_with "FinE" => first | (k_dflt (intro D0' h0' tk0' F0' N0' o0'); (have o0' := off_ne o0'); (try simp only [List.cons_append, List.nil_append, List.map_cons, List.map_nil] at N0' o0'); (try dsimp only); (try k_fold)) | fail
  k_with "FinA" => first | (k_dflt (intro D0' h0' tk0' F0' N0' o0'); (have o0' := off_ne o0'); (try simp only [List.cons_append, List.nil_append, List.map_cons, List.map_nil] at N0' o0'); (try dsimp only); (try k_fold)) | fail
  k_with "LeaveS" => first | (refine leaveS_ (by assumption) ?_; (try dsimp only)) | fail
  k_with "binaryOp RShift int int" => first | (k_here; (with_reducible refine rshift_int (by decide) ?_)) | fail
  k_with "exec Raise some none" => first | (k_here; k_dflt (refine Raise_low (by first | rfl | assumption) ?_; k_whole)) | fail
  k_with "call ref" => first | (k_here; (with_reducible show wpAny _ _ (call (Value.ref 79) _) _ _ _); refine Halt.mk ?_) | fail
  k_with "exec Assign cons List" => first | (refine Halt.mk ?_) | fail
  unfold Okr
  k_fill
  intro dp un gd cn cs a ccd cl A₀ h₀ L m news Q E B F N X T hk hd hu hret
  w_top on
  refine wpAny_call ?_
  k_dflt (refine' enterR ?k1 ?k2 ?kN ?k3 ?k5 ?kA ?kF ?kK ?k6 ?k7 ?k8 ?k9 ?kB ?_ ?c2 ?c3 ?c4 ?c5; (case kA => exact rfl); (case kF => exact rfl); (case kK => assumption); (case kN => exact N); (case k1 => k_asm); (case k2 => k_asm); (case k3 => k_asm); (case k5 => k_asm); (case k6 => k_is); (case k7 => k_is); (case k8 => ktr_room); (case k9 => exact BindsTo.of_eq rfl); (case c5 => decide); (case kB => exact locs rfl); (case c2 => exact rfl); (case c3 => exact rfl); (case c4 => exact rfl); k_whole; intro L' h' F' N' B' X' T'; (try dsimp only); (try k_fold))
  have XB := X
  have TB := T
  clear B F X T hk N
  (try k_fold); repeat' (first | (k_unfold; (try dsimp only)) | walk1 | (dsimp only; walk1))
  · exact absurd (show isName y = true by assumption) (by rw [Bool.not_eq_true]; exact hy)
  refine Halt.out ?_
  k_dflt (refine' make_K ?q1 ?q2 ?q3 ?q4 ?q5; (case q1 => assumption); (case q2 => k_asm); (case q3 => k_asm); (case q4 => ktr_room))
  · intro h2 e D t1 tk2 x1 x2 x3 x4 x5 x6
    k_here
    k_dflt (refine' leave_D (D := D) ?r1 ?r2 ?r3 ?r4 ?r5 ?r6 ?r7 ?r8 ?_ ?r9; (case r1 => assumption); (case r2 => assumption); (case r3 => exact x1); (case r4 => exact x2); (case r5 => exact x3); (case r6 => exact x4); (case r7 => exact x5); (case r8 => exact x6); (case r9 => exact rfl))
    intro h3 B y1 y2 y3 y4 y5 y6 y7
    k_here
    k_dflt (refine' caught_D ?u1 ?u2 ?u3 ?u4 ?u5 ?u6 ?u7 ?u8 ?u9 ?v1 ?v2 ?_ ?v3 ?v4 ?v5 ?v6; (case u1 => exact y1); (case u2 => exact y4); (case u3 => exact y5); (case u4 => exact y6); (case u5 => exact y7); (case u6 => assumption); (case u7 => assumption); (case u8 => exact y2); (case u9 => exact XB); (case v1 => exact TB); (case v2 => k_is); (case v3 => exact rfl); (case v4 => exact rfl); (case v5 => exact rfl); (case v6 => decide))
    intro h4 g4 tk4 z1 z2 z3 z4 z5 z6 z7
    obtain ⟨ob, vs, w1, w2, w3, w4⟩ := z3
    (try k_fold); repeat' (first | (k_unfold; (try dsimp only)) | walk1 | (dsimp only; walk1))
    k_here
    k_dflt (refine' get_low ?a1 ?a2 ?a3 ?a4 ?a5 ?a6 ?a7 ?a8 ?_; (case a1 => exact (low_of z6).keeps z2.keep); (case a2 => exact w1); (case a3 => exact w2); (case a4 => exact w3); (case a5 => exact w4); (case a6 => exact z4); (case a7 => exact if_pos rfl); (case a8 => rfl))
    try dsimp only
    (try k_fold); repeat' (first | (k_unfold; (try dsimp only)) | walk1 | (dsimp only; walk1))
    exact leaveR_ z1 (by assumption) fun F N => hret _ _ _ F N
end
end
section
/-! L6 -/
theorem mem_ks {a c : Int} {n : Nat} : c ∈ rangeKs a n ↔ a ≤ c ∧ c < a + (n : Int) := by
  constructor
  · exact fun h => mem_rangeKs h
  · intro h
    unfold rangeKs
    refine List.mem_map.mpr ⟨(c - a).toNat, List.mem_range.mpr (by omega), by omega⟩
theorem idx_ks {a c : Int} : ∀ {n : Nat}, a ≤ c → c < a + (n : Int) → (rangeKs a n).idxOf c = (c - a).toNat := by
  intro n
  induction n generalizing a with
  | zero => intro h0 h1; omega
  | succ n ih =>
    intro h0 h1
    rw [kll_cons]
    by_cases e : a = c
    · subst e
      rw [List.idxOf_cons_self]; omega
    · rw [List.idxOf_cons, show (a == c) = false from beq_false_of_ne e]
      show (rangeKs (a + 1) n).idxOf c + 1 = _
      rw [ih (by omega) (by omega)]; omega
theorem len_ks (a : Int) (n : Nat) : (rangeKs a n).length = n := rangeKs_length a n
noncomputable def tabW : List Int := rangeKs 0 128 ++ hiT ++ rangeKs 160 96
noncomputable def tabX : List Int := rangeKs 0 128 ++ rangeKs 63360 128
theorem hi_at {j : Nat} (h : j < 32) : hiT.getD j 0 = c1 (128 + (j : Int)) := by
  have := hi_c1 (n := 128 + (j : Int)) (by omega) (by omega)
  rw [show (128 + (j : Int) - 128).toNat = j by omega] at this
  exact this
theorem hi_seek {c : Int} (h : c ∈ hiT) : seek c 32 = 128 + (hiT.idxOf c : Int) ∧ ¬ c < 128 ∧ ¬ (160 ≤ c ∧ c ≤ 255) ∧ hiT.idxOf c < 32 := by
  have key : ∀ e : Fin 32, seek (hiT.getD e.val 0) 32 = 128 + (hiT.idxOf (hiT.getD e.val 0) : Int) ∧ ¬ hiT.getD e.val 0 < 128 ∧ ¬ (160 ≤ hiT.getD e.val 0 ∧ hiT.getD e.val 0 ≤ 255) ∧ hiT.idxOf (hiT.getD e.val 0) < 32 := by decide +kernel
  obtain ⟨i, hi, e⟩ := List.getElem_of_mem h
  have hi' : i < 32 := hi
  have := key ⟨i, hi'⟩
  have e2 : hiT.getD i 0 = c := by rw [List.getD_eq_getElem?_getD, List.getElem?_eq_getElem hi]; exact e
  rw [e2] at this
  exact this
theorem hi_none {c : Int} (h : ¬ c ∈ hiT) : seek c 32 = -1 := by
  refine seek_none fun j hj e => h ?_
  rw [← e, ← hi_at hj]
  have hj' : j < hiT.length := hj
  rw [List.getD_eq_getElem?_getD, List.getElem?_eq_getElem hj']
  exact List.getElem_mem _
theorem oc_single {c : Int} {y : Str} (h : ([Str.ofString "windows-1252", Str.ofString "x-user-defined"].any fun x => x == y) = true) : oc c y = if 0 ≤ oo c y then [oo c y] else refd c := by rw [oc, if_pos h]
theorem tab_win {c : Int} (h0 : 0 ≤ c) : (c ∈ tabW → oc c (Str.ofString "windows-1252") = [(tabW.idxOf c : Int)]) ∧ (c ∉ tabW → 128 ≤ c ∧ oc c (Str.ofString "windows-1252") = refd c) := by
  have hl : hiT.length = 32 := rfl
  have hne : ¬ (Str.ofString "windows-1252" : Str) = "x-user-defined" := by decide
  rw [oc_single (by decide)]
  unfold oo tabW
  rw [if_neg hne]
  by_cases q1 : c < 128
  · have m : c ∈ rangeKs 0 128 := mem_ks.mpr ⟨h0, by omega⟩
    refine ⟨fun _ => ?_, fun h => absurd (List.mem_append_left _ (List.mem_append_left _ m)) h⟩
    rw [if_pos q1, if_pos h0, List.idxOf_append, if_pos (List.mem_append_left _ m), List.idxOf_append, if_pos m, idx_ks h0 (by omega)]
    congr 1; omega
  · have m0 : ¬ c ∈ rangeKs 0 128 := fun m => by have := mem_ks.mp m; omega
    rw [if_neg q1]
    by_cases q2 : 160 ≤ c ∧ c ≤ 255
    · have m1 : ¬ c ∈ hiT := fun m => (hi_seek m).2.2.1 q2
      have m2 : c ∈ rangeKs 160 96 := mem_ks.mpr ⟨q2.1, by omega⟩
      have m3 : ¬ c ∈ rangeKs 0 128 ++ hiT := fun m => (List.mem_append.mp m).elim m0 m1
      refine ⟨fun _ => ?_, fun h => absurd (List.mem_append_right _ m2) h⟩
      rw [if_pos q2, if_pos h0, List.idxOf_append, if_neg m3, idx_ks q2.1 (by omega), List.length_append, len_ks, hl]
      congr 1; omega
    · rw [if_neg q2]
      have m2 : ¬ c ∈ rangeKs 160 96 := fun m => by have := mem_ks.mp m; omega
      by_cases q3 : c ∈ hiT
      · have s := hi_seek q3
        refine ⟨fun _ => ?_, fun h => absurd (List.mem_append_left _ (List.mem_append_right _ q3)) h⟩
        rw [s.1, if_pos (by omega), List.idxOf_append, if_pos (List.mem_append_right _ q3), List.idxOf_append, if_neg m0, len_ks]
        congr 1; omega
      · refine ⟨fun h => ?_, fun _ => ⟨by omega, ?_⟩⟩
        · rcases List.mem_append.mp h with h | h
          · exact absurd h (fun m => (List.mem_append.mp m).elim m0 q3)
          · exact absurd h m2
        · rw [hi_none q3, if_neg (by omega)]
theorem tab_usr {c : Int} (h0 : 0 ≤ c) : (c ∈ tabX → oc c (Str.ofString "x-user-defined") = [(tabX.idxOf c : Int)]) ∧ (c ∉ tabX → 128 ≤ c ∧ oc c (Str.ofString "x-user-defined") = refd c) := by
  rw [oc_single (by decide)]
  unfold oo tabX
  rw [if_pos rfl]
  by_cases q1 : c < 128
  · have m : c ∈ rangeKs 0 128 := mem_ks.mpr ⟨h0, by omega⟩
    refine ⟨fun _ => ?_, fun h => absurd (List.mem_append_left _ m) h⟩
    rw [if_pos q1, if_pos h0, List.idxOf_append, if_pos m, idx_ks h0 (by omega)]
    congr 1; omega
  · have m0 : ¬ c ∈ rangeKs 0 128 := fun m => by have := mem_ks.mp m; omega
    rw [if_neg q1]
    by_cases q2 : 63360 ≤ c ∧ c ≤ 63487
    · have m2 : c ∈ rangeKs 63360 128 := mem_ks.mpr ⟨q2.1, by omega⟩
      refine ⟨fun _ => ?_, fun h => absurd (List.mem_append_right _ m2) h⟩
      rw [if_pos q2, if_pos (by omega), List.idxOf_append, if_neg m0, idx_ks q2.1 (by omega), len_ks]
      congr 1; omega
    · have m2 : ¬ c ∈ rangeKs 63360 128 := fun m => by have := mem_ks.mp m; omega
      refine ⟨fun h => (List.mem_append.mp h).elim (fun m => absurd m m0) fun m => absurd m m2, fun _ => ⟨by omega, ?_⟩⟩
      rw [if_neg q2, if_neg (by decide)]
theorem tabW_ok : tabW.length < 1000 ∧ ∀ p ∈ tabW, 0 ≤ p ∧ p < 1114112 := by
  constructor
  · unfold tabW
    rw [List.length_append, List.length_append, len_ks, len_ks]; decide
  · intro p hp
    have key : ∀ q ∈ hiT, 0 ≤ q ∧ q < 1114112 := by decide +kernel
    unfold tabW at hp
    rcases List.mem_append.mp hp with hp | hp
    · rcases List.mem_append.mp hp with hp | hp
      · have := mem_ks.mp hp; omega
      · exact key p hp
    · have := mem_ks.mp hp; omega
theorem tabX_ok : tabX.length < 1000 ∧ ∀ p ∈ tabX, 0 ≤ p ∧ p < 1114112 := by
  constructor
  · unfold tabX
    rw [List.length_append, len_ks, len_ks]; decide
  · intro p hp
    unfold tabX at hp
    rcases List.mem_append.mp hp with hp | hp
    · have := mem_ks.mp hp; omega
    · have := mem_ks.mp hp; omega
end
section
/-! S14 -/
section
theorem nil_rest {prog : Program} {w : World} {A : Around} {E : Value → Shared → Prop} {h₀ : Heap} {env : Env} {target : PySem.Expr} {body : List Stmt} {Q : Flow → Shared → Prop} {s : Shared} {ws : List (Addr × String)} {keep : List (Addr × Obj)} {f : Value → Itm} {m : Str → Option Value} {news : List (Addr × Obj)}
  (h : ItemsRest prog w A E h₀ env target body Q s ws keep [] m news) : ItemsRest prog w A E h₀ env target body Q s ws keep (List.map f []) m news := h
theorem wide_names {y : Str} (h : y ∈ [Str.ofString "UTF-16LE", Str.ofString "UTF-16BE"]) : isName y = true ∧ ([Str.ofString "windows-1252", Str.ofString "x-user-defined"].any fun x => x == y) = false := by
  simp only [List.mem_cons, List.not_mem_nil, or_false] at h
  rcases h with rfl | rfl <;> exact ⟨by decide, by decide⟩
theorem fm_nat {a : Int} : (a.fmod 4).toNat ≤ 3 := by
  have := fm_range a (b := 4) (by decide)
  omega
theorem others_ok {ws : List Value} {ps : List Int} {a b : Nat} {x : Int} (_io : IntsAre ws (ps.take a ++ [x] ++ ps.reverse.take b)) (hl : ps.length = 8) (hb : b ≤ 3) (hp : ∀ p ∈ ps, 0 ≤ p ∧ p < 1114112) (hx : 0 ≤ x ∧ x < 1114112) :
    (∀ q ∈ ps.take a ++ [x] ++ ps.reverse.take b, 0 ≤ q ∧ q < 1114112) ∧ (ps.take a ++ [x] ++ ps.reverse.take b).length < 20 ∧ 1 ≤ (ps.take a ++ [x] ++ ps.reverse.take b).length := by
  refine ⟨fun q hq => ?_, ?_, ?_⟩
  · rcases List.mem_append.mp hq with hq | hq
    · rcases List.mem_append.mp hq with hq | hq
      · exact hp q (List.mem_of_mem_take hq)
      · rw [List.mem_singleton.mp hq]; exact hx
    · exact hp q (List.mem_reverse.mp (List.mem_of_mem_take hq))
  · simp only [List.length_append, List.length_take, List.length_cons, List.length_nil, List.length_reverse]; omega
  · simp only [List.length_append, List.length_take, List.length_cons, List.length_nil, List.length_reverse]; omega
theorem empty_lt : ∀ c ∈ KStt.codes (Str.ofString ""), c < 1114112 := by rw [codes_empty]; exact fun _ h => nomatch h
theorem News.ends {h₀ h : Heap} {L : Addr} {news : List (Addr × Obj)} (j k : Nat) (N : News h₀ L h news) : News h₀ L h (news.take j ++ (news.reverse.take k).reverse) := fun p hp => by
  rcases List.mem_append.mp hp with hp | hp
  · exact N p (List.mem_of_mem_take hp)
  · exact N p (List.mem_reverse.mp (List.mem_of_mem_take (List.mem_reverse.mp hp)))
theorem law_post (args : List WData) : PySem.Challenge.rw_nt0588_01.row.claim.post args (.bool true) args = true := postW_of (by wrow_shape) (by wtm_val) (by first | rfl | w_fin)
theorem law_raises (args : List WData) (cls : ExcName) : PySem.Challenge.rw_nt0588_01.row.claim.raises args cls = false := raisesW_false (by wrow_none_raised) cls
theorem law_end {cl : _} {mean : ExcName → Option Value} {args : List WData} {s₁ s' : Shared} {L : Addr} {m : Str → Option Value} (F : Fr s₁.heap L s'.heap m) (hg : s'.gens = #[]) (hos : s'.os = s₁.os) :
    GoodW PySem.Challenge.rw_nt0588_01.row.claim cl mean args s₁ (.ok (.ret (.bool true))) s' := goodW_bool F hg (law_raises args) (law_post args) hos
theorem useR {w : World} {mg mb : Str → Option Value} {mean : ExcName → Option Value} {f : Addr} {vs : List Value} {need : Nat} {s : Shared} {x : Str}
  {dp un : Nat} {gd : Option (List Code)} {cn : Str} {cs : Scope} {a : Addr} {ccd : Value} {cl : List (Str × Addr)} {A₀ : Around} {h₀ : Heap} {L : Addr} {m : Str → Option Value} {Q E : Value → Shared → Prop} {news : List (Addr × Obj)}
    (C : Okr w mg mb mean f vs need s x) (B : Below A₀ h₀ [] h₀) (F : Fr h₀ L s.heap m) (N : News h₀ L s.heap news) (X : (Mine.hd.heap_39 w.params).In h₀) (T : Top Mine.view (looseW Mine.view []) mean mg mb h₀) (hk : cs.kind = .function) (hd : dp + need < recursionLimit) (hu : un + 8 * need < cLine)
    (ret : ∀ t h' tk', Fr h₀ L h' m → News h₀ L h' news → Q (.str x t) { s with heap := h', toks := tk' }) :
    wpAny (model PySem.Challenge.rw_nt0588_01.row.prog w) (ktrTop dp un gd cn cs L a ccd cl []) (call (.ref f) vs) Q E s :=
  C _ _ _ _ _ _ _ _ _ _ _ _ _ _ _ B F N X T hk hd hu ret
theorem left_names {y : Str} (h : y ∈ [Str.ofString "Shift_JIS", Str.ofString "utf-8", Str.ofString "UTF-16", Str.ofString "GBK", Str.ofString "windows-1251", Str.ofString "replacement", Str.ofString "", Str.ofString "Windows-1252"]) : isName y = false ∧ y.length ≤ 1000 ∧ PySem.PyData.strOk (Str.ofString "no encoder of " ++ y) = true := by
  simp only [List.mem_cons, List.not_mem_nil, or_false] at h
  rcases h with rfl | rfl | rfl | rfl | rfl | rfl | rfl | rfl <;> exact ⟨by decide, by decide, by decide +kernel⟩
theorem two_shaped {x : Str} (h : PySem.PyData.strOk x = true) : SeqAt.shaped (.list [.str x, .str x]) = true := by
  simp [SeqAt.shaped, PyData.canLay0, PyData.canLayAll0, PyData.depth, PyData.depthAll, h]
theorem law_holds : PySem.Challenge.rw_nt0588_01.Holds := Mine.hd (by
  k_with_none
  k_with "execs cons" => first | k_fold | fail
  k_with "spliced" => first | (k_here; (with_reducible show wpAny _ _ (spliced (backTo _ (starEach (_ :: _ :: _) _))) _ _ _); (with_reducible refine spliced_consts (by with_unfolding_all rfl) ?_); intro f0 t0; dsimp only [valsF, Nat.reduceAdd]) | fail
  k_with "FinE" => first | (k_dflt (intro D0' h0' tk0' F0' N0' o0'); (have o0' := off_ne o0'); (try simp only [List.cons_append, List.nil_append, List.map_cons, List.map_nil] at N0' o0'); (try dsimp only); (try k_fold)) | fail
  k_with "FinA" => first | (k_dflt (intro D0' h0' tk0' F0' N0' o0'); (have o0' := off_ne o0'); (try simp only [List.cons_append, List.nil_append, List.map_cons, List.map_nil] at N0' o0'); (try dsimp only); (try k_fold)) | fail
  k_with "LeaveS" => first | (refine leaveS_ (by assumption) ?_; (try dsimp only)) | fail
  k_with "binaryOp RShift int int" => first | (k_here; (with_reducible refine rshift_int (by decide) ?_)) | fail
  k_with "subscriptTail Name Slice ref ref" => first | (k_here; (with_reducible show wpAny _ _ (subscriptTail _ (PySem.Expr.Slice none (some _) none _) (Value.ref _) (Value.ref _)) _ _ _); k_dflt (refine upto_ints (by k_asm) (by k_asm) (by k_mem) (by assumption) (by first | exact fmod_lo _ (by decide) | omega) ?_ (by with_unfolding_all rfl) (by (intro _; with_unfolding_all rfl)) (by ((try simp only [List.length_reverse]); omega))); intro D' ws' h' F' N' l1 hI'; (try k_lt l1); (try k_sweep)) | fail
  k_with "subscriptTail Subscript Name Slice Slice ref ref" => first | (k_here; k_dflt (refine kba_turn (value' := PySem.Expr.Name (PySem.Str.ofString "_") ⟨0, 0, 0, 0⟩) (fun _ => rfl) ?_)) | fail
  k_with "binaryOp Add ref ref" => first | (k_here; (with_reducible show wpAny _ _ (binaryOp _ (Value.ref _) (Value.ref _)) _ _ _); k_dflt (refine kmk_add_ints (by k_asm) (by k_asm) (by kmk_list) (by kmk_list) (by first | assumption | l_ints) (by first | assumption | l_ints) ?_ (by ((simp only [PySem.sizeLine_eq, List.length_append, List.length_take, List.length_cons, List.length_nil, List.length_reverse, rangeKs_length, hiT]); omega))); intro D' ws' h' F' N' l1 hI'; (try k_lt l1); (try k_sweep)) | fail
  k_with "subscriptTail Tuple cons BinOp ref int" => first | (k_here; k_dflt (refine tup_int (by k_asm) (by k_mem) (by l_ints) (by exact fmod_lo _ (by decide)) (by exact Int.lt_of_lt_of_le (fmod_hi _ (by decide)) (by decide)) (by decide) ?_ (by with_unfolding_all rfl)); intro n8 t8; (try dsimp only)) | fail
  k_with "subscriptTail Tuple cons BinOp ref int" => first | (k_here; k_dflt (refine tup_str (by k_asm) (by k_mem) (by kct_strs) (by exact fmod_lo _ (by decide)) (by exact Int.lt_of_lt_of_le (fmod_hi _ (by decide)) (by decide)) (by decide) ?_ (by with_unfolding_all rfl)); intro y8 t8 hy8; (try dsimp only)) | fail
  k_with "execs cons" => first | (k_here; (with_reducible refine wpAny_execs_cons ?_); (try dsimp only)) | fail
  k_with "execs nil" => first | (k_here; (with_reducible refine wpAny_execs_nil ?_)) | fail
  k_with "call ref" => first | (refine Halt.mk ?_) | fail
  k_with "ItemsRest" => first | ((with_reducible refine nil_rest ?_); (with_reducible refine ItemsRest.zero ?_); intro h8 tk8 F8 N8) | fail
  k_with "call ref" => first | (k_here; (with_reducible show wpAny _ _ (call (Value.ref 114) _) _ _ _); k_dflt (refine useZ ((sp_digit (by kmk_list) (by assumption) (by omega) (by omega) (by omega))) (by k_asm) (by k_asm) (by k_asm) (by k_in) (by k_asm) (by first | exact rfl | assumption) (by ktr_room) (by ktr_units) ?_; k_whole); intro n8 t8 h8 tk8 F8 N8; (try dsimp only); (try k_fold)) | fail
  k_with "call ref" => first | (k_here; (with_reducible show wpAny _ _ (call (Value.ref 128) _) _ _ _); k_dflt (refine useP ((sp_point (by omega) (by omega))) (by k_asm) (by k_asm) (by k_asm) (by k_in) (by k_asm) (by first | exact rfl | assumption) (by ktr_room) (by ktr_units) ?_; k_whole); intro n8 t8 h8 tk8 r8 F8 N8; (try dsimp only); (try k_fold)) | fail
  k_with "eval ListComp" => first | (k_here; (with_reducible show wpAny _ _ (eval (Expr.ListComp _ [⟨_, _, _, _⟩] _ _) _) _ _ _); k_dflt (refine LCg.ListComp_U (F₀ := by k_asm) (by with_unfolding_all rfl) (by decide) (by rfl) (by decide) (by rfl) ?_)) | fail
  k_with "call type:list" => first | (k_here; (with_reducible show wpAny _ _ (call (Value.type _) [Value.ref _]) _ _ _); (rename IsRange _ _ _ _ _ _ _ _ => rgX); (with_unfolding_all refine kll_range (by rfl) (by k_asm) (by k_asm) (by exact rgX) (by decide) (by exact rangeSize_nat _ _) (by decide) ?_; k_whole); clear rgX; intro D' vs' c' h' tk' F' N' l1 hI'; (try k_lt l1); (try k_sweep)) | fail
  k_with "call builtin:str.join" => first | (k_here; (with_reducible show wpAny _ _ (call (Value.builtin _) _) _ _ _); (rename StrsAre _ _ => sj9); k_dflt (refine join_signs (News.isList (by assumption) (List.Mem.head _)) sj9 (by omega) ?_); intro t9 k9; (try dsimp only)) | fail
  k_with "CompSrc" => first | (refine Halt.mk ?_) | fail
  k_with "call ref" => first | (k_here; (with_reducible show wpAny _ _ (call (Value.ref 167) _) _ _ _); k_dflt (refine useB ((sp_wide (by kmk_list) (by assumption) (by kmk_list) (by assumption) (by assumption) (by assumption) (by assumption) (by assumption) (by assumption) (by assumption) (by assumption) (by assumption))) (by k_asm) (by k_asm) (by k_asm) (by k_in) (by k_asm) (by first | exact rfl | assumption) (by ktr_room) (by ktr_units) ?_; k_whole); intro h8 tk8 F8 N8; (try dsimp only); (try k_fold)) | fail
  k_with "call ref" => first | (k_here; (with_reducible show wpAny _ _ (call (Value.ref 162) _) _ _ _); k_dflt (refine useB ((sp_single (by kmk_list) (by assumption) (News.get (by assumption) (by k_mem)) (by assumption) (by assumption) (by assumption) (by assumption) (by assumption) (by first | assumption | exact rfl) (by assumption))) (by k_asm) (by k_asm) (by k_asm) (by k_in) (by k_asm) (by first | exact rfl | assumption) (by ktr_room) (by ktr_units) ?_; k_whole); intro h8 tk8 F8 N8; (try dsimp only); (try k_fold)) | fail
  k_with "call ref" => first | (k_here; (with_reducible show wpAny _ _ (call (Value.ref 121) _) _ _ _); k_dflt (refine useL (sp_high) (by k_asm) (by k_asm) (by k_asm) (by k_in) (by k_asm) (by first | exact rfl | assumption) (by ktr_room) (by ktr_units) ?_; k_whole); intro b8 us8 c8 h8 tk8 i8 ne8 F8 N8; (try dsimp only); (try k_fold)) | fail
  k_with "call type:bytes" => first | (k_here; k_dflt (refine bytes_K (by assumption) (by assumption) (by kmk_list) IntsAre.nil (fun _ h => nomatch h) (by decide) rfl ?_); intro h8 t8 k8 F8 N8 _; (try dsimp only)) | fail
  k_with "call ref" => first | (k_here; (with_reducible show wpAny _ _ (call (Value.ref 107) _) _ _ _); k_dflt (refine useY ((sp_enc (by first | assumption | exact empty_lt) (by first | assumption | decide) (by first | assumption | decide))) (by k_asm) (by k_asm) (by k_asm) (by k_in) (by k_asm) (by first | exact rfl | assumption) (by ktr_room) (by ktr_units) ?_; k_whole); intro t8 h8 tk8 F8 N8; (try dsimp only); (try k_fold)) | fail
  k_with "compareOp Eq ref ref" => first | (refine Halt.mk ?_) | fail
  k_with "call ref" => first | (k_here; (with_reducible show wpAny _ _ (call (Value.ref 174) _) _ _ _); k_dflt (refine useR (sp_refusal (by assumption) (by assumption)) (by k_asm) (by k_asm) (by k_asm) (by k_in) (by k_asm) (by first | exact rfl | assumption) (by ktr_room) (by ktr_units) ?_; k_whole); intro t8 h8 tk8 F8 N8; (try dsimp only); (try k_fold)) | fail
  k_go0
  all_goals try k_fold
  (rename List Int => sc); (rename ¬ _ < _ => hsc)
  have hscl : sc.length ≤ 63 := by omega
  repeat' (first | (k_unfold; (try dsimp only)) | walk1 | (dsimp only; walk1))
  refine Halt.out ?_
  refine LCg.CompSrc.range (n := 8) (by rfl) (by k_asm) (by k_asm) (by assumption) (by decide) (by rfl) (by rw [PySem.sizeLine_eq]; decide) ?_
  intro g1
  refine rest_fix (fun i ys => ∃ ps : List Int, ps.length = i ∧ IntsAre ys ps ∧ ∀ p ∈ ps, 0 ≤ p ∧ p < 1114112) trivial ⟨[], rfl, IntsAre.nil, fun _ h => nomatch h⟩ ?_ ?_
  · rintro i v I oI C oC D m₂ h tk E' ys hi1 ⟨ps, hp1, hp2, hp3⟩ ⟨t, rfl⟩ hC hx F N off ne
    clear off ne
    repeat' (first | (k_unfold; (try dsimp only)) | walk1 | (dsimp only; walk1))
    rename (0 ≤ _ ∧ _ < 1114112) => r9
    refine EndS.intro (by assumption) (by assumption) (fun p hp => hp) ?_
    exact ⟨ps ++ [_], by rw [List.length_append, hp1]; rfl, IntsAre.append hp2 (IntsAre.cons _ _ IntsAre.nil), fun p hp => (List.mem_append.mp hp).elim (hp3 p) fun hp => by rw [List.mem_singleton.mp hp]; exact r9⟩
  · rintro ys ⟨ps, hp1, hp2, hp3⟩
    have hl1 : ps.length < 20 := by omega
    have hl3 : 3 ≤ ps.length := by omega
    repeat' (first | (k_unfold; (try dsimp only)) | walk1 | (dsimp only; walk1))
    refine Halt.out ?_
    rename _ ∈ [_, _] => hy9
    obtain ⟨hyn, hyw⟩ := wide_names hy9
    rename IntsAre _ (_ ++ _ ++ _) => io
    obtain ⟨ho1, ho2, ho3⟩ := others_ok io hp1 fm_nat hp3 (fm_range _ (by decide))
    rename News _ _ _ (_ :: _ :: _) => N9
    replace N9 : News _ _ _ [_, _, _, _] := News.ends 2 2 N9
    repeat (rename _ < _ ∧ _ => q9; clear q9)
    repeat (rename _ ≠ _ ∧ _ => q9; clear q9)
    repeat' (first | (k_unfold; (try dsimp only)) | walk1 | (dsimp only; walk1))
    refine Halt.out ?_
    rename IntsAre _ (_ ++ hiT ++ _) => io2
    replace io2 : IntsAre _ tabW := io2
    rename News _ _ _ (_ :: _ :: _) => N9
    replace N9 : News _ _ _ [_, _, _] := News.ends 1 2 N9
    repeat (rename _ < _ ∧ _ => q9; clear q9)
    repeat (rename _ ≠ _ ∧ _ => q9; clear q9)
    have htl := tabW_ok.1
    have htr := tabW_ok.2
    have htb : ∀ p ∈ ps, (cl p ∈ tabW → oc (cl p) (Str.ofString "windows-1252") = [(tabW.idxOf (cl p) : Int)]) ∧ (cl p ∉ tabW → 128 ≤ cl p ∧ oc (cl p) (Str.ofString "windows-1252") = refd (cl p)) := fun p hp => tab_win (cl_range (hp3 p hp).1 (hp3 p hp).2).1
    repeat' (first | (k_unfold; (try dsimp only)) | walk1 | (dsimp only; walk1))
    refine Halt.out ?_
    rename IntsAre _ (rangeKs 0 _ ++ rangeKs _ _) => io3
    replace io3 : IntsAre _ tabX := io3
    rename News _ _ _ (_ :: _ :: _) => N9
    replace N9 : News _ _ _ [_, _, _] := News.ends 1 2 N9
    repeat (rename _ < _ ∧ _ => q9; clear q9)
    repeat (rename _ ≠ _ ∧ _ => q9; clear q9)
    have htl2 := tabX_ok.1
    have htr2 := tabX_ok.2
    have htb2 : ∀ p ∈ ps, (cl p ∈ tabX → oc (cl p) (Str.ofString "x-user-defined") = [(tabX.idxOf (cl p) : Int)]) ∧ (cl p ∉ tabX → 128 ≤ cl p ∧ oc (cl p) (Str.ofString "x-user-defined") = refd (cl p)) := fun p hp => tab_usr (cl_range (hp3 p hp).1 (hp3 p hp).2).1
    repeat' (first | (k_unfold; (try dsimp only)) | walk1 | (dsimp only; walk1))
    refine Halt.out ?_
    rename _ ∈ [_, _, _, _, _, _, _, _] => hy5
    obtain ⟨hl4, hl5, hl6⟩ := left_names hy5
    clear hy5
    rename News _ _ _ (_ :: _ :: _) => N9
    replace N9 : News _ _ _ [_, _] := News.ends 0 2 N9
    repeat (rename _ < _ ∧ _ => q9; clear q9)
    repeat (rename _ ≠ _ ∧ _ => q9; clear q9)
    refine LCg.CompSrc.ledger (by rfl) (by k_asm) (by k_asm) (by k_mem) (by rw [PySem.sizeLine_eq, List.size_toArray, hp2.length]; omega) ?_
    intro g9
    refine rest_fix (fun i ys => StrsAre ys ((ps.take i).map sgn)) (Or.inr ⟨_, by k_mem, rfl, _, rfl⟩) StrsAre.nil ?_ ?_
    · rintro i v I oI C oC D m₂ h tk E' ys hi1 hJ hv hC hx F N off ne
      obtain ⟨k, t, rfl, hk⟩ := ints_at hp2 hv
      have hkr := hp3 k (List.mem_of_getElem? hk)
      have e : (ps.take (i + 1)).map sgn = (ps.take i).map sgn ++ [sgn k] := by rw [List.take_add_one, hk]; simp
      clear off ne
      repeat' (first | (k_unfold; (try dsimp only)) | walk1 | (dsimp only; walk1))
      refine EndS.intro (by assumption) (by assumption) (fun p hp => hp) ?_
      rw [e]
      exact strs_snoc hJ
    · intro ys9 hJ
      rw [List.size_toArray, hp2.length, List.take_length] at hJ
      repeat' (first | (k_unfold; (try dsimp only)) | walk1 | (dsimp only; walk1))
      refine Halt.out ?_
      k_here
      k_dflt (refine eq_dataH (by ke_read) (by ke_read) (two_shaped hl6) (two_shaped hl6) (by ke_room) ?_)
      ke_norm
      repeat' (first | (k_unfold; (try dsimp only)) | walk1 | (dsimp only; walk1))
      exact law_end (by assumption) (by assumption) rfl)
end
end
end Mine

theorem PySem.Challenge.cw_nt0588_01_holds : PySem.Challenge.rw_nt0588_01.Holds :=
  Mine.law_holds
