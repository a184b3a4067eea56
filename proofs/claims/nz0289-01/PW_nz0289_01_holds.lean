import PyProof.Rows.All
import Wide.All
import OpenK.AllK
import Wide.FinOn
import Lean
import PySem.Challenge.RW_nz0289_01
open PySem PySem.W PySem.Calls PyProof.Rows
set_option Elab.async false
set_option maxRecDepth 100000
set_option linter.unusedVariables false
section
open PySem PySem.W PyProof.Rows
namespace Mine
set_option maxHeartbeats 8000000
open_top hd for PySem.Challenge.rw_nz0289_01
end Mine
end
section
open PySem PySem.W PySem.Calls PyProof.Rows
namespace Mine
noncomputable abbrev Lo : List PySem.Str := looseW Mine.hd.view_39 [PySem.Str.ofString "PostError", PySem.Str.ofString "vanished_since"]
abbrev TT (s₀ : Shared) (mg mb : PySem.Str → Option Value) (h : Heap) : Prop := Top Mine.hd.view_39 Lo (ExcName.means s₀.heap) mg mb h

theorem kfill_once : ∀ (w : World) (h : Heap), PySem.Challenge.rw_nz0289_01.row.prog = PySem.Challenge.rw_nz0289_01.row.prog → (Mine.hd.heap_39 w.params).In h → True := by
  k_fill
  intros
  trivial

structure Gr (w : World) (h : Heap) : Prop where
  X : (Mine.hd.heap_39 w.params).In h
  T : ∃ s₀ mg mb, TT s₀ mg mb h
theorem Gr.keeps {w : World} {h h' : Heap} (g : Gr w h) (k : ∀ b o, h.get? b = some o → h'.get? b = some o) : Gr w h' :=
  ⟨g.X.keeps k, let ⟨a, b, c, t⟩ := g.T; ⟨a, b, c, t.keeps k⟩⟩
theorem Gr.nolimit {w : World} {h : Heap} (g : Gr w h) : h.NoLimit := let ⟨_, _, _, t⟩ := g.T; t.nolimit

section
variable {w : World} {A : Around} {s : Shared} {R : Result → Shared → Prop} {name qual : PySem.Str} {params : Arguments} {body : List Stmt} {scope : Scope} {dV kV doc pm cdv ct oc : Value} {an od : Option Addr} {osl : Array (Option Value)} {f : Addr} {args : Args} {binds : List (PySem.Str × Value)}

theorem enter_def (X : List Addr) (G : Gr w s.heap) (hX : Gr w (hideAll s.heap X))
    (ho : (Mine.hd.heap_39 w.params).lookup f = some ⟨oc, od, .func (fnOf name qual params body scope dV kV doc pm an cdv ct), osl⟩) (hcd : codeIn (Mine.hd.heap_39 w.params) cdv qual = true) (hroom : A.depth < recursionLimit)
    (hbind : BindsTo s (fnOf name qual params body scope dV kV doc pm an cdv ct) args binds) (hloc : ∀ y ∈ binds, scope.names.lookup y.1 = some .local)
    (h : ∀ L' h₁, Fr (hideAll s.heap X) L' h₁ (fun y => binds.reverse.lookup y) → (∀ b o, s.heap.get? b = some o → h₁.get? b = some o ∧ b ≠ L') → Gr w (hideAll s.heap X) →
      wpAny (model PySem.Challenge.rw_nz0289_01.row.prog w) (A.deeper (envOf qual scope L' f cdv)) (execs body (envOf qual scope L' f cdv))
        (fun fl s' => R (.ok (.ret (match fl with | .ret v => v | _ => .none))) s') (fun _ _ => False)
        { s with heap := h₁, toks := s.toks + binds.length })
    (hcell : ∀ x ∈ scope.names, x.2 ≠ .cell) (hco : scope.isCoroutine = false) (hgen : scope.isGenerator = false) (hk : scope.kind = .function) :
    codeAny (model PySem.Challenge.rw_nz0289_01.row.prog w) A (.call (.ref f) args) R s := by
  refine codeAny_call_def (fd := fnOf name qual params body scope dV kV doc pm an cdv ct) (body := body) (binds := binds) hroom (G.X _ _ ho) rfl G.nolimit (codeRec_of G.X hcd) rfl hbind hcell hloc (fun h₁ hns hk₁ => ?_) hco hgen hk
  exact wpAny_mono (h s.heap.objs.size h₁ ⟨hns, fun b o e => hk₁ b o (of_hideAll _ e), Nat.le_of_eq (hideAll_size _ _)⟩ (fun b o e => ⟨hk₁ b o e, Nat.ne_of_lt (Heap.lt_size e)⟩) hX) (fun _ _ z => z) fun _ _ z => z.elim
end
end Mine
end
section
open PySem PySem.W PySem.Calls PyProof.Rows
namespace Mine

noncomputable def upd (m : PySem.Str → Option Value) (x : PySem.Str) (v : Value) : PySem.Str → Option Value := fun y => if y = x then some v else m y
theorem upd_self (m : PySem.Str → Option Value) (x : PySem.Str) (v : Value) : upd m x v x = some v := if_pos rfl
theorem upd_ne (m : PySem.Str → Option Value) (x y : PySem.Str) (v : Value) (h : y ≠ x) : upd m x v y = m y := if_neg h
noncomputable def cset (cv : Nat → Option Value) (i : Nat) (v : Value) : Nat → Option Value := fun j => if j = i then some v else cv j
theorem cset_self (cv : Nat → Option Value) (i : Nat) (v : Value) : cset cv i v i = some v := if_pos rfl
theorem cset_ne (cv : Nat → Option Value) (i j : Nat) (v : Value) (h : j ≠ i) : cset cv i v j = cv j := if_neg h

/-- the heap and the token count alone have moved; all objects but those of X stand -/
def Kp (X : List Addr) (s s' : Shared) : Prop := (∃ h tk, s' = { s with heap := h, toks := tk }) ∧ ∀ b o, b ∉ X → s.heap.get? b = some o → s'.heap.get? b = some o
namespace Kp
variable {X Y : List Addr} {s s' s'' : Shared}
theorem refl : Kp X s s := ⟨⟨_, _, rfl⟩, fun _ _ _ e => e⟩
theorem trans (a : Kp X s s') (b : Kp X s' s'') : Kp X s s'' := by
  obtain ⟨⟨h, tk, rfl⟩, a⟩ := a
  obtain ⟨⟨h', tk', rfl⟩, b⟩ := b
  exact ⟨⟨h', tk', rfl⟩, fun c o n e => b c o n (a c o n e)⟩
theorem mono (a : Kp X s s') (h : ∀ x ∈ X, x ∈ Y) : Kp Y s s' := ⟨a.1, fun b o n e => a.2 b o (fun m => n (h _ m)) e⟩
theorem of0 (a : Kp [] s s') : Kp X s s' := a.mono fun _ h => nomatch h
theorem get (a : Kp X s s') {b o} (h : s.heap.get? b = some o) (n : b ∉ X) : s'.heap.get? b = some o := a.2 b o n h
theorem keep (a : Kp [] s s') : ∀ b o, s.heap.get? b = some o → s'.heap.get? b = some o := fun b o e => a.2 b o (fun h => nomatch h) e
theorem drop {x : Addr} (a : Kp (x :: X) s s') (n : s.heap.get? x = none) : Kp X s s' := ⟨a.1, fun b o m e => a.2 b o (fun h => by
  rcases List.mem_cons.mp h with rfl | h
  · rw [n] at e; cases e
  · exact m h) e⟩
theorem tok {tk : Nat} : Kp X s { s with toks := tk } := ⟨⟨_, _, rfl⟩, fun _ _ _ e => e⟩
theorem of_keeps (k : Keeps s s') : Kp X s s' := let ⟨h, tk, e, k⟩ := k; ⟨⟨h, tk, e⟩, fun b o _ q => by rw [e]; exact k b o q⟩
theorem to_keeps (k : Kp [] s s') : Keeps s s' := by
  obtain ⟨⟨h, tk, rfl⟩, k⟩ := k
  exact ⟨h, tk, rfl, fun b o e => k b o (fun h => nomatch h) e⟩
theorem push {o : Obj} : Kp X s { s with heap := s.heap.push o } := ⟨⟨_, _, rfl⟩, fun _ _ _ e => Heap.get?_push_of_some _ e⟩
theorem same {a : Addr} {h : Heap} {tk : Nat} (hs : Heap.SameBut a s.heap h) (m : a ∈ X) : Kp X s { s with heap := h, toks := tk } :=
  ⟨⟨_, _, rfl⟩, fun b o n e => hs.extBut b o (fun q => n (q ▸ m)) e⟩
theorem gens (a : Kp X s s') : s'.gens = s.gens := by obtain ⟨⟨h, tk, rfl⟩, _⟩ := a; rfl
theorem os (a : Kp X s s') : s'.os = s.os := by obtain ⟨⟨h, tk, rfl⟩, _⟩ := a; rfl
end Kp

/-- what a frame stands on: base (nothing of it moves), its locals -/
structure Cx (w : World) (s₀ : Shared) (base : Heap) (L : Addr) (m : PySem.Str → Option Value) (s : Shared) : Prop where
  F : Fr base L s.heap m
  G : Gr w base
  st : ∃ h tk, s = { s₀ with heap := h, toks := tk }
namespace Cx
variable {w : World} {s₀ : Shared} {base : Heap} {L : Addr} {m m' : PySem.Str → Option Value} {s s' : Shared} {X : List Addr}
theorem keeps (c : Cx w s₀ base L m s) (k : Kp X s s') (hX : ∀ x ∈ X, base.get? x = none) (hL : L ∉ X) : Cx w s₀ base L m s' := by
  refine ⟨⟨?_, fun b o e => k.2 b o (fun hm => ?_) (c.F.keep b o e), c.F.above⟩, c.G, ?_⟩
  · obtain ⟨o, es, ep, h1, h2⟩ := c.F.ns
    exact ⟨o, es, ep, k.2 L o hL h1, h2⟩
  · rw [hX b hm] at e; cases e
  · obtain ⟨h, tk, rfl⟩ := c.st
    obtain ⟨⟨h', tk', rfl⟩, _⟩ := k
    exact ⟨h', tk', rfl⟩
theorem stored (c : Cx w s₀ base L m s) (k : Kp (L :: X) s s') (hX : ∀ x ∈ X, base.get? x = none) (hn : s'.heap.Ns L m') : Cx w s₀ base L m' s' := by
  refine ⟨⟨hn, fun b o e => k.2 b o (fun hm => ?_) (c.F.keep b o e), c.F.above⟩, c.G, ?_⟩
  · rcases List.mem_cons.mp hm with rfl | hm
    · exact absurd (Heap.lt_size e) (Nat.not_lt.mpr c.F.above)
    · rw [hX b hm] at e; cases e
  · obtain ⟨h, tk, rfl⟩ := c.st
    obtain ⟨⟨h', tk', rfl⟩, _⟩ := k
    exact ⟨h', tk', rfl⟩
theorem keep0 (c : Cx w s₀ base L m s) (k : Kp [] s s') : Cx w s₀ base L m s' := c.keeps k (fun _ h => nomatch h) (fun h => nomatch h)
theorem KX (c : Cx w s₀ base L m s) : (Mine.hd.heap_39 w.params).In s.heap := c.G.X.keeps c.F.keep
theorem Gs (c : Cx w s₀ base L m s) : Gr w s.heap := c.G.keeps c.F.keep
theorem notL (c : Cx w s₀ base L m s) : base.get? L = none := by
  cases h : base.get? L with
  | none => rfl
  | some o => exact absurd (Heap.lt_size h) (Nat.not_lt.mpr c.F.above)
theorem kp (c : Cx w s₀ (hideAll s₀.heap X) L m s) : Kp X s₀ s := ⟨c.st, fun b o n e => c.F.keep b o (hideAll_get X e n)⟩
theorem kp0 (c : Cx w s₀ s₀.heap L m s) : Kp [] s₀ s := ⟨c.st, fun b o _ e => c.F.keep b o e⟩
theorem store (c : Cx w s₀ base L m s) {h' : Heap} {m' : PySem.Str → Option Value} {tk : Nat} (hn : h'.Ns L m') (hs : Heap.SameBut L s.heap h') : Cx w s₀ base L m' { s with heap := h', toks := tk } :=
  ⟨c.F.set hn hs, c.G, let ⟨_, _, e⟩ := c.st; ⟨_, _, by rw [e]⟩⟩
end Cx

theorem mem1 {α : Type} {P : α → Prop} {a : α} (h : P a) : ∀ y ∈ [a], P y := fun _ hy => List.mem_singleton.mp hy ▸ h
theorem memc {α : Type} {P : α → Prop} {a : α} {l : List α} (h : P a) (h' : ∀ y ∈ l, P y) : ∀ y ∈ a :: l, P y := fun y hy => (List.mem_cons.mp hy).elim (fun e => e ▸ h) (h' y)
theorem mem2 {α : Type} {P : α → Prop} {a b : α} (h : P a) (h' : P b) : ∀ y ∈ [a, b], P y := memc h (mem1 h')
theorem mem3 {α : Type} {P : α → Prop} {a b c : α} (h : P a) (h' : P b) (h'' : P c) : ∀ y ∈ [a, b, c], P y := memc h (mem2 h' h'')
theorem ns_live {h : Heap} {L : Addr} {m : PySem.Str → Option Value} (x : h.Ns L m) : ∃ o, h.get? L = some o := let ⟨o, _, _, e, _⟩ := x; ⟨o, e⟩
theorem pl_live {h : Heap} {L : Addr} {items : Array Value} (x : h.PlainList L items) : ∃ o, h.get? L = some o := let ⟨_, e⟩ := x; ⟨_, e⟩
theorem ic_live {h : Heap} {L : Addr} {v : Option Value} (x : h.IsCell L v) : ∃ o, h.get? L = some o := let ⟨o, e, _⟩ := x; ⟨o, e⟩
/-! small arithmetic, once -/
theorem dl {a m N : Nat} (h : a + m < N) (k : Nat) (e : k ≤ m := by decide) : a + k < N := Nat.lt_of_le_of_lt (Nat.add_le_add_left e a) h
theorem szl {n k : Nat} (h : n ≤ k) (e : k ≤ 16777216 := by decide) : n ≤ sizeLine := sizeLine_eq ▸ Nat.le_trans h e
theorem toN9 {u : Int} {n : Nat} (h : u ≤ n) (h9 : n ≤ 9) : (u - 1).toNat ≤ 9 := by omega
theorem toI9 {u : Int} {n : Nat} (h : u ≤ n) (h9 : n ≤ 9) : u - 1 ≤ 1000000 := by omega
theorem at_lt {k : Nat} {most : Int} (h0 : 0 ≤ most) (h : most < (k : Int)) : ((k : Int) - most - 1).toNat < k := by omega
theorem at_0 {k : Nat} {most : Int} (h : most < (k : Int)) : 0 ≤ (k : Int) - most - 1 := by omega
theorem at_63 {k m : Nat} {most : Int} (h0 : 0 ≤ most) (h : k ≤ m) (e : m ≤ 1000 := by decide) : (k : Int) - most - 1 < 2 ^ 63 := by omega
theorem le_nx {a b : Int} {i : Nat} (h : a ≤ b + (i : Int)) : a ≤ b + ((i + 1 : Nat) : Int) := by omega
theorem count9 (a : Int) : ∃ n : Nat, 1 + a.fmod 9 = (n : Int) ∧ 1 ≤ n ∧ n ≤ 9 := by
  have h1 : 0 ≤ a.fmod 9 := Int.fmod_nonneg_of_pos _ (by decide)
  have h2 : a.fmod 9 < 9 := Int.fmod_lt_of_pos _ (by decide)
  exact ⟨(1 + a.fmod 9).toNat, by omega⟩
/-! what is asked at the end, hidden behind a name: the goals stay small -/
section
variable {α : Type} {M : Model} {A : Around} {E : Value → Shared → Prop} {s : Shared} {c : Sem α}
theorem hideR {R : α → Shared → Prop} (h : ∀ R' : α → Shared → Prop, (∀ x s', R x s' → R' x s') → wpAny M A c R' E s) : wpAny M A c R E s := h R fun _ _ z => z
theorem hideG {P : Prop} (h : ∀ G : Prop, (P → G) → G) : P := h P id
theorem if_t {b : Bool} {P Q : Prop} (hb : b = true) (h : P) : if b then P else Q := by subst hb; exact h
theorem if_f {b : Bool} {P Q : Prop} (hb : b = false) (h : Q) : if b then P else Q := by subst hb; exact h
theorem v_cut {R : α → Shared → Prop} (P : α → Shared → Prop) (h1 : ∀ R' : α → Shared → Prop, (∀ x s', P x s' → R' x s') → wpAny M A c R' (fun _ _ => False) s) (h2 : ∀ x s', P x s' → R x s') : wpAny M A c R E s :=
  wpAny_mono (h1 P fun _ _ z => z) h2 fun _ _ f => f.elim
theorem x_cut {R : Flow → Shared → Prop} {st : Stmt} {rest : List Stmt} {env : Env} (P : Shared → Prop) (h1 : ∀ R' : Flow → Shared → Prop, (∀ s', P s' → R' .next s') → wpAny M A (exec st env) R' (fun _ _ => False) s)
    (h2 : ∀ s', P s' → wpAny M A (execs rest env) R E s') : wpAny M A (execs (st :: rest) env) R E s :=
  wpAny_execs_cons (wpAny_mono (Q := fun f s' => f = .next ∧ P s') (h1 _ fun _ p => ⟨rfl, p⟩) (by rintro f s' ⟨rfl, p⟩; exact h2 s' p) fun _ _ f => f.elim)
end

/-- the value that a flow hands back from a def -/
noncomputable def retv : Flow → Value | .ret v => v | _ => .none

section
variable {w : World} {A : Around} {s : Shared} {Q E : Value → Shared → Prop} {name qual : PySem.Str} {params : Arguments} {body : List Stmt} {scope : Scope} {dV kV doc pm cdv ct oc : Value} {an od : Option Addr} {osl : Array (Option Value)} {f : Addr} {args : List Value} {kw : List (PySem.Str × Value)} {binds : List (PySem.Str × Value)}

theorem enter (X : List Addr) (G : Gr w s.heap) (hX : Gr w (hideAll s.heap X))
    (ho : (Mine.hd.heap_39 w.params).lookup f = some ⟨oc, od, .func (fnOf name qual params body scope dV kV doc pm an cdv ct), osl⟩) (hcd : codeIn (Mine.hd.heap_39 w.params) cdv qual = true) (hroom : A.depth < recursionLimit)
    (hbind : BindsTo s (fnOf name qual params body scope dV kV doc pm an cdv ct) ⟨args, kw⟩ binds) (hloc : ∀ y ∈ binds, scope.names.lookup y.1 = some .local)
    (h : ∀ L s1, Cx w s (hideAll s.heap X) L (fun y => binds.reverse.lookup y) s1 → Kp [] s s1 → s.heap.get? L = none →
      wpAny (model PySem.Challenge.rw_nz0289_01.row.prog w) (A.deeper (envOf qual scope L f cdv)) (execs body (envOf qual scope L f cdv)) (fun fl s' => Q (retv fl) s') (fun _ _ => False) s1)
    (hcell : ∀ x ∈ scope.names, x.2 ≠ .cell) (hco : scope.isCoroutine = false) (hgen : scope.isGenerator = false) (hk : scope.kind = .function) :
    wpAny (model PySem.Challenge.rw_nz0289_01.row.prog w) A (PySem.call (.ref f) args kw) Q E s := by
  refine wpAny_call (codeAny_call_def (fd := fnOf name qual params body scope dV kV doc pm an cdv ct) (body := body) (binds := binds) hroom (G.X _ _ ho) rfl G.nolimit (codeRec_of G.X hcd) rfl hbind hcell hloc (fun h₁ hns hk₁ => ?_) hco hgen hk)
  refine wpAny_mono (h s.heap.objs.size { s with heap := h₁, toks := s.toks + binds.length } ⟨⟨hns, fun b o e => hk₁ b o (of_hideAll _ e), Nat.le_of_eq (hideAll_size _ _)⟩, hX, ⟨_, _, rfl⟩⟩ ⟨⟨_, _, rfl⟩, fun b o _ e => hk₁ b o e⟩ ?_) (fun fl s' z => ?_) fun _ _ z => z.elim
  · cases e : s.heap.get? s.heap.objs.size with
    | none => rfl
    | some o => exact absurd (Heap.lt_size e) (Nat.lt_irrefl _)
  · cases fl <;> exact z

theorem enterC (X : List Addr) (G : Gr w s.heap) (hX : Gr w (hideAll s.heap X))
    (ho : (Mine.hd.heap_39 w.params).lookup f = some ⟨oc, od, .func (fnOf name qual params body scope dV kV doc pm an cdv ct), osl⟩) (hcd : codeIn (Mine.hd.heap_39 w.params) cdv qual = true) (hroom : A.depth < recursionLimit)
    (hbind : BindsTo s (fnOf name qual params body scope dV kV doc pm an cdv ct) ⟨args, kw⟩ binds)
    (hkind : ∀ n, ∀ x ∈ binds, scope.names.lookup x.1 = some .local ∨ (scope.names.lookup x.1 = some .cell ∧ ((cellsFrom n scope.names []).lookup x.1).isSome = true))
    (h : ∀ L s1, Cx w s (hideAll s.heap X) L (bindL (envOfC qual scope L f cdv).kindOf binds fun _ => none) s1 → (∀ n c, (cellsFrom (L + 1) scope.names []).lookup n = some c → s1.heap.IsCell c (bindC (envOfC qual scope L f cdv).kindOf binds (fun _ => none) n)) → Kp [] s s1 → (∀ a, L ≤ a → s.heap.get? a = none) →
      wpAny (model PySem.Challenge.rw_nz0289_01.row.prog w) (A.deeper (envOfC qual scope L f cdv)) (execs body (envOfC qual scope L f cdv)) (fun fl s' => Q (retv fl) s') (fun _ _ => False) s1)
    (hco : scope.isCoroutine = false) (hgen : scope.isGenerator = false) (hk : scope.kind = .function) :
    wpAny (model PySem.Challenge.rw_nz0289_01.row.prog w) A (PySem.call (.ref f) args kw) Q E s := by
  refine wpAny_call (codeAny_call_function hroom (G.X _ _ ho) rfl hco hgen rfl (codeRec_of G.X hcd) (hbind _ _ _ _ ?_))
  refine wpAny_newFunctionEnv_cells hk (hkind _) fun env' he s' x => ?_
  subst he
  refine ⟨G.nolimit.keeps x.toInCall.keep, codeAny_func ?_⟩
  obtain ⟨h₁, tk, rfl, _⟩ := x.done
  have hk₁ := x.toInCall.keep
  refine wpAny_mono (h s.heap.objs.size { s with heap := h₁, toks := tk } ⟨⟨x.toInCall.ns, fun b o e => hk₁ b o (of_hideAll _ e), Nat.le_of_eq (hideAll_size _ _)⟩, hX, ⟨_, _, rfl⟩⟩ (fun n c hc => x.cell n c hc) ⟨⟨_, _, rfl⟩, fun b o _ e => hk₁ b o e⟩ ?_) (fun fl s' z => ?_) fun _ _ z => z.elim
  · intro a ha
    cases e : s.heap.get? a with
    | none => rfl
    | some o => exact absurd (Heap.lt_size e) (Nat.not_lt.mpr ha)
  · cases fl <;> exact z
end

section
variable {w : World} {A : Around} {E : Value → Shared → Prop} {s : Shared} {base : Heap} {L : Addr} {m : PySem.Str → Option Value} {env : Env} {x : PySem.Str} {pos : Pos} {v : Value} {Q : Value → Shared → Prop}

theorem n_loc (hn : s.heap.Ns env.locals m) (hv : m x = some v) (h : Q v s) (hk : env.scope.kind = .function := by rfl) (hl : env.kindOf x = some .local := by rfl) (hd : (x == ("__debug__" : PySem.Str)) = false := by decide) :
    wpAny (model PySem.Challenge.rw_nz0289_01.row.prog w) A (eval (.Name x pos) env) Q E s := wpAny_Name (wpAny_loadName_local hk hl hn hv h) hd
theorem n_cell {c : Addr} (hc : s.heap.IsCell c (some v)) (h : Q v s) (hk : env.scope.kind = .function := by rfl) (hl : env.kindOf x = some .cell := by rfl) (hx : env.cells.lookup x = some c := by rfl) (hd : (x == ("__debug__" : PySem.Str)) = false := by decide) :
    wpAny (model PySem.Challenge.rw_nz0289_01.row.prog w) A (eval (.Name x pos) env) Q E s := wpAny_Name (wpAny_loadName_cell hk hl hx hc h) hd
theorem n_glob (G : Gr w s.heap) (e : nsIn (Mine.hd.heap_39 w.params) mainGlobals x = some (some v)) (h : Q v s) (hg : env.globals = mainGlobals := by rfl) (hk : env.scope.kind = .function := by rfl) (hl : env.kindOf x = some .globalImplicit := by rfl) (hd : (x == ("__debug__" : PySem.Str)) = false := by decide) :
    wpAny (model PySem.Challenge.rw_nz0289_01.row.prog w) A (eval (.Name x pos) env) Q E s := by
  obtain ⟨_, mg, mb, T⟩ := G.T
  exact Name_function_global hk hl (loadGlobal_global (env := env) (by rw [hg]; exact T.g) (mg_of G.X T.g e) h) hd
theorem n_bi (G : Gr w s.heap) (e : nsIn (Mine.hd.heap_39 w.params) mainGlobals x = some none) (hv : bootBuiltins x = some v) (h : Q v s) (hn : x ≠ "__name__" := by decide) (hg : env.globals = mainGlobals := by rfl) (hb : env.builtins = builtinsNs := by rfl) (hk : env.scope.kind = .function := by rfl) (hl : env.kindOf x = some .globalImplicit := by rfl) (hd : (x == ("__debug__" : PySem.Str)) = false := by decide) :
    wpAny (model PySem.Challenge.rw_nz0289_01.row.prog w) A (eval (.Name x pos) env) Q E s := by
  obtain ⟨_, mg, mb, T⟩ := G.T
  exact Name_function_global hk hl (loadGlobal_builtin (env := env) (by rw [hg]; exact T.g) (mg_none_of G.X T.g e) (by rw [hb]; exact T.b) ((T.builtins x hn).trans hv) h) hd
end

section
variable {w : World} {A : Around} {E : Value → Shared → Prop} {s s₀ : Shared} {base : Heap} {L : Addr} {m : PySem.Str → Option Value} {env : Env} {x : PySem.Str} {v : Value} {Q : Unit → Shared → Prop}
theorem s_loc (c : Cx w s₀ base env.locals m s) (h : ∀ s', Cx w s₀ base env.locals (upd m x v) s' → Kp [env.locals] s s' → Q () s')
    (hl : env.kindOf x = some .local := by rfl) (hp : (env.scope.kind == .class || (env.scope.kind == .module && env.locals != env.globals)) = false := by rfl) :
    wpAny (model PySem.Challenge.rw_nz0289_01.row.prog w) A (storeName env x v) Q E s :=
  wpAny_storeName_local hl c.F.ns (fun _ hn hs => h _ (c.store hn hs) (Kp.same hs (.head _))) hp
theorem s_cell {c : Addr} {v₀ : Option Value} (C : Cx w s₀ base L m s) (hb : base.get? c = none) (hcL : L ≠ c) (hc : s.heap.IsCell c v₀) (h : ∀ s', Cx w s₀ base L m s' → s'.heap.IsCell c (some v) → Kp [c] s s' → Q () s')
    (hk : env.scope.kind = .function := by rfl) (hl : env.kindOf x = some .cell := by rfl) (hx : env.cells.lookup x = some c := by rfl) :
    wpAny (model PySem.Challenge.rw_nz0289_01.row.prog w) A (storeName env x v) Q E s :=
  wpAny_storeName_cell hk hl hx hc (fun _ hn hs => h _ (C.keeps (Kp.same (tk := s.toks) hs (.head _)) (fun x hx => by rw [List.mem_singleton.mp hx]; exact hb) (fun hm => hcL (List.mem_singleton.mp hm))) hn (Kp.same (tk := s.toks) hs (.head _)))
end
end Mine
end
section
open PySem PySem.W PySem.Calls PyProof.Rows PySem.Builtin PySem.Builtin.ObjectAttr
namespace Mine

/-! dicts of instances, by their map -/
theorem getL_nil (name : PySem.Str) : getL name [] = some none := rfl
theorem getL_put_self (name : PySem.Str) (hs : Int) (t : Tok) (v : Value) (es : List DictEntry) : getL name (putL name hs (.str name t) v es) = some (some v) := by
  induction es with
  | nil =>
    unfold putL getL
    rw [List.find?_cons_of_pos (by show (name == name) = true; exact beq_iff_eq.mpr rfl)]
  | cons e r ih =>
    unfold putL
    cases h : e.key.isStr name with
    | true => rw [if_pos rfl]; unfold getL; rw [List.find?_cons_of_pos (by exact h)]
    | false =>
      rw [if_neg (by decide)]
      unfold getL at ih ⊢
      rw [List.find?_cons_of_neg (by rw [h]; decide)]
      split at ih
      · exact ih
      · split at ih <;> cases ih
theorem refKey_put (name : PySem.Str) (hs : Int) (t : Tok) (v : Value) (es : List DictEntry) : (putL name hs (.str name t) v es).any (·.refKey) = es.any (·.refKey) := by
  induction es with
  | nil => rfl
  | cons e r ih =>
    unfold putL
    cases h : e.key.isStr name with
    | true => rfl
    | false => rw [if_neg (by decide), List.any_cons, List.any_cons, ih]
theorem isStr_uniq {v : Value} {a b : PySem.Str} (h1 : v.isStr a = true) (h2 : v.isStr b = true) : a = b := by
  cases v <;> first | cases h1 | skip
  rw [← beq_iff_eq.mp (h1 : (_ == a) = true), ← beq_iff_eq.mp (h2 : (_ == b) = true)]
theorem find_put_ne (name x : PySem.Str) (hx : x ≠ name) (hs : Int) (t : Tok) (v : Value) (es : List DictEntry) : ((putL name hs (.str name t) v es).find? (·.key.isStr x)).map (·.val) = (es.find? (·.key.isStr x)).map (·.val) := by
  induction es with
  | nil =>
    unfold putL
    rw [List.find?_cons_of_neg (by show ¬ (name == x) = true; intro h; exact hx (beq_iff_eq.mp h).symm)]
  | cons e r ih =>
    unfold putL
    cases h : e.key.isStr name with
    | true =>
      have : ¬ e.key.isStr x = true := fun h2 => hx (isStr_uniq h2 h)
      rw [if_pos rfl, List.find?_cons_of_neg (by exact this), List.find?_cons_of_neg (by exact this)]
    | false =>
      rw [if_neg (by decide)]
      cases h2 : e.key.isStr x with
      | true => rw [List.find?_cons_of_pos (by exact h2), List.find?_cons_of_pos (by exact h2)]
      | false => rw [List.find?_cons_of_neg (by rw [h2]; decide), List.find?_cons_of_neg (by rw [h2]; decide)]; exact ih
theorem getL_eq (x : PySem.Str) (es : List DictEntry) : getL x es = match (es.find? (·.key.isStr x)).map (·.val) with | some v => some (some v) | none => if es.any (·.refKey) then none else some none := by
  unfold getL
  cases es.find? (·.key.isStr x) <;> rfl
theorem getL_put_ne (name x : PySem.Str) (hx : x ≠ name) (hs : Int) (t : Tok) (v : Value) (es : List DictEntry) : getL x (putL name hs (.str name t) v es) = getL x es := by
  rw [getL_eq, getL_eq, find_put_ne name x hx, refKey_put]
theorem putL_length (name : PySem.Str) (hs : Int) (key v : Value) : ∀ es : List DictEntry, (putL name hs key v es).length ≤ es.length + 1
  | [] => Nat.le_refl _
  | e :: r => by
    unfold putL
    split
    · exact Nat.le_succ _
    · exact Nat.succ_le_succ (putL_length name hs key v r)
theorem putL_length_old (name : PySem.Str) (hs : Int) (key v : Value) (es : List DictEntry) (h : ∃ v, getL name es = some (some v)) : (putL name hs key v es).length = es.length := by
  induction es with
  | nil => obtain ⟨_, h⟩ := h; cases h
  | cons e r ih =>
    unfold putL
    cases hb : e.key.isStr name with
    | true => rfl
    | false =>
      refine congrArg (· + 1) (ih ?_)
      obtain ⟨u, h⟩ := h
      rw [getL_eq, List.find?_cons_of_neg (by rw [hb]; decide)] at h
      cases q : (r.find? (·.key.isStr name)).map (·.val) with
      | some z => exact ⟨z, by rw [getL_eq, q]⟩
      | none => rw [q] at h; dsimp only at h; split at h <;> cases h


/-- at d a dict of str keys that bears the map m, of k entries at most -/
def DAt (h : Heap) (d : Addr) (m : PySem.Str → Option Value) (k : Nat) : Prop := ∃ es n, h.get? d = some (dictOf es n) ∧ (∀ x, getL x es = some (m x)) ∧ es.length ≤ k
theorem DAt.keep {h h' : Heap} {d m k} (x : DAt h d m k) (e : ∀ o, h.get? d = some o → h'.get? d = some o) : DAt h' d m k := let ⟨es, n, a, b⟩ := x; ⟨es, n, e _ a, b⟩
theorem DAt.kp {X s s'} {d m k} (x : DAt s.heap d m k) (e : Kp X s s') (n : d ∉ X) : DAt s'.heap d m k := x.keep fun _ q => e.get q n
theorem DAt.live {h : Heap} {d m k} (x : DAt h d m k) : ∃ o, h.get? d = some o := let ⟨_, _, a, _⟩ := x; ⟨_, a⟩
theorem DAt.mono {h : Heap} {d m k k'} (x : DAt h d m k) (l : k ≤ k') : DAt h d m k' := let ⟨es, n, a, b, c⟩ := x; ⟨es, n, a, b, Nat.le_trans c l⟩
theorem DAt.congr {h : Heap} {d m m' k} (x : DAt h d m k) (e : ∀ y, m y = m' y) : DAt h d m' k := let ⟨es, n, a, b, c⟩ := x; ⟨es, n, a, fun y => (b y).trans (congrArg some (e y)), c⟩

/-- what the class at C is for an attribute by this name: plain reads and stores -/
structure AttrOk (K : Frag) (C : Addr) (name : PySem.Str) : Prop where
  o1 : plainGet K C name = true
  o2 : hasDictIn K C = true
  o3 : findIn K (.ref C) name = some none
  o4 : findIn K (.ref C) "__setattr__" = some (some (.builtin "object.__setattr__"))
  o5 : plainOver K C = true
  o6 : takerIn K C name = some none

section
variable {w : World} {A : Around} {s : Shared} {E : Value → Shared → Prop} {x C d : Addr} {name : PySem.Str} {m : PySem.Str → Option Value} {k : Nat}

theorem attr_get {v : Value} {expr : Bool} {Q : Value → Shared → Prop} (G : Gr w s.heap) (hx : s.heap.get? x = some (instObj C d)) (hd : DAt s.heap d m k) (ok : AttrOk (Mine.hd.heap_39 w.params) C name)
    (hv : m name = some v) (hh : handedIn v = true) (h : ∀ s', Kp [] s s' → Q v s') : wpAny (model PySem.Challenge.rw_nz0289_01.row.prog w) A (getAttr (.ref x) name expr) Q E s := by
  obtain ⟨es, n, hd, hm, _⟩ := hd
  obtain ⟨o1, o2, o3, o4, o5, o6⟩ := ok
  exact get_value G.X (ox := instObj C d) (od := some (dictOf es n)) ⟨hx, rfl, rfl, hd⟩ (plainGet_of o1).1 (findObj_own o2 o3 rfl (by show getL name es = _; rw [hm, hv])) hh (h _ Kp.tok)

theorem attr_set {v : Value} {Q : Unit → Shared → Prop} (G : Gr w s.heap) (hx : s.heap.get? x = some (instObj C d)) (hd : DAt s.heap d m k) (ok : AttrOk (Mine.hd.heap_39 w.params) C name) (hk : k ≤ 900)
    (h : ∀ s', DAt s'.heap d (upd m name v) (if (m name).isSome then k else k + 1) → Kp [d] s s' → Q () s') : wpAny (model PySem.Challenge.rw_nz0289_01.row.prog w) A (setAttr (.ref x) name v) Q E s := by
  obtain ⟨es, n, hd, hm, hl⟩ := hd
  obtain ⟨o1, o2, o3, o4, o5, o6⟩ := ok
  have I : InstAt s.heap x (instObj C d) C (some (dictOf es n)) := ⟨hx, rfl, rfl, hd⟩
  refine set_plain G.X I o4 (osa_open (s := { s with toks := s.toks + 1 }) G.X I o5 o6 fun b => ?_)
  obtain ⟨cd, hc, hd'⟩ := any_some o2
  refine wpAny_bind (wpAny_pure (wpAny_bind (wpAny_bind (wpAny_loadPart hx (wpAny_bind (looks_clsIn G.X hc _ _ _ _ (fun _ _ e => e) ?_))))))
  rw [hd']
  refine wpAny_pure (a := some d) (wpAny_bind (wpAny_pure (wpAny_bind ?_)))
  unfold nsSet
  refine wpAny_bind (wpAny_bind (wpAny_askSetting (wpAny_pure (wpAny_bind (wpAny_mkText (wpAny_bind (wpAny_loadPart hd ?_)))))))
  have c : (!es.toArray.any (·.key.isStr name) && es.toArray.any (·.refKey)) = false := by
    have := hm name
    rw [getL_eq] at this
    cases q : (es.find? (·.key.isStr name)).map (·.val) with
    | some z =>
      obtain ⟨e, he, _⟩ := Option.map_eq_some_iff.mp q
      rw [← Array.any_toList, List.any_eq_true.mpr ⟨e, List.mem_of_find?_eq_some he, List.find?_some he⟩]; rfl
    | none =>
      rw [q] at this
      dsimp only at this
      split at this
      · cases this
      · rename_i z; rw [Bool.not_eq_true] at z; rw [← Array.any_toList, ← Array.any_toList, z, Bool.and_false]
  dsimp only
  rw [aRefKeyMayBeTheName_at, c]
  refine wpAny_updatePart hd ?_
  have hnew := fun (P : Params) (tk : Tok) => Heap.get?_update_self (Obj.putName name (PyData.keyHash P name) (.str name tk) v) hd (by rw [putName_dict]; rfl)
  refine wpAny_bind (wpAny_lookBehind (hnew _ _) (by rw [putName_dict]; exact pastItsLine_dict (by rw [List.size_toArray, sizeLine_eq]; exact Nat.le_trans (putL_length _ _ _ _ _) (by omega))) ?_)
  refine wpAny_pure (h _ ⟨_, _, (hnew _ _).trans (by rw [putName_dict]), fun y => ?_, ?_⟩ ⟨⟨_, _, rfl⟩, fun b o hb e => ?_⟩)
  · unfold upd
    by_cases hy : y = name
    · subst hy; rw [getL_put_self, if_pos rfl]
    · rw [getL_put_ne _ _ hy, if_neg hy, hm]
  · cases q : m name with
    | none => exact Nat.le_trans (putL_length _ _ _ _ _) (Nat.succ_le_succ hl)
    | some z => rw [putL_length_old _ _ _ _ _ ⟨z, by rw [hm, q]⟩]; exact hl
  · exact (Heap.get?_update_ne _ _ _ _ (fun q => hb (by rw [q]; exact .head _))).trans e
end
end Mine
end
section
open PySem PySem.W PySem.Calls PyProof.Rows
namespace Mine

theorem hid_off {h : Heap} {Z : List Addr} {b : Addr} {o : Obj} (e : (hideAll h Z).get? b = some o) : b ∉ Z := fun m => by rw [hideAll_none Z m] at e; cases e
/-- the frozen part grows -/
theorem hid_le {h h' : Heap} {Y Z : List Addr} (hk : ∀ b o, (hideAll h Y).get? b = some o → h'.get? b = some o) (hz : ∀ z ∈ Z, z ∈ Y ∨ h.get? z = none) :
    ∀ b o, (hideAll h Y).get? b = some o → (hideAll h' Z).get? b = some o := fun b o e => hideAll_get Z (hk b o e) fun m => by
  rcases hz b m with q | q
  · exact hid_off e q
  · rw [of_hideAll Y e] at q; cases q
theorem hid_kp {s s' : Shared} {X Y : List Addr} (k : Kp X s s') (hX : ∀ x ∈ X, x ∈ Y) : ∀ b o, (hideAll s.heap Y).get? b = some o → (hideAll s'.heap Y).get? b = some o :=
  hid_le (fun b o e => k.2 b o (fun m => hid_off e (hX b m)) (of_hideAll Y e)) fun _ m => .inl m

/-- a list at a whose items stand for xs, each by V -/
def LOf {α : Type} (V : Heap → Value → α → Prop) (h : Heap) (a : Addr) (xs : List α) : Prop := ∃ vs : List Value, h.IsList a vs.toArray ∧ Paired (V h) vs xs
abbrev Up {α : Type} (V : Heap → Value → α → Prop) : Prop := ∀ (h h' : Heap) v x, V h v x → (∀ b o, h.get? b = some o → h'.get? b = some o) → V h' v x
theorem LOf.up {α : Type} {V : Heap → Value → α → Prop} (U : Up V) {h h' : Heap} {a : Addr} {xs : List α} (x : LOf V h a xs) (k : ∀ b o, h.get? b = some o → h'.get? b = some o) : LOf V h' a xs :=
  let ⟨vs, a, b⟩ := x; ⟨vs, a.at fun o e => k _ o e, b.mono fun v y q => U _ _ v y q k⟩
theorem Paired.length {α β : Type} {F : α → β → Prop} {l₁ : List α} {l₂ : List β} (p : Paired F l₁ l₂) : l₁.length = l₂.length := by
  induction p with
  | nil => rfl
  | cons _ _ ih => exact congrArg (· + 1) ih
theorem Paired.get {α β : Type} {F : α → β → Prop} {l₁ : List α} {l₂ : List β} (p : Paired F l₁ l₂) : ∀ (i : Nat) (v : α), l₁[i]? = some v → ∃ x, l₂[i]? = some x ∧ F v x := by
  induction p with
  | nil => intro i v h; cases h
  | cons f _ ih =>
    intro i v h
    cases i with
    | zero => cases h; exact ⟨_, rfl, f⟩
    | succ i => exact ih i v h

/-- what a turn of a comprehension finds: the old part stands, Z is off it and lives -/
structure Turn (Y : List Addr) (s₁ : Shared) (Z : List Addr) (s₃ : Shared) : Prop where
  old : ∀ b o, s₁.heap.get? b = some o → s₃.heap.get? b = some o
  off : ∀ z ∈ Z, z ∈ Y ∨ s₁.heap.get? z = none
  live : ∀ z ∈ Z, ∃ o, s₃.heap.get? z = some o
theorem Turn.hid {Y Z : List Addr} {s₁ s₃ s₆ : Shared} {C : Addr} (t : Turn Y s₁ Z s₃) (k : Kp [C] s₃ s₆) (hC : s₁.heap.get? C = none) : ∀ b o, (hideAll s₁.heap Y).get? b = some o → (hideAll s₆.heap Z).get? b = some o :=
  hid_le (fun b o e => k.2 b o (fun m => by rw [List.mem_singleton.mp m, of_hideAll' hC] at e; cases e) (t.old b o (of_hideAll Y e))) t.off
where
  of_hideAll' {h : Heap} {Y : List Addr} {C : Addr} (hC : h.get? C = none) : (hideAll h Y).get? C = none := by
    cases q : (hideAll h Y).get? C with
    | none => rfl
    | some o => rw [of_hideAll Y q] at hC; cases hC
theorem Turn.new {Y Z : List Addr} {s₁ s₃ s₆ : Shared} {T : Addr} {o : Obj} (t : Turn Y s₁ Z s₃) (h3 : s₃.heap.get? T = none) (h6 : s₆.heap.get? T = some o) : (hideAll s₆.heap Z).get? T = some o :=
  hideAll_get Z h6 fun m => by obtain ⟨o, e⟩ := t.live T m; rw [h3] at e; cases e

section
variable {prog : Program} {w : World} {A : Around} {E : Value → Shared → Prop} {env : Env}

theorem compLoop_gen {R : Result → Shared → Prop} {s : Shared} {elt target iter : Expr} {ifs : List Expr} {scope : Scope} {pos : Pos} {it acc : Value} {env : Env} (I : Nat → Shared → Prop)
    (turn : ∀ n s, I n s → wpAny (model prog w) A (pyNext it) (fun r s₁ => match r with
      | none => R (.ok .next) s₁
      | some v => wpAny (model prog w) A (letOwnedTupleGo target it v) (fun _ s₁' => wpAny (model prog w) A (assign target env v) (fun _ s₂ =>
          wpAny (model prog w) A (forIn ifs true fun c r => if r = true then do let ok ← isTrue c env (eval c env); pure (ForInStep.yield ok) else pure (ForInStep.yield r)) (fun ok s₃ =>
            if ok = true then wpAny (model prog w) A (eval elt env) (fun x s₄ =>
              wpAny (model prog w) A (call (.builtin "list.append") [acc, x]) (fun _ s₅ => ∃ m, m < n ∧ I m s₅) (fun _ _ => False) s₄) (fun _ _ => False) s₃
            else ∃ m, m < n ∧ I m s₃) (fun _ _ => False) s₂) (fun _ _ => False) s₁') (fun _ _ => False) s₁) (fun _ _ => False) s)
    (n : Nat) (h : I n s) :
    codeAny (model prog w) A (.compLoop (.ListComp elt [⟨target, iter, ifs, 0⟩] scope pos) 0 it acc env) R s := by
  refine codeAny_loop rfl I (fun n s hI => ?_) n h
  show wpAny _ A ((compTurn (.ListComp elt [⟨target, iter, ifs, 0⟩] scope pos) 0 it acc env).onRaise (fun x => do noteFrame x env; theTreesLotGoes x)) _ _ s
  refine wpAny_noted (wpAny_mono (Q := fun fin s' => match fin with | .done f => R (.ok f) s' | .again c' => c' = .compLoop (.ListComp elt [⟨target, iter, ifs, 0⟩] scope pos) 0 it acc env ∧ ∃ m, m < n ∧ I m s') (E := fun _ _ => False) ?_ (fun fin s' z => ?_) fun _ _ f => f.elim)
  · rw [compTurn_list]
    refine wpAny_bind (wpAny_standAt (wpAny_bind (wpAny_mono (turn n s hI) (fun r s₁ h₁ => ?_) fun _ _ h' => h')))
    cases r with
    | none => exact wpAny_pure h₁
    | some v =>
      refine wpAny_bind (wpAny_mono h₁ (fun _ s₁' h₁' => ?_) fun _ _ h' => h')
      refine wpAny_bind (wpAny_mono h₁' (fun _ s₂ h₂ => wpAny_bind (wpAny_mono h₂ (fun ok s₃ h₃ => ?_) fun _ _ h' => h')) fun _ _ h' => h')
      cases ok with
      | false => exact wpAny_pure ⟨rfl, h₃⟩
      | true =>
        exact wpAny_bind (wpAny_bind (wpAny_mono h₃ (fun x s₄ h₄ => wpAny_bind (wpAny_mono h₄ (fun _ s₅ h₅ => wpAny_pure (wpAny_pure ⟨rfl, h₅⟩)) fun _ _ h' => h')) fun _ _ h' => h'))
  · cases fin <;> exact z

/-- what stands at a comprehension's turn -/
structure CL {α β : Type} (V : Heap → Value → β → Prop) (xs : List α) (p : α → Bool) (f : α → β) (Y : List Addr) (s₁ s₂ : Shared) (I C D : Addr) (St : Nat → Heap → Prop) (k : Nat) (s' : Shared) (h' : Heap) (m' : PySem.Str → Option Value) (i : Nat) (ys : List Value) : Prop where
  e : ∃ tk, s' = { s₂ with heap := h', toks := tk }
  hi : i ≤ xs.length
  hk : k = xs.length - i
  st : St i h'
  ns : h'.Ns C m'
  hl : h'.IsList D ys.toArray
  hp : Paired (V (hideAll h' (I :: C :: D :: Y))) ys (((xs.take i).filter p).map f)
  old : ∀ b o, s₁.heap.get? b = some o → h'.get? b = some o
theorem comp_block {α β : Type} {V : Heap → Value → β → Prop} (U : Up V) {xs : List α} {p : α → Bool} {f : α → β} {elt target iter : Expr} {ifs : List Expr} {scope : Scope} {cl : List (PySem.Str × Addr)} {pos : Pos} {Y : List Addr} {s₁ s₂ : Shared} {I : Addr} {fp : List Addr} {P : Nat → Value → Prop}
    {St : Nat → Heap → Prop} {RR : Value → Addr → Result → Shared → Prop} (W : Walks prog w A I fp [I] xs.length P St) (hsz : xs.length ≤ sizeLine)
    (hY : ∀ y ∈ Y, ∃ o, s₁.heap.get? y = some o) (k12 : ∀ b o, s₁.heap.get? b = some o → s₂.heap.get? b = some o) (hI : s₁.heap.get? I = none) (hlive : ∀ i h, St i h → ∃ o, h.get? I = some o)
    (hcell : ∀ y ∈ scope.names, y.2 ≠ .cell) (hkind : scope.kind = .function) (hst : St 0 s₂.heap) (hfp : ∀ b ∈ fp, b < s₂.heap.objs.size)
    (go : ∀ i v (s : Shared) (Q : Unit → Shared → Prop), i < xs.length → P i v → St (i + 1) s.heap → Q () s → wpAny (model prog w) A (letOwnedTupleGo target (.ref I) v) Q (fun _ _ => False) s)
    (turn : ∀ i a v C s₃ m₃ Z, xs[i]? = some a → P i v → Turn Y s₁ Z s₃ → C ∈ Z → s₁.heap.get? C = none → s₃.heap.Ns C m₃ →
      wpAny (model prog w) A (assign target (compEnvC scope cl C env) v) (fun _ s₄ =>
        wpAny (model prog w) A (forIn ifs true fun c r => if r = true then do let ok ← isTrue c (compEnvC scope cl C env) (eval c (compEnvC scope cl C env)); pure (ForInStep.yield ok) else pure (ForInStep.yield r)) (fun ok s₅ =>
          if ok = true then p a = true ∧ wpAny (model prog w) A (eval elt (compEnvC scope cl C env)) (fun y s₆ => V (hideAll s₆.heap Z) y (f a) ∧ Kp [C] s₃ s₆ ∧ ∃ m, s₆.heap.Ns C m) (fun _ _ => False) s₅
          else p a = false ∧ Kp [C] s₃ s₅ ∧ ∃ m, s₅.heap.Ns C m) (fun _ _ => False) s₄) (fun _ _ => False) s₃)
    (hRR : ∀ D C h' tk m', s₁.heap.get? D = none → s₁.heap.get? C = none → D ≠ C → h'.Ns C m' → LOf V (hideAll h' (I :: C :: Y)) D ((xs.filter p).map f) → (∀ b o, s₁.heap.get? b = some o → h'.get? b = some o) → RR (.ref D) C (.ok .next) { s₂ with heap := h', toks := tk }) :
    wpAny (model prog w) A (newList []) (fun acc s₃ => wpAny (model prog w) A (newFunctionEnv scope env.globals cl [] env.qual none .none (some env)) (fun cenv s₄ =>
      codeAny (model prog w) A (.compStart (.ListComp elt [⟨target, iter, ifs, 0⟩] scope pos) 0 (.ref I) acc { cenv with scope := relabel scope env }) (RR acc cenv.locals) s₄) E s₃) E s₂ := by
  refine wpAny_newObj_type (wpAny_newFunctionEnv hcell (by intro y hy; simp at hy) (fun h₁ hns₁ hsb₁ => ?_) hkind)
  dsimp only at hns₁ hsb₁ ⊢
  generalize hH2 : s₂.heap.push { cls := .type "list", dict := none, data := .seq ([] : List Value).toArray } = H2 at hns₁ hsb₁ ⊢
  have hC : H2.objs.size = s₂.heap.objs.size + 1 := by rw [← hH2, Heap.size_push]
  generalize hDe : s₂.heap.objs.size = D at *
  generalize hCe : H2.objs.size = C at *
  have hDC : D ≠ C := fun e => Nat.ne_of_lt (Nat.lt_succ_self _) (e.trans hC)
  have below : ∀ b, b < D → b ≠ C ∧ b ≠ D := fun b hb => ⟨by omega, by omega⟩
  have lt2 : ∀ b o, s₂.heap.get? b = some o → b < D := fun b o e => hDe ▸ Heap.lt_size e
  have old : ∀ b o, s₂.heap.get? b = some o → h₁.get? b = some o := fun b o e => hsb₁.extBut b o (below b (lt2 b o e)).1 (Heap.get?_push_of_some _ (hH2 ▸ Heap.get?_push_of_some _ e))
  have hacc : h₁.IsList D #[] := ⟨_, hsb₁.extBut _ _ hDC (Heap.get?_push_of_some _ (hH2 ▸ hDe ▸ Heap.get?_push_size _ rfl)), rfl, _, rfl⟩
  have hDf : D ∉ fp := fun hm => Nat.lt_irrefl _ (hfp _ hm)
  have hCf : C ∉ fp := fun hm => by have : @LT.lt Nat _ C D := hfp _ hm; omega
  have hst₁ : St 0 h₁ := W.frame _ _ _ hst fun b _ o e => old b o e
  have fresh : ∀ a, D ≤ a → s₁.heap.get? a = none := fun a ha => by
    cases e : s₁.heap.get? a with
    | none => rfl
    | some o' => exact absurd (lt2 _ _ (k12 _ _ e)) (Nat.not_lt.mpr ha)
  have hD₁ := fresh D (Nat.le_refl _)
  have hC₁ := fresh C (by omega)
  have hIf : I ∈ fp := W.sub I (List.mem_singleton.mpr rfl)
  have hIlt : @LT.lt Nat _ I D := hfp I hIf
  have hCI : @Ne Nat C I := by omega
  have hDI : @Ne Nat D I := by omega
  have loop : ∀ s₃ : Shared, s₃ = { s₂ with heap := h₁, toks := s₂.toks + ([] : List (PySem.Str × Value)).length } →
      codeAny (model prog w) A (.compLoop (.ListComp elt [⟨target, iter, ifs, 0⟩] scope pos) 0 (.ref I) (.ref D) (compEnvC scope cl C env)) (RR (.ref D) C) s₃ := by
    rintro s₃ rfl
    refine compLoop_gen (fun k s' => ∃ h' m' i ys, CL V xs p f Y s₁ s₂ I C D St k s' h' m' i ys) ?_ xs.length
      ⟨h₁, _, 0, [], ⟨_, rfl⟩, Nat.zero_le _, rfl, hst₁, hns₁, hacc, .nil, fun b o e => old b o (k12 b o e)⟩
    rintro k s' ⟨h', m', i, ys, ⟨⟨tk, rfl⟩, hi, rfl, hst', hn', hl', hP, hk⟩⟩
    rcases Nat.lt_or_ge i xs.length with hlt | hge
    · refine W.item i _ _ _ hlt hst' fun v h₂ tk₂ hPv hst₂ hk₂ => ?_
      have up1 : ∀ b o, b ≠ I → h'.get? b = some o → h₂.get? b = some o := fun b o hb e => hk₂ b o (fun hm => hb (List.mem_singleton.mp hm)) e
      refine go i v _ _ hlt hPv hst₂ ?_
      have hn₂ : h₂.Ns C m' := hn'.at' fun o e => up1 C o hCI e
      have hl₂ : h₂.IsList D ys.toArray := hl'.at fun o e => up1 D o hDI e
      have old₂ : ∀ b o, s₁.heap.get? b = some o → h₂.get? b = some o := fun b o e => up1 b o (fun q => by rw [q, hI] at e; cases e) (hk b o e)
      have T : Turn Y s₁ (I :: C :: D :: Y) { s₂ with heap := h₂, toks := tk₂ } := by
        exact ⟨old₂, memc (.inr hI) (memc (.inr hC₁) (memc (.inr hD₁) fun z hz => .inl hz)), memc (hlive _ _ hst₂) (memc (ns_live hn₂) (memc (hl₂.imp fun o e => e.1) fun z hz => (hY z hz).imp fun o e => old₂ z o e))⟩
      obtain ⟨a, ha⟩ : ∃ a, xs[i]? = some a := ⟨_, List.getElem?_eq_getElem hlt⟩
      have htk : xs.take (i + 1) = xs.take i ++ [a] := by rw [List.take_add_one, ha]; rfl
      have up2 : ∀ s₆ : Shared, Kp [C] { s₂ with heap := h₂, toks := tk₂ } s₆ → ∀ b o, (hideAll h' (I :: C :: D :: Y)).get? b = some o → (hideAll s₆.heap (I :: C :: D :: Y)).get? b = some o := fun s₆ k => hid_le (fun b o e => by
        have hb := hid_off e
        exact k.2 b o (fun m => hb (by rw [List.mem_singleton.mp m]; exact .tail _ (.head _))) (up1 b o (fun q => hb (by rw [q]; exact .head _)) (of_hideAll _ e))) fun _ m => .inl m
      have st2 : ∀ s₆ : Shared, Kp [C] { s₂ with heap := h₂, toks := tk₂ } s₆ → St (i + 1) s₆.heap := fun s₆ k => W.frame _ _ _ hst₂ fun b hb o e => k.2 b o (fun m => hCf (by rw [← List.mem_singleton.mp m]; exact hb)) e
      refine wpAny_mono (turn i a v C _ m' _ ha hPv T (by simp) hC₁ hn₂) (fun _ s₄ h₄ => wpAny_mono h₄ (fun ok s₅ h₅ => ?_) fun _ _ e => e) fun _ _ e => e
      cases ok with
      | false =>
        obtain ⟨hp, k, m₅, hn₅⟩ := h₅
        simp only [Bool.false_eq_true, if_false]
        have k' := k
        obtain ⟨⟨h₅, tk₅, rfl⟩, _⟩ := k'
        refine ⟨xs.length - (i + 1), Nat.sub_lt_sub_left hlt (Nat.lt_succ_self i), h₅, m₅, i + 1, ys, ⟨tk₅, rfl⟩, hlt, rfl, st2 _ k, hn₅, hl₂.at fun o e => k.2 D o (fun m => hDC (List.mem_singleton.mp m)) e, ?_, fun b o e => k.2 b o (fun m => by rw [List.mem_singleton.mp m, hC₁] at e; cases e) (old₂ b o e)⟩
        rw [htk, List.filter_append, List.filter_cons_of_neg (by simp [hp])]
        simpa using hP.mono fun v y q => U _ _ v y q (up2 _ k)
      | true =>
        obtain ⟨hp, hev⟩ := h₅
        simp only [if_true]
        refine wpAny_mono hev (fun y s₆ h₆ => ?_) fun _ _ e => e
        obtain ⟨hV, k, m₆, hn₆⟩ := h₆
        have k' := k
        obtain ⟨⟨h₆, tk₆, rfl⟩, _⟩ := k'
        have hl₆ : h₆.IsList D ys.toArray := hl₂.at fun o e => k.2 D o (fun m => hDC (List.mem_singleton.mp m)) e
        have hlen : ys.length ≤ sizeLine := by
          rw [Paired.length hP, List.length_map]
          exact Nat.le_trans (List.length_filter_le _ _) (by rw [List.length_take]; exact Nat.le_trans (Nat.min_le_right _ _) hsz)
        refine wpAny_list_append hl₆ (fun h₇ hl₇ hs₇ => ?_) (by rw [List.size_toArray]; exact hlen)
        have up3 : ∀ b o, (hideAll h₆ (I :: C :: D :: Y)).get? b = some o → (hideAll h₇ (I :: C :: D :: Y)).get? b = some o := hid_le (fun b o e => hs₇.extBut b o (fun q => hid_off e (by rw [q]; exact .tail _ (.tail _ (.head _)))) (of_hideAll _ e)) fun _ m => .inl m
        refine ⟨xs.length - (i + 1), Nat.sub_lt_sub_left hlt (Nat.lt_succ_self i), h₇, m₆, i + 1, ys ++ [y], ⟨tk₆, rfl⟩, hlt, rfl, W.frame _ _ _ (st2 _ k) fun b hb o e => hs₇.extBut b o (fun q => hDf (q ▸ hb)) e, hn₆.sameBut hs₇ (Ne.symm hDC), by simpa using hl₇, ?_,
          fun b o e => hs₇.extBut b o (fun q => by rw [q, hD₁] at e; cases e) (k.2 b o (fun m => by rw [List.mem_singleton.mp m, hC₁] at e; cases e) (old₂ b o e))⟩
        rw [htk, List.filter_append, List.filter_cons_of_pos hp]
        simp only [List.filter_nil, List.map_append, List.map_cons, List.map_nil]
        exact Paired.snoc (hP.mono fun v y q => U _ _ v y (U _ _ v y q (up2 _ k)) up3) (U _ _ _ _ hV up3)
    · obtain rfl : i = xs.length := Nat.le_antisymm hi hge
      refine W.done _ _ _ hst' fun h₂ tk₂ hk₂ => ?_
      have up1 : ∀ b o, b ≠ I → h'.get? b = some o → h₂.get? b = some o := fun b o hb e => hk₂ b o (fun hm => hb (List.mem_singleton.mp hm)) e
      refine hRR D C h₂ tk₂ m' hD₁ hC₁ hDC (hn'.at' fun o e => up1 C o hCI e) ⟨ys, (hl'.at fun o e => up1 D o hDI e).at fun o e => hideAll_get _ e (fun m => ?_), ?_⟩ fun b o e => up1 b o (fun q => by rw [q, hI] at e; cases e) (hk b o e)
      · rcases List.mem_cons.mp m with q | m
        · exact hDI q
        · rcases List.mem_cons.mp m with q | m
          · exact hDC q
          · obtain ⟨o', e'⟩ := hY D m; rw [hD₁] at e'; cases e'
      · rw [List.take_length] at hP
        refine hP.mono fun v y q => U _ _ v y q fun b o e => hideAll_get _ (up1 b o (fun q => hid_off e (by rw [q]; exact .head _)) (of_hideAll _ e)) fun m => hid_off e ?_
        exact memc (P := fun b => b ∈ I :: C :: D :: Y) (.head _) (memc (.tail _ (.head _)) fun _ m => .tail _ (.tail _ (.tail _ m))) b m
  exact codeAny_compStart_list (loop _ rfl) (W.self 0 _ _ _ hst₁ (loop _ rfl))

structure ReadyW {α β : Type} (prog : Program) (w : World) (A : Around) (env : Env) (V : Heap → Value → β → Prop) (xs : List α) (p : α → Bool) (f : α → β) (elt target : Expr) (ifs : List Expr) (scope : Scope) (cl : List (PySem.Str × Addr)) (Y : List Addr) (s₁ : Shared) (it : Value) (s₂ : Shared) (I : Addr) (fp : List Addr) (P : Nat → Value → Prop) (St : Nat → Heap → Prop) : Prop where
  e : it = .ref I
  W : Walks prog w A I fp [I] xs.length P St
  sz : xs.length ≤ sizeLine
  hY : (∀ y ∈ Y, ∃ o, s₁.heap.get? y = some o)
  k12 : Kp [] s₁ s₂
  hI : s₁.heap.get? I = none
  live : (∀ i h, St i h → ∃ o, h.get? I = some o)
  st : St 0 s₂.heap
  fp_lt : (∀ b ∈ fp, b < s₂.heap.objs.size)
  go : (∀ i v (s : Shared) (Q : Unit → Shared → Prop), i < xs.length → P i v → St (i + 1) s.heap → Q () s → wpAny (model prog w) A (letOwnedTupleGo target (.ref I) v) Q (fun _ _ => False) s)
  turn : (∀ i a v C s₃ m₃ Z, xs[i]? = some a → P i v → Turn Y s₁ Z s₃ → C ∈ Z → s₁.heap.get? C = none → s₃.heap.Ns C m₃ →
      wpAny (model prog w) A (assign target (compEnvC scope cl C env) v) (fun _ s₄ =>
        wpAny (model prog w) A (forIn ifs true fun c r => if r = true then do let ok ← isTrue c (compEnvC scope cl C env) (eval c (compEnvC scope cl C env)); pure (ForInStep.yield ok) else pure (ForInStep.yield r)) (fun ok s₅ =>
          if ok = true then p a = true ∧ wpAny (model prog w) A (eval elt (compEnvC scope cl C env)) (fun y s₆ => V (hideAll s₆.heap Z) y (f a) ∧ Kp [C] s₃ s₆ ∧ ∃ m, s₆.heap.Ns C m) (fun _ _ => False) s₅
          else p a = false ∧ Kp [C] s₃ s₅ ∧ ∃ m, s₅.heap.Ns C m) (fun _ _ => False) s₄) (fun _ _ => False) s₃)
def Ready {α β : Type} (prog : Program) (w : World) (A : Around) (env : Env) (V : Heap → Value → β → Prop) (xs : List α) (p : α → Bool) (f : α → β) (elt target : Expr) (ifs : List Expr) (scope : Scope) (cl : List (PySem.Str × Addr)) (Y : List Addr) (s₁ : Shared) (it : Value) (s₂ : Shared) : Prop := ∃ I fp P St, ReadyW prog w A env V xs p f elt target ifs scope cl Y s₁ it s₂ I fp P St

theorem LOf.hid {β : Type} {V : Heap → Value → β → Prop} (U : Up V) {h h' : Heap} {Z Y : List Addr} {D : Addr} {ys : List β} (x : LOf V (hideAll h Z) D ys) (hk : ∀ b o, b ∉ Z → h.get? b = some o → h'.get? b = some o) (hz : ∀ y ∈ Y, y ∈ Z) : LOf V (hideAll h' Y) D ys :=
  x.up U fun b o e => hideAll_get Y (hk b o (hid_off e) (of_hideAll Z e)) fun m => hid_off e (hz b m)

theorem comp_eval {α β : Type} {V : Heap → Value → β → Prop} (U : Up V) {xs : List α} {p : α → Bool} {f : α → β} {elt target iter : Expr} {ifs : List Expr} {scope : Scope} {cl : List (PySem.Str × Addr)} {pos : Pos} {Y : List Addr} {s : Shared} {Q : Value → Shared → Prop}
    (hclos : closureFor scope env = pure cl) (hcell : ∀ y ∈ scope.names, y.2 ≠ .cell) (hkind : scope.kind = .function) (hnames : ∀ y ∈ scope.names, y.2 = .local → scope.names.lookup y.1 = some .local)
    (h : wpAny (model prog w) A (eval iter env) (fun xv s₁ => wpAny (model prog w) A (pyIter xv) (fun it s₂ => Ready prog w A env V xs p f elt target ifs scope cl Y s₁ it s₂ ∧
      ∀ D s', s₁.heap.get? D = none → LOf V (hideAll s'.heap Y) D ((xs.filter p).map f) → Kp [] s₁ s' → Q (.ref D) s') E s₁) E s)
    (hs : ∀ x, foldedSetIterable iter env x = pure x) :
    wpAny (model prog w) A (eval (.ListComp elt [⟨target, iter, ifs, 0⟩] scope pos) env) Q E s := by
  rw [eval_ListComp]
  refine wpAny_comprehension_free (use := none) rfl hs hclos hkind hnames (wpAny_mono h (fun xv s₁ h₁ => wpAny_mono h₁ (fun it s₂ h₂ => ?_) fun _ _ e => e) fun _ _ e => e)
  obtain ⟨⟨I, fp, P, St, rfl, W, hsz, hY, k12, hI, hlive, hst, hfp, go, turn⟩, hQ⟩ := h₂
  refine comp_block U (RR := fun acc C => compPost (model prog w) A E none Q acc C) W hsz hY k12.keep hI hlive hcell hkind hst hfp go turn ?_
  intro D C h' tk m' hD hC hDC hn hl hk
  refine ⟨m', hn, fun h'' hs'' => hQ D _ hD (hl.hid U (fun b o n e => hs''.extBut b o (fun q => n (by rw [q]; exact .tail _ (.head _))) e) fun y hy => .tail _ (.tail _ hy)) ⟨?_, fun b o _ e => hs''.extBut b o (fun q => by rw [q, hC] at e; cases e) (hk b o e)⟩⟩
  obtain ⟨⟨h₂, tk₂, rfl⟩, _⟩ := k12
  exact ⟨_, _, rfl⟩

theorem comp_assign {α β : Type} {V : Heap → Value → β → Prop} (U : Up V) {xs : List α} {p : α → Bool} {f : α → β} {elt target iter : Expr} {ifs : List Expr} {scope : Scope} {cl : List (PySem.Str × Addr)} {pos spos py : Pos} {y : PySem.Str} {Y : List Addr} {s : Shared} {Q : Flow → Shared → Prop}
    (hsw : swapsWith (.ListComp elt [⟨target, iter, ifs, 0⟩] scope pos) (some (.Name y py)) spos.line env = pure true)
    (hclos : closureFor scope env = pure cl) (hcell : ∀ y ∈ scope.names, y.2 ≠ .cell) (hkind : scope.kind = .function) (hnames : ∀ y ∈ scope.names, y.2 = .local → scope.names.lookup y.1 = some .local)
    (hy : env.kindOf y = some .local) (hp : (env.scope.kind == .class || (env.scope.kind == .module && env.locals != env.globals)) = false) (hL : env.locals ∈ Y)
    (h : wpAny (model prog w) A (eval iter env) (fun xv s₁ => wpAny (model prog w) A (pyIter xv) (fun it s₂ => Ready prog w A env V xs p f elt target ifs scope cl Y s₁ it s₂ ∧
      ∃ m, s₁.heap.Ns env.locals m ∧ ∀ D s', s₁.heap.get? D = none → LOf V (hideAll s'.heap Y) D ((xs.filter p).map f) → s'.heap.Ns env.locals (fun z => if z = y then some (.ref D) else m z) → Kp [env.locals] s₁ s' → Q .next s') E s₁) E s)
    (hs : ∀ x, foldedSetIterable iter env x = pure x) :
    wpAny (model prog w) A (exec (.Assign [.Name y py] (.ListComp elt [⟨target, iter, ifs, 0⟩] scope pos) spos) env) Q E s := by
  rw [exec_Assign_Name_used _ _ _ _ hsw]
  refine wpAny_bind (wpAny_standAt (wpAny_bind ?_))
  show wpAny _ A (do let _ ← comprehension (.ListComp elt [⟨target, iter, ifs, 0⟩] scope pos) scope env _ (newList []) false (eval iter env) (some (assign (.Name y py) env))) _ _ s
  refine wpAny_bind (wpAny_mono (wpAny_comprehension_free (use := some (assign (.Name y py) env)) (Q := fun _ s' => Q .next s') rfl hs hclos hkind hnames
    (wpAny_mono h (fun xv s₁ h₁ => wpAny_mono h₁ (fun it s₂ h₂ => ?_) fun _ _ e => e) fun _ _ e => e)) (fun _ s' hq => wpAny_pure (wpAny_pure hq)) fun _ _ e => e)
  obtain ⟨⟨I, fp, P, St, rfl, W, hsz, hY, k12, hI, hlive, hst, hfp, go, turn⟩, m, hnL, hQ⟩ := h₂
  refine comp_block U (RR := fun acc C => compPost (model prog w) A E (some (assign (.Name y py) env)) (fun _ s' => Q .next s') acc C) W hsz hY k12.keep hI hlive hcell hkind hst hfp go turn ?_
  intro D C h' tk m' hD hC hDC hnC hl hk
  have hLC : env.locals ≠ C := by rintro rfl; obtain ⟨o, _, _, ho, _⟩ := hnL; rw [hC] at ho; cases ho
  show wpAny _ A (assign (.Name y py) env (.ref D)) _ _ _
  refine wpAny_assign_Name (wpAny_storeName_local hy (hnL.at' fun o e => hk _ o e) (fun h₂ hn₂ hs₂ => ?_) hp)
  refine ⟨m', hnC.sameBut hs₂ (Ne.symm hLC), fun h₃ hs₃ => hQ D _ hD (hl.hid U (fun b o n e => hs₃.extBut b o (fun q => n (by rw [q]; exact .tail _ (.head _))) (hs₂.extBut b o (fun q => n (by rw [q]; exact .tail _ (.tail _ hL))) e)) fun y hy => .tail _ (.tail _ hy)) (hn₂.sameBut hs₃ hLC) ⟨?_, fun b o n e => hs₃.extBut b o (fun q => by rw [q, hC] at e; cases e) (hs₂.extBut b o (fun q => n (by rw [q]; simp)) (hk b o e))⟩⟩
  obtain ⟨⟨h₂, tk₂, rfl⟩, _⟩ := k12
  exact ⟨_, _, rfl⟩
end
end Mine
end
section
open PySem PySem.W PySem.Calls PyProof.Rows
namespace Mine

def IntV (_ : Heap) (v : Value) (n : Int) : Prop := ∃ t, v = .int n t
def PairV (h : Heap) (v : Value) (p : Int × Int) : Prop := ∃ T t u, v = .ref T ∧ h.IsTuple T #[.int p.1 t, .int p.2 u]
theorem IntV.upp : Up IntV := fun _ _ _ _ h _ => h
theorem PairV.upp : Up PairV := fun _ _ _ _ h k => h.imp fun _ h => h.imp fun _ h => h.imp fun _ h => ⟨h.1, h.2.at fun o e => k _ o e⟩
abbrev Ints := LOf IntV
abbrev Pairs := LOf PairV
theorem IntsAre.of_paired {h : Heap} {vs : List Value} {ns : List Int} (p : Paired (IntV h) vs ns) : IntsAre vs ns := by
  induction p with
  | nil => exact .nil
  | cons f _ ih => exact Exists.elim f fun t e => e ▸ .cons _ t ih
theorem paired_of_ints {h : Heap} {vs : List Value} {ns : List Int} (p : IntsAre vs ns) : Paired (IntV h) vs ns := by
  induction p with
  | nil => exact .nil
  | cons n t _ ih => exact .cons ⟨t, rfl⟩ ih
theorem Ints.ints {h : Heap} {a : Addr} {ns : List Int} (x : Ints h a ns) : ∃ vs : List Value, h.IsList a vs.toArray ∧ IntsAre vs ns := let ⟨vs, a, b⟩ := x; ⟨vs, a, IntsAre.of_paired b⟩
theorem Ints.of {h : Heap} {a : Addr} {vs : List Value} {ns : List Int} (x : h.IsList a vs.toArray) (y : IntsAre vs ns) : Ints h a ns := ⟨vs, x, paired_of_ints y⟩

section
variable {prog : Program} {w : World} {A : Around} {E : Value → Shared → Prop} {env : Env}
variable {α β : Type} {V : Heap → Value → β → Prop} {V₀ : Heap → Value → α → Prop} {xs : List α} {p : α → Bool} {f : α → β} {elt iter : Expr} {ifs : List Expr} {scope : Scope} {cl : List (PySem.Str × Addr)} {Y : List Addr} {s₁ : Shared} {F : Prop}

theorem ready_list {ax : Addr} {x : PySem.Str} {px : Pos} (hh : A.handled = none) (hl : LOf V₀ (hideAll s₁.heap Y) ax xs) (hsz : xs.length ≤ sizeLine) (hY : ∀ y ∈ Y, ∃ o, s₁.heap.get? y = some o) (hkind : scope.kind = .function) (hx : scope.names.lookup x = some .local)
    (tests : ∀ a v C s₄ m₄ Z, a ∈ xs → V₀ (hideAll s₁.heap Y) v a → Turn Y s₁ Z s₄ → C ∈ Z → s₁.heap.get? C = none → s₄.heap.Ns C m₄ → m₄ x = some v →
      wpAny (model prog w) A (forIn ifs true fun c r => if r = true then do let ok ← isTrue c (compEnvC scope cl C env) (eval c (compEnvC scope cl C env)); pure (ForInStep.yield ok) else pure (ForInStep.yield r)) (fun ok s₅ => ok = p a ∧ Kp [] s₄ s₅) (fun _ _ => False) s₄)
    (elts : ∀ a v C s₄ m₄ Z, a ∈ xs → V₀ (hideAll s₁.heap Y) v a → Turn Y s₁ Z s₄ → C ∈ Z → s₁.heap.get? C = none → s₄.heap.Ns C m₄ → m₄ x = some v → p a = true →
      wpAny (model prog w) A (eval elt (compEnvC scope cl C env)) (fun y s₆ => V (hideAll s₆.heap Z) y (f a) ∧ Kp [] s₄ s₆) (fun _ _ => False) s₄)
    (hF : F) : wpAny (model prog w) A (pyIter (.ref ax)) (fun it s₂ => Ready prog w A env V xs p f elt (.Name x px) ifs scope cl Y s₁ it s₂ ∧ F) E s₁ := by
  obtain ⟨vs, hl, hp⟩ := hl
  have hl1 : s₁.heap.IsList ax vs.toArray := hl.at fun o e => of_hideAll Y e
  have hlt : @LT.lt Nat _ ax s₁.heap.objs.size := by obtain ⟨_, e, _⟩ := hl1; exact Heap.lt_size e
  have hlen : vs.toArray.size = xs.length := by rw [List.size_toArray]; exact Paired.length hp
  have W := Walks.list (prog := prog) (w := w) hh s₁.heap.objs.size ax (Nat.ne_of_lt hlt) vs.toArray
  rw [hlen] at W
  have fresh : s₁.heap.get? s₁.heap.objs.size = none := by
    cases e : s₁.heap.get? s₁.heap.objs.size with
    | none => rfl
    | some o => exact absurd (Heap.lt_size e) (Nat.lt_irrefl _)
  refine wpAny_pyIter_list hl1 ⟨⟨_, _, _, _, rfl, W, hsz, hY, Kp.push, fresh, fun i h st => ?_, ⟨⟨_, Heap.get?_push_size _ rfl, rfl, rfl⟩, hl1.at fun o e => Heap.get?_push_of_some _ e⟩, ?_, ?_, ?_⟩, hF⟩
  · obtain ⟨⟨o, e, _⟩, _⟩ := st; exact ⟨o, e⟩
  · intro b hb
    show @LT.lt Nat _ b (s₁.heap.push _).objs.size
    rw [Heap.size_push]
    rcases List.mem_cons.mp hb with rfl | hb
    · exact Nat.lt_succ_self _
    · rw [List.mem_singleton.mp hb]; exact Nat.lt_succ_of_lt hlt
  · intro i v s Q hi hv st hQ
    exact wpAny_of_eq (show letOwnedTupleGo (.Name x px) (.ref s₁.heap.objs.size) v = pure () by rfl) hQ
  · intro i a v C s₃ m₃ Z ha hv T hCZ hC hn
    have hv' : vs[i]? = some v := by simpa using hv
    obtain ⟨a', ha', hva⟩ := Paired.get hp i v hv'
    have : a' = a := by rw [ha] at ha'; exact (Option.some.inj ha').symm
    subst this
    have hmem := List.mem_of_getElem? ha
    refine wpAny_assign_Name (wpAny_storeName_local (lookup_relabel_local hx) hn (fun h₄ hn₄ hs₄ => ?_) (by simp [compEnvC, relabel, hkind]))
    have k34 : Kp [C] s₃ { s₃ with heap := h₄, toks := s₃.toks + 1 } := Kp.same hs₄ (.head _)
    have T' : Turn Y s₁ Z { s₃ with heap := h₄, toks := s₃.toks + 1 } := ⟨fun b o e => k34.2 b o (fun m => by rw [List.mem_singleton.mp m, hC] at e; cases e) (T.old b o e), T.off, fun z hz => by
      by_cases q : z = C
      · subst q; obtain ⟨o, _, _, e, _⟩ := hn₄; exact ⟨o, e⟩
      · obtain ⟨o, e⟩ := T.live z hz; exact ⟨o, k34.2 z o (fun m => q (List.mem_singleton.mp m)) e⟩⟩
    refine wpAny_mono (tests a' v C _ _ Z hmem hva T' hCZ hC hn₄ (by simp)) (fun ok s₅ h₅ => ?_) fun _ _ e => e
    obtain ⟨rfl, k45⟩ := h₅
    cases q : p a' with
    | false =>
      simp only [Bool.false_eq_true, if_false]
      exact ⟨trivial, k34.trans k45.of0, _, hn₄.at' fun o e => k45.keep _ _ e⟩
    | true =>
      simp only [if_true, true_and]
      have T5 : Turn Y s₁ Z s₅ := ⟨fun b o e => k45.keep _ _ (T'.old b o e), T.off, fun z hz => let ⟨o, e⟩ := T'.live z hz; ⟨o, k45.keep _ _ e⟩⟩
      have hn₅ := hn₄.at' fun o e => k45.keep _ _ e
      refine wpAny_mono (elts a' v C s₅ _ Z hmem hva T5 hCZ hC hn₅ (by simp) q) (fun y s₆ h₆ => ?_) fun _ _ e => e
      exact ⟨h₆.1, k34.trans (k45.trans h₆.2).of0, _, hn₅.at' fun o e => h₆.2.keep _ _ e⟩

theorem ready_int {ax : Addr} {x : PySem.Str} {px : Pos} {xs : List Int} {p : Int → Bool} {f : Int → β} (hh : A.handled = none) (hl : Ints (hideAll s₁.heap Y) ax xs) (hsz : xs.length ≤ sizeLine) (hY : ∀ y ∈ Y, ∃ o, s₁.heap.get? y = some o) (hkind : scope.kind = .function) (hx : scope.names.lookup x = some .local)
    (tests : ∀ (a : Int) t C s₄ m₄ Z, a ∈ xs → Turn Y s₁ Z s₄ → C ∈ Z → s₁.heap.get? C = none → s₄.heap.Ns C m₄ → m₄ x = some (.int a t) →
      wpAny (model prog w) A (forIn ifs true fun c r => if r = true then do let ok ← isTrue c (compEnvC scope cl C env) (eval c (compEnvC scope cl C env)); pure (ForInStep.yield ok) else pure (ForInStep.yield r)) (fun ok s₅ => ok = p a ∧ Kp [] s₄ s₅) (fun _ _ => False) s₄)
    (elts : ∀ (a : Int) t C s₄ m₄ Z, a ∈ xs → Turn Y s₁ Z s₄ → C ∈ Z → s₁.heap.get? C = none → s₄.heap.Ns C m₄ → m₄ x = some (.int a t) → p a = true →
      wpAny (model prog w) A (eval elt (compEnvC scope cl C env)) (fun y s₆ => V (hideAll s₆.heap Z) y (f a) ∧ Kp [] s₄ s₆) (fun _ _ => False) s₄)
    (hF : F) : wpAny (model prog w) A (pyIter (.ref ax)) (fun it s₂ => Ready prog w A env V xs p f elt (.Name x px) ifs scope cl Y s₁ it s₂ ∧ F) E s₁ :=
  ready_list hh hl hsz hY hkind hx (fun a v C s₄ m₄ Z h1 h2 h3 h4 h5 h6 h7 => let ⟨t, e⟩ := h2; tests a t C s₄ m₄ Z h1 h3 h4 h5 h6 (e ▸ h7)) (fun a v C s₄ m₄ Z h1 h2 h3 h4 h5 h6 h7 => let ⟨t, e⟩ := h2; elts a t C s₄ m₄ Z h1 h3 h4 h5 h6 (e ▸ h7)) hF
theorem ready_prs {ax : Addr} {x : PySem.Str} {px : Pos} {xs : List (Int × Int)} {p : Int × Int → Bool} {f : Int × Int → β} (hh : A.handled = none) (hl : Pairs (hideAll s₁.heap Y) ax xs) (hsz : xs.length ≤ sizeLine) (hY : ∀ y ∈ Y, ∃ o, s₁.heap.get? y = some o) (hkind : scope.kind = .function) (hx : scope.names.lookup x = some .local)
    (tests : ∀ (a : Int × Int) T ta tb C s₄ m₄ Z, a ∈ xs → (hideAll s₁.heap Y).IsTuple T #[.int a.1 ta, .int a.2 tb] → Turn Y s₁ Z s₄ → C ∈ Z → s₁.heap.get? C = none → s₄.heap.Ns C m₄ → m₄ x = some (.ref T) →
      wpAny (model prog w) A (forIn ifs true fun c r => if r = true then do let ok ← isTrue c (compEnvC scope cl C env) (eval c (compEnvC scope cl C env)); pure (ForInStep.yield ok) else pure (ForInStep.yield r)) (fun ok s₅ => ok = p a ∧ Kp [] s₄ s₅) (fun _ _ => False) s₄)
    (elts : ∀ a v C s₄ m₄ Z, a ∈ xs → PairV (hideAll s₁.heap Y) v a → Turn Y s₁ Z s₄ → C ∈ Z → s₁.heap.get? C = none → s₄.heap.Ns C m₄ → m₄ x = some v → p a = true →
      wpAny (model prog w) A (eval elt (compEnvC scope cl C env)) (fun y s₆ => V (hideAll s₆.heap Z) y (f a) ∧ Kp [] s₄ s₆) (fun _ _ => False) s₄)
    (hF : F) : wpAny (model prog w) A (pyIter (.ref ax)) (fun it s₂ => Ready prog w A env V xs p f elt (.Name x px) ifs scope cl Y s₁ it s₂ ∧ F) E s₁ :=
  ready_list hh hl hsz hY hkind hx (fun a v C s₄ m₄ Z h1 h2 h3 h4 h5 h6 h7 => let ⟨T, ta, tb, e, hT⟩ := h2; tests a T ta tb C s₄ m₄ Z h1 hT h3 h4 h5 h6 (e ▸ h7)) elts hF
theorem ready_pair {ax : Addr} {x x' : PySem.Str} {px px' tp : Pos} {kk : Nat} {xs : List (Int × Int)} {p : Int × Int → Bool} {f : Int × Int → β} (hh : A.handled = none) (hl : Pairs (hideAll s₁.heap Y) ax xs) (hsz : xs.length ≤ sizeLine) (hY : ∀ y ∈ Y, ∃ o, s₁.heap.get? y = some o) (hkind : scope.kind = .function)
    (hx : scope.names.lookup x = some .local) (hx' : scope.names.lookup x' = some .local) (hxx : x ≠ x')
    (tests : ∀ (a : Int × Int) t u C s₄ m₄ Z, a ∈ xs → Turn Y s₁ Z s₄ → C ∈ Z → s₁.heap.get? C = none → s₄.heap.Ns C m₄ → m₄ x = some (.int a.1 t) → m₄ x' = some (.int a.2 u) →
      wpAny (model prog w) A (forIn ifs true fun c r => if r = true then do let ok ← isTrue c (compEnvC scope cl C env) (eval c (compEnvC scope cl C env)); pure (ForInStep.yield ok) else pure (ForInStep.yield r)) (fun ok s₅ => ok = p a ∧ Kp [] s₄ s₅) (fun _ _ => False) s₄)
    (elts : ∀ (a : Int × Int) t u C s₄ m₄ Z, a ∈ xs → Turn Y s₁ Z s₄ → C ∈ Z → s₁.heap.get? C = none → s₄.heap.Ns C m₄ → m₄ x = some (.int a.1 t) → m₄ x' = some (.int a.2 u) → p a = true →
      wpAny (model prog w) A (eval elt (compEnvC scope cl C env)) (fun y s₆ => V (hideAll s₆.heap Z) y (f a) ∧ Kp [] s₄ s₆) (fun _ _ => False) s₄)
    (hF : F) : wpAny (model prog w) A (pyIter (.ref ax)) (fun it s₂ => Ready prog w A env V xs p f elt (.Tuple [.Name x px, .Name x' px'] kk tp) ifs scope cl Y s₁ it s₂ ∧ F) E s₁ := by
  obtain ⟨vs, hl, hp⟩ := hl
  have hl1 : s₁.heap.IsList ax vs.toArray := hl.at fun o e => of_hideAll Y e
  have hlt : @LT.lt Nat _ ax s₁.heap.objs.size := by obtain ⟨_, e, _⟩ := hl1; exact Heap.lt_size e
  have hlen : vs.toArray.size = xs.length := by rw [List.size_toArray]; exact Paired.length hp
  have W := Walks.list (prog := prog) (w := w) hh s₁.heap.objs.size ax (Nat.ne_of_lt hlt) vs.toArray
  rw [hlen] at W
  have fresh : s₁.heap.get? s₁.heap.objs.size = none := by
    cases e : s₁.heap.get? s₁.heap.objs.size with
    | none => rfl
    | some o => exact absurd (Heap.lt_size e) (Nat.lt_irrefl _)
  refine wpAny_pyIter_list hl1 ⟨⟨_, _, _, _, rfl, W, hsz, hY, Kp.push, fresh, fun i h st => ?_, ⟨⟨_, Heap.get?_push_size _ rfl, rfl, rfl⟩, hl1.at fun o e => Heap.get?_push_of_some _ e⟩, ?_, ?_, ?_⟩, hF⟩
  · obtain ⟨⟨o, e, _⟩, _⟩ := st; exact ⟨o, e⟩
  · intro b hb
    show @LT.lt Nat _ b (s₁.heap.push _).objs.size
    rw [Heap.size_push]
    rcases List.mem_cons.mp hb with rfl | hb
    · exact Nat.lt_succ_self _
    · rw [List.mem_singleton.mp hb]; exact Nat.lt_succ_of_lt hlt
  · intro i v s Q hi hv st hQ
    have hv' : vs[i]? = some v := by simpa using hv
    obtain ⟨a', ha', T, t, u, rfl, hT⟩ := Paired.get hp i v hv'
    exact wpAny_letOwnedTupleGo_listiter st.1 hQ
  · intro i a v C s₃ m₃ Z ha hv Tn hCZ hC hn
    have hv' : vs[i]? = some v := by simpa using hv
    obtain ⟨a', ha', T, t, u, rfl, hT⟩ := Paired.get hp i v hv'
    have : a' = a := by rw [ha] at ha'; exact (Option.some.inj ha').symm
    subst this
    have hmem := List.mem_of_getElem? ha
    have hT3 : s₃.heap.IsTuple T #[.int a'.1 t, .int a'.2 u] := hT.at fun o e => Tn.old _ _ (of_hideAll Y e)
    refine kcp_assign hh hT3 (lookup_relabel_local hx) (lookup_relabel_local hx') (by simp [compEnvC, relabel, hkind]) hn (fun h₄ tk₄ hn₄ hk₄ => ?_)
    have k34 : Kp [C] s₃ { s₃ with heap := h₄, toks := tk₄ } := ⟨⟨_, _, rfl⟩, fun b o n e => hk₄ b o (fun q => n (by rw [q]; exact .head _)) e⟩
    have T' : Turn Y s₁ Z { s₃ with heap := h₄, toks := tk₄ } := ⟨fun b o e => k34.2 b o (fun m => by rw [List.mem_singleton.mp m, hC] at e; cases e) (Tn.old b o e), Tn.off, fun z hz => by
      by_cases q : z = C
      · subst q; obtain ⟨o, _, _, e, _⟩ := hn₄; exact ⟨o, e⟩
      · obtain ⟨o, e⟩ := Tn.live z hz; exact ⟨o, k34.2 z o (fun m => q (List.mem_singleton.mp m)) e⟩⟩
    refine wpAny_mono (tests a' t u C _ _ Z hmem T' hCZ hC hn₄ (by simp [hxx]) (by simp)) (fun ok s₅ h₅ => ?_) fun _ _ e => e
    obtain ⟨rfl, k45⟩ := h₅
    cases q : p a' with
    | false =>
      simp only [Bool.false_eq_true, if_false]
      exact ⟨trivial, k34.trans k45.of0, _, hn₄.at' fun o e => k45.keep _ _ e⟩
    | true =>
      simp only [if_true, true_and]
      have T5 : Turn Y s₁ Z s₅ := ⟨fun b o e => k45.keep _ _ (T'.old b o e), Tn.off, fun z hz => let ⟨o, e⟩ := T'.live z hz; ⟨o, k45.keep _ _ e⟩⟩
      have hn₅ := hn₄.at' fun o e => k45.keep _ _ e
      refine wpAny_mono (elts a' t u C s₅ _ Z hmem T5 hCZ hC hn₅ (by simp [hxx]) (by simp) q) (fun y s₆ h₆ => ?_) fun _ _ e => e
      exact ⟨h₆.1, k34.trans (k45.trans h₆.2).of0, _, hn₅.at' fun o e => h₆.2.keep _ _ e⟩

/-- the ints of range(a, a + n) -/
noncomputable def rangeI (a : Int) (n : Nat) : List Int := (List.range n).map fun i : Nat => a + (i : Int)
theorem rangeI_length (a : Int) (n : Nat) : (rangeI a n).length = n := by simp [rangeI]
theorem rangeI_get (a : Int) (n i : Nat) (h : i < n) : (rangeI a n)[i]? = some (a + i) := by simp [rangeI, h]
theorem mem_rangeI {a k : Int} {n : Nat} : k ∈ rangeI a n ↔ a ≤ k ∧ k < a + n := by
  simp only [rangeI, List.mem_map, List.mem_range]
  constructor
  · rintro ⟨i, h, rfl⟩; omega
  · rintro ⟨h1, h2⟩; exact ⟨(k - a).toNat, by omega, by omega⟩

theorem ready_range {r : Addr} {a b : Int} {t u v₀ : Tok} {n : Nat} {x : PySem.Str} {px : Pos} {p : Int → Bool} {f : Int → β} (hh : A.handled = none) (hr : IsRange s₁.heap r a b 1 t u v₀) (hsmall : Builtin.Range.small a b 1 = true) (hn : Builtin.Range.rangeSize a b 1 = (n : Int)) (hsz : n ≤ sizeLine) (hY : ∀ y ∈ Y, ∃ o, s₁.heap.get? y = some o) (hkind : scope.kind = .function) (hx : scope.names.lookup x = some .local)
    (tests : ∀ k tk C s₄ m₄ Z, k ∈ rangeI a n → Turn Y s₁ Z s₄ → C ∈ Z → s₁.heap.get? C = none → s₄.heap.Ns C m₄ → m₄ x = some (.int k tk) →
      wpAny (model prog w) A (forIn ifs true fun c r => if r = true then do let ok ← isTrue c (compEnvC scope cl C env) (eval c (compEnvC scope cl C env)); pure (ForInStep.yield ok) else pure (ForInStep.yield r)) (fun ok s₅ => ok = p k ∧ Kp [] s₄ s₅) (fun _ _ => False) s₄)
    (elts : ∀ k tk C s₄ m₄ Z, k ∈ rangeI a n → Turn Y s₁ Z s₄ → C ∈ Z → s₁.heap.get? C = none → s₄.heap.Ns C m₄ → m₄ x = some (.int k tk) → p k = true →
      wpAny (model prog w) A (eval elt (compEnvC scope cl C env)) (fun y s₆ => V (hideAll s₆.heap Z) y (f k) ∧ Kp [] s₄ s₆) (fun _ _ => False) s₄)
    (hF : F) : wpAny (model prog w) A (pyIter (.ref r)) (fun it s₂ => Ready prog w A env V (rangeI a n) p f elt (.Name x px) ifs scope cl Y s₁ it s₂ ∧ F) E s₁ := by
  have W := LCg.range_walks (prog := prog) (w := w) (I := s₁.heap.objs.size) hh a n
  have fresh : s₁.heap.get? s₁.heap.objs.size = none := by
    cases e : s₁.heap.get? s₁.heap.objs.size with
    | none => rfl
    | some o => exact absurd (Heap.lt_size e) (Nat.lt_irrefl _)
  refine wpAny_pyIter_range hr hsmall ⟨⟨_, _, _, _, rfl, (by rw [rangeI_length]; exact W), (by rw [rangeI_length]; exact hsz), hY, Kp.push, fresh, fun i h st => ⟨_, st⟩, ?_, ?_, ?_, ?_⟩, hF⟩
  · show IsRangeIter _ _ _ _ _
    rw [hn]; simpa using Heap.get?_push_size _ rfl
  · intro b hb
    show @LT.lt Nat _ b (s₁.heap.push _).objs.size
    rw [Heap.size_push, List.mem_singleton.mp hb]
    exact Nat.lt_succ_self _
  · intro i v s Q hi hv st hQ
    exact wpAny_of_eq (show letOwnedTupleGo (.Name x px) (.ref s₁.heap.objs.size) v = pure () by rfl) hQ
  · intro i k v C s₃ m₃ Z ha hv T hCZ hC hn
    obtain ⟨tk, rfl⟩ := hv
    have hi : i < n := by
      have := List.getElem?_eq_some_iff.mp ha
      obtain ⟨h, _⟩ := this
      rwa [rangeI_length] at h
    have hk : a + (i : Int) = k := by rw [rangeI_get a n i hi] at ha; exact Option.some.inj ha
    subst hk
    have hmem := List.mem_of_getElem? ha
    refine wpAny_assign_Name (wpAny_storeName_local (lookup_relabel_local hx) hn (fun h₄ hn₄ hs₄ => ?_) (by simp [compEnvC, relabel, hkind]))
    have k34 : Kp [C] s₃ { s₃ with heap := h₄, toks := s₃.toks + 1 } := Kp.same hs₄ (.head _)
    have T' : Turn Y s₁ Z { s₃ with heap := h₄, toks := s₃.toks + 1 } := ⟨fun b o e => k34.2 b o (fun m => by rw [List.mem_singleton.mp m, hC] at e; cases e) (T.old b o e), T.off, fun z hz => by
      by_cases q : z = C
      · subst q; obtain ⟨o, _, _, e, _⟩ := hn₄; exact ⟨o, e⟩
      · obtain ⟨o, e⟩ := T.live z hz; exact ⟨o, k34.2 z o (fun m => q (List.mem_singleton.mp m)) e⟩⟩
    refine wpAny_mono (tests _ tk C _ _ Z hmem T' hCZ hC hn₄ (by simp)) (fun ok s₅ h₅ => ?_) fun _ _ e => e
    obtain ⟨rfl, k45⟩ := h₅
    cases q : p (a + (i : Int)) with
    | false =>
      simp only [Bool.false_eq_true, if_false]
      exact ⟨trivial, k34.trans k45.of0, _, hn₄.at' fun o e => k45.keep _ _ e⟩
    | true =>
      simp only [if_true, true_and]
      have T5 : Turn Y s₁ Z s₅ := ⟨fun b o e => k45.keep _ _ (T'.old b o e), T.off, fun z hz => let ⟨o, e⟩ := T'.live z hz; ⟨o, k45.keep _ _ e⟩⟩
      have hn₅ := hn₄.at' fun o e => k45.keep _ _ e
      refine wpAny_mono (elts _ tk C s₅ _ Z hmem T5 hCZ hC hn₅ (by simp) q) (fun y s₆ h₆ => ?_) fun _ _ e => e
      exact ⟨h₆.1, k34.trans (k45.trans h₆.2).of0, _, hn₅.at' fun o e => h₆.2.keep _ _ e⟩
end
end Mine
end
section
open PySem PySem.W PySem.Calls PyProof.Rows
namespace Mine
section
variable {prog : Program} {w : World} {A : Around} {E : Value → Shared → Prop} {env : Env}

theorem for_core {R : Result → Shared → Prop} {target : Expr} {body : List Stmt} {I : Addr} {fp Y : List Addr} {n : Nat} {P : Nat → Value → Prop} {St : Nat → Heap → Prop} {s₂ : Shared} (W : Walks prog w A I fp [I] n P St) (hst : St 0 s₂.heap) (hfpY : ∀ b ∈ fp, b ∉ Y)
    (J : Nat → Shared → Prop) (stab : ∀ i s s', J i s → Kp [I] s s' → J i s') (h0 : J 0 s₂)
    (turn : ∀ i v s, i < n → P i v → J i s → St (i + 1) s.heap → wpAny (model prog w) A (letOwnedTupleGo target (.ref I) v) (fun _ s' => wpAny (model prog w) A (assign target env v) (fun _ s'' => wpAny (model prog w) A (execs body env) (fun f s₃ => match f with
      | .next | .cont => J (i + 1) s₃ ∧ Kp Y s s₃
      | .brk => R (.ok .next) s₃
      | .ret v => R (.ok (.ret v)) s₃) (fun _ _ => False) s'') (fun _ _ => False) s') (fun _ _ => False) s)
    (done : ∀ s, J n s → R (.ok .next) s) : codeAny (model prog w) A (.forLoop target (.ref I) body [] env) R s₂ := by
  refine codeAny_forLoop_any (fun k s => ∃ i, i ≤ n ∧ k = n - i ∧ J i s ∧ St i s.heap) ?_ n ⟨0, Nat.zero_le _, rfl, h0, hst⟩
  rintro k s ⟨i, hi, rfl, hJ, hs⟩
  rcases Nat.lt_or_ge i n with hlt | hge
  · refine W.item i s _ _ hlt hs fun v h₁ tk₁ hP hs₁ hk₁ => ?_
    have k1 : Kp [I] s { s with heap := h₁, toks := tk₁ } := ⟨⟨_, _, rfl⟩, hk₁⟩
    refine wpAny_mono (turn i v _ hlt hP (stab _ _ _ hJ k1) hs₁) (fun _ s' h' => wpAny_mono h' (fun _ s'' h'' => wpAny_mono h'' (fun f s₃ h₃ => ?_) fun _ _ f => f.elim) fun _ _ f => f.elim) fun _ _ f => f.elim
    cases f with
    | next => exact ⟨n - (i + 1), Nat.sub_lt_sub_left hlt (Nat.lt_succ_self i), i + 1, hlt, rfl, h₃.1, W.frame _ _ _ hs₁ fun b hb o e => h₃.2.2 b o (hfpY b hb) e⟩
    | cont => exact ⟨n - (i + 1), Nat.sub_lt_sub_left hlt (Nat.lt_succ_self i), i + 1, hlt, rfl, h₃.1, W.frame _ _ _ hs₁ fun b hb o e => h₃.2.2 b o (hfpY b hb) e⟩
    | brk => exact h₃
    | ret v => exact h₃
  · obtain rfl : i = n := Nat.le_antisymm hi hge
    refine W.done s _ _ hs fun h₁ tk₁ hk₁ => ?_
    exact wpAny_execs_nil (done _ (stab _ _ _ hJ ⟨⟨_, _, rfl⟩, hk₁⟩))

/-- a for over a list that stands in the frozen part -/
theorem for_list {α : Type} {V₀ : Heap → Value → α → Prop} {xs : List α} {target iter : Expr} {body : List Stmt} {pos : Pos} {Y : List Addr} {s : Shared} {Q : Flow → Shared → Prop} (hh : A.handled = none)
    (h : wpAny (model prog w) A (eval iter env) (fun xv s₁ => ∃ ax, xv = .ref ax ∧ LOf V₀ (hideAll s₁.heap Y) ax xs ∧ (∀ y ∈ Y, ∃ o, s₁.heap.get? y = some o) ∧ ∃ J : List Addr → Nat → Shared → Prop,
      (∀ I i s s', s₁.heap.get? I = none → J (I :: Y) i s → Kp [I] s s' → J (I :: Y) i s') ∧
      (∀ I s₂, s₁.heap.get? I = none → (∃ o, s₂.heap.get? I = some o) → Kp [] s₁ s₂ → J (I :: Y) 0 s₂) ∧
      (∀ I i a v s (R : Flow → Shared → Prop), (∀ f s₃, (match f with
        | .next | .cont => J (I :: Y) (i + 1) s₃ ∧ Kp Y s s₃
        | .brk => Q .next s₃
        | .ret v => Q (.ret v) s₃) → R f s₃) → s₁.heap.get? I = none → xs[i]? = some a → V₀ (hideAll s₁.heap Y) v a → (∃ l k, s.heap.IsListIter I l k) → J (I :: Y) i s → wpAny (model prog w) A (letOwnedTupleGo target (.ref I) v) (fun _ s' => wpAny (model prog w) A (assign target env v) (fun _ s'' => wpAny (model prog w) A (execs body env) R (fun _ _ => False) s'') (fun _ _ => False) s') (fun _ _ => False) s) ∧
      (∀ I s, s₁.heap.get? I = none → J (I :: Y) xs.length s → Q .next s)) E s)
    (hs : ∀ x, foldedSetIterable iter env x = pure x) :
    wpAny (model prog w) A (exec (.For target iter body [] pos) env) Q E s := by
  refine wpAny_For (wpAny_mono h (fun xv s₁ h₁ => ?_) fun _ _ e => e) hs
  obtain ⟨ax, rfl, ⟨vs, hl, hp⟩, hY, J, stab, start, turn, done⟩ := h₁
  have hl1 : s₁.heap.IsList ax vs.toArray := hl.at fun o e => of_hideAll Y e
  have hlt : @LT.lt Nat _ ax s₁.heap.objs.size := by obtain ⟨_, e, _⟩ := hl1; exact Heap.lt_size e
  have hlen : vs.toArray.size = xs.length := by rw [List.size_toArray]; exact Paired.length hp
  have W := Walks.list (prog := prog) (w := w) hh s₁.heap.objs.size ax (Nat.ne_of_lt hlt) vs.toArray
  rw [hlen] at W
  have fresh : s₁.heap.get? s₁.heap.objs.size = none := by
    cases e : s₁.heap.get? s₁.heap.objs.size with
    | none => rfl
    | some o => exact absurd (Heap.lt_size e) (Nat.lt_irrefl _)
  refine wpAny_pyIter_list hl1 (for_core (Y := Y) W ⟨⟨_, Heap.get?_push_size _ rfl, rfl, rfl⟩, hl1.at fun o e => Heap.get?_push_of_some _ e⟩ (fun b hb m => ?_) (J (s₁.heap.objs.size :: Y)) (fun i s s' hJ k => stab _ _ _ _ fresh hJ k) (start _ _ fresh ⟨_, Heap.get?_push_size _ rfl⟩ Kp.push) (fun i v s hi hv hJ hs => ?_) fun s hJ => done _ _ fresh hJ)
  · rcases List.mem_cons.mp hb with rfl | hb
    · obtain ⟨o, e⟩ := hY _ m; rw [fresh] at e; cases e
    · rw [List.mem_singleton.mp hb] at m
      obtain ⟨o, e, _⟩ := hl
      exact hid_off e m
  · have hv' : vs[i]? = some v := by simpa using hv
    obtain ⟨a, ha, hva⟩ := Paired.get hp i v hv'
    exact turn _ i a v s _ (fun _ _ z => z) fresh ha hva ⟨_, _, hs.1⟩ hJ

/-- a for over a range by ones -/
theorem for_range {iter : Expr} {body : List Stmt} {pos : Pos} {Y : List Addr} {s : Shared} {Q : Flow → Shared → Prop} {a b : Int} {n : Nat} {x : PySem.Str} {px : Pos} (hh : A.handled = none) (hsmall : Builtin.Range.small a b 1 = true) (hn : Builtin.Range.rangeSize a b 1 = (n : Int))
    (h : wpAny (model prog w) A (eval iter env) (fun xv s₁ => ∃ r t u v₀, xv = .ref r ∧ IsRange s₁.heap r a b 1 t u v₀ ∧ (∀ y ∈ Y, ∃ o, s₁.heap.get? y = some o) ∧ ∃ J : List Addr → Nat → Shared → Prop,
      (∀ I i s s', s₁.heap.get? I = none → J (I :: Y) i s → Kp [I] s s' → J (I :: Y) i s') ∧
      (∀ I s₂, s₁.heap.get? I = none → (∃ o, s₂.heap.get? I = some o) → Kp [] s₁ s₂ → J (I :: Y) 0 s₂) ∧
      (∀ I i t s (R : Flow → Shared → Prop), (∀ f s₃, (match f with
        | .next | .cont => J (I :: Y) (i + 1) s₃ ∧ Kp Y s s₃
        | .brk => Q .next s₃
        | .ret v => Q (.ret v) s₃) → R f s₃) → s₁.heap.get? I = none → i < n → (∃ o, s.heap.get? I = some o) → J (I :: Y) i s → wpAny (model prog w) A (assign (.Name x px) env (.int (a + (i : Int)) t)) (fun _ s'' => wpAny (model prog w) A (execs body env) R (fun _ _ => False) s'') (fun _ _ => False) s) ∧
      (∀ I s, s₁.heap.get? I = none → J (I :: Y) n s → Q .next s)) E s)
    (hs : ∀ x, foldedSetIterable iter env x = pure x) :
    wpAny (model prog w) A (exec (.For (.Name x px) iter body [] pos) env) Q E s := by
  refine wpAny_For (wpAny_mono h (fun xv s₁ h₁ => ?_) fun _ _ e => e) hs
  obtain ⟨r, t, u, v₀, rfl, hr, hY, J, stab, start, turn, done⟩ := h₁
  have W := LCg.range_walks (prog := prog) (w := w) (I := s₁.heap.objs.size) hh a n
  have fresh : s₁.heap.get? s₁.heap.objs.size = none := by
    cases e : s₁.heap.get? s₁.heap.objs.size with
    | none => rfl
    | some o => exact absurd (Heap.lt_size e) (Nat.lt_irrefl _)
  refine wpAny_pyIter_range hr hsmall (for_core (Y := Y) W ?_ (fun b hb m => ?_) (J (s₁.heap.objs.size :: Y)) (fun i s s' hJ k => stab _ _ _ _ fresh hJ k) (start _ _ fresh ⟨_, Heap.get?_push_size _ rfl⟩ Kp.push) (fun i v s hi hv hJ hs => ?_) fun s hJ => done _ _ fresh hJ)
  · show IsRangeIter _ _ _ _ _
    rw [hn]; simpa using Heap.get?_push_size _ rfl
  · rw [List.mem_singleton.mp hb] at m
    obtain ⟨o, e⟩ := hY _ m; rw [fresh] at e; cases e
  · obtain ⟨tk, rfl⟩ := hv
    exact wpAny_of_eq (show letOwnedTupleGo (.Name x px) (.ref s₁.heap.objs.size) _ = pure () by rfl) (turn _ i tk s _ (fun _ _ z => z) fresh hi ⟨_, hs⟩ hJ)
end

section
variable {w : World} {A : Around} {E : Value → Shared → Prop} {s : Shared} {env : Env} {x : PySem.Str} {np pos : Pos} {Q : Value → Shared → Prop} {e e₁ e₂ e₃ e₄ : Expr}

/-! calls of built-ins, types, the text's defs, by name -/
theorem cb1 {id : String} (G : Gr w s.heap) (hg : nsIn (Mine.hd.heap_39 w.params) mainGlobals x = some none) (hv : bootBuiltins x = some (.builtin id))
    (h : wpAny (model PySem.Challenge.rw_nz0289_01.row.prog w) A (eval e env) (fun v s₁ => wpAny (model PySem.Challenge.rw_nz0289_01.row.prog w) A (PySem.call (.builtin id) [v]) Q E s₁) E s)
    (hn : x ≠ "__name__" := by decide) (hgl : env.globals = mainGlobals := by rfl) (hb : env.builtins = builtinsNs := by rfl) (hk : env.scope.kind = .function := by rfl) (hl : env.kindOf x = some .globalImplicit := by rfl) (hd : (x == ("__debug__" : PySem.Str)) = false := by decide)
    (hc : eval ((Expr.Name x np).Call [e] [] pos) env = (do let f ← eval (Expr.Name x np) env; callWith pos f [] (backTo pos (starEach [e] env)) (backToKw pos (keywordEach [] env))) := by rfl)
    (hst : starEach [e] env = (false, eval e env) :: starEach [] env := by rfl) :
    wpAny (model PySem.Challenge.rw_nz0289_01.row.prog w) A (eval ((Expr.Name x np).Call [e] [] pos) env) Q E s :=
  Call_ (n_bi G hg hv (PyProof.Rows.callWith_builtin1 (spliced_more (wpAny_mono h (fun _ _ z => spliced_none z) fun _ _ z => z) hst) hst rfl) hn hgl hb hk hl hd) hc
theorem cb2 {id : String} (G : Gr w s.heap) (hg : nsIn (Mine.hd.heap_39 w.params) mainGlobals x = some none) (hv : bootBuiltins x = some (.builtin id))
    (h : wpAny (model PySem.Challenge.rw_nz0289_01.row.prog w) A (eval e₁ env) (fun v₁ s₁ => wpAny (model PySem.Challenge.rw_nz0289_01.row.prog w) A (eval e₂ env) (fun v₂ s₂ => wpAny (model PySem.Challenge.rw_nz0289_01.row.prog w) A (PySem.call (.builtin id) [v₁, v₂]) Q E s₂) E s₁) E s)
    (hn : x ≠ "__name__" := by decide) (hgl : env.globals = mainGlobals := by rfl) (hb : env.builtins = builtinsNs := by rfl) (hk : env.scope.kind = .function := by rfl) (hl : env.kindOf x = some .globalImplicit := by rfl) (hd : (x == ("__debug__" : PySem.Str)) = false := by decide)
    (hc : eval ((Expr.Name x np).Call [e₁, e₂] [] pos) env = (do let f ← eval (Expr.Name x np) env; callWith pos f [] (backTo pos (starEach [e₁, e₂] env)) (backToKw pos (keywordEach [] env))) := by rfl)
    (hst : starEach [e₁, e₂] env = (false, eval e₁ env) :: starEach [e₂] env := by rfl) (hst₂ : starEach [e₂] env = (false, eval e₂ env) :: starEach [] env := by rfl) (hany : ((backTo pos (starEach [e₂] env)).any fun x => x.fst) = false := by rfl) :
    wpAny (model PySem.Challenge.rw_nz0289_01.row.prog w) A (eval ((Expr.Name x np).Call [e₁, e₂] [] pos) env) Q E s :=
  Call_ (n_bi G hg hv (PyProof.Rows.callWith_builtin1 (spliced_more (wpAny_mono h (fun _ _ z => spliced_more (wpAny_mono z (fun _ _ z => spliced_none z) fun _ _ z => z) hst₂) fun _ _ z => z) hst) hst hany) hn hgl hb hk hl hd) hc
theorem ct1 {T : String} (G : Gr w s.heap) (hg : nsIn (Mine.hd.heap_39 w.params) mainGlobals x = some none) (hv : bootBuiltins x = some (.type T))
    (h : wpAny (model PySem.Challenge.rw_nz0289_01.row.prog w) A (eval e env) (fun v s₁ => wpAny (model PySem.Challenge.rw_nz0289_01.row.prog w) A (PySem.call (.type T) [v]) Q E s₁) E s)
    (hn : x ≠ "__name__" := by decide) (hgl : env.globals = mainGlobals := by rfl) (hb : env.builtins = builtinsNs := by rfl) (hk : env.scope.kind = .function := by rfl) (hl : env.kindOf x = some .globalImplicit := by rfl) (hd : (x == ("__debug__" : PySem.Str)) = false := by decide)
    (hc : eval ((Expr.Name x np).Call [e] [] pos) env = (do let f ← eval (Expr.Name x np) env; callWith pos f [] (backTo pos (starEach [e] env)) (backToKw pos (keywordEach [] env))) := by rfl)
    (hst : starEach [e] env = (false, eval e env) :: starEach [] env := by rfl) :
    wpAny (model PySem.Challenge.rw_nz0289_01.row.prog w) A (eval ((Expr.Name x np).Call [e] [] pos) env) Q E s :=
  Call_ (n_bi G hg hv (PyProof.Rows.callWith_type1 (spliced_more (wpAny_mono h (fun _ _ z => spliced_none z) fun _ _ z => z) hst) hst rfl) hn hgl hb hk hl hd) hc
theorem ct2 {T : String} (G : Gr w s.heap) (hg : nsIn (Mine.hd.heap_39 w.params) mainGlobals x = some none) (hv : bootBuiltins x = some (.type T))
    (h : wpAny (model PySem.Challenge.rw_nz0289_01.row.prog w) A (eval e₁ env) (fun v₁ s₁ => wpAny (model PySem.Challenge.rw_nz0289_01.row.prog w) A (eval e₂ env) (fun v₂ s₂ => wpAny (model PySem.Challenge.rw_nz0289_01.row.prog w) A (PySem.call (.type T) [v₁, v₂]) Q E s₂) E s₁) E s)
    (hn : x ≠ "__name__" := by decide) (hgl : env.globals = mainGlobals := by rfl) (hb : env.builtins = builtinsNs := by rfl) (hk : env.scope.kind = .function := by rfl) (hl : env.kindOf x = some .globalImplicit := by rfl) (hd : (x == ("__debug__" : PySem.Str)) = false := by decide)
    (hc : eval ((Expr.Name x np).Call [e₁, e₂] [] pos) env = (do let f ← eval (Expr.Name x np) env; callWith pos f [] (backTo pos (starEach [e₁, e₂] env)) (backToKw pos (keywordEach [] env))) := by rfl)
    (hst : starEach [e₁, e₂] env = (false, eval e₁ env) :: starEach [e₂] env := by rfl) (hst₂ : starEach [e₂] env = (false, eval e₂ env) :: starEach [] env := by rfl) (hany : ((backTo pos (starEach [e₂] env)).any fun x => x.fst) = false := by rfl) :
    wpAny (model PySem.Challenge.rw_nz0289_01.row.prog w) A (eval ((Expr.Name x np).Call [e₁, e₂] [] pos) env) Q E s :=
  Call_ (n_bi G hg hv (PyProof.Rows.callWith_type1 (spliced_more (wpAny_mono h (fun _ _ z => spliced_more (wpAny_mono z (fun _ _ z => spliced_none z) fun _ _ z => z) hst₂) fun _ _ z => z) hst) hst hany) hn hgl hb hk hl hd) hc
/-- a call of a def or a class of the text's, by its global name; the arguments as a spliced list -/
theorem cfn {f : Addr} {rest : List Expr} (G : Gr w s.heap) (hg : nsIn (Mine.hd.heap_39 w.params) mainGlobals x = some (some (.ref f))) (hkeep : keepIn (Mine.hd.heap_39 w.params) (.ref f) = true)
    (h : wpAny (model PySem.Challenge.rw_nz0289_01.row.prog w) A (spliced (backTo pos (starEach (e :: rest) env))) (fun vs s₁ => Gr w s₁.heap ∧ wpAny (model PySem.Challenge.rw_nz0289_01.row.prog w) A (PySem.call (.ref f) vs) Q E s₁) E s)
    (hgl : env.globals = mainGlobals := by rfl) (hk : env.scope.kind = .function := by rfl) (hl : env.kindOf x = some .globalImplicit := by rfl) (hd : (x == ("__debug__" : PySem.Str)) = false := by decide)
    (hc : eval ((Expr.Name x np).Call (e :: rest) [] pos) env = (do let f ← eval (Expr.Name x np) env; callWith pos f [] (backTo pos (starEach (e :: rest) env)) (backToKw pos (keywordEach [] env))) := by rfl)
    (hst : starEach (e :: rest) env = (false, eval e env) :: starEach rest env := by rfl) (hany : ((backTo pos (starEach rest env)).any fun x => x.fst) = false := by rfl) :
    wpAny (model PySem.Challenge.rw_nz0289_01.row.prog w) A (eval ((Expr.Name x np).Call (e :: rest) [] pos) env) Q E s :=
  Call_ (n_glob G hg (callWith_K G.X hkeep (wpAny_mono h (fun _ _ z => ⟨z.1.X, z.2⟩) fun _ _ z => z) hst hany) hgl hk hl hd) hc
end

section
variable {w : World} {A : Around} {E : Value → Shared → Prop} {s : Shared} {env : Env}
theorem sub_list {l : Addr} {items : Array Value} {k : Int} {u : Tok} {x : Value} {value slice : Expr} {Q : Value → Shared → Prop} (hl : s.heap.IsList l items) (h0 : 0 ≤ k) (hhi : k < 2 ^ 63) (hx : items[k.toNat]? = some x) (h : Q x s)
    (hs : subscripted slice false (.ref l) (.int k u) = operate [.ref l, .int k u] (getItem (.ref l) (.int k u)) := by with_unfolding_all rfl) :
    wpAny (model PySem.Challenge.rw_nz0289_01.row.prog w) A (subscriptTail value slice (.ref l) (.int k u)) Q E s :=
  tail_any hl.typeIs slot_list_getitem.lookup (wpAny_getItem_list hl h0 hhi hx h) hs
theorem sub_tup {l : Addr} {items : List Value} {k : Int} {u : Tok} {j : Nat} {x : Value} {value slice : Expr} {Q : Value → Shared → Prop} (hl : s.heap.IsTuple l items.toArray) (hlo : -2 ^ 63 ≤ k) (hhi : k < 2 ^ 63) (hj : seqIndex? k items.length = some j) (hx : items[j]? = some x) (h : Q x s)
    (hs : subscripted slice false (.ref l) (.int k u) = operate [.ref l, .int k u] (getItem (.ref l) (.int k u)) := by with_unfolding_all rfl) :
    wpAny (model PySem.Challenge.rw_nz0289_01.row.prog w) A (subscriptTail value slice (.ref l) (.int k u)) Q E s :=
  item_tupleT hl hlo hhi hj hx h hs
theorem pack {vs : List Value} {n : Nat} {Q : List Value → Shared → Prop} (hh : A.handled = none) (hn : vs.length = n) (hsz : n ≤ 1000) (h : ∀ s', Kp [] s s' → Q vs s') :
    wpAny (model PySem.Challenge.rw_nz0289_01.row.prog w) A (newTuple vs) (fun v s₁ => wpAny (model PySem.Challenge.rw_nz0289_01.row.prog w) A (unpackItems v n none) Q E s₁) E s := by
  subst hn
  refine wpAny_newObj_type ?_ (by show vs.toArray.size ≤ sizeLine; rw [List.size_toArray]; exact szl hsz)
  have ht : (s.heap.push { cls := .type "tuple", data := .seq vs.toArray }).IsTuple s.heap.objs.size vs.toArray := ⟨_, Heap.get?_push_size _ rfl, rfl, _, rfl⟩
  have := wpAny_unpackItems_tuple (prog := PySem.Challenge.rw_nz0289_01.row.prog) (w := w) (E := E) (s := { s with heap := s.heap.push { cls := .type "tuple", data := .seq vs.toArray } }) (Q := Q) hh ht (fun h' he => by
    rw [List.toList_toArray]
    refine h _ ⟨⟨_, _, rfl⟩, fun b o _ e => he b o (fun q => ?_) (Heap.get?_push_of_some _ e)⟩
    have := Heap.lt_size e
    rw [q, Heap.size_push] at this
    exact absurd this (Nat.not_lt.mpr (Nat.le_succ _)))
  rwa [List.size_toArray] at this
/-- a new tuple of written values -/
theorem new_tup {vs : List Value} {Q : Value → Shared → Prop} (hsz : vs.length ≤ 1000) (h : ∀ T s', s.heap.get? T = none → s'.heap.IsTuple T vs.toArray → Kp [] s s' → Q (.ref T) s') :
    wpAny (model PySem.Challenge.rw_nz0289_01.row.prog w) A (newTuple vs) Q E s := by
  refine wpAny_newObj_type (h _ _ ?_ ⟨_, Heap.get?_push_size _ rfl, rfl, _, rfl⟩ Kp.push) (by show vs.toArray.size ≤ sizeLine; rw [List.size_toArray]; exact szl hsz)
  cases e : s.heap.get? s.heap.objs.size with
  | none => rfl
  | some o => exact absurd (Heap.lt_size e) (Nat.lt_irrefl _)
theorem new_list {vs : List Value} {Q : Value → Shared → Prop} (hsz : vs.length ≤ 1000) (h : ∀ T s', s.heap.get? T = none → s'.heap.IsList T vs.toArray → Kp [] s s' → Q (.ref T) s') :
    wpAny (model PySem.Challenge.rw_nz0289_01.row.prog w) A (newList vs) Q E s := by
  refine wpAny_newObj_type (h _ _ ?_ ⟨_, Heap.get?_push_size _ rfl, rfl, _, rfl⟩ Kp.push) (by show vs.toArray.size ≤ sizeLine; rw [List.size_toArray]; exact szl hsz)
  cases e : s.heap.get? s.heap.objs.size with
  | none => rfl
  | some o => exact absurd (Heap.lt_size e) (Nat.lt_irrefl _)
theorem b_loc {s₀ : Shared} {base : Heap} {m : PySem.Str → Option Value} {x : PySem.Str} {v : Value} {Q : Unit → Shared → Prop} (c : Cx w s₀ base env.locals m s) (h : ∀ s', Cx w s₀ base env.locals (upd m x v) s' → Kp [env.locals] s s' → Q () s')
    (hl : env.kindOf x = some .local := by rfl) (hp : (env.scope.kind == .class || (env.scope.kind == .module && env.locals != env.globals)) = false := by rfl) :
    wpAny (model PySem.Challenge.rw_nz0289_01.row.prog w) A (bindName env x v) Q E s :=
  wpAny_bindName (s_loc c h hl hp)
end
theorem rng_small {a b : Int} (ha : -1000000 ≤ a) (ha' : a ≤ 1000000) (hb : -1000000 ≤ b) (hb' : b ≤ 1000000) : Builtin.Range.small a b 1 = true :=
  PySem.small_one (by omega) (by omega) (by omega) (by omega)
theorem rng_size {a b : Int} {n : Nat} (h : b = a + n) : Builtin.Range.rangeSize a b 1 = (n : Int) := by
  subst h
  unfold Builtin.Range.rangeSize
  rw [if_pos (by decide)]
  split
  · rw [Int.ediv_one]; omega
  · omega
theorem rngN (n : Nat) (h : n ≤ 1000) : Builtin.Range.small 0 (n : Int) 1 = true := rng_small (by decide) (by decide) (by omega) (by omega)
theorem rng1N (n : Nat) (h : n ≤ 1000) : Builtin.Range.small 1 ((n : Int) + 1) 1 = true := rng_small (by decide) (by decide) (by omega) (by omega)
theorem rng1E {b : Int} {n : Nat} (e : b = 1 + (n : Int)) (h : n ≤ 1000) : Builtin.Range.small 1 b 1 = true := by rw [e, Int.add_comm]; exact rng1N n h
theorem rszN (n : Nat) : Builtin.Range.rangeSize 0 (n : Int) 1 = (n : Int) := rng_size (Int.zero_add _).symm
theorem rsz1N (n : Nat) : Builtin.Range.rangeSize 1 ((n : Int) + 1) 1 = (n : Int) := rng_size (Int.add_comm _ _)
theorem rngT {a : Int} (h0 : 0 ≤ a) (h : a ≤ 20) : Builtin.Range.small 0 (a + 2) 1 = true := rng_small (by decide) (by decide) (by omega) (by omega)
theorem rszT {a : Int} (h0 : 0 ≤ a) : Builtin.Range.rangeSize 0 (a + 2) 1 = ((a + 2).toNat : Int) := rng_size (by omega)
section
variable {w : World} {A : Around} {E : Value → Shared → Prop} {s : Shared} {Q : Value → Shared → Prop}
theorem mk_range2 {a b : Int} {t u : Tok} (h : ∀ r s' t' u' v', s.heap.get? r = none → IsRange s'.heap r a b 1 t' u' v' → Kp [] s s' → Q (.ref r) s') :
    wpAny (model PySem.Challenge.rw_nz0289_01.row.prog w) A (PySem.call (.type "range") [.int a t, .int b u]) Q E s := by
  refine call_range_2 (h _ _ _ _ _ ?_ (IsRange.new ..) ⟨⟨_, _, rfl⟩, fun _ _ _ e => Heap.get?_push_of_some _ e⟩)
  cases e : s.heap.get? s.heap.objs.size with
  | none => rfl
  | some o => exact absurd (Heap.lt_size e) (Nat.lt_irrefl _)
theorem mk_range1 {b : Int} {u : Tok} (h : ∀ r s' t' u' v', s.heap.get? r = none → IsRange s'.heap r 0 b 1 t' u' v' → Kp [] s s' → Q (.ref r) s') :
    wpAny (model PySem.Challenge.rw_nz0289_01.row.prog w) A (PySem.call (.type "range") [.int b u]) Q E s := by
  refine call_range_1 (h _ _ _ _ _ ?_ (IsRange.new ..) ⟨⟨_, _, rfl⟩, fun _ _ _ e => Heap.get?_push_of_some _ e⟩)
  cases e : s.heap.get? s.heap.objs.size with
  | none => rfl
  | some o => exact absurd (Heap.lt_size e) (Nat.lt_irrefl _)
end
/-- the ints in rising order -/
noncomputable def sortI (l : List Int) : List Int := l.mergeSort fun a b => decide (a ≤ b)
theorem sortI_of {l l' : List Int} (h : l'.Perm l) (hs : l'.Pairwise (· ≤ ·)) : l' = sortI l := by
  refine List.Perm.eq_of_pairwise (le := (· ≤ ·)) (fun a b _ _ h1 h2 => Int.le_antisymm h1 h2) hs ?_ (h.trans (List.mergeSort_perm _ _).symm)
  exact (List.pairwise_mergeSort (le := fun a b : Int => decide (a ≤ b)) (fun a b c h1 h2 => by simp at *; omega) (fun a b => by simp; omega) l).imp fun h => by simpa using h
section
variable {w : World} {A : Around} {E : Value → Shared → Prop} {s : Shared} {Q : Value → Shared → Prop}
theorem fresh_of {h : Heap} {a : Addr} (l : @LE.le Nat _ h.objs.size a) : h.get? a = none := by
  cases e : h.get? a with
  | none => rfl
  | some o => exact absurd (Heap.lt_size e) (Nat.not_lt.mpr l)
theorem c_sorted {l : Addr} {ns : List Int} (hl : Ints s.heap l ns) (h64 : ns.length < 64) (h : ∀ D s', s.heap.get? D = none → Ints s'.heap D (sortI ns) → Kp [] s s' → Q (.ref D) s') :
    wpAny (model PySem.Challenge.rw_nz0289_01.row.prog w) A (PySem.call (.builtin "sorted") [.ref l]) Q E s := by
  obtain ⟨vs, h1, h2⟩ := hl.ints
  refine PyProof.Rows.sorted_ints h1 h2 (by rw [h2.length]; exact h64) fun out ns' a1 a2 a3 => ?_
  obtain ⟨e, he⟩ := PyProof.Rows.sortedAll_at s.heap vs out
  have := sortI_of a2 a3
  subst this
  exact h _ _ (fresh_of (Nat.le_succ _)) (Ints.of (vs := out.toList) ⟨_, he, rfl, _, by rw [Array.toArray_toList]⟩ a1) ⟨⟨_, _, rfl⟩, fun b o _ q => PyProof.Rows.sortedAll_old q⟩
theorem c_len {α : Type} {V : Heap → Value → α → Prop} {l : Addr} {xs : List α} (hl : LOf V s.heap l xs) (hsz : xs.length ≤ 1000000) (h : ∀ t s', Kp [] s s' → Q (.int xs.length t) s') :
    wpAny (model PySem.Challenge.rw_nz0289_01.row.prog w) A (PySem.call (.builtin "len") [.ref l]) Q E s := by
  obtain ⟨vs, h1, h2⟩ := hl
  have hlen : vs.toArray.size = xs.length := by rw [List.size_toArray]; exact Paired.length h2
  refine len_list h1 (by rw [hlen]; omega) ?_
  rw [hlen]
  exact h _ _ Kp.tok
theorem c_min {a b : Int} {t u : Tok} (hh : A.handled = none) (h : ∀ t s', Kp [] s s' → Q (.int (min a b) t) s') :
    wpAny (model PySem.Challenge.rw_nz0289_01.row.prog w) A (PySem.call (.builtin "min") [.int a t, .int b u]) Q E s := by
  refine min_two_ints hh fun h' tk hk => ?_
  have k : Kp [] s { s with heap := h', toks := tk } := ⟨⟨_, _, rfl⟩, fun b o _ e => hk b o e⟩
  by_cases c : b < a
  · rw [if_pos c, show b = min a b by omega]; exact h _ _ k
  · rw [if_neg c]
    have := h t _ k
    rwa [show min a b = a by omega] at this
theorem c_max {a b : Int} {t u : Tok} (hh : A.handled = none) (h : ∀ t s', Kp [] s s' → Q (.int (max a b) t) s') :
    wpAny (model PySem.Challenge.rw_nz0289_01.row.prog w) A (PySem.call (.builtin "max") [.int a t, .int b u]) Q E s := by
  refine max_two_ints hh fun h' tk hk => ?_
  have k : Kp [] s { s with heap := h', toks := tk } := ⟨⟨_, _, rfl⟩, fun b o _ e => hk b o e⟩
  by_cases c : b > a
  · rw [if_pos c, show b = max a b by omega]; exact h _ _ k
  · rw [if_neg c]
    have := h t _ k
    rwa [show max a b = a by omega] at this
end
section
variable {prog : Program} {w : World} {A : Around} {E : Value → Shared → Prop} {env : Env}
/-- a for over a tuple -/
theorem for_tup {α : Type} {V₀ : Heap → Value → α → Prop} {xs : List α} {x : PySem.Str} {px : Pos} {iter : Expr} {body : List Stmt} {pos : Pos} {Y : List Addr} {s : Shared} {Q : Flow → Shared → Prop} (hh : A.handled = none)
    (h : wpAny (model prog w) A (eval iter env) (fun xv s₁ => ∃ ax, ∃ vs : List Value, xv = .ref ax ∧ (hideAll s₁.heap Y).IsTuple ax vs.toArray ∧ Paired (V₀ (hideAll s₁.heap Y)) vs xs ∧ (∀ y ∈ Y, ∃ o, s₁.heap.get? y = some o) ∧ ∃ J : List Addr → Nat → Shared → Prop,
      (∀ I i s s', s₁.heap.get? I = none → J (I :: Y) i s → Kp [I] s s' → J (I :: Y) i s') ∧
      (∀ I s₂, s₁.heap.get? I = none → (∃ o, s₂.heap.get? I = some o) → Kp [] s₁ s₂ → J (I :: Y) 0 s₂) ∧
      (∀ I i a v s (R : Flow → Shared → Prop), (∀ f s₃, (match f with
        | .next | .cont => J (I :: Y) (i + 1) s₃ ∧ Kp Y s s₃
        | .brk => Q .next s₃
        | .ret v => Q (.ret v) s₃) → R f s₃) → s₁.heap.get? I = none → xs[i]? = some a → V₀ (hideAll s₁.heap Y) v a → J (I :: Y) i s → wpAny (model prog w) A (assign (.Name x px) env v) (fun _ s'' => wpAny (model prog w) A (execs body env) R (fun _ _ => False) s'') (fun _ _ => False) s) ∧
      (∀ I s, s₁.heap.get? I = none → J (I :: Y) xs.length s → Q .next s)) E s)
    (hs : ∀ x, foldedSetIterable iter env x = pure x) :
    wpAny (model prog w) A (exec (.For (.Name x px) iter body [] pos) env) Q E s := by
  refine wpAny_For (wpAny_mono h (fun xv s₁ h₁ => ?_) fun _ _ e => e) hs
  obtain ⟨ax, vs, rfl, hl, hp, hY, J, stab, start, turn, done⟩ := h₁
  have hl1 : s₁.heap.IsTuple ax vs.toArray := hl.at fun o e => of_hideAll Y e
  have hlt : @LT.lt Nat _ ax s₁.heap.objs.size := by obtain ⟨_, e, _⟩ := hl1; exact Heap.lt_size e
  have hlen : vs.toArray.size = xs.length := by rw [List.size_toArray]; exact Paired.length hp
  have W := Walks.tuple (prog := prog) (w := w) hh s₁.heap.objs.size ax (Nat.ne_of_lt hlt) vs.toArray
  rw [hlen] at W
  have fresh := fresh_of (h := s₁.heap) (Nat.le_refl _)
  refine wpAny_pyIter_tuple hl1 (for_core (Y := Y) W ⟨⟨_, Heap.get?_push_size _ rfl, rfl, rfl⟩, hl1.at fun o e => Heap.get?_push_of_some _ e⟩ (fun b hb m => ?_) (J (s₁.heap.objs.size :: Y)) (fun i s s' hJ k => stab _ _ _ _ fresh hJ k) (start _ _ fresh ⟨_, Heap.get?_push_size _ rfl⟩ Kp.push) (fun i v s hi hv hJ hs => ?_) fun s hJ => done _ _ fresh hJ)
  · rcases List.mem_cons.mp hb with rfl | hb
    · obtain ⟨o, e⟩ := hY _ m; rw [fresh] at e; cases e
    · rw [List.mem_singleton.mp hb] at m
      obtain ⟨o, e, _⟩ := hl
      exact hid_off e m
  · have hv' : vs[i]? = some v := by simpa using hv
    obtain ⟨a, ha, hva⟩ := Paired.get hp i v hv'
    exact wpAny_of_eq (show letOwnedTupleGo (.Name x px) (.ref s₁.heap.objs.size) v = pure () by rfl) (turn _ i a v s _ (fun _ _ z => z) fresh ha hva hJ)
end
theorem nm1 {a b : Addr} (h : a ≠ b) : a ∉ [b] := fun m => h (List.mem_singleton.mp m)
theorem ns_ne_tup {h : Heap} {L T : Addr} {m : PySem.Str → Option Value} {items : Array Value} (hn : h.Ns L m) (ht : h.IsTuple T items) : T ≠ L := by
  rintro rfl
  obtain ⟨o, es, ep, e, hd, _⟩ := hn
  obtain ⟨o', e', _, n, hd'⟩ := ht
  rw [e] at e'; cases e'; rw [hd] at hd'; cases hd'
theorem ns_ne_list {h : Heap} {L T : Addr} {m : PySem.Str → Option Value} {items : Array Value} (hn : h.Ns L m) (ht : h.IsList T items) : T ≠ L := by
  rintro rfl
  obtain ⟨o, es, ep, e, hd, _⟩ := hn
  obtain ⟨o', e', _, n, hd'⟩ := ht
  rw [e] at e'; cases e'; rw [hd] at hd'; cases hd'
theorem Cx.tok {w : World} {s₀ : Shared} {base : Heap} {L : Addr} {m : PySem.Str → Option Value} {s : Shared} (c : Cx w s₀ base L m s) {tk : Nat} : Cx w s₀ base L m { s with toks := tk } := c.keep0 Kp.tok
theorem Cx.congr {w : World} {s₀ : Shared} {base : Heap} {L : Addr} {m m' : PySem.Str → Option Value} {s : Shared} (c : Cx w s₀ base L m s) (e : ∀ y, m y = m' y) : Cx w s₀ base L m' s := (funext e : m = m') ▸ c
end Mine
end
section
open PySem PySem.W PySem.Calls PyProof.Rows
namespace Mine

def LetAt (h : Heap) (x : Addr) (u : Int) : Prop := ∃ dx m k t, h.get? x = some (instObj 113 dx) ∧ DAt h dx m k ∧ m (PySem.Str.ofString "uid") = some (.int u t)
def LetV (h : Heap) (v : Value) (u : Int) : Prop := ∃ x, v = .ref x ∧ LetAt h x u
theorem LetV.upp : Up LetV := fun _ _ _ _ h k => h.imp fun _ h => ⟨h.1, h.2.imp fun _ h => h.imp fun _ h => h.imp fun _ h => h.imp fun _ h => ⟨k _ _ h.1, h.2.1.keep fun _ q => k _ _ q, h.2.2⟩⟩


theorem a_uid (P : Params) : AttrOk (Mine.hd.heap_39 P) 113 (PySem.Str.ofString "uid") := ⟨by k_is, by k_is, by k_is, by k_is, by k_is, by k_is⟩
theorem LetAt.get {w : World} {A : Around} {E : Value → Shared → Prop} {s : Shared} {x : Addr} {u : Int} {expr : Bool} {Q : Value → Shared → Prop} (G : Gr w s.heap) (hx : LetAt s.heap x u) (h : ∀ t s', Kp [] s s' → Q (.int u t) s') :
    wpAny (model PySem.Challenge.rw_nz0289_01.row.prog w) A (getAttr (.ref x) (PySem.Str.ofString "uid") expr) Q E s := by
  obtain ⟨dx, m, k, t, h1, h2, h3⟩ := hx
  exact attr_get G h1 h2 (a_uid _) h3 rfl (fun s' k => h t s' k)

/-- the binary search's answer is below nought exactly where the number is not there -/
structure Srch (us : List Int) (u lo hi : Int) : Prop where
  h0 : 0 ≤ lo
  h1 : lo ≤ hi
  h2 : hi ≤ us.length
  low : ∀ (i : Nat) v, us[i]? = some v → (i : Int) < lo → v < u
  high : ∀ (i : Nat) v, us[i]? = some v → hi ≤ (i : Int) → u ≤ v

theorem toN_lt {a : Int} {n : Nat} (h0 : 0 ≤ a) (h : a < (n : Int)) : a.toNat < n := by omega
theorem n63 {n : Nat} (h : n ≤ 1000) : (n : Int) < 2 ^ 63 := by omega
theorem mid_of {lo hi md : Int} (h : lo < hi) (e : (lo + hi) / 2 = md) : lo ≤ md ∧ md < hi := by omega
theorem toN_sub {k : Nat} {a b : Int} (h0 : a ≤ b) (h : b - a < (k : Int)) : (b - a).toNat < k ∧ ((b - a).toNat : Int) = b - a := by omega
namespace Srch
variable {us : List Int} {u lo hi md a : Int}
theorem start (us : List Int) (u : Int) : Srch us u 0 us.length :=
  ⟨Int.le_refl _, Int.natCast_nonneg _, Int.le_refl _, fun i v _ h => absurd h (Int.not_lt.mpr (Int.natCast_nonneg i)), fun i v h h' => absurd (Int.ofNat_le.mp h') (Nat.not_le.mpr (List.getElem?_eq_some_iff.mp h).1)⟩
theorem at_ (hso : us.Pairwise (· < ·)) {i j : Nat} {v w : Int} (hi : us[i]? = some v) (hj : us[j]? = some w) : (i < j → v < w) ∧ (i = j → v = w) := by
  obtain ⟨hi1, hi2⟩ := List.getElem?_eq_some_iff.mp hi
  obtain ⟨hj1, hj2⟩ := List.getElem?_eq_some_iff.mp hj
  refine ⟨fun h => ?_, fun h => ?_⟩
  · rw [← hi2, ← hj2]; exact List.pairwise_iff_getElem.mp hso i j hi1 hj1 h
  · rw [h, hj] at hi; cases hi; rfl
theorem toN_cases {i : Nat} {a : Int} (h0 : 0 ≤ a) : ((i : Int) < a → i < a.toNat) ∧ (a < (i : Int) → a.toNat < i) ∧ (a = (i : Int) → a.toNat = i) := by omega
theorem up (hso : us.Pairwise (· < ·)) (S : Srch us u lo hi) (h1 : lo ≤ md) (h2 : md < hi) (ha : us[md.toNat]? = some a) (h : a < u) : Srch us u (md + 1) hi := by
  have m0 := Int.le_trans S.h0 h1
  refine ⟨Int.le_trans m0 (Int.le_of_lt (Int.lt_succ _)), h2, S.h2, fun i v hv hi => ?_, S.high⟩
  have c := toN_cases (i := i) m0
  have q := at_ hso hv ha
  rcases Int.lt_or_eq_of_le (Int.lt_add_one_iff.mp hi) with e | e
  · exact Int.lt_trans (q.1 (c.1 e)) h
  · rw [q.2 (c.2.2 e.symm).symm]; exact h
theorem down (hso : us.Pairwise (· < ·)) (S : Srch us u lo hi) (h1 : lo ≤ md) (h2 : md < hi) (ha : us[md.toNat]? = some a) (h : ¬ a < u) : Srch us u lo md := by
  have m0 := Int.le_trans S.h0 h1
  refine ⟨S.h0, h1, Int.le_trans (Int.le_of_lt h2) S.h2, S.low, fun i v hv hi => ?_⟩
  have c := toN_cases (i := i) m0
  have q := at_ hso ha hv
  rcases Int.lt_or_eq_of_le hi with e | e
  · exact Int.le_trans (Int.not_lt.mp h) (Int.le_of_lt (q.1 (c.2.1 e)))
  · rw [← q.2 (c.2.2 e)]; exact Int.not_lt.mp h
theorem no (hso : us.Pairwise (· < ·)) (S : Srch us u lo lo) (hn : ¬ (lo < (us.length : Int) ∧ us[lo.toNat]? = some u)) : u ∉ us := fun hm => by
  obtain ⟨i, hi, he⟩ := List.getElem_of_mem hm
  have hg : us[i]? = some u := by rw [List.getElem?_eq_getElem hi, he]
  have c := toN_cases (i := i) S.h0
  rcases Int.lt_or_le i lo with h | h
  · exact Int.lt_irrefl _ (S.low i u hg h)
  · rcases Int.lt_or_eq_of_le h with h' | h'
    · have hlt := c.2.1 h'
      have hlo := Nat.lt_trans hlt hi
      have e1 := List.getElem?_eq_getElem hlo
      exact Int.lt_irrefl _ (Int.lt_of_le_of_lt (S.high lo.toNat us[lo.toNat] e1 (Int.self_le_toNat lo)) ((at_ hso e1 hg).1 hlt))
    · exact hn ⟨h' ▸ Int.ofNat_lt.mpr hi, by rw [c.2.2 h']; exact hg⟩
end Srch

set_option maxHeartbeats 4000000 in
theorem place_of_c {w : World} {A : Around} {s : Shared} {l : Addr} {us : List Int} {u : Int} {t : Tok} (G : Gr w s.heap) (hroom : A.depth < recursionLimit) (hh : A.handled = none) (hl : LOf LetV s.heap l us) (hsz : us.length ≤ 1000) (hso : us.Pairwise (· < ·)) :
    wpAny (model PySem.Challenge.rw_nz0289_01.row.prog w) A (PySem.call (.ref 162) [.ref l, .int u t]) (fun v s' => (∃ r t', v = .int r t' ∧ (r < 0 ↔ u ∉ us)) ∧ Kp [] s s') (fun _ _ => False) s := by
  refine enter (binds := [(PySem.Str.ofString "letters", .ref l), (PySem.Str.ofString "uid", .int u t)]) [] G G (by k_is) (by k_is) hroom (BindsTo.of_eq rfl) (locs rfl) ?_ (by decide) rfl rfl rfl
  intro L s1 c k1 hL
  refine hideR fun RZ hRZ => ?_
  have hl0 := hl
  obtain ⟨vs, hlv, hp⟩ := hl
  have hlen : vs.toArray.size = us.length := by rw [List.size_toArray]; exact Paired.length hp
  refine wpAny_execs_cons ?_
  refine Assign_Tuple_swapped (names := [PySem.Str.ofString "low", PySem.Str.ofString "high"]) (Tuple_ (spliced_more (wpAny_Constant_int (spliced_more (cb1 c.Gs (by k_is) rfl (n_loc c.F.ns rfl (len_list (hlv.at fun o e => k1.keep _ _ e) (by rw [hlen]; exact n63 hsz) (spliced_none (pack hh rfl (by decide) ?_))))))))) (by rfl) (by rfl)
  intro s2 k2
  have c2 := c.tok.keep0 k2
  refine assignInOrder_cons (b_loc c2 fun s3 c3 k3 => assignInOrder_cons (b_loc c3 fun s4 c4 k4 => assignInOrder_nil ?_))
  clear k2 k3 k4 c2 c3
  rw [hlen] at c4
  refine wpAny_execs_cons (wpAny_While (codeAny_whileLoop (fun k s' => ∃ m lo hi tl th, Cx w s s.heap L m s' ∧ m (PySem.Str.ofString "letters") = some (.ref l) ∧ m (PySem.Str.ofString "uid") = some (.int u t) ∧ m (PySem.Str.ofString "low") = some (.int lo tl) ∧ m (PySem.Str.ofString "high") = some (.int hi th) ∧ Srch us u lo hi ∧ (k : Int) = hi - lo) ?_ us.length
    ⟨_, 0, us.length, _, _, c4, rfl, rfl, rfl, rfl, Srch.start us u, (Int.sub_zero _).symm⟩))
  rintro k s5 ⟨m, lo, hi, tl, th, c5, e1, e2, e3, e4, S, hk⟩
  refine wpAny_isTrue_Compare1 (n_loc c5.F.ns e3 (n_loc c5.F.ns e4 (lt_int (wpAny_truthy_bool ?_)))) rfl
  have hl5 : s5.heap.IsList l vs.toArray := hlv.at fun o e => c5.F.keep _ _ e
  by_cases hlt : lo < hi
  · refine if_t (decide_eq_true hlt) ?_
    refine wpAny_execs_cons (wpAny_Assign_Name (wpAny_BinOp (wpAny_BinOp (n_loc c5.F.ns e3 (n_loc c5.F.ns e4 (add_int (wpAny_Constant_int (floordiv_int (by decide) (s_loc c5.tok fun s6 c6 k6 => ?_) (.inl (PyProof.noPylong_small (by decide))))))))))  rfl)
    have hmid : (lo + hi).fdiv 2 = (lo + hi) / 2 := Int.fdiv_eq_ediv_of_nonneg _ (by decide)
    rw [hmid] at c6
    generalize hmd : (lo + hi) / 2 = md at c6
    obtain ⟨hm1, hm2⟩ := mid_of hlt hmd
    have hm0 := Int.le_trans S.h0 hm1
    have hml := Int.lt_of_lt_of_le hm2 S.h2
    have hmu : md.toNat < us.length := toN_lt hm0 hml
    obtain ⟨v, hv⟩ : ∃ v, vs[md.toNat]? = some v := ⟨_, List.getElem?_eq_getElem (by rw [Paired.length hp]; exact hmu)⟩
    obtain ⟨a, ha, x, rfl, hx⟩ := Paired.get hp _ _ hv
    have hl6 : s6.heap.IsList l vs.toArray := hlv.at fun o e => c6.F.keep _ _ e
    refine wpAny_execs_cons (wpAny_If (wpAny_isTrue_Compare1 ?_))
    refine Attribute_any_ (Subscript_ (n_loc c6.F.ns (v := .ref l) (by (repeat first | assumption | exact upd_self _ _ _ | exact cset_self _ _ _ | refine (upd_ne _ _ _ _ (by decide)).trans ?_ | refine (cset_ne _ _ _ _ (by decide)).trans ?_ | rfl)) ?_))
    refine n_loc c6.F.ns (v := .int md _) (by (repeat first | assumption | exact upd_self _ _ _ | exact cset_self _ _ _ | refine (upd_ne _ _ _ _ (by decide)).trans ?_ | refine (cset_ne _ _ _ _ (by decide)).trans ?_ | rfl)) (sub_list hl6 hm0 (Int.lt_trans hml (n63 hsz)) (by simpa using hv) ?_)
    refine LetAt.get c6.Gs (by obtain ⟨x', e', r⟩ := LetV.upp _ _ _ _ ⟨x, rfl, hx⟩ c6.F.keep; cases e'; exact r) fun ta s7 k7 => ?_
    have c7 := c6.keep0 k7
    refine n_loc c7.F.ns (v := .int u t) (by (repeat first | assumption | exact upd_self _ _ _ | exact cset_self _ _ _ | refine (upd_ne _ _ _ _ (by decide)).trans ?_ | refine (cset_ne _ _ _ _ (by decide)).trans ?_ | rfl)) (lt_int (wpAny_truthy_bool ?_))
    by_cases hau : a < u
    · refine if_t (decide_eq_true hau) ?_
      refine wpAny_execs_cons (wpAny_Assign_Name (wpAny_BinOp (n_loc c7.F.ns (v := .int md _) (by (repeat first | assumption | exact upd_self _ _ _ | exact cset_self _ _ _ | refine (upd_ne _ _ _ _ (by decide)).trans ?_ | refine (cset_ne _ _ _ _ (by decide)).trans ?_ | rfl)) (wpAny_Constant_int (add_int (s_loc c7.tok fun s8 c8 k8 => wpAny_execs_nil (wpAny_execs_nil ?_)))))) rfl)
      have kk := toN_sub (k := k) (a := md + 1) (b := hi) hm2 (by rw [hk]; exact Int.sub_lt_sub_left (Int.lt_add_one_of_le hm1) hi)
      exact ⟨(hi - (md + 1)).toNat, kk.1, _, md + 1, hi, _, th, c8, by (repeat first | assumption | exact upd_self _ _ _ | exact cset_self _ _ _ | refine (upd_ne _ _ _ _ (by decide)).trans ?_ | refine (cset_ne _ _ _ _ (by decide)).trans ?_ | rfl), by (repeat first | assumption | exact upd_self _ _ _ | exact cset_self _ _ _ | refine (upd_ne _ _ _ _ (by decide)).trans ?_ | refine (cset_ne _ _ _ _ (by decide)).trans ?_ | rfl), by (repeat first | assumption | exact upd_self _ _ _ | exact cset_self _ _ _ | refine (upd_ne _ _ _ _ (by decide)).trans ?_ | refine (cset_ne _ _ _ _ (by decide)).trans ?_ | rfl), by (repeat first | assumption | exact upd_self _ _ _ | exact cset_self _ _ _ | refine (upd_ne _ _ _ _ (by decide)).trans ?_ | refine (cset_ne _ _ _ _ (by decide)).trans ?_ | rfl), S.up hso hm1 hm2 ha hau, kk.2⟩
    · refine if_f (decide_eq_false hau) ?_
      refine wpAny_execs_cons (wpAny_Assign_Name (n_loc c7.F.ns (v := .int md _) (by (repeat first | assumption | exact upd_self _ _ _ | exact cset_self _ _ _ | refine (upd_ne _ _ _ _ (by decide)).trans ?_ | refine (cset_ne _ _ _ _ (by decide)).trans ?_ | rfl)) (s_loc c7 fun s8 c8 k8 => wpAny_execs_nil (wpAny_execs_nil ?_))) rfl)
      have kk := toN_sub (k := k) (a := lo) (b := md) hm1 (by rw [hk]; exact Int.sub_lt_sub_right hm2 lo)
      exact ⟨(md - lo).toNat, kk.1, _, lo, md, tl, _, c8, by (repeat first | assumption | exact upd_self _ _ _ | exact cset_self _ _ _ | refine (upd_ne _ _ _ _ (by decide)).trans ?_ | refine (cset_ne _ _ _ _ (by decide)).trans ?_ | rfl), by (repeat first | assumption | exact upd_self _ _ _ | exact cset_self _ _ _ | refine (upd_ne _ _ _ _ (by decide)).trans ?_ | refine (cset_ne _ _ _ _ (by decide)).trans ?_ | rfl), by (repeat first | assumption | exact upd_self _ _ _ | exact cset_self _ _ _ | refine (upd_ne _ _ _ _ (by decide)).trans ?_ | refine (cset_ne _ _ _ _ (by decide)).trans ?_ | rfl), by (repeat first | assumption | exact upd_self _ _ _ | exact cset_self _ _ _ | refine (upd_ne _ _ _ _ (by decide)).trans ?_ | refine (cset_ne _ _ _ _ (by decide)).trans ?_ | rfl), S.down hso hm1 hm2 ha hau, kk.2⟩
  · refine if_f (decide_eq_false hlt) ?_
    obtain rfl : lo = hi := Int.le_antisymm S.h1 (Int.not_lt.mp hlt)
    refine wpAny_execs_nil (wpAny_execs_cons (wpAny_If (isTrue_and (wpAny_isTrue_Compare1 ?_))))
    refine n_loc c5.F.ns e3 (cb1 c5.Gs (by k_is) rfl (n_loc c5.F.ns e1 (len_list hl5 (by rw [hlen]; exact n63 hsz) (lt_int (wpAny_truthy_bool ?_)))))
    rw [hlen]
    have no := S.no hso
    by_cases hll : lo < (us.length : Int)
    · refine if_t (decide_eq_true hll) ?_
      have hmu : lo.toNat < us.length := toN_lt S.h0 hll
      obtain ⟨v, hv⟩ : ∃ v, vs[lo.toNat]? = some v := ⟨_, List.getElem?_eq_getElem (by rw [Paired.length hp]; exact hmu)⟩
      obtain ⟨a, ha, x, rfl, hx⟩ := Paired.get hp _ _ hv
      refine isTrue_and (wpAny_isTrue_Compare1 (Attribute_any_ (Subscript_ (n_loc c5.F.ns e1 (n_loc c5.F.ns e3 (sub_list hl5 S.h0 (Int.lt_trans hll (n63 hsz)) (by simpa using hv) ?_))))))
      refine LetAt.get c5.Gs (by obtain ⟨x', e', r⟩ := LetV.upp _ _ _ _ ⟨x, rfl, hx⟩ c5.F.keep; cases e'; exact r) fun ta s7 k7 => ?_
      have c7 := c5.tok.keep0 k7
      refine n_loc c7.F.ns (v := .int u t) e2 (eq_int (wpAny_truthy_bool ?_))
      by_cases hau : a = u
      · subst hau
        rw [beq_self_eq_true, if_pos rfl]
        refine isTrue_and_nil ?_
        refine if_t rfl ?_
        refine wpAny_execs_cons (wpAny_Return_some (n_loc c7.F.ns e3 ?_))
        exact hRZ _ _ ⟨⟨lo, _, rfl, ⟨fun h => absurd h (Int.not_lt.mpr S.h0), fun h => absurd (List.mem_of_getElem? ha) h⟩⟩, c7.kp0⟩
      · refine if_f (beq_eq_false_iff_ne.mpr hau) ?_
        refine wpAny_execs_nil (wpAny_execs_cons (wpAny_Return_some (wpAny_UnaryOp (wpAny_Constant_int (neg_int ?_)))))
        exact hRZ _ _ ⟨⟨-1, _, rfl, ⟨fun _ => no fun ⟨_, q⟩ => hau (by rw [ha] at q; exact Option.some.inj q), fun _ => by decide⟩⟩, c7.tok.kp0⟩
    · refine if_f (decide_eq_false hll) ?_
      refine wpAny_execs_nil (wpAny_execs_cons (wpAny_Return_some (wpAny_UnaryOp (wpAny_Constant_int (neg_int ?_)))))
      exact hRZ _ _ ⟨⟨-1, _, rfl, ⟨fun _ => no fun ⟨q, _⟩ => hll q, fun _ => by decide⟩⟩, c5.tok.kp0⟩
end Mine
end
section
open PySem PySem.W PySem.Calls PyProof.Rows
namespace Mine
theorem Gr.out {w : World} {h : Heap} {X : List Addr} (g : Gr w (hideAll h X)) : Gr w h := g.keeps fun b o e => of_hideAll X e
theorem Cx.gx {w : World} {s₀ : Shared} {base : Heap} {L : Addr} {m : PySem.Str → Option Value} {s : Shared} (c : Cx w s₀ base L m s) {X : List Addr} (hX : ∀ x ∈ X, base.get? x = none) : Gr w (hideAll s.heap X) :=
  c.G.keeps fun b o e => hideAll_get X (c.F.keep b o e) fun m => by rw [hX b m] at e; cases e

/-- what the box's map says -/
structure BoxM (m : PySem.Str → Option Value) (nu top fl : Int) (l g : Addr) : Prop where
  nu : ∃ t, m (PySem.Str.ofString "next_uid") = some (.int nu t)
  top : ∃ t, m (PySem.Str.ofString "top") = some (.int top t)
  fl : ∃ t, m (PySem.Str.ofString "floor") = some (.int fl t)
  l : m (PySem.Str.ofString "letters") = some (.ref l)
  g : m (PySem.Str.ofString "gone") = some (.ref g)
  noU : m (PySem.Str.ofString "uids") = none
/-- a box: its dict at d -/
def BoxAt (h : Heap) (bx d : Addr) (nu top fl : Int) (l g : Addr) : Prop := h.get? bx = some (instObj 151 d) ∧ ∃ m, DAt h d m 7 ∧ BoxM m nu top fl l g
theorem BoxAt.keep {h h' : Heap} {bx d nu top fl l g} (x : BoxAt h bx d nu top fl l g) (k : ∀ b o, h.get? b = some o → h'.get? b = some o) : BoxAt h' bx d nu top fl l g :=
  let ⟨a, m, b, c⟩ := x; ⟨k _ _ a, m, b.keep fun _ q => k _ _ q, c⟩
theorem BoxAt.kp {X : List Addr} {s s' : Shared} {bx d nu top fl l g} (x : BoxAt s.heap bx d nu top fl l g) (k : Kp X s s') (h1 : bx ∉ X) (h2 : d ∉ X) : BoxAt s'.heap bx d nu top fl l g :=
  let ⟨a, m, b, c⟩ := x; ⟨k.get a h1, m, b.kp k h2, c⟩
theorem BoxAt.ne {h : Heap} {bx d nu top fl l g} (x : BoxAt h bx d nu top fl l g) : bx ≠ d := by
  rintro rfl
  obtain ⟨a, m, ⟨es, n, b, _⟩, _⟩ := x
  rw [a] at b
  have := congrArg (fun o => o.map (·.cls)) b
  cases this

theorem b_next (P : Params) : AttrOk (Mine.hd.heap_39 P) 151 (PySem.Str.ofString "next_uid") := ⟨by k_is, by k_is, by k_is, by k_is, by k_is, by k_is⟩
theorem b_top (P : Params) : AttrOk (Mine.hd.heap_39 P) 151 (PySem.Str.ofString "top") := ⟨by k_is, by k_is, by k_is, by k_is, by k_is, by k_is⟩
theorem b_floor (P : Params) : AttrOk (Mine.hd.heap_39 P) 151 (PySem.Str.ofString "floor") := ⟨by k_is, by k_is, by k_is, by k_is, by k_is, by k_is⟩
theorem b_letters (P : Params) : AttrOk (Mine.hd.heap_39 P) 151 (PySem.Str.ofString "letters") := ⟨by k_is, by k_is, by k_is, by k_is, by k_is, by k_is⟩
theorem b_gone (P : Params) : AttrOk (Mine.hd.heap_39 P) 151 (PySem.Str.ofString "gone") := ⟨by k_is, by k_is, by k_is, by k_is, by k_is, by k_is⟩

section
variable {w : World} {A : Around} {E : Value → Shared → Prop} {s : Shared} {bx d l g : Addr} {nu top fl : Int} {expr : Bool} {Q : Value → Shared → Prop}
theorem BoxAt.get_nu (x : BoxAt s.heap bx d nu top fl l g) (G : Gr w s.heap) (h : ∀ t s', Kp [] s s' → Q (.int nu t) s') : wpAny (model PySem.Challenge.rw_nz0289_01.row.prog w) A (getAttr (.ref bx) (PySem.Str.ofString "next_uid") expr) Q E s := by
  obtain ⟨a, m, b, c⟩ := x
  obtain ⟨t, e⟩ := c.nu
  exact attr_get G a b (b_next _) e rfl fun s' k => h t s' k
theorem BoxAt.get_top (x : BoxAt s.heap bx d nu top fl l g) (G : Gr w s.heap) (h : ∀ t s', Kp [] s s' → Q (.int top t) s') : wpAny (model PySem.Challenge.rw_nz0289_01.row.prog w) A (getAttr (.ref bx) (PySem.Str.ofString "top") expr) Q E s := by
  obtain ⟨a, m, b, c⟩ := x
  obtain ⟨t, e⟩ := c.top
  exact attr_get G a b (b_top _) e rfl fun s' k => h t s' k
theorem BoxAt.get_fl (x : BoxAt s.heap bx d nu top fl l g) (G : Gr w s.heap) (h : ∀ t s', Kp [] s s' → Q (.int fl t) s') : wpAny (model PySem.Challenge.rw_nz0289_01.row.prog w) A (getAttr (.ref bx) (PySem.Str.ofString "floor") expr) Q E s := by
  obtain ⟨a, m, b, c⟩ := x
  obtain ⟨t, e⟩ := c.fl
  exact attr_get G a b (b_floor _) e rfl fun s' k => h t s' k
theorem BoxAt.get_l (x : BoxAt s.heap bx d nu top fl l g) (G : Gr w s.heap) (h : ∀ s', Kp [] s s' → Q (.ref l) s') : wpAny (model PySem.Challenge.rw_nz0289_01.row.prog w) A (getAttr (.ref bx) (PySem.Str.ofString "letters") expr) Q E s := by
  obtain ⟨a, m, b, c⟩ := x
  exact attr_get G a b (b_letters _) c.l rfl fun s' k => h s' k
theorem BoxAt.get_g (x : BoxAt s.heap bx d nu top fl l g) (G : Gr w s.heap) (h : ∀ s', Kp [] s s' → Q (.ref g) s') : wpAny (model PySem.Challenge.rw_nz0289_01.row.prog w) A (getAttr (.ref bx) (PySem.Str.ofString "gone") expr) Q E s := by
  obtain ⟨a, m, b, c⟩ := x
  exact attr_get G a b (b_gone _) c.g rfl fun s' k => h s' k
end
section
variable {w : World} {A : Around} {E : Value → Shared → Prop} {s : Shared} {bx d l g : Addr} {nu top fl : Int} {Q : Unit → Shared → Prop}
theorem BoxAt.set_nu {v : Int} {t : Tok} (x : BoxAt s.heap bx d nu top fl l g) (G : Gr w s.heap) (h : ∀ s', BoxAt s'.heap bx d v top fl l g → Kp [d] s s' → Q () s') : wpAny (model PySem.Challenge.rw_nz0289_01.row.prog w) A (setAttr (.ref bx) (PySem.Str.ofString "next_uid") (.int v t)) Q E s := by
  have hne := x.ne
  obtain ⟨a, m, b, c⟩ := x
  obtain ⟨t', e⟩ := c.nu
  refine attr_set G a b (b_next _) (by decide) fun s' hd k => h s' ⟨k.get a (by simpa using hne), _, by rw [e] at hd; exact hd, ⟨_, by (repeat first | assumption | exact upd_self _ _ _ | exact cset_self _ _ _ | refine (upd_ne _ _ _ _ (by decide)).trans ?_ | refine (cset_ne _ _ _ _ (by decide)).trans ?_ | rfl)⟩, ?_, ?_, ?_, ?_, ?_⟩ k
  · obtain ⟨u, e⟩ := c.top; exact ⟨u, by (repeat first | assumption | exact upd_self _ _ _ | exact cset_self _ _ _ | refine (upd_ne _ _ _ _ (by decide)).trans ?_ | refine (cset_ne _ _ _ _ (by decide)).trans ?_ | rfl)⟩
  · obtain ⟨u, e⟩ := c.fl; exact ⟨u, by (repeat first | assumption | exact upd_self _ _ _ | exact cset_self _ _ _ | refine (upd_ne _ _ _ _ (by decide)).trans ?_ | refine (cset_ne _ _ _ _ (by decide)).trans ?_ | rfl)⟩
  · have := c.l; (repeat first | assumption | exact upd_self _ _ _ | exact cset_self _ _ _ | refine (upd_ne _ _ _ _ (by decide)).trans ?_ | refine (cset_ne _ _ _ _ (by decide)).trans ?_ | rfl)
  · have := c.g; (repeat first | assumption | exact upd_self _ _ _ | exact cset_self _ _ _ | refine (upd_ne _ _ _ _ (by decide)).trans ?_ | refine (cset_ne _ _ _ _ (by decide)).trans ?_ | rfl)
  · have := c.noU; (repeat first | assumption | exact upd_self _ _ _ | exact cset_self _ _ _ | refine (upd_ne _ _ _ _ (by decide)).trans ?_ | refine (cset_ne _ _ _ _ (by decide)).trans ?_ | rfl)
theorem BoxAt.set_top {v : Int} {t : Tok} (x : BoxAt s.heap bx d nu top fl l g) (G : Gr w s.heap) (h : ∀ s', BoxAt s'.heap bx d nu v fl l g → Kp [d] s s' → Q () s') : wpAny (model PySem.Challenge.rw_nz0289_01.row.prog w) A (setAttr (.ref bx) (PySem.Str.ofString "top") (.int v t)) Q E s := by
  have hne := x.ne
  obtain ⟨a, m, b, c⟩ := x
  obtain ⟨t', e⟩ := c.top
  refine attr_set G a b (b_top _) (by decide) fun s' hd k => h s' ⟨k.get a (by simpa using hne), _, by rw [e] at hd; exact hd, ?_, ⟨_, by (repeat first | assumption | exact upd_self _ _ _ | exact cset_self _ _ _ | refine (upd_ne _ _ _ _ (by decide)).trans ?_ | refine (cset_ne _ _ _ _ (by decide)).trans ?_ | rfl)⟩, ?_, ?_, ?_, ?_⟩ k
  · obtain ⟨u, e⟩ := c.nu; exact ⟨u, by (repeat first | assumption | exact upd_self _ _ _ | exact cset_self _ _ _ | refine (upd_ne _ _ _ _ (by decide)).trans ?_ | refine (cset_ne _ _ _ _ (by decide)).trans ?_ | rfl)⟩
  · obtain ⟨u, e⟩ := c.fl; exact ⟨u, by (repeat first | assumption | exact upd_self _ _ _ | exact cset_self _ _ _ | refine (upd_ne _ _ _ _ (by decide)).trans ?_ | refine (cset_ne _ _ _ _ (by decide)).trans ?_ | rfl)⟩
  · have := c.l; (repeat first | assumption | exact upd_self _ _ _ | exact cset_self _ _ _ | refine (upd_ne _ _ _ _ (by decide)).trans ?_ | refine (cset_ne _ _ _ _ (by decide)).trans ?_ | rfl)
  · have := c.g; (repeat first | assumption | exact upd_self _ _ _ | exact cset_self _ _ _ | refine (upd_ne _ _ _ _ (by decide)).trans ?_ | refine (cset_ne _ _ _ _ (by decide)).trans ?_ | rfl)
  · have := c.noU; (repeat first | assumption | exact upd_self _ _ _ | exact cset_self _ _ _ | refine (upd_ne _ _ _ _ (by decide)).trans ?_ | refine (cset_ne _ _ _ _ (by decide)).trans ?_ | rfl)
theorem BoxAt.set_fl {v : Int} {t : Tok} (x : BoxAt s.heap bx d nu top fl l g) (G : Gr w s.heap) (h : ∀ s', BoxAt s'.heap bx d nu top v l g → Kp [d] s s' → Q () s') : wpAny (model PySem.Challenge.rw_nz0289_01.row.prog w) A (setAttr (.ref bx) (PySem.Str.ofString "floor") (.int v t)) Q E s := by
  have hne := x.ne
  obtain ⟨a, m, b, c⟩ := x
  obtain ⟨t', e⟩ := c.fl
  refine attr_set G a b (b_floor _) (by decide) fun s' hd k => h s' ⟨k.get a (by simpa using hne), _, by rw [e] at hd; exact hd, ?_, ?_, ⟨_, by (repeat first | assumption | exact upd_self _ _ _ | exact cset_self _ _ _ | refine (upd_ne _ _ _ _ (by decide)).trans ?_ | refine (cset_ne _ _ _ _ (by decide)).trans ?_ | rfl)⟩, ?_, ?_, ?_⟩ k
  · obtain ⟨u, e⟩ := c.nu; exact ⟨u, by (repeat first | assumption | exact upd_self _ _ _ | exact cset_self _ _ _ | refine (upd_ne _ _ _ _ (by decide)).trans ?_ | refine (cset_ne _ _ _ _ (by decide)).trans ?_ | rfl)⟩
  · obtain ⟨u, e⟩ := c.top; exact ⟨u, by (repeat first | assumption | exact upd_self _ _ _ | exact cset_self _ _ _ | refine (upd_ne _ _ _ _ (by decide)).trans ?_ | refine (cset_ne _ _ _ _ (by decide)).trans ?_ | rfl)⟩
  · have := c.l; (repeat first | assumption | exact upd_self _ _ _ | exact cset_self _ _ _ | refine (upd_ne _ _ _ _ (by decide)).trans ?_ | refine (cset_ne _ _ _ _ (by decide)).trans ?_ | rfl)
  · have := c.g; (repeat first | assumption | exact upd_self _ _ _ | exact cset_self _ _ _ | refine (upd_ne _ _ _ _ (by decide)).trans ?_ | refine (cset_ne _ _ _ _ (by decide)).trans ?_ | rfl)
  · have := c.noU; (repeat first | assumption | exact upd_self _ _ _ | exact cset_self _ _ _ | refine (upd_ne _ _ _ _ (by decide)).trans ?_ | refine (cset_ne _ _ _ _ (by decide)).trans ?_ | rfl)
theorem BoxAt.set_l {v : Addr} (x : BoxAt s.heap bx d nu top fl l g) (G : Gr w s.heap) (h : ∀ s', BoxAt s'.heap bx d nu top fl v g → Kp [d] s s' → Q () s') : wpAny (model PySem.Challenge.rw_nz0289_01.row.prog w) A (setAttr (.ref bx) (PySem.Str.ofString "letters") (.ref v)) Q E s := by
  have hne := x.ne
  obtain ⟨a, m, b, c⟩ := x
  refine attr_set G a b (b_letters _) (by decide) fun s' hd k => h s' ⟨k.get a (by simpa using hne), _, by rw [c.l] at hd; exact hd, ?_, ?_, ?_, by (repeat first | assumption | exact upd_self _ _ _ | exact cset_self _ _ _ | refine (upd_ne _ _ _ _ (by decide)).trans ?_ | refine (cset_ne _ _ _ _ (by decide)).trans ?_ | rfl), ?_, ?_⟩ k
  · obtain ⟨u, e⟩ := c.nu; exact ⟨u, by (repeat first | assumption | exact upd_self _ _ _ | exact cset_self _ _ _ | refine (upd_ne _ _ _ _ (by decide)).trans ?_ | refine (cset_ne _ _ _ _ (by decide)).trans ?_ | rfl)⟩
  · obtain ⟨u, e⟩ := c.top; exact ⟨u, by (repeat first | assumption | exact upd_self _ _ _ | exact cset_self _ _ _ | refine (upd_ne _ _ _ _ (by decide)).trans ?_ | refine (cset_ne _ _ _ _ (by decide)).trans ?_ | rfl)⟩
  · obtain ⟨u, e⟩ := c.fl; exact ⟨u, by (repeat first | assumption | exact upd_self _ _ _ | exact cset_self _ _ _ | refine (upd_ne _ _ _ _ (by decide)).trans ?_ | refine (cset_ne _ _ _ _ (by decide)).trans ?_ | rfl)⟩
  · have := c.g; (repeat first | assumption | exact upd_self _ _ _ | exact cset_self _ _ _ | refine (upd_ne _ _ _ _ (by decide)).trans ?_ | refine (cset_ne _ _ _ _ (by decide)).trans ?_ | rfl)
  · have := c.noU; (repeat first | assumption | exact upd_self _ _ _ | exact cset_self _ _ _ | refine (upd_ne _ _ _ _ (by decide)).trans ?_ | refine (cset_ne _ _ _ _ (by decide)).trans ?_ | rfl)
theorem BoxAt.set_g {v : Addr} (x : BoxAt s.heap bx d nu top fl l g) (G : Gr w s.heap) (h : ∀ s', BoxAt s'.heap bx d nu top fl l v → Kp [d] s s' → Q () s') : wpAny (model PySem.Challenge.rw_nz0289_01.row.prog w) A (setAttr (.ref bx) (PySem.Str.ofString "gone") (.ref v)) Q E s := by
  have hne := x.ne
  obtain ⟨a, m, b, c⟩ := x
  refine attr_set G a b (b_gone _) (by decide) fun s' hd k => h s' ⟨k.get a (by simpa using hne), _, by rw [c.g] at hd; exact hd, ?_, ?_, ?_, ?_, by (repeat first | assumption | exact upd_self _ _ _ | exact cset_self _ _ _ | refine (upd_ne _ _ _ _ (by decide)).trans ?_ | refine (cset_ne _ _ _ _ (by decide)).trans ?_ | rfl), ?_⟩ k
  · obtain ⟨u, e⟩ := c.nu; exact ⟨u, by (repeat first | assumption | exact upd_self _ _ _ | exact cset_self _ _ _ | refine (upd_ne _ _ _ _ (by decide)).trans ?_ | refine (cset_ne _ _ _ _ (by decide)).trans ?_ | rfl)⟩
  · obtain ⟨u, e⟩ := c.top; exact ⟨u, by (repeat first | assumption | exact upd_self _ _ _ | exact cset_self _ _ _ | refine (upd_ne _ _ _ _ (by decide)).trans ?_ | refine (cset_ne _ _ _ _ (by decide)).trans ?_ | rfl)⟩
  · obtain ⟨u, e⟩ := c.fl; exact ⟨u, by (repeat first | assumption | exact upd_self _ _ _ | exact cset_self _ _ _ | refine (upd_ne _ _ _ _ (by decide)).trans ?_ | refine (cset_ne _ _ _ _ (by decide)).trans ?_ | rfl)⟩
  · have := c.l; (repeat first | assumption | exact upd_self _ _ _ | exact cset_self _ _ _ | refine (upd_ne _ _ _ _ (by decide)).trans ?_ | refine (cset_ne _ _ _ _ (by decide)).trans ?_ | rfl)
  · have := c.noU; (repeat first | assumption | exact upd_self _ _ _ | exact cset_self _ _ _ | refine (upd_ne _ _ _ _ (by decide)).trans ?_ | refine (cset_ne _ _ _ _ (by decide)).trans ?_ | rfl)
end

theorem raised_c {w : World} {A : Around} {s : Shared} {bx d l g : Addr} {nu top fl : Int} (GX : Gr w (hideAll s.heap [d])) (hroom : A.depth < recursionLimit) (B : BoxAt s.heap bx d nu top fl l g) :
    wpAny (model PySem.Challenge.rw_nz0289_01.row.prog w) A (PySem.call (.ref 169) [.ref bx]) (fun v s' => (∃ t, v = .int (top + 1) t) ∧ BoxAt s'.heap bx d nu (top + 1) fl l g ∧ Kp [d] s s') (fun _ _ => False) s := by
  refine enter (binds := [(PySem.Str.ofString "box", .ref bx)]) [d] GX.out GX (by k_is) (by k_is) hroom (BindsTo.of_eq rfl) (locs rfl) ?_ (by decide) rfl rfl rfl
  intro L s1 c k1 hL
  have B1 := B.keep k1.keep
  have hb : ∀ x ∈ [d], (hideAll s.heap [d]).get? x = none := fun x hx => hideAll_none _ hx
  have hLd : L ∉ [d] := fun hm => by
    obtain ⟨_, m, ⟨es, n, e, _⟩, _⟩ := B
    rw [← List.mem_singleton.mp hm, hL] at e; cases e
  refine wpAny_execs_cons (plainObj_wpAny_Assign_Attribute (wpAny_BinOp (Attribute_name (n_loc c.F.ns rfl (B1.get_top c.Gs fun t s2 k2 => ?_)))))
  have c2 := c.keep0 k2
  have B2 := B1.keep k2.keep
  refine wpAny_Constant_int (add_int (n_loc c2.F.ns rfl ?_))
  refine BoxAt.set_top (s := { s2 with toks := _ }) B2 c2.Gs fun s3 B3 k3 => ?_
  have c3 := c2.tok.keeps k3 hb hLd
  refine wpAny_execs_cons (wpAny_Return_some (Attribute_name (n_loc c3.F.ns rfl (B3.get_top c3.Gs fun t s4 k4 => ?_))))
  have c4 := c3.keep0 k4
  exact ⟨⟨_, rfl⟩, B3.keep k4.keep, c4.kp⟩

theorem is_forgotten_c {w : World} {A : Around} {s : Shared} {bx d l g : Addr} {nu top fl q : Int} {t : Tok} (G : Gr w s.heap) (hroom : A.depth < recursionLimit) (B : BoxAt s.heap bx d nu top fl l g) :
    wpAny (model PySem.Challenge.rw_nz0289_01.row.prog w) A (PySem.call (.ref 202) [.ref bx, .int q t]) (fun v s' => v = .bool (decide (q < fl)) ∧ Kp [] s s') (fun _ _ => False) s := by
  refine enter (binds := [(PySem.Str.ofString "box", .ref bx), (PySem.Str.ofString "modseq", .int q t)]) [] G G (by k_is) (by k_is) hroom (BindsTo.of_eq rfl) (locs rfl) ?_ (by decide) rfl rfl rfl
  intro L s1 c k1 hL
  have B1 := B.keep k1.keep
  refine wpAny_execs_cons (wpAny_Return_some (wpAny_Compare1 (n_loc c.F.ns rfl (Attribute_name (n_loc c.F.ns rfl (B1.get_fl c.Gs fun t s2 k2 => lt_int ?_))))))
  exact ⟨rfl, (c.keep0 k2).kp0⟩
end Mine
end
section
open PySem PySem.W PySem.Calls PyProof.Rows
namespace Mine
theorem missing_c {w : World} {A : Around} {s : Shared} {bx d l g : Addr} {nu top fl : Int} {us : List Int} {n : Nat} (G : Gr w s.heap) (hroom : A.depth + 1 < recursionLimit) (hh : A.handled = none) (B : BoxAt s.heap bx d nu top fl l g) (hn : nu = 1 + n) (hn' : n ≤ 1000)
    (hl : LOf LetV s.heap l us) (hsz : us.length ≤ 1000) (hso : us.Pairwise (· < ·)) :
    wpAny (model PySem.Challenge.rw_nz0289_01.row.prog w) A (PySem.call (.ref 207) [.ref bx]) (fun v s' => ∃ D, v = .ref D ∧ s.heap.get? D = none ∧ Ints s'.heap D ((rangeI 1 n).filter fun u => decide (u ∉ us)) ∧ Kp [] s s') (fun _ _ => False) s := by
  refine enterC (binds := [(PySem.Str.ofString "box", .ref bx)]) [] G G (by k_is) (by k_is) (dl hroom 0) (BindsTo.of_eq rfl) (kindsX (by rfl)) ?_ rfl rfl rfl
  intro L s1 c hc k1 hL
  have hcb : s1.heap.IsCell (L + 1) (some (.ref bx)) := hc (PySem.Str.ofString "box") _ rfl
  have B1 := B.keep k1.keep
  refine wpAny_execs_cons (wpAny_Return_some (comp_eval IntV.upp (Y := []) (xs := rangeI 1 n) (p := fun u => decide (u ∉ us)) (f := id) rfl (by decide) rfl (by decide) ?_ (fun _ => rfl)))
  refine ct2 c.Gs (by k_is) rfl (wpAny_Constant_int (Attribute_name (n_cell hcb (BoxAt.get_nu (s := { s1 with toks := _ }) B1 c.Gs fun t s2 k2 => mk_range2 fun r s3 t' u' v' hr0 hr k3 => ?_))))
  have k13 : Kp [] s1 s3 := (Kp.tok.trans k2).trans k3
  have c3 := c.keep0 k13
  refine ready_range hh hr (rng1E hn hn') (rng_size hn) (szl hn') (fun _ h => nomatch h) rfl rfl ?_ ?_ ?_
  · intro k tk C s4 m4 Z hk T hCZ hC hn4 hx
    refine wpAny_tests_one (wpAny_isTrue_Compare1 ?_)
    have G4 : Gr w s4.heap := c3.Gs.keeps T.old
    have hcb4 : s4.heap.IsCell (L + 1) (some (.ref bx)) := hcb.keeps fun b o e => T.old b o (k13.keep _ _ e)
    have B4 := (B1.keep k13.keep).keep T.old
    refine cfn G4 (by k_is) (by k_is) (spliced_more (Attribute_name (n_cell hcb4 (B4.get_l G4 fun s5 k5 => ?_))))
    have G5 := G4.keeps k5.keep
    have hn5 := hn4.at' fun o e => k5.keep _ _ e
    refine spliced_more (n_loc hn5 hx (spliced_none ⟨G5, ?_⟩))
    have hl5 : LOf LetV s5.heap l us := hl.up LetV.upp fun b o e => k5.keep _ _ (T.old _ _ (k13.keep _ _ (k1.keep _ _ e)))
    refine wpAny_mono (place_of_c G5 (dl hroom 1) hh hl5 hsz hso) (fun v s6 h6 => ?_) fun _ _ f => f.elim
    obtain ⟨⟨r6, t6, rfl, hr6⟩, k6⟩ := h6
    refine wpAny_Constant_int (lt_int (wpAny_truthy_bool ⟨decide_eq_decide.mpr hr6, ?_⟩))
    exact (k5.trans k6).trans Kp.tok
  · intro k tk C s4 m4 Z hk T hCZ hC hn4 hx hp
    exact n_loc hn4 hx ⟨⟨_, rfl⟩, Kp.refl⟩
  · intro D s4 hD hL4 k4
    rw [List.map_id] at hL4
    have k14 : Kp [] s s4 := k1.trans (k13.trans k4)
    refine ⟨D, rfl, ?_, hL4, k14⟩
    cases e : s.heap.get? D with
    | none => rfl
    | some o => rw [k13.keep _ _ (k1.keep _ _ e)] at hD; cases hD
end Mine
end
section
open PySem PySem.W PySem.Calls PyProof.Rows
namespace Mine

noncomputable def eff (a gr : Int) : Int := if a = 0 then gr else a
noncomputable def inR (gr number : Int) (p : Int × Int) : Bool := decide (min (eff p.1 gr) (eff p.2 gr) ≤ number) && decide (number ≤ max (eff p.1 gr) (eff p.2 gr))

theorem ends_of_c {w : World} {A : Around} {s : Shared} {v : Value} {p : Int × Int} {gr : Int} {t : Tok} (G : Gr w s.heap) (hroom : A.depth < recursionLimit) (hh : A.handled = none) (hv : PairV s.heap v p) (hgr : 0 < gr) :
    wpAny (model PySem.Challenge.rw_nz0289_01.row.prog w) A (PySem.call (.ref 188) [v, .int gr t]) (fun v' s' => ∃ T t1 t2, v' = .ref T ∧ s'.heap.IsTuple T #[.int (min (eff p.1 gr) (eff p.2 gr)) t1, .int (max (eff p.1 gr) (eff p.2 gr)) t2] ∧ Kp [] s s') (fun _ _ => False) s := by
  obtain ⟨T, ta, tb, rfl, hT⟩ := hv
  refine enter (binds := [(PySem.Str.ofString "pair", .ref T), (PySem.Str.ofString "greatest", .int gr t)]) [] G G (by k_is) (by k_is) hroom (BindsTo.of_eq rfl) (locs rfl) ?_ (by decide) rfl rfl rfl
  intro L s1 c k1 hL
  have hT1 : s1.heap.IsTuple T #[.int p.1 ta, .int p.2 tb] := hT.at fun o e => k1.keep _ _ e
  refine wpAny_execs_cons (Assign_Tuple (n_loc c.F.ns rfl (kcp_assign hh hT1 rfl rfl rfl c.F.ns fun h2 tk2 hn2 hk2 => ?_)) (by rfl) (by rfl))
  have c2 : Cx w s s.heap L _ { s1 with heap := h2, toks := tk2 } := c.stored (X := []) ⟨⟨_, _, rfl⟩, fun b o n e => hk2 b o (fun q => n (by rw [q]; exact .head _)) e⟩ (fun _ h => nomatch h) hn2
  refine wpAny_execs_cons (wpAny_If (isTrue_and (wpAny_isTrue_Compare1 (n_loc c2.F.ns rfl (wpAny_Constant_int (eq_int (wpAny_truthy_bool ?_)))))))
  refine if_f (beq_eq_false_iff_ne.mpr (by omega)) ?_
  refine wpAny_execs_nil ?_
  refine x_cut (fun s' => ∃ m' t1, Cx w s s.heap L m' s' ∧ m' (PySem.Str.ofString "low") = some (.int (eff p.1 gr) t1) ∧ m' (PySem.Str.ofString "high") = some (.int p.2 tb) ∧ m' (PySem.Str.ofString "greatest") = some (.int gr t)) (fun RQ hRQ => ?_) ?_
  · refine wpAny_If (wpAny_isTrue_Compare1 (n_loc c2.F.ns (v := .int p.1 ta) rfl (wpAny_Constant_int (eq_int (wpAny_truthy_bool ?_)))))
    by_cases h0 : p.1 = 0
    · refine if_t (beq_iff_eq.mpr h0) ?_
      refine wpAny_execs_cons (wpAny_Assign_Name (n_loc c2.F.ns (v := .int gr t) rfl (s_loc (c2.tok) fun s3 c3 k3 => wpAny_execs_nil ?_)) rfl)
      refine hRQ _ ⟨_, t, c3, ?_, by (repeat first | assumption | exact upd_self _ _ _ | exact cset_self _ _ _ | refine (upd_ne _ _ _ _ (by decide)).trans ?_ | refine (cset_ne _ _ _ _ (by decide)).trans ?_ | rfl), by (repeat first | assumption | exact upd_self _ _ _ | exact cset_self _ _ _ | refine (upd_ne _ _ _ _ (by decide)).trans ?_ | refine (cset_ne _ _ _ _ (by decide)).trans ?_ | rfl)⟩
      rw [show eff p.1 gr = gr from if_pos h0]; (repeat first | assumption | exact upd_self _ _ _ | exact cset_self _ _ _ | refine (upd_ne _ _ _ _ (by decide)).trans ?_ | refine (cset_ne _ _ _ _ (by decide)).trans ?_ | rfl)
    · refine if_f (beq_eq_false_iff_ne.mpr h0) ?_
      refine wpAny_execs_nil (hRQ _ ⟨_, ta, c2.tok, ?_, rfl, rfl⟩)
      rw [show eff p.1 gr = p.1 from if_neg h0]; rfl
  rintro s3 ⟨m3, t1, c3, e1, e2, e3⟩
  refine x_cut (fun s' => ∃ m' t2, Cx w s s.heap L m' s' ∧ m' (PySem.Str.ofString "low") = some (.int (eff p.1 gr) t1) ∧ m' (PySem.Str.ofString "high") = some (.int (eff p.2 gr) t2)) (fun RQ hRQ => ?_) ?_
  · refine wpAny_If (wpAny_isTrue_Compare1 (n_loc c3.F.ns e2 (wpAny_Constant_int (eq_int (wpAny_truthy_bool ?_)))))
    by_cases h0 : p.2 = 0
    · refine if_t (beq_iff_eq.mpr h0) ?_
      refine wpAny_execs_cons (wpAny_Assign_Name (n_loc c3.F.ns e3 (s_loc (c3.tok) fun s4 c4 k4 => wpAny_execs_nil ?_)) rfl)
      refine hRQ _ ⟨_, t, c4, by (repeat first | assumption | exact upd_self _ _ _ | exact cset_self _ _ _ | refine (upd_ne _ _ _ _ (by decide)).trans ?_ | refine (cset_ne _ _ _ _ (by decide)).trans ?_ | rfl), ?_⟩
      rw [show eff p.2 gr = gr from if_pos h0]; (repeat first | assumption | exact upd_self _ _ _ | exact cset_self _ _ _ | refine (upd_ne _ _ _ _ (by decide)).trans ?_ | refine (cset_ne _ _ _ _ (by decide)).trans ?_ | rfl)
    · refine if_f (beq_eq_false_iff_ne.mpr h0) ?_
      refine wpAny_execs_nil (hRQ _ ⟨_, tb, c3.tok, e1, ?_⟩)
      rw [show eff p.2 gr = p.2 from if_neg h0]; exact e2
  rintro s4 ⟨m4, t2, c4, e1, e2⟩
  refine wpAny_execs_cons (wpAny_Return_some (Tuple_ (spliced_more (cb2 c4.Gs (by k_is) rfl (n_loc c4.F.ns e1 (n_loc c4.F.ns e2 (c_min hh fun t5 s5 k5 => ?_)))))))
  have c5 := c4.keep0 k5
  refine spliced_more (cb2 c5.Gs (by k_is) rfl (n_loc c5.F.ns e1 (n_loc c5.F.ns e2 (c_max hh fun t6 s6 k6 => spliced_none (new_tup (Nat.le_of_ble_eq_true rfl) fun T7 s7 _ hT7 k7 => ?_)))))
  exact ⟨T7, t5, t6, rfl, hT7, ((c5.keep0 k6).keep0 k7).kp0⟩

theorem has_c {w : World} {A : Around} {s : Shared} {T : Addr} {vs : List Value} {ps : List (Int × Int)} {num gr : Int} {t u : Tok} (G : Gr w s.heap) (hroom : A.depth + 1 < recursionLimit) (hh : A.handled = none) (hT : s.heap.IsTuple T vs.toArray) (hp : Paired (PairV s.heap) vs ps) (hgr : 0 < gr) :
    wpAny (model PySem.Challenge.rw_nz0289_01.row.prog w) A (PySem.call (.ref 195) [.ref T, .int num t, .int gr u]) (fun v' s' => v' = .bool (ps.any (inR gr num)) ∧ Kp [] s s') (fun _ _ => False) s := by
  refine enter (binds := [(PySem.Str.ofString "some", .ref T), (PySem.Str.ofString "number", .int num t), (PySem.Str.ofString "greatest", .int gr u)]) [] G G (by k_is) (by k_is) (dl hroom 0) (BindsTo.of_eq rfl) (locs rfl) ?_ (by decide) rfl rfl rfl
  intro L s1 c k1 hL
  have hT1 : s1.heap.IsTuple T vs.toArray := hT.at fun o e => k1.keep _ _ e
  have hTL : T ≠ L := by rintro rfl; obtain ⟨o, e, _⟩ := hT; rw [hL] at e; cases e
  refine wpAny_execs_cons (for_tup (V₀ := fun _ => PairV s.heap) (xs := ps) (Y := [L]) hh (n_loc c.F.ns rfl ⟨T, vs, rfl, hT1.at fun o e => hideAll_get _ e (by simpa using hTL), hp, ?_, ?_⟩) (fun _ => rfl))
  · intro y hy; rw [List.mem_singleton.mp hy]; obtain ⟨o, _, _, e, _⟩ := c.F.ns; exact ⟨o, e⟩
  refine ⟨fun Z i s' => (∃ m', Cx w s s.heap L m' s' ∧ m' (PySem.Str.ofString "number") = some (.int num t) ∧ m' (PySem.Str.ofString "greatest") = some (.int gr u)) ∧ (ps.take i).any (inR gr num) = false, ?_, ?_, ?_, ?_⟩
  · rintro I i s2 s3 hI ⟨⟨m', c2, e1, e2⟩, hb⟩ k
    refine ⟨⟨m', c2.keeps k (fun x hx => ?_) (fun hm => ?_), e1, e2⟩, hb⟩
    · rw [List.mem_singleton.mp hx]
      cases e : s.heap.get? I with
      | none => rfl
      | some o => rw [k1.keep _ _ e] at hI; cases hI
    · obtain ⟨o, _, _, e, _⟩ := c.F.ns
      rw [← List.mem_singleton.mp hm, e] at hI; cases hI
  · intro I s2 hI _ k
    exact ⟨⟨_, c.keep0 k, rfl, rfl⟩, by simp⟩
  · rintro I i a v s2 RQ hRQ hI ha hv ⟨⟨m', c2, e1, e2⟩, hb⟩
    refine wpAny_assign_Name (s_loc c2 fun s3 c3 k3 => ?_)
    refine wpAny_execs_cons (wpAny_Assign_Name (cfn c3.Gs (by k_is) (by k_is) (spliced_more (n_loc c3.F.ns (v := v) (by (repeat first | assumption | exact upd_self _ _ _ | exact cset_self _ _ _ | refine (upd_ne _ _ _ _ (by decide)).trans ?_ | refine (cset_ne _ _ _ _ (by decide)).trans ?_ | rfl)) (spliced_more (n_loc c3.F.ns (v := .int gr u) (by (repeat first | assumption | exact upd_self _ _ _ | exact cset_self _ _ _ | refine (upd_ne _ _ _ _ (by decide)).trans ?_ | refine (cset_ne _ _ _ _ (by decide)).trans ?_ | rfl)) (spliced_none ⟨c3.Gs, ?_⟩)))))) rfl)
    refine wpAny_mono (ends_of_c c3.Gs (dl hroom 1) hh (PairV.upp _ _ _ _ hv c3.F.keep) hgr) (fun v4 s4 h4 => ?_) fun _ _ f => f.elim
    obtain ⟨T4, t1, t2, rfl, hT4, k4⟩ := h4
    have c4 := c3.keep0 k4
    refine s_loc c4 fun s5 c5 k5 => ?_
    have hT4L : T4 ≠ L := ns_ne_tup c4.F.ns hT4
    have hT5 : s5.heap.IsTuple T4 #[.int (min (eff a.1 gr) (eff a.2 gr)) t1, .int (max (eff a.1 gr) (eff a.2 gr)) t2] := hT4.at fun o e => k5.get e (nm1 hT4L)
    have hnext : (ps.take (i + 1)).any (inR gr num) = ((ps.take i).any (inR gr num) || inR gr num a) := by rw [List.take_add_one, ha]; simp
    have k25 : Kp [L] s2 s5 := (k3.trans k4.of0).trans k5
    refine wpAny_execs_cons (wpAny_If (isTrue_and (wpAny_isTrue_Compare1 (n_loc c5.F.ns (v := .ref T4) (by (repeat first | assumption | exact upd_self _ _ _ | exact cset_self _ _ _ | refine (upd_ne _ _ _ _ (by decide)).trans ?_ | refine (cset_ne _ _ _ _ (by decide)).trans ?_ | rfl)) (Constant_none (isnot_ref_none (wpAny_truthy_bool ?_)))))))
    refine if_t rfl ?_
    refine isTrue_and (isTrue_chain (Subscript_ (n_loc c5.F.ns (v := .ref T4) (by (repeat first | assumption | exact upd_self _ _ _ | exact cset_self _ _ _ | refine (upd_ne _ _ _ _ (by decide)).trans ?_ | refine (cset_ne _ _ _ _ (by decide)).trans ?_ | rfl)) (wpAny_Constant_int (sub_tup hT5 (by decide) (by decide) (j := 0) rfl rfl ?_)))))
    refine test_link (n_loc c5.F.ns (v := .int num t) (by (repeat first | assumption | exact upd_self _ _ _ | exact cset_self _ _ _ | refine (upd_ne _ _ _ _ (by decide)).trans ?_ | refine (cset_ne _ _ _ _ (by decide)).trans ?_ | rfl)) (le_int (wpAny_truthy_bool ?_)))
    have fin : inR gr num a = false → ∀ tk, (∃ m', Cx w s s.heap L m' { s5 with toks := tk } ∧ m' (PySem.Str.ofString "number") = some (.int num t) ∧ m' (PySem.Str.ofString "greatest") = some (.int gr u)) ∧ (ps.take (i + 1)).any (inR gr num) = false := fun q tk =>
      ⟨⟨_, c5.tok, by (repeat first | assumption | exact upd_self _ _ _ | exact cset_self _ _ _ | refine (upd_ne _ _ _ _ (by decide)).trans ?_ | refine (cset_ne _ _ _ _ (by decide)).trans ?_ | rfl), by (repeat first | assumption | exact upd_self _ _ _ | exact cset_self _ _ _ | refine (upd_ne _ _ _ _ (by decide)).trans ?_ | refine (cset_ne _ _ _ _ (by decide)).trans ?_ | rfl)⟩, by rw [hnext, hb, q]; rfl⟩
    by_cases h1 : min (eff a.1 gr) (eff a.2 gr) ≤ num
    · refine if_t (decide_eq_true h1) ?_
      refine test_last (Subscript_ (n_loc c5.F.ns (v := .ref T4) (by (repeat first | assumption | exact upd_self _ _ _ | exact cset_self _ _ _ | refine (upd_ne _ _ _ _ (by decide)).trans ?_ | refine (cset_ne _ _ _ _ (by decide)).trans ?_ | rfl)) (wpAny_Constant_int (sub_tup hT5 (by decide) (by decide) (j := 1) rfl rfl (le_int (wpAny_truthy_bool ?_))))))
      by_cases h2 : num ≤ max (eff a.1 gr) (eff a.2 gr)
      · refine if_t (decide_eq_true h2) ?_
        refine isTrue_and_nil ?_
        refine if_t rfl ?_
        refine wpAny_execs_cons (wpAny_Return_some (wpAny_Constant_bool ?_))
        refine hRQ _ _ ⟨?_, c5.tok.kp0⟩
        have : ps.any (inR gr num) = true := List.any_eq_true.mpr ⟨a, List.mem_of_getElem? ha, by simp [inR, h1, h2]⟩
        rw [this]; rfl
      · refine if_f (decide_eq_false h2) ?_
        exact wpAny_execs_nil (wpAny_execs_nil (hRQ _ _ ⟨fin (by simp [inR, h2]) _, k25.trans Kp.tok⟩))
    · refine if_f (decide_eq_false h1) ?_
      exact wpAny_execs_nil (wpAny_execs_nil (hRQ _ _ ⟨fin (by simp [inR, h1]) _, k25.trans Kp.tok⟩))
  · rintro I s2 hI ⟨⟨m', c2, e1, e2⟩, hb⟩
    rw [List.take_length] at hb
    refine wpAny_execs_cons (wpAny_Return_some (wpAny_Constant_bool ?_))
    rw [hb]
    exact ⟨rfl, c2.kp0⟩
end Mine
end
section
open PySem PySem.W PySem.Calls PyProof.Rows
namespace Mine

theorem gone_since_c {w : World} {A : Around} {s : Shared} {bx d l g : Addr} {nu top fl q : Int} {t : Tok} {ps : List (Int × Int)} (G : Gr w s.heap) (hroom : A.depth < recursionLimit) (hh : A.handled = none) (B : BoxAt s.heap bx d nu top fl l g) (hl : Pairs s.heap g ps) (hsz : ps.length < 64) :
    wpAny (model PySem.Challenge.rw_nz0289_01.row.prog w) A (PySem.call (.ref 212) [.ref bx, .int q t]) (fun v s' => ∃ D, v = .ref D ∧ s.heap.get? D = none ∧ Ints s'.heap D (sortI ((ps.filter fun p => decide (q < p.2)).map (·.1))) ∧ Kp [] s s') (fun _ _ => False) s := by
  refine enterC (binds := [(PySem.Str.ofString "box", .ref bx), (PySem.Str.ofString "modseq", .int q t)]) [] G G (by k_is) (by k_is) hroom (BindsTo.of_eq rfl) (kindsX (by rfl)) ?_ rfl rfl rfl
  intro L s1 c hc k1 hL
  have hcm : s1.heap.IsCell (L + 1) (some (.int q t)) := hc (PySem.Str.ofString "modseq") _ rfl
  have B1 := B.keep k1.keep
  refine wpAny_execs_cons (wpAny_Return_some (cb1 c.Gs (by k_is) rfl (comp_eval IntV.upp (Y := []) (xs := ps) (p := fun p => decide (q < p.2)) (f := (·.1)) rfl (by decide) rfl (by decide) ?_ (fun _ => rfl))))
  refine Attribute_name (n_loc c.F.ns rfl (B1.get_g c.Gs fun s2 k2 => ?_))
  have c2 := c.keep0 k2
  have hl2 : Pairs s2.heap g ps := hl.up PairV.upp fun b o e => k2.keep _ _ (k1.keep _ _ e)
  refine ready_pair hh hl2 (by rw [sizeLine_eq]; omega) (fun _ h => nomatch h) rfl rfl rfl (by decide) ?_ ?_ ?_
  · intro a ta tb C s4 m4 Z ha T hCZ hC hn4 hx hx'
    have hcm4 : s4.heap.IsCell (L + 1) (some (.int q t)) := hcm.keeps fun b o e => T.old b o (k2.keep _ _ e)
    exact wpAny_tests_one (wpAny_isTrue_Compare1 (n_loc hn4 hx' (n_cell hcm4 (gt_int (wpAny_truthy_bool ⟨rfl, Kp.refl⟩)))))
  · intro a ta tb C s4 m4 Z ha T hCZ hC hn4 hx hx' hp
    exact n_loc hn4 hx ⟨⟨_, rfl⟩, Kp.refl⟩
  · intro D s4 hD hL4 k4
    have hlen : ((ps.filter fun p => decide (q < p.2)).map (·.1)).length < 64 := by
      rw [List.length_map]; exact Nat.lt_of_le_of_lt (List.length_filter_le _ _) hsz
    refine c_sorted hL4 hlen fun D5 s5 hD5 hI5 k5 => ?_
    have k15 : Kp [] s s5 := k1.trans (k2.trans (k4.trans k5))
    refine ⟨D5, rfl, ?_, hI5, k15⟩
    cases e : s.heap.get? D5 with
    | none => rfl
    | some o => rw [k4.keep _ _ (k2.keep _ _ (k1.keep _ _ e))] at hD5; cases hD5

/-- what vanished_since hands on, before it is held against a set -/
noncomputable def found (fl q : Int) (us : List Int) (n : Nat) (ps : List (Int × Int)) : List Int :=
  if q < fl then (rangeI 1 n).filter fun u => decide (u ∉ us) else sortI ((ps.filter fun p => decide (q < p.2)).map (·.1))

end Mine
end
section
open PySem PySem.W PySem.Calls PyProof.Rows
namespace Mine

theorem cell_kp {X : List Addr} {s s' : Shared} {c : Addr} {v : Option Value} (h : s.heap.IsCell c v) (k : Kp X s s') (n : c ∉ X) : s'.heap.IsCell c v := let ⟨o, e, d⟩ := h; ⟨o, k.get e n, d⟩
theorem found_length {fl q : Int} {us : List Int} {n : Nat} {ps : List (Int × Int)} (hn : n ≤ 1000) (hp : ps.length < 64) : (found fl q us n ps).length ≤ 1000 := by
  unfold found
  split
  · exact Nat.le_trans (List.length_filter_le _ _) (by rw [rangeI_length]; exact hn)
  · unfold sortI; rw [List.length_mergeSort, List.length_map]; exact Nat.le_trans (List.length_filter_le _ _) (Nat.le_trans (Nat.le_of_lt hp) (by decide))

theorem vanished_c {w : World} {A : Around} {s : Shared} {bx d l g : Addr} {nu top fl q : Int} {t : Tok} {ps : List (Int × Int)} {us : List Int} {n : Nat} {args : List Value} {kf : Int → Bool} (G : Gr w s.heap) (hroom : A.depth + 2 < recursionLimit) (hh : A.handled = none) (B : BoxAt s.heap bx d nu top fl l g) (hg : Pairs s.heap g ps) (hgz : ps.length < 64)
    (hn : nu = 1 + n) (hn0 : 0 < n) (hn' : n ≤ 1000) (hl : LOf LetV s.heap l us) (hsz : us.length ≤ 1000) (hso : us.Pairwise (· < ·))
    (harg : (args = [.ref bx, .int q t] ∧ kf = fun _ => true) ∨ (∃ T, ∃ vs : List Value, ∃ kps : List (Int × Int), args = [.ref bx, .int q t, .ref T] ∧ s.heap.IsTuple T vs.toArray ∧ Paired (PairV s.heap) vs kps ∧ kf = fun u => kps.any (inR (n : Int) u))) :
    wpAny (model PySem.Challenge.rw_nz0289_01.row.prog w) A (PySem.call (.ref 218) args) (fun v s' => ∃ D, v = .ref D ∧ s.heap.get? D = none ∧ Ints s'.heap D ((found fl q us n ps).filter kf) ∧ Kp [] s s') (fun _ _ => False) s := by
  have X := G.X
  obtain ⟨kv, hkv⟩ : ∃ kv, (kv = Value.none ∧ args = [.ref bx, .int q t] ∧ kf = fun _ => true) ∨ (∃ T, ∃ vs : List Value, ∃ kps : List (Int × Int), kv = .ref T ∧ args = [.ref bx, .int q t, .ref T] ∧ s.heap.IsTuple T vs.toArray ∧ Paired (PairV s.heap) vs kps ∧ kf = fun u => kps.any (inR (n : Int) u)) := by
    rcases harg with h | ⟨T, vs, kps, h⟩
    · exact ⟨_, .inl ⟨rfl, h⟩⟩
    · exact ⟨_, .inr ⟨T, vs, kps, rfl, h⟩⟩
  refine enterC (binds := [(PySem.Str.ofString "box", .ref bx), (PySem.Str.ofString "modseq", .int q t), (PySem.Str.ofString "known", kv)]) [] G G (by k_is) (by k_is) (dl hroom 0) ?_ (kindsX (by rfl)) ?_ rfl rfl rfl
  · rcases hkv with ⟨rfl, rfl, _⟩ | ⟨T, vs, kps, rfl, rfl, _⟩
    · exact binds_K X rfl (by k_is) rfl rfl rfl
    · exact binds_K X rfl (by k_is) rfl rfl rfl
  intro L s1 c hc k1 hL
  refine hideR fun RZ hRZ => ?_
  have hcb : s1.heap.IsCell (L + 1) (some (.ref bx)) := hc (PySem.Str.ofString "box") _ rfl
  have hck : s1.heap.IsCell (L + 2) (some kv) := hc (PySem.Str.ofString "known") _ rfl
  have B1 := B.keep k1.keep
  have G1 := c.Gs
  refine wpAny_execs_cons (wpAny_Assign_Name (wpAny_mono (Q := fun v s' => ∃ D, v = .ref D ∧ s.heap.get? D = none ∧ Ints s'.heap D (found fl q us n ps) ∧ Kp [] s1 s') (E := fun _ _ => False) ?_ ?_ fun _ _ f => f.elim) rfl)
  · refine wpAny_IfExp (isTrue_plain (cfn G1 (by k_is) (by k_is) (spliced_more (n_cell hcb (spliced_more (n_loc c.F.ns rfl (spliced_none ⟨G1, ?_⟩)))))))
    refine wpAny_mono (is_forgotten_c G1 (dl hroom 1) B1) (fun v s2 h2 => ?_) fun _ _ f => f.elim
    obtain ⟨rfl, k2⟩ := h2
    have c2 := c.keep0 k2
    have G2 := c2.Gs
    have B2 := B1.keep k2.keep
    have hcb2 := hcb.keeps k2.keep
    refine wpAny_truthy_bool ?_
    have fr : ∀ D, s2.heap.get? D = none → s.heap.get? D = none := fun D hD => by
      cases e : s.heap.get? D with
      | none => rfl
      | some o => rw [k2.keep _ _ (k1.keep _ _ e)] at hD; cases hD
    by_cases hq : q < fl
    · refine if_t (decide_eq_true hq) ?_
      refine cfn G2 (by k_is) (by k_is) (spliced_more (n_cell hcb2 (spliced_none ⟨G2, ?_⟩)))
      refine wpAny_mono (missing_c G2 (dl hroom 2) hh B2 hn hn' (hl.up LetV.upp fun b o e => k2.keep _ _ (k1.keep _ _ e)) hsz hso) (fun v s3 h3 => ?_) fun _ _ f => f.elim
      obtain ⟨D, rfl, hD, hI, k3⟩ := h3
      exact ⟨D, rfl, fr D hD, by unfold found; rw [if_pos hq]; exact hI, k2.trans k3⟩
    · refine if_f (decide_eq_false hq) ?_
      refine cfn G2 (by k_is) (by k_is) (spliced_more (n_cell hcb2 (spliced_more (n_loc c2.F.ns rfl (spliced_none ⟨G2, ?_⟩)))))
      refine wpAny_mono (gone_since_c G2 (dl hroom 1) hh B2 (hg.up PairV.upp fun b o e => k2.keep _ _ (k1.keep _ _ e)) hgz) (fun v s3 h3 => ?_) fun _ _ f => f.elim
      obtain ⟨D, rfl, hD, hI, k3⟩ := h3
      exact ⟨D, rfl, fr D hD, by unfold found; rw [if_neg hq]; exact hI, k2.trans k3⟩
  rintro v s2 ⟨D, rfl, hD, hI, k2⟩
  have c2 := c.keep0 k2
  refine s_loc c2 fun s3 c3 k3 => ?_
  have hLc : ∀ x, L + 1 ≤ x → x ≠ L := fun x h e => by rw [e] at h; exact Nat.lt_irrefl _ h
  have hck3 : s3.heap.IsCell (L + 2) (some kv) := cell_kp (hck.keeps k2.keep) k3 (nm1 (hLc _ (Nat.le_succ _)))
  have hcb3 : s3.heap.IsCell (L + 1) (some (.ref bx)) := cell_kp (hcb.keeps k2.keep) k3 (nm1 (hLc _ (Nat.le_refl _)))
  have hI3 : Ints s3.heap D (found fl q us n ps) := by
    obtain ⟨vs, a, b⟩ := hI
    exact ⟨vs, a.at fun o e => k3.get e (nm1 (ns_ne_list c2.F.ns a)), b⟩
  have hsz3 := found_length (fl := fl) (q := q) (us := us) hn' hgz
  refine wpAny_execs_cons (wpAny_If (wpAny_isTrue_Compare1 (n_cell hck3 (Constant_none (is_none_gen (wpAny_truthy_bool ?_))))))
  rcases hkv with ⟨rfl, rfl, rfl⟩ | ⟨T, vs, kps, rfl, rfl, hT, hp, rfl⟩
  · rw [if_pos (by rfl : (Value.none == Value.none) = true)]
    refine wpAny_execs_cons (wpAny_Return_some (n_loc c3.F.ns (v := .ref D) (by (repeat first | assumption | exact upd_self _ _ _ | exact cset_self _ _ _ | refine (upd_ne _ _ _ _ (by decide)).trans ?_ | refine (cset_ne _ _ _ _ (by decide)).trans ?_ | rfl)) ?_))
    exact hRZ _ _ ⟨D, rfl, hD, by rw [List.filter_eq_self.mpr fun _ _ => rfl]; exact hI3, c3.kp0⟩
  · rw [if_neg (by intro h; cases h)]
    have G3 := c3.Gs
    refine wpAny_execs_nil (wpAny_execs_cons (wpAny_Return_some (comp_eval IntV.upp (Y := []) (xs := found fl q us n ps) (p := fun u => kps.any (inR (n : Int) u)) (f := id) rfl (by decide) rfl (by decide) ?_ (fun _ => rfl))))
    refine n_loc c3.F.ns (v := .ref D) (by (repeat first | assumption | exact upd_self _ _ _ | exact cset_self _ _ _ | refine (upd_ne _ _ _ _ (by decide)).trans ?_ | refine (cset_ne _ _ _ _ (by decide)).trans ?_ | rfl)) (ready_int hh hI3 (szl (found_length hn' hgz)) (fun _ h => nomatch h) rfl rfl ?_ ?_ ?_)
    · intro a ta C s4 m4 Z ha Tn hCZ hC hn4 hx
      have G4 := G3.keeps Tn.old
      have hcb4 := hcb3.keeps Tn.old
      have hck4 := hck3.keeps Tn.old
      have B4 := B.keep fun b o e => Tn.old _ _ (c3.F.keep _ _ e)
      refine wpAny_tests_one (isTrue_plain (cfn G4 (by k_is) (by k_is) (spliced_more (n_cell hck4 (spliced_more (n_loc hn4 hx (spliced_more (wpAny_BinOp (Attribute_name (n_cell hcb4 (B4.get_nu G4 fun t5 s5 k5 => wpAny_Constant_int (sub_int (spliced_none ⟨G4.keeps k5.keep, ?_⟩)))))))))))))
      rw [show nu - 1 = (n : Int) by rw [hn, Int.add_comm, Int.add_sub_cancel]]
      have up5 : ∀ b o, s.heap.get? b = some o → s5.heap.get? b = some o := fun b o e => k5.keep _ _ (Tn.old _ _ (c3.F.keep _ _ e))
      refine wpAny_mono (has_c (s := { s5 with toks := _ }) (G4.keeps k5.keep) (dl hroom 2) hh (hT.at fun o e => up5 _ _ e) (hp.mono fun v y h => PairV.upp _ _ _ _ h up5) (Int.ofNat_lt.mpr hn0)) (fun v6 s6 h6 => ?_) fun _ _ f => f.elim
      obtain ⟨rfl, k6⟩ := h6
      exact wpAny_truthy_bool ⟨rfl, (k5.trans Kp.tok).trans k6⟩
    · intro a ta C s4 m4 Z ha Tn hCZ hC hn4 hx hp
      exact n_loc hn4 hx ⟨⟨_, rfl⟩, Kp.refl⟩
    · intro D4 s4 hD4 hL4 k4
      rw [List.map_id] at hL4
      refine hRZ _ _ ⟨D4, rfl, ?_, hL4, (c3.keep0 k4).kp0⟩
      cases e : s.heap.get? D4 with
      | none => rfl
      | some o => rw [c3.F.keep _ _ e] at hD4; cases hD4
end Mine
end
section
open PySem PySem.W PySem.Calls PyProof.Rows
namespace Mine

theorem hid_up {X Y Z : List Addr} {s s' : Shared} (k : Kp X s s') (hX : ∀ x ∈ X, x ∈ Z ∨ s.heap.get? x = none) (hY : ∀ y ∈ Y, y ∈ Z ∨ s.heap.get? y = none) : ∀ b o, (hideAll s.heap Z).get? b = some o → (hideAll s'.heap Y).get? b = some o :=
  hid_le (fun b o e => k.2 b o (fun m => by
    rcases hX b m with h | h
    · exact hid_off e h
    · rw [of_hideAll _ e] at h; cases h) (of_hideAll _ e)) hY

/-- forget_gone in plain lists: the floor, what is held, what is counted -/
noncomputable def fgtF (fl top q : Int) : Int := if min q top ≤ fl then fl else min q top
noncomputable def fgtP (fl top q : Int) (ps : List (Int × Int)) : List (Int × Int) := if min q top ≤ fl then ps else ps.filter fun p => decide (min q top < p.2)
noncomputable def fgtC (fl top q : Int) (ps : List (Int × Int)) : Int := ps.length - (fgtP fl top q ps).length

theorem forget_gone_c {w : World} {A : Around} {s : Shared} {Z : List Addr} {bx d l g : Addr} {nu top fl q : Int} {t : Tok} {ps : List (Int × Int)} (GX : Gr w (hideAll s.heap [d])) (hroom : A.depth < recursionLimit) (hh : A.handled = none) (B : BoxAt s.heap bx d nu top fl l g)
    (hdZ : d ∈ Z) (live : ∀ z ∈ Z, ∃ o, s.heap.get? z = some o) (hg : Pairs (hideAll s.heap Z) g ps) (hgz : ps.length < 64) :
    wpAny (model PySem.Challenge.rw_nz0289_01.row.prog w) A (PySem.call (.ref 223) [.ref bx, .int q t]) (fun v s' => ∃ t' g', v = .int (fgtC fl top q ps) t' ∧ BoxAt s'.heap bx d nu top (fgtF fl top q) l g' ∧ Pairs (hideAll s'.heap Z) g' (fgtP fl top q ps) ∧ Kp [d] s s') (fun _ _ => False) s := by
  refine enterC (binds := [(PySem.Str.ofString "box", .ref bx), (PySem.Str.ofString "modseq", .int q t)]) [d] GX.out GX (by k_is) (by k_is) hroom (BindsTo.of_eq rfl) (kindsX (by rfl)) ?_ rfl rfl rfl
  intro L s1 c hc k1 hL
  refine hideR fun RZ hRZ => ?_
  have hcb : s1.heap.IsCell (L + 1) none := hc (PySem.Str.ofString "bound") _ rfl
  have B1 := B.keep k1.keep
  have hb : ∀ x ∈ [d], (hideAll s.heap [d]).get? x = none := fun x hx => hideAll_none _ hx
  have hLZ : L ∉ Z := fun hm => by obtain ⟨o, e⟩ := live L hm; rw [hL L (Nat.le_refl _)] at e; cases e
  have hCZ : L + 1 ∉ Z := fun hm => by obtain ⟨o, e⟩ := live _ hm; rw [hL _ (Nat.le_succ _)] at e; cases e
  have hLd : L ∉ [d] := fun hm => hLZ (by rw [List.mem_singleton.mp hm]; exact hdZ)
  have hCd : L + 1 ∉ [d] := fun hm => hCZ (by rw [List.mem_singleton.mp hm]; exact hdZ)
  refine wpAny_execs_cons (wpAny_Assign_Name (cb2 c.Gs (by k_is) rfl (n_loc c.F.ns rfl (Attribute_name (n_loc c.F.ns rfl (B1.get_top c.Gs fun t2 s2 k2 => c_min hh fun t3 s3 k3 => ?_))))) rfl)
  have c3 := (c.keep0 k2).keep0 k3
  have B3 := B1.keep (k2.trans k3).keep
  have hcC : (hideAll s.heap [d]).get? (L + 1) = none := by
    cases e : (hideAll s.heap [d]).get? (L + 1) with
    | none => rfl
    | some o => have := of_hideAll _ e; rw [hL _ (Nat.le_succ _)] at this; cases this
  refine s_cell c3 hcC (fun e => absurd e (Nat.ne_of_lt (Nat.lt_succ_self L))) (hcb.keeps (k2.trans k3).keep) fun s4 c4 hc4 k4 => ?_
  have k14 : Kp [L + 1] s1 s4 := (k2.trans k3).of0.trans k4
  have hbC : bx ∉ [L + 1] := nm1 fun e => by have := B.1; rw [e, hL _ (Nat.le_succ _)] at this; cases this
  have hdC : d ∉ [L + 1] := nm1 fun e => hCd (by rw [e]; exact .head _)
  have B4 := B1.kp k14 hbC hdC
  refine wpAny_execs_cons (wpAny_If (wpAny_isTrue_Compare1 (n_cell hc4 (Attribute_name (n_loc c4.F.ns rfl (B4.get_fl c4.Gs fun t5 s5 k5 => le_int (wpAny_truthy_bool ?_)))))))
  have c5 := c4.keep0 k5
  have B5 := B4.keep k5.keep
  have hc5 := hc4.keeps k5.keep
  have k05 : Kp [L + 1] s s5 := k1.of0.trans (k14.trans k5.of0)
  have up5 : ∀ Y : List Addr, (∀ y ∈ Y, y ∈ Z ∨ s.heap.get? y = none) → ∀ b o, (hideAll s.heap Z).get? b = some o → (hideAll s5.heap Y).get? b = some o := fun Y hY => hid_up k05 (fun x hx => by rw [List.mem_singleton.mp hx]; exact .inr (hL _ (Nat.le_succ _))) hY
  by_cases hq : min q top ≤ fl
  · refine if_t (decide_eq_true hq) ?_
    refine wpAny_execs_cons (wpAny_Return_some (wpAny_Constant_int ?_))
    have e1 : fgtF fl top q = fl := if_pos hq
    have e2 : fgtP fl top q ps = ps := if_pos hq
    refine hRZ _ _ ⟨s5.toks, g, ?_, by rw [e1]; exact B5, by rw [e2]; exact hg.up PairV.upp (up5 Z fun _ h => .inl h), c5.tok.kp⟩
    unfold fgtC; rw [e2, Int.sub_self]; rfl
  · refine if_f (decide_eq_false hq) ?_
    have e1 : fgtF fl top q = min q top := if_neg hq
    have e2 : fgtP fl top q ps = ps.filter fun p => decide (min q top < p.2) := if_neg hq
    have live5 : ∀ y ∈ L :: (L + 1) :: Z, ∃ o, s5.heap.get? y = some o := fun y hy => by
      rcases List.mem_cons.mp hy with e0 | hy
      · rw [e0]; obtain ⟨o, _, _, e, _⟩ := c5.F.ns; exact ⟨o, e⟩
      · rcases List.mem_cons.mp hy with e0 | hy
        · rw [e0]; obtain ⟨o, e, _⟩ := hc5; exact ⟨o, e⟩
        · obtain ⟨o, e⟩ := live y hy; exact ⟨o, k05.get e fun hm => hCZ (by rw [← List.mem_singleton.mp hm]; exact hy)⟩
    refine wpAny_execs_nil (wpAny_execs_cons (comp_assign PairV.upp (Y := L :: (L + 1) :: Z) (xs := ps) (p := fun p => decide (min q top < p.2)) (f := id) rfl rfl (by decide) rfl (by decide) rfl rfl (.head _) ?_ (fun _ => rfl)))
    refine Attribute_name (n_loc c5.F.ns rfl (B5.get_g c5.Gs fun s6 k6 => ?_))
    have c6 := c5.keep0 k6
    have hc6 := hc5.keeps k6.keep
    refine ready_pair hh (hg.up PairV.upp fun b o e => hid_up k6 (fun _ h => nomatch h) (fun _ h => .inl h) b o (up5 (L :: (L + 1) :: Z) (fun y hy => ?_) b o e)) (szl (Nat.le_of_lt hgz)) (fun y hy => let ⟨o, e⟩ := live5 y hy; ⟨o, k6.keep _ _ e⟩) rfl rfl rfl (by decide) ?_ ?_ ?_
    · rcases List.mem_cons.mp hy with e0 | hy
      · rw [e0]; exact .inr (hL _ (Nat.le_refl _))
      · rcases List.mem_cons.mp hy with e0 | hy
        · rw [e0]; exact .inr (hL _ (Nat.le_succ _))
        · exact .inl hy
    · intro a ta tb C s7 m7 Z7 ha T hCZ hC hn7 hx hx'
      exact wpAny_tests_one (wpAny_isTrue_Compare1 (n_loc hn7 hx' (n_cell (hc6.keeps T.old) (gt_int (wpAny_truthy_bool ⟨rfl, Kp.refl⟩)))))
    · intro a ta tb C s7 m7 Z7 ha T hCZ hC hn7 hx hx' hp
      refine Tuple_ (spliced_more (n_loc hn7 hx (spliced_more (n_loc hn7 hx' (spliced_none (new_tup (Nat.le_of_ble_eq_true rfl) fun T8 s8 hT8 hI8 k8 => ?_))))))
      obtain ⟨o, e, r⟩ := hI8
      exact ⟨⟨T8, ta, tb, rfl, o, T.new hT8 e, r⟩, k8⟩
    · refine ⟨_, c6.F.ns, fun D s7 hD hL7 hn7 k7 => ?_⟩
      rw [List.map_id] at hL7
      have c7 : Cx w s (hideAll s.heap [d]) L _ s7 := c6.stored (X := []) k7 (fun _ h => nomatch h) hn7
      have hLx : ∀ x o, s.heap.get? x = some o → x ∉ [L] := fun x o e => nm1 fun q => by rw [q, hL _ (Nat.le_refl _)] at e; cases e
      have hbL : bx ∉ [L] := hLx _ _ B.1
      have hdL : d ∉ [L] := nm1 fun e => hLd (by rw [e]; exact .head _)
      have B7 := (B5.keep k6.keep).kp k7 hbL hdL
      have hc7 : s7.heap.IsCell (L + 1) (some (.int (min q top) t3)) := cell_kp hc6 k7 (nm1 fun e => absurd e.symm (Nat.ne_of_lt (Nat.lt_succ_self L)))
      refine wpAny_execs_cons (wpAny_Assign_Name (wpAny_BinOp (cb1 c7.Gs (by k_is) rfl (Attribute_name (n_loc c7.F.ns rfl (B7.get_g c7.Gs fun s8 k8 => ?_))))) rfl)
      have hg8 : Pairs s8.heap g ps := hg.up PairV.upp fun b o e => k8.keep _ _ (k7.get (k6.keep _ _ (of_hideAll _ (up5 Z (fun _ h => .inl h) b o e))) (hLx b o (of_hideAll _ e)))
      refine c_len hg8 (Nat.le_trans (Nat.le_of_lt hgz) (by decide)) fun t9 s9 k9 => ?_
      have c9 := (c7.keep0 k8).keep0 k9
      have hL9 : Pairs s9.heap D (ps.filter fun p => decide (min q top < p.2)) := hL7.up PairV.upp fun b o e => k9.keep _ _ (k8.keep _ _ (of_hideAll _ e))
      refine cb1 c9.Gs (by k_is) rfl (n_loc c9.F.ns (v := .ref D) rfl (c_len hL9 (Nat.le_trans (List.length_filter_le _ _) (Nat.le_trans (Nat.le_of_lt hgz) (by decide))) fun t10 s10 k10 => sub_int ?_))
      have c10 := c9.keep0 k10
      refine s_loc c10.tok fun s11 c11 k11 => ?_
      have k711 : Kp [L] s7 s11 := (k8.trans (k9.trans (k10.trans Kp.tok))).of0.trans k11
      have B11 := B7.kp k711 hbL hdL
      refine wpAny_execs_cons (plainObj_wpAny_Assign_Attribute (n_loc c11.F.ns (v := .ref D) (by (repeat first | assumption | exact upd_self _ _ _ | exact cset_self _ _ _ | refine (upd_ne _ _ _ _ (by decide)).trans ?_ | refine (cset_ne _ _ _ _ (by decide)).trans ?_ | rfl)) (n_loc c11.F.ns (v := .ref bx) (by (repeat first | assumption | exact upd_self _ _ _ | exact cset_self _ _ _ | refine (upd_ne _ _ _ _ (by decide)).trans ?_ | refine (cset_ne _ _ _ _ (by decide)).trans ?_ | rfl)) (B11.set_g c11.Gs fun s12 B12 k12 => ?_))))
      have c12 := c11.keeps k12 hb hLd
      have hc12 : s12.heap.IsCell (L + 1) (some (.int (min q top) t3)) := cell_kp (cell_kp hc7 k711 (nm1 fun e => absurd e.symm (Nat.ne_of_lt (Nat.lt_succ_self L)))) k12 hCd
      refine wpAny_execs_cons (plainObj_wpAny_Assign_Attribute (n_cell hc12 (n_loc c12.F.ns (v := .ref bx) (by (repeat first | assumption | exact upd_self _ _ _ | exact cset_self _ _ _ | refine (upd_ne _ _ _ _ (by decide)).trans ?_ | refine (cset_ne _ _ _ _ (by decide)).trans ?_ | rfl)) (B12.set_fl c12.Gs fun s13 B13 k13 => ?_))))
      have c13 := c12.keeps k13 hb hLd
      refine wpAny_execs_cons (wpAny_Return_some (n_loc c13.F.ns (v := .int _ _) (by (repeat first | assumption | exact upd_self _ _ _ | exact cset_self _ _ _ | refine (upd_ne _ _ _ _ (by decide)).trans ?_ | refine (cset_ne _ _ _ _ (by decide)).trans ?_ | rfl)) ?_))
      refine hRZ _ _ ⟨_, D, by unfold fgtC; rw [e2]; rfl, by rw [e1]; exact B13, ?_, c13.kp⟩
      rw [e2]
      have k713 : Kp [L, d] s7 s13 := ((k711.mono fun x hx => by simp at hx; simp [hx]).trans (k12.mono fun x hx => by simp at hx; simp [hx])).trans (k13.mono fun x hx => by simp at hx; simp [hx])
      refine hL7.up PairV.upp fun b o e => hid_up (Y := Z) (Z := L :: (L + 1) :: Z) k713 (fun x hx => .inl ?_) (fun y hy => .inl (by simp [hy])) b o e
      rcases List.mem_cons.mp hx with e0 | hx
      · rw [e0]; exact .head _
      · rw [List.mem_singleton.mp hx]; simp [hdZ]

noncomputable def fgbQ (most : Int) (ps : List (Int × Int)) : Int := (ps.getD (ps.length - most - 1).toNat (0, 0)).2
noncomputable def fgbF (fl top most : Int) (ps : List (Int × Int)) : Int := if (ps.length : Int) ≤ most then fl else fgtF fl top (fgbQ most ps)
noncomputable def fgbP (fl top most : Int) (ps : List (Int × Int)) : List (Int × Int) := if (ps.length : Int) ≤ most then ps else fgtP fl top (fgbQ most ps) ps
noncomputable def fgbC (fl top most : Int) (ps : List (Int × Int)) : Int := if (ps.length : Int) ≤ most then 0 else fgtC fl top (fgbQ most ps) ps

theorem forget_beyond_c {w : World} {A : Around} {s : Shared} {Z : List Addr} {bx d l g : Addr} {nu top fl most : Int} {t : Tok} {ps : List (Int × Int)} (GX : Gr w (hideAll s.heap [d])) (hroom : A.depth + 1 < recursionLimit) (hh : A.handled = none) (B : BoxAt s.heap bx d nu top fl l g)
    (hdZ : d ∈ Z) (live : ∀ z ∈ Z, ∃ o, s.heap.get? z = some o) (hg : Pairs (hideAll s.heap Z) g ps) (hgz : ps.length < 64) (hm : 0 ≤ most) :
    wpAny (model PySem.Challenge.rw_nz0289_01.row.prog w) A (PySem.call (.ref 230) [.ref bx, .int most t]) (fun v s' => ∃ t' g', v = .int (fgbC fl top most ps) t' ∧ BoxAt s'.heap bx d nu top (fgbF fl top most ps) l g' ∧ Pairs (hideAll s'.heap Z) g' (fgbP fl top most ps) ∧ Kp [d] s s') (fun _ _ => False) s := by
  refine enter (binds := [(PySem.Str.ofString "box", .ref bx), (PySem.Str.ofString "most", .int most t)]) [d] GX.out GX (by k_is) (by k_is) (dl hroom 0) (BindsTo.of_eq rfl) (locs rfl) ?_ (by decide) rfl rfl rfl
  intro L s1 c k1 hL
  refine hideR fun RZ hRZ => ?_
  have B1 := B.keep k1.keep
  have hb : ∀ x ∈ [d], (hideAll s.heap [d]).get? x = none := fun x hx => hideAll_none _ hx
  have hg0 : Pairs s.heap g ps := hg.up PairV.upp fun b o e => of_hideAll _ e
  have hLZ : L ∉ Z := fun hm => by obtain ⟨o, e⟩ := live L hm; rw [hL] at e; cases e
  have hLd : L ∉ [d] := fun hm => hLZ (by rw [List.mem_singleton.mp hm]; exact hdZ)
  refine wpAny_execs_cons (wpAny_If (wpAny_isTrue_Compare1 (cb1 c.Gs (by k_is) rfl (Attribute_name (n_loc c.F.ns rfl (B1.get_g c.Gs fun s2 k2 => ?_))))))
  have c2 := c.keep0 k2
  refine c_len (hg0.up PairV.upp fun b o e => k2.keep _ _ (k1.keep _ _ e)) (Nat.le_trans (Nat.le_of_lt hgz) (by decide)) fun t3 s3 k3 => ?_
  have c3 := c2.keep0 k3
  have k13 := k2.trans k3
  have B3 := B1.keep k13.keep
  refine n_loc c3.F.ns rfl (le_int (wpAny_truthy_bool ?_))
  by_cases hq : (ps.length : Int) ≤ most
  · refine if_t (decide_eq_true hq) ?_
    refine wpAny_execs_cons (wpAny_Return_some (wpAny_Constant_int ?_))
    refine hRZ _ _ ⟨s3.toks, g, by unfold fgbC; rw [if_pos hq]; rfl, by unfold fgbF; rw [if_pos hq]; exact B3, by unfold fgbP; rw [if_pos hq]; exact hg.up PairV.upp (hid_up (X := []) ((k1.trans k13).trans Kp.tok) (fun _ h => nomatch h) fun _ h => .inl h), c3.tok.kp⟩
  · refine if_f (decide_eq_false hq) ?_
    refine wpAny_execs_nil (wpAny_execs_cons (wpAny_Return_some (cfn c3.Gs (by k_is) (by k_is) (spliced_more (n_loc c3.F.ns rfl (spliced_more (Subscript_ (Subscript_ (Attribute_name (n_loc c3.F.ns rfl (B3.get_g c3.Gs fun s4 k4 => ?_)))))))))))
    have c4 := c3.keep0 k4
    have B4 := B3.keep k4.keep
    refine wpAny_BinOp (wpAny_BinOp (cb1 c4.Gs (by k_is) rfl (Attribute_name (n_loc c4.F.ns rfl (B4.get_g c4.Gs fun s5 k5 => ?_)))))
    have c5 := c4.keep0 k5
    have k15 := k13.trans (k4.trans k5)
    refine c_len (hg0.up PairV.upp fun b o e => k15.keep _ _ (k1.keep _ _ e)) (Nat.le_trans (Nat.le_of_lt hgz) (by decide)) fun t6 s6 k6 => ?_
    have c6 := c5.keep0 k6
    have k06 := k1.trans (k15.trans k6)
    refine n_loc c6.F.ns (v := .int most t) rfl (sub_int (wpAny_Constant_int (sub_int ?_)))
    have hg6 : Pairs s6.heap g ps := hg0.up PairV.upp fun b o e => k06.keep _ _ e
    obtain ⟨vs, hlv, hp⟩ := hg6
    have hk : (ps.length - most - 1).toNat < ps.length := at_lt hm (Int.not_le.mp hq)
    obtain ⟨v, hv⟩ : ∃ v, vs[(ps.length - most - 1).toNat]? = some v := ⟨_, List.getElem?_eq_getElem (by rw [Paired.length hp]; exact hk)⟩
    obtain ⟨a, ha, T, ta, tb, rfl, hT⟩ := Paired.get hp _ _ hv
    have hfq : fgbQ most ps = a.2 := by unfold fgbQ; rw [List.getD_eq_getElem?_getD, ha]; rfl
    refine sub_list (s := { s6 with toks := _ }) hlv (at_0 (Int.not_le.mp hq)) (at_63 hm (Nat.le_of_lt hgz)) (by simpa using hv) ?_
    refine wpAny_Constant_int (sub_tup hT (by decide) (by decide) (j := 1) rfl rfl (spliced_none ⟨c6.Gs, ?_⟩))
    refine wpAny_mono (forget_gone_c (s := { s6 with toks := _ }) (Z := Z) (c6.gx hb) (dl hroom 1) hh (B.keep k06.keep) hdZ (fun z hz => let ⟨o, e⟩ := live z hz; ⟨o, k06.keep _ _ e⟩) (hg.up PairV.upp (hid_up (X := []) (k06.trans Kp.tok) (fun _ h => nomatch h) fun _ h => .inl h)) hgz) (fun v7 s7 h7 => ?_) fun _ _ f => f.elim
    obtain ⟨t', g', rfl, B7, hP7, k7⟩ := h7
    refine hRZ _ _ ⟨t', g', by unfold fgbC; rw [if_neg hq, hfq]; rfl, by unfold fgbF; rw [if_neg hq, hfq]; exact B7, by unfold fgbP; rw [if_neg hq, hfq]; exact hP7, (k06.of0.trans Kp.tok).trans k7⟩
end Mine
end
section
open PySem PySem.W PySem.Calls PyProof.Rows
namespace Mine
/-! pairs as data -/
noncomputable def pairD (p : Int × Int) : PyData := .tuple [.int p.1, .int p.2]
theorem reads_pairs {h : Heap} {vs : List Value} {ps : List (Int × Int)} (p : Paired (PairV h) vs ps) : ∃ as, ReadsAll h vs (ps.map pairD) as := by
  induction p with
  | nil => exact ⟨_, .nil⟩
  | cons f _ ih =>
    obtain ⟨T, t, u, e, o, ho, hc, n, hd⟩ := f
    obtain ⟨as, ih⟩ := ih
    rw [e]
    exact ⟨_, .cons (.tuple ho hc hd (.cons (.int _ _) (.cons (.int _ _) .nil))) ih⟩
theorem lay_pairs : ∀ ps : List (Int × Int), PyData.canLayAll0 (ps.map pairD) = true
  | [] => by simp [PyData.canLayAll0]
  | p :: r => by simp [pairD, PyData.canLayAll0, PyData.canLay0, lay_pairs r]
theorem depth_pairs : ∀ ps : List (Int × Int), PyData.depthAll (ps.map pairD) ≤ 1
  | [] => by simp [PyData.depthAll]
  | p :: r => by
    have := depth_pairs r
    simp only [List.map_cons, pairD, PyData.depthAll, PyData.depth]
    omega
theorem shaped_pairs (ps : List (Int × Int)) : SeqAt.shaped (.list (ps.map pairD)) = true := by
  have h1 := depth_pairs ps
  unfold SeqAt.shaped
  rw [Bool.and_eq_true]
  refine ⟨by simp only [PyData.canLay0]; exact lay_pairs ps, decide_eq_true ?_⟩
  simp only [PyData.depth]; omega
theorem eqv_pair (p q : Int × Int) : PyData.eqv (pairD p) (pairD q) = decide (p = q) := by
  obtain ⟨a, b⟩ := p
  obtain ⟨c, d⟩ := q
  simp only [pairD, PyData.eqvAll, PyData.eqv, Prod.mk.injEq]
  by_cases h1 : a = c <;> by_cases h2 : b = d <;> simp [h1, h2]
theorem eqv_pairs (ps : List (Int × Int)) : ∀ qs : List (Int × Int), PyData.eqvAll (ps.map pairD) (qs.map pairD) = decide (ps = qs) := by
  induction ps with
  | nil => intro qs; cases qs <;> simp [PyData.eqvAll]
  | cons p r ih =>
    intro qs
    cases qs with
    | nil => simp [PyData.eqvAll]
    | cons q l =>
      rw [List.map_cons, List.map_cons, PyData.eqvAll, eqv_pair, ih l]
      by_cases h1 : p = q <;> by_cases h2 : r = l <;> simp [h1, h2]
theorem reads_plist {h : Heap} {a : Addr} {ps : List (Int × Int)} (x : Pairs h a ps) : ∃ as, Reads h (.ref a) (.list (ps.map pairD)) as := by
  obtain ⟨vs, ⟨o, ho, hc, n, hd⟩, hp⟩ := x
  obtain ⟨as, r⟩ := reads_pairs hp
  exact ⟨_, .list ho hc hd (by simpa using r)⟩

section
variable {w : World} {A : Around} {E : Value → Shared → Prop} {s : Shared} {Q : Value → Shared → Prop} {a b : Addr}
theorem c_eq {ns ms : List Int} (ha : Ints s.heap a ns) (hb : Ints s.heap b ms) (hu : A.units + 64 < cLine) (h : Q (.bool (decide (ns = ms))) s) :
    wpAny (model PySem.Challenge.rw_nz0289_01.row.prog w) A (compareOp .Eq (.ref a) (.ref b)) Q E s :=
  let ⟨_, a1, a2⟩ := ha.ints; let ⟨_, b1, b2⟩ := hb.ints; eq_intsK a1 a2 b1 b2 hu h
theorem c_ne {ns ms : List Int} (ha : Ints s.heap a ns) (hb : Ints s.heap b ms) (hu : A.units + 64 < cLine) (h : Q (.bool (!decide (ns = ms))) s) :
    wpAny (model PySem.Challenge.rw_nz0289_01.row.prog w) A (compareOp .NotEq (.ref a) (.ref b)) Q E s :=
  let ⟨_, a1, a2⟩ := ha.ints; let ⟨_, b1, b2⟩ := hb.ints; ne_intsK a1 a2 b1 b2 hu h
theorem c_nep {ps qs : List (Int × Int)} (ha : Pairs s.heap a ps) (hb : Pairs s.heap b qs) (hu : A.units + 64 < cLine) (h : Q (.bool (!decide (ps = qs))) s) :
    wpAny (model PySem.Challenge.rw_nz0289_01.row.prog w) A (compareOp .NotEq (.ref a) (.ref b)) Q E s := by
  obtain ⟨_, r1⟩ := reads_plist ha
  obtain ⟨_, r2⟩ := reads_plist hb
  exact ne_dataH r1 r2 (shaped_pairs _) (shaped_pairs _) hu (by simp only [PyData.eqv]; rw [eqv_pairs]; exact h)
theorem any_mem (k : Int) (ns : List Int) : ns.any (· == k) = decide (k ∈ ns) := by
  by_cases h : k ∈ ns
  · rw [decide_eq_true h]; exact List.any_eq_true.mpr ⟨k, h, beq_self_eq_true k⟩
  · rw [decide_eq_false h]
    refine Bool.eq_false_iff.mpr fun q => h ?_
    obtain ⟨x, hx, e⟩ := List.any_eq_true.mp q
    rw [← beq_iff_eq.mp e]; exact hx
theorem c_in {k : Int} {t : Tok} {ns : List Int} (ha : Ints s.heap a ns) (h : Q (.bool (decide (k ∈ ns))) s) :
    wpAny (model PySem.Challenge.rw_nz0289_01.row.prog w) A (compareOp .In (.int k t) (.ref a)) Q E s :=
  let ⟨_, a1, a2⟩ := ha.ints; in_list_ints a1 a2 (by rw [any_mem]; exact h)
theorem c_notin {k : Int} {t : Tok} {ns : List Int} (ha : Ints s.heap a ns) (h : Q (.bool (!decide (k ∈ ns))) s) :
    wpAny (model PySem.Challenge.rw_nz0289_01.row.prog w) A (compareOp .NotIn (.int k t) (.ref a)) Q E s :=
  let ⟨_, a1, a2⟩ := ha.ints; notin_list_ints a1 a2 (by rw [any_mem]; exact h)
theorem Paired.app {α β : Type} {F : α → β → Prop} {l₁ m₁ : List α} {l₂ m₂ : List β} (p : Paired F l₁ l₂) (h : Paired F m₁ m₂) : Paired F (l₁ ++ m₁) (l₂ ++ m₂) := by
  induction p with
  | nil => exact h
  | cons f _ ih => exact .cons f ih
/-- l + l': a new list -/
theorem c_add {α : Type} {V : Heap → Value → α → Prop} (U : Up V) {Z : List Addr} {xs ys : List α} (live : ∀ z ∈ Z, ∃ o, s.heap.get? z = some o) (ha : LOf V (hideAll s.heap Z) a xs) (hb : LOf V (hideAll s.heap Z) b ys) (hsz : xs.length + ys.length ≤ 1000)
    (h : ∀ D s', s.heap.get? D = none → LOf V (hideAll s'.heap Z) D (xs ++ ys) → Kp [] s s' → Q (.ref D) s') :
    wpAny (model PySem.Challenge.rw_nz0289_01.row.prog w) A (binaryOp .Add (.ref a) (.ref b)) Q E s := by
  obtain ⟨vs, hl, hp⟩ := ha
  obtain ⟨us, hb, hq⟩ := hb
  have hl' : s.heap.IsList a vs.toArray := hl.at fun o e => of_hideAll Z e
  have hb' : s.heap.IsList b us.toArray := hb.at fun o e => of_hideAll Z e
  obtain ⟨⟨cls, dd, data, sl⟩, ho, hc, n, hd⟩ := id hl'
  obtain ⟨⟨cls2, dd2, data2, sl2⟩, ho2, hc2, n2, hd2⟩ := id hb'
  simp only at hc hd hc2 hd2
  subst hc hd hc2 hd2
  have e : vs.toArray ++ us.toArray = (vs ++ us).toArray := by simp
  have l1 := Paired.length hp
  have l2 := Paired.length hq
  refine concat_meets ⟨_, ho, rfl⟩ ⟨_, ho2, rfl⟩ noFill_list_add seq_list_add PySem.F.slot_list_add PySem.F.entry_list_add (PySem.F.args_list_add_2 _ _) (list_addW a b vs.toArray us.toArray n n2 dd dd2 sl sl2 (by rw [sizeLine_eq]; simp; omega)) ⟨ho, ho2, ?_⟩
  rw [e]
  have fr := fresh_of (h := s.heap) (Nat.le_refl _)
  have up : ∀ b o, (hideAll s.heap Z).get? b = some o → (hideAll (s.heap.push { cls := .type "list", data := .seq (vs ++ us).toArray }) Z).get? b = some o := hid_le (fun b o e => Heap.get?_push_of_some _ (of_hideAll Z e)) fun _ h => .inl h
  refine h _ _ fr ⟨vs ++ us, ⟨_, hideAll_get Z (Heap.get?_push_size _ rfl) fun m => ?_, rfl, _, rfl⟩, Paired.app (hp.mono fun v y q => U _ _ v y q up) (hq.mono fun v y q => U _ _ v y q up)⟩ Kp.push
  obtain ⟨o, e⟩ := live _ m
  rw [fr] at e; cases e
end
end Mine
end
section
open PySem PySem.W PySem.Calls PyProof.Rows
namespace Mine
section
variable {w : World} {A : Around} {s : Shared} {R : Result → Shared → Prop} {name qual : PySem.Str} {params : Arguments} {body : List Stmt} {scope : Scope} {dV kV doc pm cdv ct oc : Value} {an od : Option Addr} {osl : Array (Option Value)} {f : Addr} {args : List Value} {kw : List (PySem.Str × Value)} {binds : List (PySem.Str × Value)}
theorem enterK (X : List Addr) (G : Gr w s.heap) (hX : Gr w (hideAll s.heap X))
    (ho : (Mine.hd.heap_39 w.params).lookup f = some ⟨oc, od, .func (fnOf name qual params body scope dV kV doc pm an cdv ct), osl⟩) (hcd : codeIn (Mine.hd.heap_39 w.params) cdv qual = true) (hroom : A.depth < recursionLimit)
    (hbind : BindsTo s (fnOf name qual params body scope dV kV doc pm an cdv ct) ⟨args, kw⟩ binds) (hloc : ∀ y ∈ binds, scope.names.lookup y.1 = some .local)
    (h : ∀ L s1, Cx w s (hideAll s.heap X) L (fun y => binds.reverse.lookup y) s1 → Kp [] s s1 → s.heap.get? L = none →
      wpAny (model PySem.Challenge.rw_nz0289_01.row.prog w) (A.deeper (envOf qual scope L f cdv)) (execs body (envOf qual scope L f cdv)) (fun fl s' => R (.ok (.ret (retv fl))) s') (fun _ _ => False) s1)
    (hcell : ∀ x ∈ scope.names, x.2 ≠ .cell) (hco : scope.isCoroutine = false) (hgen : scope.isGenerator = false) (hk : scope.kind = .function) :
    codeAny (model PySem.Challenge.rw_nz0289_01.row.prog w) A (.call (.ref f) ⟨args, kw⟩) R s := by
  refine codeAny_call_def (fd := fnOf name qual params body scope dV kV doc pm an cdv ct) (body := body) (binds := binds) hroom (G.X _ _ ho) rfl G.nolimit (codeRec_of G.X hcd) rfl hbind hcell hloc (fun h₁ hns hk₁ => ?_) hco hgen hk
  refine wpAny_mono (h s.heap.objs.size { s with heap := h₁, toks := s.toks + binds.length } ⟨⟨hns, fun b o e => hk₁ b o (of_hideAll _ e), Nat.le_of_eq (hideAll_size _ _)⟩, hX, ⟨_, _, rfl⟩⟩ ⟨⟨_, _, rfl⟩, fun b o _ e => hk₁ b o e⟩ (fresh_of (Nat.le_refl _))) (fun fl s' z => ?_) fun _ _ z => z.elim
  cases fl <;> exact z
end

theorem attr_setN {w : World} {A : Around} {s : Shared} {E : Value → Shared → Prop} {x C d : Addr} {name : PySem.Str} {m : PySem.Str → Option Value} {k : Nat} {v : Value} {Q : Unit → Shared → Prop} (G : Gr w s.heap) (hx : s.heap.get? x = some (instObj C d)) (hd : DAt s.heap d m k) (ok : AttrOk (Mine.hd.heap_39 w.params) C name) (hk : k ≤ 900)
    (h : ∀ s', DAt s'.heap d (upd m name v) (k + 1) → Kp [d] s s' → Q () s') : wpAny (model PySem.Challenge.rw_nz0289_01.row.prog w) A (setAttr (.ref x) name v) Q E s :=
  attr_set G hx hd ok hk fun s' d' k' => h s' (d'.mono (by split <;> omega)) k'
theorem l_uid (P : Params) : AttrOk (Mine.hd.heap_39 P) 113 (PySem.Str.ofString "uid") := a_uid P
theorem l_oct (P : Params) : AttrOk (Mine.hd.heap_39 P) 113 (PySem.Str.ofString "octets") := ⟨by k_is, by k_is, by k_is, by k_is, by k_is, by k_is⟩
theorem l_fla (P : Params) : AttrOk (Mine.hd.heap_39 P) 113 (PySem.Str.ofString "flags") := ⟨by k_is, by k_is, by k_is, by k_is, by k_is, by k_is⟩
theorem l_ins (P : Params) : AttrOk (Mine.hd.heap_39 P) 113 (PySem.Str.ofString "instant") := ⟨by k_is, by k_is, by k_is, by k_is, by k_is, by k_is⟩
theorem l_mod (P : Params) : AttrOk (Mine.hd.heap_39 P) 113 (PySem.Str.ofString "modseq") := ⟨by k_is, by k_is, by k_is, by k_is, by k_is, by k_is⟩
theorem b_name (P : Params) : AttrOk (Mine.hd.heap_39 P) 151 (PySem.Str.ofString "name") := ⟨by k_is, by k_is, by k_is, by k_is, by k_is, by k_is⟩
theorem b_val (P : Params) : AttrOk (Mine.hd.heap_39 P) 151 (PySem.Str.ofString "validity") := ⟨by k_is, by k_is, by k_is, by k_is, by k_is, by k_is⟩

section
variable {w : World} {A : Around} {s : Shared}
theorem mk {C fI : Addr} {rest : List Value} {Q : Value → Shared → Prop} (G : Gr w s.heap) (hmk : makesIn (Mine.hd.heap_39 w.params) C = true) (hi : findIn (Mine.hd.heap_39 w.params) (.ref C) "__init__" = some (some (.ref fI))) (ht : typeIn (Mine.hd.heap_39 w.params) (.ref fI) = some (.type "function"))
    (h : ∀ x dx s1, s.heap.get? x = none → s.heap.get? dx = none → x ≠ dx → s1.heap.get? x = some (instObj C dx) → DAt s1.heap dx (fun _ => none) 0 → Kp [] s s1 → Gr w (hideAll s1.heap [dx]) →
      codeAny (model PySem.Challenge.rw_nz0289_01.row.prog w) (A.under (.builtin "type.__call__" ⟨.ref C :: rest, []⟩)) (.call (.ref fI) ⟨.ref x :: rest, []⟩) (InitBack x fun r s' => match r with | .ok (.ret v) => Q v s' | .ok _ => False | .error _ => False) s1) :
    wpAny (model PySem.Challenge.rw_nz0289_01.row.prog w) A (PySem.call (.ref C) rest) Q (fun _ _ => False) s := by
  obtain ⟨hp, g, dr, tk, os⟩ := s
  have X := G.X
  refine wpAny_call (make_core (makes_of X hmk) (looks_findIn (r := some (.ref fI)) X hi) (fun self => bind_fn X self ht) (.inl rfl) ?_)
  have old : ∀ b o, hp.get? b = some o → ((hp.push emptyDict).push (instObj C hp.objs.size)).get? b = some o := fun b o e => Heap.get?_push_of_some _ (Heap.get?_push_of_some _ e)
  have f1 : hp.get? hp.objs.size = none := fresh_of (Nat.le_refl _)
  have e1 : ((hp.push emptyDict).push (instObj C hp.objs.size)).get? hp.objs.size = some emptyDict := Heap.get?_push_of_some _ (Heap.get?_push_size _ rfl)
  have e2 : ((hp.push emptyDict).push (instObj C hp.objs.size)).get? (hp.objs.size + 1) = some (instObj C hp.objs.size) := by
    have := Heap.get?_push_size (hp.push emptyDict) (o := instObj C hp.objs.size) rfl
    rwa [Heap.size_push] at this
  exact h (hp.objs.size + 1) hp.objs.size _ (fresh_of (Nat.le_succ _)) f1 (fun e => absurd e.symm (Nat.ne_of_lt (Nat.lt_succ_self _))) e2 ⟨[], 0, e1, fun _ => rfl, Nat.le_refl _⟩ ⟨⟨_, _, rfl⟩, fun b o _ e => old b o e⟩
    (G.keeps fun b o e => hideAll_get _ (old b o e) (nm1 fun q => by rw [q, f1] at e; cases e))
end

theorem uw {A : Around} {C : Addr} {rest : List Value} : (A.under (.builtin "type.__call__" ⟨.ref C :: rest, []⟩)).depth = A.depth + (Code.builtin "type.__call__" ⟨.ref C :: rest, []⟩).weight := rfl
theorem uw1 {C : Addr} {rest : List Value} : (Code.builtin "type.__call__" ⟨.ref C :: rest, []⟩).weight ≤ 1 := by
  first | exact Nat.le_of_eq rfl | decide

theorem letter_c {w : World} {A : Around} {s : Shared} {Z : List Addr} {u : Int} {t : Tok} {oct ins md : Value} {T : Addr} {its : Array Value} (G : Gr w s.heap) (hroom : A.depth + 1 < recursionLimit) (live : ∀ z ∈ Z, ∃ o, s.heap.get? z = some o) (hT : s.heap.IsTuple T its) :
    wpAny (model PySem.Challenge.rw_nz0289_01.row.prog w) A (PySem.call (.ref 113) [.int u t, oct, .ref T, ins, md]) (fun v s' => LetV (hideAll s'.heap Z) v u ∧ Kp [] s s') (fun _ _ => False) s := by
  refine mk (fI := 96) G (by k_is) (by k_is) (by k_is) fun x dx s1 hx hdx hne ex ed k1 GX => ?_
  have hdl : ∀ h, h ∈ [dx] → s.heap.get? h = none := fun h m => by rw [List.mem_singleton.mp m]; exact hdx
  refine enterK (binds := [(PySem.Str.ofString "self", .ref x), (PySem.Str.ofString "uid", .int u t), (PySem.Str.ofString "octets", oct), (PySem.Str.ofString "flags", .ref T), (PySem.Str.ofString "instant", ins), (PySem.Str.ofString "modseq", md)]) [dx] GX.out GX (by k_is) (by k_is)
    (by rw [uw]; have := uw1 (C := 113) (rest := [.int u t, oct, .ref T, ins, md]); omega) (BindsTo.of_eq rfl) (locs rfl) ?_ (by decide) rfl rfl rfl
  intro L s2 c k2 hL
  have hb : ∀ x ∈ [dx], (hideAll s1.heap [dx]).get? x = none := fun x hx => hideAll_none _ hx
  have hLd : L ∉ [dx] := nm1 fun e => by obtain ⟨es, n, e', _⟩ := ed; rw [← e, hL] at e'; cases e'
  have hxd : x ∉ [dx] := nm1 hne
  refine wpAny_execs_cons (plainObj_wpAny_Assign_Attribute (n_loc c.F.ns (v := .int u t) rfl (n_loc c.F.ns (v := .ref x) rfl (attr_setN c.Gs (k2.keep _ _ ex) (ed.keep fun o e => k2.keep _ _ e) (l_uid _) (by decide) fun s3 d3 k3 => ?_))))
  have c3 := c.keeps k3 hb hLd
  have ex3 := k3.get (k2.keep _ _ ex) hxd
  refine wpAny_execs_cons (plainObj_wpAny_Assign_Attribute (n_loc c3.F.ns (v := oct) rfl (n_loc c3.F.ns (v := .ref x) rfl (attr_setN c3.Gs ex3 d3 (l_oct _) (by decide) fun s4 d4 k4 => ?_))))
  have c4 := c3.keeps k4 hb hLd
  have ex4 := k4.get ex3 hxd
  have hT4 : s4.heap.IsTuple T its := by
    obtain ⟨o, e, r⟩ := hT
    exact ⟨o, k4.get (k3.get (k2.keep _ _ (k1.keep _ _ e)) (nm1 fun q => by rw [q, hdx] at e; cases e)) (nm1 fun q => by rw [q, hdx] at e; cases e), r⟩
  refine wpAny_execs_cons (plainObj_wpAny_Assign_Attribute (ct1 c4.Gs (by k_is) rfl (n_loc c4.F.ns (v := .ref T) rfl (call_tuple_same hT4 (n_loc c4.F.ns (v := .ref x) rfl (attr_setN c4.Gs ex4 d4 (l_fla _) (by decide) fun s5 d5 k5 => ?_))))))
  have c5 := c4.keeps k5 hb hLd
  have ex5 := k5.get ex4 hxd
  refine wpAny_execs_cons (plainObj_wpAny_Assign_Attribute (n_loc c5.F.ns (v := ins) rfl (n_loc c5.F.ns (v := .ref x) rfl (attr_setN c5.Gs ex5 d5 (l_ins _) (by decide) fun s6 d6 k6 => ?_))))
  have c6 := c5.keeps k6 hb hLd
  have ex6 := k6.get ex5 hxd
  refine wpAny_execs_cons (plainObj_wpAny_Assign_Attribute (n_loc c6.F.ns (v := md) rfl (n_loc c6.F.ns (v := .ref x) rfl (attr_setN c6.Gs ex6 d6 (l_mod _) (by decide) fun s7 d7 k7 => ?_))))
  have c7 := c6.keeps k7 hb hLd
  have ex7 := k7.get ex6 hxd
  have hZ : ∀ a o, s.heap.get? a = none → s7.heap.get? a = some o → (hideAll s7.heap Z).get? a = some o := fun a o n e => hideAll_get Z e fun m => by obtain ⟨o, e⟩ := live a m; rw [n] at e; cases e
  refine wpAny_execs_nil ⟨rfl, ⟨x, rfl, dx, _, _, t, hZ _ _ hx ex7, d7.keep fun o e => hZ _ _ hdx e, by (repeat first | assumption | exact upd_self _ _ _ | exact cset_self _ _ _ | refine (upd_ne _ _ _ _ (by decide)).trans ?_ | refine (cset_ne _ _ _ _ (by decide)).trans ?_ | rfl)⟩, ?_⟩
  exact (k1.of0.trans c7.kp).drop hdx
end Mine
end
section
open PySem PySem.W PySem.Calls PyProof.Rows
namespace Mine
section
variable {w : World} {A : Around} {E : Value → Shared → Prop} {s : Shared} {Q : Value → Shared → Prop}
/-- a new list that bears no dict -/
theorem new_pl {vs : List Value} (hsz : vs.length ≤ 1000) (h : ∀ T s', s.heap.get? T = none → s'.heap.PlainList T vs.toArray → Kp [] s s' → Q (.ref T) s') :
    wpAny (model PySem.Challenge.rw_nz0289_01.row.prog w) A (newList vs) Q E s := by
  refine wpAny_newObj_type (h _ _ (fresh_of (Nat.le_refl _)) ⟨_, Heap.get?_push_size _ rfl⟩ Kp.push) (by show vs.toArray.size ≤ sizeLine; rw [List.size_toArray, sizeLine_eq]; omega)
theorem getm_append {D : Addr} {items : Array Value} {pl : Sem Bool} {Q : Value × List Value → Shared → Prop} (hl : s.heap.PlainList D items) (h : Q (.builtin "list.append", [.ref D]) s) :
    wpAny (model PySem.Challenge.rw_nz0289_01.row.prog w) A (getMethod (.ref D) (PySem.Str.ofString "append") pl) Q E s := by
  obtain ⟨n, ho⟩ := hl
  exact getMethod_builtin ⟨_, ho, rfl⟩ PySem.F.plainAttrs_list PySem.F.slot_list_append PySem.F.type_list_append (fun a e => by cases e; exact ⟨_, ho, rfl⟩) h
theorem plain_is {h : Heap} {D : Addr} {items : Array Value} (x : h.PlainList D items) : h.IsList D items := let ⟨_, e⟩ := x; ⟨_, e, rfl, _, rfl⟩
theorem plain_at {h h' : Heap} {D : Addr} {items : Array Value} (x : h.PlainList D items) (k : ∀ o, h.get? D = some o → h'.get? D = some o) : h'.PlainList D items := let ⟨n, e⟩ := x; ⟨n, k _ e⟩
end
theorem box_c {w : World} {A : Around} {s : Shared} {nm : PySem.Str} {t u : Tok} {v : Int} (G : Gr w s.heap) (hroom : A.depth + 1 < recursionLimit) :
    wpAny (model PySem.Challenge.rw_nz0289_01.row.prog w) A (PySem.call (.ref 151) [.str nm t, .int v u]) (fun v s' => ∃ bx d l g, v = .ref bx ∧ s.heap.get? bx = none ∧ s.heap.get? d = none ∧ s.heap.get? l = none ∧ s.heap.get? g = none ∧ l ≠ g ∧ BoxAt s'.heap bx d 1 1 0 l g ∧ s'.heap.PlainList l #[] ∧ s'.heap.PlainList g #[] ∧ Kp [] s s') (fun _ _ => False) s := by
  refine mk (fI := 131) G (by k_is) (by k_is) (by k_is) fun x dx s1 hx hdx hne ex ed k1 GX => ?_
  refine enterK (binds := [(PySem.Str.ofString "self", .ref x), (PySem.Str.ofString "name", .str nm t), (PySem.Str.ofString "validity", .int v u)]) [dx] GX.out GX (by k_is) (by k_is)
    (by rw [uw]; have := uw1 (C := 151) (rest := [.str nm t, .int v u]); omega) (BindsTo.of_eq rfl) (locs rfl) ?_ (by decide) rfl rfl rfl
  intro L s2 c k2 hL
  have hb : ∀ x ∈ [dx], (hideAll s1.heap [dx]).get? x = none := fun x hx => hideAll_none _ hx
  have hLd : L ∉ [dx] := nm1 fun e => by obtain ⟨es, n, e', _⟩ := ed; rw [← e, hL] at e'; cases e'
  have hxd : x ∉ [dx] := nm1 hne
  refine wpAny_execs_cons (plainObj_wpAny_Assign_Attribute (n_loc c.F.ns (v := .str nm t) rfl (n_loc c.F.ns (v := .ref x) rfl (attr_setN c.Gs (k2.keep _ _ ex) (ed.keep fun o e => k2.keep _ _ e) (b_name _) (by decide) fun s3 d3 k3 => ?_))))
  have c3 := c.keeps k3 hb hLd
  have ex3 := k3.get (k2.keep _ _ ex) hxd
  refine wpAny_execs_cons (plainObj_wpAny_Assign_Attribute (n_loc c3.F.ns (v := .int v u) rfl (n_loc c3.F.ns (v := .ref x) rfl (attr_setN c3.Gs ex3 d3 (b_val _) (by decide) fun s4 d4 k4 => ?_))))
  have c4 := c3.keeps k4 hb hLd
  have ex4 := k4.get ex3 hxd
  refine wpAny_execs_cons (plainObj_wpAny_Assign_Attribute (wpAny_Constant_int (n_loc c4.F.ns (v := .ref x) rfl (attr_setN (s := { s4 with toks := _ }) c4.Gs ex4 d4 (b_next _) (by decide) fun s5 d5 k5 => ?_))))
  have c5 := c4.tok.keeps k5 hb hLd
  have ex5 := k5.get ex4 hxd
  refine wpAny_execs_cons (plainObj_wpAny_Assign_Attribute (wpAny_Constant_int (n_loc c5.F.ns (v := .ref x) rfl (attr_setN (s := { s5 with toks := _ }) c5.Gs ex5 d5 (b_top _) (by decide) fun s6 d6 k6 => ?_))))
  have c6 := c5.tok.keeps k6 hb hLd
  have ex6 := k6.get ex5 hxd
  refine wpAny_execs_cons (plainObj_wpAny_Assign_Attribute (wpAny_Constant_int (n_loc c6.F.ns (v := .ref x) rfl (attr_setN (s := { s6 with toks := _ }) c6.Gs ex6 d6 (b_floor _) (by decide) fun s7 d7 k7 => ?_))))
  have c7 := c6.tok.keeps k7 hb hLd
  have ex7 := k7.get ex6 hxd
  refine wpAny_execs_cons (plainObj_wpAny_Assign_Attribute (List_ (spliced_none (new_pl (by decide) fun l s8 hl8 pl8 k8 => ?_))))
  have c8 := c7.keep0 k8
  have ex8 := k8.keep _ _ ex7
  refine n_loc c8.F.ns (v := .ref x) rfl (attr_setN c8.Gs ex8 (d7.keep fun o e => k8.keep _ _ e) (b_letters _) (by decide) fun s9 d9 k9 => ?_)
  have c9 := c8.keeps k9 hb hLd
  have ex9 := k9.get ex8 hxd
  refine wpAny_execs_cons (plainObj_wpAny_Assign_Attribute (List_ (spliced_none (new_pl (by decide) fun g s10 hg10 pg10 k10 => ?_))))
  have c10 := c9.keep0 k10
  have ex10 := k10.keep _ _ ex9
  refine n_loc c10.F.ns (v := .ref x) rfl (attr_setN c10.Gs ex10 (d9.keep fun o e => k10.keep _ _ e) (b_gone _) (by decide) fun s11 d11 k11 => ?_)
  have c11 := c10.keeps k11 hb hLd
  have ex11 := k11.get ex10 hxd
  have dn : ∀ a, s7.heap.get? a = none → a ≠ dx := fun a n e => by obtain ⟨es, _, e', _⟩ := d7; rw [e, e'] at n; cases n
  have dn' : ∀ a, s9.heap.get? a = none → a ≠ dx := fun a n e => by obtain ⟨es, _, e', _⟩ := d9; rw [e, e'] at n; cases n
  have pl9 : s9.heap.PlainList l #[] := plain_at pl8 fun o e => k9.get e (nm1 (dn l hl8))
  have pl11 : s11.heap.PlainList l #[] := plain_at pl9 fun o e => k11.get (k10.keep _ _ e) (nm1 (dn l hl8))
  have pg11 : s11.heap.PlainList g #[] := plain_at pg10 fun o e => k11.get e (nm1 (dn' g hg10))
  have fr : ∀ a, s7.heap.get? a = none → s.heap.get? a = none := fun a n => by
    cases e : s.heap.get? a with
    | none => rfl
    | some o => rw [c7.kp.get (k1.keep _ _ e) (nm1 fun q => by rw [q, hdx] at e; cases e)] at n; cases n
  have fr' : ∀ a, s9.heap.get? a = none → s.heap.get? a = none := fun a n => by
    cases e : s.heap.get? a with
    | none => rfl
    | some o => rw [c9.kp.get (k1.keep _ _ e) (nm1 fun q => by rw [q, hdx] at e; cases e)] at n; cases n
  have hlg : l ≠ g := fun e => by obtain ⟨n, e'⟩ := pl9; rw [e, hg10] at e'; cases e'
  refine wpAny_execs_nil ⟨rfl, ⟨x, dx, l, g, rfl, hx, hdx, fr l hl8, fr' g hg10, hlg, ⟨ex11, _, d11, ⟨⟨_, by (repeat first | assumption | exact upd_self _ _ _ | exact cset_self _ _ _ | refine (upd_ne _ _ _ _ (by decide)).trans ?_ | refine (cset_ne _ _ _ _ (by decide)).trans ?_ | rfl)⟩, ⟨_, by (repeat first | assumption | exact upd_self _ _ _ | exact cset_self _ _ _ | refine (upd_ne _ _ _ _ (by decide)).trans ?_ | refine (cset_ne _ _ _ _ (by decide)).trans ?_ | rfl)⟩, ⟨_, by (repeat first | assumption | exact upd_self _ _ _ | exact cset_self _ _ _ | refine (upd_ne _ _ _ _ (by decide)).trans ?_ | refine (cset_ne _ _ _ _ (by decide)).trans ?_ | rfl)⟩, by (repeat first | assumption | exact upd_self _ _ _ | exact cset_self _ _ _ | refine (upd_ne _ _ _ _ (by decide)).trans ?_ | refine (cset_ne _ _ _ _ (by decide)).trans ?_ | rfl), by (repeat first | assumption | exact upd_self _ _ _ | exact cset_self _ _ _ | refine (upd_ne _ _ _ _ (by decide)).trans ?_ | refine (cset_ne _ _ _ _ (by decide)).trans ?_ | rfl), by (repeat first | assumption | exact upd_self _ _ _ | exact cset_self _ _ _ | refine (upd_ne _ _ _ _ (by decide)).trans ?_ | refine (cset_ne _ _ _ _ (by decide)).trans ?_ | rfl)⟩⟩, pl11, pg11, (k1.of0.trans c11.kp).drop hdx⟩⟩

theorem flag_tuple_c {w : World} {A : Around} {s : Shared} {F : Addr} (G : Gr w s.heap) (hroom : A.depth < recursionLimit) (hh : A.handled = none) (hF : s.heap.IsList F #[]) :
    wpAny (model PySem.Challenge.rw_nz0289_01.row.prog w) A (PySem.call (.ref 82) [.ref F]) (fun v s' => ∃ T, v = .ref T ∧ s'.heap.IsTuple T #[] ∧ Kp [] s s') (fun _ _ => False) s := by
  refine enter (binds := [(PySem.Str.ofString "flags", .ref F)]) [] G G (by k_is) (by k_is) hroom (BindsTo.of_eq rfl) (locs rfl) ?_ (by decide) rfl rfl rfl
  intro L s1 c k1 hL
  refine wpAny_execs_cons (wpAny_Assign_Name (List_ (spliced_none (new_list (by decide) fun D s2 hD2 hl2 k2 => ?_))) rfl)
  have c2 := c.keep0 k2
  refine s_loc c2 fun s3 c3 k3 => ?_
  have hF3 : s3.heap.IsList F #[] := hF.at fun o e => c3.F.keep _ _ e
  have hD3 : s3.heap.IsList D #[] := by
    obtain ⟨o, e, r⟩ := hl2
    exact ⟨o, k3.get e (nm1 (ns_ne_list c2.F.ns ⟨o, e, r⟩)), r⟩
  refine wpAny_execs_cons (for_list (V₀ := fun _ _ (_ : Unit) => True) (xs := []) (Y := []) hh (n_loc c3.F.ns (v := .ref F) (by (repeat first | assumption | exact upd_self _ _ _ | exact cset_self _ _ _ | refine (upd_ne _ _ _ _ (by decide)).trans ?_ | refine (cset_ne _ _ _ _ (by decide)).trans ?_ | rfl)) ⟨F, rfl, ⟨[], hF3, .nil⟩, (fun _ h => nomatch h), fun Z i s' => s.heap.get? (Z.headD 0) = none ∧ s3.heap.get? (Z.headD 0) = none ∧ Kp [Z.headD 0] s3 s', ?_, ?_, ?_, ?_⟩) (fun _ => rfl))
  · intro I i s4 s5 hI h k; exact ⟨h.1, h.2.1, h.2.2.trans k⟩
  · intro I s4 hI hI4 k
    refine ⟨?_, hI, k.of0⟩
    show s.heap.get? I = none
    cases e : s.heap.get? I with
    | none => rfl
    | some o => rw [c3.F.keep _ _ e] at hI; cases hI
  · intro I i a v s4 RQ hRQ hI ha; simp at ha
  · rintro I s4 hI ⟨h1, h2, h3⟩
    have k4 : Kp [] s3 s4 := h3.drop hI
    have c4 := c3.keep0 k4
    refine wpAny_execs_cons (wpAny_Return_some (ct1 c4.Gs (by k_is) rfl (cb1 c4.Gs (by k_is) rfl (n_loc c4.F.ns (v := .ref D) (by (repeat first | assumption | exact upd_self _ _ _ | exact cset_self _ _ _ | refine (upd_ne _ _ _ _ (by decide)).trans ?_ | refine (cset_ne _ _ _ _ (by decide)).trans ?_ | rfl)) (c_sorted (ns := []) ⟨[], hD3.at fun o e => k4.keep _ _ e, .nil⟩ (by decide) fun D5 s5 hD5 hI5 k5 => ?_)))))
    obtain ⟨vs, h6, h7⟩ := hI5
    have : vs = [] := by
      have := Paired.length h7
      simpa [sortI] using this
    subst this
    refine call_tuple_list h6 (fun h' hk => ?_) (Nat.zero_le _)
    refine ⟨_, rfl, ⟨_, Heap.get?_push_size _ rfl, rfl, _, rfl⟩, ((c4.keep0 k5).kp0).trans ⟨⟨_, _, rfl⟩, fun b o _ e => Heap.get?_push_of_some _ (hk b o e)⟩⟩
end Mine
end
section
open PySem PySem.W PySem.Calls PyProof.Rows
namespace Mine
theorem DAt.ne_list {h : Heap} {d : Addr} {m k} {a : Addr} {items : Array Value} (x : DAt h d m k) (y : h.IsList a items) : a ≠ d := by
  rintro rfl
  obtain ⟨es, n, e, _⟩ := x
  obtain ⟨o, e', hc, n', hd⟩ := y
  rw [e] at e'; cases e'; cases hd
theorem DAt.ne_tup {h : Heap} {d : Addr} {m k} {a : Addr} {items : Array Value} (x : DAt h d m k) (y : h.IsTuple a items) : a ≠ d := by
  rintro rfl
  obtain ⟨es, n, e, _⟩ := x
  obtain ⟨o, e', hc, n', hd⟩ := y
  rw [e] at e'; cases e'; cases hd
theorem BoxAt.dat {h : Heap} {bx d nu top fl l g} (x : BoxAt h bx d nu top fl l g) : ∃ m, DAt h d m 7 := let ⟨_, m, b, _⟩ := x; ⟨m, b⟩
theorem BoxAt.live {h : Heap} {bx d nu top fl l g} (x : BoxAt h bx d nu top fl l g) : ∃ o, h.get? d = some o := let ⟨_, b⟩ := x.dat; b.live
theorem BoxAt.bx_list {h : Heap} {bx d nu top fl l g} (x : BoxAt h bx d nu top fl l g) {a : Addr} {items : Array Value} (y : h.IsList a items) : bx ≠ a := by
  rintro rfl
  obtain ⟨o, e', hc, n', hd⟩ := y
  have := x.1
  rw [e'] at this; cases this; cases hd
theorem BoxAt.bx_tup {h : Heap} {bx d nu top fl l g} (x : BoxAt h bx d nu top fl l g) {a : Addr} {items : Array Value} (y : h.IsTuple a items) : bx ≠ a := by
  rintro rfl
  obtain ⟨o, e', hc, n', hd⟩ := y
  have := x.1
  rw [e'] at this; cases this; cases hd
theorem live_of {X Z : List Addr} {s s' : Shared} (live : ∀ z ∈ Z, ∃ o, s.heap.get? z = some o) (k : Kp X s s') (hX : ∀ x ∈ X, ∃ o, s'.heap.get? x = some o) : ∀ z ∈ Z, ∃ o, s'.heap.get? z = some o := fun z hz => by
  by_cases h : z ∈ X
  · exact hX z h
  · obtain ⟨o, e⟩ := live z hz; exact ⟨o, k.get e h⟩
theorem Kp.wid1 {a : Addr} {Y : List Addr} {s s' : Shared} (k : Kp [a] s s') (h : a ∈ Y) : Kp Y s s' := k.mono fun x hx => by rw [List.mem_singleton.mp hx]; exact h
theorem nm2 {a b c : Addr} (h : a ≠ b) (h' : a ≠ c) : a ∉ [b, c] := fun m => by
  rcases List.mem_cons.mp m with e | m
  · exact h e
  · exact h' (List.mem_singleton.mp m)

theorem add_letter_c {w : World} {A : Around} {s : Shared} {Z : List Addr} {bx d l g F : Addr} {nu top fl : Int} {vs : List Value} {us : List Int} {oct ins : Value} (GX : Gr w (hideAll s.heap [d, l])) (hroom : A.depth + 2 < recursionLimit) (hh : A.handled = none) (B : BoxAt s.heap bx d nu top fl l g)
    (hl : s.heap.PlainList l vs.toArray) (hp : Paired (LetV (hideAll s.heap Z)) vs us) (hdZ : d ∈ Z) (hlZ : l ∈ Z) (live : ∀ z ∈ Z, ∃ o, s.heap.get? z = some o) (hsz : vs.length ≤ 1000) (hF : s.heap.IsList F #[]) :
    wpAny (model PySem.Challenge.rw_nz0289_01.row.prog w) A (PySem.call (.ref 176) [.ref bx, oct, .ref F, ins]) (fun v s' => BoxAt s'.heap bx d (nu + 1) (top + 1) fl l g ∧ s'.heap.PlainList l (vs ++ [v]).toArray ∧ Paired (LetV (hideAll s'.heap Z)) (vs ++ [v]) (us ++ [nu]) ∧ Kp [d, l] s s') (fun _ _ => False) s := by
  refine enter (binds := [(PySem.Str.ofString "box", .ref bx), (PySem.Str.ofString "octets", oct), (PySem.Str.ofString "flags", .ref F), (PySem.Str.ofString "instant", ins)]) [d, l] GX.out GX (by k_is) (by k_is) (dl hroom 0) (BindsTo.of_eq rfl) (locs rfl) ?_ (by decide) rfl rfl rfl
  intro L s1 c k1 hL
  refine hideR fun RZ hRZ => ?_
  have hb : ∀ x ∈ [d, l], (hideAll s.heap [d, l]).get? x = none := fun x hx => hideAll_none _ hx
  have hb1 : ∀ x ∈ [d], (hideAll s.heap [d, l]).get? x = none := fun x hx => hideAll_none _ (by rw [List.mem_singleton.mp hx]; exact .head _)
  have hb2 : ∀ x ∈ [l], (hideAll s.heap [d, l]).get? x = none := fun x hx => hideAll_none _ (by rw [List.mem_singleton.mp hx]; simp)
  have hLa : ∀ a, (∃ o, s.heap.get? a = some o) → L ≠ a := fun a ⟨o, e⟩ q => by rw [← q, hL] at e; cases e
  have hld := hLa d (live d hdZ)
  have hll := hLa l (live l hlZ)
  refine wpAny_execs_cons (wpAny_Assign_Name (cfn c.Gs (by k_is) (by k_is) (spliced_more (n_loc c.F.ns (v := .ref F) rfl (spliced_none ⟨c.Gs, ?_⟩)))) rfl)
  refine wpAny_mono (flag_tuple_c c.Gs (dl hroom 1) hh (hF.at fun o e => k1.keep _ _ e)) (fun v2 s2 h2 => ?_) fun _ _ f => f.elim
  obtain ⟨T, rfl, hT, k2⟩ := h2
  have c2 := c.keep0 k2
  refine s_loc c2 fun s3 c3 k3 => ?_
  have hT3 : s3.heap.IsTuple T #[] := hT.at fun o e => k3.get e (nm1 (ns_ne_tup c2.F.ns hT))
  have k13 : Kp [L] s s3 := (k1.trans k2).of0.trans k3
  have hbL : bx ∉ [L] := nm1 fun e => by have := B.1; rw [e, hL] at this; cases this
  have B3 := B.kp k13 hbL (nm1 (Ne.symm hld))
  refine wpAny_execs_cons (wpAny_Assign_Name (cfn c3.Gs (by k_is) (by k_is) (spliced_more (Attribute_name (n_loc c3.F.ns (v := .ref bx) (by (repeat first | assumption | exact upd_self _ _ _ | exact cset_self _ _ _ | refine (upd_ne _ _ _ _ (by decide)).trans ?_ | refine (cset_ne _ _ _ _ (by decide)).trans ?_ | rfl)) (B3.get_nu c3.Gs fun t4 s4 k4 => ?_))))) rfl)
  have c4 := c3.keep0 k4
  have B4 := B3.keep k4.keep
  refine spliced_more (n_loc c4.F.ns (v := oct) (by (repeat first | assumption | exact upd_self _ _ _ | exact cset_self _ _ _ | refine (upd_ne _ _ _ _ (by decide)).trans ?_ | refine (cset_ne _ _ _ _ (by decide)).trans ?_ | rfl)) (spliced_more (n_loc c4.F.ns (v := .ref T) (by (repeat first | assumption | exact upd_self _ _ _ | exact cset_self _ _ _ | refine (upd_ne _ _ _ _ (by decide)).trans ?_ | refine (cset_ne _ _ _ _ (by decide)).trans ?_ | rfl)) (spliced_more (n_loc c4.F.ns (v := ins) (by (repeat first | assumption | exact upd_self _ _ _ | exact cset_self _ _ _ | refine (upd_ne _ _ _ _ (by decide)).trans ?_ | refine (cset_ne _ _ _ _ (by decide)).trans ?_ | rfl)) (spliced_more (cfn c4.Gs (by k_is) (by k_is) (spliced_more (n_loc c4.F.ns (v := .ref bx) (by (repeat first | assumption | exact upd_self _ _ _ | exact cset_self _ _ _ | refine (upd_ne _ _ _ _ (by decide)).trans ?_ | refine (cset_ne _ _ _ _ (by decide)).trans ?_ | rfl)) (spliced_none ⟨c4.Gs, ?_⟩)))))))))) 
  refine wpAny_mono (raised_c (c4.gx hb1) (dl hroom 1) B4) (fun v5 s5 h5 => ?_) fun _ _ f => f.elim
  obtain ⟨⟨t5, rfl⟩, B5, k5⟩ := h5
  have c5 := c4.keeps k5 hb1 (nm1 hld)
  have hT5 : s5.heap.IsTuple T #[] := by
    have hT4 : s4.heap.IsTuple T #[] := hT3.at fun o e => k4.keep _ _ e
    obtain ⟨m, D4⟩ := B4.dat
    exact hT4.at fun o e => k5.get e (nm1 (D4.ne_tup hT4))
  have k05 : Kp [L, d] s s5 := ((k13.wid1 (.head _)).trans (k4.of0)).trans (k5.wid1 (by simp))
  have live5 : ∀ z ∈ L :: Z, ∃ o, s5.heap.get? z = some o := fun z hz => by
    rcases List.mem_cons.mp hz with e0 | hz
    · rw [e0]; obtain ⟨o, _, _, e, _⟩ := c5.F.ns; exact ⟨o, e⟩
    · refine live_of live k05 (fun x hx => ?_) z hz
      rcases List.mem_cons.mp hx with e0 | hx
      · rw [e0]; obtain ⟨o, _, _, e, _⟩ := c5.F.ns; exact ⟨o, e⟩
      · rw [List.mem_singleton.mp hx]; exact B5.live
  refine spliced_none ⟨c5.Gs, ?_⟩
  refine wpAny_mono (letter_c (Z := L :: Z) c5.Gs (dl hroom 2) live5 hT5) (fun v6 s6 h6 => ?_) fun _ _ f => f.elim
  obtain ⟨hV6, k6⟩ := h6
  have c6 := c5.keep0 k6
  refine s_loc c6 fun s7 c7 k7 => ?_
  have B7 := (B5.keep k6.keep).kp k7 hbL (nm1 (Ne.symm hld))
  refine wpAny_execs_cons (plainObj_wpAny_Assign_Attribute (wpAny_BinOp (Attribute_name (n_loc c7.F.ns (v := .ref bx) (by (repeat first | assumption | exact upd_self _ _ _ | exact cset_self _ _ _ | refine (upd_ne _ _ _ _ (by decide)).trans ?_ | refine (cset_ne _ _ _ _ (by decide)).trans ?_ | rfl)) (B7.get_nu c7.Gs fun t8 s8 k8 => wpAny_Constant_int (add_int ?_))))))
  have c8 := c7.keep0 k8
  have B8 := B7.keep k8.keep
  refine n_loc c8.F.ns (v := .ref bx) (by (repeat first | assumption | exact upd_self _ _ _ | exact cset_self _ _ _ | refine (upd_ne _ _ _ _ (by decide)).trans ?_ | refine (cset_ne _ _ _ _ (by decide)).trans ?_ | rfl)) (BoxAt.set_nu (s := { s8 with toks := _ }) B8 c8.Gs fun s9 B9 k9 => ?_)
  have c9 := c8.tok.keeps k9 hb1 (nm1 hld)
  have k59 : Kp [L, d] s5 s9 := (((k6.of0).trans (k7.wid1 (.head _))).trans (k8.of0.trans Kp.tok)).trans (k9.wid1 (by simp))
  have k09 := k05.trans k59
  have hlL : l ∉ [L, d] := nm2 (Ne.symm hll) (by obtain ⟨m, D⟩ := B.dat; exact D.ne_list hl.isList)
  have hl9 : s9.heap.PlainList l vs.toArray := hl.at fun o e => k09.get e hlL
  refine wpAny_execs_cons (wpAny_Expr (MethodCall_ (Attribute_name (n_loc c9.F.ns (v := .ref bx) (by (repeat first | assumption | exact upd_self _ _ _ | exact cset_self _ _ _ | refine (upd_ne _ _ _ _ (by decide)).trans ?_ | refine (cset_ne _ _ _ _ (by decide)).trans ?_ | rfl)) (B9.get_l c9.Gs fun s10 k10 => ?_)))))
  have c10 := c9.keep0 k10
  have hl10 : s10.heap.PlainList l vs.toArray := hl9.at fun o e => k10.keep _ _ e
  refine getm_append hl10 (callWith_method1 (spliced_more (n_loc c10.F.ns (v := v6) (by (repeat first | assumption | exact upd_self _ _ _ | exact cset_self _ _ _ | refine (upd_ne _ _ _ _ (by decide)).trans ?_ | refine (cset_ne _ _ _ _ (by decide)).trans ?_ | rfl)) (spliced_none (wpAny_list_append_plain hl10 (fun h' hl' hs' => ?_) (by rw [List.size_toArray]; exact szl hsz))))))
  have k11 : Kp [l] s10 { s10 with heap := h' } := Kp.same (tk := s10.toks) hs' (.head _)
  have c11 := c10.keeps k11 hb2 (nm1 hll)
  refine wpAny_execs_cons (wpAny_Return_some (n_loc c11.F.ns (v := v6) (by (repeat first | assumption | exact upd_self _ _ _ | exact cset_self _ _ _ | refine (upd_ne _ _ _ _ (by decide)).trans ?_ | refine (cset_ne _ _ _ _ (by decide)).trans ?_ | rfl)) ?_))
  have hdl : d ∉ [l] := nm1 fun e => by obtain ⟨m, D⟩ := B.dat; exact D.ne_list hl.isList e.symm
  have k6f : Kp [L, d, l] s6 { s10 with heap := h' } := (((k7.wid1 (.head _)).trans (k8.of0.trans Kp.tok)).trans (k9.wid1 (by simp))).trans (k10.of0.trans (k11.wid1 (by simp)))
  have k0f : Kp [L, d, l] s { s10 with heap := h' } := ((k05.mono fun x hx => by simp at hx; rcases hx with rfl | rfl <;> simp).trans k6.of0).trans k6f
  have up : ∀ b o, (hideAll s6.heap (L :: Z)).get? b = some o → (hideAll h' Z).get? b = some o := hid_up (Y := Z) k6f (fun x hx => .inl (by simp at hx; rcases hx with rfl | rfl | rfl <;> simp [hdZ, hlZ])) fun y hy => .inl (by simp [hy])
  have up0 : ∀ b o, (hideAll s.heap Z).get? b = some o → (hideAll h' Z).get? b = some o := hid_up (Y := Z) k0f (fun x hx => by
    simp at hx
    rcases hx with rfl | rfl | rfl
    · exact .inr hL
    · exact .inl hdZ
    · exact .inl hlZ) fun y hy => .inl hy
  have hl2 : h'.PlainList l (vs ++ [v6]).toArray := by simpa using hl'
  exact hRZ _ _ ⟨(B9.keep k10.keep).kp k11 (nm1 (B.bx_list hl.isList)) hdl, hl2, Paired.app (hp.mono fun v y q => LetV.upp _ _ _ _ q up0) (.cons (LetV.upp _ _ _ _ hV6 up) .nil), c11.kp⟩

theorem uids_c {w : World} {A : Around} {s : Shared} {bx d l g : Addr} {nu top fl : Int} {us : List Int} (G : Gr w s.heap) (hroom : A.depth < recursionLimit) (hh : A.handled = none) (B : BoxAt s.heap bx d nu top fl l g) (hl : LOf LetV s.heap l us) (hsz : us.length ≤ 1000) :
    wpAny (model PySem.Challenge.rw_nz0289_01.row.prog w) A (PySem.call (.ref 143) [.ref bx]) (fun v s' => ∃ D, v = .ref D ∧ s.heap.get? D = none ∧ Ints s'.heap D us ∧ Kp [] s s') (fun _ _ => False) s := by
  refine enter (binds := [(PySem.Str.ofString "self", .ref bx)]) [] G G (by k_is) (by k_is) hroom (BindsTo.of_eq rfl) (locs rfl) ?_ (by decide) rfl rfl rfl
  intro L s1 c k1 hL
  have B1 := B.keep k1.keep
  refine wpAny_execs_cons (wpAny_Return_some (comp_eval IntV.upp (Y := []) (xs := us) (p := fun _ => true) (f := id) rfl (by decide) rfl (by decide) ?_ (fun _ => rfl)))
  refine Attribute_name (n_loc c.F.ns rfl (B1.get_l c.Gs fun s2 k2 => ?_))
  have c2 := c.keep0 k2
  refine ready_list (V₀ := LetV) hh (hl.up LetV.upp fun b o e => k2.keep _ _ (k1.keep _ _ e)) (szl hsz) (fun _ h => nomatch h) rfl rfl ?_ ?_ ?_
  · rintro a v C s4 m4 Z ha hv Tn hCZ hC hn4 hx
    exact wpAny_tests_nil ⟨rfl, Kp.refl⟩
  · rintro a v C s4 m4 Z ha ⟨x, rfl, hx'⟩ Tn hCZ hC hn4 hx hp
    refine Attribute_name (n_loc hn4 hx (LetAt.get (c2.Gs.keeps Tn.old) (by obtain ⟨x', e', r⟩ := LetV.upp _ _ _ _ ⟨x, rfl, hx'⟩ Tn.old; cases e'; exact r) fun t5 s5 k5 => ?_))
    exact ⟨⟨t5, rfl⟩, k5⟩
  · intro D s4 hD hL4 k4
    rw [List.map_id, List.filter_eq_self.mpr fun _ _ => rfl] at hL4
    refine ⟨D, rfl, ?_, hL4, (c2.keep0 k4).kp0⟩
    cases e : s.heap.get? D with
    | none => rfl
    | some o => rw [c2.F.keep _ _ e] at hD; cases hD
end Mine
end
section
open PySem PySem.W PySem.Calls PyProof.Rows
namespace Mine
theorem Gr.above {w : World} {h : Heap} (G : Gr w h) {o : Obj} (e : (Mine.hd.heap_39 w.params).lookup 113 = some o) : (h.objs.size == sysModules) = false := by
  have := Heap.lt_size (G.X _ _ e)
  rw [beq_eq_false_iff_ne]
  intro q
  rw [q] at this
  exact absurd this (by decide)
theorem Gr.big {w : World} {h : Heap} (G : Gr w h) : (h.objs.size == sysModules) = false := G.above (by k_is)

/-- a dict whose keys are the ints of seen -/
def SetD (w : World) (h : Heap) (D : Addr) (seen : List Int) : Prop := ∃ kvs, h.DictOf (intKind PySem.Challenge.rw_nz0289_01.row.prog w) D kvs ∧ (∀ x, (valueAt kvs x).isSome = decide (x ∈ seen)) ∧ kvs.length ≤ seen.length
theorem SetD.keepAt {w : World} {h h' : Heap} {D : Addr} {seen : List Int} (x : SetD w h D seen) (k : ∀ o, h.get? D = some o → h'.get? D = some o) : SetD w h' D seen :=
  x.imp fun _ x => ⟨x.1.imp fun _ x => x.imp fun _ x => x.imp fun _ x => ⟨k _ x.1, x.2⟩, x.2⟩
theorem SetD.kp {w : World} {X : List Addr} {s s' : Shared} {D : Addr} {seen : List Int} (x : SetD w s.heap D seen) (k : Kp X s s') (n : D ∉ X) : SetD w s'.heap D seen := x.keepAt fun _ e => k.get e n
theorem SetD.keep {w : World} {h h' : Heap} {D : Addr} {seen : List Int} (x : SetD w h D seen) (k : ∀ b o, h.get? b = some o → h'.get? b = some o) : SetD w h' D seen := x.keepAt fun _ e => k _ _ e
theorem SetD.live {w : World} {h : Heap} {D : Addr} {seen : List Int} (x : SetD w h D seen) : ∃ o, h.get? D = some o := by obtain ⟨_, ⟨o, _, _, e, _⟩, _⟩ := x; exact ⟨o, e⟩
theorem any_stored (kvs : List (Int × Value)) (k x : Int) (v : Value) : ((stored kvs k v).any fun kv => kv.1 = x) = ((kvs.any fun kv => kv.1 = x) || decide (k = x)) := by
  unfold stored
  cases h : kvs.any (fun kv => kv.1 = k) with
  | true =>
    simp only [if_true, List.any_map]
    have e : ((fun kv : Int × Value => decide (kv.1 = x)) ∘ fun kv => if kv.1 = k then (kv.1, v) else kv) = fun kv => decide (kv.1 = x) := by
      funext kv
      simp only [Function.comp]
      split <;> rfl
    rw [e]
    by_cases hk : k = x
    · subst hk; rw [h, Bool.true_or]
    · rw [decide_eq_false hk, Bool.or_false]
  | false =>
    simp only [Bool.false_eq_true, if_false, List.any_append, List.any_cons, List.any_nil, Bool.or_false]
section
variable {w : World} {A : Around} {E : Value → Shared → Prop} {s : Shared} {D : Addr} {seen : List Int} {k : Int} {t : Tok}
theorem SetD.set {v : Value} {Q : Unit → Shared → Prop} (x : SetD w s.heap D seen) (hsz : seen.length ≤ 1000) (h : ∀ s', SetD w s'.heap D (seen ++ [k]) → Kp [D] s s' → Q () s') :
    wpAny (model PySem.Challenge.rw_nz0289_01.row.prog w) A (setItem (.ref D) (.int k t) v) Q E s := by
  obtain ⟨kvs, a, b, c⟩ := x
  refine wpAny_setItem_pairs (knd := intKind PySem.Challenge.rw_nz0289_01.row.prog w) (k := k) (by simp [intKind, Value.isInt]) a (fun h' hd' hs' => h _ ⟨_, hd', fun y => ?_, ?_⟩ (Kp.same hs' (.head _))) (by rw [sizeLine_eq]; omega)
  · rw [valueAt_isSome_eq_any, any_stored, ← valueAt_isSome_eq_any, b]
    by_cases h1 : y ∈ seen <;> by_cases h2 : k = y <;> simp [h1, h2, eq_comm]
  · have := stored_length_le kvs k v
    simp; omega
theorem SetD.isin {Q : Value → Shared → Prop} (x : SetD w s.heap D seen) (hD : (D == sysModules) = false) (h : Q (.bool (decide (k ∈ seen))) { s with toks := s.toks + 1 }) :
    wpAny (model PySem.Challenge.rw_nz0289_01.row.prog w) A (compareOp .In (.int k t) (.ref D)) Q E s := by
  obtain ⟨kvs, a, b, c⟩ := x
  exact wpAny_in_of (knd := intKind PySem.Challenge.rw_nz0289_01.row.prog w) (k := k) (by simp [intKind, Value.isInt]) hD a.mapOf (by rw [b]; exact h)
theorem SetD.notin {Q : Value → Shared → Prop} (x : SetD w s.heap D seen) (hD : (D == sysModules) = false) (h : Q (.bool (!decide (k ∈ seen))) { s with toks := s.toks + 1 }) :
    wpAny (model PySem.Challenge.rw_nz0289_01.row.prog w) A (compareOp .NotIn (.int k t) (.ref D)) Q E s := by
  obtain ⟨kvs, a, b, c⟩ := x
  exact wpAny_notIn_of (knd := intKind PySem.Challenge.rw_nz0289_01.row.prog w) (k := k) (by simp [intKind, Value.isInt]) hD a.mapOf (by rw [b]; exact h)
end

theorem Kp.step {X : List Addr} {I : Addr} {s s' s'' : Shared} (a : Kp X s s') (b : Kp [I] s' s'') (n : s.heap.get? I = none) : Kp X s s'' :=
  ((a.mono fun _ h => .tail _ h).trans (b.wid1 (.head _)) : Kp (I :: X) s s'').drop n
theorem getm_uids {w : World} {A : Around} {E : Value → Shared → Prop} {s : Shared} {bx d l g : Addr} {nu top fl : Int} {pl : Sem Bool} {Q : Value × List Value → Shared → Prop} (B : BoxAt s.heap bx d nu top fl l g) (G : Gr w s.heap) (h : Q (.ref 143, [.ref bx]) s) :
    wpAny (model PySem.Challenge.rw_nz0289_01.row.prog w) A (getMethod (.ref bx) (PySem.Str.ofString "uids") pl) Q E s := by
  obtain ⟨a, m, ⟨es, n, b, hm, _⟩, c⟩ := B
  refine method_fn (ox := instObj 151 d) (od := some (dictOf es n)) G.X ⟨a, rfl, rfl, b⟩ (by k_is) (by k_is) (by k_is) (by k_is) ?_ h
  show (lookIn _ (dictOf es n)).map _ = _
  rw [lookIn_dict, hm, c.noU]; rfl

theorem back_of {X : List Addr} {s s' : Shared} {I : Addr} (k : Kp X s s') (hX : ∀ x ∈ X, s.heap.get? x = none ∨ ∃ o, s'.heap.get? x = some o) (h : s'.heap.get? I = none) : s.heap.get? I = none := by
  cases e : s.heap.get? I with
  | none => rfl
  | some o =>
    by_cases q : I ∈ X
    · rcases hX I q with z | ⟨o', z⟩
      · rw [z] at e; cases e
      · rw [z] at h; cases h
    · rw [k.get e q] at h; cases h
theorem ne_of_live {h : Heap} {a b : Addr} (n : h.get? a = none) (x : ∃ o, h.get? b = some o) : a ≠ b := fun q => by obtain ⟨o, e⟩ := x; rw [q, e] at n; cases n
theorem ne_of_live' {h : Heap} {a b : Addr} (x : ∃ o, h.get? a = some o) (n : h.get? b = none) : a ≠ b := (ne_of_live n x).symm
/-- what stands in expunge's first loop -/
structure EL (w : World) (s : Shared) (L D bx d l g : Addr) (nu top fl : Int) (seen : List Int) (s' : Shared) : Prop where
  c : ∃ m', Cx w s (hideAll s.heap [d]) L m' s' ∧ m' (PySem.Str.ofString "box") = some (.ref bx)
  hw : s'.heap.IsCell (L + 1) (some (.ref D))
  hm : s'.heap.IsCell (L + 2) none
  hS : SetD w s'.heap D seen
  B : BoxAt s'.heap bx d nu top fl l g
  k : Kp [L, L + 1, L + 2, D, d] s s'
theorem expunge_c {w : World} {A : Around} {s : Shared} {Z : List Addr} {bx d l g W : Addr} {nu top fl : Int} {us ws : List Int} {ps : List (Int × Int)} (GX : Gr w (hideAll s.heap [d])) (hroom : A.depth + 1 < recursionLimit) (hh : A.handled = none) (hu : A.units + 100 < cLine) (B : BoxAt s.heap bx d nu top fl l g)
    (hdZ : d ∈ Z) (live : ∀ z ∈ Z, ∃ o, s.heap.get? z = some o) (hl : LOf LetV (hideAll s.heap Z) l us) (hg : Pairs (hideAll s.heap Z) g ps) (hW : Ints (hideAll s.heap Z) W ws) (hsz : us.length ≤ 100) (hwz : ws.length ≤ 100) (hgz : ps.length ≤ 100) :
    wpAny (model PySem.Challenge.rw_nz0289_01.row.prog w) A (PySem.call (.ref 181) [.ref bx, .ref W]) (fun v s' => ∃ l' g', BoxAt s'.heap bx d nu (if us.filter (fun u => decide (u ∈ ws)) = [] then top else top + 1) fl l' g' ∧ LOf LetV (hideAll s'.heap Z) l' (us.filter fun u => !decide (u ∈ ws)) ∧
      Pairs (hideAll s'.heap Z) g' (ps ++ (us.filter fun u => decide (u ∈ ws)).map fun u => (u, top + 1)) ∧ Kp [d] s s') (fun _ _ => False) s := by
  refine enterC (binds := [(PySem.Str.ofString "box", .ref bx), (PySem.Str.ofString "uids", .ref W)]) [d] GX.out GX (by k_is) (by k_is) (dl hroom 0) (BindsTo.of_eq rfl) (kindsX (by rfl)) ?_ rfl rfl rfl
  intro L s1 c hc k1 hL
  refine hideR fun RZ hRZ => ?_
  have hcw : s1.heap.IsCell (L + 1) none := hc (PySem.Str.ofString "wanted") _ rfl
  have hcm : s1.heap.IsCell (L + 2) none := hc (PySem.Str.ofString "modseq") _ rfl
  have hL0 : s.heap.get? L = none := hL L (Nat.le_refl _)
  have hL1 : s.heap.get? (L + 1) = none := hL _ (Nat.le_succ _)
  have hL2 : s.heap.get? (L + 2) = none := hL _ (Nat.le_add_right _ 2)
  have n01 : L ≠ L + 1 := Nat.ne_of_lt (Nat.lt_succ_self L)
  have n02 : L ≠ L + 2 := Nat.ne_of_lt (Nat.lt_add_of_pos_right (by decide))
  have n12 : L + 1 ≠ L + 2 := Nat.ne_of_lt (Nat.lt_succ_self _)
  have B1 := B.keep k1.keep
  have bs : ∀ a, s.heap.get? a = none → (hideAll s.heap [d]).get? a = none := fun a n => by
    cases e : (hideAll s.heap [d]).get? a with
    | none => rfl
    | some o => rw [of_hideAll _ e] at n; cases n
  have bs1 : ∀ a, s.heap.get? a = none → ∀ x ∈ [a], (hideAll s.heap [d]).get? x = none := fun a n => mem1 (bs a n)
  have hb : ∀ x ∈ [d], (hideAll s.heap [d]).get? x = none := fun x hx => hideAll_none _ hx
  have ne0 : ∀ a b, s.heap.get? a = none → (∃ o, s.heap.get? b = some o) → a ≠ b := fun a b n x => ne_of_live n x
  have ld := live d hdZ
  have lbx : ∃ o, s.heap.get? bx = some o := ⟨_, B.1⟩
  -- wanted = {}
  generalize hD : s1.heap.objs.size = D
  have hDs1 : s1.heap.get? D = none := fresh_of (Nat.le_of_eq hD)
  have hDs : s.heap.get? D = none := by
    cases e : s.heap.get? D with
    | none => rfl
    | some o => rw [k1.keep _ _ e] at hDs1; cases hDs1
  have hDm : (D == sysModules) = false := hD ▸ c.Gs.big
  have nD0 : L ≠ D := ne_of_live' (ns_live c.F.ns) hDs1
  have nD1 : L + 1 ≠ D := ne_of_live' (ic_live hcw) hDs1
  have nD2 : L + 2 ≠ D := ne_of_live' (ic_live hcm) hDs1
  have hdK : d ∈ [L, L + 1, L + 2, D, d] := .tail _ (.tail _ (.tail _ (.tail _ (.head _))))
  refine wpAny_execs_cons (wpAny_Assign_Name (wpAny_Dict_empty ?_) rfl)
  rw [hD]
  have k2 : Kp [] s1 { s1 with heap := s1.heap.push { cls := .type "dict", data := .dict #[] } } := Kp.push
  have c2 := c.keep0 k2
  have hS2 : SetD w (s1.heap.push { cls := .type "dict", data := .dict #[] }) D [] := ⟨[], hD ▸ Heap.DictOf.new _, fun x => rfl, Nat.le_refl _⟩
  refine s_cell c2 (bs _ hL1) n01 (hcw.keeps k2.keep) fun s3 c3 hcw3 k3 => ?_
  have hS3 : SetD w s3.heap D [] := hS2.kp k3 (nm1 nD1.symm)
  have hcm3 : s3.heap.IsCell (L + 2) none := cell_kp (hcm.keeps k2.keep) k3 (nm1 n12.symm)
  have k03 : Kp [L, L + 1, L + 2, D, d] s s3 := (k1.trans k2).of0.trans (k3.wid1 (.tail _ (.head _)))
  have up0 : ∀ (s' : Shared), Kp [L, L + 1, L + 2, D, d] s s' → ∀ Y : List Addr, (∀ y ∈ Y, y ∈ Z ∨ s.heap.get? y = none) → ∀ b o, (hideAll s.heap Z).get? b = some o → (hideAll s'.heap Y).get? b = some o := fun s' k Y hY => hid_up k (memc (.inr hL0) (memc (.inr hL1) (memc (.inr hL2) (mem2 (.inr hDs) (.inl hdZ))))) hY
  have hZZ : ∀ y ∈ L :: (L + 1) :: (L + 2) :: D :: Z, y ∈ Z ∨ s.heap.get? y = none := memc (.inr hL0) (memc (.inr hL1) (memc (.inr hL2) (memc (.inr hDs) fun y h => .inl h)))
  have hdz : d ∈ L :: (L + 1) :: (L + 2) :: D :: Z := .tail _ (.tail _ (.tail _ (.tail _ hdZ)))
  have B3 := (B1.keep k2.keep).kp k3 (nm1 (ne0 _ _ hL1 lbx).symm) (nm1 (ne0 _ _ hL1 ld).symm)
  -- the loop
  refine wpAny_execs_cons (for_list (V₀ := IntV) (xs := ws) (Y := [L, D]) hh (hideR fun RI hRI => n_loc c3.F.ns (v := .ref W) rfl (hRI _ _ ⟨W, rfl, hW.up IntV.upp (up0 s3 k03 [L, D] (mem2 (.inr hL0) (.inr hDs))), mem2 (ns_live c3.F.ns) hS3.live,
    fun _ i s' => EL w s L D bx d l g nu top fl (ws.take i) s', ?_, ?_, ?_, ?_⟩)) (fun _ => rfl))
  · rintro I i s4 s5 hI ⟨⟨m', c4, e4⟩, a1, a2, a3, a4, a5⟩ k
    have nI : ∀ a, (∃ o, s3.heap.get? a = some o) → a ∉ [I] := fun a x => nm1 (ne_of_live hI x).symm
    have hIs : s.heap.get? I = none := back_of k03 (memc (.inl hL0) (memc (.inl hL1) (memc (.inl hL2) (mem2 (.inl hDs) (.inr B3.live))))) hI
    exact ⟨⟨m', c4.keeps k (bs1 I hIs) (nI L (ns_live c3.F.ns)), e4⟩, cell_kp a1 k (nI _ (ic_live hcw3)), cell_kp a2 k (nI _ (ic_live hcm3)), a3.kp k (nI _ hS3.live), a4.kp k (nI _ ⟨_, B3.1⟩) (nI _ B3.live), a5.step k hIs⟩
  · intro I s4 hI _ k
    exact ⟨⟨_, c3.keep0 k, rfl⟩, hcw3.keeps k.keep, hcm3.keeps k.keep, hS3.keep k.keep, B3.keep k.keep, k03.trans k.of0⟩
  · rintro I i a v s4 RQ hRQ hI ha ⟨t, rfl⟩ - ⟨⟨m', c4, e4⟩, a1, a2, a3, a4, a5⟩
    refine wpAny_of_eq (show letOwnedTupleGo _ _ _ = pure () by rfl) ?_
    refine wpAny_assign_Name (s_loc c4 fun s5 c5 k5 => ?_)
    refine wpAny_execs_cons (wpAny_Assign_Subscript (wpAny_Constant_bool (n_cell (cell_kp a1 k5 (nm1 n01.symm)) (n_loc c5.F.ns (v := .int a t) (by (repeat first | assumption | exact upd_self _ _ _ | exact cset_self _ _ _ | refine (upd_ne _ _ _ _ (by decide)).trans ?_ | refine (cset_ne _ _ _ _ (by decide)).trans ?_ | rfl)) (SetD.set (a3.kp k5 (nm1 nD0.symm)) (by rw [List.length_take]; exact Nat.le_trans (Nat.min_le_right _ _) (Nat.le_trans hwz (by decide))) fun s6 hS6 k6 => ?_)))))
    have c6 := c5.keeps k6 (bs1 D hDs) (nm1 nD0)
    have k46 : Kp [L, D] s4 s6 := (k5.wid1 (.head _)).trans (k6.wid1 (.tail _ (.head _)))
    refine wpAny_execs_nil (hRQ _ _ ⟨⟨⟨_, c6, by (repeat first | assumption | exact upd_self _ _ _ | exact cset_self _ _ _ | refine (upd_ne _ _ _ _ (by decide)).trans ?_ | refine (cset_ne _ _ _ _ (by decide)).trans ?_ | rfl)⟩, cell_kp (cell_kp a1 k5 (nm1 n01.symm)) k6 (nm1 nD1), cell_kp (cell_kp a2 k5 (nm1 n02.symm)) k6 (nm1 nD2), by rw [List.take_add_one, ha]; exact hS6, a4.kp k46 (nm2 (ne0 _ _ hL0 lbx).symm (ne0 _ _ hDs lbx).symm) (nm2 (ne0 _ _ hL0 ld).symm (ne0 _ _ hDs ld).symm), a5.trans (k46.mono (mem2 (.head _) (.tail _ (.tail _ (.tail _ (.head _))))))⟩, k46⟩)
  rintro I s7 hI ⟨⟨m7, c7, e7⟩, hw7, hm7, hS7, B7, k07⟩
  rw [List.take_length] at hS7
  -- there
  have live7 : ∀ (s' : Shared) (m' : PySem.Str → Option Value), Cx w s (hideAll s.heap [d]) L m' s' → s'.heap.IsCell (L + 1) (some (.ref D)) → (∃ v, s'.heap.IsCell (L + 2) v) → SetD w s'.heap D ws → (∃ o, s'.heap.get? d = some o) → Kp [L, L + 1, L + 2, D, d] s s' → ∀ y ∈ L :: (L + 1) :: (L + 2) :: D :: Z, ∃ o, s'.heap.get? y = some o := fun s' m' c' h1 h2 h3 h4 k => by
    have a0 := ns_live c'.F.ns
    have a1 := ic_live h1
    have a2 := h2.elim fun _ x => ic_live x
    exact memc a0 (memc a1 (memc a2 (memc h3.live (live_of live k (memc a0 (memc a1 (memc a2 (mem2 h3.live h4))))))))
  refine wpAny_execs_cons (comp_assign IntV.upp (Y := L :: (L + 1) :: (L + 2) :: D :: Z) (xs := us) (p := fun u => decide (u ∈ ws)) (f := id) rfl rfl (by decide) rfl (by decide) rfl rfl (.head _) ?_ (fun _ => rfl))
  refine MethodCall_ (n_loc c7.F.ns e7 (getm_uids B7 c7.Gs (callWith_K0 c7.KX (by k_is) ?_)))
  refine wpAny_mono (uids_c (us := us) c7.Gs (dl hroom 1) hh B7 (hl.up LetV.upp fun b o e => of_hideAll Z (up0 s7 k07 Z (fun _ h => .inl h) b o e)) (Nat.le_trans hsz (by decide))) (fun v8 s8 h8 => ?_) fun _ _ f => f.elim
  obtain ⟨U, rfl, hU7, hU8, k8⟩ := h8
  have c8 := c7.keep0 k8
  have k08 := k07.trans k8.of0
  have hw8 := hw7.keeps k8.keep
  have hm8 := hm7.keeps k8.keep
  have hS8 := hS7.keep k8.keep
  have B8 := B7.keep k8.keep
  have hZs7 := live7 s7 m7 c7 hw7 ⟨_, hm7⟩ hS7 B7.live k07
  have hU8' : Ints (hideAll s8.heap (L :: (L + 1) :: (L + 2) :: D :: Z)) U us := by
    obtain ⟨vs, ⟨o, e, r⟩, q⟩ := hU8
    exact ⟨vs, ⟨o, hideAll_get _ e (fun hm => by obtain ⟨o', e'⟩ := hZs7 U hm; rw [hU7] at e'; cases e'), r⟩, q⟩
  refine ready_int hh hU8' (szl hsz) (live7 s8 m7 c8 hw8 ⟨_, hm8⟩ hS8 B8.live k08) rfl rfl ?_ ?_ ?_
  · intro a t C s9 m9 Z9 ha Tn hCZ hC hn9 hx
    exact wpAny_tests_one (wpAny_isTrue_Compare1 (n_loc hn9 hx (n_cell (hw8.keeps Tn.old) (SetD.isin (hS8.keep Tn.old) hDm (wpAny_truthy_bool ⟨rfl, Kp.tok⟩)))))
  · intro a t C s9 m9 Z9 ha Tn hCZ hC hn9 hx hp
    exact n_loc hn9 hx ⟨⟨_, rfl⟩, Kp.refl⟩
  refine ⟨_, c8.F.ns, fun Th s9 hTh hTh9 hn9 k9 => ?_⟩
  rw [List.map_id] at hTh9
  have c9 : Cx w s (hideAll s.heap [d]) L (upd m7 (PySem.Str.ofString "there") (.ref Th)) s9 := c8.stored (X := []) k9 (fun _ h => nomatch h) hn9
  have k09 : Kp [L, L + 1, L + 2, D, d] s s9 := k08.trans (k9.wid1 (.head _))
  have hw9 := cell_kp hw8 k9 (nm1 n01.symm)
  have hm9 := cell_kp hm8 k9 (nm1 n02.symm)
  have hS9 := hS8.kp k9 (nm1 nD0.symm)
  have B9 := B8.kp k9 (nm1 (ne0 _ _ hL0 lbx).symm) (nm1 (ne0 _ _ hL0 ld).symm)
  refine wpAny_execs_cons (wpAny_If (wpAny_isTrue_Compare1 (n_loc c9.F.ns (v := .ref Th) rfl (List_ (spliced_none (new_list (by decide) fun N s10 hN hN10 k10 => ?_))))))
  have c10 := c9.keep0 k10
  have k010 := k09.trans k10.of0
  have hw10 := hw9.keeps k10.keep
  have hm10 := hm9.keeps k10.keep
  have hS10 := hS9.keep k10.keep
  have B10 := B9.keep k10.keep
  have hTh10 : Ints (hideAll s10.heap (L :: (L + 1) :: (L + 2) :: D :: Z)) Th (us.filter fun u => decide (u ∈ ws)) := hTh9.up IntV.upp (hid_up (X := []) k10 (fun _ h => nomatch h) fun _ h => .inl h)
  refine c_eq (ns := us.filter fun u => decide (u ∈ ws)) (ms := []) (hTh10.up IntV.upp fun b o e => of_hideAll _ e) ⟨[], hN10, .nil⟩ (dl hu 67) (wpAny_truthy_bool ?_)
  by_cases hq : us.filter (fun u => decide (u ∈ ws)) = []
  · refine if_t (decide_eq_true hq) ?_
    refine wpAny_execs_cons (wpAny_Return_some (List_ (spliced_none (new_list (by decide) fun N' s11 _ _ k11 => ?_))))
    have c11 := c10.keep0 k11
    have up11 := up0 s11 (k010.trans k11.of0) Z fun _ h => .inl h
    have hus : us.filter (fun u => !decide (u ∈ ws)) = us := List.filter_eq_self.mpr fun u hu => by
      have : u ∉ us.filter fun u => decide (u ∈ ws) := by rw [hq]; exact List.not_mem_nil
      rw [List.mem_filter] at this
      simp at this
      simp [this hu]
    refine hRZ _ _ ⟨l, g, by rw [if_pos hq]; exact B10.keep k11.keep, by rw [hus]; exact hl.up LetV.upp up11, by rw [hq, List.map_nil, List.append_nil]; exact hg.up PairV.upp up11, c11.kp⟩
  · refine if_f (decide_eq_false hq) ?_
    refine wpAny_execs_nil (wpAny_execs_cons (wpAny_Assign_Name (cfn c10.Gs (by k_is) (by k_is) (spliced_more (n_loc c10.F.ns (v := .ref bx) (by (repeat first | assumption | exact upd_self _ _ _ | exact cset_self _ _ _ | refine (upd_ne _ _ _ _ (by decide)).trans ?_ | refine (cset_ne _ _ _ _ (by decide)).trans ?_ | rfl)) (spliced_none ⟨c10.Gs, ?_⟩)))) rfl))
    refine wpAny_mono (raised_c (c10.gx hb) (dl hroom 1) B10) (fun v11 s11 h11 => ?_) fun _ _ f => f.elim
    obtain ⟨⟨t11, rfl⟩, B11, k11⟩ := h11
    have c11 := c10.keeps k11 hb (nm1 (ne0 _ _ hL0 ld))
    have hw11 := cell_kp hw10 k11 (nm1 (ne0 _ _ hL1 ld))
    have hm11 := cell_kp hm10 k11 (nm1 (ne0 _ _ hL2 ld))
    have hS11 := hS10.kp k11 (nm1 (ne0 _ _ hDs ld))
    have k011 : Kp [L, L + 1, L + 2, D, d] s s11 := k010.trans (k11.wid1 hdK)
    refine s_cell c11 (bs _ hL2) n02 hm11 fun s12 c12 hm12 k12 => ?_
    have hw12 := cell_kp hw11 k12 (nm1 n12)
    have hS12 := hS11.kp k12 (nm1 nD2.symm)
    have B12 := B11.kp k12 (nm1 (ne0 _ _ hL2 lbx).symm) (nm1 (ne0 _ _ hL2 ld).symm)
    have k012 := k011.trans (k12.wid1 (.tail _ (.tail _ (.head _))))
    have hTh12 : Ints (hideAll s12.heap (L :: (L + 1) :: (L + 2) :: D :: Z)) Th (us.filter fun u => decide (u ∈ ws)) := (hTh10.up IntV.upp (hid_up k11 (mem1 (.inl hdz)) fun _ h => .inl h)).up IntV.upp (hid_up k12 (mem1 (.inl (.tail _ (.tail _ (.head _))))) fun _ h => .inl h)
    -- letters
    refine wpAny_execs_cons (plainObj_wpAny_Assign_Attribute (comp_eval LetV.upp (Y := L :: (L + 1) :: (L + 2) :: D :: Z) (xs := us) (p := fun u => !decide (u ∈ ws)) (f := id) rfl (by decide) rfl (by decide) ?_ (fun _ => rfl)))
    refine Attribute_name (n_loc c12.F.ns (v := .ref bx) (by (repeat first | assumption | exact upd_self _ _ _ | exact cset_self _ _ _ | refine (upd_ne _ _ _ _ (by decide)).trans ?_ | refine (cset_ne _ _ _ _ (by decide)).trans ?_ | rfl)) (B12.get_l c12.Gs fun s13 k13 => ?_))
    have c13 := c12.keep0 k13
    have k013 := k012.trans k13.of0
    have hw13 := hw12.keeps k13.keep
    have hS13 := hS12.keep k13.keep
    have B13 := B12.keep k13.keep
    refine ready_list (V₀ := LetV) hh (hl.up LetV.upp (up0 s13 k013 _ hZZ)) (szl hsz) (live7 s13 _ c13 hw13 ⟨_, hm12.keeps k13.keep⟩ hS13 B13.live k013) rfl rfl ?_ ?_ ?_
    · rintro a v C s14 m14 Z14 ha ⟨x, rfl, hx'⟩ Tn hCZ hC hn14 hx
      refine wpAny_tests_one (wpAny_isTrue_Compare1 (Attribute_name (n_loc hn14 hx (LetAt.get (c13.Gs.keeps Tn.old) (by obtain ⟨x', e', r⟩ := LetV.upp _ _ _ _ ⟨x, rfl, hx'⟩ fun b o e => Tn.old b o (of_hideAll _ e); cases e'; exact r) fun t15 s15 k15 => ?_))))
      exact n_cell ((hw13.keeps Tn.old).keeps k15.keep) (SetD.notin ((hS13.keep Tn.old).keep k15.keep) hDm (wpAny_truthy_bool ⟨rfl, k15.trans Kp.tok⟩))
    · rintro a v C s14 m14 Z14 ha hv Tn hCZ hC hn14 hx hp
      exact n_loc hn14 hx ⟨LetV.upp _ _ _ _ hv (Tn.hid Kp.refl hC), Kp.refl⟩
    intro l2 s14 hl2 hL14 k14
    rw [List.map_id] at hL14
    have c14 := c13.keep0 k14
    have k014 := k013.trans k14.of0
    have B14 := B13.keep k14.keep
    refine n_loc c14.F.ns (v := .ref bx) (by (repeat first | assumption | exact upd_self _ _ _ | exact cset_self _ _ _ | refine (upd_ne _ _ _ _ (by decide)).trans ?_ | refine (cset_ne _ _ _ _ (by decide)).trans ?_ | rfl)) (B14.set_l c14.Gs fun s15 B15 k15 => ?_)
    have c15 := c14.keeps k15 hb (nm1 (ne0 _ _ hL0 ld))
    have k015 : Kp [L, L + 1, L + 2, D, d] s s15 := k014.trans (k15.wid1 hdK)
    have k1215 : Kp [d] s12 s15 := (k13.trans k14).of0.trans k15
    have hm15 := cell_kp hm12 k1215 (nm1 (ne0 _ _ hL2 ld))
    have hw15 := cell_kp hw12 k1215 (nm1 (ne0 _ _ hL1 ld))
    have hS15 := hS12.kp k1215 (nm1 (ne0 _ _ hDs ld))
    have dZZ : ∀ x ∈ [d], x ∈ L :: (L + 1) :: (L + 2) :: D :: Z ∨ s12.heap.get? x = none := mem1 (.inl hdz)
    have hTh15 : Ints (hideAll s15.heap (L :: (L + 1) :: (L + 2) :: D :: Z)) Th (us.filter fun u => decide (u ∈ ws)) := hTh12.up IntV.upp (hid_up k1215 dZZ fun _ h => .inl h)
    -- gone
    refine wpAny_execs_cons (plainObj_wpAny_Assign_Attribute (wpAny_BinOp (Attribute_name (n_loc c15.F.ns (v := .ref bx) (by (repeat first | assumption | exact upd_self _ _ _ | exact cset_self _ _ _ | refine (upd_ne _ _ _ _ (by decide)).trans ?_ | refine (cset_ne _ _ _ _ (by decide)).trans ?_ | rfl)) (B15.get_g c15.Gs fun s16 k16 => ?_)))))
    have c16 := c15.keep0 k16
    have k016 := k015.trans k16.of0
    have hm16 := hm15.keeps k16.keep
    refine comp_eval PairV.upp (Y := L :: (L + 1) :: (L + 2) :: D :: Z) (xs := us.filter fun u => decide (u ∈ ws)) (p := fun _ => true) (f := fun u => (u, top + 1)) rfl (by decide) rfl (by decide) ?_ (fun _ => rfl)
    have live16 := live7 s16 _ c16 (hw15.keeps k16.keep) ⟨_, hm16⟩ (hS15.keep k16.keep) (B15.keep k16.keep).live k016
    refine n_loc c16.F.ns (v := .ref Th) (by (repeat first | assumption | exact upd_self _ _ _ | exact cset_self _ _ _ | refine (upd_ne _ _ _ _ (by decide)).trans ?_ | refine (cset_ne _ _ _ _ (by decide)).trans ?_ | rfl)) (ready_int hh (hTh15.up IntV.upp (hid_up (X := []) k16 (fun _ h => nomatch h) fun _ h => .inl h)) ?_ live16 rfl rfl ?_ ?_ ?_)
    · exact szl (Nat.le_trans (List.length_filter_le _ _) hsz)
    · intro a tk C s17 m17 Z17 ha Tn hCZ hC hn17 hx
      exact wpAny_tests_nil ⟨rfl, Kp.refl⟩
    · intro a ta C s17 m17 Z17 ha Tn hCZ hC hn17 hx hp
      refine Tuple_ (spliced_more (n_loc hn17 hx (spliced_more (n_cell (hm16.keeps Tn.old) (spliced_none (new_tup (Nat.le_of_ble_eq_true rfl) fun T8 s18 hT8 hI8 k18 => ?_))))))
      obtain ⟨o, e, r⟩ := hI8
      exact ⟨⟨T8, ta, t11, rfl, o, Tn.new hT8 e, r⟩, k18⟩
    intro P s17 hP hP17 k17
    rw [List.filter_eq_self.mpr fun _ _ => rfl] at hP17
    have c17 := c16.keep0 k17
    have k017 := k016.trans k17.of0
    have B17 := (B15.keep k16.keep).keep k17.keep
    have live17 := live7 s17 _ c17 ((hw15.keeps k16.keep).keeps k17.keep) ⟨_, hm16.keeps k17.keep⟩ ((hS15.keep k16.keep).keep k17.keep) B17.live k017
    have hg17 : Pairs (hideAll s17.heap (L :: (L + 1) :: (L + 2) :: D :: Z)) g ps := hg.up PairV.upp (up0 s17 k017 _ hZZ)
    refine c_add PairV.upp live17 hg17 hP17 ?_ fun g2 s18 hg2 hg18 k18 => ?_
    · rw [List.length_map]; exact Nat.le_trans (Nat.add_le_add hgz (Nat.le_trans (List.length_filter_le _ _) hsz)) (by decide)
    have c18 := c17.keep0 k18
    have B18 := B17.keep k18.keep
    refine n_loc c18.F.ns (v := .ref bx) (by (repeat first | assumption | exact upd_self _ _ _ | exact cset_self _ _ _ | refine (upd_ne _ _ _ _ (by decide)).trans ?_ | refine (cset_ne _ _ _ _ (by decide)).trans ?_ | rfl)) (B18.set_g c18.Gs fun s19 B19 k19 => ?_)
    have c19 := c18.keeps k19 hb (nm1 (ne0 _ _ hL0 ld))
    refine wpAny_execs_cons (wpAny_Return_some (n_loc c19.F.ns (v := .ref Th) (by (repeat first | assumption | exact upd_self _ _ _ | exact cset_self _ _ _ | refine (upd_ne _ _ _ _ (by decide)).trans ?_ | refine (cset_ne _ _ _ _ (by decide)).trans ?_ | rfl)) ?_))
    have dz : ∀ (s' : Shared), ∀ x ∈ [d], x ∈ L :: (L + 1) :: (L + 2) :: D :: Z ∨ s'.heap.get? x = none := fun _ => mem1 (.inl hdz)
    have yz : ∀ (s' : Shared), ∀ y ∈ Z, y ∈ L :: (L + 1) :: (L + 2) :: D :: Z ∨ s'.heap.get? y = none := fun _ y hy => .inl (.tail _ (.tail _ (.tail _ (.tail _ hy))))
    refine hRZ _ _ ⟨l2, g2, by rw [if_neg hq]; exact B19, hL14.up LetV.upp (hid_up (k15.trans ((k16.trans (k17.trans k18)).of0.trans k19)) (dz _) (yz _)), hg18.up PairV.upp (hid_up k19 (dz _) (yz _)), c19.kp⟩
end Mine
end
section
open PySem PySem.W PySem.Calls PyProof.Rows
namespace Mine

theorem Kp.wid2 {a b : Addr} {Y : List Addr} {s s' : Shared} (k : Kp [a, b] s s') (h : a ∈ Y) (h' : b ∈ Y) : Kp Y s s' := k.mono fun x hx => by
  rcases List.mem_cons.mp hx with e0 | hx
  · rw [e0]; exact h
  · rw [List.mem_singleton.mp hx]; exact h'
theorem fresh_back {X : List Addr} {s s' : Shared} {I : Addr} (k : Kp X s s') (hX : ∀ x ∈ X, s.heap.get? x = none) (h : s'.heap.get? I = none) : s.heap.get? I = none := by
  cases e : s.heap.get? I with
  | none => rfl
  | some o =>
    by_cases q : I ∈ X
    · rw [hX I q] at e; cases e
    · rw [k.get e q] at h; cases h
theorem eff_pos {a gr : Int} (h : 0 ≤ a) : (if 0 < a then a else gr) = eff a gr := by
  unfold eff
  by_cases h0 : a = 0
  · rw [if_pos h0, if_neg (by omega)]
  · rw [if_neg h0, if_pos (by omega)]

/-- what _law_known's frame holds once `some` is made; s₃: the state at the loop's start -/
structure KSt (w : World) (s s₃ : Shared) (L S H : Addr) (vs : List Value) (last : Int) (u : Tok) (m : PySem.Str → Option Value) (hs : List Int) (s' : Shared) : Prop where
  c : Cx w s (hideAll s.heap []) L m s'
  e1 : m (PySem.Str.ofString "last") = some (.int last u)
  e2 : m (PySem.Str.ofString "some") = some (.ref S)
  e3 : m (PySem.Str.ofString "held") = some (.ref H)
  hS : s'.heap.PlainList S vs.toArray
  hH : ∃ hvs : List Value, s'.heap.PlainList H hvs.toArray ∧ IntsAre hvs hs
  k : Kp [L, S, H] s₃ s'
namespace KSt
variable {w : World} {s s₃ : Shared} {L S H : Addr} {vs : List Value} {last : Int} {u : Tok} {m m' : PySem.Str → Option Value} {hs : List Int} {s' s'' : Shared}
theorem live (x : KSt w s s₃ L S H vs last u m hs s') : ∀ y ∈ [L, S, H], ∃ o, s'.heap.get? y = some o :=
  mem3 (ns_live x.c.F.ns) (pl_live x.hS) (let ⟨_, a, _⟩ := x.hH; pl_live a)
theorem keep0 (x : KSt w s s₃ L S H vs last u m hs s') (k : Kp [] s' s'') : KSt w s s₃ L S H vs last u m hs s'' :=
  ⟨x.c.keep0 k, x.e1, x.e2, x.e3, x.hS.at fun o e => k.keep _ _ e, let ⟨hv, a, b⟩ := x.hH; ⟨hv, a.at fun o e => k.keep _ _ e, b⟩, x.k.trans k.of0⟩
theorem loc (x : KSt w s s₃ L S H vs last u m hs s') (n1 : L ≠ S) (n2 : L ≠ H) (c : Cx w s (hideAll s.heap []) L m' s'') (k : Kp [L] s' s'') (e1 : m' (PySem.Str.ofString "last") = some (.int last u)) (e2 : m' (PySem.Str.ofString "some") = some (.ref S)) (e3 : m' (PySem.Str.ofString "held") = some (.ref H)) : KSt w s s₃ L S H vs last u m' hs s'' :=
  ⟨c, e1, e2, e3, x.hS.at fun o e => k.get e (nm1 n1.symm), let ⟨hv, a, b⟩ := x.hH; ⟨hv, a.at fun o e => k.get e (nm1 n2.symm), b⟩, x.k.trans (k.wid1 (.head _))⟩
theorem stab {I : Addr} (x : KSt w s s₃ L S H vs last u m hs s') (k03 : Kp [] s s₃) (l3 : ∀ y ∈ [L, S, H], ∃ o, s₃.heap.get? y = some o) (hI : s₃.heap.get? I = none) (k : Kp [I] s' s'') : KSt w s s₃ L S H vs last u m hs s'' := by
  have hn : ∀ y ∈ [L, S, H], y ∉ [I] := fun y hy => nm1 fun q => by obtain ⟨o, e⟩ := l3 y hy; rw [q, hI] at e; cases e
  have hIs := fresh_back k03 (fun _ h => nomatch h) hI
  refine ⟨x.c.keeps k (fun y hy => by rw [List.mem_singleton.mp hy]; cases e : (hideAll s.heap []).get? I with | none => rfl | some o => rw [of_hideAll _ e] at hIs; cases hIs) (hn L (by simp)), x.e1, x.e2, x.e3, x.hS.at fun o e => k.get e (hn S (by simp)), let ⟨hv, a, b⟩ := x.hH; ⟨hv, a.at fun o e => k.get e (hn H (by simp)), b⟩, x.k.step k hI⟩
end KSt

theorem ifexp_eff {w : World} {A : Around} {E : Value → Shared → Prop} {s : Shared} {env : Env} {m : PySem.Str → Option Value} {x y : PySem.Str} {a gr : Int} {t u : Tok} {p1 p2 p3 p4 p5 p6 : Pos} {kk : Nat} {Q : Value → Shared → Prop} (hn : s.heap.Ns env.locals m) (hx : m x = some (.int a t)) (hy : m y = some (.int gr u)) (ha : 0 ≤ a)
    (hk : env.scope.kind = .function) (hl : env.kindOf x = some .local) (hl' : env.kindOf y = some .local) (hd : (x == ("__debug__" : PySem.Str)) = false) (hd' : (y == ("__debug__" : PySem.Str)) = false)
    (h : ∀ t' s', Kp [] s s' → Q (.int (eff a gr) t') s') : wpAny (model PySem.Challenge.rw_nz0289_01.row.prog w) A (eval (.IfExp (.Compare (.Name x p1) [.Gt] [.Constant (.int 0) kk p2] p3) (.Name x p4) (.Name y p5) p6) env) Q E s := by
  refine wpAny_IfExp (wpAny_isTrue_Compare1 (n_loc hn hx (wpAny_Constant_int (gt_int (wpAny_truthy_bool ?_))) hk hl hd) (by rfl))
  rw [← eff_pos ha] at h
  by_cases h0 : 0 < a
  · refine if_t (decide_eq_true h0) ?_
    rw [if_pos h0] at h
    exact n_loc (s := { s with toks := _ }) hn hx (h _ _ Kp.tok) hk hl hd
  · refine if_f (decide_eq_false h0) ?_
    rw [if_neg h0] at h
    exact n_loc (s := { s with toks := _ }) hn hy (h _ _ Kp.tok) hk hl' hd'

/-- what the frame holds in the first loop -/
structure K1 (w : World) (s : Shared) (L S : Addr) (Y : List Addr) (last : Int) (u : Tok) (m : PySem.Str → Option Value) (vs : List Value) (kps : List (Int × Int)) (i : Nat) (s' : Shared) : Prop where
  c : Cx w s (hideAll s.heap []) L m s'
  n0 : ∃ nm t, m (PySem.Str.ofString "number") = some (.int nm t) ∧ 0 ≤ nm
  e1 : m (PySem.Str.ofString "last") = some (.int last u)
  e2 : m (PySem.Str.ofString "some") = some (.ref S)
  hS : s'.heap.PlainList S vs.toArray
  hp : Paired (PairV (hideAll s'.heap Y)) vs kps
  nn : ∀ p ∈ kps, 0 ≤ p.1 ∧ 0 ≤ p.2
  len : vs.length ≤ i
  k : Kp [L, S] s s'
theorem K1.up {w : World} {s : Shared} {L S : Addr} {Y Y' : List Addr} {last : Int} {u : Tok} {m : PySem.Str → Option Value} {vs : List Value} {kps : List (Int × Int)} {i : Nat} {s' s'' : Shared} (x : K1 w s L S Y last u m vs kps i s')
    (c : Cx w s (hideAll s.heap []) L m s'') (hS : ∀ o, s'.heap.get? S = some o → s''.heap.get? S = some o) (hp : ∀ b o, (hideAll s'.heap Y).get? b = some o → (hideAll s''.heap Y').get? b = some o) (k : Kp [L, S] s s'') : K1 w s L S Y' last u m vs kps i s'' :=
  ⟨c, x.n0, x.e1, x.e2, x.hS.at hS, x.hp.mono fun v y h => PairV.upp _ _ _ _ h hp, x.nn, x.len, k⟩
theorem toN3 {a : Int} (h0 : 0 ≤ a) (h : a < 3) : a.toNat ≤ 2 := by omega
theorem bs_none {s : Shared} {a : Addr} (n : s.heap.get? a = none) : ∀ x ∈ [a], (hideAll s.heap []).get? x = none := mem1 (by
  cases e : (hideAll s.heap []).get? a with
  | none => rfl
  | some o => rw [of_hideAll _ e] at n; cases n)

/-- what stands in the inner loop of the second -/
structure K2 (w : World) (s s₃ : Shared) (L S H : Addr) (vs : List Value) (last : Int) (u ti : Tok) (kps : List (Int × Int)) (n i : Nat) (s₀ : Shared) (j : Nat) (m : PySem.Str → Option Value) (hs : List Int) (s' : Shared) : Prop where
  a : KSt w s s₃ L S H vs last u m hs s'
  eu : m (PySem.Str.ofString "uid") = some (.int (1 + (i : Int)) ti)
  b : ∀ x : Int, x ∈ hs ↔ (1 ≤ x ∧ x ≤ i ∧ kps.any (inR (n : Int) x) = true) ∨ (x = 1 + (i : Int) ∧ (kps.take j).any (inR (n : Int) x) = true)
  c : hs.length ≤ 2 * i + j
  k : Kp [L, H] s₀ s'
theorem one_no {i : Nat} (h : 1 + (i : Int) ≤ i) : False := by omega
theorem len_no {l i j k n : Nat} (c : l ≤ 2 * i + j) (hj : j < k) (hk : k ≤ 2) (hi : i < n) (hn : n ≤ 100) : l ≤ 1000 := by omega
theorem one_more {x : Int} {i : Nat} {B : Prop} : ((1 ≤ x ∧ x ≤ (i : Int) ∧ B) ∨ (x = 1 + (i : Int) ∧ B)) ↔ 1 ≤ x ∧ x ≤ ((i + 1 : Nat) : Int) ∧ B := by
  by_cases h : B <;> simp [h] <;> omega

theorem known_c {w : World} {A : Around} {s : Shared} {Z : List Addr} {num last : Int} {t u : Tok} {n : Nat} (G : Gr w s.heap) (hroom : A.depth < recursionLimit) (hh : A.handled = none) (live : ∀ z ∈ Z, ∃ o, s.heap.get? z = some o) (hnum : 0 ≤ num) (hn : last = n) (hn0 : 0 < n) (hn' : n ≤ 100) :
    wpAny (model PySem.Challenge.rw_nz0289_01.row.prog w) A (PySem.call (.ref 237) [.int num t, .int last u]) (fun v s' => ∃ R T H, ∃ vs : List Value, ∃ kps : List (Int × Int), ∃ hs : List Int, v = .ref R ∧ s'.heap.IsTuple R #[.ref T, .ref H] ∧ (hideAll s'.heap Z).IsTuple T vs.toArray ∧ Paired (PairV (hideAll s'.heap Z)) vs kps ∧ Ints (hideAll s'.heap Z) H hs ∧
      (∀ x : Int, 1 ≤ x → x ≤ n → (x ∈ hs ↔ kps.any (inR (n : Int) x) = true)) ∧ hs.length ≤ 1000 ∧ Kp [] s s') (fun _ _ => False) s := by
  refine enter (binds := [(PySem.Str.ofString "number", .int num t), (PySem.Str.ofString "last", .int last u)]) [] G G (by k_is) (by k_is) hroom (BindsTo.of_eq rfl) (locs rfl) ?_ (by decide) rfl rfl rfl
  intro L s1 c k1 hL
  refine hideR fun RZ hRZ => ?_
  have hL0 := hL
  have bs1 : ∀ a, s.heap.get? a = none → ∀ x ∈ [a], (hideAll s.heap []).get? x = none := fun a n => bs_none n
  refine wpAny_execs_cons (wpAny_Assign_Name (List_ (spliced_none (new_pl (by decide) fun S s2 hS2 pS2 k2 => ?_))) rfl)
  have c2 := c.keep0 k2
  have hS0 : s.heap.get? S = none := fresh_back k1 (fun _ h => nomatch h) hS2
  have nLS : L ≠ S := fun q => by obtain ⟨o, e⟩ := ns_live c.F.ns; rw [q, hS2] at e; cases e
  refine s_loc c2 fun s3 c3 k3 => ?_
  have pS3 : s3.heap.PlainList S #[] := pS2.at fun o e => k3.get e (nm1 nLS.symm)
  -- the first loop
  have hm3 : 0 ≤ num.fmod 3 := Int.fmod_nonneg_of_pos _ (by decide)
  have hm4 : num.fmod 3 < 3 := Int.fmod_lt_of_pos _ (by decide)
  have k03 : Kp [L, S] s s3 := (k1.trans k2).of0.trans (k3.wid1 (.head _))
  refine x_cut (fun s' => ∃ m' vs kps, K1 w s L S (L :: S :: Z) last u m' vs kps 2 s') (fun RQ hRQ => ?_) ?_
  · refine for_range (a := 0) (b := num.fmod 3) (n := (num.fmod 3).toNat) (Y := [L, S]) hh (rng_small (by decide) (by decide) (Int.le_trans (by decide) hm3) (Int.le_trans (Int.le_of_lt hm4) (by decide))) (rng_size (by rw [Int.toNat_of_nonneg hm3, Int.zero_add])) (hideR fun RI hRI => ct1 c3.Gs (by k_is) rfl (wpAny_BinOp (n_loc c3.F.ns (v := .int num t) (by (repeat first | assumption | exact upd_self _ _ _ | exact cset_self _ _ _ | refine (upd_ne _ _ _ _ (by decide)).trans ?_ | refine (cset_ne _ _ _ _ (by decide)).trans ?_ | rfl)) (wpAny_Constant_int (mod_int' (by decide) (mk_range1 fun r s4 t' u' v' hr0 hr k4 => ?_)))))) (fun _ => rfl)
    have c4 := c3.tok.keep0 k4
    have k34 : Kp [] s3 s4 := Kp.tok.trans k4
    have k04 := k03.trans k34.of0
    have pS4 := pS3.at fun o e => k34.keep _ _ e
    have l4 : ∀ y ∈ [L, S], ∃ o, s4.heap.get? y = some o := mem2 (ns_live c4.F.ns) (pl_live pS4)
    have fLS : ∀ y ∈ [L, S], s.heap.get? y = none := mem2 hL0 hS0
    refine hRI _ _ ⟨r, t', u', v', rfl, hr, l4, fun Zz i s' => ∃ m' vs kps, K1 w s L S (Zz ++ Z) last u m' vs kps i s', ?_, ?_, ?_, ?_⟩
    · rintro I i s5 s6 hI ⟨m', vs, kps, x⟩ k
      have hIs := fresh_back k04 fLS hI
      have nI : ∀ y ∈ [L, S], y ∉ [I] := fun y hy => nm1 fun q => by obtain ⟨o, e⟩ := l4 y hy; rw [q, hI] at e; cases e
      exact ⟨m', vs, kps, x.up (x.c.keeps k (bs1 I hIs) (nI L (.head _))) (fun o e => k.get e (nI S (.tail _ (.head _)))) (hid_up k (mem1 (.inl (.head _))) fun _ h => .inl h) (x.k.step k hIs)⟩
    · rintro I s5 hI _ k
      exact ⟨_, [], [], c4.keep0 k, ⟨num, t, by (repeat first | assumption | exact upd_self _ _ _ | exact cset_self _ _ _ | refine (upd_ne _ _ _ _ (by decide)).trans ?_ | refine (cset_ne _ _ _ _ (by decide)).trans ?_ | rfl), hnum⟩, by (repeat first | assumption | exact upd_self _ _ _ | exact cset_self _ _ _ | refine (upd_ne _ _ _ _ (by decide)).trans ?_ | refine (cset_ne _ _ _ _ (by decide)).trans ?_ | rfl), by (repeat first | assumption | exact upd_self _ _ _ | exact cset_self _ _ _ | refine (upd_ne _ _ _ _ (by decide)).trans ?_ | refine (cset_ne _ _ _ _ (by decide)).trans ?_ | rfl), pS4.at fun o e => k.keep _ _ e, .nil, (fun _ h => nomatch h), Nat.le_refl _, k04.trans k.of0⟩
    · rintro I i ti s5 RQ hRQ hI hi lI ⟨m', vs, kps, x⟩
      obtain ⟨nm, tn, a2, a3⟩ := x.n0
      have a1 := x.c
      have a4 := x.e1
      have a5 := x.e2
      have a6 := x.hS
      have nI : ∀ y ∈ [L, S], I ≠ y := fun y hy q => by obtain ⟨o, e⟩ := l4 y hy; rw [← q, hI] at e; cases e
      refine wpAny_assign_Name (s_loc a1 fun s6 c6 k6 => ?_)
      refine wpAny_execs_cons (Assign_Tuple_swapped (names := [PySem.Str.ofString "one", PySem.Str.ofString "other"]) (Tuple_ (spliced_more (wpAny_BinOp (wpAny_BinOp (n_loc c6.F.ns (v := .int nm tn) (by (repeat first | assumption | exact upd_self _ _ _ | exact cset_self _ _ _ | refine (upd_ne _ _ _ _ (by decide)).trans ?_ | refine (cset_ne _ _ _ _ (by decide)).trans ?_ | rfl)) (wpAny_Constant_int (floordiv_int (by decide) (wpAny_Constant_int (mod_int' (by decide) ?_)) (.inl (PyProof.noPylong_small (by decide))))))))))  (by rfl) (by rfl))
      refine spliced_more (wpAny_BinOp (wpAny_BinOp (n_loc c6.F.ns (v := .int nm tn) (by (repeat first | assumption | exact upd_self _ _ _ | exact cset_self _ _ _ | refine (upd_ne _ _ _ _ (by decide)).trans ?_ | refine (cset_ne _ _ _ _ (by decide)).trans ?_ | rfl)) (wpAny_Constant_int (floordiv_int (by decide) (wpAny_Constant_int (mod_int' (by decide) (spliced_none (pack hh rfl (by decide) fun s7 k7 => ?_)))) (.inl (PyProof.noPylong_small (by decide))))))))
      have c7 := c6.tok.keep0 k7
      have k67 : Kp [] s6 s7 := Kp.tok.trans k7
      refine assignInOrder_cons (b_loc c7 fun s8 c8 k8 => assignInOrder_cons (b_loc c8 fun s9 c9 k9 => assignInOrder_nil ?_))
      have k59 : Kp [L] s5 s9 := (((k6.wid1 (.head _) : Kp [L] s5 s6).trans k67.of0).trans (k8.wid1 (.head _))).trans (k9.wid1 (.head _))
      have p9 := a6.at fun o e => k59.get e (nm1 nLS.symm)
      refine wpAny_execs_cons (wpAny_Expr (MethodCall_ (n_loc c9.F.ns (v := .ref S) (by (repeat first | assumption | exact upd_self _ _ _ | exact cset_self _ _ _ | refine (upd_ne _ _ _ _ (by decide)).trans ?_ | refine (cset_ne _ _ _ _ (by decide)).trans ?_ | rfl)) (getm_append p9 (callWith_method1 (spliced_more (Tuple_ (spliced_more (n_loc c9.F.ns (v := .int ((nm.fdiv 3).fmod 11) _) (by (repeat first | assumption | exact upd_self _ _ _ | exact cset_self _ _ _ | refine (upd_ne _ _ _ _ (by decide)).trans ?_ | refine (cset_ne _ _ _ _ (by decide)).trans ?_ | rfl)) (spliced_more (n_loc c9.F.ns (v := .int ((nm.fdiv 33).fmod 11) _) (by (repeat first | assumption | exact upd_self _ _ _ | exact cset_self _ _ _ | refine (upd_ne _ _ _ _ (by decide)).trans ?_ | refine (cset_ne _ _ _ _ (by decide)).trans ?_ | rfl)) (spliced_none (new_tup (Nat.le_of_ble_eq_true rfl) fun T s10 hT hT10 k10 => ?_)))))))))))))
      have c10 := c9.keep0 k10
      have p10 := p9.at fun o e => k10.keep _ _ e
      refine spliced_none (wpAny_list_append_plain p10 (fun h' hl' hs' => ?_) (by rw [List.size_toArray]; exact szl (Nat.le_trans x.len (Nat.le_trans (Nat.le_of_lt hi) (toN3 hm3 hm4)))))
      have k11 : Kp [S] s10 { s10 with heap := h' } := Kp.same (tk := s10.toks) hs' (.head _)
      have c11 := c10.keeps k11 (bs1 S hS0) (nm1 nLS)
      refine wpAny_execs_cons (wpAny_Assign_Name (wpAny_BinOp (n_loc c11.F.ns (v := .int nm tn) (by (repeat first | assumption | exact upd_self _ _ _ | exact cset_self _ _ _ | refine (upd_ne _ _ _ _ (by decide)).trans ?_ | refine (cset_ne _ _ _ _ (by decide)).trans ?_ | rfl)) (wpAny_Constant_int (floordiv_int (by decide) (s_loc c11.tok fun s12 c12 k12 => ?_) (.inl (PyProof.noPylong_small (by decide))))))) rfl)
      have hS' : h'.PlainList S (vs ++ [Value.ref T]).toArray := by simpa using hl'
      have k1012 : Kp [L, S] s10 s12 := ((k11.wid1 (.tail _ (.head _))).trans Kp.tok).trans (k12.wid1 (.head _))
      have k512 : Kp [L, S] s5 s12 := ((k59.wid1 (.head _)).trans k10.of0).trans k1012
      have l9 : ∀ y ∈ [L, S], ∃ o, s9.heap.get? y = some o := mem2 (ns_live c9.F.ns) (pl_live p9)
      have live5 : ∀ z ∈ (I :: [L, S]) ++ Z, ∃ o, s9.heap.get? z = some o :=
        memc (by obtain ⟨o, e⟩ := lI; exact ⟨o, k59.get e (nm1 (nI L (.head _)))⟩) (memc (l9 L (.head _)) (memc (l9 S (.tail _ (.head _))) (live_of live (x.k.trans (k59.wid1 (.head _))) l9)))
      have hTn : T ∉ (I :: [L, S]) ++ Z := fun hm => by obtain ⟨o, e⟩ := live5 T hm; rw [hT] at e; cases e
      have inZ : ∀ x ∈ [L, S], x ∈ (I :: [L, S]) ++ Z := mem2 (.tail _ (.head _)) (.tail _ (.tail _ (.head _)))
      have hT12 : PairV (hideAll s12.heap ((I :: [L, S]) ++ Z)) (.ref T) ((nm.fdiv 3).fmod 11, (nm.fdiv 33).fmod 11) := by
        obtain ⟨o, e, r⟩ := hT10
        exact ⟨T, _, _, rfl, o, hideAll_get _ (k1012.get e fun hm => hTn (inZ T hm)) hTn, r⟩
      refine wpAny_execs_nil (hRQ _ _ ⟨⟨_, vs ++ [.ref T], kps ++ [((nm.fdiv 3).fmod 11, (nm.fdiv 33).fmod 11)], c12, ⟨_, _, by (repeat first | assumption | exact upd_self _ _ _ | exact cset_self _ _ _ | refine (upd_ne _ _ _ _ (by decide)).trans ?_ | refine (cset_ne _ _ _ _ (by decide)).trans ?_ | rfl), Int.fdiv_nonneg a3 (by decide)⟩, by (repeat first | assumption | exact upd_self _ _ _ | exact cset_self _ _ _ | refine (upd_ne _ _ _ _ (by decide)).trans ?_ | refine (cset_ne _ _ _ _ (by decide)).trans ?_ | rfl), by (repeat first | assumption | exact upd_self _ _ _ | exact cset_self _ _ _ | refine (upd_ne _ _ _ _ (by decide)).trans ?_ | refine (cset_ne _ _ _ _ (by decide)).trans ?_ | rfl), hS'.at fun o e => k12.get e (nm1 nLS.symm),
        Paired.app (x.hp.mono fun v y h => PairV.upp _ _ _ _ h (hid_up k512 (fun x hx => .inl (inZ x hx)) fun _ h => .inl h)) (.cons hT12 .nil), fun p hp => (List.mem_append.mp hp).elim (x.nn p) (mem1 (P := fun p => 0 ≤ p.1 ∧ 0 ≤ p.2) ⟨Int.fmod_nonneg_of_pos _ (by decide), Int.fmod_nonneg_of_pos _ (by decide)⟩ p), by rw [List.length_append]; exact Nat.succ_le_succ x.len, x.k.trans k512⟩, k512⟩)
    · rintro I s5 hI ⟨m', vs, kps, x⟩
      have y := x.up (Y' := L :: S :: Z) x.c (fun o e => e) (hid_up (X := []) Kp.refl (fun _ h => nomatch h) fun y hy => .inl (.tail _ hy)) x.k
      exact hRQ _ ⟨m', vs, kps, y.c, y.n0, y.e1, y.e2, y.hS, y.hp, y.nn, Nat.le_trans y.len (toN3 hm3 hm4), y.k⟩
  rintro s5 ⟨m5, vs, kps, x5⟩
  have c5 := x5.c
  have e51 := x5.e1
  have e52 := x5.e2
  have p5 := x5.hS
  have q5 := x5.hp
  have nn := x5.nn
  have hv2 := x5.len
  have k05 := x5.k
  refine wpAny_execs_cons (wpAny_Assign_Name (List_ (spliced_none (new_pl (by decide) fun H s6 hH6 pH6 k6 => ?_))) rfl)
  have c6 := c5.keep0 k6
  have fLS : ∀ y ∈ [L, S], s.heap.get? y = none := mem2 hL0 hS0
  have hH0 : s.heap.get? H = none := fresh_back k05 fLS hH6
  have nLH : L ≠ H := fun q => by obtain ⟨o, e⟩ := ns_live c5.F.ns; rw [q, hH6] at e; cases e
  have nSH : S ≠ H := fun q => by obtain ⟨n', e⟩ := p5; rw [q, hH6] at e; cases e
  refine s_loc c6 fun s7 c7 k7 => ?_
  have k57 : Kp [L, S] s5 s7 := k6.of0.trans (k7.wid1 (.head _))
  have K7 : KSt w s s7 L S H vs last u _ [] s7 := ⟨c7, by (repeat first | assumption | exact upd_self _ _ _ | exact cset_self _ _ _ | refine (upd_ne _ _ _ _ (by decide)).trans ?_ | refine (cset_ne _ _ _ _ (by decide)).trans ?_ | rfl), by (repeat first | assumption | exact upd_self _ _ _ | exact cset_self _ _ _ | refine (upd_ne _ _ _ _ (by decide)).trans ?_ | refine (cset_ne _ _ _ _ (by decide)).trans ?_ | rfl), by (repeat first | assumption | exact upd_self _ _ _ | exact cset_self _ _ _ | refine (upd_ne _ _ _ _ (by decide)).trans ?_ | refine (cset_ne _ _ _ _ (by decide)).trans ?_ | rfl), p5.at fun o e => k7.get (k6.keep _ _ e) (nm1 nLS.symm), ⟨[], pH6.at fun o e => k7.get e (nm1 nLH.symm), .nil⟩, Kp.refl⟩
  have hmono : ∀ {s' s'' : Shared} {v : Value} {y : Int × Int} {Y Y' : List Addr}, PairV (hideAll s'.heap Y) v y → (∀ b o, (hideAll s'.heap Y).get? b = some o → (hideAll s''.heap Y').get? b = some o) → PairV (hideAll s''.heap Y') v y := fun h k => PairV.upp _ _ _ _ h k
  have q7 : Paired (PairV (hideAll s7.heap (L :: S :: H :: Z))) vs kps := q5.mono fun v y h => hmono h (hid_up k57 (mem2 (.inl (.head _)) (.inl (.tail _ (.head _)))) (memc (.inl (.head _)) (memc (.inl (.tail _ (.head _))) (memc (.inr hH6) fun y hy => .inl (.tail _ (.tail _ hy))))))
  have k07 : Kp [] s s7 := c7.kp0
  have hkl : kps.length ≤ 2 := by rw [← Paired.length q7]; exact hv2
  refine x_cut (fun s' => ∃ m' hs, KSt w s s7 L S H vs last u m' hs s' ∧ (∀ x : Int, x ∈ hs ↔ 1 ≤ x ∧ x ≤ n ∧ kps.any (inR (n : Int) x) = true) ∧ hs.length ≤ 1000) (fun RQ hRQ => ?_) ?_
  · refine for_range (a := 1) (b := last + 1) (n := n) (Y := [L, S, H]) hh (by rw [hn]; exact rng1N n (Nat.le_trans hn' (by decide))) (by rw [hn]; exact rsz1N n) (hideR fun RI hRI => ct2 K7.c.Gs (by k_is) rfl (wpAny_Constant_int (wpAny_BinOp (n_loc K7.c.tok.F.ns K7.e1 (wpAny_Constant_int (add_int (mk_range2 fun r s8 t' u' v' hr0 hr k8 => ?_))))))) (fun _ => rfl)
    have k78 : Kp [] s7 s8 := (Kp.tok.trans k8)
    have K8 := K7.keep0 k78
    have back : ∀ I, s8.heap.get? I = none → s7.heap.get? I = none := fun I h => fresh_back k78 (fun _ h => nomatch h) h
    refine hRI _ _ ⟨r, t', u', v', rfl, hr, K8.live, fun _ i s' => ∃ m' hs, KSt w s s7 L S H vs last u m' hs s' ∧ (∀ x : Int, x ∈ hs ↔ 1 ≤ x ∧ x ≤ i ∧ kps.any (inR (n : Int) x) = true) ∧ hs.length ≤ 2 * i, ?_, ?_, ?_, ?_⟩
    · rintro I i s9 s10 hI ⟨m', hs, a, b, c'⟩ k
      exact ⟨m', hs, a.stab k07 K7.live (back I hI) k, b, c'⟩
    · rintro I s9 hI _ k
      exact ⟨_, [], K8.keep0 k, fun x => ⟨(fun h => nomatch h), fun h => absurd (Int.le_trans h.1 h.2.1) (by decide)⟩, Nat.le_refl _⟩
    · rintro I i ti s9 RQ hRQ hI hi lI ⟨m', hs, a, b, c'⟩
      refine wpAny_assign_Name (s_loc a.c fun s10 c10 k10 => ?_)
      have K10 := a.loc nLS nLH c10 k10 (by have := a.e1; (repeat first | assumption | exact upd_self _ _ _ | exact cset_self _ _ _ | refine (upd_ne _ _ _ _ (by decide)).trans ?_ | refine (cset_ne _ _ _ _ (by decide)).trans ?_ | rfl)) (by have := a.e2; (repeat first | assumption | exact upd_self _ _ _ | exact cset_self _ _ _ | refine (upd_ne _ _ _ _ (by decide)).trans ?_ | refine (cset_ne _ _ _ _ (by decide)).trans ?_ | rfl)) (by have := a.e3; (repeat first | assumption | exact upd_self _ _ _ | exact cset_self _ _ _ | refine (upd_ne _ _ _ _ (by decide)).trans ?_ | refine (cset_ne _ _ _ _ (by decide)).trans ?_ | rfl))
      refine x_cut (fun s' => (∃ m' hs', K2 w s s7 L S H vs last u ti kps n i s10 kps.length m' hs' s') ∧ Kp [L, S, H] s9 s') (fun RQ hRQ => ?_) ?_
      · refine for_list (V₀ := PairV) (xs := kps) (Y := [L, H]) hh (hideR fun RI hRI => n_loc K10.c.F.ns K10.e2 (hRI _ _ ⟨S, rfl, ⟨vs, ?_, ?_⟩, mem2 (K10.live L (.head _)) (K10.live H (.tail _ (.tail _ (.head _)))), fun _ j s' => ∃ m' hs', K2 w s s7 L S H vs last u ti kps n i s10 j m' hs' s', ?_, ?_, ?_, ?_⟩)) (fun _ => rfl)
        · obtain ⟨n', e⟩ := K10.hS
          exact ⟨_, hideAll_get _ e (nm2 nLS.symm nSH), rfl, _, rfl⟩
        · exact q7.mono fun v y h => hmono h (hid_up K10.k (mem3 (.inl (.head _)) (.inl (.tail _ (.head _))) (.inl (.tail _ (.tail _ (.head _))))) (mem2 (.inl (.head _)) (.inl (.tail _ (.tail _ (.head _))))))
        · rintro I' j s11 s12 hI' ⟨m', hs', x⟩ k
          have hI7 : s7.heap.get? I' = none := by
            cases e : s7.heap.get? I' with
            | none => rfl
            | some o =>
              by_cases q : I' ∈ [L, S, H]
              · obtain ⟨o', e'⟩ := K10.live I' q; rw [hI'] at e'; cases e'
              · rw [K10.k.get e q] at hI'; cases hI'
          exact ⟨m', hs', x.a.stab k07 K7.live hI7 k, x.eu, x.b, x.c, x.k.step k hI'⟩
        · rintro I' s11 hI' _ k
          exact ⟨_, hs, K10.keep0 k, by (repeat first | assumption | exact upd_self _ _ _ | exact cset_self _ _ _ | refine (upd_ne _ _ _ _ (by decide)).trans ?_ | refine (cset_ne _ _ _ _ (by decide)).trans ?_ | rfl), fun x => by rw [b x, List.take_zero, List.any_nil]; exact ⟨.inl, fun h => h.elim id fun h => nomatch h.2⟩, c', k.of0⟩
        · rintro I' j p v s11 RQ hRQ hI' hp ⟨T, ta, tb, rfl, hT⟩ ⟨li, lk, hli⟩ ⟨m', hs', x⟩
          have a := x.a
          have eu := x.eu
          have b := x.b
          have c' := x.c
          have k' := x.k
          refine wpAny_letOwnedTupleGo_listiter hli ?_
          have hT11 : s11.heap.IsTuple T #[.int p.1 ta, .int p.2 tb] := hT.at fun o e => of_hideAll [] (hid_up (Z := [L, H]) (Y := []) k' (fun x hx => .inl hx) (fun _ h => nomatch h) T o e)
          have hp0 := nn p (List.mem_of_getElem? hp)
          obtain ⟨hj, _⟩ := List.getElem?_eq_some_iff.mp hp
          refine kcp_assign hh hT11 rfl rfl rfl a.c.F.ns fun h12 tk12 hn12 hk12 => ?_
          have k12 : Kp [L] s11 { s11 with heap := h12, toks := tk12 } := ⟨⟨_, _, rfl⟩, fun b o n e => hk12 b o (fun q => n (by rw [q]; exact .head _)) e⟩
          have c12 : Cx w s (hideAll s.heap []) L (upd (upd m' (PySem.Str.ofString "one") (.int p.1 ta)) (PySem.Str.ofString "other") (.int p.2 tb)) { s11 with heap := h12, toks := tk12 } := a.c.stored (X := []) k12 (fun _ h => nomatch h) hn12
          have ae1 := a.e1
          have ae2 := a.e2
          have ae3 := a.e3
          refine wpAny_execs_cons (Assign_Tuple_swapped (names := [PySem.Str.ofString "low", PySem.Str.ofString "high"]) (Tuple_ (spliced_more (ifexp_eff c12.F.ns (a := p.1) (t := ta) (gr := last) (u := u) (by (repeat first | assumption | exact upd_self _ _ _ | exact cset_self _ _ _ | refine (upd_ne _ _ _ _ (by decide)).trans ?_ | refine (cset_ne _ _ _ _ (by decide)).trans ?_ | rfl)) (by (repeat first | assumption | exact upd_self _ _ _ | exact cset_self _ _ _ | refine (upd_ne _ _ _ _ (by decide)).trans ?_ | refine (cset_ne _ _ _ _ (by decide)).trans ?_ | rfl)) hp0.1 rfl rfl rfl (by decide) (by decide) fun t13 s13 k13 => ?_)))  (by rfl) (by rfl))
          have c13 := c12.keep0 k13
          refine spliced_more (ifexp_eff c13.F.ns (a := p.2) (t := tb) (gr := last) (u := u) (by (repeat first | assumption | exact upd_self _ _ _ | exact cset_self _ _ _ | refine (upd_ne _ _ _ _ (by decide)).trans ?_ | refine (cset_ne _ _ _ _ (by decide)).trans ?_ | rfl)) (by (repeat first | assumption | exact upd_self _ _ _ | exact cset_self _ _ _ | refine (upd_ne _ _ _ _ (by decide)).trans ?_ | refine (cset_ne _ _ _ _ (by decide)).trans ?_ | rfl)) hp0.2 rfl rfl rfl (by decide) (by decide) fun t14 s14 k14 => spliced_none (pack hh rfl (by decide) fun s15 k15 => ?_))
          have c15 := (c13.keep0 k14).keep0 k15
          refine assignInOrder_cons (b_loc c15 fun s16 c16 k16 => assignInOrder_cons (b_loc c16 fun s17 c17 k17 => assignInOrder_nil ?_))
          have k1117 : Kp [L] s11 s17 := ((k12.trans (k13.trans (k14.trans k15)).of0).trans (k16.wid1 (.head _))).trans (k17.wid1 (.head _))
          have K17 := a.loc nLS nLH c17 k1117 (by (repeat first | assumption | exact upd_self _ _ _ | exact cset_self _ _ _ | refine (upd_ne _ _ _ _ (by decide)).trans ?_ | refine (cset_ne _ _ _ _ (by decide)).trans ?_ | rfl)) (by (repeat first | assumption | exact upd_self _ _ _ | exact cset_self _ _ _ | refine (upd_ne _ _ _ _ (by decide)).trans ?_ | refine (cset_ne _ _ _ _ (by decide)).trans ?_ | rfl)) (by (repeat first | assumption | exact upd_self _ _ _ | exact cset_self _ _ _ | refine (upd_ne _ _ _ _ (by decide)).trans ?_ | refine (cset_ne _ _ _ _ (by decide)).trans ?_ | rfl))
          refine wpAny_execs_cons (wpAny_If (isTrue_and (isTrue_chain (cb2 c17.Gs (by k_is) rfl (n_loc c17.F.ns (v := .int (eff p.1 last) t13) (by (repeat first | assumption | exact upd_self _ _ _ | exact cset_self _ _ _ | refine (upd_ne _ _ _ _ (by decide)).trans ?_ | refine (cset_ne _ _ _ _ (by decide)).trans ?_ | rfl)) (n_loc c17.F.ns (v := .int (eff p.2 last) t14) (by (repeat first | assumption | exact upd_self _ _ _ | exact cset_self _ _ _ | refine (upd_ne _ _ _ _ (by decide)).trans ?_ | refine (cset_ne _ _ _ _ (by decide)).trans ?_ | rfl)) (c_min hh fun t18 s18 k18 => ?_)))))))
          have K18 := K17.keep0 k18
          have step : (kps.take (j + 1)).any (inR (n : Int) (1 + (i : Int))) = ((kps.take j).any (inR (n : Int) (1 + (i : Int))) || inR (n : Int) (1 + (i : Int)) p) := by rw [List.take_add_one, hp]; simp
          have hin : inR (n : Int) (1 + (i : Int)) p = (decide (min (eff p.1 last) (eff p.2 last) ≤ 1 + (i : Int)) && decide (1 + (i : Int) ≤ max (eff p.1 last) (eff p.2 last))) := by rw [hn]; rfl
          refine test_link (n_loc K18.c.F.ns (v := .int (1 + (i : Int)) ti) (by (repeat first | assumption | exact upd_self _ _ _ | exact cset_self _ _ _ | refine (upd_ne _ _ _ _ (by decide)).trans ?_ | refine (cset_ne _ _ _ _ (by decide)).trans ?_ | rfl)) (le_int (wpAny_truthy_bool ?_)))
          -- what stands when the turn adds nothing
          have fin : ∀ s' : Shared, Kp [] s18 s' → (∀ x : Int, (x = 1 + (i : Int) ∧ (kps.take j).any (inR (n : Int) x) = true) ↔ (x = 1 + (i : Int) ∧ (kps.take (j + 1)).any (inR (n : Int) x) = true)) →
              (∃ m' hs', K2 w s s7 L S H vs last u ti kps n i s10 (j + 1) m' hs' s') ∧ Kp [L, H] s11 s' := fun s' k hx => by
            have kk : Kp [L, H] s11 s' := (k1117.wid1 (.head _)).trans ((k18.trans k).of0)
            refine ⟨⟨_, hs', K18.keep0 k, by (repeat first | assumption | exact upd_self _ _ _ | exact cset_self _ _ _ | refine (upd_ne _ _ _ _ (by decide)).trans ?_ | refine (cset_ne _ _ _ _ (by decide)).trans ?_ | rfl), fun x => ?_, Nat.le_succ_of_le c', k'.trans kk⟩, kk⟩
            rw [b x, hx x]
          have same : inR (n : Int) (1 + (i : Int)) p = false → ∀ x : Int, (x = 1 + (i : Int) ∧ (kps.take j).any (inR (n : Int) x) = true) ↔ (x = 1 + (i : Int) ∧ (kps.take (j + 1)).any (inR (n : Int) x) = true) := fun hf x => by
            constructor
            · rintro ⟨rfl, h⟩; exact ⟨rfl, by rw [step, h]; rfl⟩
            · rintro ⟨rfl, h⟩; rw [step, hf, Bool.or_false] at h; exact ⟨rfl, h⟩
          by_cases h1 : min (eff p.1 last) (eff p.2 last) ≤ 1 + (i : Int)
          · refine if_t (decide_eq_true h1) ?_
            refine test_last (cb2 K18.c.Gs (by k_is) rfl (n_loc K18.c.F.ns (v := .int (eff p.1 last) t13) (by (repeat first | assumption | exact upd_self _ _ _ | exact cset_self _ _ _ | refine (upd_ne _ _ _ _ (by decide)).trans ?_ | refine (cset_ne _ _ _ _ (by decide)).trans ?_ | rfl)) (n_loc K18.c.F.ns (v := .int (eff p.2 last) t14) (by (repeat first | assumption | exact upd_self _ _ _ | exact cset_self _ _ _ | refine (upd_ne _ _ _ _ (by decide)).trans ?_ | refine (cset_ne _ _ _ _ (by decide)).trans ?_ | rfl)) (c_max hh fun t19 s19 k19 => le_int (wpAny_truthy_bool ?_)))))
            have K19 := K18.keep0 k19
            by_cases h2 : 1 + (i : Int) ≤ max (eff p.1 last) (eff p.2 last)
            · refine if_t (decide_eq_true h2) ?_
              have hyes : inR (n : Int) (1 + (i : Int)) p = true := by rw [hin, decide_eq_true h1, decide_eq_true h2]; rfl
              obtain ⟨hvs, hHp, hHi⟩ := K19.hH
              refine isTrue_and (wpAny_isTrue_Compare1 (n_loc K19.c.F.ns (v := .int (1 + (i : Int)) ti) (by (repeat first | assumption | exact upd_self _ _ _ | exact cset_self _ _ _ | refine (upd_ne _ _ _ _ (by decide)).trans ?_ | refine (cset_ne _ _ _ _ (by decide)).trans ?_ | rfl)) (n_loc K19.c.F.ns (v := .ref H) (by (repeat first | assumption | exact upd_self _ _ _ | exact cset_self _ _ _ | refine (upd_ne _ _ _ _ (by decide)).trans ?_ | refine (cset_ne _ _ _ _ (by decide)).trans ?_ | rfl)) (c_notin (Ints.of hHp.isList hHi) (wpAny_truthy_bool ?_)))))
              by_cases h3 : 1 + (i : Int) ∈ hs'
              · refine if_f (by rw [decide_eq_true h3]; rfl) ?_
                refine wpAny_execs_nil (wpAny_execs_nil (hRQ _ _ (fin _ k19 fun x => ?_)))
                have h4 : (kps.take j).any (inR (n : Int) (1 + (i : Int))) = true := by
                  rcases (b (1 + (i : Int))).mp h3 with h | h
                  · exact (one_no h.2.1).elim
                  · exact h.2
                constructor
                · rintro ⟨rfl, h⟩; exact ⟨rfl, by rw [step, h]; rfl⟩
                · rintro ⟨rfl, h⟩; exact ⟨rfl, h4⟩
              · refine if_t (by rw [decide_eq_false h3]; rfl) ?_
                refine isTrue_and_nil ?_
                refine if_t rfl ?_
                refine wpAny_execs_cons (wpAny_Expr (MethodCall_ (n_loc K19.c.F.ns (v := .ref H) (by (repeat first | assumption | exact upd_self _ _ _ | exact cset_self _ _ _ | refine (upd_ne _ _ _ _ (by decide)).trans ?_ | refine (cset_ne _ _ _ _ (by decide)).trans ?_ | rfl)) (getm_append hHp (callWith_method1 (spliced_more (n_loc K19.c.F.ns (v := .int (1 + (i : Int)) ti) (by (repeat first | assumption | exact upd_self _ _ _ | exact cset_self _ _ _ | refine (upd_ne _ _ _ _ (by decide)).trans ?_ | refine (cset_ne _ _ _ _ (by decide)).trans ?_ | rfl)) (spliced_none (wpAny_list_append_plain hHp (fun h' hl' hs'' => ?_) (by rw [List.size_toArray, hHi.length]; exact szl (len_no c' hj hkl hi hn')))))))))))
                have k20 : Kp [H] s19 { s19 with heap := h' } := Kp.same (tk := s19.toks) hs'' (.head _)
                have c20 := K19.c.keeps k20 (bs1 H hH0) (nm1 nLH)
                have kk : Kp [L, H] s11 { s19 with heap := h' } := ((k1117.wid1 (.head _)).trans ((k18.trans k19).of0)).trans (k20.wid1 (by simp))
                refine wpAny_execs_nil (wpAny_execs_nil (hRQ _ _ ⟨⟨_, hs' ++ [1 + (i : Int)], ⟨c20, K19.e1, K19.e2, K19.e3, K19.hS.at fun o e => k20.get e (nm1 nSH), ⟨hvs ++ [.int (1 + (i : Int)) ti], by simpa using hl', hHi.append (.cons _ _ .nil)⟩, K19.k.trans (k20.wid1 (by simp))⟩, by (repeat first | assumption | exact upd_self _ _ _ | exact cset_self _ _ _ | refine (upd_ne _ _ _ _ (by decide)).trans ?_ | refine (cset_ne _ _ _ _ (by decide)).trans ?_ | rfl), fun x => ?_, by rw [List.length_append]; exact Nat.succ_le_succ c', k'.trans kk⟩, kk⟩))
                rw [List.mem_append, b x, List.mem_singleton]
                constructor
                · rintro (h | rfl)
                  · rcases h with h | ⟨rfl, h⟩
                    · exact .inl h
                    · exact .inr ⟨rfl, by rw [step, h]; rfl⟩
                  · exact .inr ⟨rfl, by rw [step, hyes, Bool.or_true]⟩
                · rintro (h | ⟨rfl, h⟩)
                  · exact .inl (.inl h)
                  · exact .inr rfl
            · refine if_f (decide_eq_false h2) ?_
              exact wpAny_execs_nil (wpAny_execs_nil (hRQ _ _ (fin _ k19 (same (by rw [hin, decide_eq_false h2, Bool.and_false])))))
          · refine if_f (decide_eq_false h1) ?_
            exact wpAny_execs_nil (wpAny_execs_nil (hRQ _ _ (fin _ Kp.refl (same (by rw [hin, decide_eq_false h1, Bool.false_and])))))
        · rintro I' s11 hI' ⟨m', hs', x⟩
          exact hRQ _ ⟨⟨m', hs', x⟩, (k10.wid1 (.head _)).trans (x.k.wid2 (.head _) (.tail _ (.tail _ (.head _))))⟩
      · rintro s11 ⟨⟨m', hs', x⟩, k'⟩
        refine wpAny_execs_nil (hRQ _ _ ⟨⟨m', hs', x.a, fun y => ?_, Nat.le_trans x.c (Nat.add_le_add_left hkl _)⟩, k'⟩)
        rw [x.b y, List.take_length]
        exact one_more
    · rintro I s9 hI ⟨m', hs, a, b, c'⟩
      exact hRQ _ ⟨m', hs, a, b, Nat.le_trans c' (Nat.le_trans (Nat.mul_le_mul_left 2 hn') (by decide))⟩
  rintro s8 ⟨m8, hs, K8, b8, c8⟩
  refine wpAny_execs_cons (wpAny_Return_some (Tuple_ (spliced_more (ct1 K8.c.Gs (by k_is) rfl (n_loc K8.c.F.ns K8.e2 (call_tuple_list K8.hS.isList (fun h' hk => ?_) (by rw [List.size_toArray]; exact szl hv2)))))))
  have k9 : Kp [] s8 { s8 with heap := h'.push { cls := .type "tuple", data := .seq vs.toArray } } := ⟨⟨_, _, rfl⟩, fun b o _ e => Heap.get?_push_of_some _ (hk b o e)⟩
  have K9 := K8.keep0 k9
  have hT9 : (h'.push { cls := .type "tuple", data := .seq vs.toArray }).IsTuple h'.objs.size vs.toArray := ⟨_, Heap.get?_push_size _ rfl, rfl, _, rfl⟩
  have hT8 : s8.heap.get? h'.objs.size = none := by
    cases e : s8.heap.get? h'.objs.size with
    | none => rfl
    | some o => exact absurd (Heap.lt_size (hk _ _ e)) (Nat.lt_irrefl _)
  have hTs : s.heap.get? h'.objs.size = none := fresh_back K8.c.kp0 (fun _ h => nomatch h) hT8
  refine spliced_more (n_loc K9.c.F.ns K9.e3 (spliced_none (new_tup (Nat.le_of_ble_eq_true rfl) fun R s10 hR hR10 k10 => ?_)))
  have notZ : ∀ a, s.heap.get? a = none → a ∉ Z := fun a h m => by obtain ⟨o, e⟩ := live a m; rw [h] at e; cases e
  obtain ⟨hvs, hHp, hHi⟩ := K9.hH
  refine hRZ _ _ ⟨R, _, H, vs, kps, hs, rfl, hR10, ?_, ?_, ?_, fun x h1 h2 => ?_, c8, (K9.c.keep0 k10).kp0⟩
  · obtain ⟨o, e, r⟩ := hT9
    exact ⟨o, hideAll_get _ (k10.keep _ _ e) (notZ _ hTs), r⟩
  · exact q7.mono fun v y h => hmono h (hid_up (K9.k.trans k10.of0) (mem3 (.inl (.head _)) (.inl (.tail _ (.head _))) (.inl (.tail _ (.tail _ (.head _))))) fun y hy => .inl (.tail _ (.tail _ (.tail _ hy))))
  · obtain ⟨n', e⟩ := hHp
    exact Ints.of ⟨_, hideAll_get _ (k10.keep _ _ e) (notZ _ hH0), rfl, _, rfl⟩ hHi
  · rw [b8 x]
    exact ⟨fun h => h.2.2, fun h => ⟨h1, h2, h⟩⟩
end Mine
end
section
open PySem PySem.W PySem.Calls PyProof.Rows
namespace Mine
section
variable {w : World} {A : Around} {E : Value → Shared → Prop} {s : Shared} {Q : Value → Shared → Prop}
theorem c_sum {a : Addr} {ns : List Int} (hh : A.handled = none) (ha : Ints s.heap a ns) (h : ∀ t s', Kp [] s s' → Q (.int ns.sum t) s') :
    wpAny (model PySem.Challenge.rw_nz0289_01.row.prog w) A (PySem.call (.builtin "sum") [.ref a]) Q E s := by
  obtain ⟨vs, hl, hi⟩ := ha.ints
  obtain ⟨xs, hx⟩ := hi.allInts.items
  have hn : numsOf vs.toArray.toList = ns := by rw [show vs.toArray.toList = vs from rfl, hi.numsOf]
  rw [hx] at hl hn
  rw [nums_intItems] at hn
  refine sum_intListG hh hl fun h' tk t' hk => ?_
  rw [preSum_eq, List.take_of_length_le (by simp), hn]
  exact h _ _ ⟨⟨_, _, rfl⟩, fun b o _ e => hk b o e⟩
theorem c_listrange {r : Addr} {a b : Int} {t u v : Tok} {n : Nat} (hh : A.handled = none) (hr : IsRange s.heap r a b 1 t u v) (hsmall : Builtin.Range.small a b 1 = true) (hn : Builtin.Range.rangeSize a b 1 = (n : Int)) (hlen : n ≤ 1000)
    (h : ∀ D s', s.heap.get? D = none → Ints s'.heap D (rangeI a n) → Kp [] s s' → Q (.ref D) s') :
    wpAny (model PySem.Challenge.rw_nz0289_01.row.prog w) A (PySem.call (.type "list") [.ref r]) Q E s := by
  refine call_list_range hh hr hsmall hn (by omega) fun h' tk acc c hk hD hI => h _ _ (fresh_of (Nat.le_refl _)) ?_ ⟨⟨_, _, rfl⟩, fun b o _ e => hk b o e⟩
  obtain ⟨hsz, hit⟩ := hI
  refine ⟨acc.toList, ⟨_, hD, rfl, _, by rw [Array.toArray_toList]⟩, ?_⟩
  have key : ∀ (k : Nat) (l : List Value), l.length = k → (∀ (j : Nat) v, l[j]? = some v → ∃ t, v = Value.int (a + ((n - k : Nat) : Int) + (j : Int)) t) → k ≤ n → Paired (IntV h') l ((List.range' (n - k) k).map fun i : Nat => a + (i : Int)) := by
    intro k
    induction k with
    | zero => intro l hl _ _; rw [List.length_eq_zero_iff.mp hl]; exact .nil
    | succ k ih =>
      intro l hl hv hk
      cases l with
      | nil => cases hl
      | cons x r =>
        rw [List.range'_succ, List.map_cons]
        refine .cons ?_ ?_
        · obtain ⟨t, e⟩ := hv 0 x rfl
          exact ⟨t, by rw [e]; simp⟩
        · have e : n - (k + 1) + 1 = n - k := by omega
          rw [e]
          refine ih r (by simpa using hl) (fun j v hj => ?_) (by omega)
          obtain ⟨t, e'⟩ := hv (j + 1) v (by simpa using hj)
          exact ⟨t, by rw [e']; congr 1; omega⟩
  have := key n acc.toList (by simpa using hsz) (fun j v hj => by
    obtain ⟨t, e⟩ := hit j v (by simpa using hj)
    exact ⟨t, by rw [e]; simp⟩) (Nat.le_refl _)
  rw [Nat.sub_self] at this
  unfold rangeI
  rw [List.range_eq_range']
  exact this
theorem IntsAre.toList {vs : List Value} {ns : List Int} {h : Heap} (x : IntsAre vs ns) : Paired (IntV h) vs ns := paired_of_ints x
theorem c_slice_to {value slice : Expr} {l : Addr} {ns : List Int} {k : Nat} {t : Tok} (hl : Ints s.heap l ns) (hsz : ns.length ≤ 1000)
    (h : ∀ D s', s.heap.get? D = none → Ints s'.heap D (ns.take k) → Kp [] s s' → Q (.ref D) s')
    (hs : subscripted slice false (.ref l) (.ref s.heap.objs.size) = operate [.ref s.heap.objs.size, .ref l] (getItem (.ref l) (.ref s.heap.objs.size)) := by with_unfolding_all rfl)
    (ht : ∀ r, letTemporaryGo value (.ref l) r = pure () := by intro _; with_unfolding_all rfl) :
    wpAny (model PySem.Challenge.rw_nz0289_01.row.prog w) A (subscriptTail value slice (.ref l) (.ref s.heap.objs.size)) Q E { s with heap := s.heap.push { cls := .type "slice", data := .fields #[.none, .int k t, .none] } } := by
  obtain ⟨vs, h1, h2⟩ := hl.ints
  refine slice_listK h1 .none (.int k t) ?_ hs ht (by rw [List.size_toArray, h2.length, sizeLine_eq]; omega)
  rw [slicePick_upto']
  refine h _ _ (fresh_of (Nat.le_succ _)) (Ints.of (vs := vs.take k) ⟨{ cls := .type "list", data := .seq (vs.take k).toArray }, ?_, rfl, _, rfl⟩ (h2.take k)) ((Kp.push).trans Kp.push)
  have := Heap.get?_push_size (s.heap.push { cls := .type "slice", data := .fields #[.none, .int k t, .none] }) (o := { cls := .type "list", data := .seq (vs.take k).toArray }) rfl
  rw [Heap.size_push] at this
  exact this
theorem c_slice_from {value slice : Expr} {l : Addr} {ns : List Int} {k : Nat} {t : Tok} (hl : Ints s.heap l ns) (hsz : ns.length ≤ 1000)
    (h : ∀ D s', s.heap.get? D = none → Ints s'.heap D (ns.drop k) → Kp [] s s' → Q (.ref D) s')
    (hs : subscripted slice false (.ref l) (.ref s.heap.objs.size) = operate [.ref s.heap.objs.size, .ref l] (getItem (.ref l) (.ref s.heap.objs.size)) := by with_unfolding_all rfl)
    (ht : ∀ r, letTemporaryGo value (.ref l) r = pure () := by intro _; with_unfolding_all rfl) :
    wpAny (model PySem.Challenge.rw_nz0289_01.row.prog w) A (subscriptTail value slice (.ref l) (.ref s.heap.objs.size)) Q E { s with heap := s.heap.push { cls := .type "slice", data := .fields #[.int k t, .none, .none] } } := by
  obtain ⟨vs, h1, h2⟩ := hl.ints
  refine slice_listK h1 (.int k t) .none ?_ hs ht (by rw [List.size_toArray, h2.length, sizeLine_eq]; omega)
  rw [slicePick_from']
  refine h _ _ (fresh_of (Nat.le_succ _)) (Ints.of (vs := vs.drop k) ⟨{ cls := .type "list", data := .seq (vs.drop k).toArray }, ?_, rfl, _, rfl⟩ (h2.drop k)) ((Kp.push).trans Kp.push)
  have := Heap.get?_push_size (s.heap.push { cls := .type "slice", data := .fields #[.int k t, .none, .none] }) (o := { cls := .type "list", data := .seq (vs.drop k).toArray }) rfl
  rw [Heap.size_push] at this
  exact this
end

/-! the law's frame: its locals at L, its cells at L + 1 to L + 9 -/

theorem nine {P : Nat → Prop} (h1 : P 1) (h2 : P 2) (h3 : P 3) (h4 : P 4) (h5 : P 5) (h6 : P 6) (h7 : P 7) (h8 : P 8) (h9 : P 9) : ∀ i : Nat, 1 ≤ i → i ≤ 9 → P i := by
  intro i a b
  cases i with
  | zero => cases a
  | succ i => cases i with
    | zero => exact h1
    | succ i => cases i with
      | zero => exact h2
      | succ i => cases i with
        | zero => exact h3
        | succ i => cases i with
          | zero => exact h4
          | succ i => cases i with
            | zero => exact h5
            | succ i => cases i with
              | zero => exact h6
              | succ i => cases i with
                | zero => exact h7
                | succ i => cases i with
                  | zero => exact h8
                  | succ i => cases i with
                    | zero => exact h9
                    | succ i => exact absurd b (by omega)
structure LS (w : World) (s : Shared) (L : Addr) (m : PySem.Str → Option Value) (cv : Nat → Option Value) (s' : Shared) : Prop where
  c : Cx w s (hideAll s.heap []) L m s'
  cell : ∀ i : Nat, 1 ≤ i → i ≤ 9 → s'.heap.IsCell (L + i) (cv i)
/-- static facts of the frame: all is new since the call -/
structure LZ (s : Shared) (L : Addr) : Prop where
  fr : ∀ i : Nat, s.heap.get? (L + i) = none

namespace LS
variable {w : World} {s : Shared} {L : Addr} {m m' : PySem.Str → Option Value} {cv : Nat → Option Value} {s' s'' : Shared}
theorem live (x : LS w s L m cv s') : ∀ i : Nat, i ≤ 9 → ∃ o, s'.heap.get? (L + i) = some o := fun i hi => by
  rcases Nat.eq_zero_or_pos i with rfl | h
  · obtain ⟨o, _, _, e, _⟩ := x.c.F.ns; exact ⟨o, e⟩
  · obtain ⟨o, e, _⟩ := x.cell i h hi; exact ⟨o, e⟩
theorem get {i : Nat} {v : Value} (x : LS w s L m cv s') (h : cv i = some v) (h1 : 1 ≤ i := by decide) (h9 : i ≤ 9 := by decide) : s'.heap.IsCell (L + i) (some v) := h ▸ x.cell i h1 h9
theorem bs {a : Addr} (n : s.heap.get? a = none) : (hideAll s.heap []).get? a = none := by
  cases e : (hideAll s.heap []).get? a with
  | none => rfl
  | some o => rw [of_hideAll _ e] at n; cases n
theorem move {X : List Addr} (x : LS w s L m cv s') (k : Kp X s' s'') (hb : ∀ a ∈ X, s.heap.get? a = none) (hn : ∀ i : Nat, i ≤ 9 → L + i ∉ X) : LS w s L m cv s'' :=
  ⟨x.c.keeps k (fun a ha => bs (hb a ha)) (hn 0 (by decide)), fun i h1 h9 => cell_kp (x.cell i h1 h9) k (hn i h9)⟩
theorem keep0 (x : LS w s L m cv s') (k : Kp [] s' s'') : LS w s L m cv s'' := x.move k (fun _ h => nomatch h) fun _ _ h => nomatch h
theorem tok {tk : Nat} (x : LS w s L m cv s') : LS w s L m cv { s' with toks := tk } := x.keep0 Kp.tok
theorem plus_ne {i j : Nat} (h : i ≠ j) : L + i ≠ L + j := fun e => h (Nat.add_left_cancel e)
theorem loc (x : LS w s L m cv s') (c : Cx w s (hideAll s.heap []) L m' s'') (k : Kp [L] s' s'') : LS w s L m' cv s'' :=
  ⟨c, fun i h1 h9 => cell_kp (x.cell i h1 h9) k (nm1 (plus_ne (i := i) (j := 0) (by omega)))⟩
theorem setc {i : Nat} {v : Value} (x : LS w s L m cv s') (c : Cx w s (hideAll s.heap []) L m' s'') (h : s''.heap.IsCell (L + i) (some v)) (k : Kp [L + i] s' s'') : LS w s L m' (cset cv i v) s'' :=
  ⟨c, fun j h1 h9 => by
    unfold cset
    by_cases e : j = i
    · subst e; rw [if_pos rfl]; exact h
    · rw [if_neg e]; exact cell_kp (x.cell j h1 h9) k (nm1 (plus_ne e))⟩
end LS
/-- the mutable part -/
noncomputable def ZL (L d : Addr) : List Addr := d :: (List.range 10).map fun i => L + i
theorem ZL_d {L d : Addr} : d ∈ ZL L d := .head _
theorem ZL_i {L d : Addr} (i : Nat) (h : i ≤ 9) : L + i ∈ ZL L d := .tail _ (List.mem_map.mpr ⟨i, List.mem_range.mpr (by omega), rfl⟩)
theorem ZL_L {L d : Addr} : L ∈ ZL L d := ZL_i 0 (by decide)
theorem ZL_elim {L d : Addr} {P : Addr → Prop} (h1 : P d) (h2 : ∀ i : Nat, i ≤ 9 → P (L + i)) : ∀ z ∈ ZL L d, P z := fun z hz => by
  rcases List.mem_cons.mp hz with rfl | hz
  · exact h1
  · obtain ⟨i, hi, rfl⟩ := List.mem_map.mp hz
    exact h2 i (by have := List.mem_range.mp hi; omega)
theorem Ints.fresh {α : Type} {V : Heap → Value → α → Prop} {s s' : Shared} {Z : List Addr} {D : Addr} {ns : List α} (hV : ∀ v a, V s'.heap v a → V (hideAll s'.heap Z) v a) (live : ∀ z ∈ Z, ∃ o, s.heap.get? z = some o) (hD : s.heap.get? D = none) (x : LOf V s'.heap D ns) : LOf V (hideAll s'.heap Z) D ns := by
  obtain ⟨vs, ⟨o, e, r⟩, q⟩ := x
  exact ⟨vs, ⟨o, hideAll_get _ e (fun hm => by obtain ⟨o', e'⟩ := live D hm; rw [hD] at e'; cases e'), r⟩, q.mono fun v a h => hV v a h⟩
theorem fz {Z Y : List Addr} {s s' : Shared} {X : List Addr} (k : Kp X s s') (hX : ∀ x ∈ X, x ∈ Z) (hY : ∀ y ∈ Y, y ∈ Z) : ∀ b o, (hideAll s.heap Z).get? b = some o → (hideAll s'.heap Y).get? b = some o :=
  hid_up k (fun x h => .inl (hX x h)) fun y h => .inl (hY y h)
end Mine
end
section
open PySem PySem.W PySem.Calls PyProof.Rows
namespace Mine
/-! the plain law: no program in sight -/
structure Inv (n : Nat) (us : List Int) (rs : List (Int × Int)) (fl top : Int) : Prop where
  f0 : 0 ≤ fl
  f1 : fl ≤ top
  rt : ∀ p ∈ rs, p.2 ≤ top
  so : us.Pairwise (· < ·)
  ur : ∀ u ∈ us, 1 ≤ u ∧ u ≤ (n : Int)
  rr : ∀ p ∈ rs, 1 ≤ p.1 ∧ p.1 ≤ (n : Int) ∧ p.1 ∉ us
  len : us.length + rs.length = n
noncomputable def heldL (rs : List (Int × Int)) (fl : Int) : List (Int × Int) := rs.filter fun p => decide (fl < p.2)

theorem filter_mem_filter (us : List Int) (sel : Int → Bool) : (us.filter fun u => decide (u ∈ us.filter sel)) = us.filter sel :=
  List.filter_congr fun u hu => by rw [Bool.eq_iff_iff, decide_eq_true_iff, List.mem_filter]; exact ⟨fun h => h.2, fun h => ⟨hu, h⟩⟩
theorem filter_nmem_filter (us : List Int) (sel : Int → Bool) : (us.filter fun u => !decide (u ∈ us.filter sel)) = us.filter fun u => !sel u :=
  List.filter_congr fun u hu => by
    have : decide (u ∈ us.filter sel) = sel u := by rw [Bool.eq_iff_iff, decide_eq_true_iff, List.mem_filter]; exact ⟨fun h => h.2, fun h => ⟨hu, h⟩⟩
    rw [this]
theorem len_split (us : List Int) (sel : Int → Bool) : (us.filter fun u => !sel u).length + (us.filter sel).length = us.length := by
  induction us with
  | nil => rfl
  | cons u r ih =>
    cases h : sel u <;> simp only [List.filter_cons, h, Bool.not_true, Bool.not_false, Bool.false_eq_true, if_true, if_false, List.length_cons] <;> omega

section
variable {n : Nat} {us : List Int} {rs : List (Int × Int)} {fl top : Int}
noncomputable def topN (top : Int) (sm : List Int) : Int := if sm = [] then top else top + 1
theorem Inv.round (I : Inv n us rs fl top) (sel : Int → Bool) : Inv n (us.filter fun u => !sel u) (rs ++ (us.filter sel).map fun u => (u, topN top (us.filter sel))) fl (topN top (us.filter sel)) := by
  have ht : top ≤ topN top (us.filter sel) := by unfold topN; split <;> omega
  refine ⟨I.f0, Int.le_trans I.f1 ht, fun p hp => ?_, I.so.filter _, fun u hu => I.ur u (List.mem_filter.mp hu).1, fun p hp => ?_, ?_⟩
  · rcases List.mem_append.mp hp with hp | hp
    · exact Int.le_trans (I.rt p hp) ht
    · obtain ⟨u, _, rfl⟩ := List.mem_map.mp hp; exact Int.le_refl _
  · rcases List.mem_append.mp hp with hp | hp
    · obtain ⟨a, b, c⟩ := I.rr p hp
      exact ⟨a, b, fun h => c (List.mem_filter.mp h).1⟩
    · obtain ⟨u, hu, rfl⟩ := List.mem_map.mp hp
      obtain ⟨hu1, hu2⟩ := List.mem_filter.mp hu
      obtain ⟨a, b⟩ := I.ur u hu1
      refine ⟨a, b, fun h => ?_⟩
      have := (List.mem_filter.mp h).2
      simp [hu2] at this
  · have := len_split us sel
    have := I.len
    rw [List.length_append, List.length_map]; omega
theorem Inv.held_round (I : Inv n us rs fl top) (sel : Int → Bool) : heldL (rs ++ (us.filter sel).map fun u => (u, topN top (us.filter sel))) fl = heldL rs fl ++ (us.filter sel).map fun u => (u, top + 1) := by
  unfold heldL
  rw [List.filter_append]
  congr 1
  by_cases h : us.filter sel = []
  · rw [h]; rfl
  · have e : topN top (us.filter sel) = top + 1 := if_neg h
    rw [e]
    refine List.filter_eq_self.mpr fun p hp => ?_
    obtain ⟨u, _, rfl⟩ := List.mem_map.mp hp
    have := I.f1
    exact decide_eq_true (by show fl < top + 1; omega)
theorem Inv.forget (I : Inv n us rs fl top) {b : Int} (hb : b ≤ top) : Inv n us rs (max fl b) top :=
  ⟨by have := I.f0; omega, by have := I.f1; omega, I.rt, I.so, I.ur, I.rr, I.len⟩
theorem held_max (rs : List (Int × Int)) (fl b : Int) : (heldL rs fl).filter (fun p => decide (max fl b < p.2)) = heldL rs (max fl b) := by
  unfold heldL
  rw [List.filter_filter]
  refine List.filter_congr fun p _ => ?_
  by_cases h : max fl b < p.2
  · rw [decide_eq_true h, decide_eq_true (by omega : fl < p.2)]; rfl
  · rw [decide_eq_false h]; rfl
theorem forget3 (I : Inv n us rs fl top) (q : Int) : fgtF fl top q = max fl (min q top) ∧ fgtP fl top q (heldL rs fl) = heldL rs (max fl (min q top)) ∧ fgtC fl top q (heldL rs fl) = ((heldL rs fl).length : Int) - (heldL rs (max fl (min q top))).length := by
  have e : fgtP fl top q (heldL rs fl) = heldL rs (max fl (min q top)) := by
    unfold fgtP
    by_cases h : min q top ≤ fl
    · rw [if_pos h, show max fl (min q top) = fl by omega]
    · rw [if_neg h, ← held_max]
      rw [show max fl (min q top) = min q top by omega]
  refine ⟨?_, e, ?_⟩
  · unfold fgtF; split <;> omega
  · unfold fgtC; rw [e]
/-- the law's bound for forget_beyond -/
noncomputable def bndB (most : Int) (ps : List (Int × Int)) : Int := if most < (ps.length : Int) then fgbQ most ps else 0
theorem bndB_le (I : Inv n us rs fl top) {most : Int} (hm : 0 ≤ most) : bndB most (heldL rs fl) ≤ top := by
  unfold bndB
  have := I.f0
  have := I.f1
  split
  · rename_i h
    unfold fgbQ
    have hk : ((heldL rs fl).length - most - 1).toNat < (heldL rs fl).length := by omega
    rw [List.getD_eq_getElem?_getD, List.getElem?_eq_getElem hk]
    exact I.rt _ (List.mem_filter.mp (List.getElem_mem hk)).1
  · omega
theorem forget4 (I : Inv n us rs fl top) {most : Int} (hm : 0 ≤ most) : fgbF fl top most (heldL rs fl) = max fl (bndB most (heldL rs fl)) ∧ fgbP fl top most (heldL rs fl) = heldL rs (max fl (bndB most (heldL rs fl))) ∧ fgbC fl top most (heldL rs fl) = ((heldL rs fl).length : Int) - (heldL rs (max fl (bndB most (heldL rs fl)))).length := by
  have hle := bndB_le I hm
  have h0 := I.f0
  by_cases h : ((heldL rs fl).length : Int) ≤ most
  · have e : bndB most (heldL rs fl) = 0 := if_neg (by omega)
    rw [e, show max fl 0 = fl by omega]
    refine ⟨if_pos h, if_pos h, ?_⟩
    unfold fgbC; rw [if_pos h]; omega
  · have e : bndB most (heldL rs fl) = fgbQ most (heldL rs fl) := if_pos (by omega)
    rw [e] at hle ⊢
    obtain ⟨a, b, c⟩ := forget3 I (fgbQ most (heldL rs fl))
    have em : min (fgbQ most (heldL rs fl)) top = fgbQ most (heldL rs fl) := by omega
    rw [em] at a b c
    exact ⟨(if_neg h).trans a, (if_neg h).trans b, (if_neg h).trans c⟩

/-- what the law says is due -/
noncomputable def dueL (n : Nat) (us : List Int) (rs : List (Int × Int)) (fl q : Int) : List Int :=
  if q < fl then (rangeI 1 n).filter fun u => !decide (u ∈ us) else sortI ((rs.filter fun p => decide (q < p.2)).map (·.1))
theorem found_due (q : Int) : found fl q us n (heldL rs fl) = dueL n us rs fl q := by
  unfold found dueL
  by_cases h : q < fl
  · rw [if_pos h, if_pos h]; exact List.filter_congr fun u _ => by simp
  · rw [if_neg h, if_neg h]
    unfold heldL
    rw [List.filter_filter]
    congr 2
    refine List.filter_congr fun p _ => ?_
    by_cases h' : q < p.2
    · rw [decide_eq_true h', decide_eq_true (by omega : fl < p.2)]; rfl
    · rw [decide_eq_false h']; rfl
theorem mem_sortI {x : Int} {l : List Int} : x ∈ sortI l ↔ x ∈ l := (List.mergeSort_perm l _).mem_iff
theorem due_range (I : Inv n us rs fl top) {q u : Int} (h : u ∈ dueL n us rs fl q) : 1 ≤ u ∧ u ≤ (n : Int) := by
  unfold dueL at h
  split at h
  · have := mem_rangeI.mp (List.mem_filter.mp h).1; omega
  · rw [mem_sortI] at h
    obtain ⟨p, hp, rfl⟩ := List.mem_map.mp h
    obtain ⟨a, b, _⟩ := I.rr p (List.mem_filter.mp hp).1
    exact ⟨a, b⟩
theorem due_known (I : Inv n us rs fl top) (q : Int) {kps : List (Int × Int)} {hs : List Int} (hk : ∀ x : Int, 1 ≤ x → x ≤ n → (x ∈ hs ↔ kps.any (inR (n : Int) x) = true)) :
    (dueL n us rs fl q).filter (fun u => kps.any (inR (n : Int) u)) = (dueL n us rs fl q).filter fun u => decide (u ∈ hs) :=
  List.filter_congr fun u hu => by
    obtain ⟨a, b⟩ := due_range I hu
    have := hk u a b
    rw [Bool.eq_iff_iff, decide_eq_true_iff]
    exact this.symm
theorem due_mono (I : Inv n us rs fl top) (q : Int) : (dueL n us rs fl (q + 1)).filter (fun u => !decide (u ∈ dueL n us rs fl q)) = [] := by
  rw [List.filter_eq_nil_iff]
  intro u hu
  simp only [Bool.not_eq_true', decide_eq_false_iff_not, Decidable.not_not]
  obtain ⟨r1, r2⟩ := due_range I hu
  unfold dueL at hu ⊢
  by_cases h1 : q + 1 < fl
  · rw [if_pos h1] at hu
    rw [if_pos (by omega)]; exact hu
  · rw [if_neg h1, mem_sortI] at hu
    obtain ⟨p, hp, rfl⟩ := List.mem_map.mp hu
    obtain ⟨hp1, hp2⟩ := List.mem_filter.mp hp
    have hp2 := of_decide_eq_true hp2
    by_cases h2 : q < fl
    · rw [if_pos h2]
      refine List.mem_filter.mpr ⟨mem_rangeI.mpr (by omega), ?_⟩
      have := (I.rr p hp1).2.2
      simp [this]
    · rw [if_neg h2, mem_sortI]
      exact List.mem_map.mpr ⟨p, List.mem_filter.mpr ⟨hp1, decide_eq_true (by omega)⟩, rfl⟩
theorem due_len (I : Inv n us rs fl top) (q : Int) : (dueL n us rs fl q).length ≤ n := by
  unfold dueL
  split
  · exact Nat.le_trans (List.length_filter_le _ _) (by rw [rangeI_length]; exact Nat.le_refl _)
  · unfold sortI
    rw [List.length_mergeSort, List.length_map]
    have := List.length_filter_le (fun p : Int × Int => decide (q < p.2)) rs
    have := I.len
    omega
theorem held_len (I : Inv n us rs fl top) (f : Int) : (heldL rs f).length ≤ n := by
  have := List.length_filter_le (fun p : Int × Int => decide (f < p.2)) rs
  have := I.len
  unfold heldL; omega
theorem Inv.us9 (I : Inv n us rs fl top) (h : n ≤ 9) : us.length ≤ 9 := by have := I.len; omega
theorem Inv.rs9 (I : Inv n us rs fl top) (h : n ≤ 9) : rs.length ≤ 9 := by have := I.len; omega
theorem Inv.held9 (I : Inv n us rs fl top) (h : n ≤ 9) (f : Int) : (heldL rs f).length ≤ 9 := Nat.le_trans (held_len I f) h
theorem Inv.top0 (I : Inv n us rs fl top) : 0 ≤ top := Int.le_trans I.f0 I.f1
theorem Inv.top3 (I : Inv n us rs fl top) : 1 ≤ top + 3 := by have := I.top0; omega
theorem topN_le {l : List Int} {a : Int} {i : Nat} (h : top ≤ a + (i : Int)) : topN top l ≤ a + ((i + 1 : Nat) : Int) := by unfold topN; split <;> omega
theorem Inv.start (n : Nat) : Inv n (rangeI 1 n) [] 0 (1 + n) := by
  refine ⟨Int.le_refl _, by omega, (fun _ h => nomatch h), ?_, fun u hu => ?_, (fun _ h => nomatch h), by rw [rangeI_length]; rfl⟩
  · unfold rangeI
    rw [List.pairwise_map]
    exact List.pairwise_lt_range.imp fun h => by omega
  · have := mem_rangeI.mp hu; omega
end
end Mine
end
section
open PySem PySem.W PySem.Calls PyProof.Rows
namespace Mine
theorem rangeI_succ (a : Int) (n : Nat) : rangeI a (n + 1) = rangeI a n ++ [a + (n : Int)] := by
  unfold rangeI
  rw [List.range_succ, List.map_append]; rfl
/-- what never changes of the law's frame and box -/
structure Stat (s : Shared) (L d bx : Addr) : Prop where
  fr : ∀ i : Nat, s.heap.get? (L + i) = none
  fd : s.heap.get? d = none
  dn : ∀ i : Nat, i ≤ 9 → L + i ≠ d
  bn : bx ∉ ZL L d
  fb : s.heap.get? bx = none
theorem Stat.frZ {s : Shared} {L d bx : Addr} (x : Stat s L d bx) : ∀ a ∈ ZL L d, s.heap.get? a = none := ZL_elim x.fd fun i _ => x.fr i

theorem LS.list_not {w : World} {s : Shared} {L d : Addr} {m : PySem.Str → Option Value} {cv : Nat → Option Value} {s' : Shared} {md : PySem.Str → Option Value} {k : Nat} {a : Addr} {items : Array Value} (x : LS w s L m cv s') (D : DAt s'.heap d md k) (h : s'.heap.IsList a items) : a ∉ ZL L d := fun hm => by
  rcases List.mem_cons.mp hm with e | hm
  · exact D.ne_list h e
  · obtain ⟨i, hi, e⟩ := List.mem_map.mp hm
    have hi := List.mem_range.mp hi
    rcases Nat.eq_zero_or_pos i with rfl | h0
    · exact ns_ne_list x.c.F.ns h e.symm
    · obtain ⟨o, e1, e2⟩ := x.cell i h0 (by omega)
      obtain ⟨o', e1', _, n, e2'⟩ := h
      rw [e, e1'] at e1; cases e1; rw [e2'] at e2; cases e2
theorem LOf.not_in {α : Type} {V : Heap → Value → α → Prop} {h : Heap} {Z : List Addr} {a : Addr} {xs : List α} (x : LOf V h a xs) (hn : a ∉ Z) (hV : ∀ v y, V h v y → V (hideAll h Z) v y) : LOf V (hideAll h Z) a xs := by
  obtain ⟨vs, ⟨o, e, r⟩, q⟩ := x
  exact ⟨vs, ⟨o, hideAll_get _ e hn, r⟩, q.mono fun v y h => hV v y h⟩
theorem abs_state {α : Type} {M : Model} {A : Around} {E : Value → Shared → Prop} {t : Sem α} {Q : α → Shared → Prop} {s₀ s : Shared} (k : Kp [] s₀ s) (h : ∀ s', Kp [] s₀ s' → wpAny M A t Q E s') : wpAny M A t Q E s := h s k
theorem asg_tup {w : World} {A : Around} {E : Value → Shared → Prop} {s : Shared} {env : Env} {elts : List Expr} {x1} {pos : Pos} {T : Addr} {items : List Value} {Q : Unit → Shared → Prop} (hh : A.handled = none) (ht : s.heap.IsTuple T items.toArray)
    (hn : (assignEach elts env).length = items.toArray.size) (hstar : (assignEach elts env).findIdx? (·.1) = none)
    (h : ∀ s', Kp [] s s' → wpAny (model PySem.Challenge.rw_nz0289_01.row.prog w) A (assignInOrder ((assignEach elts env).map (·.2)) items) Q E s') :
    wpAny (model PySem.Challenge.rw_nz0289_01.row.prog w) A (assign (.Tuple elts x1 pos) env (.ref T)) Q E s :=
  wpAny_assign_Tuple hh ht hn hstar fun h' he => h _ ⟨⟨h', s.toks, rfl⟩, fun b o _ e => he b o (Nat.ne_of_lt (Heap.lt_size e)) e⟩
theorem IntV.any {h h' : Heap} {v : Value} {y : Int} (x : IntV h v y) : IntV h' v y := x
theorem Ints.off {h : Heap} {Z : List Addr} {a : Addr} {xs : List Int} (x : Ints h a xs) (hn : a ∉ Z) : Ints (hideAll h Z) a xs := LOf.not_in (V := IntV) x hn fun v y q => IntV.any q
/-- what the law holds at a turn: its lists, frozen off Z -/
structure MS (w : World) (s : Shared) (L d bx Ce : Addr) (cs : List Int) (n : Nat) (m : PySem.Str → Option Value) (cv : Nat → Option Value) (Z : List Addr) (us : List Int) (rs : List (Int × Int)) (fl top : Int) (s' : Shared) : Prop where
  x : LS w s L m cv s'
  ec : m (PySem.Str.ofString "cells") = some (.ref Ce)
  cl : Ints (hideAll s'.heap Z) Ce cs
  er : ∃ R, m (PySem.Str.ofString "rounds") = some (.ref R) ∧ Pairs (hideAll s'.heap Z) R rs
  b : ∃ l g, BoxAt s'.heap bx d (1 + n) top fl l g ∧ LOf LetV (hideAll s'.heap Z) l us ∧ Pairs (hideAll s'.heap Z) g (heldL rs fl)
  e1 : cv 1 = some (.ref bx)
  e2 : ∃ T, cv 2 = some (.ref T) ∧ Ints (hideAll s'.heap Z) T us
  e3 : ∃ t, cv 3 = some (.int fl t)
  inv : Inv n us rs fl top
/-- what stands while the letters are added -/
structure AS (w : World) (s : Shared) (L bx d Ce : Addr) (cs : List Int) (n : Nat) (l g : Addr) (Y : List Addr) (i : Nat) (m : PySem.Str → Option Value) (tc : Tok) (vs : List Value) (s' : Shared) : Prop where
  x : LS w s L m (cset (fun _ => none) 1 (.ref bx)) s'
  ec : m (PySem.Str.ofString "cells") = some (.ref Ce)
  en : m (PySem.Str.ofString "count") = some (.int (n : Int) tc)
  B : BoxAt s'.heap bx d (1 + i) (1 + i) 0 l g
  pl : s'.heap.PlainList l vs.toArray
  q : Paired (LetV (hideAll s'.heap Y)) vs (rangeI 1 i)
  pg : s'.heap.PlainList g #[]
  cl : Ints (hideAll s'.heap Y) Ce cs
namespace MS
variable {w : World} {s : Shared} {L d bx Ce : Addr} {cs : List Int} {n : Nat} {m m' : PySem.Str → Option Value} {cv cv' : Nat → Option Value} {Z Y : List Addr} {us : List Int} {rs : List (Int × Int)} {fl top : Int} {s' s'' : Shared}
theorem move {X : List Addr} (y : MS w s L d bx Ce cs n m cv Z us rs fl top s') (k : Kp X s' s'') (x : LS w s L m' cv' s'') (hX : ∀ a ∈ X, a ∈ Z) (hY : ∀ a ∈ Y, a ∈ Z) (hb : bx ∉ X) (hd : d ∉ X)
    (q1 : m' (PySem.Str.ofString "cells") = m (PySem.Str.ofString "cells")) (q2 : m' (PySem.Str.ofString "rounds") = m (PySem.Str.ofString "rounds")) (q3 : cv' 1 = cv 1) (q4 : cv' 2 = cv 2) (q5 : cv' 3 = cv 3) : MS w s L d bx Ce cs n m' cv' Y us rs fl top s'' := by
  have up := fz k hX hY
  obtain ⟨l, g, B, h1, h2⟩ := y.b
  obtain ⟨R, r1, r2⟩ := y.er
  obtain ⟨T, t1, t2⟩ := y.e2
  obtain ⟨t, t3⟩ := y.e3
  exact ⟨x, q1.trans y.ec, y.cl.up IntV.upp up, ⟨R, q2.trans r1, r2.up PairV.upp up⟩, ⟨l, g, B.kp k hb hd, h1.up LetV.upp up, h2.up PairV.upp up⟩, q3.trans y.e1, ⟨T, q4.trans t1, t2.up IntV.upp up⟩, ⟨t, q5.trans t3⟩, y.inv⟩
theorem keep0 (y : MS w s L d bx Ce cs n m cv Z us rs fl top s') (k : Kp [] s' s'') : MS w s L d bx Ce cs n m cv Z us rs fl top s'' :=
  y.move k (y.x.keep0 k) (fun _ h => nomatch h) (fun _ h => h) (fun h => nomatch h) (fun h => nomatch h) rfl rfl rfl rfl rfl
theorem tok {tk : Nat} (y : MS w s L d bx Ce cs n m cv Z us rs fl top s') : MS w s L d bx Ce cs n m cv Z us rs fl top { s' with toks := tk } := y.keep0 Kp.tok
theorem weak (y : MS w s L d bx Ce cs n m cv Z us rs fl top s') (hY : ∀ a ∈ Y, a ∈ Z) : MS w s L d bx Ce cs n m cv Y us rs fl top s' :=
  y.move (X := []) Kp.refl y.x (fun _ h => nomatch h) hY (fun h => nomatch h) (fun h => nomatch h) rfl rfl rfl rfl rfl
theorem liveZ (y : MS w s L d bx Ce cs n m cv Z us rs fl top s') : ∀ z ∈ ZL L d, ∃ o, s'.heap.get? z = some o := by
  obtain ⟨l, g, B, _⟩ := y.b
  exact ZL_elim B.live fun i hi => y.x.live i hi
/-- a local other than cells and rounds is stored -/
theorem loc (S : Stat s L d bx) (hL : L ∈ Z) (y : MS w s L d bx Ce cs n m cv Z us rs fl top s') (c : Cx w s (hideAll s.heap []) L m' s'') (k : Kp [L] s' s'') (q1 : m' (PySem.Str.ofString "cells") = m (PySem.Str.ofString "cells")) (q2 : m' (PySem.Str.ofString "rounds") = m (PySem.Str.ofString "rounds")) : MS w s L d bx Ce cs n m' cv Z us rs fl top s'' :=
  y.move k (y.x.loc c k) (fun a h => by rw [List.mem_singleton.mp h]; exact hL) (fun _ h => h) (nm1 fun e => S.bn (by rw [e]; exact ZL_L)) (nm1 fun e => S.dn 0 (by decide) e.symm) q1 q2 rfl rfl rfl
/-- a cell other than the first three is stored -/
theorem setc {i : Nat} {v : Value} (S : Stat s L d bx) (hi : i ≤ 9) (hi' : 4 ≤ i) (hL : L + i ∈ Z) (y : MS w s L d bx Ce cs n m cv Z us rs fl top s') (c : Cx w s (hideAll s.heap []) L m s'') (h : s''.heap.IsCell (L + i) (some v)) (k : Kp [L + i] s' s'') : MS w s L d bx Ce cs n m (cset cv i v) Z us rs fl top s'' :=
  y.move k (y.x.setc c h k) (fun a h => by rw [List.mem_singleton.mp h]; exact hL) (fun _ h => h) (nm1 fun e => S.bn (by rw [e]; exact ZL_i i hi)) (nm1 fun e => S.dn i hi e.symm) rfl rfl (cset_ne _ _ _ _ (by omega)) (cset_ne _ _ _ _ (by omega)) (cset_ne _ _ _ _ (by omega))
end MS

/-- what the law holds behind a forget: bnd its own bound -/
structure FS (w : World) (s : Shared) (L d bx Ce : Addr) (cs : List Int) (n : Nat) (m : PySem.Str → Option Value) (cv : Nat → Option Value) (Z : List Addr) (us : List Int) (rs : List (Int × Int)) (fl bnd top : Int) (Hd : Addr) (s' : Shared) : Prop where
  x : LS w s L m cv s'
  ec : m (PySem.Str.ofString "cells") = some (.ref Ce)
  cl : Ints (hideAll s'.heap Z) Ce cs
  er : ∃ R, m (PySem.Str.ofString "rounds") = some (.ref R) ∧ Pairs (hideAll s'.heap Z) R rs
  b : ∃ l g, BoxAt s'.heap bx d (1 + n) top (max fl bnd) l g ∧ LOf LetV (hideAll s'.heap Z) l us ∧ Pairs (hideAll s'.heap Z) g (heldL rs (max fl bnd))
  e1 : cv 1 = some (.ref bx)
  e2 : ∃ T, cv 2 = some (.ref T) ∧ Ints (hideAll s'.heap Z) T us
  e3 : ∃ t, cv 3 = some (.int fl t)
  e6 : ∃ t, cv 6 = some (.int bnd t)
  eh : m (PySem.Str.ofString "held") = some (.ref Hd)
  hd : Pairs (hideAll s'.heap Z) Hd (heldL rs fl)
  ef : ∃ t, m (PySem.Str.ofString "found") = some (.int ((heldL rs fl).length - (heldL rs (max fl bnd)).length) t)
theorem FS.keep0 {w : World} {s : Shared} {L d bx Ce : Addr} {cs : List Int} {n : Nat} {m : PySem.Str → Option Value} {cv : Nat → Option Value} {Z : List Addr} {us : List Int} {rs : List (Int × Int)} {fl bnd top : Int} {Hd : Addr} {s' s'' : Shared} (y : FS w s L d bx Ce cs n m cv Z us rs fl bnd top Hd s') (k : Kp [] s' s'') : FS w s L d bx Ce cs n m cv Z us rs fl bnd top Hd s'' := by
  have up := fz (Z := Z) (Y := Z) k (fun _ h => nomatch h) fun _ h => h
  obtain ⟨l, g, B, h1, h2⟩ := y.b
  obtain ⟨R, r1, r2⟩ := y.er
  obtain ⟨T, t1, t2⟩ := y.e2
  exact ⟨y.x.keep0 k, y.ec, y.cl.up IntV.upp up, ⟨R, r1, r2.up PairV.upp up⟩, ⟨l, g, B.keep k.keep, h1.up LetV.upp up, h2.up PairV.upp up⟩, y.e1, ⟨T, t1, t2.up IntV.upp up⟩, y.e3, y.e6, y.eh, y.hd.up PairV.upp up, y.ef⟩

/-- what stands while the modseqs are asked; i: how many were asked -/
structure VS (w : World) (s : Shared) (L d bx Ce : Addr) (cs : List Int) (n : Nat) (us : List Int) (rs : List (Int × Int)) (fl top : Int) (T H : Addr) (vs : List Value) (kps : List (Int × Int)) (hs : List Int) (i : Nat) (m : PySem.Str → Option Value) (cv : Nat → Option Value) (Z : List Addr) (s' : Shared) : Prop where
  y : MS w s L d bx Ce cs n m cv Z us rs fl top s'
  el : ∃ tl, m (PySem.Str.ofString "last") = some (.int (n : Int) tl)
  e5 : cv 5 = some (.ref T)
  e7 : cv 7 = some (.ref H)
  hT : (hideAll s'.heap Z).IsTuple T vs.toArray
  hp : Paired (PairV (hideAll s'.heap Z)) vs kps
  hH : Ints (hideAll s'.heap Z) H hs
  e8 : (i = 0 ∧ cv 8 = some .none) ∨ ∃ (q : Nat) (D : Addr), i = q + 1 ∧ cv 8 = some (.ref D) ∧ Ints (hideAll s'.heap Z) D (dueL n us rs fl q)
theorem VS.up {w : World} {s : Shared} {L d bx Ce : Addr} {cs : List Int} {n : Nat} {us : List Int} {rs : List (Int × Int)} {fl top : Int} {T H : Addr} {vs : List Value} {kps : List (Int × Int)} {hs : List Int} {i : Nat} {m m' : PySem.Str → Option Value} {cv cv' : Nat → Option Value} {Z Y : List Addr} {s' s'' : Shared}
    (v : VS w s L d bx Ce cs n us rs fl top T H vs kps hs i m cv Z s') (up : ∀ b o, (hideAll s'.heap Z).get? b = some o → (hideAll s''.heap Y).get? b = some o) (y : MS w s L d bx Ce cs n m' cv' Y us rs fl top s'')
    (q1 : m' (PySem.Str.ofString "last") = m (PySem.Str.ofString "last")) (q5 : cv' 5 = cv 5) (q7 : cv' 7 = cv 7) (q8 : cv' 8 = cv 8) : VS w s L d bx Ce cs n us rs fl top T H vs kps hs i m' cv' Y s'' := by
  obtain ⟨tl, el⟩ := v.el
  refine ⟨y, ⟨tl, q1.trans el⟩, q5.trans v.e5, q7.trans v.e7, v.hT.at fun o e => up _ _ e, v.hp.mono fun x z h => PairV.upp _ _ _ _ h up, v.hH.up IntV.upp up, ?_⟩
  rcases v.e8 with ⟨a, b⟩ | ⟨q, D, a, b, c⟩
  · exact .inl ⟨a, q8.trans b⟩
  · exact .inr ⟨q, D, a, q8.trans b, c.up IntV.upp up⟩
theorem VS.keep0 {w : World} {s : Shared} {L d bx Ce : Addr} {cs : List Int} {n : Nat} {us : List Int} {rs : List (Int × Int)} {fl top : Int} {T H : Addr} {vs : List Value} {kps : List (Int × Int)} {hs : List Int} {i : Nat} {m : PySem.Str → Option Value} {cv : Nat → Option Value} {Z : List Addr} {s' s'' : Shared}
    (v : VS w s L d bx Ce cs n us rs fl top T H vs kps hs i m cv Z s') (k : Kp [] s' s'') : VS w s L d bx Ce cs n us rs fl top T H vs kps hs i m cv Z s'' :=
  v.up (fz k (fun _ h => nomatch h) fun _ h => h) (v.y.keep0 k) rfl rfl rfl rfl
end Mine
end
section
open PySem PySem.W PySem.Calls PyProof.Rows
namespace Mine

set_option maxHeartbeats 4000000 in
theorem law_c {w : World} {A : Around} {s : Shared} {S : Addr} {ns : List Int} (G : Gr w s.heap) (hroom : A.depth + 5 < recursionLimit) (hh : A.handled = none) (hu : A.units + 200 < cLine) (hS : Ints s.heap S ns) (hsz : ns.length ≤ 1000) :
    wpAny (model PySem.Challenge.rw_nz0289_01.row.prog w) A (PySem.call (.ref 242) [.ref S]) (fun v s' => v = .bool true ∧ Kp [] s s') (fun _ _ => False) s := by
  refine enterC (binds := [(PySem.Str.ofString "script", .ref S)]) [] G G (by k_is) (by k_is) (dl hroom 0) (BindsTo.of_eq rfl) (kindsX (by rfl)) ?_ rfl rfl rfl
  intro L s1 c hc k1 hL
  have hfr : ∀ i : Nat, s.heap.get? (L + i) = none := fun i => hL _ (Nat.le_add_right L i)
  have hcell : ∀ i : Nat, 1 ≤ i → i ≤ 9 → s1.heap.IsCell (L + i) none := nine (hc (PySem.Str.ofString "box") _ rfl) (hc (PySem.Str.ofString "there") _ rfl) (hc (PySem.Str.ofString "floor") _ rfl) (hc (PySem.Str.ofString "cell") _ rfl) (hc (PySem.Str.ofString "some") _ rfl) (hc (PySem.Str.ofString "bound") _ rfl) (hc (PySem.Str.ofString "known") _ rfl) (hc (PySem.Str.ofString "before") _ rfl) (hc (PySem.Str.ofString "modseq") _ rfl)
  have x1 : LS w s L _ (fun _ => none) s1 := ⟨c, hcell⟩
  have lz : ∀ a : Addr, (∀ i : Nat, i ≤ 9 → ∃ o, s1.heap.get? (L + i) = some o) := fun _ i hi => x1.live i hi
  have hS1 : Ints s1.heap S ns := hS.up IntV.upp fun b o e => k1.keep _ _ e
  -- cells
  refine wpAny_execs_cons (wpAny_Assign_Name (Subscript_ (n_loc x1.c.F.ns (v := .ref S) rfl (wpAny_Slice (wpAny_evalPart_none (wpAny_evalPart_some (wpAny_Constant_int (wpAny_evalPart_none ?_))))))) rfl)
  refine c_slice_to (s := { s1 with toks := _ }) (k := 8) hS1 hsz fun Ce s2 hCe hCe2 k2 => ?_
  have k12 : Kp [] s1 s2 := Kp.tok.trans k2
  have x2 := x1.keep0 k12
  generalize hcs : ns.take 8 = cs at hCe2
  have hcz : cs.length ≤ 8 := by rw [← hcs, List.length_take]; exact Nat.min_le_left _ _
  refine s_loc x2.c fun s3 c3 k3 => ?_
  have x3 := x2.loc c3 k3
  have hCs : s.heap.get? Ce = none := fresh_back k1 (fun _ h => nomatch h) hCe
  have nCL : Ce ≠ L := fun e => by obtain ⟨o, e'⟩ := x1.live 0 (by decide); rw [e] at hCe; exact nomatch hCe.symm.trans e'
  have hC3 : Ints s3.heap Ce cs := by obtain ⟨vs, ⟨o, e, r⟩, q⟩ := hCe2; exact ⟨vs, ⟨o, k3.get e (nm1 nCL), r⟩, q⟩
  -- count
  refine wpAny_execs_cons (wpAny_Assign_Name (wpAny_BinOp (wpAny_Constant_int (wpAny_BinOp (wpAny_mono (Q := fun v s' => ∃ t, v = .int (cs.headD 6) t ∧ Kp [] s3 s') (E := fun _ _ => False) ?_ ?_ fun _ _ f => f.elim)))) rfl)
  · refine wpAny_IfExp (wpAny_isTrue_Compare1 (n_loc x3.c.tok.F.ns (v := .ref Ce) (by (repeat first | assumption | exact upd_self _ _ _ | exact cset_self _ _ _ | refine (upd_ne _ _ _ _ (by decide)).trans ?_ | refine (cset_ne _ _ _ _ (by decide)).trans ?_ | rfl)) (List_ (spliced_none (new_list (by decide) fun N s4 hN hN4 k4 => ?_)))))
    have k34 : Kp [] s3 s4 := Kp.tok.trans k4
    have x4 := x3.keep0 k34
    have hC4 := hC3.up IntV.upp fun b o e => k34.keep _ _ e
    refine c_ne (ns := cs) (ms := []) hC4 ⟨[], hN4, .nil⟩ (dl hu 67) (wpAny_truthy_bool ?_)
    cases hcs0 : cs with
    | nil =>
      refine if_f (show (!decide (([] : List Int) = [])) = false by rfl) ?_
      exact wpAny_Constant_int ⟨_, rfl, k34.trans Kp.tok⟩
    | cons a r =>
      refine if_t (show (!decide (a :: r = [])) = true by simp) ?_
      obtain ⟨vs, h1, h2⟩ := hC4
      rw [hcs0] at h2
      obtain ⟨v, vr, rfl⟩ : ∃ v vr, vs = v :: vr := by cases h2 with | cons _ _ => exact ⟨_, _, rfl⟩
      obtain ⟨a', ha', tv, rfl⟩ := Paired.get h2 0 v rfl
      simp at ha'; subst ha'
      exact Subscript_ (n_loc x4.c.F.ns (v := .ref Ce) (by (repeat first | assumption | exact upd_self _ _ _ | exact cset_self _ _ _ | refine (upd_ne _ _ _ _ (by decide)).trans ?_ | refine (cset_ne _ _ _ _ (by decide)).trans ?_ | rfl)) (wpAny_Constant_int (sub_list (s := { s4 with toks := _ }) h1 (by decide) (by decide) (x := .int a tv) (by rfl) ⟨_, rfl, k34.trans Kp.tok⟩)))
  rintro v s4 ⟨t4, rfl, k4⟩
  have x4 := x3.keep0 k4
  have hC4 := hC3.up IntV.upp fun b o e => k4.keep _ _ e
  refine wpAny_Constant_int (mod_int' (by decide) (add_int (s_loc x4.c.tok fun s5 c5 k5 => ?_)))
  obtain ⟨n, hn, hn1, hn9⟩ := count9 (cs.headD 6)
  rw [hn] at c5
  clear hn
  have hnK : n ≤ 1000 := Nat.le_trans hn9 (by decide)
  have x5 := x4.tok.loc c5 k5
  have hC5 : Ints s5.heap Ce cs := by obtain ⟨vs, ⟨o, e, r⟩, q⟩ := hC4; exact ⟨vs, ⟨o, k5.get e (nm1 nCL), r⟩, q⟩
  have k05 : Kp [L] s s5 := (((k1.of0.trans k12.of0).trans (k3.wid1 (.head _))).trans (k4.of0.trans Kp.tok)).trans (k5.wid1 (.head _))
  -- box
  refine wpAny_execs_cons (wpAny_Assign_Name (cfn x5.c.Gs (by k_is) (by k_is) (spliced_more (Calls.Constant_str (spliced_more (wpAny_Constant_int (spliced_none ⟨x5.c.Gs, ?_⟩)))))) rfl)
  refine wpAny_mono (box_c (s := { s5 with toks := _ }) x5.c.Gs (dl hroom 2)) (fun v6 s6 h6 => ?_) fun _ _ f => f.elim
  refine hideG fun GG hGG => ?_
  obtain ⟨bx, d, l, g, rfl, fb5, fd5, fl5, fg5, hlg, B6, pl6, pg6, k6⟩ := h6
  refine hGG ?_
  clear hGG
  have k56 : Kp [] s5 s6 := (Kp.tok.trans Kp.tok).trans k6
  have x6 := x5.keep0 k56
  have hC6 := hC5.up IntV.upp fun b o e => k56.keep _ _ e
  have fL : ∀ a ∈ [L], s.heap.get? a = none := mem1 (hfr 0)
  have back : ∀ a, s5.heap.get? a = none → s.heap.get? a = none := fun a h => fresh_back k05 fL h
  have alive5 : ∀ a, s5.heap.get? a = none → ∀ i : Nat, i ≤ 9 → L + i ≠ a := fun a h i hi e => by obtain ⟨o, e'⟩ := x5.live i hi; rw [e, h] at e'; cases e'
  have St : Stat s L d bx := ⟨hfr, back d fd5, alive5 d fd5, fun hm => by
    rcases List.mem_cons.mp hm with e | hm
    · exact B6.ne e
    · obtain ⟨i, hi, e⟩ := List.mem_map.mp hm
      exact alive5 bx fb5 i (Nat.le_of_lt_succ (List.mem_range.mp hi)) e, back bx fb5⟩
  refine s_cell x6.c (LS.bs (hfr 1)) (fun e => St.dn 0 (by decide) (absurd e (Nat.ne_of_lt (Nat.lt_succ_self L)))) (x6.cell 1 (by decide) (by decide)) fun s7 c7 h7 k7 => ?_
  have x7 := x6.setc (i := 1) c7 h7 k7
  have n1 : ∀ a, a ≠ L + 1 → a ∉ [L + 1] := fun a h => nm1 h
  have B7 := B6.kp k7 (n1 _ fun e => St.bn (by rw [e]; exact ZL_i 1 (by decide))) (n1 _ (St.dn 1 (by decide)).symm)
  have pl7 := pl6.at fun o e => k7.get e (n1 _ (alive5 l fl5 1 (by decide)).symm)
  have pg7 := pg6.at fun o e => k7.get e (n1 _ (alive5 g fg5 1 (by decide)).symm)
  have nC : ∀ i : Nat, i ≤ 9 → Ce ≠ L + i := fun i hi e => by obtain ⟨o, e'⟩ := x1.live i hi; rw [← e] at e'; exact nomatch hCe.symm.trans e'
  have hC7 : Ints s7.heap Ce cs := by obtain ⟨vs, ⟨o, e, r⟩, q⟩ := hC6; exact ⟨vs, ⟨o, k7.get e (n1 _ (nC 1 (by decide))), r⟩, q⟩
  have fl0 := back l fl5
  have hnl : Ce ≠ l := fun e => by
    have hl5 : s5.heap.get? l = none := fl5
    obtain ⟨vs5, ⟨o, e', _⟩, _⟩ := hC5
    rw [e] at e'
    exact nomatch hl5.symm.trans e'
  have nlL : ∀ i : Nat, i ≤ 9 → L + i ≠ l := alive5 l fl5
  have ndl : d ≠ l := fun e => by obtain ⟨m', D⟩ := B6.dat; exact D.ne_list pl6.isList e.symm
  have nbl : bx ≠ l := B6.bx_list pl6.isList
  -- the letters are added
  refine x_cut (fun s' => ∃ m' tc, ∃ vs : List Value, AS w s L bx d Ce cs n l g (ZL L d) n m' tc vs s') (fun RQ hRQ => ?_) ?_
  · refine for_range (a := 0) (b := (n : Int)) (n := n) (Y := l :: ZL L d) hh (rngN n hnK) (rszN n) (hideR fun RI hRI => ct1 x7.c.Gs (by k_is) rfl (n_loc x7.c.F.ns (v := .int (n : Int) _) (by (repeat first | assumption | exact upd_self _ _ _ | exact cset_self _ _ _ | refine (upd_ne _ _ _ _ (by decide)).trans ?_ | refine (cset_ne _ _ _ _ (by decide)).trans ?_ | rfl)) (mk_range1 fun r s8 t' u' v' hr0 hr k8 => ?_))) (fun _ => rfl)
    have x8 := x7.keep0 k8
    have B8 := B7.keep k8.keep
    have pl8 := pl7.at fun o e => k8.keep _ _ e
    have hC8 := hC7.up IntV.upp fun b o e => k8.keep _ _ e
    have hC8' : Ints (hideAll s8.heap (l :: ZL L d)) Ce cs := by
      obtain ⟨m', D⟩ := B8.dat
      obtain ⟨vs, h1, h2⟩ := hC8
      refine Ints.off (Z := l :: ZL L d) ⟨vs, h1, h2⟩ (fun hm => ?_)
      rcases List.mem_cons.mp hm with e | hm
      · exact hnl e
      · exact x8.list_not D h1 hm
    have live8 : ∀ y ∈ l :: ZL L d, ∃ o, s8.heap.get? y = some o := memc (pl_live pl8) (ZL_elim B8.live fun i hi => x8.live i hi)
    refine hRI _ _ ⟨r, t', u', v', rfl, hr, live8, fun Zz i s' => ∃ m' tc, ∃ vs : List Value, AS w s L bx d Ce cs n l g Zz i m' tc vs s', ?_, ?_, ?_, ?_⟩
    · rintro I i s9 s10 hI ⟨m', tc, vs, x⟩ k
      have nI : ∀ a, (∃ o, s8.heap.get? a = some o) → a ∉ [I] := fun a x => nm1 (ne_of_live hI x).symm
      have fI : s.heap.get? I = none := fresh_back (X := [L, L + 1]) (((k05.trans k56.of0).wid1 (.head _) : Kp [L, L + 1] s s6).trans ((k7.wid1 (.tail _ (.head _))).trans k8.of0)) (mem2 (hfr 0) (hfr 1)) hI
      have up := fz (Z := I :: l :: ZL L d) (Y := I :: l :: ZL L d) k (mem1 (.head _)) fun _ h => h
      exact ⟨m', tc, vs, x.x.move k (mem1 fI) (fun i hi => nI _ (x8.live i hi)), x.ec, x.en, x.B.kp k (nI _ ⟨_, B8.1⟩) (nI _ B8.live), x.pl.at fun o e => k.get e (nI l (live8 l (.head _))), x.q.mono fun v y h => LetV.upp _ _ _ _ h up, x.pg.at fun o e => k.get e (nI g (pl_live (pg7.at fun o e => k8.keep _ _ e))), x.cl.up IntV.upp up⟩
    · rintro I s9 hI lI k
      exact ⟨_, _, [], x8.keep0 k, by (repeat first | assumption | exact upd_self _ _ _ | exact cset_self _ _ _ | refine (upd_ne _ _ _ _ (by decide)).trans ?_ | refine (cset_ne _ _ _ _ (by decide)).trans ?_ | rfl), by (repeat first | assumption | exact upd_self _ _ _ | exact cset_self _ _ _ | refine (upd_ne _ _ _ _ (by decide)).trans ?_ | refine (cset_ne _ _ _ _ (by decide)).trans ?_ | rfl), (B8.keep k.keep), pl8.at fun o e => k.keep _ _ e, .nil, (pg7.at fun o e => k8.keep _ _ e).at fun o e => k.keep _ _ e, hC8'.up IntV.upp (hid_up (X := []) k (fun _ h => nomatch h) (memc (.inr hI) fun y hy => .inl hy))⟩
    · rintro I i ti s9 RQ hRQ hI hi lI ⟨m', tc, vs, x⟩
      have a1 := x.x
      have a2 := x.ec
      have a3 := x.en
      have a4 := x.B
      have a5 := x.pl
      have a6 := x.q
      refine wpAny_assign_Name (s_loc a1.c fun s10 c10 k10 => ?_)
      have x10 := a1.loc c10 k10
      refine wpAny_execs_cons (wpAny_Expr_any (cfn x10.c.Gs (by k_is) (by k_is) (spliced_more (n_cell (x10.get (i := 1) rfl) (spliced_more (Constant_bytes (spliced_more (List_ (spliced_none (new_list (by decide) fun F s11 hF hF11 k11 => ?_))))))))))
      have k1011 : Kp [] s10 s11 := Kp.tok.trans k11
      have x11 := x10.keep0 k1011
      have nL1 : ∀ a, a ≠ L → a ∉ [L] := fun a h => nm1 h
      have bL : bx ≠ L := fun e => St.bn (by rw [e]; exact ZL_L)
      have k911 : Kp [L] s9 s11 := k10.trans k1011.of0
      have B11 := a4.kp k911 (nL1 _ bL) (nL1 _ (St.dn 0 (by decide)).symm)
      have pl11 := a5.at fun o e => k911.get e (nL1 _ (nlL 0 (by decide)).symm)
      have up11 := fz (Z := I :: l :: ZL L d) (Y := I :: l :: ZL L d) k911 (mem1 (.tail _ (.tail _ ZL_L))) fun _ h => h
      have lI11 : ∃ o, s11.heap.get? I = some o := lI.imp fun o e => k911.get e (nL1 _ (ne_of_live hI (x8.live 0 (by decide))))
      have live11 : ∀ z ∈ I :: l :: ZL L d, ∃ o, s11.heap.get? z = some o := memc lI11 (memc (pl_live pl11) (ZL_elim B11.live fun i hi => x11.live i hi))
      have dlb : ∀ a ∈ [d, l], (hideAll s.heap []).get? a = none := mem2 (LS.bs St.fd) (LS.bs fl0)
      refine spliced_more (n_loc x11.c.F.ns (v := .int (0 + (i : Int)) ti) (by (repeat first | assumption | exact upd_self _ _ _ | exact cset_self _ _ _ | refine (upd_ne _ _ _ _ (by decide)).trans ?_ | refine (cset_ne _ _ _ _ (by decide)).trans ?_ | rfl)) (spliced_none ⟨x11.c.Gs, ?_⟩))
      have vz : vs.length = i := by rw [Paired.length a6, rangeI_length]
      refine wpAny_mono (add_letter_c (Z := I :: l :: ZL L d) (x11.c.gx dlb) (dl hroom 3) hh B11 pl11 (a6.mono fun v y h => LetV.upp _ _ _ _ h up11) (.tail _ (.tail _ ZL_d)) (.tail _ (.head _)) live11 (by rw [vz]; exact Nat.le_trans (Nat.le_of_lt hi) hnK) hF11) (fun v12 s12 h12 => ?_) fun _ _ f => f.elim
      obtain ⟨B12, pl12, q12, k12'⟩ := h12
      have dlz : ∀ a ∈ [d, l], a ∈ I :: l :: ZL L d := mem2 (.tail _ (.tail _ ZL_d)) (.tail _ (.head _))
      have x12 := x11.move k12' (mem2 (St.fd) (fl0)) fun j hj => nm2 (St.dn j hj) (nlL j hj)
      have up12 := fz (Z := I :: l :: ZL L d) (Y := I :: l :: ZL L d) k12' dlz fun _ h => h
      have gl : g ∉ [d, l] := nm2 (by obtain ⟨md, D⟩ := a4.dat; exact D.ne_list x.pg.isList) hlg.symm
      refine wpAny_execs_nil (hRQ _ _ ⟨⟨_, tc, vs ++ [v12], x12, by (repeat first | assumption | exact upd_self _ _ _ | exact cset_self _ _ _ | refine (upd_ne _ _ _ _ (by decide)).trans ?_ | refine (cset_ne _ _ _ _ (by decide)).trans ?_ | rfl), by (repeat first | assumption | exact upd_self _ _ _ | exact cset_self _ _ _ | refine (upd_ne _ _ _ _ (by decide)).trans ?_ | refine (cset_ne _ _ _ _ (by decide)).trans ?_ | rfl), ?_, pl12, ?_, (x.pg.at fun o e => k911.get e (nL1 _ (alive5 g fg5 0 (by decide)).symm)).at fun o e => k12'.get e gl, (x.cl.up IntV.upp up11).up IntV.upp up12⟩, (k911.wid1 (.tail _ ZL_L)).trans (k12'.mono (mem2 (.tail _ ZL_d) (.head _)))⟩)
      · rw [show (1 : Int) + ((i + 1 : Nat) : Int) = 1 + (i : Int) + 1 from (Int.add_assoc 1 (i : Int) 1).symm]; exact B12
      · rw [rangeI_succ]; exact q12
    · rintro I s9 hI ⟨m', tc, vs, x⟩
      have up := fz (Z := I :: l :: ZL L d) (Y := ZL L d) (s := s9) (X := []) Kp.refl (fun _ h => nomatch h) fun y hy => .tail _ (.tail _ hy)
      exact hRQ _ ⟨m', tc, vs, x.x, x.ec, x.en, x.B, x.pl, x.q.mono fun v y h => LetV.upp _ _ _ _ h up, x.pg, x.cl.up IntV.upp up⟩
  rintro s8 ⟨m8, tc, vs, q0⟩
  have x8 := q0.x
  have e8c := q0.ec
  have e8n := q0.en
  have B8 := q0.B
  have pl8 := q0.pl
  have q8 := q0.q
  have pg8 := q0.pg
  have hC8 := q0.cl
  have hl8 : LOf LetV (hideAll s8.heap (ZL L d)) l (rangeI 1 n) := by
    obtain ⟨md, D⟩ := B8.dat
    obtain ⟨kk, e⟩ := pl8
    exact ⟨vs, ⟨_, hideAll_get _ e (x8.list_not D (Heap.PlainList.isList ⟨kk, e⟩)), rfl, _, rfl⟩, q8⟩
  have hg8 : Pairs (hideAll s8.heap (ZL L d)) g [] := by
    obtain ⟨md, D⟩ := B8.dat
    obtain ⟨kk, e⟩ := pg8
    exact ⟨[], ⟨_, hideAll_get _ e (x8.list_not D (Heap.PlainList.isList ⟨kk, e⟩)), rfl, _, rfl⟩, .nil⟩
  -- there, rounds, floor
  refine wpAny_execs_cons (Assign_Tuple (Tuple_ (spliced_more (ct1 x8.c.Gs (by k_is) rfl (ct2 x8.c.Gs (by k_is) rfl (wpAny_Constant_int (wpAny_BinOp (n_loc x8.c.tok.F.ns e8n (wpAny_Constant_int (add_int (mk_range2 fun r s9 t' u' v' hr0 hr k9 => ?_)))))))))) (by rfl) (by rfl))
  have k89 : Kp [] s8 s9 := Kp.tok.trans k9
  refine c_listrange (n := n) hh hr (rng1N n hnK) (rsz1N n) hnK fun Th s10 hTh hTh10 k10 => ?_
  refine spliced_more (List_ (spliced_none (new_list (by decide) fun R s11 hR hR11 k11 => spliced_more (wpAny_Constant_int (spliced_none (new_tup (Nat.le_of_ble_eq_true rfl) fun T s12 hT hT12 k12 => ?_))))))
  refine asg_tup (items := [.ref Th, .ref R, .int 0 _]) hh hT12 rfl rfl fun s13 k13 => ?_
  have k1113 : Kp [] s11 s13 := Kp.tok.trans (k12.trans k13)
  have k813 : Kp [] s8 s13 := k89.trans (k10.trans (k11.trans k1113))
  have x13 := x8.keep0 k813
  have B13 := B8.keep k813.keep
  have up13 := fz (Z := ZL L d) (Y := ZL L d) k813 (fun _ h => nomatch h) fun _ h => h
  obtain ⟨md, D13⟩ := B13.dat
  have hTh13 : Ints (hideAll s13.heap (ZL L d)) Th (rangeI 1 n) := by
    have h1 := hTh10.up IntV.upp fun b o e => k1113.keep _ _ (k11.keep _ _ e)
    obtain ⟨vs', hv1, hv2⟩ := id h1
    exact Ints.off h1 (x13.list_not D13 hv1)
  have hR13 : Pairs (hideAll s13.heap (ZL L d)) R [] := by
    have hr1 := hR11.at fun o e => k1113.keep _ _ e
    obtain ⟨o, e, q⟩ := id hr1
    exact ⟨[], ⟨o, hideAll_get _ e (x13.list_not D13 hr1), q⟩, .nil⟩
  refine assignInOrder_cons (wpAny_assign_Name (s_cell x13.c (LS.bs (hfr 2)) (fun e => absurd e (Nat.ne_of_lt (Nat.lt_add_of_pos_right (by decide)))) (x13.cell 2 (by decide) (by decide)) fun s14 c14 h14 k14 => ?_))
  have x14 := x13.setc (i := 2) c14 h14 k14
  refine assignInOrder_cons (wpAny_assign_Name (s_loc x14.c fun s15 c15 k15 => ?_))
  have x15 := x14.loc c15 k15
  refine assignInOrder_cons (wpAny_assign_Name (s_cell x15.c (LS.bs (hfr 3)) (fun e => absurd e (Nat.ne_of_lt (Nat.lt_add_of_pos_right (by decide)))) (x15.cell 3 (by decide) (by decide)) fun s16 c16 h16 k16 => assignInOrder_nil ?_))
  have x16 := x15.setc (i := 3) c16 h16 k16
  have kZ : ∀ {i : Nat} {s' s'' : Shared}, i ≤ 9 → Kp [L + i] s' s'' → Kp (ZL L d) s' s'' := fun hi k => k.wid1 (ZL_i _ hi)
  have k1316 : Kp (ZL L d) s13 s16 := ((kZ (by decide) k14).trans (k15.wid1 ZL_L)).trans (kZ (by decide) k16)
  have up1316 := fz (Z := ZL L d) (Y := ZL L d) k1316 (fun _ h => h) fun _ h => h
  have k816 : Kp (ZL L d) s8 s16 := k813.of0.trans k1316
  have up816 := fz (Z := ZL L d) (Y := ZL L d) k816 (fun _ h => h) fun _ h => h
  have bx3 : ∀ i : Nat, i ≤ 9 → bx ∉ [L + i] := fun i hi => nm1 fun e => St.bn (by rw [e]; exact ZL_i i hi)
  have d3 : ∀ i : Nat, i ≤ 9 → d ∉ [L + i] := fun i hi => nm1 (St.dn i hi).symm
  have B16 := ((B13.kp k14 (bx3 2 (by decide)) (d3 2 (by decide))).kp k15 (bx3 0 (by decide)) (d3 0 (by decide))).kp k16 (bx3 3 (by decide)) (d3 3 (by decide))
  have M16 : MS w s L d bx Ce cs n _ _ (ZL L d) (rangeI 1 n) [] 0 (1 + n) s16 := ⟨x16, by (repeat first | assumption | exact upd_self _ _ _ | exact cset_self _ _ _ | refine (upd_ne _ _ _ _ (by decide)).trans ?_ | refine (cset_ne _ _ _ _ (by decide)).trans ?_ | rfl), hC8.up IntV.upp up816, ⟨R, by (repeat first | assumption | exact upd_self _ _ _ | exact cset_self _ _ _ | refine (upd_ne _ _ _ _ (by decide)).trans ?_ | refine (cset_ne _ _ _ _ (by decide)).trans ?_ | rfl), hR13.up PairV.upp up1316⟩, ⟨l, g, B16, hl8.up LetV.upp up816, hg8.up PairV.upp up816⟩, by (repeat first | assumption | exact upd_self _ _ _ | exact cset_self _ _ _ | refine (upd_ne _ _ _ _ (by decide)).trans ?_ | refine (cset_ne _ _ _ _ (by decide)).trans ?_ | rfl), ⟨Th, by (repeat first | assumption | exact upd_self _ _ _ | exact cset_self _ _ _ | refine (upd_ne _ _ _ _ (by decide)).trans ?_ | refine (cset_ne _ _ _ _ (by decide)).trans ?_ | rfl), hTh13.up IntV.upp up1316⟩, ⟨_, by (repeat first | assumption | exact upd_self _ _ _ | exact cset_self _ _ _ | refine (upd_ne _ _ _ _ (by decide)).trans ?_ | refine (cset_ne _ _ _ _ (by decide)).trans ?_ | rfl)⟩, Inv.start n⟩
  clear x16 B16 h16 c16 k16 c15 k15 x15 c14 h14 k14 x14 B13 D13 x13 hTh13 hR13 hTh10 hR11 hT12 B8 x8 c7 h7 k7 x7 B7 c5 k5 x5 c3 k3 x3 x4 x2 x6
  -- the rounds
  refine x_cut (fun s' => ∃ m' cv us rs fl top, MS w s L d bx Ce cs n m' cv (ZL L d) us rs fl top s' ∧ top ≤ 20) (fun RQ hRQ => ?_) ?_
  · refine for_list (V₀ := IntV) (xs := cs.drop 1) (Y := ZL L d) hh (hideR fun RI hRI => Subscript_ (n_loc M16.x.c.F.ns M16.ec (wpAny_Slice (wpAny_evalPart_some (wpAny_Constant_int (wpAny_evalPart_none (wpAny_evalPart_none ?_))))))) (fun _ => rfl)
    refine c_slice_from (s := { s16 with toks := _ }) (k := 1) (M16.cl.up IntV.upp fun b o e => of_hideAll _ e) (Nat.le_trans hcz (by decide)) fun Dc s17 hDc hDc17 k17 => ?_
    have k1617 : Kp [] s16 s17 := Kp.tok.trans k17
    have M17 := M16.keep0 k1617
    have hDc' : Ints (hideAll s17.heap (ZL L d)) Dc (cs.drop 1) := by
      obtain ⟨l', g', B', _⟩ := M17.b
      obtain ⟨md', D'⟩ := B'.dat
      obtain ⟨vs', hv1, hv2⟩ := id hDc17
      exact Ints.off hDc17 (M17.x.list_not D' hv1)
    refine hRI _ _ ⟨Dc, rfl, hDc', M17.liveZ, fun Zz i s' => ∃ m' cv us rs fl top, MS w s L d bx Ce cs n m' cv Zz us rs fl top s' ∧ top ≤ 1 + n + i, ?_, ?_, ?_, ?_⟩
    · rintro I i s18 s19 hI ⟨m', cv, us, rs, fl, top, y, ht⟩ k
      have nI : ∀ a, (∃ o, s17.heap.get? a = some o) → a ∉ [I] := fun a ⟨o, e⟩ => nm1 fun q => by rw [q, hI] at e; cases e
      have fI : s.heap.get? I = none := fresh_back M17.x.c.kp (fun _ h => nomatch h) hI
      obtain ⟨l', g', B', _⟩ := M17.b
      exact ⟨m', cv, us, rs, fl, top, y.move k (y.x.move k (mem1 (fI)) fun j hj => nI _ (M17.x.live j hj)) (mem1 (.head _)) (fun _ h => h) (nI _ ⟨_, B'.1⟩) (nI _ B'.live) rfl rfl rfl rfl rfl, ht⟩
    · rintro I s18 hI lI k
      have M18 := M17.keep0 k
      have up : ∀ b o, (hideAll s17.heap (ZL L d)).get? b = some o → (hideAll s18.heap (I :: ZL L d)).get? b = some o := hid_up (X := []) k (fun _ h => nomatch h) fun y hy => by
        rcases List.mem_cons.mp hy with e0 | hy
        · rw [e0]; exact .inr hI
        · exact .inl hy
      obtain ⟨l', g', B', h1, h2⟩ := M17.b
      obtain ⟨R', r1, r2⟩ := M17.er
      obtain ⟨T', t1, t2⟩ := M17.e2
      exact ⟨_, _, _, _, _, _, ⟨M18.x, M17.ec, M17.cl.up IntV.upp up, ⟨R', r1, r2.up PairV.upp up⟩, ⟨l', g', B'.keep k.keep, h1.up LetV.upp up, h2.up PairV.upp up⟩, M17.e1, ⟨T', t1, t2.up IntV.upp up⟩, M17.e3, M17.inv⟩, Int.le_of_eq (Int.add_zero _).symm⟩
    · rintro I i a v s18 RQ hRQ hI ha ⟨ta, rfl⟩ ⟨li, lk, hli⟩ ⟨m18, cv18, us, rs, fl, top, y, ht⟩
      have hi8 : i < 8 := by
        obtain ⟨h, _⟩ := List.getElem?_eq_some_iff.mp ha
        rw [List.length_drop] at h; exact Nat.lt_of_lt_of_le h (Nat.le_trans (Nat.sub_le _ _) hcz)
      have nIZ : I ∉ ZL L d := fun hm => by obtain ⟨o, e⟩ := M17.liveZ I hm; rw [hI] at e; cases e
      have lI : ∃ o, s18.heap.get? I = some o := by obtain ⟨o, e, _⟩ := hli; exact ⟨o, e⟩
      have dZ : ∀ x ∈ [d], x ∈ I :: ZL L d := mem1 (.tail _ ZL_d)
      have iZ : ∀ j : Nat, j ≤ 9 → L + j ∈ I :: ZL L d := fun j hj => .tail _ (ZL_i j hj)
      have zz : ∀ x ∈ ZL L d, x ∈ I :: ZL L d := fun _ h => .tail _ h
      have dn : ∀ x ∈ [d], (hideAll s.heap []).get? x = none := mem1 (LS.bs St.fd)
      have liveI : ∀ s' : Shared, Kp (ZL L d) s18 s' → (∀ z ∈ ZL L d, ∃ o, s'.heap.get? z = some o) → ∀ z ∈ I :: ZL L d, ∃ o, s'.heap.get? z = some o := fun s' k h z hz => by
        rcases List.mem_cons.mp hz with e0 | hz
        · rw [e0]; obtain ⟨o, e⟩ := lI; exact ⟨o, k.get e nIZ⟩
        · exact h z hz
      refine wpAny_of_eq (show letOwnedTupleGo _ _ _ = pure () by rfl) ?_
      refine wpAny_assign_Name (s_cell y.x.c (LS.bs (hfr 4)) (fun e => absurd e (Nat.ne_of_lt (Nat.lt_add_of_pos_right (by decide)))) (y.x.cell 4 (by decide) (by decide)) fun s19 c19 h19 k19 => ?_)
      have y19 := y.setc (i := 4) St (by decide) (by decide) (iZ 4 (by decide)) c19 h19 k19
      have K19 : Kp (ZL L d) s18 s19 := kZ (by decide) k19
      have I0 := y19.inv
      have hus : us.length ≤ 9 := I0.us9 hn9
      have hrs : rs.length ≤ 9 := I0.rs9 hn9
      have hhl : (heldL rs fl).length ≤ 9 := I0.held9 hn9 fl
      refine wpAny_execs_cons (wpAny_If (wpAny_isTrue_Compare1 (wpAny_BinOp (n_cell (y19.x.get (i := 4) (by (repeat first | assumption | exact upd_self _ _ _ | exact cset_self _ _ _ | refine (upd_ne _ _ _ _ (by decide)).trans ?_ | refine (cset_ne _ _ _ _ (by decide)).trans ?_ | rfl))) (wpAny_Constant_int (mod_int' (by decide) (wpAny_Constant_int (lt_int (wpAny_truthy_bool ?_)))))))))
      by_cases hr3 : a.fmod 5 < 3
      · refine if_t (decide_eq_true hr3) ?_
        refine abs_state (s₀ := s19) Kp.tok fun s20 k20 => ?_
        have y20 := y19.keep0 k20
        have K20 : Kp (ZL L d) s18 s20 := K19.trans k20.of0
        obtain ⟨T, e2, hT⟩ := y20.e2
        generalize hsel : (fun u : Int => ((a.fdiv 5).fdiv (2 ^ (u - 1).toNat)).fmod 2 == 1) = sel
        refine wpAny_execs_cons (wpAny_Assign_Name (comp_eval IntV.upp (Y := I :: ZL L d) (xs := us) (p := sel) (f := id) rfl (by decide) rfl (by decide) ?_ (fun _ => rfl)) rfl)
        refine n_cell (y20.x.get (i := 2) e2) (ready_int hh hT (szl hus) (liveI _ K20 y20.liveZ) rfl rfl ?_ ?_ ?_)
        · intro u tu C s21 m21 Z21 hu Tn hCZ hC hn21 hx
          obtain ⟨u1, u2⟩ := I0.ur u hu
          have hp1 : (0 : Int) < 2 ^ (u - 1).toNat := Int.pow_pos (by decide)
          have hp2 : ((2 : Int) ^ (u - 1).toNat).natAbs < 1073741824 := by
            have h1 : (u - 1).toNat ≤ 9 := toN9 u2 hn9
            have h2 : (2 : Nat) ^ (u - 1).toNat ≤ 2 ^ 9 := Nat.pow_le_pow_right (by decide) h1
            rw [Int.natAbs_pow]
            exact Nat.lt_of_le_of_lt h2 (by decide)
          have h4 := (y20.x.get (i := 4) (by (repeat first | assumption | exact upd_self _ _ _ | exact cset_self _ _ _ | refine (upd_ne _ _ _ _ (by decide)).trans ?_ | refine (cset_ne _ _ _ _ (by decide)).trans ?_ | rfl))).keeps Tn.old
          refine wpAny_tests_one (wpAny_isTrue_Compare1 (wpAny_BinOp (wpAny_BinOp (wpAny_BinOp (n_cell h4 (wpAny_Constant_int (floordiv_int (by decide) (wpAny_BinOp (wpAny_Constant_int (wpAny_BinOp (n_loc hn21 hx (wpAny_Constant_int (sub_int (pow_int_small (Int.sub_nonneg_of_le u1) (toI9 u2 hn9) (by decide) (floordiv_int (Int.ne_of_gt hp1) ?_ (.inl (PyProof.noPylong_small hp2)))))))))) (.inl (PyProof.noPylong_small (by decide))))))))))
          refine wpAny_Constant_int (mod_int' (by decide) (wpAny_Constant_int (eq_int (wpAny_truthy_bool ⟨by rw [← hsel], ?_⟩))))
          exact ⟨⟨_, _, rfl⟩, fun _ _ _ e => e⟩
        · intro u tu C s21 m21 Z21 hu Tn hCZ hC hn21 hx hp
          exact n_loc hn21 hx ⟨⟨_, rfl⟩, Kp.refl⟩
        intro Sm s21 hSm hSm21 k21
        rw [List.map_id] at hSm21
        have y21 := y20.keep0 k21
        have hsmz : (us.filter sel).length ≤ 9 := Nat.le_trans (List.length_filter_le _ _) hus
        refine s_cell y21.x.c (LS.bs (hfr 5)) (fun e => absurd e (Nat.ne_of_lt (Nat.lt_add_of_pos_right (by decide)))) (y21.x.cell 5 (by decide) (by decide)) fun s22 c22 h22 k22 => ?_
        have y22 := y21.setc (i := 5) St (by decide) (by decide) (iZ 5 (by decide)) c22 h22 k22
        have hSm22 : Ints (hideAll s22.heap (I :: ZL L d)) Sm (us.filter sel) := hSm21.up IntV.upp (fz k22 (mem1 (iZ 5 (by decide))) fun _ h => h)
        have K22 : Kp (ZL L d) s18 s22 := (K20.trans k21.of0).trans (kZ (by decide) k22)
        -- expunge(box, some)
        obtain ⟨l2, g2, B22, hl22, hg22⟩ := y22.b
        obtain ⟨T2, t21, hT22⟩ := y22.e2
        obtain ⟨R2, r21, hR22⟩ := y22.er
        refine wpAny_execs_cons (wpAny_Expr_any (cfn y22.x.c.Gs (by k_is) (by k_is) (spliced_more (n_cell (y22.x.get (i := 1) y22.e1) (spliced_more (n_cell (y22.x.get (i := 5) (by (repeat first | assumption | exact upd_self _ _ _ | exact cset_self _ _ _ | refine (upd_ne _ _ _ _ (by decide)).trans ?_ | refine (cset_ne _ _ _ _ (by decide)).trans ?_ | rfl))) (spliced_none ⟨y22.x.c.Gs, ?_⟩)))))))
        refine wpAny_mono (expunge_c (Z := I :: ZL L d) (y22.x.c.gx dn) (dl hroom 2) hh (dl hu 103) B22 (.tail _ ZL_d) (liveI _ K22 y22.liveZ) hl22 hg22 hSm22 (Nat.le_trans hus (by decide)) (Nat.le_trans hsmz (by decide)) (Nat.le_trans hhl (by decide))) (fun v23 s23 h23 => ?_) fun _ _ f => f.elim
        obtain ⟨l3, g3, B23, hl23, hg23, k23⟩ := h23
        rw [filter_mem_filter] at B23 hg23
        rw [filter_nmem_filter] at hl23
        have x23 := y22.x.move k23 (mem1 (St.fd)) fun j hj => nm1 (St.dn j hj)
        have up23 := fz k23 dZ fun _ h => h
        have hSm23 := hSm22.up IntV.upp up23
        have K23 : Kp (ZL L d) s18 s23 := K22.trans (k23.wid1 ZL_d)
        have lv : ∀ (s' : Shared) (m' : PySem.Str → Option Value) (cv' : Nat → Option Value), LS w s L m' cv' s' → (∃ o, s'.heap.get? d = some o) → Kp (ZL L d) s18 s' → ∀ z ∈ I :: ZL L d, ∃ o, s'.heap.get? z = some o := fun s' m' cv' x' hd k => liveI s' k (ZL_elim hd fun j hj => x'.live j hj)
        -- there
        refine wpAny_execs_cons (wpAny_Assign_Name (comp_eval IntV.upp (Y := I :: ZL L d) (xs := us) (p := fun u => !decide (u ∈ us.filter sel)) (f := id) rfl (by decide) rfl (by decide) ?_ (fun _ => rfl)) rfl)
        refine n_cell (x23.get (i := 2) t21) (ready_int hh (hT22.up IntV.upp up23) (szl hus) (lv _ _ _ x23 B23.live K23) rfl rfl ?_ ?_ ?_)
        · intro u tu C s24 m24 Z24 hu Tn hCZ hC hn24 hx
          have hSm24 : Ints s24.heap Sm (us.filter sel) := hSm23.up IntV.upp fun b o e => Tn.old _ _ (of_hideAll _ e)
          exact wpAny_tests_one (wpAny_isTrue_Compare1 (n_loc hn24 hx (n_cell ((x23.get (i := 5) (by (repeat first | assumption | exact upd_self _ _ _ | exact cset_self _ _ _ | refine (upd_ne _ _ _ _ (by decide)).trans ?_ | refine (cset_ne _ _ _ _ (by decide)).trans ?_ | rfl))).keeps Tn.old) (c_notin hSm24 (wpAny_truthy_bool ⟨rfl, Kp.refl⟩)))))
        · intro u tu C s24 m24 Z24 hu Tn hCZ hC hn24 hx hp
          exact n_loc hn24 hx ⟨⟨_, rfl⟩, Kp.refl⟩
        intro T4 s24 hT4 hT24 k24
        rw [List.map_id, filter_nmem_filter] at hT24
        have x24 := x23.keep0 k24
        refine s_cell x24.c (LS.bs (hfr 2)) (fun e => absurd e (Nat.ne_of_lt (Nat.lt_add_of_pos_right (by decide)))) (x24.cell 2 (by decide) (by decide)) fun s25 c25 h25 k25 => ?_
        have x25 := x24.setc (i := 2) c25 h25 k25
        have k2325 : Kp [L + 2] s23 s25 := k24.of0.trans k25
        have z2 : ∀ x ∈ [L + 2], x ∈ I :: ZL L d := mem1 (iZ 2 (by decide))
        have up2325 := fz k2325 z2 (Y := I :: ZL L d) fun _ h => h
        have B25 := B23.kp k2325 (bx3 2 (by decide)) (d3 2 (by decide))
        have hSm25 := hSm23.up IntV.upp up2325
        have K25 : Kp (ZL L d) s18 s25 := K23.trans (kZ (by decide) k2325)
        -- rounds
        refine wpAny_execs_cons (wpAny_Assign_Name (wpAny_BinOp (n_loc x25.c.F.ns r21 (comp_eval PairV.upp (Y := I :: ZL L d) (xs := us.filter sel) (p := fun _ => true) (f := fun u => (u, topN top (us.filter sel))) rfl (by decide) rfl (by decide) ?_ (fun _ => rfl)))) rfl)
        refine n_cell (x25.get (i := 5) (by (repeat first | assumption | exact upd_self _ _ _ | exact cset_self _ _ _ | refine (upd_ne _ _ _ _ (by decide)).trans ?_ | refine (cset_ne _ _ _ _ (by decide)).trans ?_ | rfl))) (ready_int hh hSm25 (szl hsmz) (lv _ _ _ x25 B25.live K25) rfl rfl ?_ ?_ ?_)
        · intro u tk C s26 m26 Z26 hu Tn hCZ hC hn26 hx
          exact wpAny_tests_nil ⟨rfl, Kp.refl⟩
        · intro u tu C s26 m26 Z26 hu Tn hCZ hC hn26 hx hp
          have B26 := B25.keep Tn.old
          refine Tuple_ (spliced_more (n_loc hn26 hx (spliced_more (Attribute_name (n_cell ((x25.get (i := 1) (by have := y22.e1; (repeat first | assumption | exact upd_self _ _ _ | exact cset_self _ _ _ | refine (upd_ne _ _ _ _ (by decide)).trans ?_ | refine (cset_ne _ _ _ _ (by decide)).trans ?_ | rfl))).keeps Tn.old) (B26.get_top (x25.c.Gs.keeps Tn.old) fun tt s27 k27 => spliced_none (new_tup (Nat.le_of_ble_eq_true rfl) fun T8 s28 hT8 hI8 k28 => ?_)))))))
          obtain ⟨o, e, r⟩ := hI8
          have hT26 : s26.heap.get? T8 = none := fresh_back k27 (fun _ h => nomatch h) hT8
          exact ⟨⟨T8, tu, tt, rfl, o, Tn.new hT26 e, r⟩, k27.trans k28⟩
        intro P s26 hP hP26 k26
        rw [List.filter_eq_self.mpr fun _ _ => rfl] at hP26
        have x26 := x25.keep0 k26
        have K26 := K25.trans k26.of0
        have up2526 := fz (Z := I :: ZL L d) (Y := I :: ZL L d) k26 (fun _ h => nomatch h) fun _ h => h
        refine c_add PairV.upp (lv _ _ _ x26 (B25.keep k26.keep).live K26) (((hR22.up PairV.upp up23).up PairV.upp up2325).up PairV.upp up2526) hP26 (by rw [List.length_map]; exact Nat.le_trans (Nat.add_le_add hrs hsmz) (by decide)) fun R5 s27 hR5 hR27 k27 => ?_
        have x27 := x26.keep0 k27
        refine s_loc x27.c fun s28 c28 k28 => ?_
        have x28 := x27.loc c28 k28
        have k2528 : Kp [L] s25 s28 := (k26.trans k27).of0.trans k28
        have k2728 : Kp [L] s27 s28 := k28
        have zL : ∀ x ∈ [L], x ∈ I :: ZL L d := mem1 (iZ 0 (by decide))
        have up2528 := fz (Z := I :: ZL L d) (Y := I :: ZL L d) k2528 zL fun _ h => h
        have k2428 : Kp [L, L + 2] s24 s28 := (k25.wid1 (.tail _ (.head _))).trans (k2528.wid1 (.head _))
        have up2328 : ∀ b o, (hideAll s23.heap (I :: ZL L d)).get? b = some o → (hideAll s28.heap (I :: ZL L d)).get? b = some o := fun b o e => up2528 b o (up2325 b o e)
        have up2428 := fz (Z := I :: ZL L d) (Y := I :: ZL L d) k2428 (mem2 (iZ 0 (by decide)) (iZ 2 (by decide))) fun _ h => h
        have B28 := B25.kp k2528 (bx3 0 (by decide)) (d3 0 (by decide))
        have hcl := (y22.cl.up IntV.upp up23).up IntV.upp up2328
        obtain ⟨tf, e3f⟩ := y22.e3
        refine wpAny_execs_cons (wpAny_Continue (hRQ _ _ ⟨⟨_, _, us.filter fun u => !sel u, rs ++ (us.filter sel).map fun u => (u, topN top (us.filter sel)), fl, topN top (us.filter sel), ⟨x28, ?_, hcl, ⟨R5, by (repeat first | assumption | exact upd_self _ _ _ | exact cset_self _ _ _ | refine (upd_ne _ _ _ _ (by decide)).trans ?_ | refine (cset_ne _ _ _ _ (by decide)).trans ?_ | rfl), hR27.up PairV.upp (fz k2728 zL fun _ h => h)⟩, ⟨l3, g3, B28, hl23.up LetV.upp up2328, ?_⟩, ?_, ⟨T4, by (repeat first | assumption | exact upd_self _ _ _ | exact cset_self _ _ _ | refine (upd_ne _ _ _ _ (by decide)).trans ?_ | refine (cset_ne _ _ _ _ (by decide)).trans ?_ | rfl), hT24.up IntV.upp up2428⟩, ⟨tf, ?_⟩, I0.round sel⟩, ?_⟩, K25.trans (k2528.wid1 ZL_L)⟩))
        · have := y22.ec; (repeat first | assumption | exact upd_self _ _ _ | exact cset_self _ _ _ | refine (upd_ne _ _ _ _ (by decide)).trans ?_ | refine (cset_ne _ _ _ _ (by decide)).trans ?_ | rfl)
        · rw [I0.held_round sel]; exact hg23.up PairV.upp up2328
        · have := y22.e1; (repeat first | assumption | exact upd_self _ _ _ | exact cset_self _ _ _ | refine (upd_ne _ _ _ _ (by decide)).trans ?_ | refine (cset_ne _ _ _ _ (by decide)).trans ?_ | rfl)
        · (repeat first | assumption | exact upd_self _ _ _ | exact cset_self _ _ _ | refine (upd_ne _ _ _ _ (by decide)).trans ?_ | refine (cset_ne _ _ _ _ (by decide)).trans ?_ | rfl)
        · exact topN_le ht
      · refine if_f (decide_eq_false hr3) ?_
        refine wpAny_execs_nil (abs_state (s₀ := s19) Kp.tok fun s20 k20 => ?_)
        have y20 := y19.keep0 k20
        have K20 : Kp (ZL L d) s18 s20 := K19.trans k20.of0
        obtain ⟨R, er, hR⟩ := y20.er
        obtain ⟨tf, e3⟩ := y20.e3
        -- held
        refine wpAny_execs_cons (comp_assign PairV.upp (Y := I :: ZL L d) (xs := rs) (p := fun p => decide (fl < p.2)) (f := id) rfl rfl (by decide) rfl (by decide) rfl rfl (.tail _ ZL_L) ?_ (fun _ => rfl))
        refine n_loc y20.x.c.F.ns er (ready_prs hh hR (szl hrs) (liveI _ K20 y20.liveZ) rfl rfl ?_ ?_ ?_)
        · intro p T ta' tb' C s21 m21 Z21 hp hT Tn hCZ hC hn21 hx
          have hT21 : s21.heap.IsTuple T #[.int p.1 ta', .int p.2 tb'] := hT.at fun o e => Tn.old _ _ (of_hideAll _ e)
          exact wpAny_tests_one (wpAny_isTrue_Compare1 (Subscript_ (n_loc hn21 hx (wpAny_Constant_int (sub_tup (s := { s21 with toks := _ }) hT21 (by decide) (by decide) (j := 1) rfl rfl (n_cell ((y20.x.get (i := 3) e3).keeps Tn.old) (gt_int (wpAny_truthy_bool ⟨rfl, Kp.tok⟩))))))))
        · rintro p v C s21 m21 Z21 hp hv Tn hCZ hC hn21 hx hpp
          exact n_loc hn21 hx ⟨PairV.upp _ _ _ _ hv (Tn.hid Kp.refl hC), Kp.refl⟩
        refine ⟨_, y20.x.c.F.ns, fun Hd s21 hHd hHd21 hn21 k21 => ?_⟩
        rw [List.map_id] at hHd21
        have hHd21' : Pairs (hideAll s21.heap (I :: ZL L d)) Hd (heldL rs fl) := hHd21
        have zL : ∀ x ∈ [L], x ∈ I :: ZL L d := mem1 (iZ 0 (by decide))
        have c21 : Cx w s (hideAll s.heap []) L (upd m18 (PySem.Str.ofString "held") (.ref Hd)) s21 := y20.x.c.stored (X := []) k21 (fun _ h => nomatch h) hn21
        have y21 := y20.loc St (iZ 0 (by decide)) c21 k21 (upd_ne _ _ _ _ (by decide)) (upd_ne _ _ _ _ (by decide))
        have K21 : Kp (ZL L d) s18 s21 := K20.trans (k21.wid1 ZL_L)
        -- most
        refine wpAny_execs_cons (wpAny_Assign_Name (wpAny_BinOp (wpAny_BinOp (n_cell (y21.x.get (i := 4) (by (repeat first | assumption | exact upd_self _ _ _ | exact cset_self _ _ _ | refine (upd_ne _ _ _ _ (by decide)).trans ?_ | refine (cset_ne _ _ _ _ (by decide)).trans ?_ | rfl))) (wpAny_Constant_int (floordiv_int (by decide) (wpAny_Constant_int (mod_int' (by decide) (s_loc (y21.x.c.keep0 Kp.tok) fun s22 c22 k22 => ?_))) (.inl (PyProof.noPylong_small (by decide)))))))) rfl)
        have k2122 : Kp [L] s21 s22 := (Kp.tok (X := [L])).trans k22
        have y22 := y21.loc St (iZ 0 (by decide)) c22 k2122 (upd_ne _ _ _ _ (by decide)) (upd_ne _ _ _ _ (by decide))
        have hHd22 := hHd21'.up PairV.upp (fz k2122 zL fun _ h => h)
        have K22 : Kp (ZL L d) s18 s22 := K21.trans (k2122.wid1 ZL_L)
        generalize hmo : (a.fdiv 5).fmod 4 = most at y22
        have hm0 : 0 ≤ most := hmo ▸ Int.fmod_nonneg_of_pos _ (by decide)
        have htop : 1 ≤ top + 3 := I0.top3
        refine x_cut (fun s' => ∃ m' cv' bnd, FS w s L d bx Ce cs n m' cv' (I :: ZL L d) us rs fl bnd top Hd s' ∧ bnd ≤ top ∧ Kp (ZL L d) s18 s') (fun RQ hRQ => ?_) ?_
        · refine wpAny_If (wpAny_isTrue_Compare1 (wpAny_BinOp (n_cell (y22.x.get (i := 4) (by (repeat first | assumption | exact upd_self _ _ _ | exact cset_self _ _ _ | refine (upd_ne _ _ _ _ (by decide)).trans ?_ | refine (cset_ne _ _ _ _ (by decide)).trans ?_ | rfl))) (wpAny_Constant_int (mod_int' (by decide) (wpAny_Constant_int (eq_int (wpAny_truthy_bool ?_))))))))
          by_cases hr : a.fmod 5 = 3
          · refine if_t (beq_iff_eq.mpr hr) ?_
            refine abs_state (s₀ := s22) Kp.tok fun s23 k23 => ?_
            have y23 := y22.keep0 k23
            have hHd23 := hHd22.up PairV.upp (fz (Z := I :: ZL L d) (Y := I :: ZL L d) k23 (fun _ h => nomatch h) fun _ h => h)
            have K23 := K22.trans k23.of0
            obtain ⟨l2, g2, B23, hl23, hg23⟩ := y23.b
            have hne : top + 3 ≠ 0 := Int.ne_of_gt (Int.lt_of_lt_of_le (b := 1) (by decide) htop)
            generalize hq : (a.fdiv 5).fmod (top + 3) = q
            -- bound
            refine wpAny_execs_cons (wpAny_Assign_Name (cb2 y23.x.c.Gs (by k_is) rfl (wpAny_BinOp (wpAny_BinOp (n_cell (y23.x.get (i := 4) (by (repeat first | assumption | exact upd_self _ _ _ | exact cset_self _ _ _ | refine (upd_ne _ _ _ _ (by decide)).trans ?_ | refine (cset_ne _ _ _ _ (by decide)).trans ?_ | rfl))) (wpAny_Constant_int (floordiv_int (by decide) (wpAny_BinOp (Attribute_name (n_cell (y23.x.get (i := 1) y23.e1) (BoxAt.get_top (s := { s23 with toks := _ }) B23 y23.x.c.Gs fun tt s24 k24 => wpAny_Constant_int (add_int (mod_int' hne ?_)))))) (.inl (PyProof.noPylong_small (by decide))))))))) rfl)
            rw [hq]
            have k2324 : Kp [] s23 s24 := Kp.tok.trans k24
            have y24 := y23.keep0 k2324
            have B24 := B23.keep k2324.keep
            refine Attribute_name (n_cell (y24.x.get (i := 1) y24.e1) (BoxAt.get_top (s := { s24 with toks := _ }) B24 y24.x.c.Gs fun tt2 s25 k25 => c_min hh fun t26 s26 k26 => ?_))
            have k2326 : Kp [] s23 s26 := k2324.trans ((Kp.tok.trans k25).trans k26)
            have y26 := y23.keep0 k2326
            refine s_cell y26.x.c (LS.bs (hfr 6)) (fun e => absurd e (Nat.ne_of_lt (Nat.lt_add_of_pos_right (by decide)))) (y26.x.cell 6 (by decide) (by decide)) fun s27 c27 h27 k27 => ?_
            have y27 := y26.setc (i := 6) St (by decide) (by decide) (iZ 6 (by decide)) c27 h27 k27
            have k2327 : Kp [L + 6] s23 s27 := k2326.of0.trans k27
            have z6 : ∀ x ∈ [L + 6], x ∈ I :: ZL L d := mem1 (iZ 6 (by decide))
            have K27 := K23.trans (kZ (by decide) k2327)
            have hHd27 := hHd23.up PairV.upp (fz k2327 z6 (Y := I :: ZL L d) fun _ h => h)
            obtain ⟨l3, g3, B27, hl27, hg27⟩ := y27.b
            obtain ⟨T3, t31, hT27⟩ := y27.e2
            obtain ⟨R3, r31, hR27⟩ := y27.er
            obtain ⟨tf3, t3f⟩ := y27.e3
            have e27c := y27.ec
            have e271 := y27.e1
            -- found
            refine wpAny_execs_cons (wpAny_Assign_Name (cfn y27.x.c.Gs (by k_is) (by k_is) (spliced_more (n_cell (y27.x.get (i := 1) y27.e1) (spliced_more (wpAny_BinOp (wpAny_BinOp (n_cell (y27.x.get (i := 4) (by (repeat first | assumption | exact upd_self _ _ _ | exact cset_self _ _ _ | refine (upd_ne _ _ _ _ (by decide)).trans ?_ | refine (cset_ne _ _ _ _ (by decide)).trans ?_ | rfl))) (wpAny_Constant_int (floordiv_int (by decide) (wpAny_BinOp (Attribute_name (n_cell (y27.x.get (i := 1) y27.e1) (BoxAt.get_top (s := { s27 with toks := _ }) B27 y27.x.c.Gs fun tt s28 k28 => wpAny_Constant_int (add_int (mod_int' hne (spliced_none ?_))))))) (.inl (PyProof.noPylong_small (by decide))))))))))))  rfl)
            rw [hq]
            have k2728 : Kp [] s27 s28 := Kp.tok.trans k28
            have up28 := fz (Z := I :: ZL L d) (Y := I :: ZL L d) k2728 (fun _ h => nomatch h) fun _ h => h
            have y28 := y27.keep0 k2728
            refine ⟨y28.x.c.Gs, ?_⟩
            refine wpAny_mono (forget_gone_c (s := { s28 with toks := _ }) (Z := I :: ZL L d) (y28.x.c.gx dn) (dl hroom 1) hh (B27.keep k2728.keep) (.tail _ ZL_d) (liveI _ (K27.trans (k2728.of0.trans Kp.tok)) y28.liveZ) (hg27.up PairV.upp up28) (Nat.lt_of_le_of_lt hhl (by decide))) (fun v29 s29 h29 => ?_) fun _ _ f => f.elim
            obtain ⟨t29, g29, rfl, B29, hg29, k29⟩ := h29
            obtain ⟨q1, q2, q3⟩ := forget3 I0 q
            rw [q1] at B29
            rw [q2] at hg29
            have k2729 : Kp [d] s27 s29 := (k2728.of0.trans Kp.tok).trans k29
            have x29 := y27.x.move k2729 (mem1 (St.fd)) fun j hj => nm1 (St.dn j hj)
            refine s_loc x29.c fun s30 c30 k30 => ?_
            have x30 := x29.loc c30 k30
            have k2730 : Kp [L, d] s27 s30 := (k2729.wid1 (by simp)).trans (k30.wid1 (.head _))
            have zLd : ∀ x ∈ [L, d], x ∈ I :: ZL L d := mem2 (iZ 0 (by decide)) (.tail _ ZL_d)
            have up := fz (Z := I :: ZL L d) (Y := I :: ZL L d) k2730 zLd fun _ h => h
            have upL := fz (Z := I :: ZL L d) (Y := I :: ZL L d) k30 zL fun _ h => h
            refine wpAny_execs_nil (hRQ _ ⟨_, _, min q top, ⟨x30, by (repeat first | assumption | exact upd_self _ _ _ | exact cset_self _ _ _ | refine (upd_ne _ _ _ _ (by decide)).trans ?_ | refine (cset_ne _ _ _ _ (by decide)).trans ?_ | rfl), y27.cl.up IntV.upp up, ⟨R3, by (repeat first | assumption | exact upd_self _ _ _ | exact cset_self _ _ _ | refine (upd_ne _ _ _ _ (by decide)).trans ?_ | refine (cset_ne _ _ _ _ (by decide)).trans ?_ | rfl), hR27.up PairV.upp up⟩, ⟨l3, g29, B29.kp k30 (bx3 0 (by decide)) (d3 0 (by decide)), hl27.up LetV.upp up, hg29.up PairV.upp upL⟩, e271, ⟨T3, t31, hT27.up IntV.upp up⟩, ⟨tf3, t3f⟩, ⟨_, by (repeat first | assumption | exact upd_self _ _ _ | exact cset_self _ _ _ | refine (upd_ne _ _ _ _ (by decide)).trans ?_ | refine (cset_ne _ _ _ _ (by decide)).trans ?_ | rfl)⟩, by (repeat first | assumption | exact upd_self _ _ _ | exact cset_self _ _ _ | refine (upd_ne _ _ _ _ (by decide)).trans ?_ | refine (cset_ne _ _ _ _ (by decide)).trans ?_ | rfl), hHd27.up PairV.upp up, ⟨t29, ?_⟩⟩, Int.min_le_right _ _, K27.trans (k2730.mono fun x h => ?_)⟩)
            · rw [← q3]; (repeat first | assumption | exact upd_self _ _ _ | exact cset_self _ _ _ | refine (upd_ne _ _ _ _ (by decide)).trans ?_ | refine (cset_ne _ _ _ _ (by decide)).trans ?_ | rfl)
            · rcases List.mem_cons.mp h with e0 | h
              · rw [e0]; exact ZL_L
              · rw [List.mem_singleton.mp h]; exact ZL_d
          · refine if_f (beq_eq_false_iff_ne.mpr hr) ?_
            refine abs_state (s₀ := s22) Kp.tok fun s23 k23 => ?_
            have y23 := y22.keep0 k23
            have hHd23 := hHd22.up PairV.upp (fz (Z := I :: ZL L d) (Y := I :: ZL L d) k23 (fun _ h => nomatch h) fun _ h => h)
            have K23 := K22.trans k23.of0
            have hHp : Pairs s23.heap Hd (heldL rs fl) := hHd23.up PairV.upp fun b o e => of_hideAll _ e
            -- bound
            refine wpAny_execs_cons (wpAny_Assign_Name (wpAny_mono (Q := fun v s' => ∃ t, v = .int (bndB most (heldL rs fl)) t ∧ Kp [] s23 s') (E := fun _ _ => False) ?_ ?_ fun _ _ f => f.elim) rfl)
            · refine wpAny_IfExp (wpAny_isTrue_Compare1 (cb1 y23.x.c.Gs (by k_is) rfl (n_loc y23.x.c.F.ns (v := .ref Hd) (by (repeat first | assumption | exact upd_self _ _ _ | exact cset_self _ _ _ | refine (upd_ne _ _ _ _ (by decide)).trans ?_ | refine (cset_ne _ _ _ _ (by decide)).trans ?_ | rfl)) (c_len hHp (Nat.le_trans hhl (by decide)) fun t24 s24 k24 => n_loc (y23.x.keep0 k24).c.F.ns (v := .int most _) (by (repeat first | assumption | exact upd_self _ _ _ | exact cset_self _ _ _ | refine (upd_ne _ _ _ _ (by decide)).trans ?_ | refine (cset_ne _ _ _ _ (by decide)).trans ?_ | rfl)) (gt_int (wpAny_truthy_bool ?_))))))
              have x24 := y23.x.keep0 k24
              have hHp24 := hHp.up PairV.upp fun b o e => k24.keep _ _ e
              by_cases hq : most < ((heldL rs fl).length : Int)
              · refine if_t (decide_eq_true hq) ?_
                refine Subscript_ (Subscript_ (n_loc x24.c.F.ns (v := .ref Hd) (by (repeat first | assumption | exact upd_self _ _ _ | exact cset_self _ _ _ | refine (upd_ne _ _ _ _ (by decide)).trans ?_ | refine (cset_ne _ _ _ _ (by decide)).trans ?_ | rfl)) (wpAny_BinOp (wpAny_BinOp (cb1 x24.c.Gs (by k_is) rfl (n_loc x24.c.F.ns (v := .ref Hd) (by (repeat first | assumption | exact upd_self _ _ _ | exact cset_self _ _ _ | refine (upd_ne _ _ _ _ (by decide)).trans ?_ | refine (cset_ne _ _ _ _ (by decide)).trans ?_ | rfl)) (c_len hHp24 (Nat.le_trans hhl (by decide)) fun t25 s25 k25 => n_loc (x24.keep0 k25).c.F.ns (v := .int most _) (by (repeat first | assumption | exact upd_self _ _ _ | exact cset_self _ _ _ | refine (upd_ne _ _ _ _ (by decide)).trans ?_ | refine (cset_ne _ _ _ _ (by decide)).trans ?_ | rfl)) (sub_int (wpAny_Constant_int (sub_int ?_))))))))))
                have hHp25 := hHp24.up PairV.upp fun b o e => k25.keep _ _ e
                obtain ⟨vs, hlv, hpp⟩ := hHp25
                have hk : ((heldL rs fl).length - most - 1).toNat < (heldL rs fl).length := at_lt hm0 hq
                obtain ⟨v, hv⟩ : ∃ v, vs[((heldL rs fl).length - most - 1).toNat]? = some v := ⟨_, List.getElem?_eq_getElem (by rw [Paired.length hpp]; exact hk)⟩
                obtain ⟨p, hp, T, tp, tq, rfl, hT⟩ := Paired.get hpp _ _ hv
                have hfq : bndB most (heldL rs fl) = p.2 := by unfold bndB fgbQ; rw [if_pos hq, List.getD_eq_getElem?_getD, hp]; rfl
                refine sub_list (s := { s25 with toks := _ }) hlv (at_0 hq) (at_63 hm0 hhl) (by simpa using hv) ?_
                exact wpAny_Constant_int (sub_tup hT (by decide) (by decide) (j := 1) rfl rfl ⟨tq, by rw [hfq], (k24.trans k25).trans Kp.tok⟩)
              · refine if_f (decide_eq_false hq) ?_
                exact wpAny_Constant_int ⟨_, by unfold bndB; rw [if_neg hq], k24.trans Kp.tok⟩
            rintro v s26 ⟨t26, rfl, k2326⟩
            have y26 := y23.keep0 k2326
            refine s_cell y26.x.c (LS.bs (hfr 6)) (fun e => absurd e (Nat.ne_of_lt (Nat.lt_add_of_pos_right (by decide)))) (y26.x.cell 6 (by decide) (by decide)) fun s27 c27 h27 k27 => ?_
            have y27 := y26.setc (i := 6) St (by decide) (by decide) (iZ 6 (by decide)) c27 h27 k27
            have k2327 : Kp [L + 6] s23 s27 := k2326.of0.trans k27
            have z6 : ∀ x ∈ [L + 6], x ∈ I :: ZL L d := mem1 (iZ 6 (by decide))
            have K27 := K23.trans (kZ (by decide) k2327)
            have hHd27 := hHd23.up PairV.upp (fz k2327 z6 (Y := I :: ZL L d) fun _ h => h)
            obtain ⟨l3, g3, B27, hl27, hg27⟩ := y27.b
            obtain ⟨T3, t31, hT27⟩ := y27.e2
            obtain ⟨R3, r31, hR27⟩ := y27.er
            obtain ⟨tf3, t3f⟩ := y27.e3
            have e27c := y27.ec
            have e271 := y27.e1
            -- found
            refine wpAny_execs_cons (wpAny_Assign_Name (cfn y27.x.c.Gs (by k_is) (by k_is) (spliced_more (n_cell (y27.x.get (i := 1) y27.e1) (spliced_more (n_loc y27.x.c.F.ns (v := .int most _) (by (repeat first | assumption | exact upd_self _ _ _ | exact cset_self _ _ _ | refine (upd_ne _ _ _ _ (by decide)).trans ?_ | refine (cset_ne _ _ _ _ (by decide)).trans ?_ | rfl)) (spliced_none ⟨y27.x.c.Gs, ?_⟩)))))) rfl)
            refine wpAny_mono (forget_beyond_c (Z := I :: ZL L d) (y27.x.c.gx dn) (dl hroom 2) hh B27 (.tail _ ZL_d) (liveI _ K27 y27.liveZ) hg27 (Nat.lt_of_le_of_lt hhl (by decide)) hm0) (fun v29 s29 h29 => ?_) fun _ _ f => f.elim
            obtain ⟨t29, g29, rfl, B29, hg29, k2729⟩ := h29
            obtain ⟨q1, q2, q3⟩ := forget4 I0 hm0
            have hbt := bndB_le I0 hm0
            rw [q1] at B29
            rw [q2] at hg29
            have x29 := y27.x.move k2729 (mem1 (St.fd)) fun j hj => nm1 (St.dn j hj)
            refine s_loc x29.c fun s30 c30 k30 => ?_
            have x30 := x29.loc c30 k30
            have k2730 : Kp [L, d] s27 s30 := (k2729.wid1 (by simp)).trans (k30.wid1 (.head _))
            have zLd : ∀ x ∈ [L, d], x ∈ I :: ZL L d := mem2 (iZ 0 (by decide)) (.tail _ ZL_d)
            have up := fz (Z := I :: ZL L d) (Y := I :: ZL L d) k2730 zLd fun _ h => h
            have upL := fz (Z := I :: ZL L d) (Y := I :: ZL L d) k30 zL fun _ h => h
            refine wpAny_execs_nil (hRQ _ ⟨_, _, bndB most (heldL rs fl), ⟨x30, by (repeat first | assumption | exact upd_self _ _ _ | exact cset_self _ _ _ | refine (upd_ne _ _ _ _ (by decide)).trans ?_ | refine (cset_ne _ _ _ _ (by decide)).trans ?_ | rfl), y27.cl.up IntV.upp up, ⟨R3, by (repeat first | assumption | exact upd_self _ _ _ | exact cset_self _ _ _ | refine (upd_ne _ _ _ _ (by decide)).trans ?_ | refine (cset_ne _ _ _ _ (by decide)).trans ?_ | rfl), hR27.up PairV.upp up⟩, ⟨l3, g29, B29.kp k30 (bx3 0 (by decide)) (d3 0 (by decide)), hl27.up LetV.upp up, hg29.up PairV.upp upL⟩, e271, ⟨T3, t31, hT27.up IntV.upp up⟩, ⟨tf3, t3f⟩, ⟨_, by (repeat first | assumption | exact upd_self _ _ _ | exact cset_self _ _ _ | refine (upd_ne _ _ _ _ (by decide)).trans ?_ | refine (cset_ne _ _ _ _ (by decide)).trans ?_ | rfl)⟩, by (repeat first | assumption | exact upd_self _ _ _ | exact cset_self _ _ _ | refine (upd_ne _ _ _ _ (by decide)).trans ?_ | refine (cset_ne _ _ _ _ (by decide)).trans ?_ | rfl), hHd27.up PairV.upp up, ⟨t29, ?_⟩⟩, hbt, K27.trans (k2730.mono fun x h => ?_)⟩)
            · rw [← q3]; (repeat first | assumption | exact upd_self _ _ _ | exact cset_self _ _ _ | refine (upd_ne _ _ _ _ (by decide)).trans ?_ | refine (cset_ne _ _ _ _ (by decide)).trans ?_ | rfl)
            · rcases List.mem_cons.mp h with e0 | h
              · rw [e0]; exact ZL_L
              · rw [List.mem_singleton.mp h]; exact ZL_d
        rintro s23 ⟨m23, cv23, bnd, F23, hbt, K23⟩
        have zL : ∀ x ∈ [L], x ∈ I :: ZL L d := mem1 (iZ 0 (by decide))
        have live23 : ∀ z ∈ ZL L d, ∃ o, s23.heap.get? z = some o := by
          obtain ⟨l', g', B', _⟩ := F23.b
          exact ZL_elim B'.live fun j hj => F23.x.live j hj
        obtain ⟨t3, e3⟩ := F23.e3
        obtain ⟨t6, e6⟩ := F23.e6
        -- left
        refine wpAny_execs_cons (comp_assign PairV.upp (Y := I :: ZL L d) (xs := heldL rs fl) (p := fun p => decide (max fl bnd < p.2)) (f := id) rfl rfl (by decide) rfl (by decide) rfl rfl (.tail _ ZL_L) ?_ (fun _ => rfl))
        refine n_loc F23.x.c.F.ns F23.eh (ready_prs hh F23.hd (szl hhl) (liveI _ K23 live23) rfl rfl ?_ ?_ ?_)
        · intro p T ta' tb' C s24 m24 Z24 hp hT Tn hCZ hC hn24 hx
          have hT24 : s24.heap.IsTuple T #[.int p.1 ta', .int p.2 tb'] := hT.at fun o e => Tn.old _ _ (of_hideAll _ e)
          have G24 : Gr w s24.heap := F23.x.c.Gs.keeps Tn.old
          exact wpAny_tests_one (wpAny_isTrue_Compare1 (Subscript_ (n_loc hn24 hx (wpAny_Constant_int (sub_tup (s := { s24 with toks := _ }) hT24 (by decide) (by decide) (j := 1) rfl rfl (cb2 G24 (by k_is) rfl (n_cell ((F23.x.get (i := 3) e3).keeps Tn.old) (n_cell ((F23.x.get (i := 6) e6).keeps Tn.old) (c_max hh fun t25 s25 k25 => gt_int (wpAny_truthy_bool ⟨rfl, Kp.tok.trans k25⟩))))))))))
        · rintro p v C s24 m24 Z24 hp hv Tn hCZ hC hn24 hx hpp
          exact n_loc hn24 hx ⟨PairV.upp _ _ _ _ hv (Tn.hid Kp.refl hC), Kp.refl⟩
        refine ⟨_, F23.x.c.F.ns, fun Lf s24 hLf hLf24 hn24 k24 => ?_⟩
        rw [List.map_id, held_max] at hLf24
        have c24 : Cx w s (hideAll s.heap []) L (upd m23 (PySem.Str.ofString "left") (.ref Lf)) s24 := F23.x.c.stored (X := []) k24 (fun _ h => nomatch h) hn24
        have x24 := F23.x.loc c24 k24
        -- floor
        refine wpAny_execs_cons (wpAny_Assign_Name (cb2 x24.c.Gs (by k_is) rfl (n_cell (x24.get (i := 3) e3) (n_cell (x24.get (i := 6) e6) (c_max hh fun t25 s25 k25 => ?_)))) rfl)
        have x25 := x24.keep0 k25
        refine s_cell x25.c (LS.bs (hfr 3)) (fun e => absurd e (Nat.ne_of_lt (Nat.lt_add_of_pos_right (by decide)))) (x25.cell 3 (by decide) (by decide)) fun s26 c26 h26 k26 => ?_
        have x26 := x25.setc (i := 3) c26 h26 k26
        have k2326 : Kp [L, L + 3] s23 s26 := ((k24.wid1 (.head _)).trans k25.of0).trans (k26.wid1 (.tail _ (.head _)))
        have z03 : ∀ x ∈ [L, L + 3], x ∈ I :: ZL L d := mem2 (iZ 0 (by decide)) (iZ 3 (by decide))
        have up := fz (Z := I :: ZL L d) (Y := I :: ZL L d) k2326 z03 fun _ h => h
        have k2426 : Kp [L + 3] s24 s26 := k25.of0.trans k26
        have hLf26 : Pairs (hideAll s26.heap (I :: ZL L d)) Lf (heldL rs (max fl bnd)) := hLf24.up PairV.upp (fz k2426 (mem1 (iZ 3 (by decide))) fun _ h => h)
        have K26 : Kp (ZL L d) s18 s26 := K23.trans (k2326.mono (mem2 ZL_L (ZL_i 3 (by decide))))
        obtain ⟨l5, g5, B23, hl23, hg23⟩ := F23.b
        obtain ⟨T5, t51, hT23⟩ := F23.e2
        obtain ⟨R5, r51, hR23⟩ := F23.er
        obtain ⟨t5f, e5f⟩ := F23.ef
        have e5c := F23.ec
        have e5h := F23.eh
        have e51 := F23.e1
        have B26 := B23.kp k2326 (nm2 (fun e => bx3 0 (by decide) (by rw [e]; exact .head _)) fun e => bx3 3 (by decide) (by rw [e]; exact .head _)) (nm2 (fun e => d3 0 (by decide) (by rw [e]; exact .head _)) fun e => d3 3 (by decide) (by rw [e]; exact .head _))
        have hHd26 : Pairs s26.heap Hd (heldL rs fl) := (F23.hd.up PairV.upp up).up PairV.upp fun b o e => of_hideAll _ e
        have hLf26' : Pairs s26.heap Lf (heldL rs (max fl bnd)) := hLf26.up PairV.upp fun b o e => of_hideAll _ e
        have hLfz : (heldL rs (max fl bnd)).length ≤ 9 := I0.held9 hn9 _
        -- the test
        refine wpAny_execs_cons (wpAny_If (isTrue_or (wpAny_isTrue_Compare1 (n_loc x26.c.F.ns (v := .int _ t5f) (by (repeat first | assumption | exact upd_self _ _ _ | exact cset_self _ _ _ | refine (upd_ne _ _ _ _ (by decide)).trans ?_ | refine (cset_ne _ _ _ _ (by decide)).trans ?_ | rfl)) (wpAny_BinOp (cb1 x26.c.Gs (by k_is) rfl (n_loc x26.c.F.ns (v := .ref Hd) (by (repeat first | assumption | exact upd_self _ _ _ | exact cset_self _ _ _ | refine (upd_ne _ _ _ _ (by decide)).trans ?_ | refine (cset_ne _ _ _ _ (by decide)).trans ?_ | rfl)) (c_len hHd26 (Nat.le_trans hhl (by decide)) fun t27 s27 k27 => cb1 (x26.keep0 k27).c.Gs (by k_is) rfl (n_loc (x26.keep0 k27).c.F.ns (v := .ref Lf) (by (repeat first | assumption | exact upd_self _ _ _ | exact cset_self _ _ _ | refine (upd_ne _ _ _ _ (by decide)).trans ?_ | refine (cset_ne _ _ _ _ (by decide)).trans ?_ | rfl)) (c_len (hLf26'.up PairV.upp fun b o e => k27.keep _ _ e) (Nat.le_trans hLfz (by decide)) fun t28 s28 k28 => sub_int (ne_int (wpAny_truthy_bool ?_))))))))))))
        refine if_f (show (((heldL rs fl).length : Int) - ((heldL rs (max fl bnd)).length : Int) != ((heldL rs fl).length : Int) - ((heldL rs (max fl bnd)).length : Int)) = false by simp) ?_
        refine abs_state (s₀ := s26) ((k27.trans k28).trans Kp.tok) fun s29 k29 => ?_
        have x29 := x26.keep0 k29
        have B29 := B26.keep k29.keep
        refine isTrue_or (wpAny_isTrue_Compare1 (Attribute_name (n_cell (x29.get (i := 1) (by (repeat first | assumption | exact upd_self _ _ _ | exact cset_self _ _ _ | refine (upd_ne _ _ _ _ (by decide)).trans ?_ | refine (cset_ne _ _ _ _ (by decide)).trans ?_ | rfl))) (B29.get_fl x29.c.Gs fun t30 s30 k30 => n_cell ((x29.get (i := 3) (by (repeat first | assumption | exact upd_self _ _ _ | exact cset_self _ _ _ | refine (upd_ne _ _ _ _ (by decide)).trans ?_ | refine (cset_ne _ _ _ _ (by decide)).trans ?_ | rfl))).keeps k30.keep) (ne_int (wpAny_truthy_bool ?_))))))
        refine if_f (show (max fl bnd != max fl bnd) = false by simp) ?_
        have x30 := x29.keep0 k30
        have B30 := B29.keep k30.keep
        refine isTrue_or (wpAny_isTrue_Compare1 (Attribute_name (n_cell (x30.get (i := 1) (by (repeat first | assumption | exact upd_self _ _ _ | exact cset_self _ _ _ | refine (upd_ne _ _ _ _ (by decide)).trans ?_ | refine (cset_ne _ _ _ _ (by decide)).trans ?_ | rfl))) (B30.get_g x30.c.Gs fun s31 k31 => n_loc (x30.keep0 k31).c.F.ns (v := .ref Lf) (by (repeat first | assumption | exact upd_self _ _ _ | exact cset_self _ _ _ | refine (upd_ne _ _ _ _ (by decide)).trans ?_ | refine (cset_ne _ _ _ _ (by decide)).trans ?_ | rfl)) ?_))))
        have k2631 : Kp [] s26 s31 := k29.trans (k30.trans k31)
        refine c_nep (ps := heldL rs (max fl bnd)) (qs := heldL rs (max fl bnd)) ((hg23.up PairV.upp up).up PairV.upp fun b o e => k2631.keep _ _ (of_hideAll _ e)) (hLf26'.up PairV.upp fun b o e => k2631.keep _ _ e) (dl hu 67) (wpAny_truthy_bool ?_)
        refine if_f (by rw [decide_eq_true rfl]; rfl) ?_
        refine isTrue_or_nil ?_
        refine if_f rfl ?_
        have x31 := x26.keep0 k2631
        have up31 : ∀ b o, (hideAll s23.heap (I :: ZL L d)).get? b = some o → (hideAll s31.heap (I :: ZL L d)).get? b = some o := fun b o e => fz (Z := I :: ZL L d) (Y := I :: ZL L d) k2631 (fun _ h => nomatch h) (fun _ h => h) b o (up b o e)
        refine wpAny_execs_nil (wpAny_execs_nil (hRQ _ _ ⟨⟨_, _, us, rs, max fl bnd, top, ⟨x31, by (repeat first | assumption | exact upd_self _ _ _ | exact cset_self _ _ _ | refine (upd_ne _ _ _ _ (by decide)).trans ?_ | refine (cset_ne _ _ _ _ (by decide)).trans ?_ | rfl), F23.cl.up IntV.upp up31, ⟨R5, by (repeat first | assumption | exact upd_self _ _ _ | exact cset_self _ _ _ | refine (upd_ne _ _ _ _ (by decide)).trans ?_ | refine (cset_ne _ _ _ _ (by decide)).trans ?_ | rfl), hR23.up PairV.upp up31⟩, ⟨l5, g5, B26.keep k2631.keep, hl23.up LetV.upp up31, hg23.up PairV.upp up31⟩, by (repeat first | assumption | exact upd_self _ _ _ | exact cset_self _ _ _ | refine (upd_ne _ _ _ _ (by decide)).trans ?_ | refine (cset_ne _ _ _ _ (by decide)).trans ?_ | rfl), ⟨T5, by (repeat first | assumption | exact upd_self _ _ _ | exact cset_self _ _ _ | refine (upd_ne _ _ _ _ (by decide)).trans ?_ | refine (cset_ne _ _ _ _ (by decide)).trans ?_ | rfl), hT23.up IntV.upp up31⟩, ⟨t25, by (repeat first | assumption | exact upd_self _ _ _ | exact cset_self _ _ _ | refine (upd_ne _ _ _ _ (by decide)).trans ?_ | refine (cset_ne _ _ _ _ (by decide)).trans ?_ | rfl)⟩, I0.forget hbt⟩, le_nx ht⟩, K26.trans k2631.of0⟩))
    · rintro I s18 hI ⟨m', cv, us, rs, fl, top, y, ht⟩
      refine hRQ _ ⟨m', cv, us, rs, fl, top, y.weak fun _ h => .tail _ h, ?_⟩
      rw [List.length_drop] at ht
      omega
  clear M16 up816 up1316 k816 k1316 k813 k1113 up13 k13 k12 k11 k10 k9 hl8 hg8 q8 pl8 pg8 hC8
  rintro s17 ⟨m17, cv17, us, rs, fl, top, y17, ht⟩
  obtain ⟨l17, g17, B17, hl17, hg17⟩ := y17.b
  have I0 := y17.inv
  have htop0 : 0 ≤ top := I0.top0
  have hus : us.length ≤ 9 := I0.us9 hn9
  have hrs : rs.length ≤ 9 := I0.rs9 hn9
  -- last
  refine wpAny_execs_cons (wpAny_Assign_Name (wpAny_BinOp (Attribute_name (n_cell (y17.x.get (i := 1) y17.e1) (B17.get_nu y17.x.c.Gs fun t18 s18 k18 => wpAny_Constant_int (sub_int (s_loc (y17.x.c.keep0 (k18.trans Kp.tok)) fun s19 c19 k19 => ?_)))))) rfl)
  rw [show (1 : Int) + (n : Int) - 1 = (n : Int) by rw [Int.add_comm, Int.add_sub_cancel]] at c19
  have k1719 : Kp [L] s17 s19 := (k18.of0.trans (Kp.tok (X := [L]))).trans k19
  have y19 := y17.loc St ZL_L c19 k1719 (upd_ne _ _ _ _ (by decide)) (upd_ne _ _ _ _ (by decide))
  -- some, known
  have hcl : Ints s19.heap Ce cs := y19.cl.up IntV.upp fun b o e => of_hideAll _ e
  refine wpAny_execs_cons (Assign_Tuple (cfn y19.x.c.Gs (by k_is) (by k_is) (spliced_more (wpAny_BinOp (cb1 y19.x.c.Gs (by k_is) rfl (n_loc y19.x.c.F.ns y19.ec (c_sum hh hcl fun t20 s20 k20 => wpAny_Constant_int (mod_int' (by decide) (spliced_more (n_loc (y19.x.keep0 (k20.trans Kp.tok)).c.F.ns (v := .int (n : Int) _) (by (repeat first | assumption | exact upd_self _ _ _ | exact cset_self _ _ _ | refine (upd_ne _ _ _ _ (by decide)).trans ?_ | refine (cset_ne _ _ _ _ (by decide)).trans ?_ | rfl)) (spliced_none ?_)))))))))) (by rfl) (by rfl))
  have y20 := y19.keep0 (k20.trans (Kp.tok (tk := s20.toks + 1 + 1)))
  refine ⟨y20.x.c.Gs, ?_⟩
  refine wpAny_mono (known_c (Z := ZL L d) (n := n) y20.x.c.Gs (dl hroom 1) hh y20.liveZ (Int.fmod_nonneg_of_pos _ (by decide)) rfl hn1 (Nat.le_trans hn9 (by decide))) (fun v21 s21 h21 => ?_) fun _ _ f => f.elim
  refine hideG fun GG hGG => ?_
  obtain ⟨Rt, T, H, vs, kps, hs, rfl, hRt, hT21, hp21, hH21, hk21, hhz, k21⟩ := h21
  refine hGG ?_
  clear hGG
  have y21 := y20.keep0 k21
  refine asg_tup (items := [.ref T, .ref H]) hh hRt rfl rfl fun s22 k22 => ?_
  have y22 := y21.keep0 k22
  refine assignInOrder_cons (wpAny_assign_Name (s_cell y22.x.c (LS.bs (hfr 5)) (fun e => absurd e (Nat.ne_of_lt (Nat.lt_add_of_pos_right (by decide)))) (y22.x.cell 5 (by decide) (by decide)) fun s23 c23 h23 k23 => ?_))
  have y23 := y22.setc (i := 5) St (by decide) (by decide) (ZL_i 5 (by decide)) c23 h23 k23
  refine assignInOrder_cons (wpAny_assign_Name (s_cell y23.x.c (LS.bs (hfr 7)) (fun e => absurd e (Nat.ne_of_lt (Nat.lt_add_of_pos_right (by decide)))) (y23.x.cell 7 (by decide) (by decide)) fun s24 c24 h24 k24 => assignInOrder_nil ?_))
  have y24 := y23.setc (i := 7) St (by decide) (by decide) (ZL_i 7 (by decide)) c24 h24 k24
  -- before
  refine wpAny_execs_cons (wpAny_Assign_Name (Constant_none (s_cell y24.x.c (LS.bs (hfr 8)) (fun e => absurd e (Nat.ne_of_lt (Nat.lt_add_of_pos_right (by decide)))) (y24.x.cell 8 (by decide) (by decide)) fun s25 c25 h25 k25 => ?_)) rfl)
  have y25 := y24.setc (i := 8) St (by decide) (by decide) (ZL_i 8 (by decide)) c25 h25 k25
  have k2125 : Kp (ZL L d) s21 s25 := ((k22.of0.trans (kZ (by decide) k23)).trans (kZ (by decide) k24)).trans (kZ (by decide) k25)
  have up25 := fz (Z := ZL L d) (Y := ZL L d) k2125 (fun _ h => h) fun _ h => h
  have V25 : VS w s L d bx Ce cs n us rs fl top T H vs kps hs 0 _ _ (ZL L d) s25 := ⟨y25, ⟨_, by (repeat first | assumption | exact upd_self _ _ _ | exact cset_self _ _ _ | refine (upd_ne _ _ _ _ (by decide)).trans ?_ | refine (cset_ne _ _ _ _ (by decide)).trans ?_ | rfl)⟩, by (repeat first | assumption | exact upd_self _ _ _ | exact cset_self _ _ _ | refine (upd_ne _ _ _ _ (by decide)).trans ?_ | refine (cset_ne _ _ _ _ (by decide)).trans ?_ | rfl), by (repeat first | assumption | exact upd_self _ _ _ | exact cset_self _ _ _ | refine (upd_ne _ _ _ _ (by decide)).trans ?_ | refine (cset_ne _ _ _ _ (by decide)).trans ?_ | rfl), hT21.at fun o e => up25 _ _ e, hp21.mono fun x z h => PairV.upp _ _ _ _ h up25, hH21.up IntV.upp up25, .inl ⟨rfl, by (repeat first | assumption | exact upd_self _ _ _ | exact cset_self _ _ _ | refine (upd_ne _ _ _ _ (by decide)).trans ?_ | refine (cset_ne _ _ _ _ (by decide)).trans ?_ | rfl)⟩⟩
  -- the modseqs
  obtain ⟨l25, g25, B25, hl25, hg25⟩ := y25.b
  have hle : us.length ≤ 1000 := Nat.le_trans hus (by decide)
  refine x_cut (fun s' => Kp [] s s') (fun RQ hRQ => ?_) ?_
  · refine for_range (a := 0) (b := top + 2) (n := (top + 2).toNat) (Y := ZL L d) hh (rngT htop0 ht) (rszT htop0) (hideR fun RI hRI => ct1 y25.x.c.Gs (by k_is) rfl (wpAny_BinOp (Attribute_name (n_cell (y25.x.get (i := 1) y25.e1) (B25.get_top y25.x.c.Gs fun t26 s26 k26 => wpAny_Constant_int (add_int (mk_range1 fun r s27 t' u' v' hr0 hr k27 => ?_))))))) (fun _ => rfl)
    have k2527 : Kp [] s25 s27 := (k26.trans Kp.tok).trans k27
    have V27 := V25.keep0 k2527
    obtain ⟨l27, g27, B27, _⟩ := V27.y.b
    refine hRI _ _ ⟨r, t', u', v', rfl, hr, V27.y.liveZ, fun Zz i s' => ∃ m' cv', VS w s L d bx Ce cs n us rs fl top T H vs kps hs i m' cv' Zz s', ?_, ?_, ?_, ?_⟩
    · rintro I i s28 s29 hI ⟨m', cv', V⟩ k
      have nI : ∀ a, (∃ o, s27.heap.get? a = some o) → a ∉ [I] := fun a ⟨o, e⟩ => nm1 fun q => by rw [q, hI] at e; cases e
      have fI : s.heap.get? I = none := fresh_back V27.y.x.c.kp (fun _ h => nomatch h) hI
      have zI : ∀ a ∈ [I], a ∈ I :: ZL L d := mem1 (.head _)
      exact ⟨m', cv', V.up (fz k zI fun _ h => h) (V.y.move k (V.y.x.move k (mem1 (fI)) fun j hj => nI _ (V27.y.x.live j hj)) zI (fun _ h => h) (nI _ ⟨_, B27.1⟩) (nI _ B27.live) rfl rfl rfl rfl rfl) rfl rfl rfl rfl⟩
    · rintro I s28 hI lI k
      have up : ∀ b o, (hideAll s27.heap (ZL L d)).get? b = some o → (hideAll s28.heap (I :: ZL L d)).get? b = some o := hid_up (X := []) k (fun _ h => nomatch h) fun y hy => by
        rcases List.mem_cons.mp hy with e0 | hy
        · rw [e0]; exact .inr hI
        · exact .inl hy
      obtain ⟨l', g', B', h1, h2⟩ := V27.y.b
      obtain ⟨R', r1, r2⟩ := V27.y.er
      obtain ⟨T', t1, t2⟩ := V27.y.e2
      exact ⟨_, _, V27.up up ⟨V27.y.x.keep0 k, V27.y.ec, V27.y.cl.up IntV.upp up, ⟨R', r1, r2.up PairV.upp up⟩, ⟨l', g', B'.keep k.keep, h1.up LetV.upp up, h2.up PairV.upp up⟩, V27.y.e1, ⟨T', t1, t2.up IntV.upp up⟩, V27.y.e3, V27.y.inv⟩ rfl rfl rfl rfl⟩
    · rintro I i ti s28 RQ hRQ hI hi lI ⟨m28, cv28, V⟩
      rw [Int.zero_add]
      have nIZ : I ∉ ZL L d := fun hm => by obtain ⟨o, e⟩ := V27.y.liveZ I hm; rw [hI] at e; cases e
      have iZ : ∀ j : Nat, j ≤ 9 → L + j ∈ I :: ZL L d := fun j hj => .tail _ (ZL_i j hj)
      have zL : ∀ x ∈ [L], x ∈ I :: ZL L d := mem1 (iZ 0 (by decide))
      have liveI : ∀ s' : Shared, Kp (ZL L d) s28 s' → (∀ z ∈ ZL L d, ∃ o, s'.heap.get? z = some o) → ∀ z ∈ I :: ZL L d, ∃ o, s'.heap.get? z = some o := fun s' k h z hz => by
        rcases List.mem_cons.mp hz with e0 | hz
        · rw [e0]; obtain ⟨o, e⟩ := lI; exact ⟨o, k.get e nIZ⟩
        · exact h z hz
      refine wpAny_assign_Name (s_cell V.y.x.c (LS.bs (hfr 9)) (fun e => absurd e (Nat.ne_of_lt (Nat.lt_add_of_pos_right (by decide)))) (V.y.x.cell 9 (by decide) (by decide)) fun s29 c29 h29 k29 => ?_)
      have y29 := V.y.setc (i := 9) St (by decide) (by decide) (iZ 9 (by decide)) c29 h29 k29
      have z9 : ∀ x ∈ [L + 9], x ∈ I :: ZL L d := mem1 (iZ 9 (by decide))
      have V29 := V.up (fz k29 z9 fun _ h => h) y29 rfl (cset_ne _ _ _ _ (by decide)) (cset_ne _ _ _ _ (by decide)) (cset_ne _ _ _ _ (by decide))
      have K29 : Kp (ZL L d) s28 s29 := kZ (by decide) k29
      obtain ⟨R, er, hR⟩ := y29.er
      -- due
      refine wpAny_execs_cons (wpAny_Assign_Name (cb1 y29.x.c.Gs (by k_is) rfl (comp_eval IntV.upp (Y := I :: ZL L d) (xs := rs) (p := fun p => decide ((i : Int) < p.2)) (f := (·.1)) rfl (by decide) rfl (by decide) ?_ (fun _ => rfl))) rfl)
      refine n_loc y29.x.c.F.ns er (ready_pair hh hR (szl hrs) (liveI _ K29 y29.liveZ) rfl rfl rfl (by decide) ?_ ?_ ?_)
      · intro p ta tb C s30 m30 Z30 hp Tn hCZ hC hn30 hx hx'
        exact wpAny_tests_one (wpAny_isTrue_Compare1 (n_loc hn30 hx' (n_cell ((y29.x.get (i := 9) (by (repeat first | assumption | exact upd_self _ _ _ | exact cset_self _ _ _ | refine (upd_ne _ _ _ _ (by decide)).trans ?_ | refine (cset_ne _ _ _ _ (by decide)).trans ?_ | rfl))).keeps Tn.old) (gt_int (wpAny_truthy_bool ⟨rfl, Kp.refl⟩)))))
      · intro p ta tb C s30 m30 Z30 hp Tn hCZ hC hn30 hx hx' hpp
        exact n_loc hn30 hx ⟨⟨_, rfl⟩, Kp.refl⟩
      intro D0 s30 hD0 hD30 k30
      have y30 := y29.keep0 k30
      have hz30 : ((rs.filter fun p => decide ((i : Int) < p.2)).map (·.1)).length < 64 := by
        rw [List.length_map]; exact Nat.lt_of_le_of_lt (List.length_filter_le _ _) (Nat.lt_of_le_of_lt hrs (by decide))
      refine c_sorted (hD30.up IntV.upp fun b o e => of_hideAll _ e) hz30 fun D1 s31 hD1 hD31 k31 => ?_
      have K30 : Kp (ZL L d) s28 s30 := K29.trans k30.of0
      have hD31' : Ints (hideAll s31.heap (I :: ZL L d)) D1 (sortI ((rs.filter fun p => decide ((i : Int) < p.2)).map (·.1))) := Ints.fresh (fun v y q => IntV.any q) (liveI _ K30 y30.liveZ) hD1 hD31
      have V31 := (V29.keep0 k30).keep0 k31
      refine s_loc V31.y.x.c fun s32 c32 k32 => ?_
      have y32 := V31.y.loc St (iZ 0 (by decide)) c32 k32 (upd_ne _ _ _ _ (by decide)) (upd_ne _ _ _ _ (by decide))
      have V32 := V31.up (fz k32 zL fun _ h => h) y32 (upd_ne _ _ _ _ (by decide)) rfl rfl rfl
      have hD32 := hD31'.up IntV.upp (fz (Z := I :: ZL L d) (Y := I :: ZL L d) k32 zL fun _ h => h)
      have K32 : Kp (ZL L d) s28 s32 := (K30.trans k31.of0).trans (k32.wid1 ZL_L)
      obtain ⟨tf, e3⟩ := y32.e3
      obtain ⟨tl, el⟩ := V32.el
      refine x_cut (fun s' => ∃ m' cv' D, VS w s L d bx Ce cs n us rs fl top T H vs kps hs i m' cv' (I :: ZL L d) s' ∧ m' (PySem.Str.ofString "due") = some (.ref D) ∧ (∃ t9, cv' 9 = some (.int (i : Int) t9)) ∧ Ints (hideAll s'.heap (I :: ZL L d)) D (dueL n us rs fl i) ∧ Kp (ZL L d) s28 s') (fun RQ hRQ => ?_) ?_
      · refine wpAny_If (wpAny_isTrue_Compare1 (n_cell (y32.x.get (i := 9) (v := .int (i : Int) ti) (by (repeat first | assumption | exact upd_self _ _ _ | exact cset_self _ _ _ | refine (upd_ne _ _ _ _ (by decide)).trans ?_ | refine (cset_ne _ _ _ _ (by decide)).trans ?_ | rfl))) (n_cell (y32.x.get (i := 3) e3) (lt_int (wpAny_truthy_bool ?_)))))
        by_cases hq : (i : Int) < fl
        · refine if_t (decide_eq_true hq) ?_
          obtain ⟨T5, t51, hT5⟩ := y32.e2
          refine wpAny_execs_cons (comp_assign IntV.upp (Y := I :: ZL L d) (xs := rangeI 1 n) (p := fun u => !decide (u ∈ us)) (f := id) rfl rfl (by decide) rfl (by decide) rfl rfl (.tail _ ZL_L) ?_ (fun _ => rfl))
          refine ct2 y32.x.c.Gs (by k_is) rfl (wpAny_Constant_int (wpAny_BinOp (n_loc y32.x.c.tok.F.ns el (wpAny_Constant_int (add_int (mk_range2 fun r5 s33 t5 u5 v5 hr50 hr5 k33 => ?_))))))
          have k3233 : Kp [] s32 s33 := Kp.tok.trans k33
          have V33 := V32.keep0 k3233
          refine ready_range hh hr5 (rng1N n hnK) (rsz1N n) (szl hn9) (liveI _ (K32.trans k3233.of0) V33.y.liveZ) rfl rfl ?_ ?_ ?_
          · intro u tu C s34 m34 Z34 hu Tn hCZ hC hn34 hx
            have hT34 : Ints s34.heap T5 us := hT5.up IntV.upp fun b o e => Tn.old _ _ (k3233.keep _ _ (of_hideAll _ e))
            exact wpAny_tests_one (wpAny_isTrue_Compare1 (n_loc hn34 hx (n_cell ((V33.y.x.get (i := 2) t51).keeps Tn.old) (c_notin hT34 (wpAny_truthy_bool ⟨rfl, Kp.refl⟩)))))
          · intro u tu C s34 m34 Z34 hu Tn hCZ hC hn34 hx hpp
            exact n_loc hn34 hx ⟨⟨_, rfl⟩, Kp.refl⟩
          refine ⟨_, V33.y.x.c.F.ns, fun D5 s34 hD5 hD34 hn34 k34 => ?_⟩
          rw [List.map_id] at hD34
          have c34 : Cx w s (hideAll s.heap []) L (upd (upd m28 (PySem.Str.ofString "due") (.ref D1)) (PySem.Str.ofString "due") (.ref D5)) s34 := V33.y.x.c.stored (X := []) k34 (fun _ h => nomatch h) hn34
          have y34 := V33.y.loc St (iZ 0 (by decide)) c34 k34 (upd_ne _ _ _ _ (by decide)) (upd_ne _ _ _ _ (by decide))
          have V34 := V33.up (fz k34 zL fun _ h => h) y34 (upd_ne _ _ _ _ (by decide)) rfl rfl rfl
          exact wpAny_execs_nil (hRQ _ ⟨_, _, D5, V34, by (repeat first | assumption | exact upd_self _ _ _ | exact cset_self _ _ _ | refine (upd_ne _ _ _ _ (by decide)).trans ?_ | refine (cset_ne _ _ _ _ (by decide)).trans ?_ | rfl), ⟨ti, by (repeat first | assumption | exact upd_self _ _ _ | exact cset_self _ _ _ | refine (upd_ne _ _ _ _ (by decide)).trans ?_ | refine (cset_ne _ _ _ _ (by decide)).trans ?_ | rfl)⟩, by unfold dueL; rw [if_pos hq]; exact hD34, (K32.trans k3233.of0).trans (k34.wid1 ZL_L)⟩)
        · refine if_f (decide_eq_false hq) ?_
          exact wpAny_execs_nil (hRQ _ ⟨_, _, D1, V32, by (repeat first | assumption | exact upd_self _ _ _ | exact cset_self _ _ _ | refine (upd_ne _ _ _ _ (by decide)).trans ?_ | refine (cset_ne _ _ _ _ (by decide)).trans ?_ | rfl), ⟨ti, by (repeat first | assumption | exact upd_self _ _ _ | exact cset_self _ _ _ | refine (upd_ne _ _ _ _ (by decide)).trans ?_ | refine (cset_ne _ _ _ _ (by decide)).trans ?_ | rfl)⟩, by unfold dueL; rw [if_neg hq]; exact hD32, K32⟩)
      rintro s33 ⟨m33, cv33, D, V33, ed, ⟨t9, e9⟩, hD33, K33⟩
      have hnI : (n : Int) = n := rfl
      obtain ⟨l33, g33, B33, hl33, hg33⟩ := V33.y.b
      have hl33' := hl33.up LetV.upp fun b o e => of_hideAll (I :: ZL L d) e
      have hg33' := hg33.up PairV.upp fun b o e => of_hideAll (I :: ZL L d) e
      have hD33' : Ints s33.heap D (dueL n us rs fl i) := hD33.up IntV.upp fun b o e => of_hideAll _ e
      have hgz : (heldL rs fl).length < 64 := Nat.lt_of_le_of_lt (I0.held9 hn9 fl) (by decide)
      have hdl : (dueL n us rs fl i).length ≤ 9 := Nat.le_trans (due_len I0 i) hn9
      have huc : (A.units + 3) + 64 < cLine := dl hu 67
      -- the vanished uids
      refine wpAny_execs_cons (wpAny_If (isTrue_or (wpAny_isTrue_Compare1 (cfn V33.y.x.c.Gs (by k_is) (by k_is) (spliced_more (n_cell (V33.y.x.get (i := 1) V33.y.e1) (spliced_more (n_cell (V33.y.x.get (i := 9) e9) (spliced_none ⟨V33.y.x.c.Gs, ?_⟩)))))))))
      refine wpAny_mono (vanished_c (us := us) (n := n) (ps := heldL rs fl) (kf := fun _ => true) V33.y.x.c.Gs (dl hroom 3) hh B33 hg33' hgz rfl hn1 hnK hl33' hle I0.so (.inl ⟨rfl, rfl⟩)) (fun v s34 h34 => ?_) fun _ _ f => f.elim
      obtain ⟨D2, rfl, hD2, hD234, k34⟩ := h34
      rw [List.filter_eq_self.mpr fun _ _ => rfl, found_due] at hD234
      have V34 := V33.keep0 k34
      have hD34 := hD33'.up IntV.upp fun b o e => k34.keep _ _ e
      refine n_loc V34.y.x.c.F.ns ed (c_ne hD234 hD34 huc (wpAny_truthy_bool ?_))
      refine if_f (by rw [decide_eq_true rfl]; rfl) ?_
      -- of a set
      refine isTrue_or (wpAny_isTrue_Compare1 (cfn V34.y.x.c.Gs (by k_is) (by k_is) (spliced_more (n_cell (V34.y.x.get (i := 1) V34.y.e1) (spliced_more (n_cell (V34.y.x.get (i := 9) e9) (spliced_more (n_cell (V34.y.x.get (i := 5) V34.e5) (spliced_none ⟨V34.y.x.c.Gs, ?_⟩)))))))))
      have hT34 : s34.heap.IsTuple T vs.toArray := V34.hT.at fun o e => of_hideAll _ e
      have hp34 : Paired (PairV s34.heap) vs kps := V34.hp.mono fun x z h => PairV.upp _ _ _ _ h fun b o e => of_hideAll _ e
      refine wpAny_mono (vanished_c (us := us) (n := n) (ps := heldL rs fl) (kf := fun u => kps.any (inR (n : Int) u)) V34.y.x.c.Gs (dl hroom 3) hh (B33.keep k34.keep) (hg33'.up PairV.upp fun b o e => k34.keep _ _ e) hgz rfl hn1 hnK (hl33'.up LetV.upp fun b o e => k34.keep _ _ e) hle I0.so (.inr ⟨T, vs, kps, rfl, hT34, hp34, rfl⟩)) (fun v s35 h35 => ?_) fun _ _ f => f.elim
      obtain ⟨D3, rfl, hD3, hD335, k35⟩ := h35
      rw [found_due, due_known I0 (i : Int) hk21] at hD335
      have V35 := V34.keep0 k35
      have k3335 := k34.trans k35
      have K35 : Kp (ZL L d) s28 s35 := K33.trans k3335.of0
      have hD35 : Ints (hideAll s35.heap (I :: ZL L d)) D (dueL n us rs fl i) := hD33.up IntV.upp (fz k3335 (fun _ h => nomatch h) fun _ h => h)
      refine comp_eval IntV.upp (Y := I :: ZL L d) (xs := dueL n us rs fl i) (p := fun u => decide (u ∈ hs)) (f := id) rfl (by decide) rfl (by decide) ?_ (fun _ => rfl)
      refine n_loc V35.y.x.c.F.ns ed (ready_int hh hD35 (szl hdl) (liveI _ K35 V35.y.liveZ) rfl rfl ?_ ?_ ?_)
      · intro u tu C s36 m36 Z36 hu Tn hCZ hC hn36 hx
        have hH36 : Ints s36.heap H hs := V35.hH.up IntV.upp fun b o e => Tn.old _ _ (of_hideAll _ e)
        exact wpAny_tests_one (wpAny_isTrue_Compare1 (n_loc hn36 hx (n_cell ((V35.y.x.get (i := 7) V35.e7).keeps Tn.old) (c_in hH36 (wpAny_truthy_bool ⟨rfl, Kp.refl⟩)))))
      · intro u tu C s36 m36 Z36 hu Tn hCZ hC hn36 hx hpp
        exact n_loc hn36 hx ⟨⟨_, rfl⟩, Kp.refl⟩
      intro D4 s36 hD4 hD436 k36
      rw [List.map_id] at hD436
      refine c_ne (hD335.up IntV.upp fun b o e => k36.keep _ _ e) (hD436.up IntV.upp fun b o e => of_hideAll _ e) huc (wpAny_truthy_bool ?_)
      refine if_f (by rw [decide_eq_true rfl]; rfl) ?_
      refine isTrue_or_nil ?_
      refine if_f rfl ?_
      refine wpAny_execs_nil ?_
      have V36 := V35.keep0 k36
      have k3336 := k3335.trans k36
      have K36 : Kp (ZL L d) s28 s36 := K33.trans k3336.of0
      have hD36 : Ints (hideAll s36.heap (I :: ZL L d)) D (dueL n us rs fl i) := hD33.up IntV.upp (fz k3336 (fun _ h => nomatch h) fun _ h => h)
      -- never fewer at a lower modseq
      refine x_cut (fun s' => Kp [] s36 s') (fun RQ hRQ => ?_) ?_
      · rcases V36.e8 with ⟨_, e8⟩ | ⟨q, Dq, hiq, e8, hDq⟩
        · refine wpAny_If (isTrue_and (wpAny_isTrue_Compare1 (n_cell (V36.y.x.get (i := 8) e8) (Constant_none (isnot_none_gen (wpAny_truthy_bool ?_))))))
          refine if_f (show (!(Value.none == Value.none)) = false by rfl) ?_
          exact wpAny_execs_nil (hRQ _ Kp.refl)
        · refine wpAny_If (isTrue_and (wpAny_isTrue_Compare1 (n_cell (V36.y.x.get (i := 8) e8) (Constant_none (isnot_ref_none (wpAny_truthy_bool ?_))))))
          refine if_t rfl ?_
          refine isTrue_and (wpAny_isTrue_Compare1 (comp_eval IntV.upp (Y := I :: ZL L d) (xs := dueL n us rs fl i) (p := fun u => !decide (u ∈ dueL n us rs fl q)) (f := id) rfl (by decide) rfl (by decide) ?_ (fun _ => rfl)))
          refine n_loc V36.y.x.c.F.ns ed (ready_int hh hD36 (szl hdl) (liveI _ K36 V36.y.liveZ) rfl rfl ?_ ?_ ?_)
          · intro u tu C s37 m37 Z37 hu Tn hCZ hC hn37 hx
            have hq37 : Ints s37.heap Dq (dueL n us rs fl q) := hDq.up IntV.upp fun b o e => Tn.old _ _ (of_hideAll _ e)
            exact wpAny_tests_one (wpAny_isTrue_Compare1 (n_loc hn37 hx (n_cell ((V36.y.x.get (i := 8) e8).keeps Tn.old) (c_notin hq37 (wpAny_truthy_bool ⟨rfl, Kp.refl⟩)))))
          · intro u tu C s37 m37 Z37 hu Tn hCZ hC hn37 hx hpp
            exact n_loc hn37 hx ⟨⟨_, rfl⟩, Kp.refl⟩
          intro D7 s37 hD7 hD737 k37
          rw [List.map_id] at hD737
          refine List_ (spliced_none (new_list (by decide) fun N s38 hN hN38 k38 => ?_))
          have hmono : (dueL n us rs fl (i : Int)).filter (fun u => !decide (u ∈ dueL n us rs fl (q : Int))) = [] := by
            have := due_mono I0 (q : Int)
            rw [show ((i : Nat) : Int) = (q : Int) + 1 from congrArg (Nat.cast (R := Int)) hiq]; exact this
          rw [hmono] at hD737
          refine c_ne (ms := []) (hD737.up IntV.upp fun b o e => k38.keep _ _ (of_hideAll _ e)) ⟨[], hN38, .nil⟩ huc (wpAny_truthy_bool ?_)
          refine if_f (by rw [decide_eq_true rfl]; rfl) ?_
          exact wpAny_execs_nil (hRQ _ (k37.trans k38))
      intro s37 k37
      have V37 := V36.keep0 k37
      -- before = due
      refine wpAny_execs_cons (wpAny_Assign_Name (n_loc V37.y.x.c.F.ns ed (s_cell V37.y.x.c (LS.bs (hfr 8)) (fun e => absurd e (Nat.ne_of_lt (Nat.lt_add_of_pos_right (by decide)))) (V37.y.x.cell 8 (by decide) (by decide)) fun s38 c38 h38 k38 => ?_)) rfl)
      have y38 := V37.y.setc (i := 8) St (by decide) (by decide) (iZ 8 (by decide)) c38 h38 k38
      have z8 : ∀ x ∈ [L + 8], x ∈ I :: ZL L d := mem1 (iZ 8 (by decide))
      have up38 := fz (Z := I :: ZL L d) (Y := I :: ZL L d) k38 z8 fun _ h => h
      have up37 := fz (Z := I :: ZL L d) (Y := I :: ZL L d) k37 (fun _ h => nomatch h) fun _ h => h
      exact wpAny_execs_nil (hRQ _ _ ⟨⟨_, _, y38, V37.el, (cset_ne _ _ _ _ (by decide)).trans V37.e5, (cset_ne _ _ _ _ (by decide)).trans V37.e7, V37.hT.at fun o e => up38 _ _ e, V37.hp.mono fun x z h => PairV.upp _ _ _ _ h up38, V37.hH.up IntV.upp up38, .inr ⟨i, D, rfl, cset_self _ _ _, (hD36.up IntV.upp up37).up IntV.upp up38⟩⟩, (K36.trans k37.of0).trans (kZ (by decide) k38)⟩)
    · rintro I s28 hI ⟨m', cv', V⟩
      exact hRQ _ V.y.x.c.kp
  intro s26 k26
  exact wpAny_execs_cons (wpAny_Return_some (wpAny_Constant_bool ⟨rfl, k26⟩))
end Mine
end
namespace Mine
theorem law_addr {P : Params} : nsIn (Mine.hd.heap_39 P) mainGlobals (PySem.Str.ofString "law") = some (some (.ref 242)) := by k_is
end Mine
set_option maxHeartbeats 8000000 in
theorem PySem.Challenge.cw_nz0289_01_holds : PySem.Challenge.rw_nz0289_01.Holds := by
  refine Mine.hd ?_
  intro w s₀ s₁ mg mb G Y fa o pm cd doc dV kV ho hd hcd hD hmg hg args vals as hpre hlay hrd hwl hlo
  have KX := kIn_of Y
  refine Ground.open G ?_
  intro T B D TE TW
  have hfa : fa = 242 := by
    have h1 := mg_of KX T.g Mine.law_addr
    have h2 : mg (PySem.Str.ofString "law") = some (.ref fa) := hmg
    rw [h1] at h2
    cases h2; rfl
  subst hfa
  wrow_args hpre hlay hrd hwl hlo
  refine wpAny_mono (Mine.law_c (A := callerA) ⟨KX, s₀, mg, mb, T⟩ (by decide) rfl (by decide) (Mine.Ints.of (by assumption) (by assumption)) (by omega)) (fun v s' h => ?_) fun _ _ f => f.elim
  obtain ⟨rfl, k⟩ := h
  refine GoodW.toG ⟨.inl ⟨_, .bool true, [], rfl, raisesW_false (by wrow_none_raised), .bool true, (by wrow_post), fun _ => ⟨List.nodup_nil, fun _ h => nomatch h⟩⟩, k.keep, k.os, k.gens.trans hg⟩
