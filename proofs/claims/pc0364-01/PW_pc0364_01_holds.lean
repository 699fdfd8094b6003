import PyProof.Rows.All
import Wide.All
import OpenK.AllK
import KE.KDictSum
import KE.KWords
import KE.KLcTest
import Wide.FinOn
import Lean
import PySem.Challenge.RW_pc0364_01
set_option Elab.async false
set_option maxRecDepth 100000
set_option compiler.extract_closed false

section
open PySem PySem.W PyProof.Rows
set_option maxHeartbeats 8000000
namespace Mine
def keepL : List Bool → List Stmt → List Stmt
  | true :: l, s :: r => s :: keepL l r
  | false :: l, _ :: r => keepL l r
  | _, _ => []
def view : Program := { (PySem.Challenge.rw_pc0364_01.row.toRowW.prog) with main := { (PySem.Challenge.rw_pc0364_01.row.toRowW.prog).main with body := keepL ([true, true, true, false, true, true, false] ++ List.replicate 13 true ++ [false] ++ List.replicate 13 true) (PySem.Challenge.rw_pc0364_01.row.toRowW.prog).main.body } }
local macro_rules | `(tactic| o_head $H) => `(tactic| (refine holds_open (q := Mine.view) (loose := [Str.ofString "SettingError"]) (Xt := fun s => xlAt Mine.view [] s && recOk (RowW.records (OpenRow.toRowW (OpenLaw.row PySem.Challenge.rw_pc0364_01))) s) (XP := XL Mine.view []) (Yf := Hook.obs $H) (Ya := Hook.val $H) (YP := Hook.says $H) (N := 3270) ?hl (Hook.of $H) (Hook.keeps $H) (fun s e => xl_of s (Bool.and_eq_true_iff.mp e).1) XL.keeps (by rfl) (by rfl) (by rfl) (fun s e => recFacts_of (Bool.and_eq_true_iff.mp e).2) (by rfl) (by first | assumption | decide +kernel) (by decide +kernel) ⟨rfl, rfl, rfl, rfl, rfl, by decide +kernel⟩ ?hw ?hc; (case hl => intro w; kernel_rfl)))
local macro_rules | `(tactic| o_law) => `(tactic| refine holds_law (by decide +kernel) fun said => ?_)
open_top hd for PySem.Challenge.rw_pc0364_01
end Mine
end

namespace Mine
theorem fillAll : hd.heap_1 = hd.heap_1 ∧ PySem.Challenge.rw_pc0364_01 = PySem.Challenge.rw_pc0364_01 := by
  k_fill
  exact ⟨rfl, rfl⟩
end Mine

section
open PySem PySem.W PySem.Calls PyProof.Rows
namespace Mine

/-- what stands at every heap of the call: the written part, the top's facts -/
structure Gr (w : World) (mean : ExcName → Option Value) (mg mb : Str → Option Value) (h : Heap) : Prop where
  K : (hd.heap_1 w.params).In h
  T : Top view (looseW view [Str.ofString "SettingError"]) mean mg mb h

def Ext (h h' : Heap) : Prop := ∀ b o, h.get? b = some o → h'.get? b = some o
theorem Ext.refl (h : Heap) : Ext h h := fun _ _ e => e
theorem Ext.trans {h h' h'' : Heap} (x : Ext h h') (y : Ext h' h'') : Ext h h'' := fun b o e => y b o (x b o e)

section
variable {w : World} {mean : ExcName → Option Value} {mg mb : Str → Option Value} {h h' : Heap}
theorem Gr.keeps (G : Gr w mean mg mb h) (k : Ext h h') : Gr w mean mg mb h' := ⟨G.K.keeps k, G.T.keeps k⟩
end

section
variable {prog : Program} {w : World} {A : Around} {s : Shared} {K : Frag} {Q E : Value → Shared → Prop}
theorem enter {name qual : Str} {params : Arguments} {body : List Stmt} {scope : Scope} {dV kV doc pm cdv ct oc : Value} {an od : Option Addr} {osl : Array (Option Value)} {f : Addr} {pos : List Value} {kw : List (Str × Value)} {binds : List (Str × Value)}
    (X : K.In s.heap) (hlim : s.heap.NoLimit)
    (ho : K.lookup f = some ⟨oc, od, .func (fnOf name qual params body scope dV kV doc pm an cdv ct), osl⟩) (hcd : codeIn K cdv qual = true) (hroom : A.depth < recursionLimit)
    (hbind : BindsTo s (fnOf name qual params body scope dV kV doc pm an cdv ct) ⟨pos, kw⟩ binds) (hloc : ∀ y ∈ binds, scope.names.lookup y.1 = some .local)
    (hcell : ∀ x ∈ scope.names, x.2 ≠ .cell)
    (hco : scope.isCoroutine = false) (hgen : scope.isGenerator = false) (hk : scope.kind = .function)
    (h : ∀ L h₁, Fr s.heap L h₁ (fun y => binds.reverse.lookup y) → News s.heap L h₁ [] →
      wpAny (model prog w) (A.deeper (envOf qual scope L f cdv)) (execs body (envOf qual scope L f cdv))
        (fun fl s' => Q (match fl with | .ret v => v | _ => .none) s')
        (fun e s' => wpAny (model prog w) (A.deeper (envOf qual scope L f cdv)) (leaving (envOf qual scope L f cdv) e) (fun _ s'' => E e s'') (fun e' s'' => E e' s'') s')
        { s with heap := h₁, toks := s.toks + binds.length }) :
    wpAny (model prog w) A (call (.ref f) pos kw) Q E s := by
  refine wpAny_call ?_
  refine codeAny_call_def (fd := fnOf name qual params body scope dV kV doc pm an cdv ct) (body := body) (binds := binds) hroom (X _ _ ho) rfl hlim (codeRec_of X hcd) rfl hbind hcell hloc (fun h₁ hns hk₁ => ?_) hco hgen hk
  exact h s.heap.objs.size h₁ ⟨hns, fun b o e => hk₁ b o e, Nat.le_refl _⟩ News.nil
end
end Mine
namespace Mine
abbrev PR : Program := PySem.Challenge.rw_pc0364_01.row.prog

/-- room for n calls one within the other -/
structure Rm (n dp un : Nat) : Prop where
  depth : dp + n < recursionLimit
  units : un + 8 * n + 100 < cLine
theorem Rm.sub {n k dp un : Nat} (h : Rm n dp un) (hk : k + 1 ≤ n) : Rm k (dp + 1) (un + 3) := ⟨by have := h.depth; omega, by have := h.units; omega⟩
theorem Rm.room {n dp un : Nat} (h : Rm n dp un) : dp < recursionLimit := by have := h.depth; omega
theorem Rm.u65 {n dp un : Nat} (h : Rm n dp un) : un + 3 + 65 < cLine := by have := h.units; omega
theorem Rm.le {n k dp un : Nat} (h : Rm n dp un) (hk : k ≤ n) : Rm k dp un := ⟨by have := h.depth; omega, by have := h.units; omega⟩

/-- what stands around a call: nothing is handled -/
abbrev Ar (dp : Nat) (fr : Option (List Env)) (gd : Option (List Code)) (un : Nat) : Around := { handled := none, depth := dp, frames := fr, guards := gd, units := un }

@[irreducible] def Stop (P : Prop) : Prop := P
theorem Stop.out {P : Prop} (h : Stop P) : P := by unfold Stop at h; exact h
theorem Stop.go {P : Prop} (h : P) : Stop P := by unfold Stop; exact h

theorem Fr.ext {h₀ h h' : Heap} {L : Addr} {m : Str → Option Value} (F : Fr h₀ L h m) (k : Ext h h') : Fr h₀ L h' m :=
  ⟨F.ns.keeps k, fun b o e => k b o (F.keep b o e), F.above⟩
theorem News.ext {h₀ h h' : Heap} {L : Addr} {news : List (Addr × Obj)} (N : News h₀ L h news) (k : Ext h h') : News h₀ L h' news :=
  fun p hp => ⟨k _ _ (N p hp).1, (N p hp).2⟩

@[irreducible] def Br (b : Bool) (T F : Prop) : Prop := if b = true then T else F
theorem Br.split {b : Bool} {T F : Prop} (h1 : b = true → T) (h2 : b = false → F) : Br b T F := by
  unfold Br
  cases b with
  | true => exact h1 rfl
  | false => exact h2 rfl
theorem Br.yes {T F : Prop} (h : Br true T F) : T := by unfold Br at h; exact h
theorem Br.no {T F : Prop} (h : Br false T F) : F := by unfold Br at h; exact h

/-! continuations by name: what a continuation must bear is said once, and the walk goes on with a name -/
section
variable {M : Model} {A : Around} {env : Env} {rest : List Stmt} {E E' : Value → Shared → Prop} {Q Q' : Flow → Shared → Prop} {R : Value → Shared → Prop} {N : Shared → Prop} {s : Shared}
/-- behind a statement -/
structure Nx (M : Model) (A : Around) (env : Env) (rest : List Stmt) (E : Value → Shared → Prop) (Q Q' : Flow → Shared → Prop) : Prop where
  next : ∀ s, wpAny M A (execs rest env) Q E s → Q' .next s
  cont : ∀ s, Q .cont s → Q' .cont s
  brk : ∀ s, Q .brk s → Q' .brk s
  ret : ∀ v s, Q (.ret v) s → Q' (.ret v) s
theorem execsF {st : Stmt} (h : ∀ Q', Nx M A env rest E Q Q' → wpAny M A (exec st env) Q' E s) : wpAny M A (execs (st :: rest) env) Q E s :=
  wpAny_execs_cons (h _ ⟨fun _ x => x, fun _ x => x, fun _ x => x, fun _ _ x => x⟩)
theorem execsT {st : Stmt} {hp : Heap} {gs : _} {dr : _} {tk : Nat} {os : _} (h : ∀ tk Q', Nx M A env rest E Q Q' → wpAny M A (exec st env) Q' E ⟨hp, gs, dr, tk, os⟩) : wpAny M A (execs (st :: rest) env) Q E ⟨hp, gs, dr, tk, os⟩ :=
  execsF (h tk)
theorem execsO {st : Stmt} (h : wpAny M A (exec st env) Q E s) : wpAny M A (execs [st] env) Q E s :=
  wpAny_execs_cons (wpAny_mono h (fun f s' x => by
    cases f with
    | next => exact wpAny_execs_nil x
    | cont => exact x
    | brk => exact x
    | ret v => exact x) fun _ _ x => x)
/-- behind a loop's body -/
structure Bd (N : Shared → Prop) (Q Q' : Flow → Shared → Prop) : Prop where
  next : ∀ s, Stop (N s) → Q' .next s
  cont : ∀ s, Stop (N s) → Q' .cont s
  brk : ∀ s, Q .next s → Q' .brk s
  ret : ∀ v s, Q (.ret v) s → Q' (.ret v) s
@[irreducible] def BodyAt (M : Model) (A : Around) (env : Env) (body : List Stmt) (N : Shared → Prop) (Q : Flow → Shared → Prop) (E : Value → Shared → Prop) (s : Shared) : Prop :=
  ∀ Q', Bd N Q Q' → wpAny M A (execs body env) Q' E s
theorem BodyAt.out {body : List Stmt} (h : BodyAt M A env body N Q E s) : wpAny M A (execs body env) (fun f s₃ => match f with
        | .next => Stop (N s₃)
        | .cont => Stop (N s₃)
        | .brk => Q .next s₃
        | .ret v => Q (.ret v) s₃) E s := by
  unfold BodyAt at h
  exact h _ ⟨fun _ x => x, fun _ x => x, fun _ x => x, fun _ _ x => x⟩
theorem BodyAt.go {body : List Stmt} (h : ∀ Q', Bd N Q Q' → wpAny M A (execs body env) Q' E s) : BodyAt M A env body N Q E s := by
  unfold BodyAt; exact h
/-- behind a function's body -/
structure Rt (R : Value → Shared → Prop) (Q' : Flow → Shared → Prop) : Prop where
  next : ∀ s, R .none s → Q' .next s
  ret : ∀ v s, R v s → Q' (.ret v) s
structure Er (M : Model) (A : Around) (env : Env) (E E' : Value → Shared → Prop) : Prop where
  go : ∀ e s, wpAny M A (leaving env e) (fun _ s'' => E e s'') (fun e' s'' => E e' s'') s → E' e s
  own : PassesOwn M A env E'
@[irreducible] def FnAt (M : Model) (A : Around) (env : Env) (body : List Stmt) (R E : Value → Shared → Prop) (s : Shared) : Prop :=
  ∀ Q' E', Rt R Q' → Er M A env E E' → wpAny M A (execs body env) Q' E' s
theorem FnAt.go {body : List Stmt} (h : ∀ Q' E', Rt R Q' → Er M A env E E' → wpAny M A (execs body env) Q' E' s) : FnAt M A env body R E s := by
  unfold FnAt; exact h
theorem FnAt.out {body : List Stmt} (h : FnAt M A env body R E s) : wpAny M A (execs body env)
        (fun fl s' => R (match fl with | .ret v => v | _ => .none) s')
        (fun e s' => wpAny M A (leaving env e) (fun _ s'' => E e s'') (fun e' s'' => E e' s'') s') s := by
  unfold FnAt at h
  exact h _ _ ⟨fun _ x => x, fun _ _ x => x⟩ ⟨fun _ _ x => x, by passes_own⟩
end

section
variable {prog : Program} {w : World} {A : Around} {E : Value → Shared → Prop} {env : Env} {test : PySem.Expr} {body orelse : List Stmt} {Q : Flow → Shared → Prop} {pos : Pos}
/-- a while by a state and a measure -/
theorem while_inv (J : Nat → Shared → Prop) (hE : PassesOwn (model prog w) A env E)
    (turn : ∀ k s, J k s → wpAny (model prog w) A (isTrue test env (eval test env)) (fun b s₂ => Br b (BodyAt (model prog w) A env body (fun s₃ => ∃ k', k' < k ∧ J k' s₃) Q E s₂) (wpAny (model prog w) A (execs orelse env) Q E s₂)) E s) :
    ∀ k s, J k s → wpAny (model prog w) A (exec (.While test body orelse pos) env) Q E s := by
  have key : ∀ k s, J k s → WhlRest prog w A E env test body orelse Q 0 s := by
    intro k
    induction k using Nat.strongRecOn with
    | _ k ih =>
      intro s hJ
      refine whl_turn (k := 0) hE (wpAny_mono (turn k s hJ) (fun b s₂ h => ?_) fun _ _ e => e)
      cases b with
      | false => exact WhlIf.no rfl h.no
      | true =>
        refine WhlIf.yes rfl ?_
        refine wpAny_mono h.yes.out (fun f s₃ h₃ => ?_) fun _ _ e => e
        cases f with
        | next => obtain ⟨k', hk, hj⟩ := h₃.out; exact ih k' hk s₃ hj
        | cont => obtain ⟨k', hk, hj⟩ := h₃.out; exact ih k' hk s₃ hj
        | brk => exact h₃
        | ret v => exact h₃
  exact fun k s hJ => whl_start 0 (key k s hJ)
end
end Mine
end

section
open PySem PySem.W PySem.Calls PyProof.Rows PySem.Spec
namespace Mine

/-- what B holds beyond h₀, as a ledger -/
def dif (B h₀ : Heap) : List (Addr × Obj) := (List.range B.objs.size).filterMap fun b => if (h₀.get? b).isNone then (B.get? b).map fun o => (b, o) else none
theorem mem_dif {B h₀ : Heap} {b : Addr} {o : Obj} : (b, o) ∈ dif B h₀ ↔ B.get? b = some o ∧ h₀.get? b = none := by
  unfold dif
  rw [List.mem_filterMap]
  constructor
  · rintro ⟨c, _, hc⟩
    split at hc
    · rename_i hn
      cases hg : B.get? c with
      | none => rw [hg] at hc; cases hc
      | some o' =>
        rw [hg] at hc
        simp only [Option.map_some, Option.some.injEq, Prod.mk.injEq] at hc
        obtain ⟨rfl, rfl⟩ := hc
        exact ⟨hg, by simpa using hn⟩
    · cases hc
  · rintro ⟨h1, h2⟩
    exact ⟨b, List.mem_range.mpr (Heap.lt_size h1), by rw [h2, h1]; rfl⟩
theorem mem_dif' {B h₀ : Heap} {p : Addr × Obj} : p ∈ dif B h₀ ↔ B.get? p.1 = some p.2 ∧ h₀.get? p.1 = none := mem_dif (b := p.1) (o := p.2)
theorem dif_ne {B h₀ : Heap} {d : Addr} (hd : B.get? d = none) : ∀ p ∈ dif B h₀, p.1 ≠ d := fun p hp e => by
  have := (mem_dif'.mp hp).1
  rw [e, hd] at this; cases this

section
variable {h₀ h h' B B' : Heap} {L : Addr} {m : Str → Option Value} {ex : List (Addr × Obj)}
theorem news_app {l1 l2 : List (Addr × Obj)} (a : News h₀ L h l1) (b : News h₀ L h l2) : News h₀ L h (l1 ++ l2) := fun p hp => (List.mem_append.mp hp).elim (a p) (b p)
theorem news_l {l1 l2 : List (Addr × Obj)} (a : News h₀ L h (l1 ++ l2)) : News h₀ L h l1 := fun p hp => a p (List.mem_append_left _ hp)
theorem news_r {l1 l2 : List (Addr × Obj)} (a : News h₀ L h (l1 ++ l2)) : News h₀ L h l2 := fun p hp => a p (List.mem_append_right _ hp)
theorem news_dif (k : Ext B h) (hL : B.get? L = none) : News h₀ L h (dif B h₀) := fun p hp => by
  obtain ⟨a, b⟩ := mem_dif'.mp hp
  exact ⟨k _ _ a, (fun e => by rw [e, hL] at a; cases a), b⟩
/-- the frozen heap B stands within h, where the ledger bears it -/
theorem ext_of (F : Fr h₀ L h m) (hB : Ext h₀ B) (N : News h₀ L h (dif B h₀)) : Ext B h := fun b o e => by
  cases q : h₀.get? b with
  | none => exact (N _ (mem_dif.mpr ⟨e, q⟩)).1
  | some o' =>
    have := hB _ _ q
    rw [e] at this; cases this
    exact F.keep _ _ q

def NotSeq (h : Heap) (a : Addr) : Prop := ∀ o, h.get? a = some o → ∀ vs n, o.data ≠ .seq vs n
def NotTup (h : Heap) (a : Addr) : Prop := ∀ o, h.get? a = some o → o.cls ≠ .type "tuple"
theorem Ns.notSeq (hn : h.Ns L m) : NotSeq h L := fun o ho vs n e => by
  obtain ⟨o', es, ep, h1, h2, _⟩ := hn
  rw [ho] at h1; cases h1
  rw [h2] at e; cases e

mutual
def nd : PyData → Bool
  | .dict _ => false
  | .list xs => nds xs
  | .tuple xs => nds xs
  | _ => true
def nds : List PyData → Bool
  | [] => true
  | d :: ds => nd d && nds ds
end

mutual
theorem reads_hide {h : Heap} {S : List Addr} : ∀ {v : Value} {d : PyData} {as : List Addr}, nd d = true → Reads h v d as → (∀ a ∈ S, NotSeq h a ∨ (NotTup h a ∧ a ∉ as)) → Reads (hideAll h S) v d as
  | _, _, _, _, .none, _ => .none
  | _, _, _, _, .bool b, _ => .bool b
  | _, _, _, _, .int i t, _ => .int i t
  | _, _, _, _, .str x t, _ => .str x t
  | _, _, _, hd, .list h1 h2 h3 h4, hS => by
    rw [nd] at hd
    refine .list (hideAll_get _ h1 fun hm => ?_) h2 h3 (readsAll_hide hd h4 fun a ha => (hS a ha).imp id fun q => ⟨q.1, fun x => q.2 (.tail _ x)⟩)
    rcases hS _ hm with q | q
    · exact q _ h1 _ _ h3
    · exact q.2 (.head _)
  | _, _, _, hd, .tuple h1 h2 h3 h4, hS => by
    rw [nd] at hd
    refine .tuple (hideAll_get _ h1 fun hm => ?_) h2 h3 (readsAll_hide hd h4 hS)
    rcases hS _ hm with q | q
    · exact q _ h1 _ _ h3
    · exact q.1 _ h1 h2
  | _, _, _, hd, .dict .., _ => by rw [nd] at hd; cases hd
theorem readsAll_hide {h : Heap} {S : List Addr} : ∀ {vs : List Value} {ds : List PyData} {as : List Addr}, nds ds = true → ReadsAll h vs ds as → (∀ a ∈ S, NotSeq h a ∨ (NotTup h a ∧ a ∉ as)) → ReadsAll (hideAll h S) vs ds as
  | _, _, _, _, .nil, _ => .nil
  | _, _, _, hd, .cons h1 h2, hS => by
    rw [nds, Bool.and_eq_true] at hd
    exact .cons (reads_hide hd.1 h1 fun a ha => (hS a ha).imp id fun q => ⟨q.1, fun x => q.2 (List.mem_append_left _ x)⟩) (readsAll_hide hd.2 h2 fun a ha => (hS a ha).imp id fun q => ⟨q.1, fun x => q.2 (List.mem_append_right _ x)⟩)
end

theorem ext_hide (S : List Addr) : Ext (hideAll h S) h := fun _ _ e => of_hideAll S e
theorem hide_none {S : List Addr} {a : Addr} (ha : a ∈ S) : (hideAll h S).get? a = none := hideAll_none _ ha

/-- the new frozen heap behind a call: all that stands but the frame and the mutable ones -/
theorem refreeze {mu : List Addr} (F : Fr h₀ L h m) (hB : Ext h₀ B) (N : News h₀ L h (ex ++ dif B h₀)) (hL : B.get? L = none) (hmu : ∀ a ∈ mu, B.get? a = none) (k : Ext h h') :
    ∃ B', B' = hideAll h' (L :: mu) ∧ Fr h₀ L h' m ∧ Ext h₀ B' ∧ Ext B B' ∧ News h₀ L h' (ex ++ dif B' h₀) ∧ B'.get? L = none ∧ (∀ a ∈ mu, B'.get? a = none) ∧ Ext B' h' := by
  have hLn : h₀.get? L = none := by
    cases q : h₀.get? L with
    | none => rfl
    | some o => have := hB _ _ q; rw [hL] at this; cases this
  have kB : Ext B (hideAll h' (L :: mu)) := fun b o e => hideAll_get _ (k _ _ (ext_of F hB (news_r N) _ _ e)) fun hm => by
    rcases List.mem_cons.mp hm with rfl | hm
    · rw [hL] at e; cases e
    · rw [hmu _ hm] at e; cases e
  have F' : Fr h₀ L h' m := ⟨F.ns.keeps k, fun b o e => k b o (F.keep b o e), F.above⟩
  refine ⟨_, rfl, F', fun b o e => kB _ _ (hB _ _ e), kB, ?_, hide_none (.head _), fun a ha => hide_none (.tail _ ha), ext_hide _⟩
  exact news_app (fun p hp => ⟨k _ _ (N p (List.mem_append_left _ hp)).1, (N p (List.mem_append_left _ hp)).2⟩) (news_dif (ext_hide _) (hide_none (.head _)))
theorem refreeze_reads {mu : List Addr} {v : Value} {d : PyData} {as : List Addr} (hn : h'.Ns L m) (r : Reads h' v d as) (hd : nd d = true) (ht : ∀ a ∈ mu, NotTup h' a) (hm : ∀ a ∈ mu, a ∉ as) : Reads (hideAll h' (L :: mu)) v d as :=
  reads_hide hd r fun a ha => (List.mem_cons.mp ha).elim (fun e => .inl (e ▸ Ns.notSeq hn)) fun hm' => .inr ⟨ht _ hm', hm _ hm'⟩
end

section
variable {prog : Program} {w : World} {A : Around} {E : Value → Shared → Prop} {env : Env} {body : List Stmt} {Q : Flow → Shared → Prop}
/-- a for by a state over the whole -/
def LoopS (prog : Program) (w : World) (A : Around) (env : Env) (target : PySem.Expr) (body : List Stmt) (Q : Flow → Shared → Prop) (E : Value → Shared → Prop) (it : Value) (s₀ : Shared) : Prop :=
  ∃ (I : Addr) (fp wr : List Addr) (n : Nat) (P : Nat → Value → Prop) (St : Nat → Heap → Prop) (J : Nat → Shared → Prop), it = .ref I ∧ Walks prog w A I fp wr n P St ∧ St 0 s₀.heap ∧ J 0 s₀ ∧
    (∀ i s h' tk, J i s → (∀ b o, b ∉ wr → s.heap.get? b = some o → h'.get? b = some o) → J i { s with heap := h', toks := tk }) ∧
    (∀ i v s, i < n → P i v → J i s → St (i + 1) s.heap → wpAny (model prog w) A (letOwnedTupleGo target (.ref I) v) (fun _ s₁ => wpAny (model prog w) A (assign target env v) (fun _ s₂ => wpAny (model prog w) A (execs body env) (fun f s₃ => match f with
        | .next => Stop (St (i + 1) s₃.heap ∧ J (i + 1) s₃)
        | .cont => Stop (St (i + 1) s₃.heap ∧ J (i + 1) s₃)
        | .brk => Q .next s₃
        | .ret v => Q (.ret v) s₃) E s₂) E s₁) E s) ∧
    ∀ s, J n s → Q .next s

theorem for_S {target iter : PySem.Expr} {pos : Pos} {s : Shared}
    (h : wpAny (model prog w) A (eval iter env) (fun xv s₁ => wpAny (model prog w) A (pyIter xv) (fun it s₂ => LoopS prog w A env target body Q E it s₂) E s₁) E s)
    (hs : ∀ x, foldedSetIterable iter env x = pure x := by intro _; rfl)
    (hE : PassesOwn (model prog w) A env E := by passes_own) :
    wpAny (model prog w) A (exec (.For target iter body [] pos) env) Q E s := by
  refine wpAny_For (wpAny_mono h (fun xv s₁ h₁ => wpAny_mono h₁ (fun it s₂ h₂ => ?_) fun _ _ e => e) fun _ _ e => e) hs
  obtain ⟨I, fp, wr, n, P, St, J, rfl, W, hst, h0, adv, turn, done⟩ := h₂
  refine codeAny_forLoop_any (fun k s' => ∃ i, St i s'.heap ∧ J i s' ∧ i ≤ n ∧ k = n + 1 - i) ?_ (n + 1) ⟨0, hst, h0, Nat.zero_le _, rfl⟩
  rintro k s' ⟨i, hst', hJ, hi, rfl⟩
  by_cases hlt : i < n
  · refine W.item i _ _ _ hlt hst' fun v h₁ tk₁ hP hst₁ hk₁ => ?_
    refine wpAny_mono (turn i v _ hlt hP (adv i s' h₁ tk₁ hJ hk₁) hst₁) (fun _ s₃ h₃ => ?_) hE
    refine wpAny_mono h₃ (fun _ s₄ h₄ => ?_) hE
    refine wpAny_mono h₄ (fun f s₅ h₅ => ?_) hE
    cases f with
    | ret v => exact h₅
    | brk => exact h₅
    | cont => obtain ⟨a, b⟩ := h₅.out; exact ⟨n + 1 - (i + 1), by omega, i + 1, a, b, hlt, rfl⟩
    | next => obtain ⟨a, b⟩ := h₅.out; exact ⟨n + 1 - (i + 1), by omega, i + 1, a, b, hlt, rfl⟩
  · have hin : i = n := by omega
    subst hin
    refine W.done _ _ _ hst' fun h₁ tk₁ hk₁ => wpAny_execs_nil ?_
    exact done _ (adv i s' h₁ tk₁ hJ hk₁)
end
end Mine
end

section
open PySem PySem.W PySem.Calls PyProof.Rows PySem.Spec
namespace Mine
section
variable {prog : Program} {w : World} {A : Around} {E : Value → Shared → Prop} {env : Env} {body : List Stmt} {Q : Flow → Shared → Prop} {s : Shared}
variable {h₀ B₀ : Heap} {m₀ : Str → Option Value} {ex₀ : List (Addr × Obj)} {mu : List Addr} {I : Addr} {fp wr : List Addr} {n : Nat} {P : Nat → Value → Prop} {St : Nat → Heap → Prop}

/-- a loop's turn is at its end -/
def TurnEndB (h₀ B₀ : Heap) (L : Addr) (mu : List Addr) (I : Addr) (o : Obj) (J : (Str → Option Value) → List (Addr × Obj) → Heap → Prop) (s s₃ : Shared) : Prop :=
  ∃ h' tk' m' ex' B', s₃ = { s with heap := h', toks := tk' } ∧ Fr h₀ L h' m' ∧ Ext B₀ B' ∧ (B'.get? L = none ∧ (∀ a ∈ mu, B'.get? a = none) ∧ B'.get? I = none) ∧ News h₀ L h' ((I, o) :: (ex' ++ dif B' h₀)) ∧ (∀ p ∈ ex', p.1 ≠ I) ∧ J m' ex' B'

theorem loop_B (mu : List Addr) (J : Nat → (Str → Option Value) → List (Addr × Obj) → Heap → Prop) {target : PySem.Expr} (W : Walks prog w A I fp wr n P St) (hwr : ∀ b ∈ wr, b = I) (hfp : ∀ b ∈ fp, b = I ∨ ∃ o, B₀.get? b = some o)
    (hlive : ∀ i h, St i h → ∃ o, h.get? I = some o) (hst : St 0 s.heap)
    (F : Fr h₀ env.locals s.heap m₀) (hB : Ext h₀ B₀) (hoff : B₀.get? env.locals = none ∧ (∀ a ∈ mu, B₀.get? a = none) ∧ B₀.get? I = none) (hIL : I ≠ env.locals) (N : News h₀ env.locals s.heap (ex₀ ++ dif B₀ h₀)) (hex : ∀ p ∈ ex₀, p.1 ≠ I)
    (h0 : J 0 m₀ ex₀ B₀)
    (hgo : ∀ i v Q' s', i < n → P i v → St (i + 1) s'.heap → Q' () s' → wpAny (model prog w) A (letOwnedTupleGo target (.ref I) v) Q' E s')
    (turn : ∀ i v m ex B h tk o, i < n → P i v → J i m ex B → Fr h₀ env.locals h m → Ext B₀ B → (B.get? env.locals = none ∧ (∀ a ∈ mu, B.get? a = none) ∧ B.get? I = none) → News h₀ env.locals h ((I, o) :: (ex ++ dif B h₀)) → (∀ p ∈ ex, p.1 ≠ I) →
      wpAny (model prog w) A (assign target env v) (fun _ s₂ => BodyAt (model prog w) A env body (fun s₃ => TurnEndB h₀ B₀ env.locals mu I o (J (i + 1)) s s₃) Q E s₂) E { s with heap := h, toks := tk })
    (done : ∀ h tk m ex B, J n m ex B → Fr h₀ env.locals h m → Ext B₀ B → (B.get? env.locals = none ∧ (∀ a ∈ mu, B.get? a = none)) → News h₀ env.locals h (ex ++ dif B h₀) → Q .next { s with heap := h, toks := tk }) :
    LoopS prog w A env target body Q E (.ref I) s := by
  have hI0 : h₀.get? I = none := by
    cases q : h₀.get? I with
    | none => rfl
    | some o => have := hB _ _ q; rw [hoff.2.2] at this; cases this
  refine ⟨I, fp, wr, n, P, St, fun i s' => ∃ h tk m ex B, s' = { s with heap := h, toks := tk } ∧ Fr h₀ env.locals h m ∧ Ext B₀ B ∧ (B.get? env.locals = none ∧ (∀ a ∈ mu, B.get? a = none) ∧ B.get? I = none) ∧ News h₀ env.locals h (ex ++ dif B h₀) ∧ (∀ p ∈ ex, p.1 ≠ I) ∧ J i m ex B,
    rfl, W, hst, ⟨s.heap, s.toks, m₀, ex₀, B₀, rfl, F, Ext.refl _, hoff, N, hex, h0⟩, ?_, ?_, ?_⟩
  · rintro i s' h' tk' ⟨h, tk, m, ex, B, rfl, F', hBB, ho, N', hx, hJ⟩ hk
    have hne : ∀ b, b ≠ I → b ∉ wr := fun b hb hm => hb (hwr b hm)
    refine ⟨h', tk', m, ex, B, rfl, ⟨F'.ns.at' fun o e => hk _ o (hne _ (Ne.symm hIL)) e, fun b o e => hk b o (hne b fun q => by rw [q, hI0] at e; cases e) (F'.keep b o e), F'.above⟩, hBB, ho, fun p hp => ⟨hk _ _ (hne _ ?_) (N' p hp).1, (N' p hp).2⟩, hx, hJ⟩
    rcases List.mem_append.mp hp with q | q
    · exact hx p q
    · exact dif_ne ho.2.2 p q
  · rintro i v s' hi hP ⟨h, tk, m, ex, B, rfl, F', hBB, ho, N', hx, hJ⟩ hs'
    obtain ⟨o, hIo⟩ := hlive _ _ hs'
    refine hgo i v _ _ hi hP hs' ?_
    have N2 : News h₀ env.locals h ((I, o) :: (ex ++ dif B h₀)) := fun p hp => by
      rcases List.mem_cons.mp hp with rfl | hp
      · exact ⟨hIo, hIL, hI0⟩
      · exact N' p hp
    have fin : ∀ s₃, TurnEndB h₀ B₀ env.locals mu I o (J (i + 1)) s s₃ → St (i + 1) s₃.heap ∧ ∃ h tk m ex B, s₃ = { s with heap := h, toks := tk } ∧ Fr h₀ env.locals h m ∧ Ext B₀ B ∧ (B.get? env.locals = none ∧ (∀ a ∈ mu, B.get? a = none) ∧ B.get? I = none) ∧ News h₀ env.locals h (ex ++ dif B h₀) ∧ (∀ p ∈ ex, p.1 ≠ I) ∧ J (i + 1) m ex B := by
      rintro s₃ ⟨h', tk', m', ex', B', rfl, F3, hB3, ho3, N3, hx3, hJ3⟩
      have N3' : News h₀ env.locals h' (ex' ++ dif B' h₀) := fun p hp => N3 p (.tail _ hp)
      refine ⟨W.frame _ _ _ hs' fun b hb o' e => ?_, h', tk', m', ex', B', rfl, F3, hB3, ho3, N3', hx3, hJ3⟩
      rcases hfp b hb with rfl | ⟨o₁, h1⟩
      · have e' : h.get? b = some o' := e
        rw [hIo] at e'; cases e'
        exact (N3 (b, o) (.head _)).1
      · have hBh : Ext B h := ext_of F' (fun b o e => hBB _ _ (hB _ _ e)) (news_r N')
        have hBh' : Ext B' h' := ext_of F3 (fun b o e => hB3 _ _ (hB _ _ e)) (news_r N3')
        have e' : h.get? b = some o' := e
        rw [hBh _ _ (hBB _ _ h1)] at e'; cases e'
        exact hBh' _ _ (hB3 _ _ h1)
    refine wpAny_mono (turn i v m ex B h tk o hi hP hJ F' hBB ho N2 hx) (fun _ s₂ h₂ => wpAny_mono h₂.out (fun f s₃ h₃ => ?_) fun _ _ e => e) fun _ _ e => e
    cases f with
    | next => exact Stop.go (fin _ h₃.out)
    | cont => exact Stop.go (fin _ h₃.out)
    | brk => exact h₃
    | ret v => exact h₃
  · rintro s' ⟨h, tk, m, ex, B, rfl, F', hBB, ho, N', hx, hJ⟩
    exact done h tk m ex B hJ F' hBB ⟨ho.1, ho.2.1⟩ N'

theorem assign_name {x : Str} {px : Pos} {v : Value} {news : List (Addr × Obj)} {Q' : Unit → Shared → Prop} (F : Fr h₀ env.locals s.heap m₀) (N : News h₀ env.locals s.heap news) (hx : env.kindOf x = some .local)
    (hp : (env.scope.kind == .class || (env.scope.kind == .module && env.locals != env.globals)) = false)
    (h : ∀ h', Fr h₀ env.locals h' (fun y => if y = x then some v else m₀ y) → News h₀ env.locals h' news → Q' () { s with heap := h', toks := s.toks + 1 }) :
    wpAny (model prog w) A (assign (.Name x px) env v) Q' E s :=
  wpAny_assign_Name (wpAny_storeName_local hx F.ns (fun h' hn hs => h h' (F.set hn hs) (N.set hs)) hp)

/-- the same, the target a name of the frame -/
theorem loop_N (mu : List Addr) (J : Nat → (Str → Option Value) → List (Addr × Obj) → Heap → Prop) {x : Str} {px : Pos} (W : Walks prog w A I fp wr n P St) (hwr : ∀ b ∈ wr, b = I) (hfp : ∀ b ∈ fp, b = I ∨ ∃ o, B₀.get? b = some o)
    (hlive : ∀ i h, St i h → ∃ o, h.get? I = some o) (hst : St 0 s.heap)
    (F : Fr h₀ env.locals s.heap m₀) (hB : Ext h₀ B₀) (hoff : B₀.get? env.locals = none ∧ (∀ a ∈ mu, B₀.get? a = none) ∧ B₀.get? I = none) (hIL : I ≠ env.locals) (N : News h₀ env.locals s.heap (ex₀ ++ dif B₀ h₀)) (hex : ∀ p ∈ ex₀, p.1 ≠ I)
    (h0 : J 0 m₀ ex₀ B₀) (hx : env.kindOf x = some .local)
    (hp : (env.scope.kind == .class || (env.scope.kind == .module && env.locals != env.globals)) = false)
    (turn : ∀ i v m ex B h tk o, i < n → P i v → J i m ex B → Fr h₀ env.locals h (fun y => if y = x then some v else m y) → Ext B₀ B → (B.get? env.locals = none ∧ (∀ a ∈ mu, B.get? a = none) ∧ B.get? I = none) → News h₀ env.locals h ((I, o) :: (ex ++ dif B h₀)) → (∀ p ∈ ex, p.1 ≠ I) →
      BodyAt (model prog w) A env body (fun s₃ => TurnEndB h₀ B₀ env.locals mu I o (J (i + 1)) s s₃) Q E { s with heap := h, toks := tk })
    (done : ∀ h tk m ex B, J n m ex B → Fr h₀ env.locals h m → Ext B₀ B → (B.get? env.locals = none ∧ (∀ a ∈ mu, B.get? a = none)) → News h₀ env.locals h (ex ++ dif B h₀) → Q .next { s with heap := h, toks := tk }) :
    LoopS prog w A env (.Name x px) body Q E (.ref I) s :=
  loop_B mu J W hwr hfp hlive hst F hB hoff hIL N hex h0 (fun _ _ _ _ _ _ _ q => wpAny_pure q)
    (fun i v m ex B h tk o hi hP hJ F' hBB ho N' hx' => assign_name F' N' hx hp fun h' F'' N'' => turn i v m ex B h' _ o hi hP hJ F'' hBB ho N'' hx') done
end
end Mine
end

section
open PySem PySem.W PySem.Calls PyProof.Rows PySem.Spec
namespace Mine
section
variable {prog : Program} {w : World} {A : Around} {E : Value → Shared → Prop} {env : Env} {body : List Stmt} {Q : Flow → Shared → Prop} {s : Shared}
variable {h₀ B₀ : Heap} {m₀ : Str → Option Value} {ex₀ : List (Addr × Obj)}

abbrev TurnN (prog : Program) (w : World) (A : Around) (E : Value → Shared → Prop) (env : Env) (body : List Stmt) (Q : Flow → Shared → Prop) (h₀ B₀ : Heap) (mu : List Addr) (x : Str) (n : Nat) (P : Nat → Value → Prop) (I : Addr) (J : Nat → (Str → Option Value) → List (Addr × Obj) → Heap → Prop) (s : Shared) : Prop :=
  ∀ i v m ex B h tk o, i < n → P i v → J i m ex B → Fr h₀ env.locals h (fun y => if y = x then some v else m y) → Ext B₀ B → (B.get? env.locals = none ∧ (∀ a ∈ mu, B.get? a = none) ∧ B.get? I = none) → News h₀ env.locals h ((I, o) :: (ex ++ dif B h₀)) → (∀ p ∈ ex, p.1 ≠ I) →
      BodyAt (model prog w) A env body (fun s₃ => TurnEndB h₀ B₀ env.locals mu I o (J (i + 1)) s s₃) Q E { s with heap := h, toks := tk }
abbrev DoneN (env : Env) (Q : Flow → Shared → Prop) (h₀ B₀ : Heap) (mu : List Addr) (J : (Str → Option Value) → List (Addr × Obj) → Heap → Prop) (s : Shared) : Prop :=
  ∀ h tk m ex B, J m ex B → Fr h₀ env.locals h m → Ext B₀ B → (B.get? env.locals = none ∧ (∀ a ∈ mu, B.get? a = none)) → News h₀ env.locals h (ex ++ dif B h₀) → Q .next { s with heap := h, toks := tk }

theorem loop_push (o : Obj) (mu : List Addr) (J : Nat → (Str → Option Value) → List (Addr × Obj) → Heap → Prop) {x : Str} {px : Pos} {fp wr : List Addr} {n : Nat} {P : Nat → Value → Prop} {St : Nat → Heap → Prop} (W : Walks prog w A s.heap.objs.size fp wr n P St) (hwr : ∀ b ∈ wr, b = s.heap.objs.size) (hfp : ∀ b ∈ fp, b = s.heap.objs.size ∨ ∃ o, B₀.get? b = some o)
    (hlive : ∀ i h, St i h → ∃ o, h.get? s.heap.objs.size = some o) (hst : St 0 (s.heap.push o))
    (F : Fr h₀ env.locals s.heap m₀) (hB : Ext h₀ B₀) (hoff : B₀.get? env.locals = none ∧ (∀ a ∈ mu, B₀.get? a = none)) (N : News h₀ env.locals s.heap (ex₀ ++ dif B₀ h₀))
    (h0 : J 0 m₀ ex₀ B₀) (hx : env.kindOf x = some .local)
    (hp : (env.scope.kind == .class || (env.scope.kind == .module && env.locals != env.globals)) = false)
    (turn : ∀ I, TurnN prog w A E env body Q h₀ B₀ mu x n P I J s)
    (done : DoneN env Q h₀ B₀ mu (J n) s) :
    LoopS prog w A env (.Name x px) body Q E (.ref s.heap.objs.size) { s with heap := s.heap.push o } := by
  have hBs : Ext B₀ s.heap := ext_of F hB (news_r N)
  have hI : B₀.get? s.heap.objs.size = none := by
    cases q : B₀.get? s.heap.objs.size with
    | none => rfl
    | some o => exact absurd (Heap.lt_size (hBs _ _ q)) (Nat.lt_irrefl _)
  exact loop_N mu J W hwr hfp hlive hst (F.push o) hB ⟨hoff.1, hoff.2, hI⟩ (Nat.ne_of_gt F.ns.lt) (fun p hp => ⟨Heap.get?_push_of_some _ (N p hp).1, (N p hp).2⟩)
    (fun p hp => Nat.ne_of_lt (Heap.lt_size (N p (List.mem_append_left _ hp)).1)) h0 hx hp (turn _) done

theorem iter_list (mu : List Addr) (J : Nat → (Str → Option Value) → List (Addr × Obj) → Heap → Prop) {x : Str} {px : Pos} {l : Addr} {items : Array Value} (hh : A.handled = none) (hl : B₀.IsList l items)
    (F : Fr h₀ env.locals s.heap m₀) (hB : Ext h₀ B₀) (hoff : B₀.get? env.locals = none ∧ (∀ a ∈ mu, B₀.get? a = none)) (N : News h₀ env.locals s.heap (ex₀ ++ dif B₀ h₀))
    (h0 : J 0 m₀ ex₀ B₀) (hx : env.kindOf x = some .local)
    (hp : (env.scope.kind == .class || (env.scope.kind == .module && env.locals != env.globals)) = false)
    (turn : ∀ I, TurnN prog w A E env body Q h₀ B₀ mu x items.size (fun i v => items[i]? = some v) I J s)
    (done : DoneN env Q h₀ B₀ mu (J items.size) s) :
    wpAny (model prog w) A (pyIter (.ref l)) (fun it s₂ => LoopS prog w A env (.Name x px) body Q E it s₂) E s := by
  have hBs : Ext B₀ s.heap := ext_of F hB (news_r N)
  obtain ⟨ol, hol, r⟩ := id hl
  have hls : s.heap.IsList l items := ⟨ol, hBs _ _ hol, r⟩
  refine wpAny_pyIter_list hls ?_
  refine loop_push _ mu J (Walks.list hh _ l (Nat.ne_of_lt (Heap.lt_size (hBs _ _ hol))) items) (by simp) (fun b hb => ?_) (fun i h st => let ⟨o, ho, _⟩ := st.1; ⟨o, ho⟩) ⟨⟨_, Heap.get?_push_size _ rfl, rfl, rfl⟩, hls.push _⟩ F hB hoff N h0 hx hp turn done
  rcases List.mem_cons.mp hb with e | hb
  · exact .inl e
  · exact .inr ⟨ol, (List.mem_singleton.mp hb) ▸ hol⟩

theorem iter_tuple (mu : List Addr) (J : Nat → (Str → Option Value) → List (Addr × Obj) → Heap → Prop) {x : Str} {px : Pos} {l : Addr} {items : Array Value} (hh : A.handled = none) (hl : B₀.IsTuple l items)
    (F : Fr h₀ env.locals s.heap m₀) (hB : Ext h₀ B₀) (hoff : B₀.get? env.locals = none ∧ (∀ a ∈ mu, B₀.get? a = none)) (N : News h₀ env.locals s.heap (ex₀ ++ dif B₀ h₀))
    (h0 : J 0 m₀ ex₀ B₀) (hx : env.kindOf x = some .local)
    (hp : (env.scope.kind == .class || (env.scope.kind == .module && env.locals != env.globals)) = false)
    (turn : ∀ I, TurnN prog w A E env body Q h₀ B₀ mu x items.size (fun i v => items[i]? = some v) I J s)
    (done : DoneN env Q h₀ B₀ mu (J items.size) s) :
    wpAny (model prog w) A (pyIter (.ref l)) (fun it s₂ => LoopS prog w A env (.Name x px) body Q E it s₂) E s := by
  have hBs : Ext B₀ s.heap := ext_of F hB (news_r N)
  obtain ⟨ol, hol, r⟩ := id hl
  have hls : s.heap.IsTuple l items := ⟨ol, hBs _ _ hol, r⟩
  refine wpAny_pyIter_tuple hls ?_
  refine loop_push _ mu J (Walks.tuple hh _ l (Nat.ne_of_lt (Heap.lt_size (hBs _ _ hol))) items) (by simp) (fun b hb => ?_) (fun i h st => let ⟨o, ho, _⟩ := st.1; ⟨o, ho⟩) ⟨⟨_, Heap.get?_push_size _ rfl, rfl, rfl⟩, ⟨ol, Heap.get?_push_of_some _ (hBs _ _ hol), r⟩⟩ F hB hoff N h0 hx hp turn done
  rcases List.mem_cons.mp hb with e | hb
  · exact .inl e
  · exact .inr ⟨ol, (List.mem_singleton.mp hb) ▸ hol⟩

theorem iter_range (mu : List Addr) (J : Nat → (Str → Option Value) → List (Addr × Obj) → Heap → Prop) {x : Str} {px : Pos} {r : Addr} {a b c : Int} {t u v : Tok} {n : Nat} (hh : A.handled = none) (hr : IsRange s.heap r a b c t u v) (hsmall : Builtin.Range.small a b c = true) (hn : Builtin.Range.rangeSize a b c = (n : Int))
    (F : Fr h₀ env.locals s.heap m₀) (hB : Ext h₀ B₀) (hoff : B₀.get? env.locals = none ∧ (∀ a ∈ mu, B₀.get? a = none)) (N : News h₀ env.locals s.heap (ex₀ ++ dif B₀ h₀))
    (h0 : J 0 m₀ ex₀ B₀) (hx : env.kindOf x = some .local)
    (hp : (env.scope.kind == .class || (env.scope.kind == .module && env.locals != env.globals)) = false)
    (turn : ∀ I, TurnN prog w A E env body Q h₀ B₀ mu x n (fun i v => ∃ t, v = .int (a + i * c) t) I J s)
    (done : DoneN env Q h₀ B₀ mu (J n) s) :
    wpAny (model prog w) A (pyIter (.ref r)) (fun it s₂ => LoopS prog w A env (.Name x px) body Q E it s₂) E s := by
  refine wpAny_pyIter_range hr hsmall ?_
  refine loop_push _ mu J (Walks.range hh _ a c n) (by simp) (fun b hb => .inl (List.mem_singleton.mp hb)) (fun i h st => ⟨_, st⟩) ?_ F hB hoff N h0 hx hp turn done
  show IsRangeIter _ _ _ _ _
  rw [hn]
  simpa using Heap.get?_push_size _ rfl

theorem iter_str (mu : List Addr) (J : Nat → (Str → Option Value) → List (Addr × Obj) → Heap → Prop) {x : Str} {px : Pos} {y : Str} {t : Tok} (hh : A.handled = none)
    (F : Fr h₀ env.locals s.heap m₀) (hB : Ext h₀ B₀) (hoff : B₀.get? env.locals = none ∧ (∀ a ∈ mu, B₀.get? a = none)) (N : News h₀ env.locals s.heap (ex₀ ++ dif B₀ h₀))
    (h0 : J 0 m₀ ex₀ B₀) (hx : env.kindOf x = some .local)
    (hp : (env.scope.kind == .class || (env.scope.kind == .module && env.locals != env.globals)) = false)
    (turn : ∀ I, TurnN prog w A E env body Q h₀ B₀ mu x y.cps.size (SignAt y) I J s)
    (done : DoneN env Q h₀ B₀ mu (J y.cps.size) s) :
    wpAny (model prog w) A (pyIter (.str y t)) (fun it s₂ => LoopS prog w A env (.Name x px) body Q E it s₂) E s := by
  cases ha : y.cps.all (· < 128)
  · refine wpAny_pyIter_wide ha ?_
    exact loop_push _ mu J (Walks.strWide hh _ y t) (by simp) (fun b hb => .inl (List.mem_singleton.mp hb)) (fun i h st => let ⟨o, ho, _⟩ := st; ⟨o, ho⟩) ⟨_, Heap.get?_push_size _ rfl, rfl, rfl⟩ F hB hoff N h0 hx hp turn done
  · refine wpAny_pyIter_ascii ha ?_
    exact loop_push _ mu J (Walks.strAscii hh _ y t) (by simp) (fun b hb => .inl (List.mem_singleton.mp hb)) (fun i h st => let ⟨o, ho, _⟩ := st; ⟨o, ho⟩) ⟨_, Heap.get?_push_size _ rfl, rfl, rfl⟩ F hB hoff N h0 hx hp turn done
end


section
variable {prog : Program} {w : World} {A : Around} {E : Value → Shared → Prop} {env : Env} {body : List Stmt} {Q : Flow → Shared → Prop} {s : Shared}
variable {h₀ B₀ : Heap} {m₀ : Str → Option Value} {ex₀ : List (Addr × Obj)}

theorem go_plain {target : PySem.Expr} {I : Addr} {v : Value} {o : Obj} {n : String} {Q' : Unit → Shared → Prop} (ho : s.heap.get? I = some o) (hc : o.cls = .type n)
    (hn : ["enumerate", "zip", "dict_itemiterator", "dict_reverseitemiterator", "odict_iterator", "itertools.zip_longest", "itertools.pairwise"].contains n = false) (h : Q' () s) :
    wpAny (model prog w) A (letOwnedTupleGo target (.ref I) v) Q' E s := by
  have key : ∀ a : Addr, wpAny (model prog w) A (do
      let o ← load I
      match o.cls, o.data with
      | .type n, .fields vs =>
        if ["enumerate", "zip", "dict_itemiterator", "dict_reverseitemiterator", "odict_iterator", "itertools.zip_longest", "itertools.pairwise"].contains n && vs[0]? == some (rawInt a) then
          rule "for.unpacks-the-owned-tuple"
          updateField I 0 .none
      | _, _ => pure ()) Q' E s := fun a => by
    refine wpAny_bind (wpAny_load ho ?_)
    rw [hc]
    split
    · rename_i hx _
      cases hx
      rw [if_neg (by rw [hn, Bool.false_and]; decide)]
      exact wpAny_pure h
    · exact wpAny_pure h
  unfold letOwnedTupleGo
  split
  · split
    · rename_i hx
      cases hx
      exact key _
    · exact wpAny_pure h
  · split
    · rename_i hx
      cases hx
      exact key _
    · exact wpAny_pure h
  · exact wpAny_pure h

/-- a turn, whatever the target -/
abbrev TurnT (prog : Program) (w : World) (A : Around) (E : Value → Shared → Prop) (env : Env) (target : PySem.Expr) (body : List Stmt) (Q : Flow → Shared → Prop) (h₀ B₀ : Heap) (mu : List Addr) (n : Nat) (P : Nat → Value → Prop) (I : Addr) (J : Nat → (Str → Option Value) → List (Addr × Obj) → Heap → Prop) (s : Shared) : Prop :=
  ∀ i v m ex B h tk o, i < n → P i v → J i m ex B → Fr h₀ env.locals h m → Ext B₀ B → (B.get? env.locals = none ∧ (∀ a ∈ mu, B.get? a = none) ∧ B.get? I = none) → News h₀ env.locals h ((I, o) :: (ex ++ dif B h₀)) → (∀ p ∈ ex, p.1 ≠ I) →
      wpAny (model prog w) A (assign target env v) (fun _ s₂ => BodyAt (model prog w) A env body (fun s₃ => TurnEndB h₀ B₀ env.locals mu I o (J (i + 1)) s s₃) Q E s₂) E { s with heap := h, toks := tk }
theorem loop_pushT (o : Obj) (mu : List Addr) (J : Nat → (Str → Option Value) → List (Addr × Obj) → Heap → Prop) {target : PySem.Expr} {fp wr : List Addr} {n : Nat} {P : Nat → Value → Prop} {St : Nat → Heap → Prop} (W : Walks prog w A s.heap.objs.size fp wr n P St) (hwr : ∀ b ∈ wr, b = s.heap.objs.size) (hfp : ∀ b ∈ fp, b = s.heap.objs.size ∨ ∃ o, B₀.get? b = some o)
    (hlive : ∀ i h, St i h → ∃ o, h.get? s.heap.objs.size = some o) (hst : St 0 (s.heap.push o))
    (F : Fr h₀ env.locals s.heap m₀) (hB : Ext h₀ B₀) (hoff : B₀.get? env.locals = none ∧ (∀ a ∈ mu, B₀.get? a = none)) (N : News h₀ env.locals s.heap (ex₀ ++ dif B₀ h₀))
    (h0 : J 0 m₀ ex₀ B₀)
    (hgo : ∀ i v Q' s', i < n → P i v → St (i + 1) s'.heap → Q' () s' → wpAny (model prog w) A (letOwnedTupleGo target (.ref s.heap.objs.size) v) Q' E s')
    (turn : ∀ I, TurnT prog w A E env target body Q h₀ B₀ mu n P I J s)
    (done : DoneN env Q h₀ B₀ mu (J n) s) :
    LoopS prog w A env target body Q E (.ref s.heap.objs.size) { s with heap := s.heap.push o } := by
  have hBs : Ext B₀ s.heap := ext_of F hB (news_r N)
  have hI : B₀.get? s.heap.objs.size = none := by
    cases q : B₀.get? s.heap.objs.size with
    | none => rfl
    | some o => exact absurd (Heap.lt_size (hBs _ _ q)) (Nat.lt_irrefl _)
  exact loop_B mu J W hwr hfp hlive hst (F.push o) hB ⟨hoff.1, hoff.2, hI⟩ (Nat.ne_of_gt F.ns.lt) (fun p hp => ⟨Heap.get?_push_of_some _ (N p hp).1, (N p hp).2⟩)
    (fun p hp => Nat.ne_of_lt (Heap.lt_size (N p (List.mem_append_left _ hp)).1)) h0 hgo (turn _) done

theorem iter_listT (mu : List Addr) (J : Nat → (Str → Option Value) → List (Addr × Obj) → Heap → Prop) {target : PySem.Expr} {l : Addr} {items : Array Value} (hh : A.handled = none) (hl : B₀.IsList l items)
    (F : Fr h₀ env.locals s.heap m₀) (hB : Ext h₀ B₀) (hoff : B₀.get? env.locals = none ∧ (∀ a ∈ mu, B₀.get? a = none)) (N : News h₀ env.locals s.heap (ex₀ ++ dif B₀ h₀))
    (h0 : J 0 m₀ ex₀ B₀)
    (turn : ∀ I, TurnT prog w A E env target body Q h₀ B₀ mu items.size (fun i v => items[i]? = some v) I J s)
    (done : DoneN env Q h₀ B₀ mu (J items.size) s) :
    wpAny (model prog w) A (pyIter (.ref l)) (fun it s₂ => LoopS prog w A env target body Q E it s₂) E s := by
  have hBs : Ext B₀ s.heap := ext_of F hB (news_r N)
  obtain ⟨ol, hol, r⟩ := id hl
  have hls : s.heap.IsList l items := ⟨ol, hBs _ _ hol, r⟩
  refine wpAny_pyIter_list hls ?_
  refine loop_pushT _ mu J (Walks.list hh _ l (Nat.ne_of_lt (Heap.lt_size (hBs _ _ hol))) items) (by simp) (fun b hb => ?_) (fun i h st => let ⟨o, ho, _⟩ := st.1; ⟨o, ho⟩) ⟨⟨_, Heap.get?_push_size _ rfl, rfl, rfl⟩, hls.push _⟩ F hB hoff N h0
    (fun i v Q' s' _ _ st q => let ⟨o, ho, hc, _⟩ := st.1; go_plain ho hc (by decide) q) turn done
  rcases List.mem_cons.mp hb with e | hb
  · exact .inl e
  · exact .inr ⟨ol, (List.mem_singleton.mp hb) ▸ hol⟩

theorem iter_tupleT (mu : List Addr) (J : Nat → (Str → Option Value) → List (Addr × Obj) → Heap → Prop) {target : PySem.Expr} {l : Addr} {items : Array Value} (hh : A.handled = none) (hl : B₀.IsTuple l items)
    (F : Fr h₀ env.locals s.heap m₀) (hB : Ext h₀ B₀) (hoff : B₀.get? env.locals = none ∧ (∀ a ∈ mu, B₀.get? a = none)) (N : News h₀ env.locals s.heap (ex₀ ++ dif B₀ h₀))
    (h0 : J 0 m₀ ex₀ B₀)
    (turn : ∀ I, TurnT prog w A E env target body Q h₀ B₀ mu items.size (fun i v => items[i]? = some v) I J s)
    (done : DoneN env Q h₀ B₀ mu (J items.size) s) :
    wpAny (model prog w) A (pyIter (.ref l)) (fun it s₂ => LoopS prog w A env target body Q E it s₂) E s := by
  have hBs : Ext B₀ s.heap := ext_of F hB (news_r N)
  obtain ⟨ol, hol, r⟩ := id hl
  have hls : s.heap.IsTuple l items := ⟨ol, hBs _ _ hol, r⟩
  refine wpAny_pyIter_tuple hls ?_
  refine loop_pushT _ mu J (Walks.tuple hh _ l (Nat.ne_of_lt (Heap.lt_size (hBs _ _ hol))) items) (by simp) (fun b hb => ?_) (fun i h st => let ⟨o, ho, _⟩ := st.1; ⟨o, ho⟩) ⟨⟨_, Heap.get?_push_size _ rfl, rfl, rfl⟩, ⟨ol, Heap.get?_push_of_some _ (hBs _ _ hol), r⟩⟩ F hB hoff N h0
    (fun i v Q' s' _ _ st q => let ⟨o, ho, hc, _⟩ := st.1; go_plain ho hc (by decide) q) turn done
  rcases List.mem_cons.mp hb with e | hb
  · exact .inl e
  · exact .inr ⟨ol, (List.mem_singleton.mp hb) ▸ hol⟩
end

theorem News.ofMem {h₀ h : Heap} {L : Addr} {news : List (Addr × Obj)} {p : Addr × Obj} (N : News h₀ L h news) (hp : p ∈ news) : h.get? p.1 = some p.2 ∧ p.1 ≠ L ∧ h₀.get? p.1 = none := N p hp
theorem dif_self (h : Heap) : dif h h = [] := by
  cases e : dif h h with
  | nil => rfl
  | cons p r =>
    have hp : p ∈ dif h h := by rw [e]; exact .head _
    obtain ⟨a, b⟩ := mem_dif'.mp hp
    rw [a] at b; cases b

section
variable {prog : Program} {w : World} {A : Around} {s : Shared} {K : Frag} {Q E : Value → Shared → Prop}
/-- a def is entered; all that stands is frozen -/
theorem enterB {name qual : Str} {params : Arguments} {body : List Stmt} {scope : Scope} {dV kV doc pm cdv ct oc : Value} {an od : Option Addr} {osl : Array (Option Value)} {f : Addr} {pos : List Value} {kw : List (Str × Value)} (binds : List (Str × Value))
    (X : K.In s.heap) (hlim : s.heap.NoLimit)
    (ho : K.lookup f = some ⟨oc, od, .func (fnOf name qual params body scope dV kV doc pm an cdv ct), osl⟩) (hcd : codeIn K cdv qual = true) (hroom : A.depth < recursionLimit)
    (hbind : BindsTo s (fnOf name qual params body scope dV kV doc pm an cdv ct) ⟨pos, kw⟩ binds) (hloc : ∀ y ∈ binds, scope.names.lookup y.1 = some .local)
    (hcell : ∀ x ∈ scope.names, x.2 ≠ .cell)
    (hco : scope.isCoroutine = false) (hgen : scope.isGenerator = false) (hk : scope.kind = .function)
    (h : ∀ L h₁ tk, Fr s.heap L h₁ (fun y => binds.reverse.lookup y) → News s.heap L h₁ (dif s.heap s.heap) → s.heap.get? L = none →
      FnAt (model prog w) (A.deeper (envOf qual scope L f cdv)) (envOf qual scope L f cdv) body Q E { s with heap := h₁, toks := tk }) :
    wpAny (model prog w) A (call (.ref f) pos kw) Q E s := by
  refine wpAny_call ?_
  refine codeAny_call_def (fd := fnOf name qual params body scope dV kV doc pm an cdv ct) (body := body) (binds := binds) hroom (X _ _ ho) rfl hlim (codeRec_of X hcd) rfl hbind hcell hloc (fun h₁ hns hk₁ => ?_) hco hgen hk
  exact (h s.heap.objs.size h₁ _ ⟨hns, fun b o e => hk₁ b o e, Nat.le_refl _⟩ (by rw [dif_self]; exact News.nil) (Heap.get?_none_of_le (Nat.le_refl _))).out
end
end Mine
end

section
open PySem PySem.W PySem.Calls PyProof.Rows PySem.Spec
namespace Mine
/-! a for over enumerate of a list, by a state -/
section
variable {prog : Program} {w : World} {A : Around} {E : Value → Shared → Prop} {env : Env} {body : List Stmt} {Q : Flow → Shared → Prop} {s : Shared}
abbrev EnSt (e it l : Addr) (items : Array Value) (i : Nat) (h : Heap) : Prop := (∃ old, IsEnum h e it i old) ∧ h.IsListIter it l i ∧ h.IsList l items
abbrev pairT (xi xc : Str) (pk pv pt : Pos) (x1 : Nat) : PySem.Expr := .Tuple [.Name xi pk, .Name xc pv] x1 pt
@[irreducible] def LoopE (prog : Program) (w : World) (A : Around) (env : Env) (target : PySem.Expr) (body : List Stmt) (Q : Flow → Shared → Prop) (E : Value → Shared → Prop) (itv : Value) (s₀ : Shared) : Prop :=
  ∃ (e it l : Addr) (items : Array Value) (J : Nat → Shared → Prop), itv = .ref e ∧ e ≠ it ∧ l ≠ e ∧ l ≠ it ∧ EnSt e it l items 0 s₀.heap ∧ J 0 s₀ ∧
    (∀ i s h' tk, J i s → (∀ b o, b ∉ [e, it] → s.heap.get? b = some o → h'.get? b = some o) → J i { s with heap := h', toks := tk }) ∧
    (∀ i T t x s, items[i]? = some x → J i s → EnSt e it l items (i + 1) s.heap → s.heap.IsTuple T #[.int i t, x] → wpAny (model prog w) A (assign target env (.ref T)) (fun _ s₂ => wpAny (model prog w) A (execs body env) (fun f s₃ => match f with
        | .next => Stop (EnSt e it l items (i + 1) s₃.heap ∧ J (i + 1) s₃)
        | .cont => Stop (EnSt e it l items (i + 1) s₃.heap ∧ J (i + 1) s₃)
        | .brk => Q .next s₃
        | .ret v => Q (.ret v) s₃) E s₂) E s) ∧
    ∀ s, J items.size s → Q .next s
theorem for_E {xi xc : Str} {pk pv pt pos : Pos} {x1 : Nat} {iter : PySem.Expr} (hh : A.handled = none)
    (h : wpAny (model prog w) A (eval iter env) (fun xv s₁ => wpAny (model prog w) A (pyIter xv) (fun it s₂ => LoopE prog w A env (pairT xi xc pk pv pt x1) body Q E it s₂) E s₁) E s)
    (hs : ∀ x, foldedSetIterable iter env x = pure x := by intro _; rfl)
    (hE : PassesOwn (model prog w) A env E := by passes_own) :
    wpAny (model prog w) A (exec (.For (pairT xi xc pk pv pt x1) iter body [] pos) env) Q E s := by
  refine wpAny_For (wpAny_mono h (fun xv s₁ h₁ => wpAny_mono h₁ (fun itv s₂ h₂ => ?_) fun _ _ e => e) fun _ _ e => e) hs
  unfold LoopE at h₂
  obtain ⟨e, it, l, items, J, rfl, hei, hle, hli, hst, h0, adv, turn, done⟩ := h₂
  have W := WalksT.enumerate (prog := prog) (w := w) hh e it l hei hle hli items
  refine codeAny_forLoop_any (fun k s' => ∃ i, EnSt e it l items i s'.heap ∧ J i s' ∧ i ≤ items.size ∧ k = items.size + 1 - i) ?_ (items.size + 1) ⟨0, hst, h0, Nat.zero_le _, rfl⟩
  rintro k s' ⟨i, hst', hJ, hi, rfl⟩
  by_cases hlt : i < items.size
  · refine W.item i _ _ _ hlt hst' fun T vals h₁ tk₁ hP hTs hT hM hk₁ => ?_
    refine W.go _ _ _ i T _ _ _ hM fun h₂ hst₂ hk₂ => ?_
    obtain ⟨t, x, hx, rfl⟩ := hP
    have hTw := W.apart i T _ hM
    refine wpAny_mono (turn i T t x _ hx (adv i s' h₂ tk₁ hJ fun b o hb eb => hk₂ b o hb (hk₁ b o hb eb)) hst₂ (let ⟨o, ho, r⟩ := hT; ⟨o, hk₂ T o hTw ho, r⟩)) (fun _ s₃ h₃ => ?_) hE
    refine wpAny_mono h₃ (fun f s₅ h₅ => ?_) hE
    cases f with
    | ret v => exact h₅
    | brk => exact h₅
    | cont => obtain ⟨a, b⟩ := h₅.out; exact ⟨items.size + 1 - (i + 1), by omega, i + 1, a, b, hlt, rfl⟩
    | next => obtain ⟨a, b⟩ := h₅.out; exact ⟨items.size + 1 - (i + 1), by omega, i + 1, a, b, hlt, rfl⟩
  · have hin : i = items.size := by omega
    subst hin
    refine W.done _ _ _ hst' fun h₁ tk₁ hk₁ => wpAny_execs_nil ?_
    exact done _ (adv _ s' h₁ tk₁ hJ hk₁)
variable {h₀ B₀ : Heap} {m₀ : Str → Option Value} {ex₀ : List (Addr × Obj)}
/-- a turn over pairs is at its end -/
def TurnEnd2 (h₀ B₀ : Heap) (L : Addr) (mu : List Addr) (e : Addr) (oe : Obj) (it : Addr) (oi : Obj) (J : (Str → Option Value) → List (Addr × Obj) → Heap → Prop) (s s₃ : Shared) : Prop :=
  ∃ h' tk' m' ex' B', s₃ = { s with heap := h', toks := tk' } ∧ Fr h₀ L h' m' ∧ Ext B₀ B' ∧ (B'.get? L = none ∧ (∀ a ∈ e :: it :: mu, B'.get? a = none)) ∧ News h₀ L h' ((e, oe) :: (it, oi) :: (ex' ++ dif B' h₀)) ∧ (∀ p ∈ ex', p.1 ≠ e ∧ p.1 ≠ it) ∧ J m' ex' B'
theorem enum_list {xi xc : Str} {pk pv pt : Pos} {x1 : Nat} {l : Addr} {items : Array Value} (mu : List Addr) (J : Nat → (Str → Option Value) → List (Addr × Obj) → Heap → Prop) (hh : A.handled = none) (hl : B₀.IsList l items)
    (F : Fr h₀ env.locals s.heap m₀) (hB : Ext h₀ B₀) (hoff : B₀.get? env.locals = none ∧ (∀ a ∈ mu, B₀.get? a = none)) (N : News h₀ env.locals s.heap (ex₀ ++ dif B₀ h₀))
    (h0 : J 0 m₀ ex₀ B₀) (hxi : env.kindOf xi = some .local) (hxc : env.kindOf xc = some .local)
    (hp : (env.scope.kind == .class || (env.scope.kind == .module && env.locals != env.globals)) = false)
    (turn : ∀ e it i x t m ex B h tk oe oi, items[i]? = some x → J i m ex B → Fr h₀ env.locals h (fun y => if y = xc then some x else if y = xi then some (.int (i : Nat) t) else m y) → Ext B₀ B → (B.get? env.locals = none ∧ (∀ a ∈ e :: it :: mu, B.get? a = none)) →
      News h₀ env.locals h ((e, oe) :: (it, oi) :: (ex ++ dif B h₀)) → (∀ p ∈ ex, p.1 ≠ e ∧ p.1 ≠ it) → e ≠ it → oe.cls ≠ .type "tuple" → oi.cls ≠ .type "tuple" →
      BodyAt (model prog w) A env body (fun s₃ => TurnEnd2 h₀ B₀ env.locals mu e oe it oi (J (i + 1)) s s₃) Q E { s with heap := h, toks := tk })
    (done : DoneN env Q h₀ B₀ mu (J items.size) s) :
    wpAny (model prog w) A (call (.type "enumerate") [.ref l]) (fun xv s₁ => wpAny (model prog w) A (pyIter xv) (fun it s₂ => LoopE prog w A env (pairT xi xc pk pv pt x1) body Q E it s₂) E s₁) E s := by
  have hBs : Ext B₀ s.heap := ext_of F hB (news_r N)
  obtain ⟨ol, hol, r⟩ := id hl
  have hls : s.heap.IsList l items := ⟨ol, hBs _ _ hol, r⟩
  refine call_enumerate_list hls fun h' he hit hsz hk => ?_
  refine wpAny_pyIter_enum he ?_
  generalize hie : s.heap.objs.size + 1 = e at *
  generalize hii : s.heap.objs.size = it at *
  have hite : e ≠ it := by rw [← hie]; exact Nat.succ_ne_self _
  have hnone : ∀ a : Addr, @LE.le Nat _ it a → s.heap.get? a = none := fun a ha => Heap.get?_none_of_le (hii ▸ ha)
  have hle0 : @LE.le Nat _ it e := hie ▸ Nat.le_succ it
  have hB0 : ∀ a : Addr, s.heap.get? a = none → B₀.get? a = none := fun a ha => by
    cases q : B₀.get? a with
    | none => rfl
    | some o => rw [hBs _ _ q] at ha; cases ha
  have hh0 : ∀ a : Addr, B₀.get? a = none → h₀.get? a = none := fun a ha => by
    cases q : h₀.get? a with
    | none => rfl
    | some o => rw [hB _ _ q] at ha; cases ha
  have ne_old : ∀ {b : Addr} {o : Obj}, s.heap.get? b = some o → b ≠ e ∧ b ≠ it := fun {b o} hb => ⟨fun q => (by rw [q, hnone e hle0] at hb; cases hb), fun q => (by rw [q, hnone it (Nat.le_refl it)] at hb; cases hb)⟩
  obtain ⟨oL, _, _, hLl, _⟩ := id F.ns
  have hLe := ne_old hLl
  have hll := ne_old (hBs _ _ hol)
  unfold LoopE
  refine ⟨e, it, l, items, fun i s' => ∃ h tk m ex B, s' = { s with heap := h, toks := tk } ∧ Fr h₀ env.locals h m ∧ Ext B₀ B ∧ (B.get? env.locals = none ∧ (∀ a ∈ e :: it :: mu, B.get? a = none)) ∧ News h₀ env.locals h (ex ++ dif B h₀) ∧ (∀ p ∈ ex, p.1 ≠ e ∧ p.1 ≠ it) ∧ J i m ex B,
    rfl, hite, hll.1, hll.2, ⟨⟨_, by simpa using he⟩, hit, ⟨ol, hk _ _ (hBs _ _ hol), r⟩⟩, ⟨h', s.toks, m₀, ex₀, B₀, rfl, Fr.ext F hk, Ext.refl _, ⟨hoff.1, fun a ha => ?_⟩, News.ext N hk, fun p hp => ne_old (N p (List.mem_append_left _ hp)).1, h0⟩, ?_, ?_, ?_⟩
  · rcases List.mem_cons.mp ha with rfl | ha
    · exact hB0 _ (hnone _ hle0)
    · rcases List.mem_cons.mp ha with rfl | ha
      · exact hB0 _ (hnone _ (Nat.le_refl _))
      · exact hoff.2 a ha
  · rintro i s' h'' tk' ⟨h, tk, m, ex, B, rfl, F', hBB, ho, N', hx, hJ⟩ hk'
    have hne : ∀ b : Addr, b ≠ e → b ≠ it → b ∉ [e, it] := fun b h1 h2 hm => by
      rcases List.mem_cons.mp hm with q | hm
      · exact h1 q
      · exact h2 (List.mem_singleton.mp hm)
    have hd : ∀ p ∈ dif B h₀, p.1 ≠ e ∧ p.1 ≠ it := fun p hp => ⟨dif_ne (ho.2 e (.head _)) p hp, dif_ne (ho.2 it (.tail _ (.head _))) p hp⟩
    refine ⟨h'', tk', m, ex, B, rfl, ⟨F'.ns.at' fun o eo => hk' _ o (hne _ hLe.1 hLe.2) eo, fun b o eb => hk' b o (hne b (fun q => ?_) fun q => ?_) (F'.keep b o eb), F'.above⟩, hBB, ho, fun p hp => ?_, hx, hJ⟩
    · rw [q, hh0 e (hB0 _ (hnone _ hle0))] at eb; cases eb
    · rw [q, hh0 it (hB0 _ (hnone _ (Nat.le_refl _)))] at eb; cases eb
    · have hq : p.1 ≠ e ∧ p.1 ≠ it := (List.mem_append.mp hp).elim (hx p) (hd p)
      exact ⟨hk' _ _ (hne _ hq.1 hq.2) (N' p hp).1, (N' p hp).2⟩
  · rintro i T t x s' hx' ⟨h, tk, m, ex, B, rfl, F', hBB, ho, N', hx, hJ⟩ hst hT
    obtain ⟨⟨old, he2⟩, hit2, hl2⟩ := id hst
    obtain ⟨oi, hoi, hoc, _⟩ := id hit2
    have N2 : News h₀ env.locals h ((e, _) :: (it, oi) :: (ex ++ dif B h₀)) := fun p hp => by
      rcases List.mem_cons.mp hp with rfl | hp
      · exact ⟨he2, Ne.symm hLe.1, hh0 _ (hB0 _ (hnone _ hle0))⟩
      · rcases List.mem_cons.mp hp with rfl | hp
        · exact ⟨hoi, Ne.symm hLe.2, hh0 _ (hB0 _ (hnone _ (Nat.le_refl _)))⟩
        · exact N' p hp
    refine wpAny_assign_Tuple hh hT rfl rfl fun h₂ hx₂ => ?_
    have k₂ : Ext h h₂ := fun b o eb => hx₂ b o (Nat.ne_of_lt (Heap.lt_size eb)) eb
    refine assignInOrder_cons (assign_name (Fr.ext F' k₂) (News.ext N2 k₂) hxi hp fun h₃ F₃ N₃ => ?_)
    refine assignInOrder_cons (assign_name F₃ N₃ hxc hp fun h₄ F₄ N₄ => ?_)
    refine assignInOrder_nil ?_
    refine wpAny_mono (turn e it i x t m ex B h₄ _ _ oi hx' hJ F₄ hBB ho N₄ hx hite (by show Value.type "enumerate" ≠ Value.type "tuple"; decide) (by rw [hoc]; decide)).out (fun f s₃ h₃ => ?_) fun _ _ e => e
    have fin : TurnEnd2 h₀ B₀ env.locals mu e { cls := .type "enumerate", dict := none, data := .fields #[.none, .bool false, .ref it, rawInt ((i + 1 : Nat) : Int), .none, old], slots := #[] } it oi (J (i + 1)) s s₃ → EnSt e it l items (i + 1) s₃.heap ∧ ∃ h tk m ex B, s₃ = { s with heap := h, toks := tk } ∧ Fr h₀ env.locals h m ∧ Ext B₀ B ∧ (B.get? env.locals = none ∧ (∀ a ∈ e :: it :: mu, B.get? a = none)) ∧ News h₀ env.locals h (ex ++ dif B h₀) ∧ (∀ p ∈ ex, p.1 ≠ e ∧ p.1 ≠ it) ∧ J (i + 1) m ex B := by
      rintro ⟨h5, tk5, m5, ex5, B5, rfl, F5, hB5, ho5, N5, hx5, hJ5⟩
      have N5' : News h₀ env.locals h5 (ex5 ++ dif B5 h₀) := fun p hp => N5 p (.tail _ (.tail _ hp))
      refine ⟨⟨⟨old, (N5 (e, _) (.head _)).1⟩, ?_, ?_⟩, h5, tk5, m5, ex5, B5, rfl, F5, hB5, ho5, N5', hx5, hJ5⟩
      · obtain ⟨o', ho', rr⟩ := hit2
        rw [hoi] at ho'; cases ho'
        exact ⟨oi, (N5 (it, oi) (.tail _ (.head _))).1, rr⟩
      · exact ⟨ol, ext_of F5 (fun b o eb => hB5 _ _ (hB _ _ eb)) (news_r N5') _ _ (hB5 _ _ hol), r⟩
    cases f with
    | next => exact Stop.go (fin h₃.out)
    | cont => exact Stop.go (fin h₃.out)
    | brk => exact h₃
    | ret v => exact h₃
  · rintro s' ⟨h, tk, m, ex, B, rfl, F', hBB, ho, N', hx, hJ⟩
    exact done h tk m ex B hJ F' hBB ⟨ho.1, fun a ha => ho.2 a (.tail _ (.tail _ ha))⟩ N'
end
end Mine
end

section
open PySem PySem.W PySem.Calls PyProof.Rows PySem.Spec
namespace Mine
section
variable {prog : Program} {w : World} {A : Around} {E : Value → Shared → Prop} {env : Env} {body : List Stmt} {Q : Flow → Shared → Prop} {s : Shared}
variable {h₀ B₀ : Heap} {m₀ : Str → Option Value} {ex₀ : List (Addr × Obj)}
/-- a for over a list; the iterator's class is known -/
theorem iter_listC (mu : List Addr) (J : Nat → (Str → Option Value) → List (Addr × Obj) → Heap → Prop) {x : Str} {px : Pos} {l : Addr} {items : Array Value} (hh : A.handled = none) (hl : B₀.IsList l items)
    (F : Fr h₀ env.locals s.heap m₀) (hB : Ext h₀ B₀) (hoff₀ : B₀.get? env.locals = none ∧ (∀ a ∈ mu, B₀.get? a = none)) (N : News h₀ env.locals s.heap (ex₀ ++ dif B₀ h₀))
    (h0 : J 0 m₀ ex₀ B₀) (hx : env.kindOf x = some .local)
    (hp : (env.scope.kind == .class || (env.scope.kind == .module && env.locals != env.globals)) = false)
    (turn : ∀ I i v m ex B h tk o, o.cls = .type "list_iterator" → i < items.size → items[i]? = some v → J i m ex B → Fr h₀ env.locals h (fun y => if y = x then some v else m y) → Ext B₀ B → (B.get? env.locals = none ∧ (∀ a ∈ mu, B.get? a = none) ∧ B.get? I = none) → News h₀ env.locals h ((I, o) :: (ex ++ dif B h₀)) → (∀ p ∈ ex, p.1 ≠ I) →
      BodyAt (model prog w) A env body (fun s₃ => TurnEndB h₀ B₀ env.locals mu I o (J (i + 1)) s s₃) Q E { s with heap := h, toks := tk })
    (done : DoneN env Q h₀ B₀ mu (J items.size) s) :
    wpAny (model prog w) A (pyIter (.ref l)) (fun it s₂ => LoopS prog w A env (.Name x px) body Q E it s₂) E s := by
  have hBs : Ext B₀ s.heap := ext_of F hB (news_r N)
  obtain ⟨ol, hol, r⟩ := id hl
  have hls : s.heap.IsList l items := ⟨ol, hBs _ _ hol, r⟩
  refine wpAny_pyIter_list hls ?_
  generalize hI : s.heap.objs.size = I
  have hIs : s.heap.get? I = none := Heap.get?_none_of_le (Nat.le_of_eq hI)
  have W := Walks.list (prog := prog) (w := w) hh I l (fun e => by rw [← e, hBs _ _ hol] at hIs; cases hIs) items
  have hB0 : B₀.get? I = none := by
    cases q : B₀.get? I with
    | none => rfl
    | some o => rw [hBs _ _ q] at hIs; cases hIs
  have hI0 : h₀.get? I = none := by
    cases q : h₀.get? I with
    | none => rfl
    | some o => rw [hB _ _ q] at hB0; cases hB0
  have hIL : I ≠ env.locals := fun e => by
    obtain ⟨oL, _, _, hLl, _⟩ := id F.ns
    rw [← e, hIs] at hLl; cases hLl
  have hgI : (s.heap.push { cls := .type "list_iterator", data := .fields #[.ref l, .int 0 0] }).get? I = some { cls := .type "list_iterator", data := .fields #[.ref l, .int 0 0] } := hI ▸ Heap.get?_push_size _ rfl
  refine ⟨I, [I, l], [I], items.size, _, _, fun i s' => ∃ h tk m ex B, s' = { s with heap := h, toks := tk } ∧ Fr h₀ env.locals h m ∧ Ext B₀ B ∧ (B.get? env.locals = none ∧ (∀ a ∈ mu, B.get? a = none) ∧ B.get? I = none) ∧ News h₀ env.locals h (ex ++ dif B h₀) ∧ (∀ p ∈ ex, p.1 ≠ I) ∧ J i m ex B,
    rfl, W, ⟨⟨_, hgI, rfl, rfl⟩, hls.push _⟩, ⟨_, s.toks, m₀, ex₀, B₀, rfl, F.push _, Ext.refl _, ⟨hoff₀.1, hoff₀.2, hB0⟩, (fun p hp => ⟨Heap.get?_push_of_some _ (N p hp).1, (N p hp).2⟩), (fun p hp e => by have := (N p (List.mem_append_left _ hp)).1; rw [e, hIs] at this; cases this), h0⟩, ?_, ?_, ?_⟩
  · rintro i s' h' tk' ⟨h, tk, m, ex, B, rfl, F', hBB, ho, N', hx, hJ⟩ hk
    have hne : ∀ b : Addr, b ≠ I → b ∉ [I] := fun b hb hm => hb (List.mem_singleton.mp hm)
    refine ⟨h', tk', m, ex, B, rfl, ⟨F'.ns.at' fun o e => hk _ o (hne _ (Ne.symm hIL)) e, fun b o e => hk b o (hne b fun q => by rw [q, hI0] at e; cases e) (F'.keep b o e), F'.above⟩, hBB, ho, fun p hp => ⟨hk _ _ (hne _ ?_) (N' p hp).1, (N' p hp).2⟩, hx, hJ⟩
    rcases List.mem_append.mp hp with q | q
    · exact hx p q
    · exact dif_ne ho.2.2 p q
  · rintro i v s' hi hP ⟨h, tk, m, ex, B, rfl, F', hBB, ho, N', hx', hJ⟩ hs'
    obtain ⟨o, hIo, hoc, hod⟩ := hs'.1
    refine wpAny_pure ?_
    have N2 : News h₀ env.locals h ((I, o) :: (ex ++ dif B h₀)) := fun p hp => by
      rcases List.mem_cons.mp hp with rfl | hp
      · exact ⟨hIo, hIL, hI0⟩
      · exact N' p hp
    have fin : ∀ s₃, TurnEndB h₀ B₀ env.locals mu I o (J (i + 1)) s s₃ → (s₃.heap.IsListIter I l (i + 1) ∧ s₃.heap.IsList l items) ∧ ∃ h tk m ex B, s₃ = { s with heap := h, toks := tk } ∧ Fr h₀ env.locals h m ∧ Ext B₀ B ∧ (B.get? env.locals = none ∧ (∀ a ∈ mu, B.get? a = none) ∧ B.get? I = none) ∧ News h₀ env.locals h (ex ++ dif B h₀) ∧ (∀ p ∈ ex, p.1 ≠ I) ∧ J (i + 1) m ex B := by
      rintro s₃ ⟨h', tk', m', ex', B', rfl, F3, hB3, ho3, N3, hx3, hJ3⟩
      have N3' : News h₀ env.locals h' (ex' ++ dif B' h₀) := fun p hp => N3 p (.tail _ hp)
      refine ⟨⟨⟨o, (N3 (I, o) (.head _)).1, hoc, hod⟩, ⟨ol, ext_of F3 (fun b o e => hB3 _ _ (hB _ _ e)) (news_r N3') _ _ (hB3 _ _ hol), r⟩⟩, h', tk', m', ex', B', rfl, F3, hB3, ho3, N3', hx3, hJ3⟩
    refine assign_name F' N2 hx hp fun h' F'' N'' => ?_
    refine wpAny_mono (turn I i v m ex B h' _ o hoc hi hP hJ F'' hBB ho N'' hx').out (fun f s₃ h₃ => ?_) fun _ _ e => e
    cases f with
    | next => exact Stop.go (fin _ h₃.out)
    | cont => exact Stop.go (fin _ h₃.out)
    | brk => exact h₃
    | ret v => exact h₃
  · rintro s' ⟨h, tk, m, ex, B, rfl, F', hBB, ho, N', hx, hJ⟩
    exact done h tk m ex B hJ F' hBB ⟨ho.1, ho.2.1⟩ N'
end
end Mine
end

section
open PySem PySem.W PySem.Calls PyProof.Rows PySem.Spec
namespace Mine
abbrev HEX : Str := Str.ofString "0123456789abcdef"
def hexT (n : Nat) : Str := if n < 16 then Txt.item HEX ((n : Int).fmod 16) else hexT (n / 16) ++ Txt.item HEX ((n : Int).fmod 16)
termination_by n
decreasing_by omega
def hexPre (n : Nat) : Str := if n < 16 then Str.empty else hexT (n / 16)
theorem hexT_eq (n : Nat) : hexT n = hexPre n ++ Txt.item HEX ((n : Int).fmod 16) := by
  rw [hexT, hexPre]
  split
  · rw [Str.empty_append]
  · rfl

theorem item_len (x : Str) (i : Int) : (Txt.item x i).length = 1 := rfl
theorem hexT_len : ∀ (k n : Nat), n < 16 ^ (k + 1) → (hexT n).length ≤ k + 1 := by
  intro k
  induction k with
  | zero => intro n h; rw [hexT, if_pos (by simpa using h), item_len]; omega
  | succ k ih =>
    intro n h
    rw [hexT]
    split
    · rw [item_len]; omega
    · rw [Str.length_append, item_len]
      have := ih (n / 16) (by rw [Nat.pow_succ] at h; omega)
      omega
theorem hexPre_next {k : Nat} (h : 15 < k) : hexPre k = hexPre (k / 16) ++ Txt.item HEX (((k / 16 : Nat) : Int).fmod 16) := by
  rw [hexPre, if_neg (by omega), hexT_eq]
theorem hexPre_last {k : Nat} (h : ¬ 15 < k) : hexPre k = Str.empty := by rw [hexPre, if_pos (by omega)]

end Mine
end

section
open PySem PySem.W PySem.Calls PyProof.Rows PySem.Spec
namespace Mine
def loR (n : Nat) : Nat → Str
  | 0 => Str.empty
  | k + 1 => Txt.item HEX (((n / 16 ^ k : Nat) : Int).fmod 16) ++ loR n k
@[irreducible] def loT (k n : Nat) : Str := loR n k
theorem loT_zero (n : Nat) : loT 0 n = Str.empty := by unfold loT; rfl
theorem loT_succ (k n : Nat) : loT (k + 1) n = Txt.item HEX (((n / 16 ^ k : Nat) : Int).fmod 16) ++ loT k n := by unfold loT; rfl
theorem loT_len (n : Nat) : ∀ k, (loT k n).length = k := by
  intro k
  induction k with
  | zero => rw [loT_zero]; rfl
  | succ k ih => rw [loT_succ, Str.length_append, item_len, ih]; omega
theorem loT_low (n : Nat) : ∀ k, loT (k + 1) n = loT k (n / 16) ++ Txt.item HEX (((n : Nat) : Int).fmod 16) := by
  intro k
  induction k with
  | zero => rw [loT_succ, loT_zero, loT_zero, Str.append_empty, Str.empty_append, Nat.pow_zero, Nat.div_one]
  | succ k ih => rw [loT_succ, ih, loT_succ k (n / 16), Str.append_assoc, Nat.div_div_eq_div_mul, Nat.pow_succ, Nat.mul_comm]

def lst (x : Str) : List Nat := x.cps.toList
theorem lst_app (x y : Str) : lst (x ++ y) = lst x ++ lst y := by
  show (x.cps ++ y.cps).toList = _
  simp [lst]
theorem lst_inj {x y : Str} (h : lst x = lst y) : x = y := by
  obtain ⟨⟨a⟩⟩ := x
  obtain ⟨⟨b⟩⟩ := y
  have h' : a = b := h
  rw [h']
theorem lst_len (x : Str) : (lst x).length = x.length := by simp [lst, Str.length]
def hexCode (d : Nat) : Nat := if d < 10 then 48 + d else 87 + d
theorem hex_item : ∀ d : Nat, d < 16 → Txt.item HEX (d : Int) = ⟨#[hexCode d]⟩ := by decide +kernel
theorem fmod16 (n : Nat) : ((n : Nat) : Int).fmod 16 = ((n % 16 : Nat) : Int) := by
  rw [Int.fmod_eq_emod_of_nonneg _ (by decide)]; rfl
theorem lst_item (n : Nat) : lst (Txt.item HEX (((n : Nat) : Int).fmod 16)) = [hexCode (n % 16)] := by
  rw [fmod16, hex_item _ (Nat.mod_lt _ (by omega))]; rfl
theorem lst_hexT (n : Nat) : lst (hexT n) = if n < 16 then [hexCode n] else lst (hexT (n / 16)) ++ [hexCode (n % 16)] := by
  rw [hexT]
  split
  · rename_i h
    rw [lst_item, Nat.mod_eq_of_lt h]
  · rw [lst_app, lst_item]
theorem hexCode_zero {d : Nat} (hd : d < 16) : (hexCode d == 48) = decide (d = 0) := by
  unfold hexCode
  by_cases h : d = 0
  · subst h; rfl
  · have : ∀ d : Nat, d < 16 → d ≠ 0 → ((if d < 10 then 48 + d else 87 + d) == 48) = decide (d = 0) := by decide
    exact this d hd h
theorem lst_loT_zero : ∀ k, (lst (loT k 0)).dropWhile (· == 48) = [] := by
  intro k
  induction k with
  | zero => rw [loT_zero]; rfl
  | succ k ih => rw [loT_low, lst_app, lst_item, List.dropWhile_append, ih]; rfl
theorem hexT_ne (n : Nat) : lst (hexT n) ≠ [] := by
  rw [lst_hexT]
  split <;> simp
theorem drop_loT : ∀ k n, n < 16 ^ k → (lst (loT k n)).dropWhile (· == 48) = if n = 0 then [] else lst (hexT n) := by
  intro k
  induction k with
  | zero =>
    intro n h
    rw [loT_zero, if_pos (by simpa using h)]; rfl
  | succ k ih =>
    intro n h
    rw [loT_low, lst_app, lst_item, List.dropWhile_append, ih (n / 16) (Nat.div_lt_of_lt_mul (by rwa [Nat.pow_succ, Nat.mul_comm] at h))]
    by_cases h0 : n / 16 = 0
    · have hn : n < 16 := by omega
      rw [if_pos h0, lst_hexT, if_pos hn, Nat.mod_eq_of_lt hn]
      simp only [List.isEmpty_nil, if_true, List.dropWhile, hexCode_zero hn]
      by_cases h1 : n = 0
      · simp [h1]
      · simp [h1]
    · have hn : ¬ n < 16 := by omega
      rw [if_neg h0, if_neg (show ¬ n = 0 by omega), lst_hexT n, if_neg hn]
      have := hexT_ne (n / 16)
      cases e : lst (hexT (n / 16)) with
      | nil => exact absurd e this
      | cons a b => rfl
theorem lst_lstrip (x : Str) : lst (Txt.lstripChars x (Str.ofString "0")) = (lst x).dropWhile (· == 48) := by
  unfold Txt.lstripChars
  rw [PyProof.Rows.stripBy_eq]
  have e : (Str.ofString "0").cps.contains = fun c => c == 48 := by
    funext c
    rw [show Str.ofString "0" = ⟨#[48]⟩ from by decide +kernel]
    simp only [List.contains_toArray, List.contains_cons, List.contains_nil, Bool.or_false]
  unfold stripLo stripHi
  rw [if_pos rfl, if_neg (by decide), e]
  show (Builtin.Str.strSub x _ _).cps.toList = _
  rw [StrLaws.strSub_toList]
  have hl : x.length = x.cps.toList.length := by simp [Str.length]
  rw [hl]
  show _ = (x.cps.toList).dropWhile _
  generalize x.cps.toList = l
  have hd : ∀ (p : Nat → Bool) (l : List Nat), l.drop (l.takeWhile p).length = l.dropWhile p := by
    intro p l
    induction l with
    | nil => rfl
    | cons a b ih =>
      by_cases h : p a = true
      · rw [List.takeWhile_cons_of_pos h, List.dropWhile_cons_of_pos h, List.length_cons, List.drop_succ_cons, ih]
      · rw [List.takeWhile_cons_of_neg h, List.dropWhile_cons_of_neg h]; rfl
  rw [hd]
  refine List.take_of_length_le ?_
  have := congrArg List.length (List.takeWhile_append_dropWhile (p := fun c => c == 48) (l := l))
  rw [List.length_append] at this
  omega
/-- the law's figures of 16 are the text's -/
theorem hex_two {n : Nat} (hn : n < 2 ^ 48) : (if (Txt.lstripChars (loT 12 n) (Str.ofString "0")).length = 0 then Str.ofString "0" else Txt.lstripChars (loT 12 n) (Str.ofString "0")) = hexT n := by
  have h := lst_lstrip (loT 12 n)
  rw [drop_loT 12 n (by have : (2 : Nat) ^ 48 = 16 ^ 12 := by decide
                        omega)] at h
  by_cases h0 : n = 0
  · subst h0
    rw [if_pos rfl] at h
    rw [if_pos (by rw [← lst_len, h]; rfl)]
    apply lst_inj
    rw [lst_hexT, if_pos (by omega)]
    decide +kernel
  · rw [if_neg h0] at h
    have h2 : Txt.lstripChars (loT 12 n) (Str.ofString "0") = hexT n := lst_inj h
    rw [h2, if_neg]
    intro h3
    rw [← lst_len] at h3
    exact hexT_ne n (List.length_eq_zero_iff.mp h3)
end Mine
end

section
open PySem PySem.W PySem.Calls PyProof.Rows PySem.Spec PySem.SeqAt
open Mine
set_option hygiene false in
local macro_rules | `(tactic| walk_at "FnAt") => `(tactic| (refine FnAt.go ?_; intro Qf Ef hQf hEf))
set_option hygiene false in
local macro_rules | `(tactic| walk_at "BodyAt") => `(tactic| (refine BodyAt.go ?_; intro Qb hQb))
set_option hygiene false in
local macro_rules | `(tactic| walk_at "execs cons") => `(tactic| (first | refine execsO ?_ | (with_reducible refine execsT ?_; intro tk Qn hQn) | (refine execsF ?_; intro Qn hQn)))
local macro_rules | `(tactic| walk_at "execs nil") => `(tactic| refine wpAny_execs_nil ?_)
local macro_rules | `(tactic| walk_at "subscriptTail") => `(tactic| ((with_reducible show wpAny _ _ (subscriptTail _ _ (Value.ref _) (Value.int _ _)) _ _ _); k_dflt (refine item_tupleL (by first | with_reducible assumption | exact Fr.tup (by assumption) (by assumption)) (by decide) (by decide) (by rfl) (by rfl) ?_)))
set_option hygiene false in
local macro_rules | `(tactic| k_unfold) => `(tactic| (k_end; first | (refine Nx.next (by with_reducible assumption) _ ?_; try clear hQn Qn) | refine Nx.ret (by with_reducible assumption) _ _ ?_ | refine Rt.ret (by with_reducible assumption) _ _ ?_ | refine Er.go (by with_reducible assumption) _ _ ?_ | refine Bd.next (by with_reducible assumption) _ ?_ | refine Bd.ret (by with_reducible assumption) _ _ ?_ | refine Bd.brk (by with_reducible assumption) _ ?_ | refine Bd.cont (by with_reducible assumption) _ ?_ | refine Rt.next (by with_reducible assumption) _ ?_ | refine Nx.brk (by with_reducible assumption) _ ?_ | refine Nx.cont (by with_reducible assumption) _ ?_))
local macro_rules | `(tactic| passes_own) => `(tactic| exact Er.own (by with_reducible assumption))
local macro_rules | `(tactic| walk_at "mine enter") => `(tactic| ((case X => exact Gr.K (by assumption)); (case hl => exact (Gr.T (by assumption)).nolimit); (case ho => k_is); (case hcd => k_is); (case hroom => exact Rm.room (by assumption)); (case hb => exact BindsTo.of_eq rfl); (case hloc => exact locs rfl); (case hcell => decide); (case hco => exact rfl); (case hgen => exact rfl); (case hk => exact rfl)))
local macro_rules | `(tactic| walk_at "mine enterM") => `(tactic| ((case ho => k_is); (case hcd => k_is); (case hroom => exact Rm.room (by assumption)); (case hb => exact BindsTo.of_eq rfl); (case hloc => exact locs rfl); (case hcell => decide); (case hco => exact rfl); (case hgen => exact rfl); (case hk => exact rfl)))
local macro_rules | `(tactic| walk_at "exec While Compare cons nil") => `(tactic| refine Stop.out ?_)
local macro_rules | `(tactic| walk_at "exec For Name Call cons nil") => `(tactic| refine Stop.out ?_)
local macro_rules | `(tactic| walk_at "exec For Tuple Call cons nil") => `(tactic| refine Stop.out ?_)
local macro_rules | `(tactic| walk_at "exec For Name Name cons nil") => `(tactic| refine Stop.out ?_)
local macro_rules | `(tactic| walk_at "exec For Name List cons nil") => `(tactic| refine Stop.out ?_)
local macro_rules | `(tactic| walk_at "exec For Tuple Tuple cons nil") => `(tactic| refine Stop.out ?_)
local macro_rules | `(tactic| walk_at "exec For Name Tuple cons nil") => `(tactic| refine Stop.out ?_)
local macro_rules | `(tactic| walk_at "callWith ref") => `(tactic| k_dflt (first | (refine' callWith_K ?k1 ?k2 ?_; (case k1 => k_asm); (case k2 => k_is); k_whole) | (refine' callWith_K0 ?k1 ?k2 ?_; (case k1 => exact Frag.In.keeps (by with_reducible assumption) (Fr.keep (by with_reducible assumption))); (case k2 => k_is); k_whole)))
local macro_rules | `(tactic| walk_at "eval Name") => `(tactic| ((with_reducible show wpAny _ _ (eval (Expr.Name _ _) (envOf _ _ _ _ _)) _ _ _); k_dflt (first | (refine' nameX_L ?F ?v ?_ ?a ?b; (case F => k_asm); (case a => rfl); (case b => rfl); (case v => rfl); k_whole) | (refine' ld ?k1 ?k2 ?_; (case k1 => assumption); (case k2 => assumption)) | (refine' nameX_K ?F ?X ?T ?e ?_ ?a ?b; (case F => k_asm); (case X => k_asm); (case T => k_asm); (case a => rfl); (case b => rfl); (case e => k_is); k_whole) | (refine' nameX_B ?F ?X ?T ?e ?v ?n ?_ ?a ?b; (case F => k_asm); (case X => k_asm); (case T => k_asm); (case a => rfl); (case b => rfl); (case e => k_is); (case v => boot_fast); (case n => decide); k_whole))))

section
open PySem PySem.W PySem.Calls PyProof.Rows PySem.Spec PySem.SeqAt
set_option maxHeartbeats 2000000
namespace Mine

section
variable {w : World} {mean : ExcName → Option Value} {mg mb : Str → Option Value} {dp un : Nat} {fr : Option (List Env)} {gd : Option (List Code)} {s : Shared} {Q E : Value → Shared → Prop}
theorem hex_text_t {n : Nat} {t : Tok}
    (G : Gr w mean mg mb s.heap) (R : Rm 1 dp un) (hn : n < 2 ^ 64) 
    (hQ : ∀ h' tk t', Ext s.heap h' → (hexT n).length ≤ 16 → Q (.str (hexT n) t') { s with heap := h', toks := tk }) :
    wpAny (model PR w) (Ar dp fr gd un) (call (.ref 117) [.int n t] []) Q E s := by
  refine' enterB [(Str.ofString "number", .int n t)] ?X ?hl ?ho ?hcd ?hroom ?hb ?hloc ?hcell ?hco ?hgen ?hk ?_
  walk_at "mine enter"
  intro L h₁ tk F N hL
  have KX := G.K
  have T := G.T
  have hlen : (hexT n).length ≤ 16 := hexT_len 15 n (by omega)
  k_steps
  refine Stop.go ?_
  refine while_inv (fun k s' => ∃ h' tk m' t1 t2 f, s' = { s with heap := h', toks := tk } ∧ Fr s.heap L h' m' ∧ News s.heap L h' (dif s.heap s.heap) ∧ m' (Str.ofString "number") = some (.int k t1) ∧ m' (Str.ofString "found") = some (.str f t2) ∧ hexT n = hexPre k ++ f) (by passes_own) ?_ n _ ⟨_, _, _, _, _, _, rfl, by assumption, by assumption, rfl, rfl, hexT_eq n⟩
  · rintro k s' ⟨h', tk, m', t1, t2, f, rfl, F', N', e1, e2, e4⟩
    have hf : f.length ≤ 16 := by rw [e4, Str.length_append] at hlen; omega
    k_steps
    refine Br.split (fun hb => ?_) (fun hb => ?_)
    · have hk : 15 < k := by have := of_decide_eq_true hb; omega
      have e5 : ((k : Nat) : Int).fdiv 16 = ((k / 16 : Nat) : Int) := by rw [Int.fdiv_eq_ediv_of_nonneg _ (by omega)]; rfl
      k_steps
      refine Stop.go ⟨k / 16, by omega, _, _, _, _, _, _, rfl, by assumption, by assumption, congrArg (fun i => some (Value.int i _)) e5, rfl, ?_⟩
      · rw [e4, hexPre_next hk, e5, Str.append_assoc]
    · have hk : ¬ 15 < k := by have := of_decide_eq_false hb; omega
      k_steps
      rw [hexPre_last hk, Str.empty_append] at e4
      rw [← e4]
      exact hQ _ _ _ (Fr.keep (by assumption)) hlen
end
end Mine
end

section
open PySem PySem.W PySem.Calls PyProof.Rows PySem.Spec PySem.SeqAt
set_option maxHeartbeats 2000000
namespace Mine

section
variable {w : World} {mean : ExcName → Option Value} {mg mb : Str → Option Value} {dp un : Nat} {fr : Option (List Env)} {gd : Option (List Code)} {s : Shared} {Q E : Value → Shared → Prop}
theorem law_hex_t {n : Nat} {t : Tok}
    (G : Gr w mean mg mb s.heap) (R : Rm 1 dp un) (hn : n < 2 ^ 48) 
    (hQ : ∀ h' tk t', Ext s.heap h' → (hexT n).length ≤ 16 → Q (.str (hexT n) t') { s with heap := h', toks := tk }) :
    wpAny (model PR w) (Ar dp fr gd un) (call (.ref 215) [.int n t] []) Q E s := by
  refine' enterB [(Str.ofString "number", .int n t)] ?X ?hl ?ho ?hcd ?hroom ?hb ?hloc ?hcell ?hco ?hgen ?hk ?_
  walk_at "mine enter"
  intro L h₁ tk F N hL
  have KX := G.K
  have T := G.T
  k_steps
  refine Stop.go (for_S ?_)
  k_steps
  refine iter_range (n := 12) [] (fun i m ex B => ex = [] ∧ ∃ t1 t2 t3, m (Str.ofString "number") = some (.int (n / 16 ^ i : Nat) t1) ∧ m (Str.ofString "found") = some (.str (loT i n) t2) ∧ m (Str.ofString "signs") = some (.str HEX t3)) rfl (by assumption) (by decide) (by decide) (by assumption) (Ext.refl _) ⟨hL, by simp⟩ (ex₀ := []) (by assumption) ⟨rfl, _, _, _, (by rw [Nat.pow_zero, Nat.div_one]; rfl), (by rw [loT_zero]; rfl), rfl⟩ rfl rfl ?_ ?_
  · intro I i v m ex B h tk o hi hP hJ F' hBB ho N' hx
    obtain ⟨t0, rfl⟩ := hP
    obtain ⟨rfl, t1, t2, t3, e1, e2, e3⟩ := hJ
    have hlen := loT_len n i
    k_steps
    have e5 : ((n / 16 ^ i : Nat) : Int).fdiv 16 = ((n / 16 ^ (i + 1) : Nat) : Int) := by
      rw [Int.fdiv_eq_ediv_of_nonneg _ (by omega), Nat.pow_succ, ← Nat.div_div_eq_div_mul]; rfl
    refine Stop.go ⟨_, _, _, [], B, rfl, by assumption, hBB, ho, fun p hp => News.ofMem (by assumption) (.tail _ hp), hx, rfl, ?_⟩
    exact ⟨_, _, _, congrArg (fun i => some (Value.int i _)) e5, by rw [loT_succ]; rfl, e3⟩
  · intro h tk m ex B hJ F' hBB ho N'
    obtain ⟨rfl, t1, t2, t3, e1, e2, e3⟩ := hJ
    have hlen := loT_len n 12
    k_steps
    · rename_i hz
      have hlen16 : (hexT n).length ≤ 16 := hexT_len 15 n (by omega)
      have h3 := hex_two hn
      rw [if_neg (by omega)] at h3
      rw [h3]
      exact hQ _ _ _ F'.keep hlen16
    · rename_i hz
      have hlen16 : (hexT n).length ≤ 16 := hexT_len 15 n (by omega)
      have h3 := hex_two hn
      rw [if_pos (by omega)] at h3
      rw [h3]
      exact hQ _ _ _ F'.keep hlen16
end
end Mine
end

section
open PySem PySem.W PySem.Calls PyProof.Rows PySem.Spec
namespace Mine
inductive Wish where
  | mask (v m : Nat)
  | range (a b : Nat)
  deriving DecidableEq
def decT (n : Nat) : Str := Str.ofString (toString (n : Int))
@[reducible] def wishD : Wish → PyData
  | .mask v m => .tuple [.str (Str.ofString "mask"), .int v, .int m]
  | .range a b => .tuple [.str (Str.ofString "range"), .int a, .int b]
def wishT : Wish → Str
  | .mask v m => hexT v ++ Str.ofString "/" ++ hexT m
  | .range a b => decT a ++ Str.ofString "-" ++ decT b
def Wish.lo : Wish → Nat | .mask v _ => v | .range a _ => a
def Wish.hi : Wish → Nat | .mask _ m => m | .range _ b => b
/-- a wish's numbers are of 48 bits -/
def Wish.small (W : Wish) : Prop := W.lo < 2 ^ 48 ∧ W.hi < 2 ^ 48

theorem readsAll_cons_inv {h : Heap} {vs : List Value} {d : PyData} {ds : List PyData} {as : List Addr} (r : ReadsAll h vs (d :: ds) as) : ∃ v vs' bs cs, vs = v :: vs' ∧ Reads h v d bs ∧ ReadsAll h vs' ds cs ∧ as = bs ++ cs := by
  cases r with
  | cons h1 h2 => exact ⟨_, _, _, _, rfl, h1, h2, rfl⟩
theorem readsAll_nil_inv {h : Heap} {vs : List Value} {as : List Addr} (r : ReadsAll h vs [] as) : vs = [] ∧ as = [] := by
  cases r; exact ⟨rfl, rfl⟩
theorem reads_str_inv {h : Heap} {v : Value} {x : Str} {as : List Addr} (r : Reads h v (.str x) as) : ∃ t, v = .str x t ∧ as = [] := by
  cases r; exact ⟨_, rfl, rfl⟩
theorem reads_int_inv {h : Heap} {v : Value} {x : Int} {as : List Addr} (r : Reads h v (.int x) as) : ∃ t, v = .int x t ∧ as = [] := by
  cases r; exact ⟨_, rfl, rfl⟩
theorem reads_tuple_inv {h : Heap} {v : Value} {xs : List PyData} {as : List Addr} (r : Reads h v (.tuple xs) as) : ∃ a vs, v = .ref a ∧ IsTup h a (List.toArray vs) ∧ ReadsAll h vs xs as := by
  cases r with
  | tuple h1 h2 h3 h4 => rename_i a o vs n; exact ⟨a, vs.toList, rfl, ⟨o, h1, h2, n, by simpa using h3⟩, h4⟩
theorem reads_list_inv' {h : Heap} {v : Value} {xs : List PyData} {as : List Addr} (r : Reads h v (.list xs) as) : ∃ a vs bs, v = .ref a ∧ h.IsList a (List.toArray vs) ∧ ReadsAll h vs xs bs ∧ as = a :: bs := by
  cases r with
  | list h1 h2 h3 h4 => rename_i a o vs n bs; exact ⟨a, vs.toList, bs, rfl, ⟨o, h1, h2, n, by simpa using h3⟩, h4, rfl⟩

theorem wish_open {h : Heap} {v : Value} {W : Wish} {as : List Addr} (r : Reads h v (wishD W) as) :
    ∃ a t1 t2 t3, v = .ref a ∧ as = [] ∧ match W with
      | .mask x m => IsTup h a #[.str (Str.ofString "mask") t1, .int x t2, .int m t3]
      | .range x m => IsTup h a #[.str (Str.ofString "range") t1, .int x t2, .int m t3] := by
  cases W <;> (
    obtain ⟨a, vs, rfl, hT, ra0⟩ := reads_tuple_inv r
    obtain ⟨v1, vs1, b1, c1, rfl, r1, ra1, rfl⟩ := readsAll_cons_inv ra0
    obtain ⟨v2, vs2, b2, c2, rfl, r2, ra2, rfl⟩ := readsAll_cons_inv ra1
    obtain ⟨v3, vs3, b3, c3, rfl, r3, ra3, rfl⟩ := readsAll_cons_inv ra2
    obtain ⟨rfl, rfl⟩ := readsAll_nil_inv ra3
    obtain ⟨t1, rfl, rfl⟩ := reads_str_inv r1
    obtain ⟨t2, rfl, rfl⟩ := reads_int_inv r2
    obtain ⟨t3, rfl, rfl⟩ := reads_int_inv r3
    exact ⟨a, t1, t2, t3, rfl, rfl, hT⟩)
end Mine
end

local macro_rules | `(tactic| walk_at "call ref") => `(tactic| (refine' hex_text_t ?G ?R ?hn ?_; (case G => exact Gr.keeps (by assumption) (Fr.keep (by assumption))); (case R => (refine' Rm.sub ?ra ?rb; (case ra => assumption); (case rb => omega))); (case hn => first | assumption | omega); intro h' tk' t' hext hlen'; (have kF := Fr.ext (by assumption) hext); (have kN := News.ext (by assumption) hext); (try k_sweep)))

local macro_rules | `(tactic| walk_at "call ref") => `(tactic| (refine' law_hex_t ?G ?R ?hn ?_; (case G => exact Gr.keeps (by assumption) (Fr.keep (by assumption))); (case R => (refine' Rm.sub ?ra ?rb; (case ra => assumption); (case rb => omega))); (case hn => first | assumption | omega); intro h' tk' t' hext hlen'; (have kF := Fr.ext (by assumption) hext); (have kN := News.ext (by assumption) hext); (try k_sweep)))

section
open PySem PySem.W PySem.Calls PyProof.Rows PySem.Spec PySem.SeqAt
set_option maxHeartbeats 2000000
namespace Mine

section
variable {w : World} {mean : ExcName → Option Value} {mg mb : Str → Option Value} {dp un : Nat} {fr : Option (List Env)} {gd : Option (List Code)} {s : Shared} {Q E : Value → Shared → Prop}
theorem wish_text_t {W : Wish} {v : Value} {as : List Addr}
    (G : Gr w mean mg mb s.heap) (R : Rm 2 dp un) (hv : Reads s.heap v (wishD W) as) (hW : W.small)
    (hQ : ∀ h' tk t', Ext s.heap h' → Q (.str (wishT W) t') { s with heap := h', toks := tk }) :
    wpAny (model PR w) (Ar dp fr gd un) (call (.ref 124) [v] []) Q E s := by
  obtain ⟨a, t1, t2, t3, rfl, rfl, hT⟩ := wish_open hv
  refine' enterB [(Str.ofString "wish", .ref a)] ?X ?hl ?ho ?hcd ?hroom ?hb ?hloc ?hcell ?hco ?hgen ?hk ?_
  walk_at "mine enter"
  intro L h₁ tk F N hL
  have KX := G.K
  have T := G.T
  obtain ⟨w1, w2⟩ := hW
  cases W with
  | mask x m =>
    dsimp only [Wish.lo, Wish.hi] at w1 w2 hT
    k_steps
    exact hQ _ _ _ (Fr.keep (by assumption))
  | range x m =>
    dsimp only [Wish.lo, Wish.hi] at w1 w2 hT
    k_steps
    exact hQ _ _ _ (Fr.keep (by assumption))
end
end Mine
end

section
open PySem PySem.W PySem.Calls PyProof.Rows PySem.Spec PySem.SeqAt
namespace Mine
section
variable {prog : Program} {w : World} {A : Around} {E : Value → Shared → Prop} {s : Shared} {c x : Value} {xs : List PyData} {d : PyData} {as bs : List Addr} {Q : Value → Shared → Prop}
theorem in_tup (rc : Reads s.heap c (.tuple xs) as) (rx : Reads s.heap x d bs) (hc : shaped (PyData.tuple xs) = true) (hd : shaped d = true) (hu : A.units + 65 < cLine) (h : Q (.bool (xs.any fun y => PyData.eqv y d)) s) :
    wpAny (model prog w) A (compareOp .In x c) Q E s := in_tuple_reads rc rx (canLay_of_shaped hc) (canLay_of_shaped hd) (room_in_shaped hd hu) h
theorem notin_tup (rc : Reads s.heap c (.tuple xs) as) (rx : Reads s.heap x d bs) (hc : shaped (PyData.tuple xs) = true) (hd : shaped d = true) (hu : A.units + 65 < cLine) (h : Q (.bool (!xs.any fun y => PyData.eqv y d)) s) :
    wpAny (model prog w) A (compareOp .NotIn x c) Q E s := notIn_tuple_reads rc rx (canLay_of_shaped hc) (canLay_of_shaped hd) (room_in_shaped hd hu) h
theorem eq_any {y : Value} {d' : PyData} (rx : Reads s.heap x d as) (ry : Reads s.heap y d' bs) (hd : shaped d = true) (hd' : shaped d' = true) (hu : A.units + 65 < cLine) (h : Q (.bool (PyData.eqv d d')) s) :
    wpAny (model prog w) A (compareOp .Eq x y) Q E s := compareEq_shaped rx ry hd hd' (by omega) h
theorem ne_any {y : Value} {d' : PyData} (rx : Reads s.heap x d as) (ry : Reads s.heap y d' bs) (hd : shaped d = true) (hd' : shaped d' = true) (hu : A.units + 65 < cLine) (h : Q (.bool (!PyData.eqv d d')) s) :
    wpAny (model prog w) A (compareOp .NotEq x y) Q E s := compareNe_shaped rx ry hd hd' (by omega) h
theorem in_tupB (b : Bool) (rc : Reads s.heap c (.tuple xs) as) (rx : Reads s.heap x d bs) (hc : shaped (PyData.tuple xs) = true) (hd : shaped d = true) (hu : A.units + 65 < cLine) (hb : (xs.any fun y => PyData.eqv y d) = b) (h : Q (.bool b) s) :
    wpAny (model prog w) A (compareOp .In x c) Q E s := in_tup rc rx hc hd hu (hb ▸ h)
theorem notin_tupB (b : Bool) (rc : Reads s.heap c (.tuple xs) as) (rx : Reads s.heap x d bs) (hc : shaped (PyData.tuple xs) = true) (hd : shaped d = true) (hu : A.units + 65 < cLine) (hb : (!xs.any fun y => PyData.eqv y d) = b) (h : Q (.bool b) s) :
    wpAny (model prog w) A (compareOp .NotIn x c) Q E s := notin_tup rc rx hc hd hu (hb ▸ h)
theorem eq_anyB (b : Bool) {y : Value} {d' : PyData} (rx : Reads s.heap x d as) (ry : Reads s.heap y d' bs) (hd : shaped d = true) (hd' : shaped d' = true) (hu : A.units + 65 < cLine) (hb : PyData.eqv d d' = b) (h : Q (.bool b) s) :
    wpAny (model prog w) A (compareOp .Eq x y) Q E s := eq_any rx ry hd hd' hu (hb ▸ h)
theorem ne_anyB (b : Bool) {y : Value} {d' : PyData} (rx : Reads s.heap x d as) (ry : Reads s.heap y d' bs) (hd : shaped d = true) (hd' : shaped d' = true) (hu : A.units + 65 < cLine) (hb : (!PyData.eqv d d') = b) (h : Q (.bool b) s) :
    wpAny (model prog w) A (compareOp .NotEq x y) Q E s := ne_any rx ry hd hd' hu (hb ▸ h)
end

inductive Act where
  | let_
  | drop
  | mark (n : Nat)
  deriving DecidableEq
@[reducible] def actD : Act → PyData
  | .let_ => .str (Str.ofString "let")
  | .drop => .str (Str.ofString "drop")
  | .mark n => .tuple [.str (Str.ofString "mark"), .int n]
def actT : Act → Str
  | .let_ => Str.ofString "let"
  | .drop => Str.ofString "drop"
  | .mark n => Str.ofString "mark " ++ decT n
theorem mark_open {h : Heap} {v : Value} {n : Nat} {as : List Addr} (r : Reads h v (actD (.mark n)) as) : ∃ a t1 t2, v = .ref a ∧ as = [] ∧ IsTup h a #[.str (Str.ofString "mark") t1, .int n t2] := by
  obtain ⟨a, vs, rfl, hT, ra0⟩ := reads_tuple_inv r
  obtain ⟨v1, vs1, b1, c1, rfl, r1, ra1, rfl⟩ := readsAll_cons_inv ra0
  obtain ⟨v2, vs2, b2, c2, rfl, r2, ra2, rfl⟩ := readsAll_cons_inv ra1
  obtain ⟨rfl, rfl⟩ := readsAll_nil_inv ra2
  obtain ⟨t1, rfl, rfl⟩ := reads_str_inv r1
  obtain ⟨t2, rfl, rfl⟩ := reads_int_inv r2
  exact ⟨a, t1, t2, rfl, rfl, hT⟩
end Mine
end

local macro_rules | `(tactic| walk_at "mine reads") => `(tactic| first
  | exact Reads.int _ _ | exact Reads.str _ _ | exact Reads.bool _ | exact Reads.none | assumption
  | (refine' Reads.keeps (Fr.keep ?rF) ?rr; (case rF => assumption); (case rr => assumption))
  | (refine' reads_tuple_at ?rh ?rc ?rd ?ra; (case rh => (refine' News.get ?rN ?rm; (case rN => assumption); (case rm => k_mem))); (case rc => exact rfl); (case rd => exact rfl); (case ra => walk_at "mine readsall"))
  | (refine' reads_list_at ?rh ?rc ?rd ?ra; (case rh => (refine' News.get ?rN ?rm; (case rN => assumption); (case rm => k_mem))); (case rc => exact rfl); (case rd => exact rfl); (case ra => walk_at "mine readsall")))
local macro_rules | `(tactic| walk_at "mine readsall") => `(tactic| first
  | exact ReadsAll.nil
  | assumption
  | (refine' ReadsAll.cons ?ra ?rb; (case ra => walk_at "mine reads"); (case rb => walk_at "mine readsall")))
local macro_rules | `(tactic| walk_at "mine shaped") => `(tactic| first | assumption | kernel_rfl!)
local macro_rules | `(tactic| walk_at "mine tup") => `(tactic| ((case rc => walk_at "mine reads"); (case rx => walk_at "mine reads"); (case hc => walk_at "mine shaped"); (case hd => walk_at "mine shaped"); (case hu => exact Rm.u65 (by assumption))))
local macro_rules | `(tactic| walk_at "compareOp In") => `(tactic| first | (refine' in_tupB true ?rc ?rx ?hc ?hd ?hu ?hb ?_; walk_at "mine tup"; (case hb => kernel_rfl!)) | (refine' in_tupB false ?rc ?rx ?hc ?hd ?hu ?hb ?_; walk_at "mine tup"; (case hb => kernel_rfl!)) | (refine' in_tup ?rc ?rx ?hc ?hd ?hu ?_; walk_at "mine tup"))
local macro_rules | `(tactic| walk_at "compareOp NotIn") => `(tactic| first | (refine' notin_tupB true ?rc ?rx ?hc ?hd ?hu ?hb ?_; walk_at "mine tup"; (case hb => kernel_rfl!)) | (refine' notin_tupB false ?rc ?rx ?hc ?hd ?hu ?hb ?_; walk_at "mine tup"; (case hb => kernel_rfl!)) | (refine' notin_tup ?rc ?rx ?hc ?hd ?hu ?_; walk_at "mine tup"))

section
open PySem PySem.W PySem.Calls PyProof.Rows PySem.Spec PySem.SeqAt
set_option maxHeartbeats 2000000
namespace Mine

section
variable {w : World} {mean : ExcName → Option Value} {mg mb : Str → Option Value} {dp un : Nat} {fr : Option (List Env)} {gd : Option (List Code)} {s : Shared} {Q E : Value → Shared → Prop}
theorem law_text_t {W : Wish} {v : Value} {as : List Addr}
    (G : Gr w mean mg mb s.heap) (R : Rm 2 dp un) (hv : Reads s.heap v (wishD W) as) (hW : W.small)
    (hQ : ∀ h' tk t', Ext s.heap h' → Q (.str (wishT W) t') { s with heap := h', toks := tk }) :
    wpAny (model PR w) (Ar dp fr gd un) (call (.ref 222) [v] []) Q E s := by
  obtain ⟨a, t1, t2, t3, rfl, rfl, hT⟩ := wish_open hv
  refine' enterB [(Str.ofString "wish", .ref a)] ?X ?hl ?ho ?hcd ?hroom ?hb ?hloc ?hcell ?hco ?hgen ?hk ?_
  walk_at "mine enter"
  intro L h₁ tk F N hL
  have KX := G.K
  have T := G.T
  obtain ⟨w1, w2⟩ := hW
  cases W with
  | mask x m =>
    dsimp only [Wish.lo, Wish.hi] at w1 w2 hT
    k_steps
    exact hQ _ _ _ (Fr.keep (by assumption))
  | range x m =>
    dsimp only [Wish.lo, Wish.hi] at w1 w2 hT
    k_steps
    exact hQ _ _ _ (Fr.keep (by assumption))

theorem action_text_t {a : Act} {v : Value} {as : List Addr}
    (G : Gr w mean mg mb s.heap) (R : Rm 2 dp un) (hv : Reads s.heap v (actD a) as) (ha : ∀ n, a = .mark n → n < 8)
    (hQ : ∀ h' tk t', Ext s.heap h' → Q (.str (actT a) t') { s with heap := h', toks := tk }) :
    wpAny (model PR w) (Ar dp fr gd un) (call (.ref 131) [v] []) Q E s := by
  refine' enterB [(Str.ofString "action", v)] ?X ?hl ?ho ?hcd ?hroom ?hb ?hloc ?hcell ?hco ?hgen ?hk ?_
  walk_at "mine enter"
  intro L h₁ tk F N hL
  have KX := G.K
  have T := G.T
  cases a with
  | let_ =>
    k_steps
    obtain ⟨t1, rfl, rfl⟩ := reads_str_inv hv
    exact hQ _ _ _ (Fr.keep (by assumption))
  | drop =>
    k_steps
    obtain ⟨t1, rfl, rfl⟩ := reads_str_inv hv
    exact hQ _ _ _ (Fr.keep (by assumption))
  | mark n =>
    have hn := ha n rfl
    obtain ⟨a, t1, t2, rfl, rfl, hT⟩ := mark_open hv
    k_steps
    exact hQ _ _ _ (Fr.keep (by assumption))
end
end Mine
end

section
open PySem PySem.W PySem.Calls PyProof.Rows PySem.Spec PySem.SeqAt
namespace Mine
/-- all but what stands at S is kept -/
def Off (S : List Addr) (h h' : Heap) : Prop := ∀ b o, b ∉ S → h.get? b = some o → h'.get? b = some o
theorem Off.refl (S : List Addr) (h : Heap) : Off S h h := fun _ _ _ e => e
theorem Off.trans {S : List Addr} {h h' h'' : Heap} (x : Off S h h') (y : Off S h' h'') : Off S h h'' := fun b o n e => y b o n (x b o n e)
theorem Ext.off {S : List Addr} {h h' : Heap} (x : Ext h h') : Off S h h' := fun b o _ e => x b o e
/-- the well of draws -/
def IsSrc (o : Obj) : Prop := ∃ (a b : Int) (t1 t2 : Tok) (c : Nat), o = W.listOf #[.int a t1, .int b t2] c ∧ 0 ≤ a ∧ 0 ≤ b ∧ b < 2 ^ 31
def SrcAt (h : Heap) (src : Addr) : Prop := ∃ o, h.get? src = some o ∧ IsSrc o
theorem src_step {h₀ h h' : Heap} {L src : Addr} {m : Str → Option Value} {news : List (Addr × Obj)} {u : Obj → List (Addr × Obj)} {o : Obj} (F : Fr h₀ L h m) (N : News h₀ L h news) (U : UpdF src o news u) (k : Off [src] h h') (hs : SrcAt h' src) :
    ∃ o', IsSrc o' ∧ Fr h₀ L h' m ∧ News h₀ L h' (u o') := by
  obtain ⟨own, rest, rfl, hg, h1, h2⟩ := U.split
  obtain ⟨o', ho', hi⟩ := hs
  have z := N (src, o) (List.mem_append_right _ (.head _))
  have ne : ∀ b, b ≠ src → b ∉ [src] := fun b hb hm => hb (List.mem_singleton.mp hm)
  refine ⟨o', hi, ⟨F.ns.at' fun o e => k _ o (ne _ (Ne.symm z.2.1)) e, fun b ob e => k b ob (ne b fun q => ?_) (F.keep b ob e), F.above⟩, fun p hp => ?_⟩
  · have := z.2.2
    rw [q] at e
    rw [e] at this; cases this
  · rw [hg o'] at hp
    rcases List.mem_append.mp hp with q | q
    · have P := N p (List.mem_append_left _ q); exact ⟨k _ _ (ne _ (h1 p q)) P.1, P.2⟩
    · rcases List.mem_cons.mp q with rfl | q
      · exact ⟨ho', z.2⟩
      · have P := N p (List.mem_append_right _ (.tail _ q)); exact ⟨k _ _ (ne _ (h2 p q)) P.1, P.2⟩
end Mine
namespace Mine
section
variable {w : World} {mean : ExcName → Option Value} {mg mb : Str → Option Value} {A : Around} {s : Shared} {Q E : Value → Shared → Prop}
/-- a def is entered; what stands at mu may change -/
theorem enterM (mu : List Addr) (ex : List (Addr × Obj)) {Bz : Heap} {name qual : Str} {params : Arguments} {body : List Stmt} {scope : Scope} {dV kV doc pm cdv ct oc : Value} {an od : Option Addr} {osl : Array (Option Value)} {f : Addr} {pos : List Value} {kw : List (Str × Value)} (binds : List (Str × Value))
    (G : Gr w mean mg mb Bz) (hBz : Ext Bz s.heap) (hmu : ∀ a ∈ mu, Bz.get? a = none) (hex : ∀ p ∈ ex, s.heap.get? p.1 = some p.2 ∧ p.1 ∈ mu)
    (ho : (hd.heap_1 w.params).lookup f = some ⟨oc, od, .func (fnOf name qual params body scope dV kV doc pm an cdv ct), osl⟩) (hcd : codeIn (hd.heap_1 w.params) cdv qual = true) (hroom : A.depth < recursionLimit)
    (hbind : BindsTo s (fnOf name qual params body scope dV kV doc pm an cdv ct) ⟨pos, kw⟩ binds) (hloc : ∀ y ∈ binds, scope.names.lookup y.1 = some .local)
    (hcell : ∀ x ∈ scope.names, x.2 ≠ .cell)
    (hco : scope.isCoroutine = false) (hgen : scope.isGenerator = false) (hk : scope.kind = .function)
    (h : ∀ g L h₁ tk, Gr w mean mg mb g → Ext Bz g → Off mu s.heap g → Ext g s.heap → (∀ a ∈ mu, g.get? a = none) → Fr g L h₁ (fun y => binds.reverse.lookup y) → News g L h₁ (ex ++ dif g g) → g.get? L = none →
      FnAt (model PR w) (A.deeper (envOf qual scope L f cdv)) (envOf qual scope L f cdv) body Q E { s with heap := h₁, toks := tk }) :
    wpAny (model PR w) A (call (.ref f) pos kw) Q E s := by
  have G' := G.keeps hBz
  refine wpAny_call ?_
  refine codeAny_call_def (fd := fnOf name qual params body scope dV kV doc pm an cdv ct) (body := body) (binds := binds) hroom (G'.K _ _ ho) rfl G'.T.nolimit (codeRec_of G'.K hcd) rfl hbind hcell hloc (fun h₁ hns hk₁ => ?_) hco hgen hk
  have hg : Ext Bz (hideAll s.heap mu) := fun b o e => hideAll_get _ (hBz _ _ e) fun hm => by rw [hmu _ hm] at e; cases e
  have hsz : (hideAll s.heap mu).objs.size = s.heap.objs.size := hideAll_size _ _
  refine (h (hideAll s.heap mu) s.heap.objs.size h₁ _ (G.keeps hg) hg (fun b o n e => hideAll_get _ e n) (ext_hide _) (fun a ha => hide_none ha) ⟨hns, fun b o e => hk₁ b o (of_hideAll _ e), Nat.le_of_eq hsz⟩ ?_ (Heap.get?_none_of_le (Nat.le_of_eq hsz))).out
  rw [dif_self, List.append_nil]
  exact fun p hp => ⟨hk₁ _ _ (hex p hp).1, Nat.ne_of_lt (Heap.lt_size (hex p hp).1), hide_none (hex p hp).2⟩
end
end Mine
namespace Mine
section
variable {prog : Program} {w : World} {A : Around} {s : Shared} {Q : Value → Shared → Prop} {E : Value → Shared → Prop}
theorem item_lst {value slice : PySem.Expr} {l : Addr} {vs : List Value} {k : Int} {u : Tok} (hL : s.heap.IsList l vs.toArray) (h0 : 0 ≤ k) (hk : k < vs.length) (hlen : vs.length < 2 ^ 62) (h : ∀ v, vs[k.toNat]? = some v → Q v s)
    (hs : subscripted slice false (.ref l) (.int k u) = operate [.ref l, .int k u] (getItem (.ref l) (.int k u)) := by with_unfolding_all rfl) :
    wpAny (model prog w) A (subscriptTail value slice (.ref l) (.int k u)) Q E s := by
  have hx : vs[k.toNat]? = some (vs[k.toNat]'(by omega)) := List.getElem?_eq_getElem _
  exact tail_any hL.typeIs slot_list_getitem.lookup (wpAny_getItem_list hL h0 (by omega) (by simpa using hx) (h _ hx)) hs
end
end Mine
namespace Mine
/-- a wish that its field can bear -/
def Wish.fits (bits : Nat) : Wish → Prop
  | .mask v m => v &&& m = v ∧ m < 2 ^ bits
  | .range a b => a ≤ b ∧ b < 2 ^ bits
end Mine
namespace Mine
theorem and_nat (x y : Nat) : Builtin.bitAnd (x : Int) (y : Int) = ((x &&& y : Nat) : Int) := by
  rw [PyProof.Rows.bitAnd_pp (by omega) (by omega), Int.toNat_natCast, Int.toNat_natCast]
theorem min_nat (x y : Nat) : (if (y : Int) < (x : Int) then (y : Int) else (x : Int)) = ((min x y : Nat) : Int) := by split <;> omega
theorem max_nat (x y : Nat) : (if (y : Int) > (x : Int) then (y : Int) else (x : Int)) = ((max x y : Nat) : Int) := by split <;> omega
theorem reads_mask {h : Heap} {D : Addr} {t1 t2 t3 : Tok} {x y : Int} {v m n : Nat} (e : h.get? D = some { cls := .type "tuple", data := .seq #[.str (Str.ofString "mask") t1, .int x t2, .int y t3] n }) (hx : x = v) (hy : y = m) : Reads h (.ref D) (wishD (.mask v m)) [] := by
  subst hx hy
  exact reads_tuple_at e rfl rfl (.cons (.str _ _) (.cons (.int _ _) (.cons (.int _ _) .nil)))
theorem reads_range {h : Heap} {D : Addr} {t1 t2 t3 : Tok} {x y : Int} {v m n : Nat} (e : h.get? D = some { cls := .type "tuple", data := .seq #[.str (Str.ofString "range") t1, .int x t2, .int y t3] n }) (hx : x = v) (hy : y = m) : Reads h (.ref D) (wishD (.range v m)) [] := by
  subst hx hy
  exact reads_tuple_at e rfl rfl (.cons (.str _ _) (.cons (.int _ _) (.cons (.int _ _) .nil)))
theorem reads_mask' {h : Heap} {D : Addr} {t1 t2 t3 : Tok} {x y n : Nat} (e : h.get? D = some { cls := .type "tuple", data := .seq #[.str (Str.ofString "mask") t1, .int (Builtin.bitAnd (x : Int) (y : Int)) t2, .int y t3] n }) : Reads h (.ref D) (wishD (.mask (x &&& y) y)) [] := reads_mask e (and_nat _ _) rfl
theorem reads_range' {h : Heap} {D : Addr} {t1 t2 t3 : Tok} {x y n : Nat} (e : h.get? D = some { cls := .type "tuple", data := .seq #[.str (Str.ofString "range") t1, .int (if (y : Int) < (x : Int) then (y : Int) else (x : Int)) t2, .int (if (y : Int) > (x : Int) then (y : Int) else (x : Int)) t3] n }) : Reads h (.ref D) (wishD (.range (min x y) (max x y))) [] := reads_range e (min_nat _ _) (max_nat _ _)
theorem and_and_self (x y : Nat) : (x &&& y) &&& y = x &&& y := by
  apply Nat.eq_of_testBit_eq
  intro i
  simp only [Nat.testBit_and]
  cases x.testBit i <;> cases y.testBit i <;> rfl
theorem fits_mask {x y bits : Nat} (hy : y < 2 ^ bits) : Wish.fits bits (.mask (x &&& y) y) := ⟨and_and_self x y, hy⟩
theorem fits_range {x y bits : Nat} (hx : x < 2 ^ bits) (hy : y < 2 ^ bits) : Wish.fits bits (.range (min x y) (max x y)) := ⟨by omega, by omega⟩
end Mine
namespace Mine
def fields : List (Str × Nat) := [(Str.ofString "target", 48), (Str.ofString "source", 48), (Str.ofString "kind", 16), (Str.ofString "vlan", 12), (Str.ofString "priority", 3), (Str.ofString "ip_source", 32), (Str.ofString "ip_target", 32), (Str.ofString "protocol", 8), (Str.ofString "source_port", 16), (Str.ofString "target_port", 16)]
def rowD (p : Str × Nat) : PyData := .tuple [.str p.1, .int p.2]
def namesD : PyData := .list (fields.map rowD)
theorem src_new {h : Heap} {l : Addr} {c x y : Int} {t1 t2 : Tok} {p : Bool} {n : Nat} (e : h.get? l = some (W.listOf #[.int ((if -1 - c > c then -1 - c else c) * if p = true then 1 else 0) t1, .int ((x * y).fmod 2147483647) t2] n)) : SrcAt h l := by
  refine ⟨_, e, _, _, _, _, _, rfl, ?_, Int.fmod_nonneg_of_pos _ (by decide), ?_⟩
  · have : 0 ≤ (if -1 - c > c then -1 - c else c) := by split <;> omega
    exact Int.mul_nonneg this (by split <;> decide)
  · have := Int.fmod_lt_of_pos (x * y) (b := 2147483647) (by decide)
    omega
end Mine
end

local macro_rules | `(tactic| k_all) => `(tactic| exact dif_ne (by assumption))

section
open PySem PySem.W PySem.Calls PyProof.Rows PySem.Spec PySem.SeqAt
set_option maxHeartbeats 2000000
namespace Mine

section
variable {w : World} {mean : ExcName → Option Value} {mg mb : Str → Option Value} {dp un : Nat} {fr : Option (List Env)} {gd : Option (List Code)} {s : Shared} {Q E : Value → Shared → Prop}
theorem take_t {Bz : Heap} {src : Addr} {top : Int} {t : Tok}
    (G₀ : Gr w mean mg mb Bz) (hBz : Ext Bz s.heap) (hb0 : Bz.get? src = none) (R : Rm 1 dp un) (hs : SrcAt s.heap src) (h0 : 0 < top) (h1 : top < 2 ^ 20)
    (hQ : ∀ h' tk d t', Off [src] s.heap h' → SrcAt h' src → 0 ≤ d → d < top → Q (.int d t') { s with heap := h', toks := tk }) :
    wpAny (model PR w) (Ar dp fr gd un) (call (.ref 180) [.ref src, .int top t] []) Q E s := by
  obtain ⟨_, hS, a, b, t1, t2, c, rfl, a0, b0, b1⟩ := hs
  refine' enterM [src] [(src, W.listOf #[.int a t1, .int b t2] c)] [(Str.ofString "source", .ref src), (Str.ofString "top", .int top t)] G₀ hBz (by simpa using hb0) (by simpa using hS) ?ho ?hcd ?hroom ?hb ?hloc ?hcell ?hco ?hgen ?hk ?_
  walk_at "mine enterM"
  intro g L h₁ tk G hBg hOg hgs hgm F N hL
  have KX := G.K
  have T := G.T
  try dsimp only [List.cons_append, List.nil_append] at N
  have hgo : g.get? src = none := hgm _ (.head _)
  have hI : IntsAre [.int a t1, .int b t2] [a, b] := .cons _ _ (.cons _ _ .nil)
  k_steps
  · refine hQ _ _ _ _ (fun b o n e => Fr.keep (by assumption) _ _ (hOg b o n e)) ⟨_, News.get (by assumption) (.head _), _, _, _, _, _, rfl, ?_, b0, b1⟩ ?_ ?_
    · exact Int.fdiv_nonneg a0 (by omega)
    · exact Int.fmod_nonneg_of_pos _ h0
    · exact Int.fmod_lt_of_pos _ h0
  · generalize hy : ([a, b].set (Int.toNat 1) (([a, b].getD (Int.toNat 1) 0 * 39373 + 7).fmod 2147483647)).getD (Int.toNat 1) 0 = y
    have hy' : y = (b * 39373 + 7).fmod 2147483647 := hy.symm
    have y0 : 0 ≤ y := by rw [hy']; exact Int.fmod_nonneg_of_pos _ (by decide)
    have y1 : y < 2147483647 := by rw [hy']; exact Int.fmod_lt_of_pos _ (by decide)
    have hm : IntMulOk y y := by mul_fits
    refine mul_int ?_ hm
    k_steps
    refine hQ _ _ _ _ (fun b o n e => Fr.keep (by assumption) _ _ (hOg b o n e)) ⟨_, News.get (by assumption) (.head _), _, _, _, _, _, rfl, a0, hy.symm ▸ y0, ?_⟩ ?_ ?_
    · have : y < 2 ^ 31 := by omega
      exact hy.symm ▸ this
    · exact Int.fmod_nonneg_of_pos _ h0
    · exact Int.fmod_lt_of_pos _ h0

theorem take_F {h₀ : Heap} {L src : Addr} {m : Str → Option Value} {news : List (Addr × Obj)} {u : Obj → List (Addr × Obj)} {o : Obj} {top : Int} {t : Tok}
    (G₀ : Gr w mean mg mb h₀) (F : Fr h₀ L s.heap m) (N : News h₀ L s.heap news) (U : UpdF src o news u) (ho : IsSrc o) (R : Rm 1 dp un) (h0 : 0 < top) (h1 : top < 2 ^ 20)
    (hQ : ∀ h' tk d t' o', Fr h₀ L h' m → News h₀ L h' (u o') → IsSrc o' → 0 ≤ d → d < top → Q (.int d t') { s with heap := h', toks := tk }) :
    wpAny (model PR w) (Ar dp fr gd un) (call (.ref 180) [.ref src, .int top t] []) Q E s := by
  have hm : (src, o) ∈ news := by obtain ⟨own, rest, rfl, _⟩ := U.split; exact List.mem_append_right _ (.head _)
  refine take_t G₀ F.keep (N.fresh hm) R ⟨o, N.get hm, ho⟩ h0 h1 fun h' tk d t' k hs d0 d1 => ?_
  obtain ⟨o', hi, F', N'⟩ := src_step F N U k hs
  exact hQ h' tk d t' o' F' N' hi d0 d1
end
end Mine
end

local macro_rules | `(tactic| walk_at "call ref") => `(tactic| (refine' take_F ?G ?F ?N ?U ?ho ?R ?h0 ?h1 ?_; (case G => assumption); (case F => assumption); (case N => assumption); (case U => k_updF); (case ho => assumption); (case R => (refine' Rm.sub ?ra ?rb; (case ra => assumption); (case rb => omega))); (case h0 => first | assumption | omega | decide); (case h1 => first | assumption | omega | decide); intro h' tk' d' t' o' F' N' hi' d0' d1'; (try dsimp only at N'); (try k_sweep)))

section
open PySem PySem.W PySem.Calls PyProof.Rows PySem.Spec PySem.SeqAt
set_option maxHeartbeats 2000000
namespace Mine

section
variable {w : World} {mean : ExcName → Option Value} {mg mb : Str → Option Value} {dp un : Nat} {fr : Option (List Env)} {gd : Option (List Code)} {s : Shared} {Q E : Value → Shared → Prop}
theorem one_t {Bz : Heap} {src things : Addr} {vs : List Value}
    (G₀ : Gr w mean mg mb Bz) (hBz : Ext Bz s.heap) (hb0 : Bz.get? src = none) (R : Rm 2 dp un) (hs : SrcAt s.heap src) (hl : s.heap.IsList things vs.toArray) (hne : things ≠ src) (h0 : 0 < vs.length) (h1 : vs.length < 2 ^ 20)
    (hQ : ∀ h' tk v, Off [src] s.heap h' → SrcAt h' src → v ∈ vs → Q v { s with heap := h', toks := tk }) :
    wpAny (model PR w) (Ar dp fr gd un) (call (.ref 187) [.ref src, .ref things] []) Q E s := by
  obtain ⟨o, hS, ho⟩ := hs
  refine' enterM [src] [(src, o)] [(Str.ofString "source", .ref src), (Str.ofString "things", .ref things)] G₀ hBz (by simpa using hb0) (by simpa using hS) ?ho ?hcd ?hroom ?hb ?hloc ?hcell ?hco ?hgen ?hk ?_
  walk_at "mine enterM"
  intro g L h₁ tk G hBg hOg hgs hgm F N hL
  have KX := G.K
  have T := G.T
  have hgo : g.get? src = none := hgm _ (.head _)
  have hlg : g.IsList things vs.toArray := by
    obtain ⟨ol, hol, r⟩ := hl
    exact ⟨ol, hOg _ _ (by simpa using hne) hol, r⟩
  have hz0 : 0 < vs.toArray.size := by rw [List.size_toArray]; exact h0
  have hz1 : vs.toArray.size < 2 ^ 20 := by rw [List.size_toArray]; exact h1
  try dsimp only [List.cons_append, List.nil_append] at N
  k_steps
  rename_i d0 d1
  rw [List.size_toArray] at d1
  refine item_lst (Fr.lst (by assumption) hlg) d0 d1 (by omega) (fun v hv => ?_)
  refine Rt.ret hQf _ _ ?_
  exact hQ _ _ _ (fun b o n e => Fr.keep (by assumption) _ _ (hOg b o n e)) ⟨_, News.get (by assumption) (.head _), by assumption⟩ (List.mem_of_getElem? hv)

theorem one_F {h₀ : Heap} {L src things : Addr} {m : Str → Option Value} {news : List (Addr × Obj)} {u : Obj → List (Addr × Obj)} {o : Obj} {vs : List Value}
    (G₀ : Gr w mean mg mb h₀) (F : Fr h₀ L s.heap m) (N : News h₀ L s.heap news) (U : UpdF src o news u) (ho : IsSrc o) (R : Rm 2 dp un) (hl : s.heap.IsList things vs.toArray) (hne : things ≠ src) (h0 : 0 < vs.length) (h1 : vs.length < 2 ^ 20)
    (hQ : ∀ h' tk v o', Fr h₀ L h' m → News h₀ L h' (u o') → IsSrc o' → v ∈ vs → Q v { s with heap := h', toks := tk }) :
    wpAny (model PR w) (Ar dp fr gd un) (call (.ref 187) [.ref src, .ref things] []) Q E s := by
  have hm : (src, o) ∈ news := by obtain ⟨own, rest, rfl, _⟩ := U.split; exact List.mem_append_right _ (.head _)
  refine one_t G₀ F.keep (N.fresh hm) R ⟨o, N.get hm, ho⟩ hl hne h0 h1 fun h' tk v k hs hv => ?_
  obtain ⟨o', hi, F', N'⟩ := src_step F N U k hs
  exact hQ h' tk v o' F' N' hi hv
end
end Mine
end

local macro_rules | `(tactic| walk_at "call ref") => `(tactic| (refine' one_F ?G ?F ?N ?U ?ho ?R ?hl ?hne ?h0 ?h1 ?_; (case G => assumption); (case F => assumption); (case N => assumption); (case U => k_updF); (case ho => assumption); (case R => (refine' Rm.sub ?ra ?rb; (case ra => assumption); (case rb => omega))); (case hl => (refine' News.isList ?rN ?rm; (case rN => assumption); (case rm => k_mem))); (case hne => k_ne); (case h0 => first | assumption | exact Nat.le_of_ble_eq_true rfl | omega); (case h1 => first | assumption | exact Nat.le_of_ble_eq_true rfl | omega); intro h' tk' v' o' F' N' hi' hv'; (try dsimp only at N'); (try k_sweep)))

section
open PySem PySem.W PySem.Calls PyProof.Rows PySem.Spec PySem.SeqAt
set_option maxHeartbeats 2000000
namespace Mine

section
variable {w : World} {mean : ExcName → Option Value} {mg mb : Str → Option Value} {dp un : Nat} {fr : Option (List Env)} {gd : Option (List Code)} {s : Shared} {Q E : Value → Shared → Prop}
theorem number_t {Bz : Heap} {src : Addr} {bits : Nat} {t : Tok}
    (G₀ : Gr w mean mg mb Bz) (hBz : Ext Bz s.heap) (hb0 : Bz.get? src = none) (R : Rm 3 dp un) (hs : SrcAt s.heap src) (h0 : 1 ≤ bits) (h1 : bits ≤ 48)
    (hQ : ∀ h' tk (n : Nat) t', Off [src] s.heap h' → SrcAt h' src → n < 2 ^ bits → Q (.int n t') { s with heap := h', toks := tk }) :
    wpAny (model PR w) (Ar dp fr gd un) (call (.ref 201) [.ref src, .int bits t] []) Q E s := by
  obtain ⟨o, hS, ho⟩ := hs
  refine' enterM [src] [(src, o)] [(Str.ofString "source", .ref src), (Str.ofString "bits", .int bits t)] G₀ hBz (by simpa using hb0) (by simpa using hS) ?ho ?hcd ?hroom ?hb ?hloc ?hcell ?hco ?hgen ?hk ?_
  walk_at "mine enterM"
  intro g L h₁ tk G hBg hOg hgs hgm F N hL
  have KX := G.K
  have T := G.T
  have hgo : g.get? src = none := hgm _ (.head _)
  try dsimp only [List.cons_append, List.nil_append] at N
  k_steps
  rename_i hv
  have hp : 0 < 2 ^ bits := Nat.pow_pos (by decide)
  have hp1 : 1 < 2 ^ bits := Nat.one_lt_two_pow (by omega)
  have he : ((2 : Int) ^ ((bits : Nat) : Int).toNat) = ((2 ^ bits : Nat) : Int) := by rw [Int.toNat_natCast]; push_cast; rfl
  have fin : ∀ (i : Int), 0 ≤ i → i < ((2 ^ bits : Nat) : Int) → ∃ n : Nat, (∀ tt, Value.int i tt = Value.int (n : Int) tt) ∧ n < 2 ^ bits := fun i a b => ⟨i.toNat, fun tt => by rw [Int.toNat_of_nonneg a], by omega⟩
  rw [he] at hv
  simp only [List.mem_cons, List.not_mem_nil, or_false] at hv
  have fm0 := fun x : Int => Int.fmod_nonneg_of_pos x (b := ((2 ^ bits : Nat) : Int)) (by omega)
  have fm1 := fun x : Int => Int.fmod_lt_of_pos x (b := ((2 ^ bits : Nat) : Int)) (by omega)
  rcases hv with rfl | rfl | rfl | rfl
  · obtain ⟨n, e, hn⟩ := fin 0 (by omega) (by omega)
    rw [e]
    exact hQ _ _ _ _ (fun b o n e => Fr.keep (by assumption) _ _ (hOg b o n e)) ⟨_, News.get (by assumption) (.tail _ (.head _)), by assumption⟩ hn
  · obtain ⟨n, e, hn⟩ := fin 1 (by omega) (by omega)
    rw [e]
    exact hQ _ _ _ _ (fun b o n e => Fr.keep (by assumption) _ _ (hOg b o n e)) ⟨_, News.get (by assumption) (.tail _ (.head _)), by assumption⟩ hn
  · obtain ⟨n, e, hn⟩ := fin (((2 ^ bits : Nat) : Int) - 1) (by omega) (by omega)
    rw [e]
    exact hQ _ _ _ _ (fun b o n e => Fr.keep (by assumption) _ _ (hOg b o n e)) ⟨_, News.get (by assumption) (.tail _ (.head _)), by assumption⟩ hn
  · obtain ⟨n, e, hn⟩ := fin _ (fm0 _) (fm1 _)
    rw [e]
    exact hQ _ _ _ _ (fun b o n e => Fr.keep (by assumption) _ _ (hOg b o n e)) ⟨_, News.get (by assumption) (.tail _ (.head _)), by assumption⟩ hn

theorem number_F {h₀ : Heap} {L src : Addr} {m : Str → Option Value} {news : List (Addr × Obj)} {u : Obj → List (Addr × Obj)} {o : Obj} {bits : Nat} {t : Tok}
    (G₀ : Gr w mean mg mb h₀) (F : Fr h₀ L s.heap m) (N : News h₀ L s.heap news) (U : UpdF src o news u) (ho : IsSrc o) (R : Rm 3 dp un) (h0 : 1 ≤ bits) (h1 : bits ≤ 48)
    (hQ : ∀ h' tk (n : Nat) t' o', Fr h₀ L h' m → News h₀ L h' (u o') → IsSrc o' → n < 2 ^ bits → Q (.int n t') { s with heap := h', toks := tk }) :
    wpAny (model PR w) (Ar dp fr gd un) (call (.ref 201) [.ref src, .int bits t] []) Q E s := by
  have hm : (src, o) ∈ news := by obtain ⟨own, rest, rfl, _⟩ := U.split; exact List.mem_append_right _ (.head _)
  refine number_t G₀ F.keep (N.fresh hm) R ⟨o, N.get hm, ho⟩ h0 h1 fun h' tk n t' k hs hn => ?_
  obtain ⟨o', hi, F', N'⟩ := src_step F N U k hs
  exact hQ h' tk n t' o' F' N' hi hn
end
end Mine
end

section
open PySem PySem.W PySem.Calls PyProof.Rows PySem.Spec PySem.SeqAt
set_option maxHeartbeats 2000000
namespace Mine

section
variable {w : World} {mean : ExcName → Option Value} {mg mb : Str → Option Value} {dp un : Nat} {fr : Option (List Env)} {gd : Option (List Code)} {s : Shared} {Q E : Value → Shared → Prop}
local macro_rules | `(tactic| walk_at "call ref") => `(tactic| (refine' number_F ?G ?F ?N ?U ?ho ?R ?h0 ?h1 ?_; (case G => assumption); (case F => assumption); (case N => assumption); (case U => k_updF); (case ho => assumption); (case R => (refine' Rm.sub ?ra ?rb; (case ra => assumption); (case rb => omega))); (case h0 => assumption); (case h1 => assumption); intro h' tk' n' t' o' F' N' hi' hn'; (try dsimp only at N'); (try k_sweep)))
theorem law_wish_t {Bz : Heap} {src : Addr} {bits : Nat} {t : Tok}
    (G₀ : Gr w mean mg mb Bz) (hBz : Ext Bz s.heap) (hb0 : Bz.get? src = none) (R : Rm 4 dp un) (hs : SrcAt s.heap src) (h0 : 1 ≤ bits) (h1 : bits ≤ 48)
    (hQ : ∀ h' tk v W, Off [src] s.heap h' → SrcAt h' src → Reads h' v (wishD W) [] → W.fits bits → Q v { s with heap := h', toks := tk }) :
    wpAny (model PR w) (Ar dp fr gd un) (call (.ref 208) [.ref src, .int bits t] []) Q E s := by
  obtain ⟨o, hS, ho⟩ := hs
  refine' enterM [src] [(src, o)] [(Str.ofString "source", .ref src), (Str.ofString "bits", .int bits t)] G₀ hBz (by simpa using hb0) (by simpa using hS) ?ho ?hcd ?hroom ?hb ?hloc ?hcell ?hco ?hgen ?hk ?_
  walk_at "mine enterM"
  intro g L h₁ tk G hBg hOg hgs hgm F N hL
  have KX := G.K
  have T := G.T
  have hgo : g.get? src = none := hgm _ (.head _)
  try dsimp only [List.cons_append, List.nil_append] at N
  k_steps
  · exact hQ _ _ _ _ (fun b o n e => Fr.keep (by assumption) _ _ (hOg b o n e)) ⟨_, News.get (by assumption) (.tail _ (.tail _ (.head _))), by assumption⟩ (reads_mask' (News.get (by assumption) (.head _))) (fits_mask (by assumption))
  · exact hQ _ _ _ _ (fun b o n e => Fr.keep (by assumption) _ _ (hOg b o n e)) ⟨_, News.get (by assumption) (.tail _ (.tail _ (.head _))), by assumption⟩ (reads_range' (News.get (by assumption) (.head _))) (fits_range (by assumption) (by assumption))
end
end Mine
end

section
open PySem PySem.W PySem.Calls PyProof.Rows PySem.Spec PySem.SeqAt
set_option maxHeartbeats 2000000
namespace Mine

section
variable {w : World} {mean : ExcName → Option Value} {mg mb : Str → Option Value} {dp un : Nat} {fr : Option (List Env)} {gd : Option (List Code)} {s : Shared} {Q E : Value → Shared → Prop}
theorem pool_t {l : Addr} {vs : List Value} {ns : List Int} {t : Tok}
    (G : Gr w mean mg mb s.heap) (R : Rm 1 dp un) (hl : s.heap.IsList l vs.toArray) (hi : IntsAre vs ns) (hlen : ns.length ≤ 63)
    (hQ : ∀ h' tk src, Ext s.heap h' → s.heap.get? src = none → SrcAt h' src → Q (.ref src) { s with heap := h', toks := tk }) :
    wpAny (model PR w) (Ar dp fr gd un) (call (.ref 173) [.ref l, .int 0 t] []) Q E s := by
  refine' enterB [(Str.ofString "script", .ref l), (Str.ofString "k", .int 0 t)] ?X ?hl ?ho ?hcd ?hroom ?hb ?hloc ?hcell ?hco ?hgen ?hk ?_
  walk_at "mine enter"
  intro L h₁ tk F N hL
  have KX := G.K
  have T := G.T
  have hz : vs.length = ns.length := hi.length
  have hz1 : vs.toArray.size ≤ 63 := by rw [List.size_toArray]; omega
  k_steps
  · exact hQ _ _ _ (Fr.keep (by assumption)) (News.fresh (by assumption) (.head _)) (src_new (News.get (by assumption) (.head _)))
  · exact hQ _ _ _ (Fr.keep (by assumption)) (News.fresh (by assumption) (.head _)) (src_new (c := 0) (News.get (by assumption) (.head _)))

theorem names_t
    (G : Gr w mean mg mb s.heap) (R : Rm 1 dp un) 
    (hQ : ∀ h' tk l, Ext s.heap h' → s.heap.get? l = none → Reads h' (.ref l) namesD [l] → Q (.ref l) { s with heap := h', toks := tk }) :
    wpAny (model PR w) (Ar dp fr gd un) (call (.ref 194) [] []) Q E s := by
  refine' enterB [] ?X ?hl ?ho ?hcd ?hroom ?hb ?hloc ?hcell ?hco ?hgen ?hk ?_
  walk_at "mine enter"
  intro L h₁ tk F N hL
  have KX := G.K
  have T := G.T
  k_steps
  refine hQ _ _ _ (Fr.keep (by assumption)) (News.fresh (by assumption) (.head _)) ?_
  have r : ∀ {h' : Heap} {l' : Addr} {vs : List Value} {xs : List PyData} {as : List Addr} {n : Nat}, h'.get? l' = some (W.listOf vs.toArray n) → ReadsAll h' vs xs as → as = [] → Reads h' (.ref l') (.list xs) [l'] := fun e ra h0 => by
    subst h0
    exact reads_list_at e rfl rfl ra
  refine' r (xs := _ :: _ :: _ :: _ :: _ :: _ :: _ :: _ :: _ :: _ :: []) ?rh ?ra ?re
  case rh => exact News.get (by assumption) (.head _)
  case ra => walk_at "mine readsall"
  case re => rfl
end
end Mine
end

section
open PySem PySem.W PySem.Calls PyProof.Rows PySem.Spec
open PySem.Sem (wp)
open Builtin Builtin.ObjectAttr
namespace Mine
abbrev bm61 : List Value := [.ref 40, .type "Exception", .type "BaseException", .type "object"]
abbrev SErr : Obj := excClassObj (Str.ofString "SettingError") (Str.ofString "SettingError") 61 60 [.ref 40] bm61 true [] [] false none none (some (.ref 44)) none (some (.str (Str.ofString "SettingError") 247)) (some (.str (Str.ofString "SettingError") 255)) (some (.bool true)) "Exception.__new__"
section
variable {w : World} {A : Around} {E : Value → Shared → Prop} {h : Heap} {g : Array GenState} {d : Drawn} {t : Nat} {os : OsState} {x : Addr} {mA : Str → Option Value} {name : Str} {v : Value}
theorem serr_at (X : (hd.heap_1 w.params).In h) : h.get? 61 = some SErr := X _ _ (by k_is)
theorem serr_setattr {w : World} : findIn (hd.heap_1 w.params) (.ref 61) "__setattr__" = some (some (.builtin "object.__setattr__")) := by k_is
theorem serr_init {w : World} : findIn (hd.heap_1 w.params) (.ref 61) "__init__" = some (some (.ref 58)) := by k_is
theorem serr_message {w : World} : findIn (hd.heap_1 w.params) (.ref 61) "message" = some none := by k_is
theorem serr_row {w : World} : findIn (hd.heap_1 w.params) (.ref 61) "row" = some none := by k_is
theorem serr_obj {w : World} : subIn (hd.heap_1 w.params) (.ref 61) (.type "object") = some true := by k_is
theorem passes61 (self : Value) : refuseLoop self "__setattr__" (.ref 61 :: bm61) = pure () := by
  rw [refuseLoop_ref, refuseLoop_ref]
  exact PySem.F.store_Exception.passes self

theorem exc_entry {tk : Tok} {Q : Fin → Shared → Prop} {ns : List Str} (X : (hd.heap_1 w.params).In h) (ha : findIn (hd.heap_1 w.params) (.ref 61) name = some none) (I : h.Inst x 61 mA)
    (hq : ∀ h' tk', h'.Inst x 61 (fun y => if y = name then some v else mA y) →
      (∀ b o, b ≠ x → (∀ o₀ dx, h.get? x = some o₀ → o₀.dict = some dx → b ≠ dx) → h.get? b = some o → h'.get? b = some o) →
      (∀ o₀, h.get? x = some o₀ → ∃ o₁, h'.get? x = some o₁ ∧ o₁.cls = o₀.cls ∧ o₁.data = o₀.data ∧ o₁.slots = o₀.slots ∧ ∀ dx, o₀.dict = some dx → o₁.dict = some dx) → (∀ o₀ o₁ dx, h.get? x = some o₀ → o₀.dict = none → h'.get? x = some o₁ → o₁.dict = some dx → h.get? dx = none) → Q (.done (.ret .none)) ⟨h', g, d, tk', os⟩) (hw : Within mA ns := by within_ways) (hsz : ns.length ≤ sizeLine := by size_fits) :
    wpAny (model PR w) A (Builtin.«object.__setattr__» ⟨[.ref x, .str name tk, v], []⟩) Q E ⟨h, g, d, t, os⟩ := by
  have hC := serr_at X
  obtain ⟨o, hx, hc, hnc, hd⟩ := I
  have hpass := passes61 (.ref x)
  have L0 : Looks (model PR w) h (typeLookup (.ref 61) name) none := looks_findIn X ha
  unfold Builtin.«object.__setattr__»
  repeat (first | rw [refuse_eq] | rw [hpass] | (with_reducible refine wpAny_loadPart_at hx ?_; rw [hc]) | with_reducible refine wpAny_mroOf_exc hC ?_ | with_reducible refine L0.at ?_ | wp_step)
  rcases hd with ⟨hdn, hmA⟩ | ⟨dx, hdx, hne, hns⟩
  ·
    rw [hdn, if_neg (by simp [typeHasDict])]
    split
    · rename_i hcd
      cases hcd
    split
    · rename_i c hcd
      exact absurd hcd (hnc c)
    · have hx₁ : (h.push { cls := .type "dict", data := .dict #[] }).get? x = some o := Heap.get?_push_of_some _ hx
      have hxs : x ≠ h.objs.size := Nat.ne_of_lt (Heap.lt_size hx)
      refine wpAny_bind (wpAny_alloc' ?_)
      refine wpAny_bind (wpAny_update' hx₁ ?_)
      refine wpAny_pure ?_
      have hgd : ((h.push { cls := .type "dict", data := .dict #[] }).update x fun o => { cls := o.cls, dict := some h.objs.size, data := o.data, slots := o.slots }).get? h.objs.size
          = some { cls := .type "dict", data := .dict #[] } :=
        (Heap.get?_update_ne _ _ _ _ hxs.symm).trans (Heap.get?_push_at rfl rfl)
      have hnd : ((h.push { cls := .type "dict", data := .dict #[] }).update x fun o => { cls := o.cls, dict := some h.objs.size, data := o.data, slots := o.slots }).Ns h.objs.size (fun _ => none) :=
        ⟨_, #[], _, hgd, rfl, fun e he => absurd he (by simp), fun _ => rfl⟩
      show wpAny _ _ (storeInDict h.objs.size (.str name tk) name v) _ _ _
      unfold storeInDict newKeyGuard
      refine wpAny_bind (wpAny_pure (wpAny_bind (wpAny_nsSet1 (Heap.Ns1.of_empty hnd) fun h' hn' hs => ?_)))
      obtain ⟨oD, esD, epD, hoD, hdD, hcD⟩ := hn'.count (Within.cons name v Within.nil)
      refine wpAny_bind (wpAny_lookBehind hoD (by rw [hdD]; exact pastItsLine_dict (Nat.le_trans hcD (by rw [List.length_cons, List.length_nil, sizeLine_eq]; omega))) ?_)
      wp_walk
      have hx' : h'.get? x = some { cls := o.cls, dict := some h.objs.size, data := o.data, slots := o.slots } := ?_
      refine hq h' _ ⟨{ cls := o.cls, dict := some h.objs.size, data := o.data, slots := o.slots }, hx', hc, hnc, .inr ⟨h.objs.size, rfl, hxs.symm, ?_⟩⟩ (fun b ob hbx _ hb => ?_)
        (fun o₀ h₀ => by obtain rfl : o = o₀ := Option.some.inj (hx.symm.trans h₀); exact ⟨_, hx', rfl, rfl, rfl, fun dx e => by rw [hdn] at e; cases e⟩)
        (fun o₀ o₁ dx h₀ _ h₁ e => by rw [hx'] at h₁; cases h₁; cases e; exact Heap.get?_none_of_le (Nat.le_refl _))
      · obtain ⟨o', es, ep, e1, e2, e3, eu, e4⟩ := hn'
        exact ⟨o', es, ep, e1, e2, e3, eu, fun y => by rw [e4 y]; by_cases hy : y = name <;> simp [hy, hmA]⟩
      · exact (hs.2 b (Nat.ne_of_lt (Heap.lt_size hb))).trans ((Heap.get?_update_ne _ _ _ _ hbx).trans (Heap.get?_push_of_some _ hb))
      · refine (hs.2 x hxs).trans (Heap.get?_update_self _ hx₁ ?_)
        have hfr := (Heap.get?_some_iff.mp hx).2
        obtain ⟨oc, od, odt, osl⟩ := o
        cases odt <;> first | rfl | exact hfr
  ·
    rw [hdx]
    refine wpAny_pure ?_
    show wpAny _ _ (storeInDict dx (.str name tk) name v) _ _ _
    unfold storeInDict newKeyGuard
    refine wpAny_bind (wpAny_pure (wpAny_bind (wpAny_nsSet1 hns fun h' hn' hs => ?_)))
    obtain ⟨oD, esD, epD, hoD, hdD, hcD⟩ := hn'.count (Within.cons name v hw)
    refine wpAny_bind (wpAny_lookBehind hoD (by rw [hdD]; exact pastItsLine_dict (Nat.le_trans hcD (by rw [List.length_cons]; omega))) ?_)
    wp_walk
    refine hq h' _ ⟨o, (hs.2 x hne.symm).trans hx, hc, hnc, .inr ⟨dx, hdx, hne, hn'⟩⟩ (fun b ob _ hbd hb => ?_)
      (fun o₀ h₀ => ⟨o₀, (hs.2 x hne.symm).trans h₀, rfl, rfl, rfl, fun _ e => e⟩)
      (fun o₀ o₁ dx' h₀ h1 _ _ => by rw [hx] at h₀; cases h₀; rw [hdx] at h1; cases h1)
    exact (hs.2 b (hbd o dx hx hdx)).trans hb

theorem exc_store {Q : Unit → Shared → Prop} {ns : List Str} (X : (hd.heap_1 w.params).In h) (ha : findIn (hd.heap_1 w.params) (.ref 61) name = some none) (I : h.Inst x 61 mA)
    (hq : ∀ h' tk', h'.Inst x 61 (fun y => if y = name then some v else mA y) →
      (∀ b o, b ≠ x → (∀ o₀ dx, h.get? x = some o₀ → o₀.dict = some dx → b ≠ dx) → h.get? b = some o → h'.get? b = some o) →
      (∀ o₀, h.get? x = some o₀ → ∃ o₁, h'.get? x = some o₁ ∧ o₁.cls = o₀.cls ∧ o₁.data = o₀.data ∧ o₁.slots = o₀.slots ∧ ∀ dx, o₀.dict = some dx → o₁.dict = some dx) → (∀ o₀ o₁ dx, h.get? x = some o₀ → o₀.dict = none → h'.get? x = some o₁ → o₁.dict = some dx → h.get? dx = none) → Q () ⟨h', g, d, tk', os⟩) (hw : Within mA ns := by within_ways) (hsz : ns.length ≤ sizeLine := by size_fits) :
    wpAny (model PR w) A (setAttr (.ref x) name v) Q E ⟨h, g, d, t, os⟩ := by
  obtain ⟨o, hx, hc, _⟩ := id I
  have f3 := PySem.F.store_Exception.slot.bind (.ref x)
  have L0 : Looks (model PR w) h (typeLookup (.ref 61) "__setattr__") (some (.builtin "object.__setattr__")) := looks_findIn X serr_setattr
  unfold setAttr callSpecial? specialOf
  repeat (any_goals (first | assumption | (with_reducible refine wpAny_loadPart_at hx ?_; rw [hc]) | with_reducible refine L0.at ?_ | wp_step))
  have SF := PySem.F.store_object
  have T0 : Looks (model PR w) h (typeOf (.ref x)) (.ref 61) := hc ▸ (Looks.ld hx).andThen .now
  have sub : Looks (model PR w) h (isInstance (.ref x) (.type "object")) true := T0.andThen (looks_subIn X serr_obj)
  refine codeAny_call_builtin SF.slot.plain SF.entry (@check_slot (model PR w) _ _ ⟨h, g, d, _, os⟩ "object.__setattr__" "object" "__setattr__" (.ref x) [.str name _, v] [] _ SF.kind SF.split sub (SF.args (.ref x) (.str name _) v) (exc_entry X ha I (fun h' tk' I' hk hsame hfresh => ?_) hw hsz))
  repeat (any_goals (first | assumption | wp_step))
  exact hq h' tk' I' hk hsame hfresh

theorem exc_init_call {e t₀ : Addr} {sl : Array (Option Value)} {Q : Value → Shared → Prop} (X : (hd.heap_1 w.params).In h)
    (he : h.get? e = some ⟨.ref 61, none, .fields #[.ref t₀, .none, .none, .none, .bool false, .none], sl⟩)
    (hq : ∀ h' T, h.get? T = none → h'.get? e = some ⟨.ref 61, none, .fields #[.ref T, .none, .none, .none, .bool false, .none], sl⟩ → (∀ b o, b ≠ e → h.get? b = some o → h'.get? b = some o) → Q .none ⟨h', g, d, t, os⟩) :
    wpAny (model PR w) A (call (.builtin "Exception.__init__") [.ref e, v]) Q E ⟨h, g, d, t, os⟩ := by
  have F := PySem.F.excBase_Exception
  have hC := serr_at X
  have hchk : ∀ {M : Model} {A : Around} {E : Value → Shared → Prop} {Q : Unit → Shared → Prop}, Q () ⟨h, g, d, t, os⟩ → wpAny M A (checkBuiltinCall "Exception.__init__" ⟨[.ref e, v], []⟩) Q E ⟨h, g, d, t, os⟩ := by
    intro M A E Q hq
    have hcB : (Value.ref 61 :: bm61).contains (.type "Exception") = true := by decide +kernel
    have hshort := F.noStar
    simp only [checkBuiltinCall, F.initKind, F.initSplit, F.initRow]
    repeat (first | with_reducible refine wpAny_loadPart_at he ?_ | with_reducible refine wpAny_loadPart_at hC ?_ | (with_reducible refine wpAny_isSubtype_exc hC ?_; rw [hcB]) | wp_step)
    exact hq
  refine wpAny_call (codeAny_call_builtin F.init.plain F.initEntry (hchk ?_))
  wp_walk
  refine hq _ h.objs.size (Heap.get?_none_of_le (Nat.le_refl _)) ?_ fun b o hb ho => ?_
  · exact (Heap.get?_update_self _ (Heap.get?_push_of_some _ he) rfl).trans rfl
  · rw [Heap.get?_update_other _ _ (Ne.symm hb)]
    exact Heap.get?_push_of_some _ ho

theorem serr_new_check {M : Model} {rest : List Value} {Q : Unit → Shared → Prop} (hC : h.get? 61 = some SErr) (hq : Q () ⟨h, g, d, t, os⟩) : wpAny M A (checkBuiltinCall "Exception.__new__" ⟨.ref 61 :: rest, []⟩) Q E ⟨h, g, d, t, os⟩ := by
  have Fn := PySem.F.excBase_Exception
  have hcont : (Value.ref 61 :: bm61).contains (.type "Exception") = true := by decide +kernel
  have hstar := Fn.noStar
  simp only [checkBuiltinCall, Fn.newKind, Fn.newSplit, Fn.newRow]
  repeat (first | refine wpAny_loadPart_at hC ?_ | (refine wpAny_isSubtype_exc hC ?_; rw [hcont]) | refine wpAny_staticBase_exc hC ?_ | refine wpAny_madeBy_exc hC ?_ | simp only [bne_self_eq_false, Bool.false_eq_true, if_false] | wp_step)
  exact hq

theorem serr_new {R : Result → Shared → Prop} {rest : List Value} (hC : h.get? 61 = some SErr)
    (hq : R (.ok (.ret (.ref (h.objs.size + 1)))) ⟨(h.push { cls := .type "tuple", data := .seq rest.toArray }).push
      { cls := .ref 61, data := .fields #[.ref h.objs.size, .none, .none, .none, .bool false, .none] }, g, d, t, os⟩) (hrest : rest.length ≤ sizeLine := by size_fits) :
    codeAny (model PR w) A (.builtin "Exception.__new__" ⟨.ref 61 :: rest, []⟩) R ⟨h, g, d, t, os⟩ := by
  have Fn := PySem.F.excBase_Exception
  have hends := Fn.ends
  have hcB : (Value.ref 61 :: bm61).contains (.type "Exception") = true := by decide +kernel
  have hcA : (Value.ref 61 :: bm61).contains (.type "AttributeError") = false := by decide +kernel
  have hcN : (Value.ref 61 :: bm61).contains (.type "NameError") = false := by decide +kernel
  refine codeAny_builtinAt Fn.entry ?_
  unfold Builtin.«BaseException.__new__»
  refine PySem.wpAt_bind ?_
  show PySem.wpAt _ _ _ (stack >>= _) _ _ _
  refine PySem.wpAt_bind (PySem.wpAt_stack fun p below => PySem.wpAt_of_wpAny ?_)
  wp_walk
  refine PySem.wpAt_of_wpAny ?_
  rw [Fn.owner]
  repeat (first | with_reducible refine wpAny_madeHere_exc Fn.canon hC ?_ | with_reducible refine wpAny_loadPart_at hC ?_ | (with_reducible refine wpAny_isSubtype_exc hC ?_; first | rw [hcB] | rw [hcA] | rw [hcN]) | wp_step)
  show R _ _
  rw [Heap.size_push]
  exact hq

theorem serr_type_call {rest : List Value} {Q : Fin → Shared → Prop} (X : (hd.heap_1 w.params).In h)
    (hq : ∀ h' e, Heap.MadeExcOf h h' e (.ref 61) rest → wpAny (model PR w) A (call (.ref 58) (.ref e :: rest)) (fun r s' => r = .none ∧ Q (.done (.ret (.ref e))) s') E ⟨h', g, d, t, os⟩) (hrest : rest.length ≤ sizeLine := by size_fits) :
    wpAny (model PR w) A (Builtin.«type.__call__» ⟨.ref 61 :: rest, []⟩) Q E ⟨h, g, d, t, os⟩ := by
  have Fn := PySem.F.excBase_Exception
  have hC := serr_at X
  repeat (first | with_reducible refine wpAny_loadPart_at hC ?_ | with_reducible refine wpAny_madeBy_exc hC ?_ | wp_step)
  refine codeAny_call_builtin_code (Code.quiet_builtin _ Fn.quiet) (serr_new_check hC ?_)
  refine serr_new hC ?_ hrest
  show wpAny _ _ _ _ _ _
  have k₁ : ∀ b o, h.get? b = some o → ((h.push { cls := .type "tuple", data := .seq rest.toArray }).push { cls := .ref 61, data := .fields #[.ref h.objs.size, .none, .none, .none, .bool false, .none] }).get? b = some o := fun b o e => Heap.get?_push_of_some _ (Heap.get?_push_of_some _ e)
  have hC₁ := k₁ _ _ hC
  have X₁ := X.keeps k₁
  obtain ⟨_, _, hfo⟩ : ∃ c od, ((h.push { cls := .type "tuple", data := .seq rest.toArray }).push { cls := .ref 61, data := .fields #[.ref h.objs.size, .none, .none, .none, .bool false, .none] }).get? 58 = some c ∧ c.cls = od ∧ od = .type "function" := ⟨_, _, X₁ 58 _ (by k_is), rfl, rfl⟩
  have hget : ((h.push { cls := .type "tuple", data := .seq rest.toArray }).push
      { cls := .ref 61, data := .fields #[.ref h.objs.size, .none, .none, .none, .bool false, .none] }).get? (h.objs.size + 1) = some
      { cls := .ref 61, data := .fields #[.ref h.objs.size, .none, .none, .none, .bool false, .none] } := by heap_get
  have hcC : (Value.ref 61 :: bm61).contains (.ref 61) = true := by simp
  have L0 : Looks (model PR w) _ (typeLookup (.ref 61) "__init__") (some (.ref 58)) := looks_findIn X₁ serr_init
  unfold isInstance
  repeat (first | with_reducible refine wpAny_loadPart_at hget ?_ | (with_reducible refine wpAny_isSubtype_exc hC₁ ?_; rw [hcC]) | wp_step)
  show wpAny _ _ (typeLookup (.ref 61) _) _ _ _
  refine L0.at ?_
  refine wpAny_holding (wpAny_bind ?_)
  unfold bindSpecial
  refine wpAny_bind (wpAny_typeOf (T := "function") ⟨_, hfo.1, by rw [hfo.2.1, hfo.2.2]⟩ ?_)
  rw [if_pos (by decide)]
  refine wpAny_pure (wpAny_bind (wpAny_mono (hq _ (h.objs.size + 1) ⟨k₁, Heap.get?_none_of_le (Nat.le_succ _), h.objs.size, hget, Heap.get?_none_of_le (Nat.le_refl _), ?_⟩) (fun r s' hr => ?_) fun _ _ x => x))
  · exact Heap.get?_push_of_some _ (Heap.get?_push_at rfl rfl)
  · obtain ⟨rfl, hQ⟩ := hr
    wp_walk
    exact hQ

theorem serr_call {rest : List Value} {Q : Value → Shared → Prop} (X : (hd.heap_1 w.params).In h)
    (hq : ∀ h' e, Heap.MadeExcOf h h' e (.ref 61) rest → wpAny (model PR w) (A.under (.builtin "type.__call__" ⟨.ref 61 :: rest, []⟩)) (call (.ref 58) (.ref e :: rest)) (fun r s' => r = .none ∧ Q (.ref e) s') E ⟨h', g, d, t, os⟩) (hrest : rest.length ≤ sizeLine := by size_fits) :
    wpAny (model PR w) A (call (.ref 61) rest) Q E ⟨h, g, d, t, os⟩ := by
  have f1 := tc_lookup
  have f2 := tc_bind (.ref 61)
  have hC := serr_at X
  have hT : (⟨h, g, d, t, os⟩ : Shared).TypeIs (.ref 61) "type" := ⟨_, hC, rfl⟩
  refine wpAny_call (codeAny_of_tree ?_)
  show wpAny _ _ (callAny (.ref 61) _) _ _ _
  repeat (any_goals (first | assumption | with_reducible refine wpAny_loadPart_at hC ?_ | wp_step))
  refine ⟨rfl, ?_⟩
  refine codeAny_call_builtin_at (Code.quiet_builtin _ (by decide +kernel)) entry_typeCall (wpAny_check_type_call_sub hC (serr_type_call (hrest := hrest) X fun h' e hm => ?_))
  exact hq h' e hm
end

theorem upd1 {h₀ h h' : Heap} {L e : Addr} {m : Str → Option Value} {o o' : Obj} {rest : List (Addr × Obj)} (F : Fr h₀ L h m) (N : News h₀ L h ((e, o) :: rest)) (k : ∀ b ob, b ≠ e → h.get? b = some ob → h'.get? b = some ob) (he : h'.get? e = some o') (hr : ∀ p ∈ rest, p.1 ≠ e) :
    Fr h₀ L h' m ∧ News h₀ L h' ((e, o') :: rest) := by
  have z := N (e, o) (.head _)
  refine ⟨⟨F.ns.at' fun ob q => k _ _ (Ne.symm z.2.1) q, fun b ob q => k _ _ (fun w => ?_) (F.keep _ _ q), F.above⟩, fun p hp => ?_⟩
  · have := z.2.2; rw [w] at q; rw [q] at this; cases this
  · rcases List.mem_cons.mp hp with rfl | hp
    · exact ⟨he, z.2⟩
    · have P := N p (.tail _ hp)
      exact ⟨k _ _ (hr p hp) P.1, P.2⟩
/-- the exception as it is, once it is made whole -/
def ExcAt (h : Heap) (e dx : Addr) (mA : Str → Option Value) : Prop := dx ≠ e ∧ h.Ns1 dx mA ∧ ∃ T, h.get? e = some ⟨.ref 61, some dx, .fields #[.ref T, .none, .none, .none, .bool false, .none], #[]⟩
theorem ExcAt.inst {h : Heap} {e dx : Addr} {mA : Str → Option Value} (x : ExcAt h e dx mA) : h.Inst e 61 mA := by
  obtain ⟨h1, h2, T, h3⟩ := x
  exact ⟨_, h3, rfl, (fun c q => by cases q), .inr ⟨dx, rfl, h1, h2⟩⟩
/-- an exception of the program's own, newly made -/
def NewX (h h' : Heap) (e : Addr) : Prop := Ext h h' ∧ h.get? e = none ∧ ∃ o vs a0, h'.get? e = some o ∧ o.cls = .ref 61 ∧ o.data = .fields vs ∧ vs[0]? = some a0 ∧ vs[1]? = some .none
end Mine
end

section
open PySem PySem.W PySem.Calls PyProof.Rows PySem.Spec PySem.SeqAt
set_option maxHeartbeats 2000000
namespace Mine

section
variable {w : World} {mean : ExcName → Option Value} {mg mb : Str → Option Value} {dp un : Nat} {fr : Option (List Env)} {gd : Option (List Code)} {s : Shared} {Q E : Value → Shared → Prop}
theorem mn_exc {A : Around} {h₀ : Heap} {L : Addr} {m : Str → Option Value} {pl : Sem Bool} {Q' : Value × List Value → Shared → Prop} (F : Fr h₀ L s.heap m) (X₀ : (hd.heap_1 w.params).In h₀) (h : Q' (.builtin "Exception.__init__", []) { s with toks := s.toks + 1 }) : wpAny (model PR w) A (getMethod (.type "Exception") "__init__" pl) Q' E s := by
  refine' method_type (T := "Exception") (v := .builtin "Exception.__init__") F X₀ ?a ?b ?c ?d h
  case a => kernel_rfl
  case b => decide +kernel
  case c => k_dflt k_is
  case d => decide +kernel
theorem init37_t {Bz : Heap} {e t : Addr} {msg : Str} {tm : Tok}
    (G₀ : Gr w mean mg mb Bz) (hBz : Ext Bz s.heap) (hb0 : Bz.get? e = none) (R : Rm 1 dp un) (he : s.heap.get? e = some ⟨.ref 61, none, .fields #[.ref t, .none, .none, .none, .bool false, .none], #[]⟩)
    (hQ : ∀ h' tk dx mA, Off [e] s.heap h' → s.heap.get? dx = none → Within mA ["message"] → ExcAt h' e dx mA → Q .none { s with heap := h', toks := tk }) :
    wpAny (model PR w) (Ar dp fr gd un) (call (.ref 37) [.ref e, .str msg tm] []) Q E s := by
  refine' enterM [e] [(e, ⟨.ref 61, none, .fields #[.ref t, .none, .none, .none, .bool false, .none], #[]⟩)] [(Str.ofString "self", .ref e), (Str.ofString "message", .str msg tm)] G₀ hBz (by simpa using hb0) (by simpa using he) ?ho ?hcd ?hroom ?hb ?hloc ?hcell ?hco ?hgen ?hk ?_
  walk_at "mine enterM"
  intro g L h₁ tk G hBg hOg hgs hgm F N hL
  have KX := G.K
  have T := G.T
  try dsimp only [List.cons_append, List.nil_append] at N
  have hgo : g.get? e = none := hgm _ (.head _)
  k_steps
  refine mn_exc (by assumption) KX ?_
  k_steps
  refine exc_init_call (KX.keeps F.keep) (News.ofMem N (.head _)).1 fun h₂ T₂ _ he₂ k₂ => ?_
  obtain ⟨F₂, N₂⟩ := upd1 F N (fun b ob hb => k₂ b ob hb) he₂ (dif_ne hgo)
  k_steps
  refine exc_store (ns := []) (mA := fun _ => none) (KX.keeps F₂.keep) serr_message ⟨_, he₂, rfl, (fun c q => by cases q), .inl ⟨rfl, fun _ => rfl⟩⟩ fun h₃ tk₃ I₃ k₃ s₃ f₃ => ?_
  obtain ⟨o₃, he₃, c1, c2, c3, _⟩ := s₃ _ he₂
  have c4 := I₃
  obtain ⟨o₄, he₄, _, _, hd₄⟩ := c4
  rw [he₃] at he₄; cases he₄
  have n0 : (fun y => if y = (Str.ofString "message") then some (Value.str msg tm) else none) (Str.ofString "message") = none → False := by simp
  rcases hd₄ with ⟨_, hd₄⟩ | ⟨dx, hd₄, hne, hns⟩
  · exact (n0 (hd₄ _)).elim
  obtain ⟨F₃, N₃⟩ := upd1 F₂ N₂ (fun b ob hb => k₃ b ob hb (fun o₀ dx q1 q2 => by rw [he₂] at q1; cases q1; cases q2)) he₃ (dif_ne hgo)
  have hdx := f₃ _ _ dx he₂ rfl he₃ hd₄
  clear F₂ N₂
  k_steps
  have hdx' : s.heap.get? dx = none := by
    cases q : s.heap.get? dx with
    | none => rfl
    | some ob =>
      exfalso
      by_cases hde : dx = e
      · rw [hde, he₂] at hdx; cases hdx
      · have := k₂ _ _ hde (F.keep _ _ (hOg _ _ (by simpa using hde) q))
        rw [hdx] at this; cases this
  obtain ⟨oc, od, odt, osl⟩ := o₃
  dsimp only at c1 c2 c3 hd₄
  subst c1 c2 c3 hd₄
  exact hQ _ _ dx _ (fun b o n e' => F₃.keep _ _ (hOg b o n e')) hdx' (Within.cons _ _ Within.nil) ⟨hne, hns, _, he₃⟩
end
end Mine
end

section
open PySem PySem.W PySem.Calls PyProof.Rows PySem.Spec PySem.SeqAt
set_option maxHeartbeats 2000000
namespace Mine

section
variable {w : World} {mean : ExcName → Option Value} {mg mb : Str → Option Value} {dp un : Nat} {fr : Option (List Env)} {gd : Option (List Code)} {s : Shared} {Q E : Value → Shared → Prop}
theorem init58_t {Bz : Heap} {e t : Addr} {msg : Str} {tm : Tok}
    (G₀ : Gr w mean mg mb Bz) (hBz : Ext Bz s.heap) (hb0 : Bz.get? e = none) (R : Rm 2 dp un) (he : s.heap.get? e = some ⟨.ref 61, none, .fields #[.ref t, .none, .none, .none, .bool false, .none], #[]⟩)
    (hQ : ∀ h' tk dx mA, Off [e] s.heap h' → ExcAt h' e dx mA → Q .none { s with heap := h', toks := tk }) :
    wpAny (model PR w) (Ar dp fr gd un) (call (.ref 58) [.ref e, .str msg tm] []) Q E s := by
  refine' enterM [e] [(e, ⟨.ref 61, none, .fields #[.ref t, .none, .none, .none, .bool false, .none], #[]⟩)] [(Str.ofString "self", .ref e), (Str.ofString "message", .str msg tm), (Str.ofString "row", .int 0 259)] G₀ hBz (by simpa using hb0) (by simpa using he) ?ho ?hcd ?hroom ?hb ?hloc ?hcell ?hco ?hgen ?hk ?_
  (case ho => k_is); (case hcd => k_is); (case hroom => exact Rm.room (by assumption))
  case hb => exact binds_K (G₀.keeps hBz).K rfl (by k_is) rfl rfl rfl
  (case hloc => exact locs rfl); (case hcell => decide); (case hco => exact rfl); (case hgen => exact rfl); (case hk => exact rfl)
  intro g L h₁ tk G hBg hOg hgs hgm F N hL
  have KX := G.K
  have T := G.T
  try dsimp only [List.cons_append, List.nil_append] at N
  have hgo : g.get? e = none := hgm _ (.head _)
  k_steps
  refine init37_t G F.keep hgo (Rm.sub R (by omega)) (News.ofMem N (.head _)).1 fun h₂ tk₂ dx mA k₂ hdx hW X₂ => ?_
  obtain ⟨T₂, he₂⟩ := X₂.2.2
  obtain ⟨F₂, N₂⟩ := upd1 F N (fun b ob hb => k₂ b ob (by simpa using hb)) he₂ (dif_ne hgo)
  k_steps
  refine exc_store (ns := ["message"]) (KX.keeps F₂.keep) serr_row X₂.inst (hw := hW) fun h₃ tk₃ I₃ k₃ s₃ _ => ?_
  obtain ⟨o₃, he₃, c1, c2, c3, c5⟩ := s₃ _ he₂
  have hg0 : ∀ b ob, g.get? b = some ob → b ≠ dx := fun b ob q hb => by
    have := F.keep _ _ q
    rw [hb, hdx] at this; cases this
  have kk : ∀ b ob, b ≠ e → b ≠ dx → h₂.get? b = some ob → h₃.get? b = some ob := fun b ob hb hb2 => k₃ b ob hb (fun o₀ dx' q1 q2 => by rw [he₂] at q1; cases q1; cases q2; exact hb2)
  have F₃ : Fr g L h₃ _ := ⟨F₂.ns.at' fun ob q => kk _ _ (Ne.symm (N _ (.head _)).2.1) (fun q2 => by
      have z := F.ns
      obtain ⟨o', es, ep, hz, _⟩ := z
      rw [q2, hdx] at hz; cases hz) q, fun b ob q => kk _ _ (fun q2 => by rw [q2, hgo] at q; cases q) (hg0 _ _ q) (F₂.keep _ _ q), F₂.above⟩
  k_steps
  obtain ⟨oc, od, odt, osl⟩ := o₃
  dsimp only at c1 c2 c3 c5
  have hd := c5 dx rfl
  subst c1 c2 c3 hd
  obtain ⟨o₄, he₄, _, _, hd₄⟩ := I₃
  rw [he₃] at he₄; cases he₄
  rcases hd₄ with ⟨q, _⟩ | ⟨dx', q, hne, hns⟩
  · cases q
  cases q
  exact hQ _ _ dx _ (fun b o n e' => F₃.keep _ _ (hOg b o n e')) ⟨hne, hns, _, he₃⟩

/-- raise's argument: SettingError(msg) -/
theorem serr_t {msg : Str} {tm : Tok}
    (G : Gr w mean mg mb s.heap) (R : Rm 3 dp un)
    (hQ : ∀ h' tk e, NewX s.heap h' e → Q (.ref e) { s with heap := h', toks := tk }) :
    wpAny (model PR w) (Ar dp fr gd un) (call (.ref 61) [.str msg tm] []) Q E s := by
  obtain ⟨h, g, d, t, os⟩ := s
  refine serr_call G.K fun h₁ e hm => ?_
  obtain ⟨t₁, he, ht1, ht2⟩ := hm.there
  have hnew := hm.new
  have hu : (Code.builtin "type.__call__" ⟨[.ref 61, .str msg tm], []⟩).cUnits ≤ 7 := Nat.le_of_ble_eq_true (by kernel_rfl)
  have hw1 : (Code.builtin "type.__call__" ⟨[.ref 61, .str msg tm], []⟩).weight ≤ 1 := Nat.le_of_ble_eq_true (by kernel_rfl)
  refine init58_t (s := ⟨h₁, g, d, t, os⟩) G hm.keeps hnew ⟨?_, ?_⟩ he fun h₂ tk dx mA k₂ X₂ => ⟨rfl, hQ _ _ _ ⟨fun b o q => k₂ _ _ (fun hb => ?_) (hm.keeps _ _ q), hnew, ?_⟩⟩
  · have := R.depth; show dp + _ + 2 < _; omega
  · have := R.units; show un + _ + _ < _; omega
  · rw [List.mem_singleton.mp hb, hnew] at q; cases q
  · obtain ⟨_, _, T, hT⟩ := X₂
    exact ⟨_, _, _, hT, rfl, rfl, rfl, rfl⟩
end
end Mine
end

section
open PySem PySem.W PySem.Calls PyProof.Rows PySem.Spec PySem.SeqAt
set_option maxHeartbeats 2000000
namespace Mine

section
variable {w : World} {mean : ExcName → Option Value} {mg mb : Str → Option Value} {dp un : Nat} {fr : Option (List Env)} {gd : Option (List Code)} {s : Shared} {Q E : Value → Shared → Prop}
theorem raise_stmt {A : Around} {env : Env} {x : Sem Value} {Q : Flow → Shared → Prop} (hh : A.handled = none)
    (h : wpAny (model PR w) A x (fun v s₁ => ∃ e od vs sl, v = .ref e ∧ s₁.heap.get? 61 = some SErr ∧
      s₁.heap.get? e = some ⟨.ref 61, od, .fields vs, sl⟩ ∧ vs[1]? = some .none ∧ E (.ref e) s₁) E s) :
    wpAny (model PR w) A (raiseStmt env (some x) none) Q E s := by
  have hcB : (Value.ref 61 :: bm61).contains (.type "BaseException") = true := by decide +kernel
  unfold raiseStmt
  refine wpAny_bind (wpAny_mono h (fun v s₁ h₁ => ?_) fun _ _ x => x)
  obtain ⟨e, od, vs, sl, rfl, hC, he, h1, hE⟩ := h₁
  obtain ⟨hp, g, d, tk, os⟩ := s₁
  repeat (first | with_reducible refine wpAny_loadPart_at he ?_ | with_reducible refine wpAny_loadPart_at hC ?_ | (with_reducible refine wpAny_isSubtype_exc hC ?_; rw [hcB]) | wp_step)
  rw [h1]
  refine wpAny_pure ?_
  rw [if_neg (by decide)]
  exact wpAny_pure (wpAny_raiseNew_none hh hE)
theorem raise_own {A : Around} {env : Env} {ex : PySem.Expr} {pos : Pos} {Q : Flow → Shared → Prop} (hh : A.handled = none)
    (h : wpAny (model PR w) A (eval ex env) (fun v s₁ => ∃ e od vs sl, v = .ref e ∧ s₁.heap.get? 61 = some SErr ∧
      s₁.heap.get? e = some ⟨.ref 61, od, .fields vs, sl⟩ ∧ vs[1]? = some .none ∧ E (.ref e) s₁) E s) :
    wpAny (model PR w) A (exec (.Raise (some ex) none pos) env) Q E s := by
  rw [arm_exec_Raise]
  refine wpAny_bind (wpAny_standAt (raise_stmt hh ?_))
  refine wpAny_bind (wpAny_mono h (fun v s₃ h₃ => wpAny_bind (wpAny_standAt (wpAny_pure h₃))) fun _ _ x => x)
end
end Mine
end

section
open PySem PySem.W PySem.Calls PyProof.Rows PySem.Spec
namespace Mine
@[reducible] def frs (l : List Env) : List Addr := l.filterMap (·.frame)
/-- the frames of the callers stand in the heap -/
def FF (H : Heap) (l : List Env) : Prop := H.FunFrames (hideAll H (frs l)) l
/-- an exception of the program's own is on its way out -/
def Fly (l : List Env) (H : Heap) (e : Addr) (h' : Heap) : Prop := (∃ a0, Heap.FlyingW (hideAll H (frs l)) l e (.ref 61) a0 h') ∧ H.UpToSlots h'
theorem FF.nil (H : Heap) : FF H [] := trivial
section
variable {M : Model} {A : Around} {E : Value → Shared → Prop} {s' : Shared} {H h : Heap} {l : List Env} {L a e : Addr} {m : Str → Option Value} {name : Str} {scope : Scope} {cd : Value} {Q : Unit → Shared → Prop}
theorem fr_none (F : Fr H L h m) : H.get? L = none := Heap.get?_none_of_le F.above
theorem mem_frs {env : Env} {b : Addr} (he : env ∈ l) (hb : env.frame = some b) : b ∈ frs l := List.mem_filterMap.mpr ⟨env, he, hb⟩
theorem frames_any {B B' : Heap} (ff : H.FunFrames B l) (hB : ∀ b ∈ frs l, B'.get? b = none) : H.FunFrames B' l := by
  induction l with
  | nil => trivial
  | cons env r ih =>
    obtain ⟨hk, ⟨L, o, hf, _, ho, hd⟩, hr⟩ := ff
    exact ⟨hk, ⟨L, o, hf, hB L (mem_frs (.head _) hf), ho, hd⟩, ih hr fun b hb => hB b (by
      obtain ⟨e', h1, h2⟩ := List.mem_filterMap.mp hb
      exact mem_frs (.tail _ h1) h2)⟩
theorem FF.ext {h : Heap} (ff : FF H l) (k : Ext H h) : FF h l := frames_any (Heap.FunFrames.of_keeps (fun b o e _ => ⟨o, k b o e, rfl⟩) ff) fun b hb => hide_none hb
theorem FF.push (ff : FF H l) (F : Fr H L h m) (hk : scope.kind = .function := by rfl) : FF h (envOf name scope L a cd :: l) := by
  have f2 : h.FunFrames (hideAll h (frs l)) l := ff.ext F.keep
  exact Heap.FunFrames.cons (by show scope.kind ≠ .module; rw [hk]; decide) rfl F.ns (hide_none (.head _)) (frames_any f2 fun b hb => hide_none (.tail _ hb))
theorem FF.keep (ff : FF H l) {b : Addr} (hb : b ∈ frs l) : ∃ o, H.get? b = some o := by
  obtain ⟨_, o, ho, _⟩ := Heap.FunFrames.mem ff hb
  exact ⟨o, ho⟩
theorem base_frames (ff : FF H l) (F : Fr H L h m) (hk : scope.kind = .function := by rfl) : h.FunFrames (hideAll H (frs l)) (envOf name scope L a cd :: l) := by
  refine Heap.FunFrames.cons (by show scope.kind ≠ .module; rw [hk]; decide) rfl F.ns ?_ (frames_any (ff.ext F.keep) fun b hb => hide_none hb)
  cases q : (hideAll H (frs l)).get? L with
  | none => rfl
  | some o => have := of_hideAll _ q; rw [fr_none F] at this; cases this
theorem leave_new (hfr : A.frames = some l) (ff : FF H l) (F : Fr H L h m) (x : NewX h s'.heap e) (hQ : ∀ h', Fly l H e h' → Q () { s' with heap := h' }) (hk : scope.kind = .function := by rfl) :
    wpAny M (A.deeper (envOf name scope L a cd)) (leaving (envOf name scope L a cd) (.ref e)) Q E s' := by
  obtain ⟨k, hn, o, vs, a0, he, hc, hd, h0, h1⟩ := x
  have hen : (hideAll H (frs l)).get? e = none := by
    cases q : (hideAll H (frs l)).get? e with
    | none => rfl
    | some o => have := F.keep _ _ (of_hideAll _ q); rw [hn] at this; cases this
  refine wpAny_leaving_firstW (base := hideAll H (frs l)) (a0 := a0) (Around.frames_deeper hfr) (Heap.FunFrames.of_keeps (fun b o e _ => ⟨o, k b o e, rfl⟩) (base_frames ff F hk)) rfl he (fun b o q => k _ _ (F.keep _ _ (of_hideAll _ q))) hen hd h1 h0 fun h' hL => ?_
  obtain ⟨k1, ⟨_, _, k2⟩, k3, k4⟩ := hL
  exact hQ h' ⟨⟨a0, k1, hen, k2, hc ▸ k3⟩, ((Heap.UpToSlots.of_keeps F.keep).trans (Heap.UpToSlots.of_keeps k)).trans k4⟩
theorem hide_stays (F : Fr H L h m) : (hideAll H (frs l)).StaysIn (hideAll h (L :: frs l)) := fun b o q => by
  refine hideAll_get _ (F.keep _ _ (of_hideAll _ q)) fun hm => ?_
  rcases List.mem_cons.mp hm with rfl | hm
  · have := of_hideAll _ q; rw [fr_none F] at this; cases this
  · rw [hide_none hm] at q; cases q
theorem leave_on (hfr : A.frames = some l) (F : Fr H L h m) (x : Fly (envOf name scope L a cd :: l) h e s'.heap) (hQ : ∀ h', Fly l H e h' → Q () { s' with heap := h' }) :
    wpAny M (A.deeper (envOf name scope L a cd)) (leaving (envOf name scope L a cd) (.ref e)) Q E s' := by
  obtain ⟨⟨a0, hf⟩, hs⟩ := x
  exact wpAny_leaves_onW (base := hideAll H (frs l)) (Around.frames_deeper hfr) rfl (flyingW_base (hide_stays F) hf) fun h' x1 x2 => hQ h' ⟨⟨a0, x1⟩, ((Heap.UpToSlots.of_keeps F.keep).trans hs).trans x2⟩
theorem leave_onE {E₀ E' : Value → Shared → Prop} (er : Er M (A.deeper (envOf name scope L a cd)) (envOf name scope L a cd) E₀ E') (hfr : A.frames = some l) (F : Fr H L h m) (x : Fly (envOf name scope L a cd :: l) h e s'.heap) (hQ : ∀ h', Fly l H e h' → E₀ (.ref e) { s' with heap := h' }) : E' (.ref e) s' :=
  er.go _ _ (leave_on hfr F x hQ)
end
section
variable {w : World} {A₀ : Around} {E : Value → Shared → Prop} {s' : Shared} {B h : Heap} {l : List Env} {L a e : Addr} {m : Str → Option Value} {name : Str} {scope : Scope} {cd : Value}
  {b₀ : Stmt} {suite : List Stmt} {pos : Pos} {rest : List ExceptHandler} {Q : Flow → Shared → Prop} {t : PySem.Expr}
theorem caught_own (hfr : A₀.frames = some l) (X : (hd.heap_1 w.params).In B) (hB : ∀ b ∈ frs l, B.get? b = none) (F : Fr B L h m) (x : Fly (envOf name scope L a cd :: l) h e s'.heap)
    (k : ∀ h₅, Fr B L h₅ m → h.UpToSlots h₅ → wpAny (model PR w) ((A₀.deeper (envOf name scope L a cd)).mark (some (.ref e))) (eval t (envOf name scope L a cd)) (fun c s₁ => c = .ref 61 ∧ s₁ = { s' with heap := h₅ } ∧
      ∀ h₆, Fr B L h₆ m → h.UpToSlots h₆ → wpAny (model PR w) ((A₀.deeper (envOf name scope L a cd)).mark (some (.ref e))) (execs (b₀ :: suite) (envOf name scope L a cd)) Q (notedBy (model PR w) ((A₀.deeper (envOf name scope L a cd)).mark (some (.ref e))) (envOf name scope L a cd) (cameBackBy (model PR w) (A₀.deeper (envOf name scope L a cd)) (envOf name scope L a cd) E)) { s' with heap := h₆ })
        (notedBy (model PR w) ((A₀.deeper (envOf name scope L a cd)).mark (some (.ref e))) (envOf name scope L a cd) (cameBackBy (model PR w) (A₀.deeper (envOf name scope L a cd)) (envOf name scope L a cd) E)) { s' with heap := h₅ }) :
    wpAny (model PR w) (A₀.deeper (envOf name scope L a cd)) (noteFrame (.ref e) (envOf name scope L a cd))
      (fun _ s₂ => wpAny (model PR w) (A₀.deeper (envOf name scope L a cd)) (setFlight (.ref e) none) (fun _ s₃ =>
        wpAny (model PR w) (A₀.deeper (envOf name scope L a cd)) (handleBy (.ref e) (envOf name scope L a cd) (.ExceptHandler (some t) none (b₀ :: suite) pos :: rest)) Q E s₃) E s₂) E s' := by
  obtain ⟨⟨a0, hf⟩, hs⟩ := x
  have st : B.StaysIn (hideAll h (frs (envOf name scope L a cd :: l))) := fun b o q => by
    refine hideAll_get _ (F.keep _ _ q) fun hm => ?_
    rcases List.mem_cons.mp hm with rfl | hm
    · rw [fr_none F] at q; cases q
    · rw [hB _ hm] at q; cases q
  have hf := flyingW_base st hf
  refine wpAny_looks_onW (Around.frames_deeper hfr) rfl hf fun h₄ hheld₄ hsm₄ => ?_
  refine wpAny_landsW hheld₄ fun h₅ hheld hsm₅' => ?_
  have hsm₅ := hs.trans (hsm₄.trans hsm₅')
  have F₅ := F.of_stays hheld.1 hsm₅
  obtain ⟨ob, hob, hobc⟩ := hheld.there
  refine wpAny_handleBy_cons (codeAny_handlers_test (wpAny_mono (k h₅ F₅ hsm₅) (fun c s₁ h₁ => ?_) fun _ _ y => y)) (by intro q; cases q)
  obtain ⟨rfl, rfl, hk⟩ := h₁
  refine wpAny_excMatches_sub_self (serr_at (X.keeps F₅.keep)) hob hobc (by decide +kernel) (codeAny_handlers_suite ?_)
  refine lands_againW hheld fun h₆ hfl₆ hsm₆ => ?_
  exact hk h₆ (F.of_stays hfl₆.1 (hsm₅.trans hsm₆)) (hsm₅.trans hsm₆)
end
end Mine
end

section
open PySem PySem.W PySem.Calls PyProof.Rows PySem.Spec PySem.SeqAt
set_option maxHeartbeats 2000000
namespace Mine

section
variable {w : World} {mean : ExcName → Option Value} {mg mb : Str → Option Value} {dp un : Nat} {fr : Option (List Env)} {gd : Option (List Code)} {s : Shared} {Q E : Value → Shared → Prop}
theorem raise_out {H : Heap} {l : List Env} {L a : Addr} {m : Str → Option Value} {name : Str} {scope : Scope} {cd : Value} {msg : Str} {tm : Tok} {E₀ E₁ : Value → Shared → Prop} {n : Nat}
    (G : Gr w mean mg mb H) (R : Rm n dp un) (hn : 4 ≤ n) (ff : FF H l) (F : Fr H L s.heap m) (hk : scope.kind = .function)
    (hE : ∀ h' tk e, Fly l H e h' → E₀ (.ref e) { s with heap := h', toks := tk }) :
    wpAny (model PR w) ((Ar dp (some l) gd un).deeper (envOf name scope L a cd)) (call (.ref 61) [.str msg tm] []) (fun v s₁ => ∃ e od vs sl, v = .ref e ∧ s₁.heap.get? 61 = some SErr ∧ s₁.heap.get? e = some ⟨.ref 61, od, .fields vs, sl⟩ ∧ vs[1]? = some .none ∧
      wpAny (model PR w) ((Ar dp (some l) gd un).deeper (envOf name scope L a cd)) (leaving (envOf name scope L a cd) (.ref e)) (fun _ s'' => E₀ (.ref e) s'') (fun e' s'' => E₀ e' s'') s₁) E₁ s := by
  refine serr_t (G.keeps F.keep) (Rm.sub R (by omega)) fun h' tk e x => ?_
  obtain ⟨o, vs, a0, he, hc, hd, h0, h1⟩ := x.2.2
  obtain ⟨oc, od, odt, osl⟩ := o
  dsimp only at hc hd
  subst hc hd
  exact ⟨e, _, _, _, rfl, serr_at ((G.keeps F.keep).K.keeps x.1), he, h1, leave_new rfl ff F x (fun h'' fl => hE _ _ _ fl) hk⟩
theorem raise_outC {H : Heap} {l : List Env} {L a : Addr} {m : Str → Option Value} {name : Str} {scope : Scope} {cd : Value} {msg : Str} {tm : Tok} {R₀ : Result → Shared → Prop} {E₁ : Value → Shared → Prop} {n : Nat}
    (G : Gr w mean mg mb H) (R : Rm n dp un) (hn : 4 ≤ n) (ff : FF H l) (F : Fr H L s.heap m) (hk : scope.kind = .function)
    (hE : ∀ h' tk e, Fly l H e h' → R₀ (.error (.ref e)) { s with heap := h', toks := tk }) :
    wpAny (model PR w) ((Ar dp (some l) gd un).deeper (envOf name scope L a cd)) (call (.ref 61) [.str msg tm] []) (fun v s₁ => ∃ e od vs sl, v = .ref e ∧ s₁.heap.get? 61 = some SErr ∧ s₁.heap.get? e = some ⟨.ref 61, od, .fields vs, sl⟩ ∧ vs[1]? = some .none ∧
      wpAny (model PR w) ((Ar dp (some l) gd un).deeper (envOf name scope L a cd)) (leaving (envOf name scope L a cd) (.ref e)) (fun _ s'' => R₀ (.error (.ref e)) s'') (fun e' s'' => R₀ (.error e') s'') s₁) E₁ s :=
  raise_out (E₀ := fun e s => R₀ (.error e) s) G R hn ff F hk hE
theorem raise_outE {H : Heap} {l : List Env} {L a : Addr} {m : Str → Option Value} {name : Str} {scope : Scope} {cd : Value} {msg : Str} {tm : Tok} {E₀ E₁ E' : Value → Shared → Prop} {n : Nat}
    (er : Er (model PR w) ((Ar dp (some l) gd un).deeper (envOf name scope L a cd)) (envOf name scope L a cd) E₀ E')
    (G : Gr w mean mg mb H) (R : Rm n dp un) (hn : 4 ≤ n) (ff : FF H l) (F : Fr H L s.heap m) (hk : scope.kind = .function)
    (hE : ∀ h' tk e, Fly l H e h' → E₀ (.ref e) { s with heap := h', toks := tk }) :
    wpAny (model PR w) ((Ar dp (some l) gd un).deeper (envOf name scope L a cd)) (call (.ref 61) [.str msg tm] []) (fun v s₁ => ∃ e od vs sl, v = .ref e ∧ s₁.heap.get? 61 = some SErr ∧ s₁.heap.get? e = some ⟨.ref 61, od, .fields vs, sl⟩ ∧ vs[1]? = some .none ∧ E' (.ref e) s₁) E₁ s := by
  refine wpAny_mono (raise_out (E₀ := E₀) (E₁ := E₁) G R hn ff F hk hE) (fun v s₁ q => ?_) fun _ _ q => q
  obtain ⟨e, od, vs, sl, q1, q2, q3, q4, q5⟩ := q
  exact ⟨e, od, vs, sl, q1, q2, q3, q4, er.go _ _ q5⟩
end
end Mine
end

section
open PySem PySem.W PySem.Calls PyProof.Rows PySem.Spec
namespace Mine
abbrev DEC : Str := Str.ofString "0123456789"
/-- figures read in some signs -/
def figF (sg xs : List Nat) : Option Nat := xs.foldlM (fun n c => (sg.idxOf? c).map (sg.length * n + ·)) 0
def figs (sg x : Str) : Option Nat := if x.length = 0 ∨ 20 < x.length then none else figF (lst sg) (lst x)
theorem figF_app (sg xs ys : List Nat) : figF sg (xs ++ ys) = (figF sg xs).bind fun n => ys.foldlM (fun n c => (sg.idxOf? c).map (sg.length * n + ·)) n := by
  unfold figF
  rw [List.foldlM_append]
  rfl
theorem figF_step {sg xs : List Nat} {i c : Nat} (h : xs[i]? = some c) : figF sg (xs.take (i + 1)) = (figF sg (xs.take i)).bind fun n => (sg.idxOf? c).map (sg.length * n + ·) := by
  have : xs.take (i + 1) = xs.take i ++ [c] := by rw [List.take_add_one, h]; rfl
  rw [this, figF_app]
  congr 1
  funext n
  simp only [List.foldlM_cons, List.foldlM_nil]
  cases sg.idxOf? c <;> rfl
theorem figF_none {sg xs : List Nat} (i : Nat) (h : figF sg (xs.take i) = none) : figF sg xs = none := by
  rw [← List.take_append_drop i xs, figF_app, h]; rfl
theorem figs_empty {sg x : Str} (h : (x == Str.ofString "") = true) : figs sg x = none := by
  have : x = Str.ofString "" := eq_of_beq h
  subst this
  exact if_pos (.inl rfl)
theorem figs_long {sg x : Str} (h : 20 < (x.length : Int)) : figs sg x = none := if_pos (.inr (by omega))
theorem len_of_ne {x : Str} (h : (x == Str.ofString "") = false) : x.length ≠ 0 := fun e => by
  have : x = Str.ofString "" := by
    obtain ⟨⟨a⟩⟩ := x
    have : a = [] := List.length_eq_zero_iff.mp e
    subst this; rfl
  subst this
  simp at h
theorem figs_is {sg x : Str} (h : (x == Str.ofString "") = false) (h2 : ¬ 20 < (x.length : Int)) : figs sg x = figF (lst sg) (lst x) := by
  unfold figs
  rw [if_neg]
  have := len_of_ne h
  omega
theorem occ_none {sg : Str} {c : Nat} (h : (Builtin.Str.occurrences sg ⟨#[c]⟩ 0 sg.length 1).isEmpty = true) : (lst sg).idxOf? c = none := by
  have := StrLaws.found_one sg c
  rw [h] at this
  rw [List.idxOf?_eq_none_iff]
  simpa [lst] using this.symm
theorem occ_some {sg : Str} {c : Nat} (h : (Builtin.Str.occurrences sg ⟨#[c]⟩ 0 sg.length 1).isEmpty = false) : ∃ d, (lst sg).idxOf? c = some d ∧ Txt.find sg ⟨#[c]⟩ = (d : Int) ∧ d < sg.length := by
  have h1 := StrLaws.found_one sg c
  rw [h] at h1
  have hm : c ∈ sg.cps.toList := by simpa using h1.symm
  have key : ∀ i, StrLaws.At sg ⟨#[c]⟩ sg.length i ↔ sg.cps.toList[i]? = some c := fun i => StrLaws.subAt_one sg c i
  rcases find_whole sg ⟨#[c]⟩ with ⟨_, hn⟩ | ⟨i, hi, ha, hf⟩
  · obtain ⟨i, hi⟩ := List.mem_iff_getElem?.mp hm
    exact (hn i ((key i).mpr hi)).elim
  · have hi2 := (key i).mp ha
    obtain ⟨hlt, he⟩ := List.getElem?_eq_some_iff.mp hi2
    refine ⟨i, ?_, hi, by simpa [Str.length] using hlt⟩
    show sg.cps.toList.idxOf? c = some i
    rw [List.idxOf?_eq_some_iff]
    refine ⟨hlt, by simpa using he, fun j hj => ?_⟩
    have := fun q => hf j hj ((key j).mpr q)
    intro q
    exact this (List.getElem?_eq_some_iff.mpr ⟨by omega, by simpa using q⟩)
theorem fig_lt {k n d i : Nat} (hk : k ≤ 16) (hn : n < 16 ^ i) (hd : d < k) : k * n + d < 16 ^ (i + 1) := by
  have : k * n + d < k * (n + 1) := by rw [Nat.mul_add]; omega
  have h2 : k * (n + 1) ≤ 16 * 16 ^ i := Nat.mul_le_mul hk hn
  rw [Nat.pow_succ]; omega
theorem part_fits {ys : List Str} {y : Str} {i n k : Nat} (h : ∀ a, a ∈ ys → a.length ≤ n) (hy : ys[i]? = some y) (hn : n ≤ k) : y.length ≤ k := Nat.le_trans (h _ (List.mem_of_getElem? hy)) hn
end Mine
end

local macro_rules | `(tactic| walk_at "exec Raise some none") => `(tactic| refine raise_own rfl ?_)
local macro_rules | `(tactic| walk_at "call ref") => `(tactic| ((with_reducible show wpAny _ _ (call (Value.ref 61) _ _) _ _ _); (first | refine' raise_outE ?er ?G ?R ?hn ?ff ?F ?hk ?_ | refine' raise_out ?G ?R ?hn ?ff ?F ?hk ?_); (try (case er => assumption)); (case G => assumption); (case R => assumption); (case hn => omega); (case ff => assumption); (case F => assumption); (case hk => rfl); intro h' tk' e' fl'))

section
open PySem PySem.W PySem.Calls PyProof.Rows PySem.Spec PySem.SeqAt
set_option maxHeartbeats 2000000
namespace Mine

section
variable {w : World} {mean : ExcName → Option Value} {mg mb : Str → Option Value} {dp un : Nat} {fr : Option (List Env)} {gd : Option (List Code)} {s : Shared} {Q E : Value → Shared → Prop}
theorem read_figures_t {x sg : Str} {t1 t2 : Tok} {l : List Env}
    (G : Gr w mean mg mb s.heap) (R : Rm 4 dp un) (ff : FF s.heap l) (hx : x.length ≤ 65536) (hsg : sg.length ≤ 16)
    (hQ : ∀ n h' tk t', figs sg x = some n → Ext s.heap h' → n < 2 ^ 80 → Q (.int (n : Nat) t') { s with heap := h', toks := tk })
    (hE : ∀ h' tk e, figs sg x = none → Fly l s.heap e h' → E (.ref e) { s with heap := h', toks := tk }) :
    wpAny (model PR w) (Ar dp (some l) gd un) (call (.ref 145) [.str x t1, .str sg t2] []) Q E s := by
  refine' enterB [(Str.ofString "text", .str x t1), (Str.ofString "signs", .str sg t2)] ?X ?hl ?ho ?hcd ?hroom ?hb ?hloc ?hcell ?hco ?hgen ?hk ?_
  walk_at "mine enter"
  intro L h₁ tk F N hL
  have KX := G.K
  have T := G.T
  k_steps
  · exact hE _ _ _ (figs_empty (by assumption)) (by assumption)
  · exact hE _ _ _ (figs_long (by assumption)) (by assumption)
  · rename_i hne hlen _ _ _ _
    have hx0 := len_of_ne hne
    have hfs := figs_is (sg := sg) hne hlen
    refine Stop.go (for_S ?_)
    k_steps
    refine iter_str [] (fun i m ex B => ex = [] ∧ ∃ n t, figF (lst sg) ((lst x).take i) = some n ∧ n < 16 ^ i ∧ m (Str.ofString "found") = some (.int (n : Nat) t) ∧ m (Str.ofString "text") = some (.str x t1) ∧ m (Str.ofString "signs") = some (.str sg t2)) rfl (by assumption) (Ext.refl _) ⟨hL, by simp⟩ (ex₀ := []) (by assumption) ⟨rfl, 0, _, rfl, Nat.one_pos, rfl, rfl, rfl⟩ rfl rfl ?_ ?_
    · intro I i v m ex B h tk o hi hP hJ F' hBB ho N' hx'
      obtain ⟨c, u, hc, rfl⟩ := hP
      obtain ⟨rfl, n, t3, e0, e00, e1, e2, e3⟩ := hJ
      have hi20 : i < 20 := by have : x.length = x.cps.size := rfl
                               omega
      have hn80 : n < 2 ^ 80 := Nat.lt_of_lt_of_le e00 (Nat.le_trans (Nat.pow_le_pow_right (by decide) (Nat.le_of_lt hi20)) (by decide))
      have hc' : (lst x)[i]? = some c := by simpa [lst] using hc
      have hst := figF_step (sg := lst sg) hc'
      rw [e0] at hst
      k_steps
      · refine hE _ _ _ ?_ (by assumption)
        rw [hfs]
        refine figF_none (i + 1) ?_
        rw [hst, occ_none (by assumption)]
        rfl
      · have hf : (Builtin.Str.occurrences sg ⟨#[c]⟩ 0 sg.length 1).isEmpty = false := by assumption
        have ht : (Builtin.Str.occurrences sg ⟨#[c]⟩ 0 sg.length 1).isEmpty = true := by assumption
        rw [hf] at ht; cases ht
      · obtain ⟨d, hd, hfd, hdl⟩ := occ_some (sg := sg) (c := c) (by assumption)
        have hst2 : figF (lst sg) ((lst x).take (i + 1)) = some (sg.length * n + d) := by rw [hst, hd, ← lst_len sg]; rfl
        refine Stop.go ⟨_, _, _, [], B, rfl, by assumption, hBB, ho, fun p hp => News.ofMem (by assumption) hp, hx', rfl, ?_⟩
        have e5 : (sg.length : Int) * (n : Int) + Txt.find sg ⟨#[c]⟩ = ((sg.length * n + d : Nat) : Int) := by rw [hfd]; push_cast; rfl
        exact ⟨_, _, hst2, fig_lt hsg e00 hdl, congrArg (fun i => some (Value.int i _)) e5, e2, e3⟩
    · intro h tk m ex B hJ F' hBB ho N'
      obtain ⟨rfl, n, t3, e0, e00, e1, e2, e3⟩ := hJ
      k_steps
      have hfin : (lst x).take x.cps.size = lst x := List.take_of_length_le (by simp [lst])
      rw [hfin] at e0
      refine hQ n _ _ _ (by rw [hfs, e0]) F'.keep ?_
      have : x.length = x.cps.size := rfl
      exact Nat.lt_of_lt_of_le e00 (Nat.le_trans (Nat.pow_le_pow_right (by decide) (show x.cps.size ≤ 20 by omega)) (by decide))
end
end Mine
end

section
open PySem PySem.W PySem.Calls PyProof.Rows PySem.Spec
namespace Mine
def rd2 (sg : Str) (ps : List Str) (mk : Nat → Nat → Wish) : Option Wish := (figs sg (ps.getD 0 Str.empty)).bind fun a => (figs sg (ps.getD 1 Str.empty)).map fun b => mk a b
abbrev SL : Str := Str.ofString "/"
abbrev DA : Str := Str.ofString "-"
/-- the wish that a text tells -/
def readW (x : Str) : Option Wish := if (Txt.split x SL).length = 2 then rd2 HEX (Txt.split x SL) .mask else if (Txt.split x DA).length = 2 then rd2 DEC (Txt.split x DA) .range else none
section
variable {sg x y0 y1 : Str} {ps : List Str} {mk : Nat → Nat → Wish} {a b : Nat}
theorem rd2_some (h0 : ps[Int.toNat 0]? = some y0) (h1 : ps[Int.toNat 1]? = some y1) (ha : figs sg y0 = some a) (hb : figs sg y1 = some b) : rd2 sg ps mk = some (mk a b) := by
  have e0 : ps.getD 0 Str.empty = y0 := by rw [List.getD_eq_getElem?_getD]; exact congrArg (·.getD Str.empty) h0
  have e1 : ps.getD 1 Str.empty = y1 := by rw [List.getD_eq_getElem?_getD]; exact congrArg (·.getD Str.empty) h1
  unfold rd2
  rw [e0, e1, ha, hb]; rfl
theorem rd2_none0 (h0 : ps[Int.toNat 0]? = some y0) (ha : figs sg y0 = none) : rd2 sg ps mk = none := by
  have e0 : ps.getD 0 Str.empty = y0 := by rw [List.getD_eq_getElem?_getD]; exact congrArg (·.getD Str.empty) h0
  unfold rd2
  rw [e0, ha]; rfl
theorem rd2_none1 (h1 : ps[Int.toNat 1]? = some y1) (hb : figs sg y1 = none) : rd2 sg ps mk = none := by
  have e1 : ps.getD 1 Str.empty = y1 := by rw [List.getD_eq_getElem?_getD]; exact congrArg (·.getD Str.empty) h1
  unfold rd2
  rw [e1, hb]
  cases figs sg (ps.getD 0 Str.empty) <;> rfl
theorem readW_mask {l : List (Str × Tok)} (e : l.map (·.1) = Txt.split x SL) (h : (l.length : Int) = 2) : readW x = rd2 HEX (l.map (·.1)) .mask := by
  unfold readW
  rw [if_pos (by rw [← e, List.length_map]; omega), e]
theorem readW_range {l : List (Str × Tok)} (h0 : (Txt.split x SL).length ≠ 2) (e : l.map (·.1) = Txt.split x DA) (h : (l.length : Int) = 2) : readW x = rd2 DEC (l.map (·.1)) .range := by
  unfold readW
  rw [if_neg h0, if_pos (by rw [← e, List.length_map]; omega), e]
theorem readW_none (h0 : (Txt.split x SL).length ≠ 2) (h1 : (Txt.split x DA).length ≠ 2) : readW x = none := by
  unfold readW
  rw [if_neg h0, if_neg h1]
theorem split_ne2 {l : List (Str × Tok)} {y : Str} (e : l.map (·.1) = Txt.split x y) (h : (l.length : Int) ≠ 2) : (Txt.split x y).length ≠ 2 := by
  rw [← e, List.length_map]; omega
end
end Mine
end

local macro_rules | `(tactic| walk_at "call ref") => `(tactic| ((with_reducible show wpAny _ _ (call (Value.ref 145) _ _) _ _ _); refine' read_figures_t ?G ?R ?ff ?hx ?hsg ?_ ?_; (case G => exact Gr.keeps (by assumption) (Fr.keep (by assumption))); (case R => (refine' Rm.sub ?ra ?rb; (case ra => assumption); (case rb => omega))); (case ff => exact FF.push (by assumption) (by assumption)); (case hx => first | assumption | omega | exact part_fits (by assumption) (by assumption) (by assumption)); (case hsg => decide); rotate_left; (intro h' tk' e' hn' fl'; (first | refine leave_onE (by assumption) rfl (by assumption) fl' ?_ | refine leave_on rfl (by assumption) fl' ?_); intro h'' fl''); rotate_left; (intro n' h' tk' t' hn' hext hlt'; (have kF := Fr.ext (by assumption) hext); (have kN := News.ext (by assumption) hext); (try k_sweep))))

section
open PySem PySem.W PySem.Calls PyProof.Rows PySem.Spec PySem.SeqAt
set_option maxHeartbeats 2000000
namespace Mine

section
variable {w : World} {mean : ExcName → Option Value} {mg mb : Str → Option Value} {dp un : Nat} {fr : Option (List Env)} {gd : Option (List Code)} {s : Shared} {Q E : Value → Shared → Prop}
theorem read_wish_t {x : Str} {t1 : Tok} {l : List Env}
    (G : Gr w mean mg mb s.heap) (R : Rm 5 dp un) (ff : FF s.heap l) (hx : x.length ≤ 65536)
    (hQ : ∀ W h' tk a, readW x = some W → Ext s.heap h' → Reads h' (.ref a) (wishD W) [] → s.heap.get? a = none → Q (.ref a) { s with heap := h', toks := tk })
    (hE : ∀ h' tk e, readW x = none → Fly l s.heap e h' → E (.ref e) { s with heap := h', toks := tk }) :
    wpAny (model PR w) (Ar dp (some l) gd un) (call (.ref 152) [.str x t1] []) Q E s := by
  refine' enterB [(Str.ofString "text", .str x t1)] ?X ?hl ?ho ?hcd ?hroom ?hb ?hloc ?hcell ?hco ?hgen ?hk ?_
  walk_at "mine enter"
  intro L h₁ tk F N hL
  have KX := G.K
  have T := G.T
  k_steps
  refine Stop.go (for_S ?_)
  k_steps
  rename_i D1 _ _ D2 _ _ D3 h2 F2 N2 _
  obtain ⟨B2, hB2, F2', hsB, _, N2', hLB, _, hBh⟩ := refreeze (mu := []) (ex := [_, _, _]) F2 (Ext.refl s.heap) N2 hL (by simp) (Ext.refl h2)
  have hT : B2.IsTuple D3 #[.ref D1, .ref D2] := ⟨_, (by subst hB2; exact hideAll_get _ (N2 _ (.head _)).1 (by simpa using (N2 _ (.head _)).2.1)), rfl, _, rfl⟩
  clear F2 N2
  refine iter_tupleT [] (fun i m ex B => ex = [_, _, _] ∧ m (Str.ofString "text") = some (.str x t1) ∧ (1 ≤ i → (Txt.split x SL).length ≠ 2) ∧ (2 ≤ i → (Txt.split x DA).length ≠ 2)) rfl hT F2' hsB ⟨hLB, by simp⟩ (ex₀ := [_, _, _]) N2' ⟨rfl, rfl, (fun h => absurd h (by decide)), (fun h => absurd h (by decide))⟩ ?_ ?_
  · intro I i v m ex B h tk o hi hP hJ F' hBB ho N' hx'
    obtain ⟨rfl, e1, j1, j2⟩ := hJ
    rcases i with _ | _ | i
    · obtain rfl : Value.ref D1 = v := Option.some.inj hP
      dsimp only [List.cons_append, List.nil_append] at N'
      k_steps
      · refine hQ _ _ _ _ ((readW_mask (by assumption) (by assumption)).trans (rd2_some (by assumption) (by assumption) (by assumption) (by assumption))) (Fr.keep (by assumption)) ?_ (News.fresh (by assumption) (.head _))
        exact reads_mask (News.get (by assumption) (.head _)) rfl rfl
      · exact hE _ _ _ ((readW_mask (by assumption) (by assumption)).trans (rd2_none1 (by assumption) (by assumption))) (by assumption)
      · exact hE _ _ _ ((readW_mask (by assumption) (by assumption)).trans (rd2_none0 (by assumption) (by assumption))) (by assumption)
      · refine Stop.go ⟨_, _, _, _, B, rfl, by assumption, hBB, ho, fun p hp => News.ofMem (by assumption) (.tail _ hp), hx', rfl, ?_⟩
        exact ⟨e1, (fun _ => split_ne2 (by assumption) (by assumption)), fun h => absurd h (by decide)⟩
    · obtain rfl : Value.ref D2 = v := Option.some.inj hP
      dsimp only [List.cons_append, List.nil_append] at N'
      have j1' := j1 (by decide)
      k_steps
      · refine hQ _ _ _ _ ((readW_range j1' (by assumption) (by assumption)).trans (rd2_some (by assumption) (by assumption) (by assumption) (by assumption))) (Fr.keep (by assumption)) ?_ (News.fresh (by assumption) (.head _))
        exact reads_range (News.get (by assumption) (.head _)) rfl rfl
      · exact hE _ _ _ ((readW_range j1' (by assumption) (by assumption)).trans (rd2_none1 (by assumption) (by assumption))) (by assumption)
      · exact hE _ _ _ ((readW_range j1' (by assumption) (by assumption)).trans (rd2_none0 (by assumption) (by assumption))) (by assumption)
      · refine Stop.go ⟨_, _, _, _, B, rfl, by assumption, hBB, ho, fun p hp => News.ofMem (by assumption) (.tail _ hp), hx', rfl, ?_⟩
        exact ⟨e1, (fun _ => j1'), fun _ => split_ne2 (by assumption) (by assumption)⟩
    · exact absurd hi (by simp)
  · intro h tk m ex B hJ F' hBB ho N'
    obtain ⟨rfl, e1, j1, j2⟩ := hJ
    k_steps
    exact hE _ _ _ (readW_none (j1 (show 1 ≤ 2 by decide)) (j2 (show 2 ≤ 2 by decide))) (by assumption)
end
end Mine
end

section
open PySem PySem.W PySem.Calls PyProof.Rows PySem.Spec PySem.SeqAt
namespace Mine
section
variable {prog : Program} {w : World} {A : Around} {E : Value → Shared → Prop} {s : Shared} {h₀ : Heap} {L : Addr} {m : Str → Option Value} {news : List (Addr × Obj)}
theorem slice_upto {value slice : PySem.Expr} {l : Addr} {vs : List Value} {n : Nat} {t : Tok} {Q : Value → Shared → Prop}
    (F : Fr h₀ L s.heap m) (N : News h₀ L s.heap news) (hl : s.heap.IsList l vs.toArray)
    (h : ∀ h' D, Fr h₀ L h' m → News h₀ L h' ((D, { cls := .type "list", data := .seq (vs.take n).toArray }) :: news) → (∀ p ∈ news, p.1 < D) → Q (.ref D) { s with heap := h' })
    (hsz : vs.length ≤ 65537)
    (hs : subscripted slice false (.ref l) (.ref s.heap.objs.size) = operate [.ref s.heap.objs.size, .ref l] (getItem (.ref l) (.ref s.heap.objs.size)) := by with_unfolding_all rfl)
    (ht : ∀ r, letTemporaryGo value (.ref l) r = pure () := by intro _; with_unfolding_all rfl) :
    wpAny (model prog w) A (subscriptTail value slice (.ref l) (.ref s.heap.objs.size)) Q E { s with heap := s.heap.push { cls := .type "slice", data := .fields #[.none, .int n t, .none] } } := by
  have hz : vs.toArray.size ≤ sizeLine := by rw [List.size_toArray, sizeLine_eq]; omega
  refine slice_list F N hl .none (.int _ _) (fun h' F' N' => ?_) hs ht hz
  rw [slicePick_upto'] at N'
  exact h h' _ F' N' fun p hp => Nat.lt_succ_of_lt (Heap.lt_size (N p hp).1)
theorem slice_from {value slice : PySem.Expr} {l : Addr} {vs : List Value} {n : Nat} {t : Tok} {Q : Value → Shared → Prop}
    (F : Fr h₀ L s.heap m) (N : News h₀ L s.heap news) (hl : s.heap.IsList l vs.toArray)
    (h : ∀ h' D, Fr h₀ L h' m → News h₀ L h' ((D, { cls := .type "list", data := .seq (vs.drop n).toArray }) :: news) → (∀ p ∈ news, p.1 < D) → Q (.ref D) { s with heap := h' })
    (hsz : vs.length ≤ 65537)
    (hs : subscripted slice false (.ref l) (.ref s.heap.objs.size) = operate [.ref s.heap.objs.size, .ref l] (getItem (.ref l) (.ref s.heap.objs.size)) := by with_unfolding_all rfl)
    (ht : ∀ r, letTemporaryGo value (.ref l) r = pure () := by intro _; with_unfolding_all rfl) :
    wpAny (model prog w) A (subscriptTail value slice (.ref l) (.ref s.heap.objs.size)) Q E { s with heap := s.heap.push { cls := .type "slice", data := .fields #[.int n t, .none, .none] } } := by
  have hz : vs.toArray.size ≤ sizeLine := by rw [List.size_toArray, sizeLine_eq]; omega
  refine slice_list F N hl (.int _ _) .none (fun h' F' N' => ?_) hs ht hz
  rw [slicePick_from'] at N'
  exact h h' _ F' N' fun p hp => Nat.lt_succ_of_lt (Heap.lt_size (N p hp).1)
end
abbrev LET : Str := Str.ofString "let"
abbrev DROP : Str := Str.ofString "drop"
abbrev MARK : Str := Str.ofString "mark"
/-- the action that words begin with, and the words behind it -/
def readA : List Str → Option (Act × List Str)
  | [] => none
  | x :: r => if x = LET then some (.let_, r) else if x = DROP then some (.drop, r) else if x = MARK then
      match r with
      | [] => none
      | y :: r2 => (figs DEC y).map fun n => (.mark n, r2)
    else none
theorem readA_let {r : List Str} : readA (LET :: r) = some (.let_, r) := by
  unfold readA
  dsimp only
  rw [if_pos rfl]
theorem readA_drop {r : List Str} : readA (DROP :: r) = some (.drop, r) := by
  unfold readA
  dsimp only
  rw [if_neg (by decide), if_pos rfl]
theorem readA_mark1 : readA [MARK] = none := by
  unfold readA
  dsimp only
  rw [if_neg (by decide), if_neg (by decide), if_pos rfl]
theorem readA_mark {y : Str} {r : List Str} : readA (MARK :: y :: r) = (figs DEC y).map fun n => (.mark n, r) := by
  show readA (MARK :: (y :: r)) = _
  unfold readA
  dsimp only
  rw [if_neg (by decide), if_neg (by decide), if_pos rfl]
theorem readA_else {x : Str} {r : List Str} (h1 : x ≠ LET) (h2 : x ≠ DROP) (h3 : x ≠ MARK) : readA (x :: r) = none := by
  unfold readA
  dsimp only
  rw [if_neg h1, if_neg h2, if_neg h3]
theorem eqv_str (a b : Str) : PyData.eqv (.str a) (.str b) = (a == b) := rfl
theorem eqv_one (a b : Str) : PyData.eqv (.list [.str a]) (.list [.str b]) = (a == b) := by
  show (PyData.eqv (.str a) (.str b) && true) = _
  rw [Bool.and_true, eqv_str]
theorem in_two_false {x : Str} (h1 : x ≠ LET) (h2 : x ≠ DROP) : (List.any [PyData.list [PyData.str LET], PyData.list [PyData.str DROP]] fun y => PyData.eqv y (PyData.list [PyData.str x])) = false := by
  simp only [List.any_cons, List.any_nil, eqv_one, Bool.or_false, Bool.or_eq_false_iff]
  exact ⟨beq_eq_false_iff_ne.mpr (Ne.symm h1), beq_eq_false_iff_ne.mpr (Ne.symm h2)⟩
theorem ne_mark {x : Str} (h : x ≠ MARK) : (!PyData.eqv (PyData.list [PyData.str x]) (PyData.list [PyData.str MARK])) = true := by
  rw [eqv_one, beq_eq_false_iff_ne.mpr h]; rfl
theorem shaped_one {x : Str} (h : PyData.strOk x = true) : shaped (PyData.list [PyData.str x]) = true := by
  show ((PyData.strOk x && true) && decide _) = true
  rw [h]
  rfl
end Mine
end

section
open PySem PySem.W PySem.Calls PyProof.Rows PySem.Spec PySem.SeqAt
set_option maxHeartbeats 2000000
namespace Mine

section
variable {w : World} {mean : ExcName → Option Value} {mg mb : Str → Option Value} {dp un : Nat} {fr : Option (List Env)} {gd : Option (List Code)} {s : Shared} {Q E : Value → Shared → Prop}
local macro_rules | `(tactic| walk_at "mine list") => `(tactic| first | assumption | exact Fr.lst (by assumption) (by assumption) | (refine' News.isList ?rN ?rm; (case rN => assumption); (case rm => k_mem)))
local macro_rules | `(tactic| walk_at "subscriptTail Name Slice ref ref") => `(tactic| first
  | ((with_unfolding_all refine' slice_upto ?F ?N ?hl ?_ ?hz); (case F => assumption); (case N => assumption); (case hl => walk_at "mine list"); (case hz => first | assumption | (simp only [List.length_cons, List.length_nil, List.length_map] at *; omega)); intro h' D' F' N' l'; (try dsimp only [List.take_succ_cons, List.take_zero] at N'); (try k_sweep))
  | ((with_unfolding_all refine' slice_from ?F ?N ?hl ?_ ?hz); (case F => assumption); (case N => assumption); (case hl => walk_at "mine list"); (case hz => first | assumption | (simp only [List.length_cons, List.length_nil, List.length_map] at *; omega)); intro h' D' F' N' l'; (try dsimp only [List.drop_succ_cons, List.drop_zero] at N'); (try k_sweep)))
local macro_rules | `(tactic| walk_at "compareOp NotEq ref ref") => `(tactic| k_dflt (first | (refine' ne_anyB true ?rc ?rx ?hc ?hd ?hu ?hb ?_; walk_at "mine tup"; (case hb => first | assumption | kernel_rfl!)) | (refine' ne_anyB false ?rc ?rx ?hc ?hd ?hu ?hb ?_; walk_at "mine tup"; (case hb => first | assumption | kernel_rfl!))))
local macro_rules | `(tactic| walk_at "compareOp In ref ref") => `(tactic| k_dflt (first | (refine' in_tupB true ?rc ?rx ?hc ?hd ?hu ?hb ?_; walk_at "mine tup"; (case hb => first | assumption | kernel_rfl!)) | (refine' in_tupB false ?rc ?rx ?hc ?hd ?hu ?hb ?_; walk_at "mine tup"; (case hb => first | assumption | kernel_rfl!))))
local macro_rules | `(tactic| walk_at "subscriptTail Name Constant ref int") => `(tactic| k_dflt (((with_unfolding_all refine' item_lst ?hl ?h0 ?hk ?hz ?_ ?hs); (case hs => with_unfolding_all rfl); (case hl => walk_at "mine list"); (case h0 => decide); (case hk => first | (simp only [List.length_cons]; omega) | (simp only [List.length_cons, List.length_nil] at *; omega)); (case hz => (simp only [List.length_cons, List.length_nil, List.length_map] at *; omega)); intro v' hv'; cases (Option.some.inj hv'))))
local macro_rules | `(tactic| walk_at "call builtin:len") => `(tactic| ((with_unfolding_all refine' len_list ?hl ?hz ?_); (case hl => walk_at "mine list"); (case hz => first | (simp only [List.size_toArray, List.length_cons, List.length_nil, List.length_map] at *; omega) | (simp only [List.size_toArray, List.length_cons, List.length_nil, List.length_map, sizeLine_eq] at *; omega)); (try simp only [List.size_toArray, List.length_cons, List.length_nil])))
theorem read_action_t {a : Addr} {lv : List (Str × Tok)} {l : List Env}
    (G : Gr w mean mg mb s.heap) (R : Rm 5 dp un) (ff : FF s.heap l) (hl : s.heap.IsList a (strValues lv).toArray) (hx : ∀ y, y ∈ lv.map (·.1) → y.length ≤ 65536) (hok : ∀ y, y ∈ lv.map (·.1) → PyData.strOk y = true) (hn : lv.length ≤ 65536)
    (hQ : ∀ (b : Act) (lr : List (Str × Tok)) h' tk D D2 v n n2, readA (lv.map (·.1)) = some (b, lr.map (·.1)) → (∃ k, lr = lv.drop k) → Ext s.heap h' → h'.get? D = some { cls := .type "tuple", data := .seq #[v, .ref D2] n } → Reads h' v (actD b) [] → h'.get? D2 = some { cls := .type "list", data := .seq (strValues lr).toArray n2 } → s.heap.get? D = none → s.heap.get? D2 = none → Q (.ref D) { s with heap := h', toks := tk })
    (hE : ∀ h' tk e, readA (lv.map (·.1)) = none → Fly l s.heap e h' → E (.ref e) { s with heap := h', toks := tk }) :
    wpAny (model PR w) (Ar dp (some l) gd un) (call (.ref 159) [.ref a] []) Q E s := by
  refine' enterB [(Str.ofString "words", .ref a)] ?X ?hl ?ho ?hcd ?hroom ?hb ?hloc ?hcell ?hco ?hgen ?hk ?_
  walk_at "mine enter"
  intro L h₁ tk F N hL
  have KX := G.K
  have T := G.T
  have hz : (strValues lv).length ≤ 65536 := by rw [strValues, List.length_map]; exact hn
  rcases lv with _ | ⟨⟨x1, u1⟩, r⟩
  · dsimp only [strValues, List.map_nil] at hl
    k_steps
    exact hE _ _ _ rfl (by assumption)
  · by_cases h1 : x1 = LET
    · subst h1
      dsimp only [strValues, List.map_cons] at hl
      k_steps
      exact hQ .let_ r _ _ _ _ _ _ _ readA_let ⟨1, rfl⟩ (Fr.keep (by assumption)) (News.get (by assumption) (.head _)) (.str _ _) (News.get (by assumption) (.tail _ (.head _))) (News.fresh (by assumption) (.head _)) (News.fresh (by assumption) (.tail _ (.head _)))
    · by_cases h2 : x1 = DROP
      · subst h2
        dsimp only [strValues, List.map_cons] at hl
        k_steps
        exact hQ .drop r _ _ _ _ _ _ _ readA_drop ⟨1, rfl⟩ (Fr.keep (by assumption)) (News.get (by assumption) (.head _)) (.str _ _) (News.get (by assumption) (.tail _ (.head _))) (News.fresh (by assumption) (.head _)) (News.fresh (by assumption) (.tail _ (.head _)))
      · have hf := in_two_false h1 h2
        by_cases h3 : x1 = MARK
        · subst h3
          rcases r with _ | ⟨⟨x2, u2⟩, r⟩
          · dsimp only [strValues, List.map_cons, List.map_nil] at hl
            k_steps
            · exact hE _ _ _ readA_mark1 (by assumption)
            · rename_i q
              exact absurd (show (1 : Int) < 2 by decide) q
          · dsimp only [strValues, List.map_cons] at hl
            have hx2 : x2.length ≤ 65536 := hx _ (by simp)
            k_steps
            · rename_i q _ _ _ _
              simp only [List.map_cons, List.length_cons] at q
              omega
            · have key : ∀ n, figs (Str.ofString "0123456789") x2 = some n → readA (List.map (fun x => x.1) ((MARK, u1) :: (x2, u2) :: r)) = some (.mark n, r.map (·.1)) := fun n hn => readA_mark.trans (congrArg (Option.map _) hn)
              refine hQ (.mark _) r _ _ _ _ _ _ _ (key _ (by assumption)) ⟨2, rfl⟩ (Fr.keep (by assumption)) (News.get (by assumption) (.head _)) ?_ (News.get (by assumption) (.tail _ (.head _))) (News.fresh (by assumption) (.head _)) (News.fresh (by assumption) (.tail _ (.head _)))
              exact reads_tuple_at (News.get (by assumption) (.tail _ (.tail _ (.head _)))) rfl rfl (.cons (.str _ _) (.cons (.int _ _) .nil))
            · refine hE _ _ _ ?_ (by assumption)
              exact readA_mark.trans (congrArg (Option.map _) (by assumption))
        · have hf3 := ne_mark h3
          have hs1 := shaped_one (hok x1 (.head _))
          dsimp only [strValues, List.map_cons] at hl
          k_steps
          exact hE _ _ _ (readA_else h1 h2 h3) (by assumption)
end
end Mine
end

section
open PySem PySem.W PySem.Calls PyProof.Rows PySem.Spec PySem.SeqAt
set_option maxHeartbeats 2000000
namespace Mine

section
variable {w : World} {mean : ExcName → Option Value} {mg mb : Str → Option Value} {dp un : Nat} {fr : Option (List Env)} {gd : Option (List Code)} {s : Shared} {Q E : Value → Shared → Prop}
local macro_rules | `(tactic| walk_at "testChain int cons cons") => `(tactic| with_unfolding_all refine test_link ?_)
theorem le_top {m bits : Nat} : ((m : Int) ≤ 1 * 2 ^ ((bits : Nat) : Int).toNat - 1) ↔ m < 2 ^ bits := by
  have he : ((2 : Int) ^ ((bits : Nat) : Int).toNat) = ((2 ^ bits : Nat) : Int) := by rw [Int.toNat_natCast]; push_cast; rfl
  rw [he]
  omega
theorem check_wish_t {W : Wish} {v : Value} {bits : Nat} {t : Tok} {as : List Addr} {l : List Env}
    (G : Gr w mean mg mb s.heap) (R : Rm 4 dp un) (ff : FF s.heap l) (hv : Reads s.heap v (wishD W) as) (hb : bits ≤ 48) (h1 : W.lo < 2 ^ 80) (h2 : W.hi < 2 ^ 80)
    (hQ : ∀ h' tk, W.fits bits → Ext s.heap h' → Q .none { s with heap := h', toks := tk })
    (hE : ∀ h' tk e, ¬ W.fits bits → Fly l s.heap e h' → E (.ref e) { s with heap := h', toks := tk }) :
    wpAny (model PR w) (Ar dp (some l) gd un) (call (.ref 70) [v, .int bits t] []) Q E s := by
  obtain ⟨a, t1, t2, t3, rfl, rfl, hT⟩ := wish_open hv
  refine' enterB [(Str.ofString "wish", .ref a), (Str.ofString "bits", .int bits t)] ?X ?hl ?ho ?hcd ?hroom ?hb ?hloc ?hcell ?hco ?hgen ?hk ?_
  walk_at "mine enter"
  intro L h₁ tk F N hL
  have KX := G.K
  have T := G.T
  have hp : 1 ≤ 2 ^ bits := Nat.one_le_two_pow
  cases W with
  | mask x m =>
    dsimp only [Wish.lo, Wish.hi] at h1 h2 hT
    k_steps
    · have q : Builtin.bitAnd (x : Int) (m : Int) ≠ x := by assumption
      rw [and_nat] at q
      exact hE _ _ _ (fun z => q (by rw [z.1])) (by assumption)
    · have q1 : (m : Int) ≤ 1 * 2 ^ ((bits : Nat) : Int).toNat - 1 := by assumption
      have q2 : Builtin.bitAnd (x : Int) (m : Int) = x := by assumption
      rw [and_nat] at q2
      exact hQ _ _ ⟨by omega, le_top.mp q1⟩ (Fr.keep (by assumption))
    · have q : ¬ (m : Int) ≤ 1 * 2 ^ ((bits : Nat) : Int).toNat - 1 := by assumption
      exact hE _ _ _ (fun z => q (le_top.mpr z.2)) (by assumption)
  | range x m =>
    dsimp only [Wish.lo, Wish.hi] at h1 h2 hT
    k_steps
    · have q1 : (x : Int) ≤ m := by assumption
      have q2 : (m : Int) ≤ 1 * 2 ^ ((bits : Nat) : Int).toNat - 1 := by assumption
      exact hQ _ _ ⟨by omega, le_top.mp q2⟩ (Fr.keep (by assumption))
    · have q : ¬ (m : Int) ≤ 1 * 2 ^ ((bits : Nat) : Int).toNat - 1 := by assumption
      exact hE _ _ _ (fun z => q (le_top.mpr z.2)) (by assumption)
    · have q : ¬ (x : Int) ≤ m := by assumption
      exact hE _ _ _ (fun z => q (by have := z.1; omega)) (by assumption)
end
end Mine
end

section
open PySem PySem.W PySem.Calls PyProof.Rows PySem.Spec PySem.SeqAt
namespace Mine
abbrev IK (w : World) : PySem.KeyKind PR w Int := intKind PR w
theorem ints_of_keys {kvs : List (Int × Value)} : ∀ {vs : List Value}, vs.length = kvs.length → (∀ (j : Nat) (v : Value), vs[j]? = some v → ∃ k x, kvs[j]? = some (k, x) ∧ Value.isInt k v = true) → IntsAre vs (kvs.map (·.1)) := by
  induction kvs with
  | nil => intro vs h _; rw [List.length_eq_zero_iff.mp h]; exact .nil
  | cons p r ih =>
    intro vs h hk
    match vs, h with
    | v :: vs, h =>
      obtain ⟨k, x, e, hi⟩ := hk 0 v rfl
      cases Option.some.inj e
      obtain ⟨t, rfl⟩ := Value.isInt_shape hi
      exact .cons k t (ih (by simpa using h) fun j u hu => hk (j + 1) u hu)
section
variable {w : World} {A : Around} {E : Value → Shared → Prop} {s : Shared} {h₀ : Heap} {L d : Addr} {m : Str → Option Value} {news : List (Addr × Obj)} {kvs : List (Int × Value)}
theorem dict_sorted {Q : Value → Shared → Prop} (hh : A.handled = none) (F : Fr h₀ L s.heap m) (N : News h₀ L s.heap news) (lo : (d == sysModules) = false) (hD : s.heap.DictOf (IK w) d kvs) (h64 : kvs.length < 64)
    (h : ∀ D vs' ns' e h' tk, Fr h₀ L h' m → News h₀ L h' ((D, seqObj "list" (List.toArray vs') e) :: news) → (∀ p ∈ news, p.1 < D) → IntsAre vs' ns' → ns'.Perm (kvs.map (·.1)) → ns'.Pairwise (· ≤ ·) → Q (.ref D) { s with heap := h', toks := tk }) :
    wpAny (model PR w) A (call (.builtin "sorted") [.ref d]) Q E s := by
  obtain ⟨ep, hat⟩ := hD.dictAt
  refine kdu_sorted (kdl_dict (knd := IK w) (kvs := kvs) (ep := ep) lo) hh F N hat (by rw [sizeLine_eq]; omega) fun B h' tk vs F' N' l1 hl hv => ?_
  have hI : IntsAre vs (kvs.map (·.1)) := ints_of_keys hl hv
  have z := N' (B, listOf vs.toArray 0) (.head _)
  have ho : h'.get? B = some (seqObj "list" vs.toArray 0) := z.1
  refine wpAny_call_entry PyProof.Rows.slot_list_sort ⟨_, z.1, rfl⟩ PyProof.Rows.entry_list_sort (list_sort_tree (n := 0) (vs := vs) ho hI (by omega) fun out ns' hI' hp hP => ⟨.none, rfl, ?_⟩) (PyProof.Rows.args_list_sort _)
  obtain ⟨e, he⟩ := sortedHeap_at (vs := vs) (out := out) ho
  obtain ⟨F2, N2⟩ := upd1 (h' := sortedHeap h' B vs out) F' N' (fun b ob hb hg => by rw [sortedHeap_old hb (Heap.lt_size hg)]; exact hg) he (fun p hp => Nat.ne_of_lt (l1 p hp))
  exact h B out.toList ns' e _ _ F2 (by rw [Array.toArray_toList]; exact N2) l1 hI' hp hP
theorem dict_copy {Q : Value → Shared → Prop} (F : Fr h₀ L s.heap m) (N : News h₀ L s.heap news) (hbig : h₀.NoLimit) (lo : (d == sysModules) = false) (hD : s.heap.DictOf (IK w) d kvs) (hz : kvs.length < 64)
    (h : ∀ D o h', Fr h₀ L h' m → News h₀ L h' ((D, o) :: news) → (∀ p ∈ news, p.1 < D) → (D == sysModules) = false → o.IsDictOf (IK w) kvs → Q (.ref D) { s with heap := h' }) :
    wpAny (model PR w) A (call (.type "dict") [.ref d]) Q E s := by
  refine kt_call_dict (knd := IK w) lo hD (by rw [sizeLine_eq]; omega) fun h' hm hs => ?_
  obtain ⟨o', ho', hd'⟩ := Heap.dictOf_iff.mp hm
  have N1 := News.push F N { cls := .type "dict", data := .dict #[] }
  exact h _ o' h' ((F.push _).change hs (N1 _ (.head _)).2.1 (N1.fresh (.head _))) (N1.setHead N.apart hs ho') (fun p hp => Heap.lt_size (N p hp).1) (F.notModules (modules_low hbig)) hd'
theorem dict_item {value slice : PySem.Expr} {k : Int} {t : Tok} {v : Value} {Q : Value → Shared → Prop} (hD : s.heap.DictOf (IK w) d kvs) (hv : valueAt kvs k = some v) (h : Q v { s with toks := s.toks + 1 })
    (hs : subscripted slice false (.ref d) (.int k t) = operate [.ref d, .int k t] (getItem (.ref d) (.int k t)) := by with_unfolding_all rfl) :
    wpAny (model PR w) A (subscriptTail value slice (.ref d) (.int k t)) Q E s :=
  tail_any hD.typeIs slot_dict_getitem.lookup (wpAny_getItem_of (knd := IK w) (by show Value.isInt k (.int k t) = true; simp [Value.isInt]) hD.mapOf hv h) hs
theorem dict_in {k : Int} {t : Tok} {Q : Value → Shared → Prop} (lo : (d == sysModules) = false) (hD : s.heap.DictOf (IK w) d kvs) (h : Q (.bool (valueAt kvs k).isSome) { s with toks := s.toks + 1 }) :
    wpAny (model PR w) A (compareOp .In (.int k t) (.ref d)) Q E s :=
  wpAny_in_of (knd := IK w) (by show Value.isInt k (.int k t) = true; simp [Value.isInt]) lo hD.mapOf h
theorem dict_set {k : Int} {t : Tok} {v : Value} {o : Obj} {u : Obj → List (Addr × Obj)} {Q : Unit → Shared → Prop} (F : Fr h₀ L s.heap m) (N : News h₀ L s.heap news) (U : UpdF d o news u) (ho : o.IsDictOf (IK w) kvs) (hz : kvs.length < 64)
    (h : ∀ h' o', Fr h₀ L h' m → News h₀ L h' (u o') → o'.IsDictOf (IK w) (stored kvs k v) → Q () { s with heap := h', toks := s.toks + 1 }) :
    wpAny (model PR w) A (setItem (.ref d) (.int k t) v) Q E s := by
  obtain ⟨own, rest, rfl, hg, h1, h2⟩ := U.split
  have z := N (d, o) (List.mem_append_right _ (.head _))
  refine wpAny_setItem_pairs (knd := IK w) (k := k) (by show Value.isInt k (.int k t) = true; simp [Value.isInt]) (Heap.dictOf_iff.mpr ⟨o, z.1, ho⟩) (fun h' hm hs => ?_) (by rw [sizeLine_eq]; omega)
  obtain ⟨o', ho', hd'⟩ := Heap.dictOf_iff.mp hm
  refine h h' o' (F.change hs z.2.1 z.2.2) (fun p hp => ?_) hd'
  rw [hg o'] at hp
  rcases List.mem_append.mp hp with q | q
  · have P := N p (List.mem_append_left _ q); exact ⟨(hs.2 _ (h1 p q)).trans P.1, P.2⟩
  · rcases List.mem_cons.mp q with rfl | q
    · exact ⟨ho', z.2⟩
    · have P := N p (List.mem_append_right _ (.tail _ q)); exact ⟨(hs.2 _ (h2 p q)).trans P.1, P.2⟩
end
end Mine
end

section
open PySem PySem.W PySem.Calls PyProof.Rows PySem.Spec PySem.SeqAt
namespace Mine
/-- the bits of the field at a place -/
def bitsOf (k : Nat) : Nat := (fields.getD k (Str.empty, 0)).2
def nameOf (k : Nat) : Str := (fields.getD k (Str.empty, 0)).1
/-- a dict's wishes, as they stand in the heap -/
inductive Held (h : Heap) : List (Int × Value) → List (Nat × Wish) → Prop
  | nil : Held h [] []
  | cons {k : Nat} {v : Value} {W : Wish} {kvs : List (Int × Value)} {ws : List (Nat × Wish)} : Reads h v (wishD W) [] → Held h kvs ws → Held h (((k : Int), v) :: kvs) ((k, W) :: ws)
theorem Held.keeps {h h' : Heap} (k : Ext h h') : ∀ {kvs : List (Int × Value)} {ws : List (Nat × Wish)}, Held h kvs ws → Held h' kvs ws
  | _, _, .nil => .nil
  | _, _, .cons r x => .cons (Reads.keeps k r) (x.keeps k)
theorem Held.len {h : Heap} : ∀ {kvs : List (Int × Value)} {ws : List (Nat × Wish)}, Held h kvs ws → kvs.length = ws.length
  | _, _, .nil => rfl
  | _, _, .cons _ x => by simp [x.len]
theorem Held.keys {h : Heap} : ∀ {kvs : List (Int × Value)} {ws : List (Nat × Wish)}, Held h kvs ws → kvs.map (·.1) = ws.map (fun p => (p.1 : Int))
  | _, _, .nil => rfl
  | _, _, .cons _ x => by simp [x.keys]
/-- the wish at a place -/
def wishAt (ws : List (Nat × Wish)) (k : Nat) : Option Wish := (ws.find? fun p => p.1 = k).map (·.2)
theorem Held.at {h : Heap} {k : Nat} {W : Wish} : ∀ {kvs : List (Int × Value)} {ws : List (Nat × Wish)}, Held h kvs ws → wishAt ws k = some W → ∃ v, valueAt kvs (k : Int) = some v ∧ Reads h v (wishD W) []
  | _, _, .nil, e => by cases e
  | _, _, .cons (k := k') (v := v) (W := W') (kvs := kvs) (ws := ws) r x, e => by
    unfold wishAt at e
    rw [List.find?_cons] at e
    by_cases hk : k' = k
    · subst hk
      rw [decide_eq_true rfl] at e
      cases e
      refine ⟨v, ?_, r⟩
      unfold valueAt
      rw [List.find?_cons, decide_eq_true rfl]; rfl
    · rw [decide_eq_false hk] at e
      obtain ⟨v', e1, e2⟩ := x.at (k := k) (W := W) e
      refine ⟨v', ?_, e2⟩
      unfold valueAt
      rw [List.find?_cons, decide_eq_false (by omega)]
      exact e1
theorem Held.some_iff {h : Heap} {k : Nat} : ∀ {kvs : List (Int × Value)} {ws : List (Nat × Wish)}, Held h kvs ws → (valueAt kvs (k : Int)).isSome = (wishAt ws k).isSome
  | _, _, .nil => rfl
  | _, _, .cons (k := k') (v := v) (W := W') (kvs := kvs) (ws := ws) r x => by
    have ih := x.some_iff (k := k)
    unfold wishAt valueAt at *
    rw [List.find?_cons, List.find?_cons]
    by_cases hk : k' = k
    · subst hk
      rw [decide_eq_true rfl, decide_eq_true rfl]; rfl
    · rw [decide_eq_false hk, decide_eq_false (by omega)]
      exact ih
theorem Held.snoc {h : Heap} {k : Nat} {v : Value} {W : Wish} (r : Reads h v (wishD W) []) : ∀ {kvs : List (Int × Value)} {ws : List (Nat × Wish)}, Held h kvs ws → Held h (kvs ++ [((k : Int), v)]) (ws ++ [(k, W)])
  | _, _, .nil => .cons r .nil
  | _, _, .cons r' x => .cons r' (x.snoc r)
theorem Held.stored {h : Heap} {k : Nat} {v : Value} {W : Wish} {kvs : List (Int × Value)} {ws : List (Nat × Wish)} (x : Held h kvs ws) (r : Reads h v (wishD W) []) (hn : wishAt ws k = none) : Held h (PySem.stored kvs (k : Int) v) (ws ++ [(k, W)]) := by
  have : kvs.any (fun kv => kv.1 = (k : Int)) = false := by
    have h1 := x.some_iff (k := k)
    rw [hn] at h1
    unfold valueAt at h1
    rw [Option.isSome_map] at h1
    rw [Bool.eq_false_iff]
    intro hc
    have h2 : (kvs.find? fun kv => decide (kv.1 = (k : Int))).isSome = true := List.find?_isSome.mpr (by simpa using hc)
    rw [h2] at h1; cases h1
  unfold PySem.stored
  rw [if_neg (by rw [this]; decide)]
  exact x.snoc r
theorem wishAt_mem {ws : List (Nat × Wish)} {k : Nat} (h : k ∈ ws.map (·.1)) : ∃ W, wishAt ws k = some W ∧ (k, W) ∈ ws := by
  induction ws with
  | nil => cases h
  | cons p r ih =>
    unfold wishAt
    rw [List.find?_cons]
    by_cases hk : p.1 = k
    · subst hk
      rw [decide_eq_true rfl]
      exact ⟨p.2, rfl, .head _⟩
    · rw [decide_eq_false hk]
      rcases List.mem_cons.mp h with e | e
      · exact absurd e.symm hk
      · obtain ⟨W, h1, h2⟩ := ih e
        exact ⟨W, h1, .tail _ h2⟩
/-- a rule that AclRule takes -/
def ruleOk (a : Act) (ws : List (Nat × Wish)) : Prop := (∀ p ∈ ws, p.2.fits (bitsOf p.1)) ∧ ∀ n, a = .mark n → n ≤ 7
end Mine
end

section
open PySem PySem.W PySem.Calls PyProof.Rows PySem.Spec PySem.SeqAt
namespace Mine
theorem Fly.base {l : List Env} {H H' h' : Heap} {e : Addr} (k : Ext H H') (x : Fly l H' e h') : Fly l H e h' := by
  obtain ⟨⟨a0, hf⟩, hs⟩ := x
  refine ⟨⟨a0, flyingW_base (fun b o q => ?_) hf⟩, (Heap.UpToSlots.of_keeps k).trans hs⟩
  exact hideAll_get _ (k _ _ (of_hideAll _ q)) fun hm => by rw [hide_none hm] at q; cases q
section
variable {w : World} {mean : ExcName → Option Value} {mg mb : Str → Option Value} {A : Around} {s : Shared} {R : Result → Shared → Prop}
/-- a def is entered (as code); what stands at mu may change -/
theorem enterMC (mu : List Addr) (ex : List (Addr × Obj)) {Bz : Heap} {name qual : Str} {params : Arguments} {body : List Stmt} {scope : Scope} {dV kV doc pm cdv ct oc : Value} {an od : Option Addr} {osl : Array (Option Value)} {f : Addr} {pos : List Value} {kw : List (Str × Value)} (binds : List (Str × Value))
    (G : Gr w mean mg mb Bz) (hBz : Ext Bz s.heap) (hmu : ∀ a ∈ mu, Bz.get? a = none) (hex : ∀ p ∈ ex, s.heap.get? p.1 = some p.2 ∧ p.1 ∈ mu)
    (ho : (hd.heap_1 w.params).lookup f = some ⟨oc, od, .func (fnOf name qual params body scope dV kV doc pm an cdv ct), osl⟩) (hcd : codeIn (hd.heap_1 w.params) cdv qual = true) (hroom : A.depth < recursionLimit)
    (hbind : BindsTo s (fnOf name qual params body scope dV kV doc pm an cdv ct) ⟨pos, kw⟩ binds) (hloc : ∀ y ∈ binds, scope.names.lookup y.1 = some .local)
    (hcell : ∀ x ∈ scope.names, x.2 ≠ .cell)
    (hco : scope.isCoroutine = false) (hgen : scope.isGenerator = false) (hk : scope.kind = .function)
    (h : ∀ g L h₁ tk, Gr w mean mg mb g → Ext Bz g → Off mu s.heap g → Ext g s.heap → (∀ a ∈ mu, g.get? a = none) → Fr g L h₁ (fun y => binds.reverse.lookup y) → News g L h₁ (ex ++ dif g g) → g.get? L = none →
      wpAny (model PR w) (A.deeper (envOf qual scope L f cdv)) (execs body (envOf qual scope L f cdv))
        (fun fl s' => R (.ok (.ret (match fl with | .ret v => v | _ => .none))) s')
        (fun e s' => wpAny (model PR w) (A.deeper (envOf qual scope L f cdv)) (leaving (envOf qual scope L f cdv) e) (fun _ s'' => R (.error e) s'') (fun e' s'' => R (.error e') s'') s')
        { s with heap := h₁, toks := tk }) :
    codeAny (model PR w) A (.call (.ref f) ⟨pos, kw⟩) R s := by
  have G' := G.keeps hBz
  refine codeAny_call_def (fd := fnOf name qual params body scope dV kV doc pm an cdv ct) (body := body) (binds := binds) hroom (G'.K _ _ ho) rfl G'.T.nolimit (codeRec_of G'.K hcd) rfl hbind hcell hloc (fun h₁ hns hk₁ => ?_) hco hgen hk
  have hg : Ext Bz (hideAll s.heap mu) := fun b o e => hideAll_get _ (hBz _ _ e) fun hm => by rw [hmu _ hm] at e; cases e
  have hsz : (hideAll s.heap mu).objs.size = s.heap.objs.size := hideAll_size _ _
  refine h (hideAll s.heap mu) s.heap.objs.size h₁ _ (G.keeps hg) hg (fun b o n e => hideAll_get _ e n) (ext_hide _) (fun a ha => hide_none ha) ⟨hns, fun b o e => hk₁ b o (of_hideAll _ e), Nat.le_of_eq hsz⟩ ?_ (Heap.get?_none_of_le (Nat.le_of_eq hsz))
  rw [dif_self, List.append_nil]
  exact fun p hp => ⟨hk₁ _ _ (hex p hp).1, Nat.ne_of_lt (Heap.lt_size (hex p hp).1), hide_none (hex p hp).2⟩
end
section
variable {w : World} {A : Around} {E : Value → Shared → Prop} {s : Shared} {Q : Value → Shared → Prop}
abbrev bitsT : Array Value := #[.int 48 205, .int 48 206, .int 16 207, .int 12 208, .int 3 209, .int 32 210, .int 32 211, .int 8 212, .int 16 213, .int 16 214]
theorem bits_tup {w : World} {h : Heap} (X : (hd.heap_1 w.params).In h) : ∃ items, IsTup h 23 items ∧ ∀ k < 10, ∃ t, items[k]? = some (.int (bitsOf k) t) := by
  refine ⟨_, ⟨_, X 23 _ (by k_is), rfl, _, rfl⟩, fun k hk => ?_⟩
  rcases k with _ | _ | _ | _ | _ | _ | _ | _ | _ | _ | k <;> first | exact ⟨_, rfl⟩ | omega
theorem names_tup {w : World} {h : Heap} (X : (hd.heap_1 w.params).In h) : ∃ items, IsTup h 22 items ∧ ∀ k < 10, ∃ t, items[k]? = some (.str (nameOf k) t) := by
  refine ⟨_, ⟨_, X 22 _ (by k_is), rfl, _, rfl⟩, fun k hk => ?_⟩
  rcases k with _ | _ | _ | _ | _ | _ | _ | _ | _ | _ | k <;> first | exact ⟨_, rfl⟩ | omega
theorem bits_item {value slice : PySem.Expr} {k : Nat} {u : Tok} (X : (hd.heap_1 w.params).In s.heap) (hk : k < 10) (h : ∀ t, Q (.int (bitsOf k) t) s)
    (hs : subscripted slice false (.ref 23) (.int k u) = operate [.ref 23, .int k u] (getItem (.ref 23) (.int k u)) := by with_unfolding_all rfl) (hg : ∀ r, letTemporaryGo value (.ref 23) r = pure () := by intro _; with_unfolding_all rfl) :
    wpAny (model PR w) A (subscriptTail value slice (.ref 23) (.int k u)) Q E s := by
  obtain ⟨items, ht, hi⟩ := bits_tup X
  obtain ⟨t, e⟩ := hi k hk
  have hlt : k < items.size := (Array.getElem?_eq_some_iff.mp e).1
  exact item_tuple ht (by omega) (by omega) (by unfold seqIndex?; simp [hlt, show ¬ ((k : Int) < 0) from by omega]) e (h t) hs hg
theorem names_item {value slice : PySem.Expr} {k : Nat} {u : Tok} (X : (hd.heap_1 w.params).In s.heap) (hk : k < 10) (h : ∀ t, Q (.str (nameOf k) t) s)
    (hs : subscripted slice false (.ref 22) (.int k u) = operate [.ref 22, .int k u] (getItem (.ref 22) (.int k u)) := by with_unfolding_all rfl) (hg : ∀ r, letTemporaryGo value (.ref 22) r = pure () := by intro _; with_unfolding_all rfl) :
    wpAny (model PR w) A (subscriptTail value slice (.ref 22) (.int k u)) Q E s := by
  obtain ⟨items, ht, hi⟩ := names_tup X
  obtain ⟨t, e⟩ := hi k hk
  have hlt : k < items.size := (Array.getElem?_eq_some_iff.mp e).1
  exact item_tuple ht (by omega) (by omega) (by unfold seqIndex?; simp [hlt, show ¬ ((k : Int) < 0) from by omega]) e (h t) hs hg
end
theorem ints_get {vs : List Value} {ns : List Int} (h : IntsAre vs ns) : ∀ {i : Nat} {v : Value}, vs[i]? = some v → ∃ n t, v = .int n t ∧ ns[i]? = some n := by
  induction h with
  | nil => intro i v e; simp at e
  | cons n t _ ih =>
    intro i v e
    cases i with
    | zero => exact ⟨n, t, (Option.some.inj e).symm, rfl⟩
    | succ i => exact ih (by simpa using e)
theorem bits_le (k : Nat) : bitsOf k ≤ 48 := by
  unfold bitsOf
  rcases k with _ | _ | _ | _ | _ | _ | _ | _ | _ | _ | k <;> first | decide | exact Nat.zero_le _
theorem key_of {ns' : List Int} {kvs : List (Int × Value)} {ws : List (Nat × Wish)} {h : Heap} {i : Nat} {n : Int} (hW : Held h kvs ws) (hp : ns'.Perm (kvs.map (·.1))) (hi : ns'[i]? = some n) : ∃ k W, n = (k : Nat) ∧ wishAt ws k = some W ∧ (k, W) ∈ ws := by
  have hm := hp.mem_iff.mp (List.mem_of_getElem? hi)
  rw [hW.keys] at hm
  obtain ⟨p, hp1, hp2⟩ := List.mem_map.mp hm
  obtain ⟨W, e1, e2⟩ := wishAt_mem (List.mem_map.mpr ⟨p, hp1, rfl⟩)
  exact ⟨p.1, W, hp2.symm, e1, e2⟩
theorem bits_getD {k : Nat} (hk : k < 10) : ([48, 48, 16, 12, 3, 32, 32, 8, 16, 16] : List Int).getD ((k : Nat) : Int).toNat 0 = ((bitsOf k : Nat) : Int) := by
  rw [Int.toNat_natCast]
  rcases k with _ | _ | _ | _ | _ | _ | _ | _ | _ | _ | k <;> first | rfl | omega
theorem names_getD {k : Nat} (hk : k < 10) : (fields.map (·.1)).getD ((k : Nat) : Int).toNat Str.empty = nameOf k := by
  rw [Int.toNat_natCast]
  rcases k with _ | _ | _ | _ | _ | _ | _ | _ | _ | _ | k <;> first | rfl | omega
abbrev ruleD (w : World) (t1 t2 : Tok) (va : Value) (D : Addr) : Obj := dictOf [{ hash := PyData.keyHash w.params (Str.ofString "action"), key := Value.str (Str.ofString "action") t1, val := va }, { hash := PyData.keyHash w.params (Str.ofString "wishes"), key := Value.str (Str.ofString "wishes") t2, val := Value.ref D }] 2
theorem allFit {ws : List (Nat × Wish)} {kvs : List (Int × Value)} {ns' : List Int} {h : Heap} {n : Nat} (hW : Held h kvs ws) (hp : ns'.Perm (kvs.map (·.1))) (hn : n = ns'.length) (hnd : (ws.map (·.1)).Nodup)
    (j1 : ∀ j < n, ∀ k : Nat, ns'[j]? = some (k : Int) → ∀ W, wishAt ws k = some W → W.fits (bitsOf k)) : ∀ p ∈ ws, p.2.fits (bitsOf p.1) := by
  intro p hpw
  have hm : (p.1 : Int) ∈ ns' := hp.mem_iff.mpr (by rw [hW.keys]; exact List.mem_map.mpr ⟨p, hpw, rfl⟩)
  obtain ⟨j, hj⟩ := List.mem_iff_getElem?.mp hm
  have hlt : j < n := by rw [hn]; exact (List.getElem?_eq_some_iff.mp hj).1
  refine j1 j hlt p.1 hj p.2 ?_
  clear j1 hj hlt hm hp hn hW
  induction ws with
  | nil => cases hpw
  | cons q r ih =>
    unfold wishAt
    rw [List.find?_cons]
    rw [List.map_cons, List.nodup_cons] at hnd
    rcases List.mem_cons.mp hpw with rfl | hpw
    · rw [decide_eq_true rfl]; rfl
    · have : q.1 ≠ p.1 := fun e => hnd.1 (e ▸ List.mem_map.mpr ⟨p, hpw, rfl⟩)
      rw [decide_eq_false this]
      exact ih hnd.2 hpw
end Mine
end

section
open PySem PySem.W PySem.Calls PyProof.Rows PySem.Spec PySem.SeqAt
set_option maxHeartbeats 2000000
namespace Mine

section
variable {w : World} {mean : ExcName → Option Value} {mg mb : Str → Option Value} {dp un : Nat} {fr : Option (List Env)} {gd : Option (List Code)} {s : Shared} {Q E : Value → Shared → Prop}
theorem acl_init_c {x dx d : Addr} {o : Obj} {kvs : List (Int × Value)} {ws : List (Nat × Wish)} {a : Act} {va : Value} {as : List Addr} {l : List Env} {R' : Result → Shared → Prop} {Bz : Heap}
    (G₀ : Gr w mean mg mb Bz) (hBz : Ext Bz s.heap) (hx0 : Bz.get? x = none) (hdx0 : Bz.get? dx = none) (hx : s.heap.get? x = some (instObj 106 dx)) (hdx : s.heap.get? dx = some (dictOf [] 0)) (hne : @LT.lt Nat _ dx x)
    (R : Rm 5 dp un) (ff : FF Bz l) (ha : Reads Bz va (actD a) as) (lo : (d == sysModules) = false) (hd : Bz.get? d = some o) (ho : o.IsDictOf (IK w) kvs) (hW : Held Bz kvs ws)
    (hk : ∀ p ∈ ws, p.1 < 10) (hnd : (ws.map (·.1)).Nodup) (hn : ws.length < 64) (hw : ∀ p ∈ ws, p.2.lo < 2 ^ 80 ∧ p.2.hi < 2 ^ 80) (hm : ∀ n, a = .mark n → n < 2 ^ 80)
    (hQ : ∀ h' tk D o' t1 t2, ruleOk a ws → Ext Bz h' → h'.get? x = some (instObj 106 dx) → h'.get? dx = some (ruleD w t1 t2 va D) → h'.get? D = some o' → o'.IsDictOf (IK w) kvs → (D == sysModules) = false → @LT.lt Nat _ dx D → @LT.lt Nat _ x D → R' (.ok (.ret .none)) { s with heap := h', toks := tk })
    (hE : ∀ h' tk e, ¬ ruleOk a ws → Fly l Bz e h' → R' (.error (.ref e)) { s with heap := h', toks := tk }) :
    codeAny (model PR w) (Ar dp (some l) gd un) (.call (.ref 84) ⟨[.ref x, va, .ref d], []⟩) R' s := by
  refine' enterMC [x, dx] [(x, instObj 106 dx), (dx, dictOf [] 0)] [(Str.ofString "self", .ref x), (Str.ofString "action", va), (Str.ofString "wishes", .ref d)] G₀ hBz (by simpa using ⟨hx0, hdx0⟩) (by simpa using ⟨hx, hdx⟩) ?ho ?hcd ?hroom ?hb ?hloc ?hcell ?hco ?hgen ?hk ?_
  walk_at "mine enterM"
  intro g L h₁ tk G hBg hOg hgs hgm F N hL
  have KX := G.K
  have T := G.T
  try dsimp only [List.cons_append, List.nil_append] at N
  have hgx : g.get? x = none := hgm _ (.head _)
  have hgd : g.get? dx = none := hgm _ (.tail _ (.head _))
  have ffg : FF g l := ff.ext hBg
  have hdg : g.get? d = some o := hBg _ _ hd
  k_steps
  have hDg : ∀ {h'}, Ext g h' → h'.DictOf (IK w) d kvs := fun k => Heap.dictOf_iff.mpr ⟨o, k _ _ hdg, ho⟩
  have hWg := hW.keeps hBg
  have hag := Reads.keeps hBg ha
  refine Stop.go (for_S ?_)
  k_steps
  refine dict_sorted rfl (by assumption) (by assumption) lo (hDg (Fr.keep (by assumption))) (by rw [hW.len]; exact hn) fun D vs' ns' e h2 tk2 F2 N2 l2 hI hp hs => ?_
  obtain ⟨B2, hB2, F2', hsB, _, N2', hLB, hmB, hBh⟩ := refreeze (mu := [x, dx]) (ex := [_, _, _]) F2 (Ext.refl g) N2 hL hgm (Ext.refl h2)
  have zD := N2 _ (.head _)
  have hT : B2.IsList D vs'.toArray := ⟨_, (by subst hB2; exact hideAll_get _ zD.1 (by
    have q1 := l2 _ (.head _)
    have q2 := l2 _ (.tail _ (.head _))
    simp only [List.mem_cons, List.not_mem_nil, or_false, not_or]
    exact ⟨zD.2.1, Nat.ne_of_gt q1, Nat.ne_of_gt q2⟩)), rfl, _, rfl⟩
  refine iter_list [x, dx] (fun i m ex B => ex = [_, _, _] ∧ m (Str.ofString "self") = some (.ref x) ∧ m (Str.ofString "action") = some va ∧ m (Str.ofString "wishes") = some (.ref d) ∧ ∀ j < i, ∀ k : Nat, ns'[j]? = some (k : Int) → ∀ W, wishAt ws k = some W → W.fits (bitsOf k)) rfl hT F2' hsB ⟨hLB, hmB⟩ (ex₀ := [_, _, _]) N2' ⟨rfl, rfl, rfl, rfl, fun j hj => absurd hj (Nat.not_lt_zero _)⟩ rfl rfl ?_ ?_
  · intro I i v m ex B h tk oI hi hP hJ F' hBB hoff N' hx'
    obtain ⟨rfl, e1, e2, e3, j1⟩ := hJ
    dsimp only [List.cons_append, List.nil_append] at N'
    obtain ⟨n, tn, rfl, hni⟩ := ints_get hI (by simpa using hP)
    obtain ⟨k, W, rfl, hWk, hWm⟩ := key_of hW hp hni
    obtain ⟨vk, hvk, rk⟩ := hWg.at hWk
    have hk10 : k < 10 := hk _ hWm
    k_steps
    refine dict_item (hDg (Fr.keep (by assumption))) hvk ?_
    k_steps
    rw [bits_getD hk10]
    refine check_wish_t (Gr.keeps G (Fr.keep (by assumption))) (Rm.sub R (by omega)) (ffg.push (by assumption)) (Reads.keeps (Fr.keep (by assumption)) rk) (bits_le k) (hw _ hWm).1 (hw _ hWm).2 (fun h' tk' hf hext => ?_) fun h' tk' e' hnf fl => ?_
    · have kF := Fr.ext (by assumption) hext
      have kN := News.ext (by assumption) hext
      k_steps
      refine Stop.go ⟨_, _, _, _, B, rfl, by assumption, hBB, hoff, fun p hp => News.ofMem (by assumption) hp, hx', rfl, ?_⟩
      refine ⟨e1, e2, e3, fun j hj k' hk' W' hW' => ?_⟩
      rcases Nat.lt_succ_iff_lt_or_eq.mp hj with hj | rfl
      · exact j1 j hj k' hk' W' hW'
      · rw [hni] at hk'
        have : k = k' := Int.ofNat.inj (Option.some.inj hk')
        subst this
        rw [hWk] at hW'; cases hW'
        exact hf
    · refine leave_on rfl (by assumption) fl fun h'' fl'' => ?_
      exact hE _ _ _ (fun z => hnf (z.1 _ hWm)) (fl''.base hBg)
  · intro h tk m ex B hJ F' hBB hoff N'
    obtain ⟨rfl, e1, e2, e3, j1⟩ := hJ
    dsimp only [List.cons_append, List.nil_append] at N'
    have hBx : B.get? x = none := hoff.2 _ (.head _)
    have hBd : B.get? dx = none := hoff.2 _ (.tail _ (.head _))
    have lD : @LT.lt Nat _ x D ∧ @LT.lt Nat _ dx D := ⟨l2 _ (.head _), l2 _ (.tail _ (.head _))⟩
    have hfit := allFit hW hp (by rw [List.size_toArray]; exact hI.length) hnd j1
    cases a with
    | let_ =>
      k_steps
      refine dict_copy (by assumption) (by assumption) T.nolimit lo (hDg (Fr.keep (by assumption))) (by rw [hW.len]; exact hn) fun D' o' h3 F3 N3 l3 lo3 ho3 => ?_
      have lD' : @LT.lt Nat _ dx D' := l3 _ (.tail _ (.tail _ (.tail _ (.head _))))
      have lDx : @LT.lt Nat _ x D' := l3 _ (.tail _ (.tail _ (.head _)))
      k_steps
      refine hQ _ _ D' o' _ _ ⟨hfit, fun n q => by cases q⟩ (fun b o e => Fr.keep (by assumption) _ _ (hBg b o e)) (News.get (by assumption) (.tail _ (.tail _ (.tail _ (.head _))))) (News.get (by assumption) (.tail _ (.tail _ (.tail _ (.tail _ (.head _)))))) (News.get (by assumption) (.head _)) ho3 lo3 lD' lDx
    | drop =>
      k_steps
      refine dict_copy (by assumption) (by assumption) T.nolimit lo (hDg (Fr.keep (by assumption))) (by rw [hW.len]; exact hn) fun D' o' h3 F3 N3 l3 lo3 ho3 => ?_
      have lD' : @LT.lt Nat _ dx D' := l3 _ (.tail _ (.tail _ (.tail _ (.head _))))
      have lDx : @LT.lt Nat _ x D' := l3 _ (.tail _ (.tail _ (.head _)))
      k_steps
      refine hQ _ _ D' o' _ _ ⟨hfit, fun n q => by cases q⟩ (fun b o e => Fr.keep (by assumption) _ _ (hBg b o e)) (News.get (by assumption) (.tail _ (.tail _ (.tail _ (.head _))))) (News.get (by assumption) (.tail _ (.tail _ (.tail _ (.tail _ (.head _)))))) (News.get (by assumption) (.head _)) ho3 lo3 lD' lDx
    | mark n =>
      have hn80 := hm n rfl
      obtain ⟨am, t1, t2, rfl, rfl, hTm⟩ := mark_open hag
      k_steps
      · refine dict_copy (by assumption) (by assumption) T.nolimit lo (hDg (Fr.keep (by assumption))) (by rw [hW.len]; exact hn) fun D' o' h3 F3 N3 l3 lo3 ho3 => ?_
        have lD' : @LT.lt Nat _ dx D' := l3 _ (.tail _ (.tail _ (.tail _ (.head _))))
        have lDx : @LT.lt Nat _ x D' := l3 _ (.tail _ (.tail _ (.head _)))
        have hn7 : (n : Int) ≤ 7 := by assumption
        k_steps
        refine hQ _ _ D' o' _ _ ⟨hfit, fun k q => by cases q; omega⟩ (fun b o e => Fr.keep (by assumption) _ _ (hBg b o e)) (News.get (by assumption) (.tail _ (.tail _ (.tail _ (.head _))))) (News.get (by assumption) (.tail _ (.tail _ (.tail _ (.tail _ (.head _)))))) (News.get (by assumption) (.head _)) ho3 lo3 lD' lDx
      · refine raise_outC G R (by omega) ffg (by assumption) rfl fun h' tk e' fl => ?_
        have hn7 : ¬ (n : Int) ≤ 7 := by assumption
        exact hE _ _ _ (fun z => hn7 (by have := z.2 n rfl; omega)) (fl.base hBg)
end
end Mine
end

section
open PySem PySem.W PySem.Calls PyProof.Rows PySem.Spec PySem.SeqAt
set_option maxHeartbeats 2000000
namespace Mine

section
variable {w : World} {mean : ExcName → Option Value} {mg mb : Str → Option Value} {dp un : Nat} {fr : Option (List Env)} {gd : Option (List Code)} {s : Shared} {Q E : Value → Shared → Prop}
/-- a rule, as it stands in the heap -/
structure RuleAt (w : World) (h : Heap) (x dx D : Addr) (o' : Obj) (va : Value) (t1 t2 : Tok) (kvs : List (Int × Value)) (a : Act) (ws : List (Nat × Wish)) : Prop where
  x_ : h.get? x = some (instObj 106 dx)
  dx_ : h.get? dx = some (ruleD w t1 t2 va D)
  D_ : h.get? D = some o'
  dict : o'.IsDictOf (IK w) kvs
  low : (D == sysModules) = false
  lt1 : @LT.lt Nat _ dx x
  lt2 : @LT.lt Nat _ x D
  act : ∃ as, Reads h va (actD a) as
  held : Held h kvs ws
theorem rule_new_t {d : Addr} {o : Obj} {kvs : List (Int × Value)} {ws : List (Nat × Wish)} {a : Act} {va : Value} {as : List Addr} {l : List Env}
    (G : Gr w mean mg mb s.heap) (R : Rm 6 dp un) (ff : FF s.heap l) (ha : Reads s.heap va (actD a) as) (lo : (d == sysModules) = false) (hd : s.heap.get? d = some o) (ho : o.IsDictOf (IK w) kvs) (hW : Held s.heap kvs ws)
    (hk : ∀ p ∈ ws, p.1 < 10) (hnd : (ws.map (·.1)).Nodup) (hn : ws.length < 64) (hw : ∀ p ∈ ws, p.2.lo < 2 ^ 80 ∧ p.2.hi < 2 ^ 80) (hm : ∀ n, a = .mark n → n < 2 ^ 80)
    (hQ : ∀ h' tk x dx D o' t1 t2, ruleOk a ws → Ext s.heap h' → s.heap.get? x = none → s.heap.get? dx = none → RuleAt w h' x dx D o' va t1 t2 kvs a ws → s.heap.get? D = none → Q (.ref x) { s with heap := h', toks := tk })
    (hE : ∀ h' tk e, ¬ ruleOk a ws → Fly l s.heap e h' → E (.ref e) { s with heap := h', toks := tk }) :
    wpAny (model PR w) (Ar dp (some l) gd un) (call (.ref 106) [va, .ref d] []) Q E s := by
  obtain ⟨h, g, dr, t, os⟩ := s
  have X := G.K
  have hi : findIn (Mine.hd.heap_1 w.params) (.ref 106) "__init__" = some (some (.ref 84)) := by k_is
  have hf : typeIn (Mine.hd.heap_1 w.params) (.ref 84) = some (.type "function") := by k_is
  have hmk : makesIn (Mine.hd.heap_1 w.params) 106 = true := by k_is
  have k0 : Ext h ((h.push emptyDict).push (instObj 106 h.objs.size)) := fun b o e => Heap.get?_push_of_some _ (Heap.get?_push_of_some _ e)
  have hu : (Code.builtin "type.__call__" ⟨[.ref 106, va, .ref d], []⟩).cUnits ≤ 7 := Nat.le_of_ble_eq_true (by kernel_rfl)
  have hw1 : (Code.builtin "type.__call__" ⟨[.ref 106, va, .ref d], []⟩).weight ≤ 1 := Nat.le_of_ble_eq_true (by kernel_rfl)
  refine wpAny_call (make_core (makes_of X hmk) (looks_findIn X hi) (fun self => bind_fn X self hf) (.inl rfl) ?_)
  refine acl_init_c (x := h.objs.size + 1) (dx := h.objs.size) (s := ⟨_, g, dr, t, os⟩) G k0 (Heap.get?_none_of_le (Nat.le_succ _)) (Heap.get?_none_of_le (Nat.le_refl _)) ?_ ?_ (Nat.lt_succ_self _) ⟨?_, ?_⟩ ff ha lo hd ho hW hk hnd hn hw hm ?_ ?_
  · have := Heap.get?_push_size (h.push emptyDict) (o := instObj 106 h.objs.size) rfl
    rwa [Heap.size_push] at this
  · exact Heap.get?_push_of_some _ (Heap.get?_push_size h rfl)
  · have := R.depth; show dp + _ + 5 < _; omega
  · have := R.units; show un + _ + _ < _; omega
  · intro h' tk D o' t1 t2 hok k h1 h2 h3 h4 h5 h6 h7
    exact ⟨rfl, hQ _ _ _ _ D o' t1 t2 hok k (Heap.get?_none_of_le (Nat.le_succ _)) (Heap.get?_none_of_le (Nat.le_refl _)) ⟨h1, h2, h3, h4, h5, Nat.lt_succ_self _, h7, ⟨_, Reads.keeps k ha⟩, hW.keeps k⟩ (Heap.get?_none_of_le (Nat.le_of_lt (Nat.lt_trans (Nat.lt_succ_self _) h7)))⟩
  · intro h' tk e hok fl
    exact hE _ _ _ hok fl
end
end Mine
end

section
open PySem PySem.W PySem.Calls PyProof.Rows PySem.Spec PySem.SeqAt
namespace Mine
def placeOf (x : Str) : Option Nat := (fields.map (·.1)).idxOf? x
/-- pairs of a field's name and its wish -/
def readF : List Str → List (Nat × Wish) → Option (List (Nat × Wish))
  | [], acc => some acc
  | [_], _ => none
  | x :: y :: r, acc => (placeOf x).bind fun p => if (wishAt acc p).isSome then none else (readW y).bind fun W => readF r (acc ++ [(p, W)])
theorem readF_odd : ∀ {n : Nat} {xs : List Str} {acc : List (Nat × Wish)}, xs.length = 2 * n + 1 → readF xs acc = none := by
  intro n
  induction n with
  | zero =>
    intro xs acc h
    match xs, h with
    | [x], _ => rfl
  | succ n ih =>
    intro xs acc h
    match xs, h with
    | x :: y :: r, h =>
      have hr : r.length = 2 * n + 1 := by simp only [List.length_cons] at h; omega
      unfold readF
      cases placeOf x with
      | none => rfl
      | some p =>
        show (if (wishAt acc p).isSome = true then none else (readW y).bind fun W => readF r (acc ++ [(p, W)])) = none
        split
        · rfl
        · cases readW y with
          | none => rfl
          | some W => exact ih hr
/-- a text tells a rule -/
def Tells (x : Str) (a : Act) (ws : List (Nat × Wish)) : Prop := ∃ r, readA (Txt.words x) = some (a, r) ∧ readF r [] = some ws ∧ ruleOk a ws
section
variable {xs : List Str} {acc : List (Nat × Wish)} {i : Nat} {x y : Str}
theorem drop_two (h0 : xs[2 * i]? = some x) (h1 : xs[2 * i + 1]? = some y) : xs.drop (2 * i) = x :: y :: xs.drop (2 * (i + 1)) := by
  obtain ⟨a, ha⟩ := List.getElem?_eq_some_iff.mp h0
  obtain ⟨b, hb⟩ := List.getElem?_eq_some_iff.mp h1
  rw [List.drop_eq_getElem_cons a, List.drop_eq_getElem_cons b, ha, hb]
  rfl
theorem readF_name (h0 : xs[2 * i]? = some x) (h1 : xs[2 * i + 1]? = some y) (hp : placeOf x = none) : readF (xs.drop (2 * i)) acc = none := by
  rw [drop_two h0 h1]; unfold readF; rw [hp]; rfl
theorem readF_twice {p : Nat} (h0 : xs[2 * i]? = some x) (h1 : xs[2 * i + 1]? = some y) (hp : placeOf x = some p) (ht : (wishAt acc p).isSome = true) : readF (xs.drop (2 * i)) acc = none := by
  rw [drop_two h0 h1]; unfold readF; rw [hp]
  show (if (wishAt acc p).isSome = true then none else _) = none
  rw [if_pos ht]
theorem readF_wish {p : Nat} (h0 : xs[2 * i]? = some x) (h1 : xs[2 * i + 1]? = some y) (hp : placeOf x = some p) (hw : readW y = none) : readF (xs.drop (2 * i)) acc = none := by
  rw [drop_two h0 h1]; unfold readF; rw [hp]
  show (if (wishAt acc p).isSome = true then none else (readW y).bind fun W => readF _ (acc ++ [(p, W)])) = none
  rw [hw]
  split <;> rfl
theorem readF_next {p : Nat} {W : Wish} (h0 : xs[2 * i]? = some x) (h1 : xs[2 * i + 1]? = some y) (hp : placeOf x = some p) (ht : (wishAt acc p).isSome = false) (hw : readW y = some W) : readF (xs.drop (2 * i)) acc = readF (xs.drop (2 * (i + 1))) (acc ++ [(p, W)]) := by
  rw [drop_two h0 h1]
  show (placeOf x).bind _ = _
  rw [hp]
  show (if (wishAt acc p).isSome = true then none else (readW y).bind fun W => readF _ (acc ++ [(p, W)])) = _
  rw [if_neg (by rw [ht]; decide), hw]
  rfl
end
@[reducible] def namesT : PyData := .tuple [.str (Str.ofString "target"), .str (Str.ofString "source"), .str (Str.ofString "kind"), .str (Str.ofString "vlan"), .str (Str.ofString "priority"), .str (Str.ofString "ip_source"), .str (Str.ofString "ip_target"), .str (Str.ofString "protocol"), .str (Str.ofString "source_port"), .str (Str.ofString "target_port")]
theorem names_reads {w : World} {h : Heap} (X : (hd.heap_1 w.params).In h) : Reads h (.ref 22) namesT [] := by
  refine reads_tuple_at (X 22 _ (by k_is)) rfl rfl ?_
  exact .cons (.str _ _) (.cons (.str _ _) (.cons (.str _ _) (.cons (.str _ _) (.cons (.str _ _) (.cons (.str _ _) (.cons (.str _ _) (.cons (.str _ _) (.cons (.str _ _) (.cons (.str _ _) .nil)))))))))
theorem any_names {x : Str} : ∀ {ns : List Str}, ((ns.map PyData.str).any fun y => PyData.eqv y (.str x)) = (ns.idxOf? x).isSome
  | [] => rfl
  | n :: ns => by
    rw [List.map_cons, List.any_cons, any_names (ns := ns), eqv_str, List.idxOf?_cons]
    by_cases h : n = x
    · subst h; simp
    · rw [beq_eq_false_iff_ne.mpr h]
      simp
theorem shaped_str {x : Str} (h : PyData.strOk x = true) : shaped (PyData.str x) = true := by
  show (PyData.strOk x && decide _) = true
  rw [h]
  rfl
theorem news_new {h₀ h h2 : Heap} {L D : Addr} {m : Str → Option Value} {o : Obj} {news : List (Addr × Obj)} (F : Fr h₀ L h m) (hf : h.get? D = none) (hD : h2.get? D = some o) (N : News h₀ L h2 news) : News h₀ L h2 ((D, o) :: news) := fun p hp => by
  rcases List.mem_cons.mp hp with rfl | hp
  · refine ⟨hD, fun q => ?_, ?_⟩
    · obtain ⟨ob, es, ep, hz, _⟩ := F.ns
      have q' : D = L := q
      rw [q', hz] at hf; cases hf
    · cases q : h₀.get? D with
      | none => rfl
      | some ob => have := F.keep _ _ q; rw [hf] at this; cases this
  · exact N p hp
section
variable {prog : Program} {w : World} {A : Around} {E : Value → Shared → Prop} {s : Shared}
theorem strs_item {value slice : PySem.Expr} {l : Addr} {lr : List (Str × Tok)} {k : Int} {j : Nat} {u0 : Tok} {Q : Value → Shared → Prop} (hL : s.heap.IsList l (strValues lr).toArray) (hj : k = (j : Int)) (hlt : j < lr.length) (hlen : lr.length ≤ 65536) (h : ∀ y u, (lr.map (·.1))[j]? = some y → Q (.str y u) s)
    (hs : subscripted slice false (.ref l) (.int k u0) = operate [.ref l, .int k u0] (getItem (.ref l) (.int k u0)) := by with_unfolding_all rfl) :
    wpAny (model prog w) A (subscriptTail value slice (.ref l) (.int k u0)) Q E s := by
  subst hj
  have hz : (strValues lr).length = lr.length := by rw [strValues, List.length_map]
  refine item_lst hL (by omega) (by rw [hz]; omega) (by rw [hz]; omega) (fun v hv => ?_) hs
  rw [Int.toNat_natCast, strValues, List.getElem?_map] at hv
  cases e : lr[j]? with
  | none => rw [e] at hv; cases hv
  | some p =>
    rw [e] at hv
    obtain rfl : Value.str p.1 p.2 = v := Option.some.inj hv
    exact h _ _ (by rw [List.getElem?_map, e]; rfl)
end
theorem nodup_le : ∀ {k : Nat} {xs : List Nat}, xs.Nodup → (∀ x ∈ xs, x < k) → xs.length ≤ k := by
  intro k
  induction k with
  | zero =>
    intro xs _ h
    cases xs with
    | nil => exact Nat.le_refl _
    | cons a r => exact absurd (h a (.head _)) (Nat.not_lt_zero _)
  | succ k ih =>
    intro xs hn h
    by_cases hk : k ∈ xs
    · have h1 := List.length_erase_of_mem hk
      have h2 := ih (hn.erase k) fun x hx => by
        have := (hn.mem_erase_iff).mp hx
        have := h x this.2
        omega
      omega
    · have := ih hn fun x hx => by
        have h1 := h x hx
        have : x ≠ k := fun e => hk (e ▸ hx)
        omega
      omega
theorem figF_lt {sg : List Nat} (hs : sg.length ≤ 16) : ∀ {xs : List Nat} {n m i : Nat}, n < 16 ^ i → xs.foldlM (fun n c => (sg.idxOf? c).map (sg.length * n + ·)) n = some m → m < 16 ^ (i + xs.length)
  | [], n, m, i, hn, e => by cases e; simpa using hn
  | c :: r, n, m, i, hn, e => by
    rw [List.foldlM_cons] at e
    cases hc : sg.idxOf? c with
    | none => rw [hc] at e; cases e
    | some d =>
      rw [hc] at e
      have hd : d < sg.length := by
        obtain ⟨hlt, _⟩ := List.idxOf?_eq_some_iff.mp hc
        exact hlt
      have := figF_lt hs (i := i + 1) (fig_lt hs hn hd) e
      rw [List.length_cons, show i + (r.length + 1) = i + 1 + r.length by omega]
      exact this
theorem figs_lt {sg x : Str} {n : Nat} (hs : sg.length ≤ 16) (h : figs sg x = some n) : n < 2 ^ 80 := by
  unfold figs at h
  split at h
  · cases h
  · rename_i q
    have h1 := figF_lt (sg := lst sg) (by rw [lst_len]; exact hs) (i := 0) Nat.one_pos h
    rw [Nat.zero_add, lst_len] at h1
    exact Nat.lt_of_lt_of_le h1 (Nat.le_trans (Nat.pow_le_pow_right (by decide) (show x.length ≤ 20 by omega)) (by decide))
theorem rd2_lt {sg : Str} {ps : List Str} {mk : Nat → Nat → Wish} {W : Wish} (hs : sg.length ≤ 16) (h : rd2 sg ps mk = some W) : ∃ a b, W = mk a b ∧ a < 2 ^ 80 ∧ b < 2 ^ 80 := by
  unfold rd2 at h
  cases h1 : figs sg (ps.getD 0 Str.empty) with
  | none => rw [h1] at h; cases h
  | some a =>
    cases h2 : figs sg (ps.getD 1 Str.empty) with
    | none => rw [h1, h2] at h; cases h
    | some b =>
      rw [h1, h2] at h
      exact ⟨a, b, (Option.some.inj h).symm, figs_lt hs h1, figs_lt hs h2⟩
theorem readW_lt {x : Str} {W : Wish} (h : readW x = some W) : W.lo < 2 ^ 80 ∧ W.hi < 2 ^ 80 := by
  unfold readW at h
  split at h
  · obtain ⟨a, b, rfl, ha, hb⟩ := rd2_lt (by decide) h
    exact ⟨ha, hb⟩
  · split at h
    · obtain ⟨a, b, rfl, ha, hb⟩ := rd2_lt (by decide) h
      exact ⟨ha, hb⟩
    · cases h
theorem placeOf_lt {x : Str} {p : Nat} (h : placeOf x = some p) : p < 10 := by
  obtain ⟨hlt, _⟩ := List.idxOf?_eq_some_iff.mp h
  exact hlt
theorem readA_lt {xs r : List Str} {n : Nat} (h : readA xs = some (.mark n, r)) : n < 2 ^ 80 := by
  unfold readA at h
  split at h
  · cases h
  · split at h
    · cases h
    · split at h
      · cases h
      · split at h
        · split at h
          · cases h
          · rename_i y r2
            cases h1 : figs DEC y with
            | none => rw [h1] at h; cases h
            | some m =>
              rw [h1] at h
              cases h
              exact figs_lt (by decide) h1
        · cases h
theorem wishAt_snoc {ws : List (Nat × Wish)} {p : Nat} {W : Wish} (hn : wishAt ws p = none) (hnd : (ws.map (·.1)).Nodup) : ((ws ++ [(p, W)]).map (·.1)).Nodup := by
  rw [List.map_append, List.nodup_append]
  refine ⟨hnd, by simp, fun a ha b hb => ?_⟩
  have hb' : b = p := by simpa using hb
  subst hb'
  intro e
  subst e
  obtain ⟨W', h1, _⟩ := wishAt_mem ha
  rw [hn] at h1; cases h1
section
variable {w : World} {A : Around} {E : Value → Shared → Prop} {s : Shared}
theorem notin_names {x : Str} {u : Tok} {Q : Value → Shared → Prop} (X : (hd.heap_1 w.params).In s.heap) (hok : PyData.strOk x = true) (hu : A.units + 65 < cLine) (h : Q (.bool (!(placeOf x).isSome)) s) :
    wpAny (model PR w) A (compareOp .NotIn (.str x u) (.ref 22)) Q E s := by
  refine notin_tupB _ (names_reads X) (.str x u) (by kernel_rfl) (shaped_str hok) hu ?_ h
  have h1 := any_names (x := x) (ns := fields.map (fun p : Str × Nat => p.1))
  exact congrArg not h1
end
end Mine
end

section
open PySem PySem.W PySem.Calls PyProof.Rows PySem.Spec PySem.SeqAt
namespace Mine
section
variable {prog : Program} {w : World} {A : Around} {E : Value → Shared → Prop} {h : Heap} {g : Array GenState} {d : Drawn} {t : Nat} {os : OsState}
def idxBody (ns : List (Str × Tok)) (x : Value) (i : Nat) (s : Option PySem.Fin × PUnit) : Sem (ForInStep (Option PySem.Fin × PUnit)) :=
  match (strValues ns).toArray[i]? with
  | some y => do
    let b ← eqBool y x
    if b = true then do
      let r ← retInt i
      pure (ForInStep.done (some r, ()))
    else pure (ForInStep.yield (none, ()))
  | none => pure (ForInStep.yield (none, ()))
theorem idx_loop {ns : List (Str × Tok)} {x : Str} {u : Tok} {p : Nat} {s : Shared} {Q : Option PySem.Fin × PUnit → Shared → Prop} (hp : (ns.map (·.1)).idxOf? x = some p) (hq : Q (some (.done (.ret (.int p s.toks))), ()) { s with toks := s.toks + 1 }) :
    ∀ k i, i + k = ns.length → i ≤ p → wpAny (model prog w) A (forIn (List.range' i k) ((none, ()) : Option PySem.Fin × PUnit) (idxBody ns (.str x u))) Q E s := by
  obtain ⟨hlt, hx, hno⟩ := List.idxOf?_eq_some_iff.mp hp
  intro k
  induction k with
  | zero => intro i h1 h2; rw [List.length_map] at hlt; omega
  | succ k ih =>
    intro i h1 h2
    rw [List.range'_succ, List.forIn_cons]
    have hil : i < ns.length := by omega
    have hget : (strValues ns).toArray[i]? = some (.str ns[i].1 ns[i].2) := by
      rw [List.getElem?_toArray, strValues, List.getElem?_map, List.getElem?_eq_getElem hil]; rfl
    refine wpAny_bind ?_
    unfold idxBody
    rw [hget]
    refine wpAny_bind ?_
    refine wpAny_eqBool_str ?_
    by_cases he : ns[i].1 = x
    · have hip : i = p := by
        rcases Nat.lt_or_ge i p with q | q
        · exact absurd (by simpa using beq_iff_eq.mpr he) (hno i q)
        · omega
      subst hip
      rw [decide_eq_true he, if_pos rfl]
      wp_walk
      exact hq
    · rw [decide_eq_false he, if_neg (by decide)]
      have hip : i ≠ p := fun q => he (by subst q; simpa using hx)
      refine wpAny_pure ?_
      exact ih (i + 1) (by omega) (by omega)
theorem tup_index {a : Addr} {n : Nat} {x : Str} {u : Tok} {ns : List (Str × Tok)} {p : Nat} {Q : Value → Shared → Prop} (ha : h.get? a = some { cls := .type "tuple", data := .seq (strValues ns).toArray n })
    (hp : (ns.map (·.1)).idxOf? x = some p) (hq : Q (.int p t) ⟨h, g, d, t + 1, os⟩) :
    wpAny (model prog w) A (call (.builtin "tuple.index") [.ref a, .str x u]) Q E ⟨h, g, d, t, os⟩ := by
  refine wpAny_call_entry PySem.F.slot_tuple_index ⟨_, ha, rfl⟩ PySem.F.entry_tuple_index ?_ (PySem.F.args_tuple_index_2 _ _)
  unfold Builtin.«tuple.index»
  repeat (first | with_reducible refine wpAny_loadPart_at ha ?_ | wp_step)
  have key : ∀ (f : Nat → Option PySem.Fin × PUnit → Sem (ForInStep (Option PySem.Fin × PUnit))) (Q' : Option PySem.Fin × PUnit → Shared → Prop) (s' : Shared), f = idxBody ns (.str x u) → Q' (some (.done (.ret (.int p s'.toks))), ()) { s' with toks := s'.toks + 1 } → wpAny (model prog w) A.in1 (forIn (m := Sem) [:min (strValues ns).toArray.size (strValues ns).toArray.size] ((none, ()) : Option PySem.Fin × PUnit) f) Q' E s' := fun f Q' s' hf hq' => by
    subst hf
    rw [Std.Legacy.Range.forIn_eq_forIn_range']
    exact idx_loop hp hq' _ 0 (by simp [strValues, Std.Legacy.Range.size]) (Nat.zero_le _)
  refine key _ _ _ ?_ ?_
  · funext i s
    unfold idxBody
    cases (strValues ns).toArray[i]? <;> rfl
  · exact wpAny_pure ⟨_, rfl, hq⟩
end
variable {w : World}
theorem names_index {A : Around} {E : Value → Shared → Prop} {s : Shared} {Q : Value → Shared → Prop} {x : Str} {u : Tok} {p : Nat} (X : (hd.heap_1 w.params).In s.heap) (hp : placeOf x = some p) (hq : Q (.int p s.toks) { s with toks := s.toks + 1 }) :
    wpAny (model PR w) A (call (.builtin "tuple.index") [.ref 22, .str x u]) Q E s := by
  obtain ⟨h, g, d, t, os⟩ := s
  refine tup_index (ns := [(_, _), (_, _), (_, _), (_, _), (_, _), (_, _), (_, _), (_, _), (_, _), (_, _)]) (X 22 _ (by k_is)) ?_ hq
  exact hp
end Mine
end

section
open PySem PySem.W PySem.Calls PyProof.Rows PySem.Spec
namespace Mine
/-- a sign that is no blank -/
abbrev noBlank (x : Str) : Prop := ∀ c ∈ lst x, Unicode.isSpace c = false
abbrev allBlank (x : Str) : Prop := ∀ c ∈ lst x, Unicode.isSpace c = true
abbrev wordOk (x : Str) : Prop := x.length ≠ 0 ∧ noBlank x
def scanF (st : KWd.St) (x : Str) : KWd.St := (lst x).foldl KWd.step st
theorem scanF_app (st : KWd.St) (x y : Str) : scanF st (x ++ y) = scanF (scanF st x) y := by
  unfold scanF
  rw [lst_app, List.foldl_append]
theorem words_F (x : Str) : Txt.words x = KWd.fin (scanF ([], Str.empty) x) := KWd.words_scan x
theorem app_empty (x : Str) : x ++ Str.empty = x := lst_inj (by rw [lst_app]; show lst x ++ [] = _; rw [List.append_nil])
theorem empty_app (x : Str) : Str.empty ++ x = x := lst_inj (by rw [lst_app]; rfl)
theorem fold_word {xs : List Nat} (h : ∀ c ∈ xs, Unicode.isSpace c = false) : ∀ (ws : List Str) (r : Str), xs.foldl KWd.step (ws, r) = (ws, r ++ ⟨xs.toArray⟩) := by
  induction xs with
  | nil => intro ws r; exact congrArg (Prod.mk ws) (app_empty r).symm
  | cons c xs ih =>
    intro ws r
    rw [List.foldl_cons]
    have h1 : KWd.step (ws, r) c = (ws, r ++ ⟨#[c]⟩) := by
      unfold KWd.step
      rw [if_neg (by rw [h c (.head _)]; decide)]
    rw [h1, ih fun c' hc => h c' (.tail _ hc)]
    refine congrArg (Prod.mk ws) (lst_inj ?_)
    rw [lst_app, lst_app, lst_app]
    simp [lst]
theorem scan_word {x : Str} (h : noBlank x) (ws : List Str) (r : Str) : scanF (ws, r) x = (ws, r ++ x) := by
  unfold scanF
  rw [fold_word h]
  refine congrArg (Prod.mk ws) (lst_inj ?_)
  rw [lst_app, lst_app]
  simp [lst]
theorem fold_blank0 {xs : List Nat} (h : ∀ c ∈ xs, Unicode.isSpace c = true) (ws : List Str) : xs.foldl KWd.step (ws, Str.empty) = (ws, Str.empty) := by
  induction xs with
  | nil => rfl
  | cons c xs ih =>
    rw [List.foldl_cons]
    have h1 : KWd.step (ws, Str.empty) c = (ws, Str.empty) := by
      unfold KWd.step
      rw [if_pos (h c (.head _))]
      rfl
    rw [h1, ih fun c' hc => h c' (.tail _ hc)]
theorem scan_blank {x r : Str} (h : allBlank x) (hx : x.length ≠ 0) (hr : r.length ≠ 0) (ws : List Str) : scanF (ws, r) x = (ws ++ [r], Str.empty) := by
  unfold scanF
  cases e : lst x with
  | nil => rw [← lst_len, e] at hx; exact absurd rfl hx
  | cons c xs =>
    rw [List.foldl_cons]
    have h1 : KWd.step (ws, r) c = (ws ++ [r], Str.empty) := by
      unfold KWd.step
      rw [if_pos (h c (by rw [e]; exact .head _)), if_neg hr]
    rw [h1, fold_blank0 fun c' hc => h c' (by rw [e]; exact .tail _ hc)]
theorem scan_blank0 {x : Str} (h : allBlank x) (ws : List Str) : scanF (ws, Str.empty) x = (ws, Str.empty) := fold_blank0 h ws
theorem scan_wb {x b : Str} (hx : wordOk x) (hb : allBlank b) (hb0 : b.length ≠ 0) (ws : List Str) : scanF (ws, Str.empty) (x ++ b) = (ws ++ [x], Str.empty) := by
  rw [scanF_app, scan_word hx.2, empty_app, scan_blank hb hb0 hx.1]
theorem join_cons2 (sep x y : Str) (r : List Str) : Str.join sep (x :: y :: r) = x ++ sep ++ Str.join sep (y :: r) := rfl
theorem scan_join {sep b : Str} (hs : allBlank sep) (hs0 : sep.length ≠ 0) (hb : allBlank b) (hb0 : b.length ≠ 0) : ∀ {xs : List Str}, (∀ x ∈ xs, wordOk x) → ∀ ws : List Str, scanF (ws, Str.empty) (Str.join sep xs ++ b) = (ws ++ xs, Str.empty)
  | [], _, ws => by
    rw [List.append_nil]
    show scanF (ws, Str.empty) (Str.empty ++ b) = _
    rw [empty_app, scan_blank0 hb]
  | [x], h, ws => scan_wb (h x (.head _)) hb hb0 ws
  | x :: y :: r, h, ws => by
    rw [join_cons2, show x ++ sep ++ Str.join sep (y :: r) ++ b = (x ++ sep) ++ (Str.join sep (y :: r) ++ b) from lst_inj (by simp [lst_app]), scanF_app, scan_wb (h x (.head _)) hs hs0, scan_join hs hs0 hb hb0 (xs := y :: r) fun z hz => h z (.tail _ hz)]
    rw [List.append_assoc]; rfl
theorem fin_blank {st : KWd.St} {c : Nat} (h : Unicode.isSpace c = true) : KWd.fin (KWd.step st c) = KWd.fin st := by
  obtain ⟨ws, r⟩ := st
  unfold KWd.step KWd.fin
  rw [if_pos h]
  by_cases hr : r.length = 0
  · rw [if_pos hr, if_pos hr]
  · rw [if_neg hr, if_neg hr]
    rfl
abbrev SP : Str := Str.ofString " "
abbrev SP2 : Str := Str.ofString "  "
theorem sp_blank : allBlank SP := by decide +kernel
theorem sp2_blank : allBlank SP2 := by decide +kernel
/-- words joined by a blank are those words -/
theorem words_join {xs : List Str} (h : ∀ x ∈ xs, wordOk x) : Txt.words (Str.join SP xs) = xs := by
  have h1 := scan_join sp_blank (by decide) sp_blank (by decide) h []
  rw [scanF_app] at h1
  rw [words_F]
  have h2 : scanF (scanF ([], Str.empty) (Str.join SP xs)) SP = KWd.step (scanF ([], Str.empty) (Str.join SP xs)) 32 := rfl
  rw [h2] at h1
  have h3 := congrArg KWd.fin h1
  rw [fin_blank (by decide +kernel)] at h3
  rw [h3]
  rfl
theorem words_join2 {xs : List Str} (h : ∀ x ∈ xs, wordOk x) : Txt.words (Str.join SP2 xs ++ SP) = xs := by
  rw [words_F, scan_join sp2_blank (by decide) sp_blank (by decide) h []]
  rfl
theorem fin_word (ws : List Str) (x : Str) : KWd.fin (ws, x) = ws ++ (if x.length = 0 then [] else [x]) := by
  show (if x.length = 0 then ws else ws ++ [x]) = _
  by_cases q : x.length = 0
  · rw [if_pos q, if_pos q, List.append_nil]
  · rw [if_neg q, if_neg q]
/-- a word behind -/
theorem words_one {xs : List Str} {x : Str} (h : ∀ x ∈ xs, wordOk x) (hx : noBlank x) : Txt.words (Str.join SP xs ++ (SP ++ x)) = xs ++ (if x.length = 0 then [] else [x]) := by
  rw [words_F, show Str.join SP xs ++ (SP ++ x) = (Str.join SP xs ++ SP) ++ x from lst_inj (by simp [lst_app]), scanF_app, scan_join sp_blank (by decide) sp_blank (by decide) h [], scan_word hx, empty_app, List.nil_append, fin_word]
/-- two words behind -/
theorem words_two {xs : List Str} {x y : Str} (h : ∀ x ∈ xs, wordOk x) (hx : wordOk x) (hy : noBlank y) : Txt.words (Str.join SP xs ++ SP ++ (x ++ SP) ++ y) = xs ++ x :: (if y.length = 0 then [] else [y]) := by
  rw [words_F, scanF_app, scanF_app, scan_join sp_blank (by decide) sp_blank (by decide) h [], scan_wb hx sp_blank (by decide), scan_word hy, empty_app, List.nil_append, fin_word, List.append_assoc]
  rfl
end Mine
end

section
open PySem PySem.W PySem.Calls PyProof.Rows PySem.Spec
namespace Mine
theorem split_none {x : Str} {c : Nat} (h : c ∉ lst x) : (Txt.split x ⟨#[c]⟩).length = 1 := by
  have h1 := split_len x c
  rw [cnt_none c x.cps.toList h] at h1
  omega
theorem split_none' {x : Str} {c : Nat} (h : c ∉ lst x) : (Txt.split x ⟨#[c]⟩).length ≠ 2 := by rw [split_none h]; decide
theorem free_inj {c : Nat} : ∀ {a b p q : List Nat}, c ∉ a → c ∉ p → a ++ c :: b = p ++ c :: q → a = p ∧ b = q
  | [], _, [], _, _, _, e => by cases e; exact ⟨rfl, rfl⟩
  | [], _, y :: p, _, _, hp, e => by
    cases e
    exact absurd (.head _) hp
  | x :: a, _, [], _, ha, _, e => by
    cases e
    exact absurd (.head _) ha
  | x :: a, b, y :: p, q, ha, hp, e => by
    simp only [List.cons_append, List.cons.injEq] at e
    obtain ⟨rfl, e⟩ := e
    obtain ⟨rfl, rfl⟩ := free_inj (fun h => ha (.tail _ h)) (fun h => hp (.tail _ h)) e
    exact ⟨rfl, rfl⟩
theorem split_two {a b : Str} {c : Nat} (ha : c ∉ lst a) (hb : c ∉ lst b) : Txt.split (a ++ ⟨#[c]⟩ ++ b) ⟨#[c]⟩ = [a, b] := by
  have h1 := split_len (a ++ ⟨#[c]⟩ ++ b) c
  have h2 : cnt c (lst (a ++ ⟨#[c]⟩ ++ b)) = 1 := by
    rw [lst_app, lst_app, cnt_append, cnt_append, cnt_none c _ ha, cnt_none c _ hb]
    show (0 : Int) + cnt c [c] + 0 = 1
    rw [cnt_cons, cnt_nil]
    simp
  have h3 := StrLaws.join_split (a ++ ⟨#[c]⟩ ++ b) ⟨#[c]⟩
  have h4 := StrLaws.split_free (a ++ ⟨#[c]⟩ ++ b) c
  generalize Txt.split (a ++ ⟨#[c]⟩ ++ b) ⟨#[c]⟩ = ps at *
  have h5 : ps.length = 2 := by
    have : (ps.length : Int) = 1 + cnt c (lst (a ++ ⟨#[c]⟩ ++ b)) := h1
    rw [h2] at this
    omega
  match ps, h5 with
  | [p, q], _ =>
    have e : lst p ++ c :: lst q = lst a ++ c :: lst b := by
      have := congrArg lst h3
      rw [show Str.join ⟨#[c]⟩ [p, q] = p ++ ⟨#[c]⟩ ++ q from rfl, lst_app, lst_app, lst_app, lst_app, List.append_assoc, List.append_assoc] at this
      exact this
    obtain ⟨e1, e2⟩ := free_inj (h4 p (.head _)) ha e
    rw [lst_inj e1, lst_inj e2]
/-- the figures of ten -/
theorem lst_ofList (cs : List Char) : lst (Str.ofString (String.ofList cs)) = cs.map Char.toNat := by
  rw [Str.ofString_eq_toList, String.toList_ofList]
  simp [lst]
theorem lst_decT (n : Nat) : lst (decT n) = if n < 10 then [48 + n] else lst (decT (n / 10)) ++ [48 + n % 10] := by
  have key : ∀ d : Nat, d < 10 → (Nat.digitChar d).toNat = 48 + d := by decide
  have h1 : ∀ n : Nat, lst (decT n) = (Nat.toDigits 10 n).map Char.toNat := fun n => by
    unfold decT
    rw [show (toString (n : Int) : String) = String.ofList (Nat.toDigits 10 n) from rfl, lst_ofList]
  rw [h1, h1, Nat.toDigits_eq_if (by decide)]
  split
  · rename_i h
    rw [List.map_cons, List.map_nil, key _ h]
  · rw [List.map_append, List.map_cons, List.map_nil, key _ (Nat.mod_lt _ (by decide))]
theorem decT_ne (n : Nat) : lst (decT n) ≠ [] := by
  rw [lst_decT]
  split <;> simp
theorem decT_sign : ∀ {n : Nat}, ∀ c ∈ lst (decT n), 48 ≤ c ∧ c < 58 := by
  intro n
  induction n using Nat.strongRecOn with
  | _ n ih =>
    intro c hc
    rw [lst_decT] at hc
    split at hc
    · rename_i h
      have : c = 48 + n := by simpa using hc
      omega
    · rename_i h
      rcases List.mem_append.mp hc with h1 | h1
      · exact ih (n / 10) (by omega) c h1
      · have : c = 48 + n % 10 := by simpa using h1
        omega
theorem hexT_sign : ∀ {n : Nat}, ∀ c ∈ lst (hexT n), (48 ≤ c ∧ c < 58) ∨ (97 ≤ c ∧ c < 103) := by
  intro n
  induction n using Nat.strongRecOn with
  | _ n ih =>
    intro c hc
    rw [lst_hexT] at hc
    have key : ∀ d : Nat, d < 16 → (48 ≤ hexCode d ∧ hexCode d < 58) ∨ (97 ≤ hexCode d ∧ hexCode d < 103) := by decide
    split at hc
    · rename_i h
      have : c = hexCode n := by simpa using hc
      subst this
      exact key n h
    · rename_i h
      rcases List.mem_append.mp hc with h1 | h1
      · exact ih (n / 16) (by omega) c h1
      · have : c = hexCode (n % 16) := by simpa using h1
        subst this
        exact key _ (Nat.mod_lt _ (by decide))
theorem decT_len : ∀ (k n : Nat), n < 10 ^ (k + 1) → (lst (decT n)).length ≤ k + 1 := by
  intro k
  induction k with
  | zero => intro n h; rw [lst_decT, if_pos (by simpa using h)]; simp
  | succ k ih =>
    intro n h
    rw [lst_decT]
    split
    · simp
    · have := ih (n / 10) (by rw [Nat.pow_succ] at h; omega)
      rw [List.length_append]
      simpa using this
theorem figF_decT : ∀ (n : Nat), figF (lst DEC) (lst (decT n)) = some n := by
  have key : ∀ d : Nat, d < 10 → (lst DEC).idxOf? (48 + d) = some d := by decide +kernel
  have hl : (lst DEC).length = 10 := by decide +kernel
  intro n
  induction n using Nat.strongRecOn with
  | _ n ih =>
    rw [lst_decT]
    split
    · rename_i h
      unfold figF
      rw [List.foldlM_cons, key n h]
      simp
    · rename_i h
      rw [figF_app, ih (n / 10) (by omega)]
      show (List.foldlM (fun n c => ((lst DEC).idxOf? c).map ((lst DEC).length * n + ·)) (n / 10) [48 + n % 10] : Option Nat) = some n
      rw [List.foldlM_cons, key _ (Nat.mod_lt _ (by decide)), hl]
      show some (10 * (n / 10) + n % 10) = some n
      congr 1; omega
theorem figF_hexT : ∀ (n : Nat), figF (lst HEX) (lst (hexT n)) = some n := by
  have key : ∀ d : Nat, d < 16 → (lst HEX).idxOf? (hexCode d) = some d := by decide +kernel
  have hl : (lst HEX).length = 16 := by decide +kernel
  intro n
  induction n using Nat.strongRecOn with
  | _ n ih =>
    rw [lst_hexT]
    split
    · rename_i h
      unfold figF
      rw [List.foldlM_cons, key n h]
      simp
    · rename_i h
      rw [figF_app, ih (n / 16) (by omega)]
      show (List.foldlM (fun n c => ((lst HEX).idxOf? c).map ((lst HEX).length * n + ·)) (n / 16) [hexCode (n % 16)] : Option Nat) = some n
      rw [List.foldlM_cons, key _ (Nat.mod_lt _ (by decide)), hl]
      show some (16 * (n / 16) + n % 16) = some n
      congr 1; omega
theorem figs_decT {n : Nat} (h : n < 2 ^ 48) : figs DEC (decT n) = some n := by
  have h1 := decT_len 14 n (Nat.lt_trans h (by decide))
  have h2 : (decT n).length ≠ 0 := fun e => decT_ne n (List.length_eq_zero_iff.mp ((lst_len _).trans e))
  rw [lst_len] at h1
  unfold figs
  rw [if_neg (by omega), figF_decT]
theorem figs_hexT {n : Nat} (h : n < 2 ^ 48) : figs HEX (hexT n) = some n := by
  have h1 := hexT_len 11 n h
  have h2 : (hexT n).length ≠ 0 := fun e => hexT_ne n (List.length_eq_zero_iff.mp ((lst_len _).trans e))
  unfold figs
  rw [if_neg (by omega), figF_hexT]
theorem decT_free {n c : Nat} (h : c < 48) : c ∉ lst (decT n) := fun q => by have := decT_sign c q; omega
theorem hexT_free {n c : Nat} (h : c < 48) : c ∉ lst (hexT n) := fun q => by have := hexT_sign c q; omega
/-- a wish's text is read as that wish -/
theorem readW_wishT {W : Wish} (h : W.small) : readW (wishT W) = some W := by
  obtain ⟨h1, h2⟩ := h
  have sl : SL = ⟨#[47]⟩ := by decide +kernel
  have da : DA = ⟨#[45]⟩ := by decide +kernel
  unfold readW
  cases W with
  | mask v m =>
    show (if (Txt.split (hexT v ++ SL ++ hexT m) SL).length = 2 then rd2 HEX (Txt.split (hexT v ++ SL ++ hexT m) SL) .mask else _) = _
    rw [sl, split_two (hexT_free (by decide)) (hexT_free (by decide)), if_pos (by rfl)]
    unfold rd2
    show ((figs HEX (hexT v)).bind fun a => (figs HEX (hexT m)).map fun b => Wish.mask a b) = _
    rw [figs_hexT (n := v) h1, figs_hexT (n := m) h2]; rfl
  | range v m =>
    show (if (Txt.split (decT v ++ DA ++ decT m) SL).length = 2 then _ else if (Txt.split (decT v ++ DA ++ decT m) DA).length = 2 then rd2 DEC (Txt.split (decT v ++ DA ++ decT m) DA) .range else none) = _
    rw [sl, da, if_neg (split_none' (by rw [lst_app, lst_app]; simp only [List.mem_append, not_or]; exact ⟨⟨decT_free (by decide), by decide⟩, decT_free (by decide)⟩)), split_two (decT_free (by decide)) (decT_free (by decide)), if_pos (by rfl)]
    unfold rd2
    show ((figs DEC (decT v)).bind fun a => (figs DEC (decT m)).map fun b => Wish.range a b) = _
    rw [figs_decT (n := v) h1, figs_decT (n := m) h2]; rfl
/-- signs of figures are no blanks -/
theorem plain_sign : ∀ c : Nat, c < 127 → 33 ≤ c → Unicode.isSpace c = false := by decide +kernel
theorem wishT_word {W : Wish} : wordOk (wishT W) := by
  cases W with
  | mask v m =>
    refine ⟨?_, fun c hc => ?_⟩
    · show (hexT v ++ SL ++ hexT m).length ≠ 0
      rw [Str.length_append, Str.length_append, show SL.length = 1 from rfl]; omega
    · have hc' : c ∈ lst (hexT v ++ SL ++ hexT m) := hc
      rw [lst_app, lst_app] at hc'
      have : 33 ≤ c ∧ c < 127 := by
        rcases List.mem_append.mp hc' with q | q
        · rcases List.mem_append.mp q with q | q
          · have := hexT_sign c q; omega
          · have : c = 47 := by simpa [show lst SL = [47] from by decide +kernel] using q
            omega
        · have := hexT_sign c q; omega
      exact plain_sign c this.2 this.1
  | range v m =>
    refine ⟨?_, fun c hc => ?_⟩
    · show (decT v ++ DA ++ decT m).length ≠ 0
      rw [Str.length_append, Str.length_append, show DA.length = 1 from rfl]; omega
    · have hc' : c ∈ lst (decT v ++ DA ++ decT m) := hc
      rw [lst_app, lst_app] at hc'
      have : 33 ≤ c ∧ c < 127 := by
        rcases List.mem_append.mp hc' with q | q
        · rcases List.mem_append.mp q with q | q
          · have := decT_sign c q; omega
          · have : c = 45 := by simpa [show lst DA = [45] from by decide +kernel] using q
            omega
        · have := decT_sign c q; omega
      exact plain_sign c this.2 this.1
theorem decT_word {n : Nat} : wordOk (decT n) := ⟨fun e => decT_ne n (List.length_eq_zero_iff.mp ((lst_len _).trans e)), fun c hc => by have := decT_sign c hc; exact plain_sign c (by omega) (by omega)⟩
end Mine
end

section
open PySem PySem.W PySem.Calls PyProof.Rows PySem.Spec
namespace Mine
/-- the words of an action, the pair of a row -/
def actW : Act → List Str
  | .let_ => [LET]
  | .drop => [DROP]
  | .mark n => [MARK, decT n]
def pairOf (p : Nat × Wish) : Str × Str := (nameOf p.1, wishT p.2)
/-- pairs, one word behind the other -/
def flatP (ps : List (Str × Str)) : List Str := ps.flatMap fun p => [p.1, p.2]
theorem flatP_cons (p : Str × Str) (r : List (Str × Str)) : flatP (p :: r) = p.1 :: p.2 :: flatP r := rfl
theorem flatP_app (a b : List (Str × Str)) : flatP (a ++ b) = flatP a ++ flatP b := List.flatMap_append
theorem flatP_len (ps : List (Str × Str)) : (flatP ps).length = 2 * ps.length := by
  induction ps with
  | nil => rfl
  | cons p r ih => rw [flatP_cons, List.length_cons, List.length_cons, ih, List.length_cons]; omega
theorem nameOf_word : ∀ k : Nat, k < 10 → wordOk (nameOf k) := by decide +kernel
theorem placeOf_name : ∀ k : Nat, k < 10 → placeOf (nameOf k) = some k := by decide +kernel
theorem name_no_act : ∀ k : Nat, k < 10 → nameOf k ≠ LET ∧ nameOf k ≠ DROP ∧ nameOf k ≠ MARK := by decide +kernel
theorem actW_word {a : Act} : ∀ x ∈ actW a, wordOk x := by
  cases a with
  | let_ => intro x hx; rw [List.mem_singleton.mp hx]; decide +kernel
  | drop => intro x hx; rw [List.mem_singleton.mp hx]; decide +kernel
  | mark n =>
    intro x hx
    rcases List.mem_cons.mp hx with rfl | hx
    · decide +kernel
    · rw [List.mem_singleton.mp hx]; exact decT_word
theorem flatP_word {ws : List (Nat × Wish)} (hk : ∀ p ∈ ws, p.1 < 10) : ∀ x ∈ flatP (ws.map pairOf), wordOk x := by
  induction ws with
  | nil => intro x hx; cases hx
  | cons p r ih =>
    intro x hx
    rw [List.map_cons, flatP_cons] at hx
    rcases List.mem_cons.mp hx with rfl | hx
    · exact nameOf_word _ (hk p (.head _))
    · rcases List.mem_cons.mp hx with rfl | hx
      · exact wishT_word
      · exact ih (fun q hq => hk q (.tail _ hq)) x hx
theorem readA_actW {a : Act} (ha : ∀ n, a = .mark n → n < 8) (r : List Str) : readA (actW a ++ r) = some (a, r) := by
  cases a with
  | let_ => exact readA_let
  | drop => exact readA_drop
  | mark n =>
    show readA (MARK :: decT n :: r) = _
    rw [readA_mark, figs_decT (Nat.lt_trans (ha n rfl) (by decide))]; rfl
theorem readF_cons {x y : Str} {r : List Str} {acc : List (Nat × Wish)} : readF (x :: y :: r) acc = (placeOf x).bind fun p => if (wishAt acc p).isSome then none else (readW y).bind fun W => readF r (acc ++ [(p, W)]) := rfl
/-- what stands behind good pairs is read as it is read alone -/
theorem readF_good {ws : List (Nat × Wish)} : ∀ {acc : List (Nat × Wish)} {r : List Str}, (∀ p ∈ ws, p.1 < 10) → (∀ p ∈ ws, p.2.small) → ((acc ++ ws).map (·.1)).Nodup → readF (flatP (ws.map pairOf) ++ r) acc = readF r (acc ++ ws) := by
  induction ws with
  | nil => intro acc r _ _ _; rw [List.append_nil]; rfl
  | cons p ws ih =>
    intro acc r hk hs hn
    rw [List.map_cons, flatP_cons, List.cons_append, List.cons_append, readF_cons]
    show ((placeOf (nameOf p.1)).bind fun q => _) = _
    rw [placeOf_name _ (hk p (.head _))]
    show (if (wishAt acc p.1).isSome = true then none else (readW (wishT p.2)).bind fun W => readF _ (acc ++ [(p.1, W)])) = _
    have h0 : wishAt acc p.1 = none := by
      cases e : wishAt acc p.1 with
      | none => rfl
      | some W =>
        unfold wishAt at e
        obtain ⟨q, hq, _⟩ := Option.map_eq_some_iff.mp e
        have h1 := List.find?_some hq
        have h2 := List.mem_of_find?_eq_some hq
        have h3 : q.1 = p.1 := by simpa using h1
        rw [List.map_append, List.nodup_append] at hn
        exact absurd h3 (hn.2.2 q.1 (List.mem_map_of_mem h2) p.1 (by simp))
    rw [h0, if_neg (by decide), readW_wishT (hs p (.head _))]
    show readF (flatP (ws.map pairOf) ++ r) (acc ++ [p]) = _
    rw [ih (fun q hq => hk q (.tail _ hq)) (fun q hq => hs q (.tail _ hq)) (by rw [List.append_assoc]; exact hn), List.append_assoc]
    rfl
/-- what is refused behind any pairs is refused behind pairs -/
theorem readF_behind {ps : List (Str × Str)} {r : List Str} (h : ∀ acc, readF r acc = none) : ∀ acc, readF (flatP ps ++ r) acc = none := by
  induction ps with
  | nil => exact h
  | cons p ps ih =>
    intro acc
    rw [flatP_cons, List.cons_append, List.cons_append, readF_cons]
    cases placeOf p.1 with
    | none => rfl
    | some q =>
      show (if (wishAt acc q).isSome = true then none else (readW p.2).bind fun W => readF _ (acc ++ [(q, W)])) = none
      split
      · rfl
      · cases readW p.2 with
        | none => rfl
        | some W => exact ih _
theorem readF_keeps {n : Nat} : ∀ {xs : List Str} {acc ws : List (Nat × Wish)}, xs.length ≤ n → readF xs acc = some ws → ∀ p ∈ acc, p ∈ ws := by
  induction n with
  | zero =>
    intro xs acc ws hl h p hp
    match xs, hl with
    | [], _ => cases h; exact hp
  | succ n ih =>
    intro xs acc ws hl h p hp
    match xs, hl, h with
    | [], _, h => cases h; exact hp
    | [_], _, h => cases h
    | x :: y :: r, hl, h =>
      rw [readF_cons] at h
      cases hx : placeOf x with
      | none => rw [hx] at h; cases h
      | some q =>
        rw [hx] at h
        replace h : (if (wishAt acc q).isSome = true then none else (readW y).bind fun W => readF r (acc ++ [(q, W)])) = some ws := h
        split at h
        · cases h
        · cases hy : readW y with
          | none => rw [hy] at h; cases h
          | some W =>
            rw [hy] at h
            exact ih (xs := r) (by simp only [List.length_cons] at hl; omega) h p (List.mem_append_left _ hp)
/-- the last pair stands in what is read -/
theorem readF_last {x y : Str} {ps : List (Str × Str)} : ∀ {acc ws : List (Nat × Wish)}, readF (flatP ps ++ [x, y]) acc = some ws → ∃ q W, placeOf x = some q ∧ readW y = some W ∧ (q, W) ∈ ws := by
  induction ps with
  | nil =>
    intro acc ws h
    replace h : readF [x, y] acc = some ws := h
    have h' := h
    rw [readF_cons] at h'
    cases hx : placeOf x with
    | none => rw [hx] at h'; cases h'
    | some q =>
      rw [hx] at h'
      replace h' : (if (wishAt acc q).isSome = true then none else (readW y).bind fun W => readF [] (acc ++ [(q, W)])) = some ws := h'
      split at h'
      · cases h'
      · cases hy : readW y with
        | none => rw [hy] at h'; cases h'
        | some W =>
          rw [hy] at h'
          refine ⟨q, W, rfl, rfl, readF_keeps (Nat.le_refl _) h' _ (by simp)⟩
  | cons p ps ih =>
    intro acc ws h
    rw [flatP_cons, List.cons_append, List.cons_append, readF_cons] at h
    cases hx : placeOf p.1 with
    | none => rw [hx] at h; cases h
    | some q =>
      rw [hx] at h
      replace h : (if (wishAt acc q).isSome = true then none else (readW p.2).bind fun W => readF (flatP ps ++ [x, y]) (acc ++ [(q, W)])) = some ws := h
      split at h
      · cases h
      · cases hy : readW p.2 with
        | none => rw [hy] at h; cases h
        | some W => rw [hy] at h; exact ih h
/-- a text that is refused -/
structure Bad (x : Str) : Prop where
  no : ∀ a ws, ¬ Tells x a ws
  len : x.length ≤ 65536
  ok : ∀ y ∈ Txt.words x, PyData.strOk y = true
theorem no_of_words {x : Str} {xs : List Str} (h : Txt.words x = xs) (hn : ∀ a r, readA xs = some (a, r) → ∀ ws, readF r [] = some ws → ruleOk a ws → False) (a : Act) (ws : List (Nat × Wish)) : ¬ Tells x a ws := by
  rintro ⟨r, h1, h2, h3⟩
  rw [h] at h1
  exact hn a r h1 ws h2 h3
end Mine
end

section
open PySem PySem.W PySem.Calls PyProof.Rows PySem.Spec
namespace Mine
abbrev low (x : Str) : Prop := ∀ c ∈ lst x, c < 127
theorem low_ok {x : Str} (h : low x) : PyData.strOk x = true := by
  unfold PyData.strOk
  rw [Array.all_eq_true_iff_forall_mem]
  intro c hc
  have := h c (by simpa [lst] using hc)
  simp; omega
theorem nameOf_low : ∀ k : Nat, k < 10 → low (nameOf k) := by decide +kernel
theorem decT_low {n : Nat} : low (decT n) := fun c hc => by have := decT_sign c hc; omega
theorem hexT_low {n : Nat} : low (hexT n) := fun c hc => by have := hexT_sign c hc; omega
theorem low_app {x y : Str} (hx : low x) (hy : low y) : low (x ++ y) := fun c hc => by
  rw [lst_app] at hc
  exact (List.mem_append.mp hc).elim (hx c) (hy c)
theorem wishT_low {W : Wish} : low (wishT W) := by
  cases W with
  | mask v m => exact low_app (low_app hexT_low (by decide +kernel)) hexT_low
  | range v m => exact low_app (low_app decT_low (by decide +kernel)) decT_low
theorem actW_low {a : Act} : ∀ x ∈ actW a, low x := by
  cases a with
  | let_ => intro x hx; rw [List.mem_singleton.mp hx]; decide +kernel
  | drop => intro x hx; rw [List.mem_singleton.mp hx]; decide +kernel
  | mark n =>
    intro x hx
    rcases List.mem_cons.mp hx with rfl | hx
    · decide +kernel
    · rw [List.mem_singleton.mp hx]; exact decT_low
theorem flatP_low {ws : List (Nat × Wish)} (hk : ∀ p ∈ ws, p.1 < 10) : ∀ x ∈ flatP (ws.map pairOf), low x := by
  induction ws with
  | nil => intro x hx; cases hx
  | cons p r ih =>
    intro x hx
    rw [List.map_cons, flatP_cons] at hx
    rcases List.mem_cons.mp hx with rfl | hx
    · exact nameOf_low _ (hk p (.head _))
    · rcases List.mem_cons.mp hx with rfl | hx
      · exact wishT_low
      · exact ih (fun q hq => hk q (.tail _ hq)) x hx
theorem wishT_len31 {W : Wish} (h : W.small) : (wishT W).length ≤ 31 := by
  obtain ⟨h1, h2⟩ := h
  cases W with
  | mask v m =>
    show (hexT v ++ SL ++ hexT m).length ≤ 31
    rw [Str.length_append, Str.length_append, show SL.length = 1 from rfl]
    have := hexT_len 11 v h1
    have := hexT_len 11 m h2
    omega
  | range v m =>
    show (decT v ++ DA ++ decT m).length ≤ 31
    rw [Str.length_append, Str.length_append, show DA.length = 1 from rfl]
    have h3 := decT_len 14 v (Nat.lt_trans h1 (by decide))
    have h4 := decT_len 14 m (Nat.lt_trans h2 (by decide))
    rw [lst_len] at h3 h4
    omega
theorem name_len11 : ∀ k : Nat, k < 10 → (nameOf k).length ≤ 11 := by decide +kernel
theorem actW_len {a : Act} (ha : ∀ n, a = .mark n → n < 8) : ∀ x ∈ actW a, x.length ≤ 31 := by
  cases a with
  | let_ => intro x hx; rw [List.mem_singleton.mp hx]; decide
  | drop => intro x hx; rw [List.mem_singleton.mp hx]; decide
  | mark n =>
    intro x hx
    rcases List.mem_cons.mp hx with rfl | hx
    · decide
    · rw [List.mem_singleton.mp hx]
      have := decT_len 14 n (Nat.lt_trans (ha n rfl) (by decide))
      rw [lst_len] at this
      omega
theorem actW_two {a : Act} : (actW a).length ≤ 2 := by cases a <;> simp [actW]
theorem flatP_len31 {ws : List (Nat × Wish)} (hk : ∀ p ∈ ws, p.1 < 10) (hs : ∀ p ∈ ws, p.2.small) : ∀ x ∈ flatP (ws.map pairOf), x.length ≤ 31 := by
  induction ws with
  | nil => intro x hx; cases hx
  | cons p r ih =>
    intro x hx
    rw [List.map_cons, flatP_cons] at hx
    rcases List.mem_cons.mp hx with rfl | hx
    · exact Nat.le_trans (name_len11 _ (hk p (.head _))) (by decide)
    · rcases List.mem_cons.mp hx with rfl | hx
      · exact wishT_len31 (hs p (.head _))
      · exact ih (fun q hq => hk q (.tail _ hq)) (fun q hq => hs q (.tail _ hq)) x hx
theorem join_len {sep : Str} {b : Nat} : ∀ {xs : List Str}, (∀ x ∈ xs, x.length ≤ b) → (Str.join sep xs).length ≤ xs.length * (b + sep.length)
  | [], _ => Nat.zero_le _
  | [x], h => by
    have := h x (.head _)
    show x.length ≤ 1 * (b + sep.length)
    omega
  | x :: y :: r, h => by
    rw [join_cons2, Str.length_append, Str.length_append]
    have h1 := h x (.head _)
    have h2 := join_len (sep := sep) (xs := y :: r) fun z hz => h z (.tail _ hz)
    rw [List.length_cons, Nat.succ_mul]
    omega
/-- the facts that the law's texts stand on -/
structure RuleIs (a : Act) (ws : List (Nat × Wish)) : Prop where
  ten : ∀ p ∈ ws, p.1 < 10
  fit : ∀ p ∈ ws, p.2.fits (bitsOf p.1)
  small : ∀ p ∈ ws, p.2.small
  nd : (ws.map (·.1)).Nodup
  act : ∀ n, a = .mark n → n < 8
theorem nodup_ten : ∀ {k : Nat} {xs : List Nat}, xs.Nodup → (∀ x ∈ xs, x < k) → xs.length ≤ k := nodup_le
section
variable {a : Act} {ws : List (Nat × Wish)}
theorem RuleIs.ten' (r : RuleIs a ws) : ws.length ≤ 10 := by
  have := nodup_le r.nd (k := 10) fun q hq => by
    obtain ⟨p, hp, rfl⟩ := List.mem_map.mp hq
    exact r.ten p hp
  rwa [List.length_map] at this
/-- the words of the law's text -/
abbrev wordsOf (a : Act) (ws : List (Nat × Wish)) : List Str := actW a ++ flatP (ws.map pairOf)
theorem RuleIs.word (r : RuleIs a ws) : ∀ x ∈ wordsOf a ws, wordOk x := fun x hx => (List.mem_append.mp hx).elim (actW_word x) (flatP_word r.ten x)
theorem RuleIs.low (r : RuleIs a ws) : ∀ x ∈ wordsOf a ws, low x := fun x hx => (List.mem_append.mp hx).elim (actW_low x) (flatP_low r.ten x)
theorem RuleIs.len (r : RuleIs a ws) : ∀ x ∈ wordsOf a ws, x.length ≤ 31 := fun x hx => (List.mem_append.mp hx).elim (actW_len r.act x) (flatP_len31 r.ten r.small x)
theorem RuleIs.count (r : RuleIs a ws) : (wordsOf a ws).length ≤ 22 := by
  rw [List.length_append, flatP_len, List.length_map]
  have := actW_two (a := a)
  have := r.ten'
  omega
theorem RuleIs.tells {x : Str} (r : RuleIs a ws) (h : Txt.words x = wordsOf a ws) : Tells x a ws := by
  refine ⟨flatP (ws.map pairOf), by rw [h]; exact readA_actW r.act _, ?_, r.fit, fun n e => Nat.le_of_lt_succ (r.act n e)⟩
  have := readF_good (acc := []) (r := []) r.ten r.small (by rw [List.nil_append]; exact r.nd)
  rw [List.append_nil, List.nil_append] at this
  exact this
theorem tells_one {x : Str} {b c : Act} {us vs : List (Nat × Wish)} (h1 : Tells x b us) (h2 : Tells x c vs) : b = c ∧ us = vs := by
  obtain ⟨r, p1, p2, _⟩ := h1
  obtain ⟨q, q1, q2, _⟩ := h2
  rw [p1] at q1
  cases q1
  rw [p2] at q2
  cases q2
  exact ⟨rfl, rfl⟩
theorem join31 {sep : Str} {xs : List Str} (hs : sep.length ≤ 2) (hn : xs.length ≤ 32) (h : ∀ x ∈ xs, x.length ≤ 31) : (Str.join sep xs).length ≤ 2000 := by
  have h1 := join_len (sep := sep) h
  have h2 : xs.length * (31 + sep.length) ≤ 32 * 33 := Nat.mul_le_mul hn (by omega)
  omega
end
end Mine
end

section
open PySem PySem.W PySem.Calls PyProof.Rows PySem.Spec
namespace Mine
section
variable {a : Act} {ws : List (Nat × Wish)}
theorem low_one {x : Str} {xs : List Str} (h : ∀ y ∈ xs, low y) (hx : low x) : ∀ y ∈ xs ++ [x], low y := fun y hy => (List.mem_append.mp hy).elim (h y) fun q => List.mem_singleton.mp q ▸ hx
theorem words_ok {x : Str} {xs : List Str} (h : Txt.words x = xs) (hl : ∀ y ∈ xs, low y) : ∀ y ∈ Txt.words x, PyData.strOk y = true := fun y hy => low_ok (hl y (h ▸ hy))
theorem bad_words {x : Str} {xs : List Str} (h : Txt.words x = xs) (hl : ∀ y ∈ xs, low y) (hx : x.length ≤ 65536) (hn : ∀ a r, readA xs = some (a, r) → ∀ ws, readF r [] = some ws → ruleOk a ws → False) : Bad x :=
  ⟨no_of_words h hn, hx, words_ok h hl⟩
theorem RuleIs.joinLen (r : RuleIs a ws) : (Str.join SP (wordsOf a ws)).length ≤ 2000 := join31 (by decide) (Nat.le_trans r.count (by decide)) r.len
abbrev VLAN : Str := Str.ofString "vlan"
theorem bad_vlan (r : RuleIs a ws) : Bad (Str.join SP (wordsOf a ws) ++ Str.ofString " vlan") := by
  have hw : Txt.words (Str.join SP (wordsOf a ws) ++ Str.ofString " vlan") = wordsOf a ws ++ [VLAN] := by
    rw [show Str.ofString " vlan" = SP ++ VLAN from by decide +kernel]
    exact words_one r.word (by decide +kernel)
  refine bad_words hw (low_one r.low (by decide +kernel)) ?_ fun b q h1 us h2 _ => ?_
  · rw [Str.length_append]
    have := r.joinLen
    have : (Str.ofString " vlan").length = 5 := by decide +kernel
    omega
  · rw [wordsOf, List.append_assoc, readA_actW r.act] at h1
    cases h1
    have := readF_odd (n := ws.length) (xs := flatP (ws.map pairOf) ++ [VLAN]) (acc := []) (by rw [List.length_append, flatP_len, List.length_map]; rfl)
    rw [this] at h2; cases h2
abbrev DENY : Str := Str.ofString "deny"
theorem bad_deny (r : RuleIs a ws) : Bad (Str.join SP ([DENY] ++ flatP (ws.map pairOf))) := by
  have hall : ∀ x ∈ [DENY] ++ flatP (ws.map pairOf), wordOk x := fun x hx => by
    rcases List.mem_append.mp hx with q | q
    · rw [List.mem_singleton.mp q]; decide +kernel
    · exact flatP_word r.ten x q
  refine bad_words (words_join hall) (fun x hx => ?_) ?_ fun b q h1 us h2 _ => ?_
  · rcases List.mem_append.mp hx with q | q
    · rw [List.mem_singleton.mp q]; decide +kernel
    · exact flatP_low r.ten x q
  · refine Nat.le_trans (join31 (by decide) ?_ fun x hx => ?_) (by decide)
    · rw [List.length_append, flatP_len, List.length_map]; have := r.ten'; simp; omega
    · rcases List.mem_append.mp hx with q | q
      · rw [List.mem_singleton.mp q]; decide
      · exact flatP_len31 r.ten r.small x q
  · have h1' : readA (DENY :: flatP (ws.map pairOf)) = some (b, q) := h1
    rw [readA_else (by decide) (by decide) (by decide)] at h1'; cases h1'
theorem bad_none (r : RuleIs a ws) : Bad (Str.join SP (flatP (ws.map pairOf))) := by
  refine bad_words (words_join (flatP_word r.ten)) (flatP_low r.ten) ?_ fun b q h1 us h2 _ => ?_
  · refine Nat.le_trans (join31 (by decide) ?_ (flatP_len31 r.ten r.small)) (by decide)
    rw [flatP_len, List.length_map]; have := r.ten'; omega
  · match ws, h1, r with
    | [], h1, _ => cases h1
    | p :: rest, h1, r =>
      rw [List.map_cons, flatP_cons] at h1
      obtain ⟨n1, n2, n3⟩ := name_no_act _ (r.ten p (.head _))
      have h1' : readA (nameOf p.1 :: (wishT p.2 :: flatP (rest.map pairOf))) = some (b, q) := h1
      rw [readA_else n1 n2 n3] at h1'; cases h1'
/-- a text with one more pair -/
theorem bad_pair (r : RuleIs a ws) {x y : Str} (hx : wordOk x) (hy : wordOk y) (lx : low x) (ly : low y) (nx : x.length ≤ 31) (ny : y.length ≤ 31) (hn : readF (flatP (ws.map pairOf) ++ [x, y]) [] = none) :
    Bad (Str.join SP (actW a ++ flatP (ws.map pairOf ++ [(x, y)]))) := by
  have hap : actW a ++ flatP (ws.map pairOf ++ [(x, y)]) = wordsOf a ws ++ [x, y] := by rw [flatP_app, ← List.append_assoc]; rfl
  have two : ∀ {P : Str → Prop}, (∀ z ∈ wordsOf a ws, P z) → P x → P y → ∀ z ∈ wordsOf a ws ++ [x, y], P z := fun h1 h2 h3 z hz => by
    rcases List.mem_append.mp hz with q | q
    · exact h1 z q
    · rcases List.mem_cons.mp q with rfl | q
      · exact h2
      · rw [List.mem_singleton.mp q]; exact h3
  rw [hap]
  refine bad_words (words_join (two r.word hx hy)) (two r.low lx ly) ?_ fun b q h1 us h2 _ => ?_
  · refine Nat.le_trans (join31 (by decide) ?_ (two r.len nx ny)) (by decide)
    rw [List.length_append]; have := r.count; show _ + 2 ≤ 32; omega
  · rw [wordsOf, List.append_assoc, readA_actW r.act] at h1
    cases h1
    rw [hn] at h2; cases h2
abbrev SIZE : Str := Str.ofString "size"
theorem bad_size (r : RuleIs a ws) : Bad (Str.join SP (actW a ++ flatP (ws.map pairOf ++ [(SIZE, Str.ofString "1-2")]))) := by
  refine bad_pair r (by decide +kernel) (by decide +kernel) (by decide +kernel) (by decide +kernel) (by decide) (by decide) (readF_behind (fun acc => ?_) [])
  rw [readF_cons, show placeOf SIZE = none from by decide +kernel]; rfl
theorem bad_twice (r : RuleIs a ws) {p : Nat × Wish} (hp : p ∈ ws) : Bad (Str.join SP (actW a ++ flatP (ws.map pairOf ++ [pairOf p]))) := by
  have hk := r.ten p hp
  refine bad_pair r (nameOf_word _ hk) wishT_word (nameOf_low _ hk) wishT_low (Nat.le_trans (name_len11 _ hk) (by decide)) (wishT_len31 (r.small p hp)) ?_
  rw [readF_good r.ten r.small (by rw [List.nil_append]; exact r.nd), readF_cons, placeOf_name _ hk, List.nil_append]
  obtain ⟨W, hW, _⟩ := wishAt_mem (ws := ws) (k := p.1) (List.mem_map_of_mem hp)
  show (if (wishAt ws p.1).isSome = true then none else _) = none
  rw [hW]; rfl
abbrev PRI : Str := Str.ofString "priority"
abbrev NOTH : Str := Str.ofString "nothing"
/-- a wish that the field priority cannot bear -/
def noWish (y : Str) : Prop := noBlank y ∧ low y ∧ y.length ≤ 31 ∧ ∀ W, readW y = some W → ¬ W.fits 3
theorem place_pri : placeOf PRI = some 4 := by decide +kernel
theorem place_noth : placeOf NOTH = none := by decide +kernel
theorem bad_at (r : RuleIs a ws) {x y z : Str} (hz : z = x ++ SP) (hx : (x = PRI ∧ noWish y) ∨ (x = NOTH ∧ noWish y)) : Bad (Str.join SP (wordsOf a ws) ++ SP ++ z ++ y) := by
  subst hz
  have hxw : wordOk x ∧ low x ∧ x.length ≤ 31 := by
    rcases hx with ⟨rfl, _⟩ | ⟨rfl, _⟩
    · exact ⟨by decide +kernel, by decide +kernel, by decide⟩
    · exact ⟨by decide +kernel, by decide +kernel, by decide⟩
  obtain ⟨hb, hl, hn, hW⟩ : noWish y := hx.elim (·.2) (·.2)
  have hw := words_two (xs := wordsOf a ws) r.word hxw.1 hb
  refine bad_words hw (fun v hv => ?_) ?_ fun b q h1 us h2 h3 => ?_
  · rcases List.mem_append.mp hv with q | q
    · exact r.low v q
    · rcases List.mem_cons.mp q with rfl | q
      · exact hxw.2.1
      · split at q
        · cases q
        · rw [List.mem_singleton.mp q]; exact hl
  · rw [Str.length_append, Str.length_append, Str.length_append, Str.length_append]
    have := r.joinLen
    have := hxw.2.2
    have : SP.length = 1 := by decide
    omega
  · rw [wordsOf, List.append_assoc, readA_actW r.act] at h1
    cases h1
    split at h2
    · have := readF_odd (n := ws.length) (xs := flatP (ws.map pairOf) ++ [x]) (acc := []) (by rw [List.length_append, flatP_len, List.length_map]; rfl)
      rw [this] at h2; cases h2
    · obtain ⟨k, W, p1, p2, p3⟩ := readF_last h2
      rcases hx with ⟨rfl, _⟩ | ⟨rfl, _⟩
      · rw [place_pri] at p1
        cases p1
        exact hW W p2 (h3.1 _ p3)
      · rw [place_noth] at p1; cases p1
end
end Mine
end

section
open PySem PySem.W PySem.Calls PyProof.Rows PySem.Spec
namespace Mine
theorem noWish_none {y : Str} (h1 : noBlank y) (h2 : low y) (h3 : y.length ≤ 31) (h : readW y = none) : noWish y := ⟨h1, h2, h3, fun W e => by rw [h] at e; cases e⟩
theorem noWish_some {y : Str} {V : Wish} (h1 : noBlank y) (h2 : low y) (h3 : y.length ≤ 31) (h : readW y = some V) (hV : ¬ V.fits 3) : noWish y := ⟨h1, h2, h3, fun W e => by rw [h] at e; cases e; exact hV⟩
theorem nw0 : noWish (Str.ofString "8-9") := noWish_some (V := .range 8 9) (by decide +kernel) (by decide +kernel) (by decide) (by decide +kernel) (by unfold Wish.fits; decide)
theorem nw1 : noWish (Str.ofString "5-4") := noWish_some (V := .range 5 4) (by decide +kernel) (by decide +kernel) (by decide) (by decide +kernel) (by unfold Wish.fits; decide)
theorem nw2 : noWish (Str.ofString "1") := noWish_none (by decide +kernel) (by decide +kernel) (by decide) (by decide +kernel)
theorem nw3 : noWish (Str.ofString "") := noWish_none (by decide +kernel) (by decide +kernel) (by decide) (by decide +kernel)
theorem nw4 : noWish (Str.ofString "-") := noWish_none (by decide +kernel) (by decide +kernel) (by decide) (by decide +kernel)
theorem nw5 : noWish (Str.ofString "/") := noWish_none (by decide +kernel) (by decide +kernel) (by decide) (by decide +kernel)
theorem nw6 : noWish (Str.ofString "1/") := noWish_none (by decide +kernel) (by decide +kernel) (by decide) (by decide +kernel)
theorem nw7 : noWish (Str.ofString "g/f") := noWish_none (by decide +kernel) (by decide +kernel) (by decide) (by decide +kernel)
theorem nw8 : noWish (Str.ofString "4/3") := noWish_some (V := .mask 4 3) (by decide +kernel) (by decide +kernel) (by decide) (by decide +kernel) (by unfold Wish.fits; decide)
theorem nw9 : noWish (Str.ofString "0/8") := noWish_some (V := .mask 0 8) (by decide +kernel) (by decide +kernel) (by decide) (by decide +kernel) (by unfold Wish.fits; decide)
theorem nw10 : noWish (Str.ofString "1-2-3") := noWish_none (by decide +kernel) (by decide +kernel) (by decide) (by decide +kernel)
theorem nw11 : noWish (Str.ofString "7/7/7") := noWish_none (by decide +kernel) (by decide +kernel) (by decide) (by decide +kernel)
theorem nw12 : noWish (Str.ofString "-1-3") := noWish_none (by decide +kernel) (by decide +kernel) (by decide) (by decide +kernel)
theorem nw13 : noWish (Str.ofString "000000000000000000000-1") := noWish_none (by decide +kernel) (by decide +kernel) (by decide) (by decide +kernel)
abbrev badW : List Str := [Str.ofString "8-9", Str.ofString "5-4", Str.ofString "1", Str.ofString "", Str.ofString "-", Str.ofString "/", Str.ofString "1/", Str.ofString "g/f", Str.ofString "4/3", Str.ofString "0/8", Str.ofString "1-2-3", Str.ofString "7/7/7", Str.ofString "-1-3", Str.ofString "000000000000000000000-1"]
theorem badW_all : ∀ y ∈ badW, noWish y := by
  intro y hy
  repeat (rcases List.mem_cons.mp hy with rfl | hy; first | exact nw0 | exact nw1 | exact nw2 | exact nw3 | exact nw4 | exact nw5 | exact nw6 | exact nw7 | exact nw8 | exact nw9 | exact nw10 | exact nw11 | exact nw12 | exact nw13)
  cases hy
/-- the law's first three texts -/
theorem bad_text {x : Str} {xs : List Str} (h : Txt.words x = xs) (hl : ∀ y ∈ xs, low y) (hx : x.length ≤ 65536) (hn : ∀ a r, readA xs = some (a, r) → ∀ ws, readF r [] = some ws → ruleOk a ws → False) : Bad x := bad_words h hl hx hn
theorem bad1 : Bad (Str.ofString "let vlan 1-2 vlan 1-2") := by
  refine bad_text (xs := [LET, VLAN, Str.ofString "1-2", VLAN, Str.ofString "1-2"]) (by decide +kernel) (by decide +kernel) (by decide) fun a r h1 us h2 _ => ?_
  rw [readA_let] at h1
  cases h1
  rw [show readF [VLAN, Str.ofString "1-2", VLAN, Str.ofString "1-2"] [] = none from by decide +kernel] at h2
  cases h2
theorem bad2 : Bad (Str.ofString "mark 8") := by
  refine bad_text (xs := [MARK, Str.ofString "8"]) (by decide +kernel) (by decide +kernel) (by decide) fun a r h1 us h2 h3 => ?_
  rw [readA_mark, show figs DEC (Str.ofString "8") = some 8 from by decide +kernel] at h1
  cases h1
  exact absurd (h3.2 8 rfl) (by decide)
theorem bad3 : Bad (Str.ofString "mark") := by
  refine bad_text (xs := [MARK]) (by decide +kernel) (by decide +kernel) (by decide) fun a r h1 us h2 h3 => ?_
  rw [readA_mark1] at h1
  cases h1
end Mine
end

section
open PySem PySem.W PySem.Calls PyProof.Rows PySem.Spec PySem.SeqAt
namespace Mine
theorem range_two (n : Nat) : Builtin.Range.rangeSize 0 (2 * (n : Int)) 2 = (n : Int) := by
  unfold Builtin.Range.rangeSize
  rw [if_pos (by decide)]
  split <;> omega
theorem fits_long {x : Int} (h0 : 0 ≤ x) (h1 : x ≤ 200000) : Builtin.Range.rangeFitsLong x = true := by
  unfold Builtin.Range.rangeFitsLong
  rw [Bool.and_eq_true, decide_eq_true_eq, decide_eq_true_eq]
  omega
theorem small_two {n : Nat} (hn : n ≤ 65536) : Builtin.Range.small 0 (2 * (n : Int)) 2 = true := by
  unfold Builtin.Range.small
  rw [range_two, fits_long (x := 0) (by decide) (by decide), fits_long (x := 2 * (n : Int)) (by omega) (by omega), fits_long (x := 2) (by decide) (by decide), fits_long (x := (n : Int)) (by omega) (by omega), if_pos (by decide), fits_long (x := 2 * (n : Int) + (2 - 1)) (by omega) (by omega), Bool.or_true]
  rfl
section
variable {w : World} {mean : ExcName → Option Value} {mg mb : Str → Option Value} {A : Around} {E : Value → Shared → Prop} {s : Shared}
theorem names_method {pl : Sem Bool} {Q : Value × List Value → Shared → Prop} (G : Gr w mean mg mb s.heap) (h : Q (.builtin "tuple.index", [.ref 22]) s) :
    wpAny (model PR w) A (getMethod (.ref 22) (Str.ofString "index") pl) Q E s :=
  getMethod_builtin (T := "tuple") ⟨_, G.K 22 _ (by k_is), rfl⟩ PySem.F.plainAttrs_tuple PySem.F.slot_tuple_index PySem.F.type_tuple_index (fun a e => by cases e; exact ⟨_, G.K 22 _ (by k_is), rfl⟩) h
theorem names_at {Q : Value → Shared → Prop} {x : Str} {u : Tok} {p : Nat} (G : Gr w mean mg mb s.heap) (hp : placeOf x = some p) (hq : ∀ t, Q (.int p t) { s with toks := s.toks + 1 }) :
    wpAny (model PR w) A (call (.builtin "tuple.index") [.ref 22, .str x u]) Q E s := names_index G.K hp (hq _)
end
section
variable {prog : Program} {w : World} {A : Around} {E : Value → Shared → Prop} {s : Shared}
theorem strs_at0 {value slice : PySem.Expr} {l : Addr} {lr : List (Str × Tok)} {k : Int} {i : Nat} {y : Str} {u0 : Tok} {Q : Value → Shared → Prop} (hL : s.heap.IsList l (strValues lr).toArray) (hy : (lr.map (·.1))[2 * i]? = some y) (hj : k = ((2 * i : Nat) : Int)) (hlen : lr.length ≤ 65536) (h : ∀ u, Q (.str y u) s)
    (hs : subscripted slice false (.ref l) (.int k u0) = operate [.ref l, .int k u0] (getItem (.ref l) (.int k u0)) := by with_unfolding_all rfl) :
    wpAny (model prog w) A (subscriptTail value slice (.ref l) (.int k u0)) Q E s := by
  have := (List.getElem?_eq_some_iff.mp hy).1
  rw [List.length_map] at this
  refine strs_item hL hj this hlen (fun y' u e => ?_) hs
  rw [hy] at e
  cases e
  exact h u
theorem strs_at1 {value slice : PySem.Expr} {l : Addr} {lr : List (Str × Tok)} {k : Int} {i : Nat} {y : Str} {u0 : Tok} {Q : Value → Shared → Prop} (hL : s.heap.IsList l (strValues lr).toArray) (hy : (lr.map (·.1))[2 * i + 1]? = some y) (hj : k = ((2 * i + 1 : Nat) : Int)) (hlen : lr.length ≤ 65536) (h : ∀ u, Q (.str y u) s)
    (hs : subscripted slice false (.ref l) (.int k u0) = operate [.ref l, .int k u0] (getItem (.ref l) (.int k u0)) := by with_unfolding_all rfl) :
    wpAny (model prog w) A (subscriptTail value slice (.ref l) (.int k u0)) Q E s := by
  have := (List.getElem?_eq_some_iff.mp hy).1
  rw [List.length_map] at this
  refine strs_item hL hj this hlen (fun y' u e => ?_) hs
  rw [hy] at e
  cases e
  exact h u
end
theorem news_ne {h₀ h : Heap} {L a : Addr} {news : List (Addr × Obj)} (hf : h.get? a = none) (N : News h₀ L h news) : ∀ p ∈ news, p.1 ≠ a := fun p hp e => by
  have := (N p hp).1
  rw [e, hf] at this; cases this
theorem fr_ne {h₀ h : Heap} {L a : Addr} {m : Str → Option Value} (hf : h.get? a = none) (F : Fr h₀ L h m) : L ≠ a := fun e => by
  obtain ⟨o, es, ep, h1, _⟩ := F.ns
  rw [e, hf] at h1; cases h1
theorem wish_hide {h : Heap} {S : List Addr} {a : Addr} {W : Wish} (r : Reads h (.ref a) (wishD W) []) (ha : a ∉ S) : Reads (hideAll h S) (.ref a) (wishD W) [] := by
  obtain ⟨a', t1, t2, t3, e, _, hT⟩ := wish_open r
  cases e
  cases W with
  | mask x m =>
    obtain ⟨o, ho, hc, n, hd⟩ := hT
    exact .tuple (hideAll_get _ ho ha) hc hd (.cons (.str _ _) (.cons (.int _ _) (.cons (.int _ _) .nil)))
  | range x m =>
    obtain ⟨o, ho, hc, n, hd⟩ := hT
    exact .tuple (hideAll_get _ ho ha) hc hd (.cons (.str _ _) (.cons (.int _ _) (.cons (.int _ _) .nil)))
theorem allLt_mem {d : Nat} {p : Addr × Obj} : ∀ {l : List (Addr × Obj)}, AllLt d l → p ∈ l → @LT.lt Nat _ p.1 d
  | _ :: _, h, hp => by
    rcases List.mem_cons.mp hp with rfl | hp
    · exact h.1
    · exact allLt_mem h.2 hp
theorem not_tells {x : Str} (h : readA (Txt.words x) = none) (a : Act) (ws : List (Nat × Wish)) : ¬ Tells x a ws := by
  rintro ⟨r, h1, _⟩
  rw [h] at h1; cases h1
theorem not_tells' {x : Str} {b : Act} {r : List Str} (h : readA (Txt.words x) = some (b, r)) (h2 : readF r [] = none) (a : Act) (ws : List (Nat × Wish)) : ¬ Tells x a ws := by
  rintro ⟨r', h1, h3, _⟩
  rw [h] at h1; cases h1
  rw [h2] at h3; cases h3
end Mine
end

section
open PySem PySem.W PySem.Calls PyProof.Rows PySem.Spec PySem.SeqAt
set_option maxHeartbeats 2000000
namespace Mine

section
variable {w : World} {mean : ExcName → Option Value} {mg mb : Str → Option Value} {dp un : Nat} {fr : Option (List Env)} {gd : Option (List Code)} {s : Shared} {Q E : Value → Shared → Prop}
local macro_rules | `(tactic| walk_at "mine list") => `(tactic| first | assumption | exact Fr.lst (by assumption) (by assumption) | (refine' News.isList ?rN ?rm; (case rN => assumption); (case rm => k_mem)))
local macro_rules | `(tactic| walk_at "subscriptTail Name Slice ref ref") => `(tactic| first
  | ((with_unfolding_all refine' slice_upto ?F ?N ?hl ?_ ?hz); (case F => assumption); (case N => assumption); (case hl => walk_at "mine list"); (case hz => first | assumption | (simp only [List.length_cons, List.length_nil, List.length_map] at *; omega)); intro h' D' F' N' l'; (try dsimp only [List.take_succ_cons, List.take_zero] at N'); (try k_sweep))
  | ((with_unfolding_all refine' slice_from ?F ?N ?hl ?_ ?hz); (case F => assumption); (case N => assumption); (case hl => walk_at "mine list"); (case hz => first | assumption | (simp only [List.length_cons, List.length_nil, List.length_map] at *; omega)); intro h' D' F' N' l'; (try dsimp only [List.drop_succ_cons, List.drop_zero] at N'); (try k_sweep)))
local macro_rules | `(tactic| walk_at "compareOp NotEq ref ref") => `(tactic| k_dflt (first | (refine' ne_anyB true ?rc ?rx ?hc ?hd ?hu ?hb ?_; walk_at "mine tup"; (case hb => first | assumption | kernel_rfl!)) | (refine' ne_anyB false ?rc ?rx ?hc ?hd ?hu ?hb ?_; walk_at "mine tup"; (case hb => first | assumption | kernel_rfl!))))
local macro_rules | `(tactic| walk_at "compareOp In ref ref") => `(tactic| k_dflt (first | (refine' in_tupB true ?rc ?rx ?hc ?hd ?hu ?hb ?_; walk_at "mine tup"; (case hb => first | assumption | kernel_rfl!)) | (refine' in_tupB false ?rc ?rx ?hc ?hd ?hu ?hb ?_; walk_at "mine tup"; (case hb => first | assumption | kernel_rfl!))))
local macro_rules | `(tactic| walk_at "subscriptTail Name Constant ref int") => `(tactic| k_dflt (((with_unfolding_all refine' item_lst ?hl ?h0 ?hk ?hz ?_ ?hs); (case hs => with_unfolding_all rfl); (case hl => walk_at "mine list"); (case h0 => decide); (case hk => first | (simp only [List.length_cons]; omega) | (simp only [List.length_cons, List.length_nil] at *; omega)); (case hz => (simp only [List.length_cons, List.length_nil, List.length_map] at *; omega)); intro v' hv'; cases (Option.some.inj hv'))))
local macro_rules | `(tactic| walk_at "call builtin:len") => `(tactic| ((with_unfolding_all refine' len_list ?hl ?hz ?_); (case hl => walk_at "mine list"); (case hz => first | (simp only [List.size_toArray, List.length_cons, List.length_nil, List.length_map] at *; omega) | (simp only [List.size_toArray, List.length_cons, List.length_nil, List.length_map, sizeLine_eq] at *; omega)); (try simp only [List.size_toArray, List.length_cons, List.length_nil])))
local macro_rules | `(tactic| walk_at "call ref") => `(tactic| ((with_reducible show wpAny _ _ (call (Value.ref 152) _ _) _ _ _); refine' read_wish_t ?G ?R ?ff ?hx ?_ ?_; (case G => exact Gr.keeps (by assumption) (Fr.keep (by assumption))); (case R => (refine' Rm.sub ?ra ?rb; (case ra => assumption); (case rb => omega))); (case ff => exact FF.push (by assumption) (by assumption)); (case hx => first | assumption | omega | exact part_fits (by assumption) (by assumption) (by assumption)); rotate_left; (intro h' tk' e' hn' fl'; (first | refine leave_onE (by assumption) rfl (by assumption) fl' ?_ | refine leave_on rfl (by assumption) fl' ?_); intro h'' fl''); rotate_left; (intro W' h' tk' v' hW' hext rW' hfr'; (have kF := Fr.ext (by assumption) hext); (have kA := news_ne hfr' (by assumption)); (have kL := fr_ne hfr' (by assumption)); (have kN := News.ext (by assumption) hext); (try k_sweep))))
local macro_rules | `(tactic| walk_at "subscriptTail Name Name ref int") => `(tactic| (with_unfolding_all refine' strs_at0 ?hl ?hy ?hj ?hz ?_ ?hs; (case hs => with_unfolding_all rfl); (case hl => walk_at "mine list"); (case hy => assumption); (case hj => first | rfl | omega); (case hz => assumption); intro u'))
local macro_rules | `(tactic| walk_at "subscriptTail Name BinOp ref int") => `(tactic| (with_unfolding_all refine' strs_at1 ?hl ?hy ?hj ?hz ?_ ?hs; (case hs => with_unfolding_all rfl); (case hl => walk_at "mine list"); (case hy => assumption); (case hj => first | rfl | omega); (case hz => assumption); intro u'))
local macro_rules | `(tactic| walk_at "getMethod ref") => `(tactic| ((with_reducible show wpAny _ _ (getMethod (Value.ref 22) (Str.ofString "index") _) _ _ _); refine' names_method ?G ?_; (case G => exact Gr.keeps (by assumption) (Fr.keep (by assumption)))))
local macro_rules | `(tactic| walk_at "call builtin:tuple.index") => `(tactic| (refine' names_at ?G ?hp ?_; (case G => exact Gr.keeps (by assumption) (Fr.keep (by assumption))); (case hp => assumption); intro t'))
theorem read_rule_t {x : Str} {t0 : Tok} {l : List Env}
    (G : Gr w mean mg mb s.heap) (R : Rm 7 dp un) (ff : FF s.heap l) (hx : x.length ≤ 65536) (hok : ∀ y ∈ Txt.words x, PyData.strOk y = true)
    (hQ : ∀ a ws h' tk xx dx D o' va t1 t2 kvs, Tells x a ws → Ext s.heap h' → s.heap.get? xx = none → s.heap.get? dx = none → RuleAt w h' xx dx D o' va t1 t2 kvs a ws → (ws.map (·.1)).Nodup → (∀ p ∈ ws, p.1 < 10) → (∀ p ∈ ws, p.2.lo < 2 ^ 80 ∧ p.2.hi < 2 ^ 80) → Q (.ref xx) { s with heap := h', toks := tk })
    (hE : ∀ h' tk e, (∀ a ws, ¬ Tells x a ws) → Fly l s.heap e h' → E (.ref e) { s with heap := h', toks := tk }) :
    wpAny (model PR w) (Ar dp (some l) gd un) (call (.ref 166) [.str x t0] []) Q E s := by
  refine' enterB [(Str.ofString "text", .str x t0)] ?X ?hl ?ho ?hcd ?hroom ?hb ?hloc ?hcell ?hco ?hgen ?hk ?_
  walk_at "mine enter"
  intro L h₁ tk F N hL
  have KX := G.K
  have T := G.T
  k_steps
  rename_i lv _ _ hlv hst hsh hil F1 N1
  have hlen : lv.length ≤ 65536 := by
    have h1 := fact_words x
    rw [← hlv, List.length_map] at h1
    omega
  refine read_action_t (Gr.keeps G (Fr.keep F1)) (Rm.sub R (by omega)) (ff.push F1) (N1.isList (.head _)) (fun y hy => Nat.le_trans (hsh y hy) hx) (fun y hy => hok y (hlv ▸ hy)) hlen (fun b lr h2 tk2 D D2 v n n2 hra hsuf hext hD hv hD2 hDf hD2f => ?_) fun h2 tk2 e2 hra fl => ?_
  · obtain ⟨kk, hkk⟩ := hsuf
    obtain ⟨B1, hB1, F2, hsB1, _, N2', hLB1, _, hBh1⟩ := refreeze (mu := []) (ex := [_]) F1 (Ext.refl s.heap) N1 hL (by simp) hext
    have hvB : Reads B1 v (actD b) [] := by subst hB1; exact refreeze_reads F2.ns hv (by cases b <;> rfl) (by simp) (by simp)
    have N2 := news_new F1 hD2f hD2 (news_new F1 hDf hD N2')
    clear hB1 hBh1 N2'
    have hlr : lr.length ≤ 65536 := by rw [hkk, List.length_drop]; omega
    have hzr : (strValues lr).length ≤ 65536 := by rw [strValues, List.length_map]; exact hlr
    have hfacts : ∀ z, z ∈ lr.map (·.1) → PyData.strOk z = true ∧ z.length ≤ 65536 := fun z hz => by
      have h1 : z ∈ lv.map (·.1) := by
        rw [hkk, List.map_drop] at hz
        exact List.mem_of_mem_drop hz
      exact ⟨hok z (hlv ▸ h1), Nat.le_trans (hsh z h1) hx⟩
    have hraw : readA (Txt.words x) = some (b, lr.map (·.1)) := hlv ▸ hra
    clear F1 N1
    k_steps
    · have hlz : (strValues lr).length = lr.length := by rw [strValues, List.length_map]
      have hpar : (((strValues lr).length : Nat) : Int).fmod 2 = 1 := by first | assumption | (rw [hlz]; assumption)
      have hodd : readF (lr.map (·.1)) [] = none := by
        refine readF_odd (n := lr.length / 2) ?_
        rw [hlz, Int.fmod_eq_emod_of_nonneg _ (by decide)] at hpar
        rw [List.length_map]
        omega
      exact hE _ _ _ (not_tells' hraw hodd) (by assumption)
    · rename_i d h3 o3 lo3 _ _ hd3 _ l3 h4 F4 N4 _ hpar
      refine Stop.go (for_S ?_)
      k_steps
      rename_i t5 u5 v5 hR F5 N5 _
      obtain ⟨n, hn⟩ : ∃ n, lr.length = 2 * n := ⟨lr.length / 2, by
        (try rw [show (strValues lr).length = lr.length from by rw [strValues, List.length_map]] at hpar)
        rw [Int.fmod_eq_emod_of_nonneg _ (by decide)] at hpar
        omega⟩
      have hz : (((strValues lr).length : Nat) : Int) = 2 * (n : Int) := by rw [strValues, List.length_map]; omega
      have hzl : ((lr.length : Nat) : Int) = 2 * (n : Int) := by omega
      have hB1d : B1.get? d = none := by
        cases q : B1.get? d with
        | none => rfl
        | some ob => exact absurd (allLt_mem l3.2.2 (.tail _ (mem_dif.mpr ⟨q, (N5 _ (.head _)).2.2⟩))) (Nat.lt_irrefl _)
      obtain ⟨B2, hB2, F6, hsB, h12, N6, hLB, hmB, hBh⟩ := refreeze (mu := [d]) (ex := [_, _, _, _]) F5 hsB1 N5 hLB1 (by simpa using hB1d) (Ext.refl _)
      refine iter_range (n := n) [d] (fun i m ex B => ∃ o acc kvs, ex = [(d, o), _, _, _] ∧ o.IsDictOf (IK w) kvs ∧ Held B kvs acc ∧ (acc.map (·.1)).Nodup ∧ (∀ p ∈ acc, p.1 < 10) ∧ (∀ p ∈ acc, p.2.lo < 2 ^ 80 ∧ p.2.hi < 2 ^ 80) ∧
        readF (lr.map (·.1)) [] = readF ((lr.map (·.1)).drop (2 * i)) acc ∧ m (Str.ofString "wishes") = some (.ref d) ∧ m (Str.ofString "words") = some (.ref D2) ∧ m (Str.ofString "action") = some v) rfl hR ?_ ?_ F6 hsB ⟨hLB, hmB⟩ (ex₀ := [_, _, _, _]) N6 ⟨o3, [], [], rfl, hd3, .nil, .nil, by simp, by simp, rfl, rfl, rfl, rfl⟩ rfl rfl ?_ ?_
      · (first | rw [hz] | rw [hzl]); exact small_two (by omega)
      · (first | rw [hz] | rw [hzl]); exact range_two n
      · intro I i v5 m ex B h tk oI hi hP hJ F' hBB hoff N' hx'
        obtain ⟨o, acc, kvs, rfl, ho, hH, hnd, h10, hsm, hrd, e1, e2, e3⟩ := hJ
        dsimp only [List.cons_append, List.nil_append] at N'
        obtain ⟨tv, rfl⟩ := hP
        have hi0 : 2 * i < (lr.map (·.1)).length := by rw [List.length_map]; omega
        have hi1 : 2 * i + 1 < (lr.map (·.1)).length := by rw [List.length_map]; omega
        obtain ⟨y, hy⟩ : ∃ y, (lr.map (·.1))[2 * i]? = some y := ⟨_, List.getElem?_eq_getElem hi0⟩
        obtain ⟨z, hz⟩ : ∃ z, (lr.map (·.1))[2 * i + 1]? = some z := ⟨_, List.getElem?_eq_getElem hi1⟩
        obtain ⟨hyok, hylen⟩ := hfacts y (List.mem_of_getElem? hy)
        obtain ⟨_, hzlen⟩ := hfacts z (List.mem_of_getElem? hz)
        have hDh : ∀ {h' : Heap}, h'.get? d = some o → h'.DictOf (IK w) d kvs := fun k => Heap.dictOf_iff.mpr ⟨o, k, ho⟩
        have hsB' : Ext s.heap B := hsB.trans hBB
        k_steps
        refine notin_names (KX.keeps (Fr.keep (by assumption))) hyok (Rm.u65 R) ?_
        cases hpl : placeOf y with
        | none =>
          rw [show (!(none : Option Nat).isSome) = true from rfl]
          k_steps
          have hno : readF (lr.map (·.1)) [] = none := hrd.trans (readF_name hy hz hpl)
          exact hE _ _ _ (not_tells' hraw hno) (by assumption)
        | some p =>
          rw [show (!(some p).isSome) = false from rfl]
          k_steps
          refine dict_in lo3 (hDh (News.get (by assumption) (.tail _ (.head _)))) ?_
          rw [hH.some_iff]
          cases hwa : wishAt acc p with
          | some W0 =>
            rw [show (some W0).isSome = true from rfl]
            k_steps
            have hno : readF (lr.map (·.1)) [] = none := hrd.trans (readF_twice hy hz hpl (by rw [hwa]; rfl))
            exact hE _ _ _ (not_tells' hraw hno) (by assumption)
          | none =>
            rw [show (none : Option Wish).isSome = false from rfl]
            k_steps
            · rename_i W8 h8 tk8 a8 hW8 _ rW8 _ F8 kA8 kL8 N8
              obtain ⟨B3, hB3, F9, hsB3, h23, N9, hLB3, hmB3, hBh3⟩ := refreeze (mu := [I, d]) (ex := [_, _, _, _, _]) F8 hsB' N8 hoff.1 (by simpa using ⟨hoff.2.2, hoff.2.1 _ (.head _)⟩) (Ext.refl _)
              have rB : Reads B3 (.ref a8) (wishD W8) [] := by
                subst hB3
                refine wish_hide rW8 ?_
                simp only [List.mem_cons, List.not_mem_nil, or_false, not_or]
                exact ⟨Ne.symm kL8, Ne.symm (kA8 _ (.head _)), Ne.symm (kA8 _ (.tail _ (.head _)))⟩
              have hkl : kvs.length < 64 := by
                have := nodup_le hnd (k := 10) fun q hq => by
                  obtain ⟨p, hp, rfl⟩ := List.mem_map.mp hq
                  exact h10 p hp
                rw [hH.len]
                rw [List.length_map] at this
                omega
              clear F8 N8 hB3
              dsimp only [List.cons_append, List.nil_append] at N9
              have hdI : @Ne Nat d I := hx' _ (.head _)
              have hId : @Ne Nat I d := Ne.symm hdI
              have hd2 : @LT.lt Nat _ D2 d := l3.1
              have hd1 : @LT.lt Nat _ D d := l3.2.1
              have hd0 : @LT.lt Nat _ h₁.objs.size d := l3.2.2.1
              have hB3d : B3.get? d = none := hmB3 _ (.tail _ (.head _))
              refine dict_set F9 N9 (by k_updF) ho hkl fun h10' o10 F10 N10 ho10 => ?_
              k_steps
              refine Stop.go ⟨_, _, _, _, B3, rfl, F10, hBB.trans h23, ⟨hLB3, fun a ha => hmB3 a (.tail _ ha), hmB3 _ (.head _)⟩, fun p hp => News.ofMem N10 hp, ?_, o10, acc ++ [(p, W8)], _, rfl, ho10, (hH.keeps h23).stored rB hwa, wishAt_snoc hwa hnd, ?_, ?_, ?_, e1, e2, e3⟩
              · intro p hp
                rcases List.mem_cons.mp hp with rfl | hp
                · exact hdI
                · exact hx' p (.tail _ hp)
              · intro q hq
                rcases List.mem_append.mp hq with hq | hq
                · exact h10 q hq
                · rw [List.mem_singleton.mp hq]; exact placeOf_lt hpl
              · intro q hq
                rcases List.mem_append.mp hq with hq | hq
                · exact hsm q hq
                · rw [List.mem_singleton.mp hq]; exact readW_lt hW8
              · exact hrd.trans (readF_next hy hz hpl (by rw [hwa]; rfl) hW8)
            · have hno : readF (lr.map (·.1)) [] = none := hrd.trans (readF_wish hy hz hpl (by assumption))
              exact hE _ _ _ (not_tells' hraw hno) (by assumption)
      · intro h tk m ex B hJ F' hBB hoff N'
        obtain ⟨o, acc, kvs, rfl, ho, hH, hnd, h10, hsm, hrd, e1, e2, e3⟩ := hJ
        have kB : Ext B h := ext_of F' (hsB.trans hBB) (news_r N')
        dsimp only [List.cons_append, List.nil_append] at N'
        k_steps
        have hal : acc.length ≤ 10 := by
          have := nodup_le hnd (k := 10) fun q hq => by
            obtain ⟨p, hp, rfl⟩ := List.mem_map.mp hq
            exact h10 p hp
          rwa [List.length_map] at this
        have hall : readF (lr.map (·.1)) [] = some acc := hrd.trans (by rw [List.drop_eq_nil_of_le (by rw [List.length_map]; omega)]; rfl)
        refine rule_new_t (Gr.keeps G (Fr.keep F')) (Rm.sub R (by omega)) (ff.push F') (Reads.keeps ((h12.trans hBB).trans kB) hvB) lo3 (News.get N' (.head _)) ho (hH.keeps kB) h10 hnd (by omega) hsm (fun k q => by subst q; exact readA_lt hraw) (fun h5 tk5 xx dx DD oo t1 t2 hok5 hx5 hx0 hdx0 RA _ => ?_) fun h5 tk5 e5 hno fl5 => ?_
        · have k0 : ∀ {a : Addr}, h.get? a = none → s.heap.get? a = none := fun {a} q => by
            cases q2 : s.heap.get? a with
            | none => rfl
            | some ob => rw [F'.keep _ _ q2] at q; cases q
          refine Rt.ret hQf _ _ ?_
          exact hQ b acc h5 tk5 xx dx DD oo v t1 t2 kvs ⟨_, hraw, hall, hok5⟩ (fun b o e => hx5 _ _ (F'.keep _ _ e)) (k0 hx0) (k0 hdx0) RA hnd h10 hsm
        · refine leave_onE hEf rfl F' fl5 fun h6 fl6 => hE _ _ _ (fun a ws ht => ?_) fl6
          obtain ⟨r, h1, h3, h4⟩ := ht
          rw [hraw] at h1; cases h1
          rw [hall] at h3; cases h3
          exact hno h4
  · refine leave_onE hEf rfl F1 fl fun h3 fl3 => hE _ _ _ (not_tells (hlv ▸ hra)) fl3
end
end Mine
end

section
open PySem PySem.W PySem.Calls PyProof.Rows PySem.Spec
namespace Mine
section
variable {w : World} {mean : ExcName → Option Value} {mg mb : Str → Option Value} {A : Around} {s : Shared} {Q E : Value → Shared → Prop}
/-- a def is entered; the frames of the callers may change -/
theorem enterX (mu : List Addr) {Bz : Heap} {name qual : Str} {params : Arguments} {body : List Stmt} {scope : Scope} {dV kV doc pm cdv ct oc : Value} {an od : Option Addr} {osl : Array (Option Value)} {f : Addr} {pos : List Value} {kw : List (Str × Value)} (binds : List (Str × Value))
    (G : Gr w mean mg mb Bz) (hBz : Ext Bz s.heap) (hmu : ∀ a ∈ mu, Bz.get? a = none)
    (ho : (hd.heap_1 w.params).lookup f = some ⟨oc, od, .func (fnOf name qual params body scope dV kV doc pm an cdv ct), osl⟩) (hcd : codeIn (hd.heap_1 w.params) cdv qual = true) (hroom : A.depth < recursionLimit)
    (hbind : BindsTo s (fnOf name qual params body scope dV kV doc pm an cdv ct) ⟨pos, kw⟩ binds) (hloc : ∀ y ∈ binds, scope.names.lookup y.1 = some .local)
    (hcell : ∀ x ∈ scope.names, x.2 ≠ .cell)
    (hco : scope.isCoroutine = false) (hgen : scope.isGenerator = false) (hk : scope.kind = .function)
    (h : ∀ g L h₁ tk, Gr w mean mg mb g → Ext Bz g → Off mu s.heap g → Ext g s.heap → (∀ a ∈ mu, g.get? a = none) → Fr s.heap L h₁ (fun y => binds.reverse.lookup y) → Fr g L h₁ (fun y => binds.reverse.lookup y) → News g L h₁ (dif g g) → g.get? L = none →
      FnAt (model PR w) (A.deeper (envOf qual scope L f cdv)) (envOf qual scope L f cdv) body Q E { s with heap := h₁, toks := tk }) :
    wpAny (model PR w) A (call (.ref f) pos kw) Q E s := by
  have G' := G.keeps hBz
  refine wpAny_call ?_
  refine codeAny_call_def (fd := fnOf name qual params body scope dV kV doc pm an cdv ct) (body := body) (binds := binds) hroom (G'.K _ _ ho) rfl G'.T.nolimit (codeRec_of G'.K hcd) rfl hbind hcell hloc (fun h₁ hns hk₁ => ?_) hco hgen hk
  have hg : Ext Bz (hideAll s.heap mu) := fun b o e => hideAll_get _ (hBz _ _ e) fun hm => by rw [hmu _ hm] at e; cases e
  have hsz : (hideAll s.heap mu).objs.size = s.heap.objs.size := hideAll_size _ _
  exact (h (hideAll s.heap mu) s.heap.objs.size h₁ _ (G.keeps hg) hg (fun b o n e => hideAll_get _ e n) (ext_hide _) (fun a ha => hide_none ha) ⟨hns, fun b o e => hk₁ b o e, Nat.le_refl _⟩ ⟨hns, fun b o e => hk₁ b o (of_hideAll _ e), Nat.le_of_eq hsz⟩ (by rw [dif_self]; exact News.nil) (Heap.get?_none_of_le (Nat.le_of_eq hsz))).out
end
end Mine
end

section
open PySem PySem.W PySem.Calls PyProof.Rows PySem.Spec PySem.SeqAt
set_option maxHeartbeats 2000000
namespace Mine

section
variable {w : World} {mean : ExcName → Option Value} {mg mb : Str → Option Value} {dp un : Nat} {fr : Option (List Env)} {gd : Option (List Code)} {s : Shared} {Q E : Value → Shared → Prop}
theorem refused_t {Bz : Heap} {x : Str} {t0 : Tok} {l : List Env}
    (G₀ : Gr w mean mg mb Bz) (hBz : Ext Bz s.heap) (hb0 : ∀ a ∈ frs l, Bz.get? a = none) (R : Rm 8 dp un) (ff : FF s.heap l) (hx : x.length ≤ 65536) (hok : ∀ y ∈ Txt.words x, PyData.strOk y = true)
    (hQ : ∀ h' tk b, (b = true ↔ ∀ a ws, ¬ Tells x a ws) → Off (frs l) s.heap h' → s.heap.UpToSlots h' → Q (.bool b) { s with heap := h', toks := tk }) :
    wpAny (model PR w) (Ar dp (some l) gd un) (call (.ref 239) [.str x t0] []) Q E s := by
  refine' enterX (frs l) [(Str.ofString "text", .str x t0)] G₀ hBz hb0 ?ho ?hcd ?hroom ?hb ?hloc ?hcell ?hco ?hgen ?hk ?_
  walk_at "mine enterM"
  intro g L h₁ tk G hBg hOg hgs hgm F0 F N hL
  have KX := G.K
  have T := G.T
  k_steps
  refine read_rule_t (Gr.keeps G (Fr.keep F)) (Rm.sub R (by omega)) (ff.push F0) hx hok (fun a ws h2 tk2 xx dx D o' va t1 t2 kvs ht hext _ _ _ _ _ _ => ?_) fun h2 tk2 e hno fl => ?_
  · have kF := Fr.ext F hext
    have kF0 := Fr.ext F0 hext
    have kN := News.ext N hext
    clear F F0 N
    k_steps
    exact hQ _ _ false ⟨fun q => Bool.noConfusion q, fun q => absurd ht (q a ws)⟩ (Ext.off (Fr.keep kF0)) (Heap.UpToSlots.of_keeps (Fr.keep kF0))
  · refine caught_own rfl G.K hgm F fl fun h5 F5 hs5 => ?_
    clear F N
    k_steps
    exact hQ _ _ true ⟨fun _ => hno, fun _ => rfl⟩ (fun b o n e => Fr.keep (by assumption) _ _ (hOg b o n e)) ((Heap.UpToSlots.of_keeps (Fr.keep F0)).trans (by assumption))
end
end Mine
end

section
open PySem PySem.W PySem.Calls PyProof.Rows PySem.Spec
namespace Mine
section
variable {w : World} {mean : ExcName → Option Value} {mg mb : Str → Option Value} {A : Around} {s : Shared} {Q E : Value → Shared → Prop}
/-- a def with cells is entered; what stands at mu may change -/
theorem enterMK (mu : List Addr) (ex : List (Addr × Obj)) {Bz : Heap} {name qual : Str} {params : Arguments} {body : List Stmt} {scope : Scope} {dV kV doc pm cdv ct oc : Value} {an od : Option Addr} {osl : Array (Option Value)} {f : Addr} {pos : List Value} {kw : List (Str × Value)} (binds : List (Str × Value))
    (G : Gr w mean mg mb Bz) (hBz : Ext Bz s.heap) (hmu : ∀ a ∈ mu, Bz.get? a = none) (hex : ∀ p ∈ ex, s.heap.get? p.1 = some p.2 ∧ p.1 ∈ mu)
    (ho : (hd.heap_1 w.params).lookup f = some ⟨oc, od, .func (fnOf name qual params body scope dV kV doc pm an cdv ct), osl⟩) (hcd : codeIn (hd.heap_1 w.params) cdv qual = true) (hroom : A.depth < recursionLimit)
    (hbind : BindsTo s (fnOf name qual params body scope dV kV doc pm an cdv ct) ⟨pos, kw⟩ binds)
    (hkind : ∀ n, ∀ x ∈ binds, scope.names.lookup x.1 = some .local ∨ (scope.names.lookup x.1 = some .cell ∧ ((cellsFrom n scope.names []).lookup x.1).isSome = true))
    (hnd : ((cellsFrom 0 scope.names []).map (·.1)).Nodup)
    (hco : scope.isCoroutine = false) (hgen : scope.isGenerator = false) (hk : scope.kind = .function)
    (h : ∀ g L h₁ tk cells, Gr w mean mg mb g → Ext Bz g → Off mu s.heap g → Ext g s.heap → (∀ a ∈ mu, g.get? a = none) → Fr s.heap L h₁ (bindL (envOfC qual scope L f cdv).kindOf binds fun _ => none) → Fr g L h₁ (bindL (envOfC qual scope L f cdv).kindOf binds fun _ => none) →
      CellsAre (bindC (envOfC qual scope L f cdv).kindOf binds fun _ => none) (cellsFrom (L + 1) scope.names []) cells → News g L h₁ (cells ++ (ex ++ dif g g)) → g.get? L = none → (∀ p ∈ ex, p.1 < L) → g.objs.size = L →
      FnAt (model PR w) (A.deeper (envOfC qual scope L f cdv)) (envOfC qual scope L f cdv) body Q E { s with heap := h₁, toks := tk }) :
    wpAny (model PR w) A (call (.ref f) pos kw) Q E s := by
  have G' := G.keeps hBz
  refine wpAny_call ?_
  have hg : Ext Bz (hideAll s.heap mu) := fun b o e => hideAll_get _ (hBz _ _ e) fun hm => by rw [hmu _ hm] at e; cases e
  have hsz : (hideAll s.heap mu).objs.size = s.heap.objs.size := hideAll_size _ _
  refine codeAny_call_function hroom (G'.K _ _ ho) rfl hco hgen rfl (codeRec_of G'.K hcd) (hbind _ _ _ _ ?_)
  refine wpAny_newFunctionEnv_cells hk (hkind _) fun env' he s' x => ?_
  subst he
  refine ⟨G'.T.nolimit.keeps x.toInCall.keep, codeAny_func ?_⟩
  obtain ⟨h₁, tk, rfl, _⟩ := x.done
  have hk₁ := x.toInCall.keep
  obtain ⟨cells, NC, Y⟩ := Cl.news (h₀ := s.heap) (Nat.le_refl _) fun n c hm => ⟨x.cell n c (lookup_of_mem_nodup (cellsFrom_names scope.names 0 (s.heap.objs.size + 1) [] [] rfl ▸ hnd) hm), x.above n c hm⟩
  refine (h (hideAll s.heap mu) s.heap.objs.size h₁ tk cells (G.keeps hg) hg (fun b o n e => hideAll_get _ e n) (ext_hide _) (fun a ha => hide_none ha) ⟨x.toInCall.ns, hk₁, Nat.le_refl _⟩ ⟨x.toInCall.ns, fun b o e => hk₁ b o (of_hideAll _ e), Nat.le_of_eq hsz⟩ Y (fun p hp => ?_) (Heap.get?_none_of_le (Nat.le_of_eq hsz)) (fun p hp => Heap.lt_size (hex p hp).1) hsz).out
  rw [dif_self, List.append_nil] at hp
  rcases List.mem_append.mp hp with hp | hp
  · refine ⟨(NC p hp).1, (NC p hp).2.1, ?_⟩
    cases q : (hideAll s.heap mu).get? p.1 with
    | none => rfl
    | some o => have := of_hideAll _ q; rw [(NC p hp).2.2] at this; cases this
  · exact ⟨hk₁ _ _ (hex p hp).1, Nat.ne_of_lt (Heap.lt_size (hex p hp).1), hide_none (hex p hp).2⟩
end
theorem kinds_of {n : Nat} {names : List (Str × NameKind)} {binds : List (Str × Value)} (h : (binds.all fun x => (names.lookup x.1 == some .local) || ((names.lookup x.1 == some .cell) && ((cellsFrom n names []).lookup x.1).isSome)) = true) :
    ∀ x ∈ binds, names.lookup x.1 = some .local ∨ (names.lookup x.1 = some .cell ∧ ((cellsFrom n names []).lookup x.1).isSome = true) := fun x hx => by
  have := List.all_eq_true.mp h x hx
  simpa using this
section
variable {prog : Program} {w : World} {A : Around} {s : Shared} {h₀ B₀ : Heap} {L : Addr} {m : Str → Option Value} {env : Env} {elt ct : PySem.Expr} {x : Str} {scope : Scope} {cl : List (Str × Addr)} {S : List (Addr × Obj) → Prop} {P : Nat → Value → Prop} {Fin : List Value → List (Addr × Obj) → Prop}
/-- the heaps that stay off a comprehension's own addresses -/
abbrev OffC (B : Heap) (L : Addr) (mu : List Addr) : Prop := B.get? L = none ∧ ∀ a ∈ mu, B.get? a = none
theorem off3_none {I C D : Addr} {ex : List (Addr × Obj)} {B : Heap} (o3 : LCg.Off3 I C D (ex ++ dif B h₀)) {h : Heap} {oI oC oD : Obj} {news : List (Addr × Obj)} (N : News h₀ L h ((I, oI) :: (C, oC) :: (D, oD) :: news)) : B.get? I = none ∧ B.get? C = none ∧ B.get? D = none := by
  have key : ∀ a, h₀.get? a = none → (∀ p ∈ dif B h₀, p.1 ≠ a) → B.get? a = none := fun a h0 hp => by
    cases q : B.get? a with
    | none => rfl
    | some o => exact absurd rfl (hp (a, o) (mem_dif.mpr ⟨q, h0⟩))
  have o := o3.mem
  exact ⟨key I (N (I, oI) (.head _)).2.2 fun p hp => (o p (List.mem_append_right _ hp)).1, key C (N (C, oC) (.tail _ (.head _))).2.2 fun p hp => (o p (List.mem_append_right _ hp)).2.1, key D (N (D, oD) (.tail _ (.tail _ (.head _)))).2.2 fun p hp => (o p (List.mem_append_right _ hp)).2.2⟩
theorem off3_of {I C D : Addr} {ex : List (Addr × Obj)} {B : Heap} (o3 : ∀ p ∈ ex, p.1 ≠ I ∧ p.1 ≠ C ∧ p.1 ≠ D) (h1 : B.get? I = none) (h2 : B.get? C = none) (h3 : B.get? D = none) : LCg.Off3 I C D (ex ++ dif B h₀) :=
  LCg.Off3.of fun p hp => (List.mem_append.mp hp).elim (o3 p) fun q => ⟨dif_ne h1 p q, dif_ne h2 p q, dif_ne h3 p q⟩
/-- an element of a comprehension is made -/
def EltEnd (h₀ : Heap) (L : Addr) (m : Str → Option Value) (mu : List Addr) (s : Shared) (I : Addr) (oI : Obj) (C : Addr) (oC : Obj) (D : Addr) (ys : List Value) (ex : List (Addr × Obj)) (B : Heap) (J : Heap → Prop) (s₂ : Shared) : Prop :=
  ∃ h' tk' B', s₂ = { s with heap := h', toks := tk' } ∧ Fr h₀ L h' m ∧ News h₀ L h' ((I, oI) :: (C, oC) :: (D, LCg.lst ys) :: (ex ++ dif B' h₀)) ∧ Ext B B' ∧ OffC B' L mu ∧ (B'.get? I = none ∧ B'.get? C = none ∧ B'.get? D = none) ∧ J B'
theorem rest_U {n : Nat} (mu : List Addr) (ex : List (Addr × Obj)) (J : Nat → List Value → Heap → Prop) (hS : ∀ r, S (ex ++ r)) (hoff : OffC B₀ L mu) (h0 : J 0 [] B₀)
    (turn : ∀ i v I oI C oC D m₂ h tk (E' : Value → Shared → Prop) ys B, i < n → P i v → J i ys B → Ext B₀ B → OffC B L mu → (B.get? I = none ∧ B.get? C = none ∧ B.get? D = none) → (∀ p ∈ ex, p.1 ≠ I ∧ p.1 ≠ C ∧ p.1 ≠ D) → ((@Ne Nat I C) ∧ (@Ne Nat I D) ∧ (@Ne Nat C D)) →
      LCg.NsObj oC m₂ → m₂ x = some v → Fr h₀ L h m → News h₀ L h ((I, oI) :: (C, oC) :: (D, LCg.lst ys) :: (ex ++ dif B h₀)) →
      wpAny (model prog w) A (eval elt (compEnvC scope cl C env)) (fun y s₂ => Stop (EltEnd h₀ L m mu s I oI C oC D ys ex B (J (i + 1) (ys ++ [y])) s₂)) E' { s with heap := h, toks := tk })
    (fin : ∀ ys B, J n ys B → Ext B₀ B → OffC B L mu → Fin ys (ex ++ dif B h₀)) :
    LCg.CompRest prog w A h₀ L m env elt x scope cl s S P Fin n 0 [] (ex ++ dif B₀ h₀) := by
  have key : ∀ k i ys B, i + k = n → J i ys B → Ext B₀ B → OffC B L mu → LCg.CompRest prog w A h₀ L m env elt x scope cl s S P Fin k i ys (ex ++ dif B h₀) := by
    intro k
    induction k with
    | zero => intro i ys B hi hJ hB ho; cases hi; exact fin ys B hJ hB ho
    | succ k ih =>
      intro i ys B hi hJ hB ho
      refine LCg.CompRest.succ fun v I oI C oC D m₂ h tk E' hP hC hx F N o3 hne => ?_
      have hn := off3_none o3 N
      have hx3 : ∀ p ∈ ex, p.1 ≠ I ∧ p.1 ≠ C ∧ p.1 ≠ D := fun p hp => o3.mem p (List.mem_append_left _ hp)
      refine wpAny_mono (turn i v I oI C oC D m₂ h tk E' ys B (by omega) hP hJ hB ho hn hx3 hne hC hx F N) (fun y s₂ h₂ => ?_) fun _ _ e => e
      obtain ⟨h', tk', B', rfl, F', N', hBB, ho', ⟨n1, n2, n3⟩, hJ'⟩ := h₂.out
      exact ⟨h', tk', _, rfl, F', N', off3_of hx3 n1 n2 n3, hS _, ih (i + 1) _ B' (by omega) hJ' (hB.trans hBB) ho'⟩
  exact key n 0 [] B₀ (Nat.zero_add n) h0 (Ext.refl _) hoff
theorem rest_T {n : Nat} (mu : List Addr) (ex : List (Addr × Obj)) (J : Nat → List Value → Heap → Prop) (hS : ∀ r, S (ex ++ r)) (hoff : OffC B₀ L mu) (h0 : J 0 [] B₀)
    (turn : ∀ i v I oI C oC D m₂ h tk (E' : Value → Shared → Prop) ys B, i < n → P i v → J i ys B → Ext B₀ B → OffC B L mu → (B.get? I = none ∧ B.get? C = none ∧ B.get? D = none) → (∀ p ∈ ex, p.1 ≠ I ∧ p.1 ≠ C ∧ p.1 ≠ D) → ((@Ne Nat I C) ∧ (@Ne Nat I D) ∧ (@Ne Nat C D)) →
      LCg.NsObj oC m₂ → m₂ x = some v → Fr h₀ L h m → News h₀ L h ((I, oI) :: (C, oC) :: (D, LCg.lst ys) :: (ex ++ dif B h₀)) →
      wpAny (model prog w) A (isTrue ct (compEnvC scope cl C env) (eval ct (compEnvC scope cl C env))) (fun ok s' => Br ok
        (wpAny (model prog w) A (eval elt (compEnvC scope cl C env)) (fun y s₂ => Stop (EltEnd h₀ L m mu s I oI C oC D ys ex B (J (i + 1) (ys ++ [y])) s₂)) E' s')
        (Stop (EltEnd h₀ L m mu s I oI C oC D ys ex B (J (i + 1) ys) s'))) E' { s with heap := h, toks := tk })
    (fin : ∀ ys B, J n ys B → Ext B₀ B → OffC B L mu → Fin ys (ex ++ dif B h₀)) :
    LCt.CompRestT prog w A h₀ L m env ct elt x scope cl s S P Fin n 0 [] (ex ++ dif B₀ h₀) := by
  have key : ∀ k i ys B, i + k = n → J i ys B → Ext B₀ B → OffC B L mu → LCt.CompRestT prog w A h₀ L m env ct elt x scope cl s S P Fin k i ys (ex ++ dif B h₀) := by
    intro k
    induction k with
    | zero => intro i ys B hi hJ hB ho; cases hi; exact fin ys B hJ hB ho
    | succ k ih =>
      intro i ys B hi hJ hB ho
      refine LCt.CompRestT.succ fun v I oI C oC D m₂ h tk E' hP hC hx F N o3 hne => ?_
      have hn := off3_none o3 N
      have hx3 : ∀ p ∈ ex, p.1 ≠ I ∧ p.1 ≠ C ∧ p.1 ≠ D := fun p hp => o3.mem p (List.mem_append_left _ hp)
      refine wpAny_mono (turn i v I oI C oC D m₂ h tk E' ys B (by omega) hP hJ hB ho hn hx3 hne hC hx F N) (fun ok s' h₁ => ?_) fun _ _ e => e
      cases ok with
      | true =>
        rw [if_pos rfl]
        refine wpAny_mono h₁.yes (fun y s₂ h₂ => ?_) fun _ _ e => e
        obtain ⟨h', tk', B', rfl, F', N', hBB, ho', ⟨n1, n2, n3⟩, hJ'⟩ := h₂.out
        exact ⟨h', tk', _, rfl, F', N', off3_of hx3 n1 n2 n3, hS _, ih (i + 1) _ B' (by omega) hJ' (hB.trans hBB) ho'⟩
      | false =>
        rw [if_neg (by decide)]
        obtain ⟨h', tk', B', rfl, F', N', hBB, ho', ⟨n1, n2, n3⟩, hJ'⟩ := h₁.no.out
        exact ⟨h', tk', _, rfl, F', N', off3_of hx3 n1 n2 n3, hS _, ih (i + 1) _ B' (by omega) hJ' (hB.trans hBB) ho'⟩
  exact key n 0 [] B₀ (Nat.zero_add n) h0 (Ext.refl _) hoff
end
end Mine
end

section
open PySem PySem.W PySem.Calls PyProof.Rows PySem.Spec
namespace Mine
/-! a comprehension of two clauses: «[x for p in l for x in p]» -/
section
variable {prog : Program} {w : World} {A : Around} {R : Result → Shared → Prop} {s : Shared}
abbrev two (elt target iter target2 iter2 : PySem.Expr) (scope : Scope) (pos : Pos) : PySem.Expr := .ListComp elt [⟨target, iter, [], 0⟩, ⟨target2, iter2, [], 0⟩] scope pos
abbrev Never : Value → Shared → Prop := fun _ _ => False
theorem never_any {α : Type} {E : Value → Shared → Prop} {t : Sem α} {Q : α → Shared → Prop} (h : wpAny (model prog w) A t Q Never s) : wpAny (model prog w) A t Q E s := wpAny_mono h (fun _ _ q => q) fun _ _ f => f.elim
theorem turn_two0 (elt target iter target2 iter2 : PySem.Expr) (scope : Scope) (pos : Pos) (it acc : Value) (env : Env) :
    compTurn (two elt target iter target2 iter2 scope pos) 0 it acc env = (do
      standAt iter.pos
      match ← pyNext it with
      | none => pure (.done .next)
      | some v =>
        letOwnedTupleGo target it v
        assign target env v
        let x ← eval iter2 env
        standAt iter2.pos
        let x ← foldedSetIterable iter2 env x
        let it2 ← holding [x] (pyIter x)
        let _ ← runOwn (.compStart (two elt target iter target2 iter2 scope pos) 1 it2 acc env) env
        again (.compLoop (two elt target iter target2 iter2 scope pos) 0 it acc env)) := by rfl
theorem turn_two1 (elt target iter target2 iter2 : PySem.Expr) (scope : Scope) (pos : Pos) (it acc : Value) (env : Env) :
    compTurn (two elt target iter target2 iter2 scope pos) 1 it acc env = (do
      standAt iter2.pos
      match ← pyNext it with
      | none => pure (.done .next)
      | some v =>
        letOwnedTupleGo target2 it v
        assign target2 env v
        (do let _ ← call (.builtin "list.append") [acc, ← eval elt env])
        again (.compLoop (two elt target iter target2 iter2 scope pos) 1 it acc env)) := by rfl
theorem start_two1 {elt target iter target2 iter2 : PySem.Expr} {scope : Scope} {pos : Pos} {it acc : Value} {env : Env}
    (h0 : codeAny (model prog w) A (.compLoop (two elt target iter target2 iter2 scope pos) 1 it acc env) R s)
    (h : wpAny (model prog w) A (pyIter it) (fun it' s' => codeAny (model prog w) A (.compLoop (two elt target iter target2 iter2 scope pos) 1 it' acc env) R s') Never s) :
    codeAny (model prog w) A (.compStart (two elt target iter target2 iter2 scope pos) 1 it acc env) R s := by
  refine codeAny_of_tree ?_
  show wpAny _ _ ((compStart (two elt target iter target2 iter2 scope pos) 1 it acc env).onRaise (fun x => do noteFrame x env; standAt theWindowsPlace)) _ _ s
  refine wpAny_notedAt (never_any ?_)
  unfold compStart
  show wpAny _ _ (ask >>= _) _ _ s
  refine wpAny_bind (wpAny_askSetting (wpAny_ite ?_))
  split
  · first
      | exact wpAny_bind (wpAny_pure (wpAny_pure (And.intro rfl h0)))
      | exact wpAny_pure (And.intro rfl h0)
  · refine wpAny_bind (wpAny_rule ?_)
    show wpAny _ _ (standAt iter2.pos >>= _) _ _ s
    exact wpAny_bind (wpAny_standAt (wpAny_bind (wpAny_mono h (fun it' s' h' => wpAny_pure (And.intro rfl h')) fun _ _ x => x)))
theorem loop_two1 {elt target iter target2 iter2 : PySem.Expr} {scope : Scope} {pos : Pos} {it acc : Value} {env : Env} (I : Nat → Shared → Prop)
    (turn : ∀ n s, I n s → wpAny (model prog w) A (pyNext it) (fun r s₁ => match r with
      | none => R (.ok .next) s₁
      | some v => wpAny (model prog w) A (assign target2 env v) (fun _ s₂ => wpAny (model prog w) A (eval elt env) (fun x s₃ =>
          wpAny (model prog w) A (call (.builtin "list.append") [acc, x]) (fun _ s₄ => ∃ m, m < n ∧ I m s₄) Never s₃) Never s₂) Never s₁) Never s)
    (n : Nat) (h : I n s) (ht : ∀ v, letOwnedTupleGo target2 it v = pure () := by intro _; rfl) :
    codeAny (model prog w) A (.compLoop (two elt target iter target2 iter2 scope pos) 1 it acc env) R s := by
  refine codeAny_loop rfl I (fun n s hI => ?_) n h
  show wpAny _ _ ((compTurn (two elt target iter target2 iter2 scope pos) 1 it acc env).onRaise (fun x => do noteFrame x env; theTreesLotGoes x)) _ _ s
  refine wpAny_noted (never_any ?_)
  rw [turn_two1]
  refine wpAny_bind (wpAny_standAt (wpAny_bind (wpAny_mono (turn n s hI) (fun r s₁ h₁ => ?_) fun _ _ h' => h')))
  cases r with
  | none => exact wpAny_pure h₁
  | some v =>
    refine wpAny_bind (wpAny_of_eq (ht v) ?_)
    exact wpAny_bind (wpAny_mono h₁ (fun _ s₂ h₂ => wpAny_bind (wpAny_bind (wpAny_mono h₂ (fun x s₃ h₃ => wpAny_bind (wpAny_mono h₃
      (fun _ s₄ h₄ => wpAny_pure (wpAny_pure ⟨rfl, h₄⟩)) fun _ _ h' => h')) fun _ _ h' => h'))) fun _ _ h' => h')
theorem loop_two0 {elt target iter target2 iter2 : PySem.Expr} {scope : Scope} {pos : Pos} {it acc : Value} {env : Env} (I : Nat → Shared → Prop)
    (turn : ∀ n s, I n s → wpAny (model prog w) A (pyNext it) (fun r s₁ => match r with
      | none => R (.ok .next) s₁
      | some v => wpAny (model prog w) A (assign target env v) (fun _ s₂ => wpAny (model prog w) A (eval iter2 env) (fun x s₃ => wpAny (model prog w) A (pyIter x) (fun it2 s₄ =>
          codeAny (model prog w) A (.compStart (two elt target iter target2 iter2 scope pos) 1 it2 acc env) (fun r s₅ => match r with | .ok _ => ∃ m, m < n ∧ I m s₅ | .error _ => False) s₄) Never s₃) Never s₂) Never s₁) Never s)
    (n : Nat) (h : I n s) (ht : ∀ v, letOwnedTupleGo target it v = pure () := by intro _; rfl) (hs : ∀ x, foldedSetIterable iter2 env x = pure x := by intro _; rfl) :
    codeAny (model prog w) A (.compLoop (two elt target iter target2 iter2 scope pos) 0 it acc env) R s := by
  refine codeAny_loop rfl I (fun n s hI => ?_) n h
  show wpAny _ _ ((compTurn (two elt target iter target2 iter2 scope pos) 0 it acc env).onRaise (fun x => do noteFrame x env; theTreesLotGoes x)) _ _ s
  refine wpAny_noted (never_any ?_)
  rw [turn_two0]
  refine wpAny_bind (wpAny_standAt (wpAny_bind (wpAny_mono (turn n s hI) (fun r s₁ h₁ => ?_) fun _ _ h' => h')))
  cases r with
  | none => exact wpAny_pure h₁
  | some v =>
    refine wpAny_bind (wpAny_of_eq (ht v) ?_)
    refine wpAny_bind (wpAny_mono h₁ (fun _ s₂ h₂ => wpAny_bind (wpAny_mono h₂ (fun x s₃ h₃ => ?_) fun _ _ h' => h')) fun _ _ h' => h')
    refine wpAny_bind (wpAny_standAt (wpAny_bind (wpAny_of_eq (hs x) (wpAny_bind (wpAny_holding (wpAny_mono h₃ (fun it2 s₄ h₄ => ?_) fun _ _ h' => h'))))))
    refine wpAny_bind (wpAny_runOwn (codeAny_mono h₄ fun r s₅ h₅ => ?_))
    cases r with
    | ok f => exact wpAny_pure ⟨rfl, h₅⟩
    | error e => exact h₅.elim
end
end Mine
end

section
open PySem PySem.W PySem.Calls PyProof.Rows PySem.Spec
namespace Mine
section
variable {prog : Program} {w : World} {A : Around} {R : Result → Shared → Prop} {s : Shared}
abbrev nestE (x p : Str) (p0 p1 p2 p3 : Pos) (iter : PySem.Expr) (scope : Scope) (pos : Pos) : PySem.Expr := two (.Name x p0) (.Name p p1) iter (.Name x p2) (.Name p p3) scope pos
theorem inner_loop {x p : Str} {p0 p1 p2 p3 : Pos} {iter : PySem.Expr} {scope : Scope} {pos : Pos} {cenv : Env} {I a D : Addr} {its : Array Value} {ys : List Value} {m : Str → Option Value}
    (hh : A.handled = none) (hx : cenv.kindOf x = some .local) (hkind : cenv.scope.kind = .function) (hxd : (x == ("__debug__" : Str)) = false)
    (hIC : I ≠ cenv.locals) (hID : I ≠ D) (hDC : D ≠ cenv.locals) (haI : a ≠ I) (haC : a ≠ cenv.locals) (haD : a ≠ D)
    (hit : s.heap.IsTupleIter I a 0) (ht : s.heap.IsTuple a its) (hD : s.heap.get? D = some (LCg.lst ys)) (hn : s.heap.Ns cenv.locals m) (hsz : ys.length + its.size ≤ sizeLine)
    (hR : ∀ h' tk m', h'.Ns cenv.locals m' → h'.get? D = some (LCg.lst (ys ++ its.toList)) → (∀ b o, b ≠ cenv.locals → b ≠ I → b ≠ D → s.heap.get? b = some o → h'.get? b = some o) → R (.ok .next) { s with heap := h', toks := tk }) :
    codeAny (model prog w) A (.compLoop (nestE x p p0 p1 p2 p3 iter scope pos) 1 (.ref I) (.ref D) cenv) R s := by
  refine loop_two1 (fun k s' => ∃ h' tk i m', s' = { s with heap := h', toks := tk } ∧ i ≤ its.size ∧ k = its.size + 1 - i ∧ h'.IsTupleIter I a i ∧ h'.IsTuple a its ∧ h'.get? D = some (LCg.lst (ys ++ its.toList.take i)) ∧ h'.Ns cenv.locals m' ∧
    ∀ b o, b ≠ cenv.locals → b ≠ I → b ≠ D → s.heap.get? b = some o → h'.get? b = some o) ?_ (its.size + 1)
    ⟨s.heap, s.toks, 0, m, rfl, Nat.zero_le _, rfl, hit, ht, by rw [List.take_zero, List.append_nil]; exact hD, hn, fun _ _ _ _ _ e => e⟩
  rintro k s' ⟨h', tk, i, m', rfl, hi, rfl, hit', ht', hD', hn', hk⟩
  have W := Walks.tuple (prog := prog) (w := w) hh I a haI its
  by_cases hlt : i < its.size
  · refine W.item i _ _ _ hlt ⟨hit', ht'⟩ fun v h₁ tk₁ hv hst hk₁ => ?_
    refine wpAny_assign_Name (wpAny_storeName_local hx (hn'.at' fun o e => hk₁ _ o (by simpa using Ne.symm hIC) e) (fun h₂ hn₂ hs₂ => ?_) (by rw [hkind]; rfl))
    refine wpAny_Name (wpAny_loadName_local hkind hx hn₂ (if_pos rfl) ?_) hxd
    have hD₂ : h₂.get? D = some (LCg.lst (ys ++ its.toList.take i)) := hs₂.extBut _ _ hDC (hk₁ _ _ (by simpa using Ne.symm hID) hD')
    refine append_at (hsz := by rw [List.size_toArray, List.length_append, List.length_take]; omega) hD₂ fun h₃ hs₃ hD₃ => ?_
    · refine ⟨its.size + 1 - (i + 1), by omega, h₃, _, i + 1, _, rfl, hlt, rfl, (hst.1.extBut hs₂.extBut hIC).extBut hs₃.extBut hID, (hst.2.extBut hs₂.extBut haC).extBut hs₃.extBut haD, ?_, hn₂.sameBut hs₃ (Ne.symm hDC), fun b o hbC hbI hbD e => ?_⟩
      · rw [hD₃]
        have hv' : its.toList[i]? = some v := by simpa using hv
        rw [List.take_add_one, hv', ← List.append_assoc]
        exact congrArg some (LCg.lst_snoc _ v)
      · exact hs₃.extBut _ _ hbD (hs₂.extBut _ _ hbC (hk₁ _ _ (by simpa using hbI) (hk b o hbC hbI hbD e)))
  · obtain rfl : i = its.size := Nat.le_antisymm hi (Nat.not_lt.mp hlt)
    refine W.done _ _ _ ⟨hit', ht'⟩ fun h₁ tk₁ hk₁ => ?_
    refine hR h₁ tk₁ m' (hn'.at' fun o e => hk₁ _ o (by simpa using Ne.symm hIC) e) ?_ fun b o hbC hbI hbD e => hk₁ _ _ (by simpa using hbI) (hk b o hbC hbI hbD e)
    rw [hk₁ _ _ (by simpa using Ne.symm hID) hD', List.take_of_length_le (by simp)]
/-- the rows of a list of tuples -/
inductive TupsAt (h : Heap) : List Value → List (List Value) → Prop
  | nil : TupsAt h [] []
  | cons {a : Addr} {its : Array Value} {vs : List Value} {ts : List (List Value)} : h.IsTuple a its → TupsAt h vs ts → TupsAt h (.ref a :: vs) (its.toList :: ts)
theorem TupsAt.keeps {h h' : Heap} (k : ∀ b o, h.get? b = some o → h'.get? b = some o) : ∀ {vs : List Value} {ts : List (List Value)}, TupsAt h vs ts → TupsAt h' vs ts
  | _, _, .nil => .nil
  | _, _, .cons (its := its) ⟨o, e, r⟩ c => .cons (its := its) ⟨o, k _ _ e, r⟩ (c.keeps k)
theorem TupsAt.at {h : Heap} : ∀ {vs : List Value} {ts : List (List Value)}, TupsAt h vs ts → ∀ {i : Nat} {v : Value}, vs[i]? = some v → ∃ a its, v = .ref a ∧ h.IsTuple a its ∧ ts[i]? = some its.toList
  | _, _, .nil, i, v, e => by simp at e
  | _, _, .cons (its := its) x c, 0, v, e => by cases Option.some.inj e; exact ⟨_, its, rfl, x, rfl⟩
  | _, _, .cons x c, i + 1, v, e => c.at (i := i) (by simpa using e)
theorem TupsAt.len {h : Heap} : ∀ {vs : List Value} {ts : List (List Value)}, TupsAt h vs ts → vs.length = ts.length
  | _, _, .nil => rfl
  | _, _, .cons _ c => by simp [c.len]
theorem flat_take {ts : List (List Value)} {i : Nat} {t : List Value} (h : ts[i]? = some t) : (ts.take (i + 1)).flatten = (ts.take i).flatten ++ t := by
  rw [List.take_add_one, h, List.flatten_append]
  simp
theorem flat_le {ts : List (List Value)} (i : Nat) : (ts.take i).flatten.length ≤ ts.flatten.length := by
  have : ts.flatten = (ts.take i).flatten ++ (ts.drop i).flatten := by rw [← List.flatten_append, List.take_append_drop]
  rw [this, List.length_append]; exact Nat.le_add_right _ _
theorem outer_loop {x p : Str} {p0 p1 p2 p3 : Pos} {iter : PySem.Expr} {scope : Scope} {pos : Pos} {cenv : Env} {I l D : Addr} {vs : List Value} {ts : List (List Value)} {m : Str → Option Value}
    (hh : A.handled = none) (hx : cenv.kindOf x = some .local) (hp : cenv.kindOf p = some .local) (hkind : cenv.scope.kind = .function) (hxd : (x == ("__debug__" : Str)) = false) (hpd : (p == ("__debug__" : Str)) = false)
    (hIC : I ≠ cenv.locals) (hID : I ≠ D) (hDC : D ≠ cenv.locals) (hl : s.heap.IsList l vs.toArray) (hlI : l ≠ I) (hlC : l ≠ cenv.locals) (hlD : l ≠ D) (hT : TupsAt s.heap vs ts)
    (hit : s.heap.IsListIter I l 0) (hD : s.heap.get? D = some (LCg.lst [])) (hn : s.heap.Ns cenv.locals m) (hsz : ts.flatten.length ≤ sizeLine)
    (hI0 : ∀ (i : Nat) (a : Addr), vs[i]? = some (Value.ref a) → a ≠ I ∧ a ≠ cenv.locals ∧ a ≠ D)
    (hR : ∀ h' tk m', h'.Ns cenv.locals m' → h'.get? D = some (LCg.lst ts.flatten) → (∀ b o, b ≠ cenv.locals → b ≠ I → b ≠ D → s.heap.get? b = some o → h'.get? b = some o) → R (.ok .next) { s with heap := h', toks := tk }) :
    codeAny (model prog w) A (.compLoop (nestE x p p0 p1 p2 p3 iter scope pos) 0 (.ref I) (.ref D) cenv) R s := by
  have hlen := hT.len
  refine loop_two0 (fun k s' => ∃ h' tk i m', s' = { s with heap := h', toks := tk } ∧ i ≤ vs.length ∧ k = vs.length + 1 - i ∧ h'.IsListIter I l i ∧ h'.get? D = some (LCg.lst (ts.take i).flatten) ∧ h'.Ns cenv.locals m' ∧
    ∀ b o, b ≠ cenv.locals → b ≠ I → b ≠ D → s.heap.get? b = some o → h'.get? b = some o) ?_ (vs.length + 1)
    ⟨s.heap, s.toks, 0, m, rfl, Nat.zero_le _, rfl, hit, by rw [List.take_zero]; exact hD, hn, fun _ _ _ _ _ e => e⟩
  rintro k s' ⟨h', tk, i, m', rfl, hi, rfl, hit', hD', hn', hk⟩
  have W := Walks.list (prog := prog) (w := w) hh I l hlI vs.toArray
  have hl' : h'.IsList l vs.toArray := let ⟨o, e, r⟩ := hl; ⟨o, hk _ _ hlC hlI hlD e, r⟩
  by_cases hlt : i < vs.length
  · refine W.item i _ _ _ (by simpa using hlt) ⟨hit', hl'⟩ fun v h₁ tk₁ hv hst hk₁ => ?_
    have hv' : vs[i]? = some v := by simpa using hv
    obtain ⟨a, its, rfl, ha, hti⟩ := hT.at hv'
    obtain ⟨haI, haC, haD⟩ := hI0 i a hv'
    refine wpAny_assign_Name (wpAny_storeName_local hp (hn'.at' fun o e => hk₁ _ o (by simpa using Ne.symm hIC) e) (fun h₂ hn₂ hs₂ => ?_) (by rw [hkind]; rfl))
    refine wpAny_Name (wpAny_loadName_local hkind hp hn₂ (if_pos rfl) ?_) hpd
    have up₂ : ∀ b o, b ≠ cenv.locals → b ≠ I → b ≠ D → s.heap.get? b = some o → h₂.get? b = some o := fun b o hbC hbI hbD e => hs₂.extBut _ _ hbC (hk₁ _ _ (by simpa using hbI) (hk b o hbC hbI hbD e))
    have ha₂ : h₂.IsTuple a its := let ⟨o, e, r⟩ := ha; ⟨o, up₂ _ _ haC haI haD e, r⟩
    have hD₂ : h₂.get? D = some (LCg.lst (ts.take i).flatten) := hs₂.extBut _ _ hDC (hk₁ _ _ (by simpa using Ne.symm hID) hD')
    have hit₂ : h₂.IsListIter I l (i + 1) := hst.1.extBut hs₂.extBut hIC
    refine wpAny_pyIter_tuple ha₂ ?_
    have old : ∀ b, b < h₂.objs.size → b ≠ h₂.objs.size := fun b hb => Nat.ne_of_lt hb
    obtain ⟨oI, eI, _⟩ := id hit₂
    obtain ⟨oa, ea, _⟩ := id ha₂
    obtain ⟨oC, _, _, eC, _⟩ := id hn₂
    have hIn := old _ (Heap.lt_size eI)
    have han := old _ (Heap.lt_size ea)
    have hCn := old _ (Heap.lt_size eC)
    have hDn := old _ (Heap.lt_size hD₂)
    have hsz' : (ts.take i).flatten.length + its.size ≤ sizeLine := by
      have h1 := flat_le (ts := ts) (i + 1)
      rw [flat_take hti, List.length_append] at h1
      have h2 : its.toList.length = its.size := Array.length_toList
      omega
    have hgo : ∀ s₃ : Shared, s₃ = { { { s with heap := h₂, toks := tk₁ + 1 } with heap := h₂.push { cls := .type "tuple_iterator", data := .fields #[.ref a, .int 0 0] } } with toks := tk₁ + 1 } →
        codeAny (model prog w) A (.compLoop (nestE x p p0 p1 p2 p3 iter scope pos) 1 (.ref h₂.objs.size) (.ref D) cenv)
          (fun r s₅ => match r with | .ok _ => ∃ m, m < vs.length + 1 - i ∧ (∃ h' tk j m', s₅ = { s with heap := h', toks := tk } ∧ j ≤ vs.length ∧ m = vs.length + 1 - j ∧ h'.IsListIter I l j ∧ h'.get? D = some (LCg.lst (ts.take j).flatten) ∧ h'.Ns cenv.locals m' ∧
            ∀ b o, b ≠ cenv.locals → b ≠ I → b ≠ D → s.heap.get? b = some o → h'.get? b = some o) | .error _ => False) s₃ := by
      rintro s₃ rfl
      refine inner_loop hh hx hkind hxd (Ne.symm hCn) (Ne.symm hDn) hDC han haC haD ⟨_, Heap.get?_push_size _ rfl, rfl, rfl⟩ ⟨oa, Heap.get?_push_of_some _ ea, ‹_›⟩ (Heap.get?_push_of_some _ hD₂) (hn₂.at' fun o e => Heap.get?_push_of_some _ e) hsz' fun h₃ tk₃ m₃ hn₃ hD₃ hk₃ => ?_
      refine ⟨vs.length + 1 - (i + 1), by omega, h₃, tk₃, i + 1, m₃, rfl, hlt, rfl, ?_, ?_, hn₃, fun b o hbC hbI hbD e => ?_⟩
      · exact ⟨oI, hk₃ _ _ hIC hIn hID (Heap.get?_push_of_some _ eI), ‹_›⟩
      · rw [flat_take hti]; exact hD₃
      · have e₂ := up₂ b o hbC hbI hbD e
        exact hk₃ _ _ hbC (old _ (Heap.lt_size e₂)) hbD (Heap.get?_push_of_some _ e₂)
    exact start_two1 (hgo _ rfl) (wpAny_pyIter_tupleiter ⟨_, Heap.get?_push_size _ rfl, rfl, rfl⟩ (hgo _ rfl))
  · obtain rfl : i = vs.length := Nat.le_antisymm hi (Nat.not_lt.mp hlt)
    refine W.done _ _ _ (by simpa using ⟨hit', hl'⟩) fun h₁ tk₁ hk₁ => ?_
    refine hR h₁ tk₁ m' (hn'.at' fun o e => hk₁ _ o (by simpa using Ne.symm hIC) e) ?_ fun b o hbC hbI hbD e => hk₁ _ _ (by simpa using hbI) (hk b o hbC hbI hbD e)
    rw [hk₁ _ _ (by simpa using Ne.symm hID) hD', List.take_of_length_le (Nat.le_of_eq hlen.symm)]
end
end Mine
end

section
open PySem PySem.W PySem.Calls PyProof.Rows PySem.Spec
namespace Mine
section
variable {prog : Program} {w : World} {A : Around} {E : Value → Shared → Prop} {s : Shared}
theorem TupsAt.mem {h : Heap} {vs : List Value} {ts : List (List Value)} (hT : TupsAt h vs ts) {i : Nat} {a : Addr} (e : vs[i]? = some (Value.ref a)) : ∃ o, h.get? a = some o := by
  obtain ⟨b, its, h1, ⟨o, h2, _⟩, _⟩ := hT.at e
  cases h1
  exact ⟨o, h2⟩
/-- what a comprehension of two clauses wants of its source -/
@[irreducible] def NestSrc (Q : Value → Shared → Prop) (xv : Value) (s₁ : Shared) : Prop :=
  ∃ (l : Addr) (vs : List Value) (ts : List (List Value)), xv = .ref l ∧ s₁.heap.IsList l vs.toArray ∧ TupsAt s₁.heap vs ts ∧ ts.flatten.length ≤ sizeLine ∧
    ∀ h' tk D, Ext s₁.heap h' → s₁.heap.get? D = none → h'.get? D = some (LCg.lst ts.flatten) → Q (.ref D) { s₁ with heap := h', toks := tk }
theorem NestSrc.go {Q : Value → Shared → Prop} {s₁ : Shared} {l : Addr} {vs : List Value} {ts : List (List Value)} (hl : s₁.heap.IsList l vs.toArray) (hT : TupsAt s₁.heap vs ts) (hsz : ts.flatten.length ≤ sizeLine)
    (h : ∀ h' tk D, Ext s₁.heap h' → s₁.heap.get? D = none → h'.get? D = some (LCg.lst ts.flatten) → Q (.ref D) { s₁ with heap := h', toks := tk }) : NestSrc Q (.ref l) s₁ := by
  unfold NestSrc
  exact ⟨l, vs, ts, rfl, hl, hT, hsz, h⟩
theorem NestSrc.out {Q : Value → Shared → Prop} {s₁ : Shared} {xv : Value} (h : NestSrc Q xv s₁) : ∃ (l : Addr) (vs : List Value) (ts : List (List Value)), xv = .ref l ∧ s₁.heap.IsList l vs.toArray ∧ TupsAt s₁.heap vs ts ∧ ts.flatten.length ≤ sizeLine ∧
    ∀ h' tk D, Ext s₁.heap h' → s₁.heap.get? D = none → h'.get? D = some (LCg.lst ts.flatten) → Q (.ref D) { s₁ with heap := h', toks := tk } := by
  unfold NestSrc at h
  exact h
theorem ListComp_nest {x p : Str} {p0 p1 p2 p3 : Pos} {iter : PySem.Expr} {scope : Scope} {pos : Pos} {env : Env} {cl : List (Str × Addr)} {Q : Value → Shared → Prop}
    (hh : A.handled = none) (hclos : closureFor scope env = pure cl) (hcell : ∀ y ∈ scope.names, y.2 ≠ .cell) (hkind : scope.kind = .function)
    (hnames : ∀ y ∈ scope.names, y.2 = .local → scope.names.lookup y.1 = some .local) (hx : scope.names.lookup x = some .local) (hp : scope.names.lookup p = some .local)
    (hxd : (x == ("__debug__" : Str)) = false) (hpd : (p == ("__debug__" : Str)) = false)
    (h : wpAny (model prog w) A (eval iter env) (NestSrc Q) E s)
    (hs : ∀ x, foldedSetIterable iter env x = pure x := by intro _; rfl) :
    wpAny (model prog w) A (eval (nestE x p p0 p1 p2 p3 iter scope pos) env) Q E s := by
  rw [show nestE x p p0 p1 p2 p3 iter scope pos = PySem.Expr.ListComp (.Name x p0) [⟨.Name p p1, iter, [], 0⟩, ⟨.Name x p2, .Name p p3, [], 0⟩] scope pos from rfl, eval_ListComp]
  refine wpAny_comprehension_free (use := none) rfl hs hclos hkind hnames (wpAny_mono h (fun xv s₁ h₁ => ?_) fun _ _ e => e)
  obtain ⟨l, vs, ts, rfl, hl, hT, hsz, hQ⟩ := h₁.out
  refine wpAny_pyIter_list hl (wpAny_newObj_type (hd := by size_fits) (wpAny_newFunctionEnv hcell (by intro y hy; simp at hy) (fun h₁ hns₁ hsb₁ => ?_) hkind))
  dsimp only at hns₁ hsb₁ ⊢
  obtain ⟨ol, hol, hol'⟩ := id hl
  have hll : l < s₁.heap.objs.size := Heap.lt_size hol
  generalize hH1 : s₁.heap.push { cls := .type "list_iterator", data := .fields #[.ref l, .int 0 0] } = H1 at hns₁ hsb₁ ⊢
  have hD : H1.objs.size = s₁.heap.objs.size + 1 := by rw [← hH1, Heap.size_push]
  generalize hH2 : H1.push { cls := .type "list", dict := none, data := .seq ([] : List Value).toArray } = H2 at hns₁ hsb₁ ⊢
  have hC : H2.objs.size = s₁.heap.objs.size + 2 := by rw [← hH2, Heap.size_push, hD]
  have hDI : H1.objs.size ≠ s₁.heap.objs.size := by rw [hD]; exact Nat.succ_ne_self _
  have hDC : H1.objs.size ≠ H2.objs.size := by rw [hD, hC]; exact Nat.ne_of_lt (Nat.lt_succ_self _)
  have hIC : s₁.heap.objs.size ≠ H2.objs.size := by rw [hC]; exact Nat.ne_of_lt (Nat.lt_succ_of_lt (Nat.lt_succ_self _))
  have below : ∀ b, b < s₁.heap.objs.size → b ≠ H2.objs.size ∧ b ≠ s₁.heap.objs.size ∧ b ≠ H1.objs.size := fun b hb =>
    ⟨by rw [hC]; exact Nat.ne_of_lt (Nat.lt_succ_of_lt (Nat.lt_succ_of_lt hb)), Nat.ne_of_lt hb, by rw [hD]; exact Nat.ne_of_lt (Nat.lt_succ_of_lt hb)⟩
  have old : ∀ b o, s₁.heap.get? b = some o → h₁.get? b = some o := fun b o e =>
    hsb₁.extBut b o (below b (Heap.lt_size e)).1 (Heap.get?_push_of_some _ (hH2 ▸ Heap.get?_push_of_some _ (hH1 ▸ Heap.get?_push_of_some _ e)))
  have hit : h₁.IsListIter s₁.heap.objs.size l 0 :=
    ⟨_, hsb₁.extBut _ _ hIC (Heap.get?_push_of_some _ (hH2 ▸ Heap.get?_push_of_some _ (hH1 ▸ Heap.get?_push_size _ rfl))), rfl, rfl⟩
  have hacc : h₁.get? H1.objs.size = some (LCg.lst []) := hsb₁.extBut _ _ hDC (Heap.get?_push_of_some _ (hH2 ▸ Heap.get?_push_size _ rfl))
  have hl₁ : h₁.IsList l vs.toArray := ⟨ol, old _ _ hol, hol'⟩
  have hnew : s₁.heap.get? H1.objs.size = none := Heap.get?_none_of_le (by rw [hD]; exact Nat.le_succ _)
  have loop : ∀ s₂ : Shared, s₂ = { s₁ with heap := h₁, toks := s₁.toks + ([] : List (Str × Value)).length } →
      codeAny (model prog w) A (.compLoop (nestE x p p0 p1 p2 p3 iter scope pos) 0 (.ref s₁.heap.objs.size) (.ref H1.objs.size) (compEnvC scope cl H2.objs.size env))
        (compPost (model prog w) A E none Q (.ref H1.objs.size) H2.objs.size) s₂ := by
    rintro s₂ rfl
    refine outer_loop (cenv := compEnvC scope cl H2.objs.size env) (vs := vs) (ts := ts) hh (lookup_relabel_local hx) (lookup_relabel_local hp) (by simp [compEnvC, relabel, hkind]) hxd hpd hIC (Ne.symm hDI) hDC hl₁ (below l hll).2.1 (below l hll).1 (below l hll).2.2 (hT.keeps old) hit hacc hns₁ hsz (fun i a e => ?_) fun h' tk m' hn hDD hk => ?_
    · obtain ⟨o, ho⟩ := hT.mem e
      have := below a (Heap.lt_size ho)
      exact ⟨this.2.1, this.1, this.2.2⟩
    · refine ⟨m', hn, fun h'' hs'' => hQ h'' tk H1.objs.size (fun b o e => ?_) hnew (hs''.extBut _ _ hDC hDD)⟩
      have q := below b (Heap.lt_size e)
      exact hs''.extBut b o q.1 (hk b o q.1 q.2.1 q.2.2 (old b o e))
  exact codeAny_compStart_list (loop _ rfl) (wpAny_pyIter_listiter hit (loop _ rfl))
end
end Mine
end

section
open PySem PySem.W PySem.Calls PyProof.Rows PySem.Spec
namespace Mine
theorem perm_map_exists {α β : Type} {f : α → β} : ∀ {ws : List α} {l : List β}, l.Perm (ws.map f) → ∃ ws' : List α, ws'.Perm ws ∧ ws'.map f = l
  | [], l, h => ⟨[], .nil, (List.Perm.eq_nil h).symm⟩
  | p :: r, l, h => by
    have hm : f p ∈ l := h.mem_iff.mpr (.head _)
    obtain ⟨s, t, rfl⟩ := List.append_of_mem hm
    have h2 : (s ++ t).Perm (r.map f) := (List.perm_middle.symm.trans h).cons_inv
    obtain ⟨ws', h3, h4⟩ := perm_map_exists h2
    obtain ⟨s', t', rfl, rfl, rfl⟩ := List.map_eq_append_iff.mp h4
    refine ⟨s' ++ p :: t', List.perm_middle.trans (h3.cons p), by simp⟩
theorem wishAt_of_mem {ws : List (Nat × Wish)} {k : Nat} {W : Wish} (hnd : (ws.map (·.1)).Nodup) (h : (k, W) ∈ ws) : wishAt ws k = some W := by
  induction ws with
  | nil => cases h
  | cons q r ih =>
    unfold wishAt
    rw [List.find?_cons]
    rw [List.map_cons, List.nodup_cons] at hnd
    rcases List.mem_cons.mp h with rfl | h
    · rw [decide_eq_true rfl]; rfl
    · have : q.1 ≠ k := fun e => hnd.1 (e ▸ List.mem_map.mpr ⟨(k, W), h, rfl⟩)
      rw [decide_eq_false this]
      exact ih hnd.2 h
theorem ws_sorted {ws : List (Nat × Wish)} {kvs : List (Int × Value)} {h : Heap} {ns : List Int} (hW : Held h kvs ws) (hp : ns.Perm (kvs.map (·.1))) (hs : ns.Pairwise (· ≤ ·)) :
    ∃ ws' : List (Nat × Wish), ws'.Perm ws ∧ ws'.map (fun p => (p.1 : Int)) = ns ∧ ws'.Pairwise (fun p q => p.1 ≤ q.1) := by
  rw [hW.keys] at hp
  obtain ⟨ws', h1, rfl⟩ := perm_map_exists hp
  refine ⟨ws', h1, rfl, ?_⟩
  rw [List.pairwise_map] at hs
  exact hs.imp fun h => Int.ofNat_le.mp h
/-- rows, as they stand in a list -/
inductive RowsAt (h : Heap) : List Value → List (Nat × Wish) → Prop
  | nil : RowsAt h [] []
  | cons {k : Nat} {a : Addr} {t : Tok} {v : Value} {W : Wish} {vs : List Value} {ws : List (Nat × Wish)} : IsTup h a #[.int k t, v] → Reads h v (wishD W) [] → RowsAt h vs ws → RowsAt h (.ref a :: vs) ((k, W) :: ws)
theorem IsTup.keeps' {h h' : Heap} {a : Addr} {vs : Array Value} (k : Ext h h') (x : IsTup h a vs) : IsTup h' a vs := let ⟨o, e, r⟩ := x; ⟨o, k _ _ e, r⟩
theorem RowsAt.keeps {h h' : Heap} (k : Ext h h') : ∀ {vs : List Value} {ws : List (Nat × Wish)}, RowsAt h vs ws → RowsAt h' vs ws
  | _, _, .nil => .nil
  | _, _, .cons a b c => .cons (IsTup.keeps' k a) (Reads.keeps k b) (c.keeps k)
theorem RowsAt.snoc {h : Heap} {k : Nat} {a : Addr} {t : Tok} {v : Value} {W : Wish} (ha : IsTup h a #[.int k t, v]) (hv : Reads h v (wishD W) []) : ∀ {vs : List Value} {ws : List (Nat × Wish)}, RowsAt h vs ws → RowsAt h (vs ++ [.ref a]) (ws ++ [(k, W)])
  | _, _, .nil => .cons ha hv .nil
  | _, _, .cons a b c => .cons a b (c.snoc ha hv)
theorem RowsAt.len {h : Heap} : ∀ {vs : List Value} {ws : List (Nat × Wish)}, RowsAt h vs ws → vs.length = ws.length
  | _, _, .nil => rfl
  | _, _, .cons _ _ c => by simp [c.len]
theorem RowsAt.at {h : Heap} : ∀ {vs : List Value} {ws : List (Nat × Wish)}, RowsAt h vs ws → ∀ {i : Nat} {v : Value}, vs[i]? = some v → ∃ k W a t u, ws[i]? = some (k, W) ∧ v = .ref a ∧ IsTup h a #[.int (k : Nat) t, u] ∧ Reads h u (wishD W) []
  | _, _, .nil, i, v, e => by simp at e
  | _, _, .cons a b c, 0, v, e => by cases Option.some.inj e; exact ⟨_, _, _, _, _, rfl, rfl, a, b⟩
  | _, _, .cons a b c, i + 1, v, e => c.at (i := i) (by simpa using e)
def rowT (p : Nat × Wish) : PyData := .tuple [.int p.1, wishD p.2]
theorem isTup_reads {h : Heap} {a : Addr} {vs : Array Value} {xs : List PyData} {as : List Addr} (hT : IsTup h a vs) (r : ReadsAll h vs.toList xs as) : Reads h (.ref a) (.tuple xs) as := by
  obtain ⟨o, ho, hc, n, hd⟩ := hT
  exact .tuple ho hc hd r
theorem RowsAt.reads {h : Heap} : ∀ {vs : List Value} {ws : List (Nat × Wish)}, RowsAt h vs ws → ReadsAll h vs (ws.map rowT) []
  | _, _, .nil => .nil
  | _, _, .cons a b c => .cons (as := []) (isTup_reads a (.cons (.int _ _) (.cons b .nil))) c.reads
theorem wish_off {h g : Heap} {S : List Addr} {v : Value} {W : Wish} (r : Reads h v (wishD W) []) (k : Off S h g) (hS : ∀ a ∈ S, NotTup h a) : Reads g v (wishD W) [] := by
  obtain ⟨a, t1, t2, t3, rfl, _, hT⟩ := wish_open r
  cases W with
  | mask x m =>
    obtain ⟨o, ho, hc, n, hd⟩ := hT
    exact .tuple (k _ _ (fun hm => hS _ hm _ ho hc) ho) hc hd (.cons (.str _ _) (.cons (.int _ _) (.cons (.int _ _) .nil)))
  | range x m =>
    obtain ⟨o, ho, hc, n, hd⟩ := hT
    exact .tuple (k _ _ (fun hm => hS _ hm _ ho hc) ho) hc hd (.cons (.str _ _) (.cons (.int _ _) (.cons (.int _ _) .nil)))
theorem elt_end {h₀ B h' : Heap} {L I C D : Addr} {m : Str → Option Value} {mu : List Addr} {oI oC : Obj} {ys : List Value} {ex : List (Addr × Obj)} {s : Shared} {tk : Nat} {J : Heap → Prop}
    (F : Fr h₀ L h' m) (hB : Ext h₀ B) (N : News h₀ L h' ((I, oI) :: (C, oC) :: (D, LCg.lst ys) :: (ex ++ dif B h₀))) (hoff : OffC B L mu) (hn : B.get? I = none ∧ B.get? C = none ∧ B.get? D = none)
    (hJ : ∀ B', B' = hideAll h' (L :: I :: C :: D :: mu) → Ext B B' → J B') : EltEnd h₀ L m mu s I oI C oC D ys ex B J { s with heap := h', toks := tk } := by
  obtain ⟨B', hB', F', h1, h2, N', h3, h4, h5⟩ := refreeze (mu := I :: C :: D :: mu) (ex := (I, oI) :: (C, oC) :: (D, LCg.lst ys) :: ex) F hB N hoff.1 (fun a ha => by
    rcases List.mem_cons.mp ha with rfl | ha
    · exact hn.1
    · rcases List.mem_cons.mp ha with rfl | ha
      · exact hn.2.1
      · rcases List.mem_cons.mp ha with rfl | ha
        · exact hn.2.2
        · exact hoff.2 _ ha) (Ext.refl _)
  exact ⟨h', tk, B', rfl, F', N', h2, ⟨h3, fun a ha => h4 a (.tail _ (.tail _ (.tail _ ha)))⟩, ⟨h4 _ (.head _), h4 _ (.tail _ (.head _)), h4 _ (.tail _ (.tail _ (.head _)))⟩, hJ B' hB' h2⟩
theorem new_hide {h : Heap} {S : List Addr} {T : Addr} {vs : Array Value} (hT : h.get? T = some { cls := .type "tuple", data := .seq vs n }) (ha : T ∉ S) : IsTup (hideAll h S) T vs := ⟨_, hideAll_get _ hT ha, rfl, _, rfl⟩
theorem take_snoc {α : Type} {l : List α} {i : Nat} {x : α} (h : l[i]? = some x) : l.take (i + 1) = l.take i ++ [x] := by
  rw [List.take_add_one, h]; rfl
end Mine
end

local macro_rules | `(tactic| walk_at "mine enterK") => `(tactic| ((case ho => k_is); (case hcd => k_is); (case hroom => exact Rm.room (by assumption)); (case hb => exact BindsTo.of_eq rfl); (case hkind => exact fun n => kinds_of rfl); (case hnd => decide); (case hco => exact rfl); (case hgen => exact rfl); (case hk => exact rfl)))
local macro_rules | `(tactic| walk_at "eval ListComp Tuple cons") => `(tactic| (with_unfolding_all refine LCg.ListComp_U (F₀ := by assumption) (by with_unfolding_all rfl) (by decide) (by rfl) (by decide) (by rfl) ?_ (by intro _; rfl)))

section
open PySem PySem.W PySem.Calls PyProof.Rows PySem.Spec PySem.SeqAt
set_option maxHeartbeats 2000000
namespace Mine

section
variable {w : World} {mean : ExcName → Option Value} {mg mb : Str → Option Value} {dp un : Nat} {fr : Option (List Env)} {gd : Option (List Code)} {s : Shared} {Q E : Value → Shared → Prop}
local macro_rules | `(tactic| walk_at "subscriptTail Name Name ref int") => `(tactic| first | walk_at "last subscriptTail" | refine Stop.out ?_)
theorem rows_t {Bz : Heap} {xx dx d : Addr} {o : Obj} {kvs : List (Int × Value)} {ws : List (Nat × Wish)} {a : Act} {va : Value} {t1 t2 : Tok}
    (G₀ : Gr w mean mg mb Bz) (hBz : Ext Bz s.heap) (hx0 : Bz.get? xx = none) (hd0 : Bz.get? dx = none) (R : Rm 3 dp un) (RA : RuleAt w s.heap xx dx d o va t1 t2 kvs a ws)
    (hk : ∀ p ∈ ws, p.1 < 10) (hnd : (ws.map (·.1)).Nodup)
    (hQ : ∀ h' tk l (ws' : List (Nat × Wish)), ws'.Perm ws → ws'.Pairwise (·.1 ≤ ·.1) → Ext s.heap h' → s.heap.get? l = none → (∃ vs, h'.IsList l (List.toArray vs) ∧ RowsAt h' vs ws') → Q (.ref l) { s with heap := h', toks := tk }) :
    wpAny (model PR w) (Ar dp fr gd un) (call (.ref 89) [.ref xx] []) Q E s := by
  have hrx := RA.x_
  have hrd := RA.dx_
  refine' enterMK [xx, dx] [(xx, instObj 106 dx), (dx, ruleD w t1 t2 va d)] [(Str.ofString "self", .ref xx)] G₀ hBz (by simpa using ⟨hx0, hd0⟩) (by simpa using ⟨hrx, hrd⟩) ?ho ?hcd ?hroom ?hb ?hkind ?hnd ?hco ?hgen ?hk ?_
  walk_at "mine enterK"
  intro g L h₁ tk cells G hBg hOg hgs hgm F0 F Y N hL hlt hsz
  have KX := G.K
  have T := G.T
  k_cells Y
  rename_i o1 d1
  replace d1 : o1.data = .cell (some (.ref xx)) := d1
  replace F : Fr g L h₁ (fun _ => none) := F
  try dsimp only [List.cons_append, List.nil_append] at N
  have hgx : g.get? xx = none := hgm _ (.head _)
  have hgd : g.get? dx = none := hgm _ (.tail _ (.head _))
  have hdn : d ∉ [xx, dx] := by
    have q1 := RA.lt1
    have q2 := RA.lt2
    simp only [List.mem_cons, List.not_mem_nil, or_false, not_or]
    exact ⟨Nat.ne_of_gt q2, Nat.ne_of_gt (Nat.lt_trans q1 q2)⟩
  have hdg : g.get? d = some o := hOg _ _ hdn RA.D_
  have hW : Held s.heap kvs ws := RA.held
  have hlw : ws.length ≤ 10 := by
    have := nodup_le hnd (k := 10) fun q hq => by
      obtain ⟨p, hp, rfl⟩ := List.mem_map.mp hq
      exact hk p hp
    rwa [List.length_map] at this
  have hnt : ∀ b ∈ [xx, dx], NotTup s.heap b := by
    intro b hb
    rcases List.mem_cons.mp hb with rfl | hb
    · intro ob hob; rw [hrx] at hob; cases hob; show Value.ref 106 ≠ Value.type "tuple"; decide
    · rcases List.mem_cons.mp hb with rfl | hb
      · intro ob hob; rw [hrd] at hob; cases hob; show Value.type "dict" ≠ Value.type "tuple"; decide
      · cases hb
  k_steps
  refine dict_sorted rfl (by assumption) (by assumption) RA.low (Heap.dictOf_iff.mpr ⟨o, Fr.keep (by assumption) _ _ hdg, RA.dict⟩) (by rw [hW.len]; omega) fun D2 vs' ns' e2 h2 tk2 F2 N2 l2 hI hp hs => ?_
  obtain ⟨ws', hw1, hw2, hw3⟩ := ws_sorted hW hp hs
  have hlen : vs'.length = ws'.length := by rw [hI.length, ← hw2, List.length_map]
  have hwl : ws'.length = ws.length := hw1.length_eq
  refine LCg.CompSrc.ledger rfl F2 N2 (.head _) (by rw [List.size_toArray, sizeLine_eq]; omega) fun g' => rest_U [xx, dx] [_, _, _, _] (fun i ys B => RowsAt B ys (ws'.take i)) (fun r => .inr ⟨_, .head _, rfl, _, rfl⟩) ⟨hL, hgm⟩ .nil ?_ ?_
  · intro i v I oI C oC D m₂ h tk E' ys B hi hP hJ hB hoff hn hx3 hne hC hx F3 N3
    obtain ⟨n, tn, rfl, hni⟩ := ints_get hI (by simpa using hP)
    rw [← hw2, List.getElem?_map] at hni
    obtain ⟨⟨k, W⟩, hp1, rfl⟩ := Option.map_eq_some_iff.mp hni
    have hmem := hw1.mem_iff.mp (List.mem_of_getElem? hp1)
    obtain ⟨vk, hvk, rk'⟩ := hW.at (wishAt_of_mem hnd hmem)
    have rk := Reads.keeps hB (wish_off rk' hOg hnt)
    dsimp only [List.cons_append, List.nil_append] at N3
    k_steps
    refine Stop.go ?_
    refine dict_item (Heap.dictOf_iff.mpr ⟨o, Fr.keep (by assumption) _ _ hdg, RA.dict⟩) hvk ?_
    k_steps
    rename_i h5 T5 F5 N5 l5
    obtain ⟨q1, q2, q3, q4, q5, q6, q7, q8⟩ := l5
    refine Stop.go (elt_end (ex := [_, _, _, _]) F5 hB (fun p hp => News.ofMem N5 (.tail _ hp)) hoff hn fun B' hB' hBB => ?_)
    rw [take_snoc hp1]
    refine (hJ.keeps hBB).snoc (t := tn) ?_ (Reads.keeps hBB rk)
    subst hB'
    refine new_hide (News.ofMem N5 (.head _)).1 ?_
    simp only [List.mem_cons, List.not_mem_nil, or_false, not_or]
    exact ⟨(News.ofMem N5 (.head _)).2.1, Nat.ne_of_gt q1, Nat.ne_of_gt q2, Nat.ne_of_gt q3, Nat.ne_of_gt q6, Nat.ne_of_gt q7⟩
  · intro ys B hJ hB hoff
    k_steps
    rename_i F5 N5 o5
    have kB : Ext B _ := ext_of F5 hB (news_r (l1 := [_, _, _, _, _]) N5)
    refine hQ _ _ _ ws' hw1 hw3 (fun b ob e => ?_) ?_ ⟨_, ⟨_, (News.ofMem N5 (.head _)).1, rfl, _, rfl⟩, ?_⟩
    · by_cases hb : b ∈ [xx, dx]
      · rcases List.mem_cons.mp hb with rfl | hb
        · rw [hrx] at e; cases e
          exact (News.ofMem N5 (.tail _ (.tail _ (.tail _ (.head _))))).1
        · rcases List.mem_cons.mp hb with rfl | hb
          · rw [hrd] at e; cases e
            exact (News.ofMem N5 (.tail _ (.tail _ (.tail _ (.tail _ (.head _)))))).1
          · cases hb
      · exact Fr.keep F5 _ _ (hOg _ _ hb e)
    · cases q : s.heap.get? _ with
      | none => rfl
      | some ob =>
        have z := hOg _ _ (by
          simp only [List.mem_cons, List.not_mem_nil, or_false, not_or]
          exact ⟨Ne.symm o5.2.2.1, Ne.symm o5.2.2.2.1⟩) q
        rw [(News.ofMem N5 (.head _)).2.2] at z; cases z
    · have := hJ.keeps kB
      rwa [List.take_of_length_le (by rw [List.size_toArray]; omega)] at this
end
end Mine
end

section
open PySem PySem.W PySem.Calls PyProof.Rows PySem.Spec
namespace Mine
section
variable {w : World} {mean : ExcName → Option Value} {mg mb : Str → Option Value} {A : Around} {s : Shared} {Q E : Value → Shared → Prop}
/-- a def is entered; what stands at mu may change; the frame stands on all that stood -/
theorem enterMX (mu : List Addr) (ex : List (Addr × Obj)) {Bz : Heap} {name qual : Str} {params : Arguments} {body : List Stmt} {scope : Scope} {dV kV doc pm cdv ct oc : Value} {an od : Option Addr} {osl : Array (Option Value)} {f : Addr} {pos : List Value} {kw : List (Str × Value)} (binds : List (Str × Value))
    (G : Gr w mean mg mb Bz) (hBz : Ext Bz s.heap) (hmu : ∀ a ∈ mu, Bz.get? a = none) (hex : ∀ p ∈ ex, s.heap.get? p.1 = some p.2 ∧ p.1 ∈ mu)
    (ho : (hd.heap_1 w.params).lookup f = some ⟨oc, od, .func (fnOf name qual params body scope dV kV doc pm an cdv ct), osl⟩) (hcd : codeIn (hd.heap_1 w.params) cdv qual = true) (hroom : A.depth < recursionLimit)
    (hbind : BindsTo s (fnOf name qual params body scope dV kV doc pm an cdv ct) ⟨pos, kw⟩ binds) (hloc : ∀ y ∈ binds, scope.names.lookup y.1 = some .local)
    (hcell : ∀ x ∈ scope.names, x.2 ≠ .cell)
    (hco : scope.isCoroutine = false) (hgen : scope.isGenerator = false) (hk : scope.kind = .function)
    (h : ∀ g L h₁ tk, Gr w mean mg mb g → Ext Bz g → Off mu s.heap g → Ext g s.heap → (∀ a ∈ mu, g.get? a = none) → Fr s.heap L h₁ (fun y => binds.reverse.lookup y) → Fr g L h₁ (fun y => binds.reverse.lookup y) → News g L h₁ (ex ++ dif g g) → g.get? L = none → (∀ p ∈ ex, p.1 < L) →
      FnAt (model PR w) (A.deeper (envOf qual scope L f cdv)) (envOf qual scope L f cdv) body Q E { s with heap := h₁, toks := tk }) :
    wpAny (model PR w) A (call (.ref f) pos kw) Q E s := by
  have G' := G.keeps hBz
  refine wpAny_call ?_
  refine codeAny_call_def (fd := fnOf name qual params body scope dV kV doc pm an cdv ct) (body := body) (binds := binds) hroom (G'.K _ _ ho) rfl G'.T.nolimit (codeRec_of G'.K hcd) rfl hbind hcell hloc (fun h₁ hns hk₁ => ?_) hco hgen hk
  have hg : Ext Bz (hideAll s.heap mu) := fun b o e => hideAll_get _ (hBz _ _ e) fun hm => by rw [hmu _ hm] at e; cases e
  have hsz : (hideAll s.heap mu).objs.size = s.heap.objs.size := hideAll_size _ _
  refine (h (hideAll s.heap mu) s.heap.objs.size h₁ _ (G.keeps hg) hg (fun b o n e => hideAll_get _ e n) (ext_hide _) (fun a ha => hide_none ha) ⟨hns, fun b o e => hk₁ b o e, Nat.le_refl _⟩ ⟨hns, fun b o e => hk₁ b o (of_hideAll _ e), Nat.le_of_eq hsz⟩ ?_ (Heap.get?_none_of_le (Nat.le_of_eq hsz)) (fun p hp => Heap.lt_size (hex p hp).1)).out
  rw [dif_self, List.append_nil]
  exact fun p hp => ⟨hk₁ _ _ (hex p hp).1, Nat.ne_of_lt (Heap.lt_size (hex p hp).1), hide_none (hex p hp).2⟩
end
theorem act_nil {h : Heap} {v : Value} {a : Act} {as : List Addr} (r : Reads h v (actD a) as) : as = [] := by
  cases a with
  | let_ => exact (reads_str_inv r).choose_spec.2
  | drop => exact (reads_str_inv r).choose_spec.2
  | mark n => obtain ⟨_, _, _, _, e, _⟩ := mark_open r; exact e
theorem act_val {h : Heap} {v : Value} {a : Act} {as : List Addr} (r : Reads h v (actD a) as) : (∃ x t, v = .str x t) ∨ ∃ b, v = .ref b := by
  cases a with
  | let_ => exact .inl ⟨_, _, (reads_str_inv r).choose_spec.1⟩
  | drop => exact .inl ⟨_, _, (reads_str_inv r).choose_spec.1⟩
  | mark n => obtain ⟨b, _, _, e, _, _⟩ := mark_open r; exact .inr ⟨b, e⟩
def NoT (h : Heap) (a : Addr) : Prop := ∀ vs, ¬ IsTup h a vs
theorem noT_tup {h : Heap} {a : Addr} (x : NotTup h a) : NoT h a := fun vs q => let ⟨o, e, c, _⟩ := q; x o e c
theorem noT_seq {h : Heap} {a : Addr} (x : NotSeq h a) : NoT h a := fun vs q => let ⟨o, e, _, n, d⟩ := q; x o e _ n d
theorem noT_fr {h₀ h : Heap} {L : Addr} {m : Str → Option Value} (F : Fr h₀ L h m) : NoT h L := noT_seq (Ns.notSeq F.ns)
theorem tup_off {h g : Heap} {S : List Addr} {a : Addr} {vs : Array Value} (hT : IsTup h a vs) (k : Off S h g) (hS : ∀ a ∈ S, NoT h a) : IsTup g a vs := by
  obtain ⟨o, ho, r⟩ := id hT
  exact ⟨o, k _ _ (fun hm => hS _ hm _ hT) ho, r⟩
theorem wish_offN {h g : Heap} {S : List Addr} {v : Value} {W : Wish} (r : Reads h v (wishD W) []) (k : Off S h g) (hS : ∀ a ∈ S, NoT h a) : Reads g v (wishD W) [] := by
  obtain ⟨a, t1, t2, t3, rfl, _, hT⟩ := wish_open r
  cases W with
  | mask x m => exact isTup_reads (tup_off hT k hS) (.cons (.str _ _) (.cons (.int _ _) (.cons (.int _ _) .nil)))
  | range x m => exact isTup_reads (tup_off hT k hS) (.cons (.str _ _) (.cons (.int _ _) (.cons (.int _ _) .nil)))
theorem act_offN {h g : Heap} {S : List Addr} {v : Value} {a : Act} (r : Reads h v (actD a) []) (k : Off S h g) (hS : ∀ a ∈ S, NoT h a) : Reads g v (actD a) [] := by
  cases a with
  | let_ => obtain ⟨t, rfl, _⟩ := reads_str_inv r; exact .str _ _
  | drop => obtain ⟨t, rfl, _⟩ := reads_str_inv r; exact .str _ _
  | mark n =>
    obtain ⟨b, t1, t2, rfl, _, hT⟩ := mark_open r
    exact isTup_reads (tup_off hT k hS) (.cons (.str _ _) (.cons (.int _ _) .nil))
theorem RowsAt.off {h g : Heap} {S : List Addr} (k : Off S h g) (hS : ∀ a ∈ S, NoT h a) : ∀ {vs : List Value} {ws : List (Nat × Wish)}, RowsAt h vs ws → RowsAt g vs ws
  | _, _, .nil => .nil
  | _, _, .cons a b c => .cons (tup_off a k hS) (wish_offN b k hS) (c.off k hS)
theorem off_hide (S : List Addr) (h : Heap) : Off S h (hideAll h S) := fun _ _ n e => hideAll_get _ e n
theorem RuleAt.keeps {w : World} {h h' : Heap} {x dx D : Addr} {o' : Obj} {va : Value} {t1 t2 : Tok} {kvs : List (Int × Value)} {a : Act} {ws : List (Nat × Wish)} (k : Ext h h') (r : RuleAt w h x dx D o' va t1 t2 kvs a ws) : RuleAt w h' x dx D o' va t1 t2 kvs a ws :=
  ⟨k _ _ r.x_, k _ _ r.dx_, k _ _ r.D_, r.dict, r.low, r.lt1, r.lt2, r.act.elim fun as q => ⟨as, Reads.keeps k q⟩, r.held.keeps k⟩
end Mine
end

section
open PySem PySem.W PySem.Calls PyProof.Rows PySem.Spec PySem.SeqAt
set_option maxHeartbeats 2000000
namespace Mine

section
variable {w : World} {mean : ExcName → Option Value} {mg mb : Str → Option Value} {dp un : Nat} {fr : Option (List Env)} {gd : Option (List Code)} {s : Shared} {Q E : Value → Shared → Prop}
theorem told_t {Bz : Heap} {xx dx d : Addr} {o : Obj} {kvs : List (Int × Value)} {ws : List (Nat × Wish)} {a : Act} {va : Value} {t1 t2 : Tok}
    (G₀ : Gr w mean mg mb Bz) (hBz : Ext Bz s.heap) (hx0 : Bz.get? xx = none) (hd0 : Bz.get? dx = none) (R : Rm 4 dp un) (RA : RuleAt w s.heap xx dx d o va t1 t2 kvs a ws)
    (hk : ∀ p ∈ ws, p.1 < 10) (hnd : (ws.map (·.1)).Nodup)
    (hQ : ∀ h' tk l (ws' : List (Nat × Wish)), ws'.Perm ws → ws'.Pairwise (·.1 ≤ ·.1) → Ext s.heap h' → s.heap.get? l = none → Reads h' (.ref l) (.tuple [actD a, .tuple (ws'.map rowT)]) [] → Q (.ref l) { s with heap := h', toks := tk }) :
    wpAny (model PR w) (Ar dp fr gd un) (call (.ref 103) [.ref xx] []) Q E s := by
  have hrx := RA.x_
  have hrd := RA.dx_
  refine' enterMX [xx, dx] [(xx, instObj 106 dx), (dx, ruleD w t1 t2 va d)] [(Str.ofString "self", .ref xx)] G₀ hBz (by simpa using ⟨hx0, hd0⟩) (by simpa using ⟨hrx, hrd⟩) ?ho ?hcd ?hroom ?hb ?hloc ?hcell ?hco ?hgen ?hk ?_
  walk_at "mine enterM"
  intro g L h₁ tk G hBg hOg hgs hgm F0 F N hL hlt
  have KX := G.K
  have T := G.T
  try dsimp only [List.cons_append, List.nil_append] at N
  have hgx : g.get? xx = none := hgm _ (.head _)
  have hgd : g.get? dx = none := hgm _ (.tail _ (.head _))
  obtain ⟨as, hact⟩ := RA.act
  obtain rfl := act_nil hact
  rcases act_val hact with ⟨ax, at', rfl⟩ | ⟨ab, rfl⟩ <;> k_steps
  all_goals
    refine rows_t G (Fr.keep F) hgx hgd (Rm.sub R (by omega)) (RA.keeps (Fr.keep F0)) hk hnd (fun h2 tk2 l ws' p1 p2 hext hl0 hrows => ?_)
    obtain ⟨vs, hl, hr⟩ := hrows
    have hF0 := fr_none F0
    obtain ⟨B2, hB2, F2, hsB, _, N2, hLB, _, hBh⟩ := refreeze (mu := []) (ex := []) F0 (Ext.refl _) (by rw [dif_self]; exact News.nil) hF0 (by simp) hext
    have hrB : RowsAt B2 vs ws' := by
      subst hB2
      exact hr.off (off_hide _ _) (by intro b hb; rw [List.mem_singleton.mp hb]; exact noT_fr F2)
    clear F F0 N G KX T hB2
    have G2 : Gr w mean mg mb s.heap := G₀.keeps hBz
    have KX := G2.K
    have T := G2.T
    rw [List.nil_append] at N2
    have hvs : vs.length ≤ sizeLine := by
      have e1 := hr.len
      have e2 := p1.length_eq
      have e3 := nodup_le hnd (k := 10) fun q hq => by
        obtain ⟨p, hp, rfl⟩ := List.mem_map.mp hq
        exact hk p hp
      rw [List.length_map] at e3
      rw [sizeLine_eq]
      omega
    k_steps
  all_goals
    rename_i h4 D4 F4 N4 l4
    have kB := ext_of F4 hsB (news_r (l1 := [_, _]) N4)
    refine hQ _ _ _ ws' p1 p2 F4.keep ?_ ?_
    · exact (News.ofMem N4 (.head _)).2.2
    · refine reads_tuple_at (News.ofMem N4 (.head _)).1 rfl rfl ?_
      exact .cons (as := []) (Reads.keeps F4.keep hact) (.cons (as := []) (reads_tuple_at (News.ofMem N4 (.tail _ (.head _))).1 rfl rfl (hrB.keeps kB).reads) .nil)
end
end Mine
end

section
open PySem PySem.W PySem.Calls PyProof.Rows PySem.Spec
namespace Mine
theorem decT_len48 {n : Nat} (h : n < 2 ^ 48) : (decT n).length ≤ 15 := by
  have := decT_len 14 n (Nat.lt_trans h (by decide))
  rwa [lst_len] at this
theorem hexT_len48 {n : Nat} (h : n < 2 ^ 48) : (hexT n).length ≤ 12 := hexT_len 11 n h
theorem wishT_len {W : Wish} (h : W.small) : (wishT W).length ≤ 31 := by
  obtain ⟨h1, h2⟩ := h
  cases W with
  | mask v m =>
    show (hexT v ++ SL ++ hexT m).length ≤ 31
    rw [Str.length_append, Str.length_append, show SL.length = 1 from rfl]
    have := hexT_len48 (n := v) h1
    have := hexT_len48 (n := m) h2
    omega
  | range v m =>
    show (decT v ++ DA ++ decT m).length ≤ 31
    rw [Str.length_append, Str.length_append, show DA.length = 1 from rfl]
    have := decT_len48 (n := v) h1
    have := decT_len48 (n := m) h2
    omega
theorem nameOf_len : ∀ k : Nat, k < 10 → (nameOf k).length ≤ 11 := by decide +kernel
theorem actT_len {a : Act} (h : ∀ n, a = .mark n → n < 8) : (actT a).length ≤ 20 := by
  cases a with
  | let_ => decide
  | drop => decide
  | mark n =>
    show (Str.ofString "mark " ++ decT n).length ≤ 20
    rw [Str.length_append, show (Str.ofString "mark ").length = 5 from rfl]
    have := decT_len48 (n := n) (Nat.lt_trans (h n rfl) (by decide))
    omega
theorem fits_small {W : Wish} {bits : Nat} (hb : bits ≤ 48) (h : W.fits bits) : W.small := by
  have hp : 2 ^ bits ≤ 2 ^ 48 := Nat.pow_le_pow_right (by decide) hb
  cases W with
  | mask v m =>
    obtain ⟨h1, h2⟩ := h
    have : v ≤ m := by rw [← h1]; exact Nat.and_le_right
    exact ⟨Nat.lt_of_le_of_lt this (Nat.lt_of_lt_of_le h2 hp), Nat.lt_of_lt_of_le h2 hp⟩
  | range v m =>
    obtain ⟨h1, h2⟩ := h
    exact ⟨Nat.lt_of_le_of_lt h1 (Nat.lt_of_lt_of_le h2 hp), Nat.lt_of_lt_of_le h2 hp⟩
/-- a row's text -/
def rowS (p : Nat × Wish) : Str := nameOf p.1 ++ Str.ofString " " ++ wishT p.2
theorem rowS_len {p : Nat × Wish} (hk : p.1 < 10) (hW : p.2.small) : (rowS p).length ≤ 43 := by
  unfold rowS
  rw [Str.length_append, Str.length_append, show (Str.ofString " ").length = 1 from rfl]
  have := nameOf_len _ hk
  have := wishT_len hW
  omega
theorem names_lit {k : Nat} (hk : k < 10) : [Str.ofString "target", Str.ofString "source", Str.ofString "kind", Str.ofString "vlan", Str.ofString "priority", Str.ofString "ip_source", Str.ofString "ip_target", Str.ofString "protocol", Str.ofString "source_port", Str.ofString "target_port"].getD ((k : Nat) : Int).toNat Str.empty = nameOf k := names_getD hk
theorem name_sp {k : Nat} (hk : k < 10) : (nameOf k ++ Str.ofString " ").length ≤ 12 := by
  rw [Str.length_append, show (Str.ofString " ").length = 1 from rfl]
  have := nameOf_len k hk
  omega
theorem joinOk_of {sep : Str} {texts : List Str} {b : Nat} (hB : ∀ y ∈ texts, y.length ≤ b) (h : texts.length * b + texts.length * sep.length ≤ 16777216) : JoinOk sep texts = true := by
  unfold JoinOk
  rw [StrLaws.joinFits hB h]; rfl
theorem Held.off {h g : Heap} {S : List Addr} (k : Off S h g) (hS : ∀ a ∈ S, NoT h a) : ∀ {kvs : List (Int × Value)} {ws : List (Nat × Wish)}, Held h kvs ws → Held g kvs ws
  | _, _, .nil => .nil
  | _, _, .cons r x => .cons (wish_offN r k hS) (x.off k hS)
theorem join_txt (sep : Str) (xs : List Str) : Txt.join sep xs = Str.join sep xs := StrLaws.glued_eq_join sep xs
theorem strs_push (lv : List (Str × Tok)) (x : Str) (t : Tok) : (strValues lv).toArray.push (.str x t) = (strValues (lv ++ [(x, t)])).toArray := by
  simp [strValues]
end Mine
end

section
open PySem PySem.W PySem.Calls PyProof.Rows PySem.Spec
namespace Mine
theorem sorted_eq : ∀ {l1 l2 : List (Nat × Wish)}, l1.Perm l2 → l1.Pairwise (·.1 ≤ ·.1) → l2.Pairwise (·.1 ≤ ·.1) → (l1.map (·.1)).Nodup → l1 = l2
  | [], l2, h, _, _, _ => (List.Perm.eq_nil h.symm).symm
  | x :: t, [], h, _, _, _ => by have := h.length_eq; simp at this
  | x :: t, y :: u, h, h1, h2, hn => by
    rw [List.pairwise_cons] at h1 h2
    rw [List.map_cons, List.nodup_cons] at hn
    have hxy : x = y := by
      rcases List.mem_cons.mp (h.mem_iff.mp (.head _)) with e | e
      · exact e
      · rcases List.mem_cons.mp (h.mem_iff.mpr (.head _)) with q | q
        · exact q.symm
        · have a1 := h2.1 x e
          have a2 := h1.1 y q
          exact absurd (List.mem_map.mpr ⟨y, q, Nat.le_antisymm a1 a2⟩) hn.1
    subst hxy
    rw [sorted_eq h.cons_inv h1.2 h2.2 hn.2]
theorem rowS_eq (p : Nat × Wish) : rowS p = nameOf p.1 ++ SP ++ wishT p.2 := rfl
theorem join_rows : ∀ {ws : List (Nat × Wish)} (x : Str), Str.join SP (x :: ws.map rowS) = Str.join SP (x :: flatP (ws.map pairOf))
  | [], _ => rfl
  | p :: r, x => by
    rw [List.map_cons, List.map_cons, flatP_cons, join_cons2, rowS_eq, StrLaws.join_shift, join_rows (ws := r) (wishT p.2)]
    rfl
theorem rule_text_eq (a : Act) (ws : List (Nat × Wish)) : Str.join SP (actT a :: ws.map rowS) = Str.join SP (wordsOf a ws) := by
  cases a with
  | let_ => exact join_rows _
  | drop => exact join_rows _
  | mark n =>
    rw [join_rows, show actT (.mark n) = MARK ++ SP ++ decT n from by
      show Str.ofString "mark " ++ decT n = _
      rw [show Str.ofString "mark " = MARK ++ SP from by decide +kernel], StrLaws.join_shift]
    rfl
section
variable {a : Act} {ws : List (Nat × Wish)}
theorem RuleIs.rev (r : RuleIs a ws) : RuleIs a ws.reverse where
  ten := fun p hp => r.ten p (List.mem_reverse.mp hp)
  fit := fun p hp => r.fit p (List.mem_reverse.mp hp)
  small := fun p hp => r.small p (List.mem_reverse.mp hp)
  nd := by rw [List.map_reverse]; exact ((List.reverse_perm _).nodup_iff).mpr r.nd
  act := r.act
theorem RuleIs.perm {us : List (Nat × Wish)} (r : RuleIs a ws) (h : us.Perm ws) : RuleIs a us where
  ten := fun p hp => r.ten p (h.mem_iff.mp hp)
  fit := fun p hp => r.fit p (h.mem_iff.mp hp)
  small := fun p hp => r.small p (h.mem_iff.mp hp)
  nd := ((h.map _).nodup_iff).mpr r.nd
  act := r.act
/-- a text that tells a rule -/
structure Good (x : Str) (a : Act) (ws : List (Nat × Wish)) : Prop where
  tells : Tells x a ws
  len : x.length ≤ 65536
  ok : ∀ y ∈ Txt.words x, PyData.strOk y = true
theorem RuleIs.good1 (r : RuleIs a ws) : Good (Str.join SP (wordsOf a ws)) a ws :=
  ⟨r.tells (words_join r.word), Nat.le_trans r.joinLen (by decide), words_ok (words_join r.word) r.low⟩
theorem RuleIs.good2 (r : RuleIs a ws) : Good (Str.join SP2 (wordsOf a ws.reverse) ++ SP) a ws.reverse := by
  have q := r.rev
  refine ⟨q.tells (words_join2 q.word), ?_, words_ok (words_join2 q.word) q.low⟩
  rw [Str.length_append]
  have := join31 (sep := SP2) (by decide) (Nat.le_trans q.count (by decide)) q.len
  have : SP.length = 1 := by decide
  omega
end
end Mine
end

section
open PySem PySem.W PySem.Calls PyProof.Rows PySem.Spec PySem.SeqAt
set_option maxHeartbeats 2000000
namespace Mine

section
variable {w : World} {mean : ExcName → Option Value} {mg mb : Str → Option Value} {dp un : Nat} {fr : Option (List Env)} {gd : Option (List Code)} {s : Shared} {Q E : Value → Shared → Prop}
local macro_rules | `(tactic| walk_at "binaryOp Add str str") => `(tactic| walk_at "last binaryOp Add str str")
theorem rule_text_t {Bz : Heap} {xx dx d : Addr} {o : Obj} {kvs : List (Int × Value)} {ws : List (Nat × Wish)} {a : Act} {va : Value} {t1 t2 : Tok}
    (G₀ : Gr w mean mg mb Bz) (hBz : Ext Bz s.heap) (hx0 : Bz.get? xx = none) (hd0 : Bz.get? dx = none) (R : Rm 5 dp un) (RA : RuleAt w s.heap xx dx d o va t1 t2 kvs a ws)
    (hk : ∀ p ∈ ws, p.1 < 10) (hnd : (ws.map (·.1)).Nodup) (hsm : ∀ p ∈ ws, p.2.small) (ha : ∀ n, a = .mark n → n < 8)
    (hQ : ∀ h' tk t' (ws' : List (Nat × Wish)), ws'.Perm ws → ws'.Pairwise (·.1 ≤ ·.1) → Ext s.heap h' → Q (.str (Str.join SP (actT a :: ws'.map rowS)) t') { s with heap := h', toks := tk }) :
    wpAny (model PR w) (Ar dp fr gd un) (call (.ref 138) [.ref xx] []) Q E s := by
  have hrx := RA.x_
  have hrd := RA.dx_
  refine' enterMX [xx, dx] [(xx, instObj 106 dx), (dx, ruleD w t1 t2 va d)] [(Str.ofString "rule", .ref xx)] G₀ hBz (by simpa using ⟨hx0, hd0⟩) (by simpa using ⟨hrx, hrd⟩) ?ho ?hcd ?hroom ?hb ?hloc ?hcell ?hco ?hgen ?hk ?_
  walk_at "mine enterM"
  intro g L h₁ tk G hBg hOg hgs hgm F0 F N hL hlt
  have KX := G.K
  have T := G.T
  try dsimp only [List.cons_append, List.nil_append] at N
  have hgx : g.get? xx = none := hgm _ (.head _)
  have hgd : g.get? dx = none := hgm _ (.tail _ (.head _))
  obtain ⟨as, hact⟩ := RA.act
  obtain rfl := act_nil hact
  have hnt : ∀ b ∈ [xx, dx], NoT s.heap b := by
    intro b hb
    rcases List.mem_cons.mp hb with rfl | hb
    · refine noT_tup fun ob hob => ?_
      rw [hrx] at hob; cases hob; show Value.ref 106 ≠ Value.type "tuple"; decide
    · rcases List.mem_cons.mp hb with rfl | hb
      · refine noT_tup fun ob hob => ?_
        rw [hrd] at hob; cases hob; show Value.type "dict" ≠ Value.type "tuple"; decide
      · cases hb
  have hdn : d ∉ [xx, dx] := by
    have q1 := RA.lt1
    have q2 := RA.lt2
    simp only [List.mem_cons, List.not_mem_nil, or_false, not_or]
    exact ⟨Nat.ne_of_gt q2, Nat.ne_of_gt (Nat.lt_trans q1 q2)⟩
  have hdg : g.get? d = some o := hOg _ _ hdn RA.D_
  have hag : Reads g va (actD a) [] := act_offN hact hOg hnt
  have hWg : Held g kvs ws := RA.held.off hOg hnt
  have hal := actT_len ha
  rcases act_val hact with ⟨ax, at', rfl⟩ | ⟨ab, rfl⟩ <;> k_steps
  all_goals
    refine action_text_t (Gr.keeps G (Fr.keep (by assumption))) (Rm.sub R (by omega)) (Reads.keeps (Fr.keep (by assumption)) hag) ha (fun h2 tk2 t2' hext => ?_)
    have kF := Fr.ext (by assumption) hext
    have kN := News.ext (by assumption) hext
    clear F N
    k_steps
  all_goals
    rename_i D3 _ l3 h3 F3 N3
    refine Stop.go (for_S ?_)
    k_steps
    refine rows_t G (Fr.keep F3) hgx hgd (Rm.sub R (by omega)) ⟨(News.ofMem N3 (.tail _ (.head _))).1, (News.ofMem N3 (.tail _ (.tail _ (.head _)))).1, F3.keep _ _ hdg, RA.dict, RA.low, RA.lt1, RA.lt2, ⟨[], Reads.keeps F3.keep hag⟩, hWg.keeps F3.keep⟩ hk hnd (fun h4 tk4 l ws' p1 p2 hext4 hl0 hrows => ?_)
    obtain ⟨vs, hl, hr⟩ := hrows
    have hgD : g.get? D3 = none := (News.ofMem N3 (.head _)).2.2
    obtain ⟨B2, hB2, F4, hsB, _, N4, hLB, hmB, hBh⟩ := refreeze (mu := [D3, xx, dx]) (ex := [_, _, _]) F3 (Ext.refl g) N3 hL (by simpa using ⟨hgD, hgx, hgd⟩) hext4
    have hrB : RowsAt B2 vs ws' := by
      subst hB2
      refine hr.off (off_hide _ _) ?_
      intro b hb
      rcases List.mem_cons.mp hb with rfl | hb
      · exact noT_fr F4
      · have key : ∀ {ob}, h4.get? b = some ob → ob.cls ≠ .type "tuple" → NoT h4 b := fun {ob} e hc => noT_tup fun o' e' => by rw [e] at e'; cases e'; exact hc
        rcases List.mem_cons.mp hb with rfl | hb
        · exact key (News.ofMem N4 (.head _)).1 (by show Value.type "list" ≠ Value.type "tuple"; decide)
        · rcases List.mem_cons.mp hb with rfl | hb
          · exact key (News.ofMem N4 (.tail _ (.head _))).1 (by show Value.ref 106 ≠ Value.type "tuple"; decide)
          · rcases List.mem_cons.mp hb with rfl | hb
            · exact key (News.ofMem N4 (.tail _ (.tail _ (.head _)))).1 (by show Value.type "dict" ≠ Value.type "tuple"; decide)
            · cases hb
    have hlB : B2.IsList l vs.toArray := by
      subst hB2
      obtain ⟨ol, hol, r⟩ := hl
      have ne : ∀ {b ob}, h3.get? b = some ob → l ≠ b := fun {b ob} e q => by rw [q, e] at hl0; cases hl0
      refine ⟨ol, hideAll_get _ hol ?_, r⟩
      simp only [List.mem_cons, List.not_mem_nil, or_false, not_or]
      obtain ⟨oL, es, ep, hz, _⟩ := F3.ns
      exact ⟨ne hz, ne (News.ofMem N3 (.head _)).1, ne (News.ofMem N3 (.tail _ (.head _))).1, ne (News.ofMem N3 (.tail _ (.tail _ (.head _)))).1⟩
    clear N3 hB2 F0
    have hD3x : @LT.lt Nat _ xx D3 := l3.1
    have hD3d : @LT.lt Nat _ dx D3 := l3.2.1
    have hwl : vs.length = ws'.length := hr.len
    have hwl2 : ws'.length ≤ 10 := by
      have e3 := nodup_le hnd (k := 10) fun q hq => by
        obtain ⟨p, hp, rfl⟩ := List.mem_map.mp hq
        exact hk p hp
      rw [List.length_map] at e3
      rw [p1.length_eq]; exact e3
    refine iter_listT [D3, xx, dx] (fun i m ex B => ∃ lv c, ex = [(D3, W.listOf (strValues lv).toArray c), _, _] ∧ lv.map (·.1) = actT a :: (ws'.take i).map rowS ∧ m (Str.ofString "words") = some (.ref D3)) rfl hlB F4 hsB ⟨hLB, hmB⟩ (ex₀ := [_, _, _]) N4 ⟨[(actT a, _)], _, rfl, rfl, rfl⟩ ?_ ?_
    · intro I i v m ex B h tk oI hi hP hJ F' hBB hoff N' hx'
      obtain ⟨lv, c, rfl, hlv, e1⟩ := hJ
      have kB : Ext B h := ext_of F' (hsB.trans hBB) (news_r (l1 := [_, _, _, _]) N')
      dsimp only [List.cons_append, List.nil_append] at N'
      obtain ⟨k, W, ai, ti, ui, hwi, rfl, hTi, hRi⟩ := hrB.at (by simpa using hP)
      have hmem := p1.mem_iff.mp (List.mem_of_getElem? hwi)
      have hTB := IsTup.keeps' kB (IsTup.keeps' hBB hTi)
      have hRB := Reads.keeps hBB hRi
      have hk10 := hk _ hmem
      have hsW := hsm _ hmem
      k_steps
      have hwl31 := wishT_len hsW
      have hnl11 := name_sp hk10
      rw [names_lit hk10]
      refine wish_text_t (Gr.keeps G (Fr.keep (by assumption))) (Rm.sub R (by omega)) (Reads.keeps (ext_of (by assumption) (hsB.trans hBB) (news_r (l1 := [_, _, _, _]) (by assumption))) hRB) hsW (fun h6 tk6 t6 hext6 => ?_)
      have kF6 := Fr.ext (by assumption) hext6
      have kN6 := News.ext (by assumption) hext6
      k_steps
      have hDI : @Ne Nat D3 I := hx' _ (.head _)
      have hID : @Ne Nat I D3 := Ne.symm hDI
      have hBd : B.get? D3 = none := hoff.2.1 _ (.head _)
      have hlvl : lv.length ≤ 11 := by
        have := congrArg List.length hlv
        rw [List.length_map, List.length_cons, List.length_map, List.length_take] at this
        omega
      refine append_K kF6 kN6 (by k_upd) (fun h8 F8 N8 => ?_) (by rw [List.size_toArray, strValues, List.length_map, sizeLine_eq]; omega)
      k_steps
      rw [strs_push] at N8
      refine Stop.go ⟨_, _, _, _, B, rfl, F8, hBB, hoff, fun p hp => News.ofMem N8 hp, ?_, lv ++ [(rowS (k, W), _)], _, rfl, ?_, e1⟩
      · intro p hp
        rcases List.mem_cons.mp hp with rfl | hp
        · exact hDI
        · exact hx' p (.tail _ hp)
      · rw [List.map_append, hlv, take_snoc hwi, List.map_append]
        rfl
    · intro h tk m ex B hJ F' hBB hoff N'
      obtain ⟨lv, c, rfl, hlv, e1⟩ := hJ
      dsimp only [List.cons_append, List.nil_append] at N'
      k_steps
      rw [List.take_of_length_le (by rw [List.size_toArray]; omega)] at hlv
      refine SC.join ⟨_, (News.ofMem N' (.head _)).1, rfl, _, rfl⟩ hlv (joinOk_of (b := 43) (fun y hy => ?_) ?_) fun t9 k9 => ?_
      · rcases List.mem_cons.mp hy with rfl | hy
        · omega
        · obtain ⟨p, hp, rfl⟩ := List.mem_map.mp hy
          have hm := p1.mem_iff.mp hp
          exact rowS_len (hk _ hm) (hsm _ hm)
      · rw [List.length_cons, List.length_map, show (Str.ofString " ").length = 1 from rfl]; omega
      · rw [join_txt]
        k_steps
        exact hQ _ _ _ ws' p1 p2 (fun b ob e => by
          by_cases hb : b ∈ [xx, dx]
          · rcases List.mem_cons.mp hb with rfl | hb
            · rw [hrx] at e; cases e
              exact (News.ofMem N' (.tail _ (.head _))).1
            · rcases List.mem_cons.mp hb with rfl | hb
              · rw [hrd] at e; cases e
                exact (News.ofMem N' (.tail _ (.tail _ (.head _)))).1
              · cases hb
          · exact F'.keep _ _ (hOg _ _ hb e))
end
end Mine
end

section
open PySem PySem.W PySem.Calls PyProof.Rows PySem.Spec
namespace Mine
/-- pairs of words, as they stand in a list -/
inductive PairsAt (h : Heap) : List Value → List (Str × Str) → Prop
  | nil : PairsAt h [] []
  | cons {a : Addr} {x y : Str} {t u : Tok} {vs : List Value} {ps : List (Str × Str)} : IsTup h a #[.str x t, .str y u] → PairsAt h vs ps → PairsAt h (.ref a :: vs) ((x, y) :: ps)
theorem PairsAt.keeps {h h' : Heap} (k : Ext h h') : ∀ {vs : List Value} {ps : List (Str × Str)}, PairsAt h vs ps → PairsAt h' vs ps
  | _, _, .nil => .nil
  | _, _, .cons a c => .cons (IsTup.keeps' k a) (c.keeps k)
theorem PairsAt.app {h : Heap} : ∀ {vs vs' : List Value} {ps ps' : List (Str × Str)}, PairsAt h vs ps → PairsAt h vs' ps' → PairsAt h (vs ++ vs') (ps ++ ps')
  | _, _, _, _, .nil, y => y
  | _, _, _, _, .cons a c, y => .cons a (c.app y)
theorem PairsAt.snoc {h : Heap} {a : Addr} {x y : Str} {t u : Tok} (ha : IsTup h a #[.str x t, .str y u]) {vs : List Value} {ps : List (Str × Str)} (c : PairsAt h vs ps) : PairsAt h (vs ++ [.ref a]) (ps ++ [(x, y)]) := c.app (.cons ha .nil)
theorem PairsAt.rev {h : Heap} : ∀ {vs : List Value} {ps : List (Str × Str)}, PairsAt h vs ps → PairsAt h vs.reverse ps.reverse
  | _, _, .nil => .nil
  | _, _, .cons a c => by
    rw [List.reverse_cons, List.reverse_cons]
    exact c.rev.snoc a
theorem PairsAt.len {h : Heap} : ∀ {vs : List Value} {ps : List (Str × Str)}, PairsAt h vs ps → vs.length = ps.length
  | _, _, .nil => rfl
  | _, _, .cons _ c => by simp [c.len]
theorem PairsAt.at {h : Heap} : ∀ {vs : List Value} {ps : List (Str × Str)}, PairsAt h vs ps → ∀ {i : Nat} {v : Value}, vs[i]? = some v → ∃ x y a t u, ps[i]? = some (x, y) ∧ v = .ref a ∧ IsTup h a #[.str x t, .str y u]
  | _, _, .nil, i, v, e => by simp at e
  | _, _, .cons a c, 0, v, e => by cases Option.some.inj e; exact ⟨_, _, _, _, _, rfl, rfl, a⟩
  | _, _, .cons a c, i + 1, v, e => c.at (i := i) (by simpa using e)
theorem PairsAt.off {h g : Heap} {S : List Addr} (k : Off S h g) (hS : ∀ a ∈ S, NoT h a) : ∀ {vs : List Value} {ps : List (Str × Str)}, PairsAt h vs ps → PairsAt g vs ps
  | _, _, .nil => .nil
  | _, _, .cons a c => .cons (tup_off a k hS) (c.off k hS)
theorem rows_all {h : Heap} : ∀ {fs : List (Str × Nat)} {vs : List Value} {as : List Addr}, ReadsAll h vs (fs.map rowD) as → ∀ {k : Nat} {p : Str × Nat}, fs[k]? = some p → ∃ a t u, vs[k]? = some (.ref a) ∧ IsTup h a #[.str p.1 t, .int p.2 u]
  | [], _, _, _, k, p, e => by simp at e
  | f :: fs, vs, as, r, k, p, e => by
    obtain ⟨v, vs', bs, cs, rfl, r1, r2, rfl⟩ := readsAll_cons_inv r
    cases k with
    | zero =>
      cases Option.some.inj e
      obtain ⟨a, us, rfl, hT, ra⟩ := reads_tuple_inv r1
      obtain ⟨v1, us1, _, _, rfl, q1, ra1, _⟩ := readsAll_cons_inv ra
      obtain ⟨v2, us2, _, _, rfl, q2, ra2, _⟩ := readsAll_cons_inv ra1
      obtain ⟨rfl, _⟩ := readsAll_nil_inv ra2
      obtain ⟨t, rfl, _⟩ := reads_str_inv q1
      obtain ⟨u, rfl, _⟩ := reads_int_inv q2
      exact ⟨a, t, u, rfl, hT⟩
    | succ k => exact rows_all r2 (k := k) (by simpa using e)
theorem fields_at : ∀ k : Nat, k < 10 → fields[k]? = some (nameOf k, bitsOf k) := by decide +kernel
theorem readsAll_len {h : Heap} : ∀ {xs : List PyData} {vs : List Value} {as : List Addr}, ReadsAll h vs xs as → vs.length = xs.length
  | [], vs, as, r => by obtain ⟨rfl, _⟩ := readsAll_nil_inv r; rfl
  | x :: xs, vs, as, r => by
    obtain ⟨v, vs', bs, cs, rfl, _, r2, _⟩ := readsAll_cons_inv r
    simp [readsAll_len r2]
theorem names_rows {h : Heap} {l : Addr} (r : Reads h (.ref l) namesD [l]) : ∃ vs : List Value, h.IsList l vs.toArray ∧ vs.length = 10 ∧ ∀ k < 10, ∃ a t u, vs[k]? = some (.ref a) ∧ IsTup h a #[.str (nameOf k) t, .int (bitsOf k) u] := by
  obtain ⟨a, vs, bs, e, hl, ra, _⟩ := reads_list_inv' r
  cases e
  exact ⟨vs, hl, readsAll_len ra, fun k hk => rows_all ra (fields_at k hk)⟩
theorem noT_cls {h : Heap} {a : Addr} {ob : Obj} (e : h.get? a = some ob) (hc : ob.cls ≠ .type "tuple") : NoT h a := noT_tup fun o' e' => by rw [e] at e'; cases e'; exact hc
theorem noT_dict {w : World} {s : Shared} {d : Addr} {o : Obj} {kvs : List (Int × Value)} (hd : s.heap.get? d = some o) (ho : o.IsDictOf (IK w) kvs) : NoT s.heap d := by
  have hD : s.heap.DictOf (IK w) d kvs := Heap.dictOf_iff.mpr ⟨o, hd, ho⟩
  obtain ⟨o', h1, h2⟩ := (hD.typeIs : s.TypeIs (.ref d) "dict")
  exact noT_cls h1 (by rw [h2]; decide)
end Mine
end

section
open PySem PySem.W PySem.Calls PyProof.Rows PySem.Spec PySem.SeqAt
set_option maxHeartbeats 2000000
namespace Mine

section
variable {w : World} {mean : ExcName → Option Value} {mg mb : Str → Option Value} {dp un : Nat} {fr : Option (List Env)} {gd : Option (List Code)} {s : Shared} {Q E : Value → Shared → Prop}
local macro_rules | `(tactic| walk_at "eval IfExp") => `(tactic| with_unfolding_all refine Stop.out ?_)
local macro_rules | `(tactic| walk_at "subscriptTail Name Name ref int") => `(tactic| first | walk_at "last subscriptTail" | refine Stop.out ?_)
theorem law_told_t {Bz : Heap} {d : Addr} {o : Obj} {kvs : List (Int × Value)} {ws : List (Nat × Wish)} {a : Act} {va : Value}
    (G₀ : Gr w mean mg mb Bz) (hBz : Ext Bz s.heap) (hd0 : Bz.get? d = none) (R : Rm 3 dp un) (hact : Reads s.heap va (actD a) []) (lo : (d == sysModules) = false) (hd : s.heap.get? d = some o) (ho : o.IsDictOf (IK w) kvs) (hW : Held s.heap kvs ws)
    (hk : ∀ p ∈ ws, p.1 < 10) (hnd : (ws.map (·.1)).Nodup) (hsm : ∀ p ∈ ws, p.2.small) (ha : ∀ n, a = .mark n → n < 8)
    (hQ : ∀ h' tk l lw lp (ws' : List (Nat × Wish)) (lv : List (Str × Tok)) (vs : List Value) (n : Nat), lv.map (·.1) = actW a → h'.IsList lw (strValues lv).toArray → h'.IsList lp vs.toArray → PairsAt h' vs (ws'.map pairOf) → ws'.Perm ws → ws'.Pairwise (·.1 ≤ ·.1) → Ext s.heap h' → h'.get? l = some (W.listOf #[.ref lw, .ref lp] n) → s.heap.get? l = none → Q (.ref l) { s with heap := h', toks := tk }) :
    wpAny (model PR w) (Ar dp fr gd un) (call (.ref 227) [va, .ref d] []) Q E s := by
  refine' enterMK [d] [(d, o)] [(Str.ofString "action", va), (Str.ofString "wishes", .ref d)] G₀ hBz (by simpa using hd0) (by simpa using hd) ?ho ?hcd ?hroom ?hb ?hkind ?hnd ?hco ?hgen ?hk ?_
  walk_at "mine enterK"
  intro g L h₁ tk cells G hBg hOg hgs hgm F0 F Y N hL hlt hsz
  have KX := G.K
  have T := G.T
  k_cells Y
  rename_i o1 d1
  replace d1 : o1.data = .cell (some (.ref d)) := d1
  replace F : Fr g L h₁ (fun y => if y = Str.ofString "action" then some va else none) := F
  try dsimp only [List.cons_append, List.nil_append] at N
  have hgd : g.get? d = none := hgm _ (.head _)
  have hnt : ∀ b ∈ [d], NoT s.heap b := by
    intro b hb
    rw [List.mem_singleton.mp hb]
    exact noT_dict hd ho
  have hag := act_offN hact hOg hnt
  have hWg := hW.off hOg hnt
  have hlw : ws.length ≤ 10 := by
    have := nodup_le hnd (k := 10) fun q hq => by
      obtain ⟨p, hp, rfl⟩ := List.mem_map.mp hq
      exact hk p hp
    rwa [List.length_map] at this
  have hd' := Heap.dictOf_iff.mpr ⟨o, hd, ho⟩
  k_steps
  refine Stop.go (wpAny_mono (Q := fun v s' => Stop (∃ D3 h3 tk3 lv c, v = .ref D3 ∧ s' = { s with heap := h3, toks := tk3 } ∧ List.map (·.1) lv = actW a ∧ Fr g L h3 (fun y => if y = Str.ofString "action" then some va else none) ∧ News g L h3 ((D3, PySem.W.listOf (strValues lv).toArray c) :: (L + 1, o1) :: (d, o) :: dif g g) ∧ @LT.lt Nat _ (L + 1) D3 ∧ @LT.lt Nat _ d D3 ∧ AllLt D3 (dif g g))) ?_ ?_ fun _ _ e => e)
  · cases a with
    | let_ =>
      obtain ⟨t1, rfl, _⟩ := reads_str_inv hact
      refine wpAny_IfExp ?_
      k_steps
      exact Stop.go ⟨_, _, _, [(_, _)], _, rfl, rfl, rfl, by assumption, by assumption, by assumption⟩
    | drop =>
      obtain ⟨t1, rfl, _⟩ := reads_str_inv hact
      refine wpAny_IfExp ?_
      k_steps
      exact Stop.go ⟨_, _, _, [(_, _)], _, rfl, rfl, rfl, by assumption, by assumption, by assumption⟩
    | mark n =>
      obtain ⟨am, t1, t2, rfl, _, hTm⟩ := mark_open hag
      have hn8 := ha n rfl
      refine wpAny_IfExp ?_
      k_steps
      exact Stop.go ⟨_, _, _, [(_, _), (_, _)], _, rfl, rfl, rfl, by assumption, by assumption, by assumption⟩
  · intro v3 s3 hq3
    obtain ⟨D3, h3', tk3, lv, c3, rfl, rfl, hlv, F3', N3', l3⟩ := hq3.out
    clear F N
    k_steps
    rename_i h3 F3 N3
    refine dict_sorted rfl F3 N3 lo (Heap.dictOf_iff.mpr ⟨o, (News.ofMem N3 (.tail _ (.tail _ (.head _)))).1, ho⟩) (by rw [hW.len]; omega) fun D2 vs' ns' e2 h2 tk2 F2 N2 l2 hI hp hs => ?_
    obtain ⟨ws', hw1, hw2, hw3⟩ := ws_sorted hW hp hs
    have hlen : vs'.length = ws'.length := by rw [hI.length, ← hw2, List.length_map]
    have hwl : ws'.length = ws.length := hw1.length_eq
    refine LCg.CompSrc.ledger rfl F2 N2 (.head _) (by rw [List.size_toArray, sizeLine_eq]; omega) fun g' => rest_U [D3, d] [_, _, _, _] (fun i ys B => PairsAt B ys ((ws'.take i).map pairOf)) (fun r => .inr ⟨_, .head _, rfl, _, rfl⟩) ⟨hL, by simpa using ⟨(News.ofMem N3 (.head _)).2.2, hgd⟩⟩ .nil ?_ ?_
    · intro i v I oI C oC D m₂ h tk E' ys B hi hP hJ hB hoff hn hx3 hne hC hx F3 N3
      obtain ⟨n, tn, rfl, hni⟩ := ints_get hI (by simpa using hP)
      rw [← hw2, List.getElem?_map] at hni
      obtain ⟨⟨k, W⟩, hp1, rfl⟩ := Option.map_eq_some_iff.mp hni
      have hmem := hw1.mem_iff.mp (List.mem_of_getElem? hp1)
      obtain ⟨vk, hvk, rk'⟩ := hWg.at (wishAt_of_mem hnd hmem)
      have rk := Reads.keeps hB rk'
      have hk10 : k < 10 := hk _ hmem
      have hsW : W.small := hsm _ hmem
      dsimp only [List.cons_append, List.nil_append] at N3
      k_steps
      refine names_t (Gr.keeps G (Fr.keep (by assumption))) (Rm.sub R (by omega)) (fun h6 tk6 l6 hext6 hl6 hr6 => ?_)
      obtain ⟨nv, hnl, hnv, hnr⟩ := names_rows hr6
      obtain ⟨a6, t6, u6, hn6, hT6⟩ := hnr k hk10
      have kF6 := Fr.ext (by assumption) hext6
      have kN6 := News.ext (by assumption) hext6
      k_steps
      refine Stop.go ?_
      refine item_lst hnl (by omega) (by rw [hnv]; omega) (by rw [hnv]; decide) (fun v7 hv7 => ?_) (by with_unfolding_all rfl)
      rw [Int.toNat_natCast, hn6] at hv7
      cases hv7
      k_steps
      refine Stop.go ?_
      refine dict_item (Heap.dictOf_iff.mpr ⟨o, (News.ofMem kN6 (.tail _ (.tail _ (.tail _ (.tail _ (.tail _ (.tail _ (.head _)))))))).1, ho⟩) hvk ?_
      k_steps
      refine law_text_t (Gr.keeps G (Fr.keep (by assumption))) (Rm.sub R (by omega)) (Reads.keeps (ext_of (by assumption) hB (news_r (l1 := [_, _, _, _, _, _, _]) (by assumption))) rk) hsW (fun h8 tk8 t8 hext8 => ?_)
      have kF8 := Fr.ext (by assumption) hext8
      have kN8 := News.ext (by assumption) hext8
      k_steps
      rename_i T5 h5 F5 N5 l5
      obtain ⟨q1, q2, q3, q4, q5, q6, q7, q8⟩ := l5
      refine Stop.go (elt_end (ex := [_, _, _, _]) F5 hB (fun p hp => News.ofMem N5 (.tail _ hp)) hoff hn fun B' hB' hBB => ?_)
      rw [take_snoc hp1, List.map_append]
      refine (hJ.keeps hBB).snoc (t := t6) (u := t8) ?_
      subst hB'
      refine new_hide (News.ofMem N5 (.head _)).1 ?_
      simp only [List.mem_cons, List.not_mem_nil, or_false, not_or]
      exact ⟨(News.ofMem N5 (.head _)).2.1, Nat.ne_of_gt q1, Nat.ne_of_gt q2, Nat.ne_of_gt q3, Nat.ne_of_gt q5, Nat.ne_of_gt q7⟩
    · intro ys B hJ hB hoff
      k_steps
      rename_i D' _ _ o' l' h5 F5 N5 l5
      have kB := ext_of F5 hB (news_r (l1 := [_, _, _, _, _, _]) N5)
      rw [List.take_of_length_le (by rw [List.size_toArray]; omega)] at hJ
      refine hQ _ _ _ D3 D' ws' lv ys _ hlv ⟨_, (News.ofMem N5 (.tail _ (.tail _ (.tail _ (.head _))))).1, rfl, _, rfl⟩ ⟨_, (News.ofMem N5 (.tail _ (.head _))).1, rfl, _, rfl⟩ (hJ.keeps kB) hw1 hw3 (fun b ob e => ?_) (News.ofMem N5 (.head _)).1 ?_
      · by_cases hb : b ∈ [d]
        · rw [List.mem_singleton.mp hb] at e ⊢
          rw [hd] at e; cases e
          exact (News.ofMem N5 (.tail _ (.tail _ (.tail _ (.tail _ (.tail _ (.head _))))))).1
        · exact F5.keep _ _ (hOg _ _ hb e)
      · cases q : s.heap.get? l' with
        | none => rfl
        | some ob =>
          have z := hOg _ _ (by
            intro hm
            rw [List.mem_singleton.mp hm] at l5
            exact Nat.lt_irrefl _ l5.2.2.2.2.1) q
          rw [(News.ofMem N5 (.head _)).2.2] at z; cases z
end
end Mine
end

section
open PySem PySem.W PySem.Calls PyProof.Rows PySem.Spec
namespace Mine
theorem PairsAt.tups {h : Heap} : ∀ {vs : List Value} {ps : List (Str × Str)}, PairsAt h vs ps → ∃ (ts : List (List Value)) (lv : List (Str × Tok)), TupsAt h vs ts ∧ ts.flatten = strValues lv ∧ lv.map (·.1) = flatP ps
  | _, _, .nil => ⟨[], [], .nil, rfl, rfl⟩
  | _, _, .cons (x := x) (y := y) (t := t) (u := u) a c => by
    obtain ⟨ts, lv, h1, h2, h3⟩ := c.tups
    refine ⟨[.str x t, .str y u] :: ts, (x, t) :: (y, u) :: lv, TupsAt.cons (its := #[.str x t, .str y u]) a h1, ?_, ?_⟩
    · rw [List.flatten_cons, h2]; rfl
    · rw [List.map_cons, List.map_cons, h3]; rfl
end Mine
end

section
open PySem PySem.W PySem.Calls PyProof.Rows PySem.Spec PySem.SeqAt
set_option maxHeartbeats 2000000
namespace Mine

section
variable {w : World} {mean : ExcName → Option Value} {mg mb : Str → Option Value} {dp un : Nat} {fr : Option (List Env)} {gd : Option (List Code)} {s : Shared} {Q E : Value → Shared → Prop}
theorem law_joined_t {lw lp : Addr} {lv : List (Str × Tok)} {vs : List Value} {ps : List (Str × Str)} {gap : Str} {t0 : Tok}
    (G : Gr w mean mg mb s.heap) (R : Rm 1 dp un) (hlw : s.heap.IsList lw (strValues lv).toArray) (hlp : s.heap.IsList lp vs.toArray) (hP : PairsAt s.heap vs ps)
    (hgap : gap.length ≤ 2) (hn : lv.length ≤ 64) (hm : ps.length ≤ 64) (hlen : ∀ y ∈ lv.map (·.1) ++ flatP ps, y.length ≤ 64)
    (hQ : ∀ h' tk t', Ext s.heap h' → Q (.str (Str.join gap (lv.map (·.1) ++ flatP ps)) t') { s with heap := h', toks := tk }) :
    wpAny (model PR w) (Ar dp fr gd un) (call (.ref 232) [.ref lw, .ref lp, .str gap t0] []) Q E s := by
  refine' enterB [(Str.ofString "words", .ref lw), (Str.ofString "pairs", .ref lp), (Str.ofString "gap", .str gap t0)] ?X ?hl ?ho ?hcd ?hroom ?hb ?hloc ?hcell ?hco ?hgen ?hk ?_
  walk_at "mine enter"
  intro L h₁ tk F N hL
  have KX := G.K
  have T := G.T
  obtain ⟨ts, lv2, hT, hts, hlv2⟩ := hP.tups
  have hz2 : lv2.length ≤ 128 := by
    have := congrArg List.length hlv2
    rw [List.length_map, flatP_len] at this
    omega
  have hzs : (strValues lv2).length ≤ 128 := by rw [strValues, List.length_map]; exact hz2
  have hzw : (strValues lv).length ≤ 64 := by rw [strValues, List.length_map]; exact hn
  k_steps
  refine ListComp_nest rfl (by with_unfolding_all rfl) (by decide) rfl (by decide) rfl rfl rfl rfl ?_
  k_steps
  refine NestSrc.go (Fr.lst F hlp) (hT.keeps F.keep) (by rw [hts, sizeLine_eq]; omega) fun h2 tk2 D hext hD0 hD => ?_
  have kF := Fr.ext F hext
  have kN := news_new F hD0 hD (News.ext N hext)
  clear F N
  rw [hts] at kN
  refine add_lists kF kN (Fr.lst kF hlw) ⟨_, (News.ofMem kN (.head _)).1, rfl, _, rfl⟩ (fun h3 F3 N3 => ?_) (by rw [sizeLine_eq]; omega)
  have hap : strValues lv ++ strValues lv2 = strValues (lv ++ lv2) := by simp [strValues]
  rw [hap] at N3
  k_steps
  refine SC.join (hl := ⟨_, (News.ofMem N3 (.head _)).1, rfl, _, rfl⟩) (ht := rfl) (joinOk_of (b := 64) (fun y hy => ?_) ?_) fun t9 k9 => ?_
  · refine hlen y ?_
    rw [List.map_append, hlv2] at hy
    exact hy
  · rw [List.length_map, List.length_append]
    have := Nat.mul_le_mul (show lv.length + lv2.length ≤ 200 by omega) (show 64 ≤ 64 by omega)
    have := Nat.mul_le_mul (show lv.length + lv2.length ≤ 200 by omega) hgap
    omega
  · rw [join_txt, List.map_append, hlv2]
    k_steps
    exact hQ _ _ _ F3.keep
end
end Mine
end

section
open PySem PySem.W PySem.Calls PyProof.Rows PySem.Spec
namespace Mine
section
variable {w : World} {mean : ExcName → Option Value} {mg mb : Str → Option Value} {dp un : Nat} {fr : Option (List Env)} {gd : Option (List Code)} {s : Shared} {Q E : Value → Shared → Prop}
theorem joined_F {h₀ : Heap} {L : Addr} {m : Str → Option Value} {news : List (Addr × Obj)} {lw lp : Addr} {lv : List (Str × Tok)} {vs : List Value} {ps : List (Str × Str)} {gap : Str} {t0 : Tok} {n : Nat} (X : Str) (zs : List Str)
    (G : Gr w mean mg mb h₀) (F : Fr h₀ L s.heap m) (N : News h₀ L s.heap news) (R : Rm n dp un) (hn1 : 2 ≤ n) (hlw : s.heap.IsList lw (strValues lv).toArray) (hlp : s.heap.IsList lp vs.toArray) (hP : PairsAt s.heap vs ps)
    (hz : lv.map (·.1) ++ flatP ps = zs) (hX : Str.join gap zs = X) (hgap : gap.length ≤ 2) (hn : zs.length ≤ 32) (hlen : ∀ y ∈ zs, y.length ≤ 31)
    (hQ : ∀ h' tk t', Fr h₀ L h' m → News h₀ L h' news → Q (.str X t') { s with heap := h', toks := tk }) :
    wpAny (model PR w) (Ar (dp + 1) fr gd (un + 3)) (call (.ref 232) [.ref lw, .ref lp, .str gap t0] []) Q E s := by
  have hz' := congrArg List.length hz
  rw [List.length_append, List.length_map, flatP_len] at hz'
  refine law_joined_t (G.keeps F.keep) (Rm.sub R (by omega)) hlw hlp hP hgap (by omega) (by omega) (fun y hy => Nat.le_trans (hlen y (hz ▸ hy)) (by decide)) fun h' tk t' hext => ?_
  rw [hz, hX]
  exact hQ h' tk t' (Fr.ext F hext) (News.ext N hext)
end
theorem bad_deny_len {a : Act} {ws : List (Nat × Wish)} (r : RuleIs a ws) : ∀ y ∈ [DENY] ++ flatP (ws.map pairOf), y.length ≤ 31 := fun y hy => by
  rcases List.mem_append.mp hy with q | q
  · rw [List.mem_singleton.mp q]; decide
  · exact flatP_len31 r.ten r.small y q
theorem more_len {a : Act} {ws : List (Nat × Wish)} (r : RuleIs a ws) {x y : Str} (hx : x.length ≤ 31) (hy : y.length ≤ 31) : ∀ z ∈ actW a ++ flatP (ws.map pairOf ++ [(x, y)]), z.length ≤ 31 := fun z hz => by
  rw [flatP_app, ← List.append_assoc] at hz
  rcases List.mem_append.mp hz with q | q
  · exact r.len z q
  · rcases List.mem_cons.mp q with rfl | q
    · exact hx
    · rcases List.mem_cons.mp q with rfl | q
      · exact hy
      · cases q
theorem more_count {a : Act} {ws : List (Nat × Wish)} (r : RuleIs a ws) {p : Str × Str} : (actW a ++ flatP (ws.map pairOf ++ [p])).length ≤ 32 := by
  rw [flatP_app, ← List.append_assoc, List.length_append]
  exact Nat.le_trans (Nat.add_le_add_right r.count 2) (by decide)
theorem strs_one (x : Str) (t : Tok) : #[Value.str x t] = (strValues [(x, t)]).toArray := rfl
theorem src_notup {h : Heap} {src : Addr} (hs : SrcAt h src) : NoT h src := by
  obtain ⟨o, ho, a, b, t1, t2, c, rfl, _⟩ := hs
  exact noT_cls ho (by show Value.type "list" ≠ Value.type "tuple"; decide)
end Mine
end

section
open PySem PySem.W PySem.Calls PyProof.Rows PySem.Spec PySem.SeqAt
namespace Mine
def pairD (p : Str × Str) : PyData := .tuple [.str p.1, .str p.2]
theorem PairsAt.reads {h : Heap} : ∀ {vs : List Value} {ps : List (Str × Str)}, PairsAt h vs ps → ReadsAll h vs (ps.map pairD) []
  | _, _, .nil => .nil
  | _, _, .cons a c => .cons (as := []) (isTup_reads a (.cons (.str _ _) (.cons (.str _ _) .nil))) c.reads
theorem lay_all {xs : List PyData} : (∀ x ∈ xs, x.canLay0 = true) → PyData.canLayAll0 xs = true := by
  induction xs with
  | nil => intro _; rfl
  | cons x r ih =>
    intro h
    rw [PyData.canLayAll0, h x (.head _), ih fun y hy => h y (.tail _ hy)]; rfl
theorem depth_all {xs : List PyData} {n : Nat} : (∀ x ∈ xs, x.depth ≤ n) → PyData.depthAll xs ≤ n := by
  induction xs with
  | nil => intro _; exact Nat.zero_le _
  | cons x r ih =>
    intro h
    rw [PyData.depthAll]
    exact Nat.max_le.mpr ⟨h x (.head _), ih fun y hy => h y (.tail _ hy)⟩
theorem shaped_of {d : PyData} (h1 : d.canLay0 = true) (h2 : d.depth ≤ 64) : shaped d = true := by
  unfold shaped
  rw [h1, decide_eq_true h2]; rfl
theorem shaped_list {xs : List PyData} (h : ∀ x ∈ xs, x.canLay0 = true ∧ x.depth ≤ 8) : shaped (.list xs) = true := by
  refine shaped_of (lay_all fun x hx => (h x hx).1) ?_
  show PyData.depthAll xs + 1 ≤ 64
  have := depth_all fun x hx => (h x hx).2
  omega
theorem lay_tuple {xs : List PyData} {n : Nat} (h : ∀ x ∈ xs, x.canLay0 = true ∧ x.depth ≤ n) : (PyData.tuple xs).canLay0 = true ∧ (PyData.tuple xs).depth ≤ n + 1 := by
  refine ⟨lay_all fun x hx => (h x hx).1, ?_⟩
  show PyData.depthAll xs + 1 ≤ n + 1
  have := depth_all fun x hx => (h x hx).2
  omega
theorem lay_str {x : Str} (h : low x) {n : Nat} : (PyData.str x).canLay0 = true ∧ (PyData.str x).depth ≤ n := ⟨low_ok h, Nat.zero_le _⟩
theorem lay_int {i : Int} {n : Nat} : (PyData.int i).canLay0 = true ∧ (PyData.int i).depth ≤ n := ⟨rfl, Nat.zero_le _⟩
theorem pair_low {ws : List (Nat × Wish)} (hk : ∀ p ∈ ws, p.1 < 10) : ∀ x ∈ (ws.map pairOf).map pairD, x.canLay0 = true ∧ x.depth ≤ 8 := by
  intro x hx
  obtain ⟨q, hq, rfl⟩ := List.mem_map.mp hx
  obtain ⟨p, hp, rfl⟩ := List.mem_map.mp hq
  refine lay_tuple (n := 7) fun y hy => ?_
  rcases List.mem_cons.mp hy with rfl | hy
  · exact lay_str (nameOf_low _ (hk p hp))
  · rcases List.mem_cons.mp hy with rfl | hy
    · exact lay_str wishT_low
    · cases hy
theorem pair_mem {h : Heap} {vs : List Value} {ws : List (Nat × Wish)} {v : Value} (hP : PairsAt h vs (ws.map pairOf)) (hv : v ∈ vs) : ∃ p a t u, p ∈ ws ∧ v = .ref a ∧ IsTup h a #[.str (nameOf p.1) t, .str (wishT p.2) u] := by
  obtain ⟨i, hi⟩ := List.mem_iff_getElem?.mp hv
  obtain ⟨x, y, a, t, u, h1, h2, h3⟩ := hP.at hi
  rw [List.getElem?_map] at h1
  obtain ⟨p, hp, e⟩ := Option.map_eq_some_iff.mp h1
  cases e
  exact ⟨p, a, t, u, List.mem_of_getElem? hp, h2, h3⟩
def badL (t0 t1 t2 t3 t4 t5 t6 t7 t8 t9 t10 t11 t12 t13 : Tok) : List (Str × Tok) := [(Str.ofString "8-9", t0), (Str.ofString "5-4", t1), (Str.ofString "1", t2), (Str.ofString "", t3), (Str.ofString "-", t4), (Str.ofString "/", t5), (Str.ofString "1/", t6), (Str.ofString "g/f", t7), (Str.ofString "4/3", t8), (Str.ofString "0/8", t9), (Str.ofString "1-2-3", t10), (Str.ofString "7/7/7", t11), (Str.ofString "-1-3", t12), (Str.ofString "000000000000000000000-1", t13)]
theorem badL_map {t0 t1 t2 t3 t4 t5 t6 t7 t8 t9 t10 t11 t12 t13 : Tok} : (badL t0 t1 t2 t3 t4 t5 t6 t7 t8 t9 t10 t11 t12 t13).map (·.1) = badW := rfl
theorem bad_arr (t0 t1 t2 t3 t4 t5 t6 t7 t8 t9 t10 t11 t12 t13 : Tok) : #[Value.str (Str.ofString "8-9") t0, Value.str (Str.ofString "5-4") t1, Value.str (Str.ofString "1") t2, Value.str (Str.ofString "") t3, Value.str (Str.ofString "-") t4, Value.str (Str.ofString "/") t5, Value.str (Str.ofString "1/") t6, Value.str (Str.ofString "g/f") t7, Value.str (Str.ofString "4/3") t8, Value.str (Str.ofString "0/8") t9, Value.str (Str.ofString "1-2-3") t10, Value.str (Str.ofString "7/7/7") t11, Value.str (Str.ofString "-1-3") t12, Value.str (Str.ofString "000000000000000000000-1") t13] = (strValues (badL t0 t1 t2 t3 t4 t5 t6 t7 t8 t9 t10 t11 t12 t13)).toArray := rfl
theorem items_at {lw : List (Str × Tok)} {xs : List Str} (h : lw.map (·.1) = xs) {i : Nat} {v : Value} (e : (strValues lw).toArray[i]? = some v) : ∃ y t, v = .str y t ∧ y ∈ xs := by
  subst h
  rw [List.getElem?_toArray, strValues, List.getElem?_map] at e
  obtain ⟨p, hp, rfl⟩ := Option.map_eq_some_iff.mp e
  exact ⟨p.1, p.2, rfl, List.mem_map_of_mem (List.mem_of_getElem? hp)⟩
theorem shaped_nil : shaped (.list []) = true := by decide
section
variable {prog : Program} {w : World} {A : Around} {E : Value → Shared → Prop} {s : Shared} {l D : Addr} {vs : List Value} {xs : List PyData} {Q : Value → Shared → Prop} {as : List Addr}
theorem reads_lst {h : Heap} {vs : List Value} {xs : List PyData} {as : List Addr} (hl : h.IsList l vs.toArray) (r : ReadsAll h vs xs as) : ∃ bs, Reads h (.ref l) (.list xs) bs := by
  obtain ⟨o, ho, hc, n, hd⟩ := hl
  exact ⟨_, .list ho hc hd (by simpa using r)⟩
theorem eqv_nil : PyData.eqv (.list xs) (.list []) = xs.isEmpty := by cases xs <;> rfl
theorem ne_nil (hl : s.heap.IsList l vs.toArray) (r : ReadsAll s.heap vs xs as) (hD : s.heap.IsList D #[]) (hs : shaped (.list xs) = true) (hu : A.units + 65 < cLine) (h : Q (.bool (!xs.isEmpty)) s) :
    wpAny (model prog w) A (compareOp .NotEq (.ref l) (.ref D)) Q E s := by
  obtain ⟨_, r1⟩ := reads_lst hl r
  obtain ⟨_, r2⟩ := reads_lst (vs := []) hD ReadsAll.nil
  exact ne_any r1 r2 hs shaped_nil hu (by rw [eqv_nil]; exact h)
theorem eq_nil (hl : s.heap.IsList l vs.toArray) (r : ReadsAll s.heap vs xs as) (hD : s.heap.IsList D #[]) (hs : shaped (.list xs) = true) (hu : A.units + 65 < cLine) (h : Q (.bool xs.isEmpty) s) :
    wpAny (model prog w) A (compareOp .Eq (.ref l) (.ref D)) Q E s := by
  obtain ⟨_, r1⟩ := reads_lst hl r
  obtain ⟨_, r2⟩ := reads_lst (vs := []) hD ReadsAll.nil
  exact eq_any r1 r2 hs shaped_nil hu (by rw [eqv_nil]; exact h)
end
theorem two_str_ints {x : Str} {i j : Int} (h : low x) : (PyData.tuple [.str x, .int i, .int j]).canLay0 = true ∧ (PyData.tuple [.str x, .int i, .int j]).depth ≤ 2 := by
  refine lay_tuple (n := 1) fun y hy => ?_
  rcases List.mem_cons.mp hy with rfl | hy
  · exact lay_str h
  · rcases List.mem_cons.mp hy with rfl | hy
    · exact lay_int
    · rcases List.mem_cons.mp hy with rfl | hy
      · exact lay_int
      · cases hy
theorem wishD_low {W : Wish} : (wishD W).canLay0 = true ∧ (wishD W).depth ≤ 2 := by
  cases W with
  | mask v m => exact two_str_ints (by decide +kernel)
  | range v m => exact two_str_ints (by decide +kernel)
theorem rowT_low {ws : List (Nat × Wish)} : ∀ x ∈ ws.map rowT, x.canLay0 = true ∧ x.depth ≤ 3 := by
  intro x hx
  obtain ⟨p, hp, rfl⟩ := List.mem_map.mp hx
  refine lay_tuple (n := 2) fun y hy => ?_
  rcases List.mem_cons.mp hy with rfl | hy
  · exact lay_int
  · rcases List.mem_cons.mp hy with rfl | hy
    · exact wishD_low
    · cases hy
theorem actD_low {a : Act} : (actD a).canLay0 = true ∧ (actD a).depth ≤ 3 := by
  cases a with
  | let_ => exact lay_str (by decide +kernel)
  | drop => exact lay_str (by decide +kernel)
  | mark n =>
    refine lay_tuple (n := 2) fun y hy => ?_
    rcases List.mem_cons.mp hy with rfl | hy
    · exact lay_str (by decide +kernel)
    · rcases List.mem_cons.mp hy with rfl | hy
      · exact lay_int
      · cases hy
theorem told_low {a : Act} {ws : List (Nat × Wish)} : (PyData.tuple [actD a, .tuple (ws.map rowT)]).canLay0 = true ∧ (PyData.tuple [actD a, .tuple (ws.map rowT)]).depth ≤ 5 := by
  refine lay_tuple (n := 4) fun y hy => ?_
  rcases List.mem_cons.mp hy with rfl | hy
  · exact ⟨actD_low.1, Nat.le_trans actD_low.2 (by decide)⟩
  · rcases List.mem_cons.mp hy with rfl | hy
    · exact lay_tuple rowT_low
    · cases hy
theorem told_shaped {a : Act} {ws : List (Nat × Wish)} : shaped (.tuple [actD a, .tuple (ws.map rowT)]) = true := shaped_of told_low.1 (Nat.le_trans told_low.2 (by decide))
theorem told_refl {a : Act} {ws : List (Nat × Wish)} : PyData.eqv (.tuple [actD a, .tuple (ws.map rowT)]) (.tuple [actD a, .tuple (ws.map rowT)]) = true := PySem.SeqAt.eqv_refl _ told_low.1
end Mine
end

section
open PySem PySem.W PySem.Calls PyProof.Rows PySem.Spec PySem.SeqAt
set_option maxHeartbeats 2000000
namespace Mine

section
variable {w : World} {mean : ExcName → Option Value} {mg mb : Str → Option Value} {dp un : Nat} {fr : Option (List Env)} {gd : Option (List Code)} {s : Shared} {Q E : Value → Shared → Prop}
local macro_rules | `(tactic| walk_at "eval IfExp") => `(tactic| with_unfolding_all refine Stop.out ?_)
local macro_rules | `(tactic| walk_at "subscriptTail Name Name ref int") => `(tactic| first | walk_at "last subscriptTail" | refine Stop.out ?_)
local macro_rules | `(tactic| walk_at "exec If") => `(tactic| with_unfolding_all refine Stop.out ?_)
local macro_rules | `(tactic| walk_at "eval ListComp Name cons") => `(tactic| (with_unfolding_all refine LCt.ListComp_T (F₀ := by assumption) (by with_unfolding_all rfl) (by decide) (by rfl) (by decide) (by rfl) ?_ (by intro _; rfl)))
local macro_rules | `(tactic| walk_at "compareOp Eq ref ref") => `(tactic| refine Stop.out ?_)
local macro_rules | `(tactic| walk_at "compareOp NotEq ref ref") => `(tactic| refine Stop.out ?_)
local macro_rules | `(tactic| walk_at "call ref") => `(tactic| refine Stop.out ?_)
local macro_rules | `(tactic| walk_at "CompSrcT") => `(tactic| refine Stop.out ?_)
theorem law_spoilt_t {Bz : Heap} {src lw lp : Addr} {lv : List (Str × Tok)} {vs : List Value} {ac : Act} {ws : List (Nat × Wish)}
    (G₀ : Gr w mean mg mb Bz) (hBz : Ext Bz s.heap) (hb0 : Bz.get? src = none) (R : Rm 3 dp un) (hs : SrcAt s.heap src)
    (hlw : s.heap.IsList lw (strValues lv).toArray) (hlv : lv.map (·.1) = actW ac) (hlp : s.heap.IsList lp vs.toArray) (hP : PairsAt s.heap vs (ws.map pairOf)) (hr : RuleIs ac ws) (hne1 : lw ≠ src) (hne2 : lp ≠ src)
    (hQ : ∀ h' tk l (lv' : List (Str × Tok)), Off [src] s.heap h' → SrcAt h' src → h'.IsList l (strValues lv').toArray → (∀ y ∈ lv'.map (·.1), Bad y) → lv'.length ≤ 64 → s.heap.get? l = none → Q (.ref l) { s with heap := h', toks := tk }) :
    wpAny (model PR w) (Ar dp fr gd un) (call (.ref 244) [.ref src, .ref lw, .ref lp] []) Q E s := by
  have hns := src_notup hs
  obtain ⟨o, hS, ho⟩ := hs
  refine' enterM [src] [(src, o)] [(Str.ofString "source", .ref src), (Str.ofString "words", .ref lw), (Str.ofString "pairs", .ref lp)] G₀ hBz (by simpa using hb0) (by simpa using hS) ?ho ?hcd ?hroom ?hb ?hloc ?hcell ?hco ?hgen ?hk ?_
  walk_at "mine enterM"
  intro g L h₁ tk G hBg hOg hgs hgm F N hL
  have KX := G.K
  have T := G.T
  have hgo : g.get? src = none := hgm _ (.head _)
  have hlwg : g.IsList lw (strValues lv).toArray := by
    obtain ⟨ol, hol, r⟩ := hlw
    exact ⟨ol, hOg _ _ (by simpa using hne1) hol, r⟩
  have hlpg : g.IsList lp vs.toArray := by
    obtain ⟨ol, hol, r⟩ := hlp
    exact ⟨ol, hOg _ _ (by simpa using hne2) hol, r⟩
  have hPg : PairsAt g vs (ws.map pairOf) := hP.off hOg (by intro b hb; rw [List.mem_singleton.mp hb]; exact hns)
  try dsimp only [List.cons_append, List.nil_append] at N
  obtain ⟨J, hJ⟩ : ∃ J, Str.join SP (wordsOf ac ws) = J := ⟨_, rfl⟩
  have hJl : J.length ≤ 2000 := hJ ▸ hr.joinLen
  have hz : lv.map (·.1) ++ flatP (ws.map pairOf) = wordsOf ac ws := by rw [hlv]
  k_steps
  refine Stop.go ?_
  refine joined_F J (wordsOf ac ws) G F N R (by omega) (Fr.lst F hlwg) (Fr.lst F hlpg) (hPg.keeps F.keep) hz hJ (by decide) (Nat.le_trans hr.count (by decide)) hr.len fun h2 tk2 t2 F2 N2 => ?_
  clear F N
  k_steps
  rename_i h3 k3 _ D3 F3 N3 l3
  refine Stop.go ?_
  refine joined_F (lv := [(DENY, _)]) _ ([DENY] ++ flatP (ws.map pairOf)) G F3 N3 R (by omega) ⟨_, (News.ofMem N3 (.head _)).1, rfl, _, rfl⟩ (Fr.lst F3 hlpg) (hPg.keeps F3.keep) rfl rfl (by decide) (by rw [List.length_append, flatP_len, List.length_map]; have := hr.ten'; show 1 + _ ≤ 32; omega) (fun y hy => (bad_deny_len hr y hy)) fun h4 tk4 t4 F4 N4 => ?_
  obtain ⟨X2, hX2⟩ : ∃ X, Str.join SP ([DENY] ++ flatP (ws.map pairOf)) = X := ⟨_, rfl⟩
  rw [hX2]
  clear F3 N3
  k_steps
  rename_i D5 h5 F5 N5 l5
  refine Stop.go ?_
  refine joined_F (lv := []) _ (flatP (ws.map pairOf)) G F5 N5 R (by omega) ⟨_, (News.ofMem N5 (.head _)).1, rfl, _, rfl⟩ (Fr.lst F5 hlpg) (hPg.keeps F5.keep) rfl rfl (by decide) (by rw [flatP_len, List.length_map]; have := hr.ten'; omega) (fun y hy => flatP_len31 hr.ten hr.small y hy) fun h6 tk6 t6 F6 N6 => ?_
  obtain ⟨X3, hX3⟩ : ∃ X, Str.join SP (flatP (ws.map pairOf)) = X := ⟨_, rfl⟩
  rw [hX3]
  clear F5 N5
  have hvl : vs.length ≤ 10 := by
    have := hPg.len
    rw [List.length_map] at this
    have := hr.ten'
    omega
  k_steps
  rename_i D6 _ la _ D8 _ lb D9 h9 F9 N9 l9 h10 F10 N10
  clear F9 N9
  refine Stop.go ?_
  refine joined_F _ (actW ac ++ flatP (ws.map pairOf ++ [(SIZE, Str.ofString "1-2")])) G F10 N10 R (by omega) (Fr.lst F10 hlwg) (vs := vs ++ [.ref D8]) ⟨_, (News.ofMem N10 (.head _)).1, rfl, _, rfl⟩ ((hPg.keeps F10.keep).snoc ⟨_, (News.ofMem N10 (.tail _ (.tail _ (.head _)))).1, rfl, _, rfl⟩) (by rw [hlv]) rfl (by decide) (more_count hr) (more_len hr (by decide) (by decide)) fun h11 tk11 t11 F11 N11 => ?_
  obtain ⟨X4, hX4⟩ : ∃ X, Str.join SP (actW ac ++ flatP (ws.map pairOf ++ [(SIZE, Str.ofString "1-2")])) = X := ⟨_, rfl⟩
  rw [hX4]
  clear F10 N10
  have N12 : News g L h11 ((D6, W.listOf #[Value.str (J ++ Str.ofString " vlan") _, Value.str X2 t4, Value.str X3 t6] 0) :: (src, o) :: dif g g) := fun p hp => by
    rcases List.mem_cons.mp hp with rfl | hp
    · exact News.ofMem N11 (.tail _ (.tail _ (.tail _ (.head _))))
    · rcases List.mem_cons.mp hp with rfl | hp
      · exact News.ofMem N11 (.tail _ (.tail _ (.tail _ (.tail _ (.tail _ (.tail _ (.head _)))))))
      · exact News.ofMem N11 (.tail _ (.tail _ (.tail _ (.tail _ (.tail _ (.tail _ (.tail _ hp)))))))
  clear N11
  k_steps
  rename_i h13 F13 N13
  have hx0 : ∃ (lvF : List (Str × Tok)) (c : Nat), News g L h13 ((D6, PySem.W.listOf (strValues lvF).toArray c) :: (src, o) :: dif g g) ∧ (∀ y ∈ lvF.map (·.1), Bad y) ∧ lvF.length ≤ 5 := by
    refine ⟨[(_, _), (_, _), (_, _), (_, _)], _, N13, fun y hy => ?_, Nat.le_of_ble_eq_true rfl⟩
    rcases List.mem_cons.mp hy with rfl | hy
    · rw [← hJ]; exact bad_vlan hr
    · rcases List.mem_cons.mp hy with rfl | hy
      · rw [← hX2]; exact bad_deny hr
      · rcases List.mem_cons.mp hy with rfl | hy
        · rw [← hX3]; exact bad_none hr
        · rcases List.mem_cons.mp hy with rfl | hy
          · rw [← hX4]; exact bad_size hr
          · cases hy
  obtain ⟨lvF, cF, NF, hbF, hlF⟩ := hx0
  clear N13
  refine Stop.go (wpAny_mono (Q := fun fl s' => Stop (∃ h' tk' lvF c o', fl = Flow.next ∧ s' = { s with heap := h', toks := tk' } ∧ Fr g L h' (fun y => if y = Str.ofString "found" then some (Value.ref D6) else List.lookup y [(Str.ofString "source", Value.ref src), (Str.ofString "words", Value.ref lw), (Str.ofString "pairs", Value.ref lp)].reverse) ∧
    News g L h' ((D6, PySem.W.listOf (strValues lvF).toArray c) :: (src, o') :: dif g g) ∧ IsSrc o' ∧ (∀ y ∈ lvF.map (·.1), Bad y) ∧ lvF.length ≤ 6)) ?_ ?_ fun _ _ e => e)
  · refine wpAny_If ?_
    k_steps
    rename_i D14 h14 F14 N14 l14
    refine Stop.go ?_
    refine ne_nil (Fr.lst F14 hlpg) (hPg.keeps F14.keep).reads ⟨_, (News.ofMem N14 (.head _)).1, rfl, _, rfl⟩ (shaped_list (pair_low hr.ten)) (Rm.u65 R) ?_
    have N15 : News g L h14 ((D6, PySem.W.listOf (strValues lvF).toArray cF) :: (src, o) :: dif g g) := fun p hp => News.ofMem N14 (.tail _ hp)
    clear N14
    k_steps
    · exact Stop.go ⟨_, _, lvF, cF, o, rfl, rfl, F14, N15, ho, hbF, Nat.le_succ_of_le hlF⟩
    · rename_i hne
      have h0 : 0 < vs.length := by
        have h1 := hPg.len
        cases vs with
        | nil =>
          cases ws with
          | nil => cases hne
          | cons p r => cases h1
        | cons v r => exact Nat.succ_pos _
      refine Stop.go ?_
      refine one_F G F14 N15 (by k_updF) ho (Rm.sub R (by omega)) (Fr.lst F14 hlpg) hne2 h0 (by omega) fun h16 tk16 v16 o16 F16 N16 hi16 hv16 => ?_
      try dsimp only at N16
      obtain ⟨p16, a16, t16, u16, hp16, rfl, hT16⟩ := pair_mem hPg hv16
      clear F14 N15
      k_steps
      rename_i D17 h17 F17 N17 l17 h18 F18 N18
      refine Stop.go ?_
      refine joined_F _ (actW ac ++ flatP (ws.map pairOf ++ [pairOf p16])) G F18 N18 R (by omega) (Fr.lst F18 hlwg) (vs := vs ++ [.ref a16]) ⟨_, (News.ofMem N18 (.head _)).1, rfl, _, rfl⟩ ((hPg.keeps F18.keep).snoc (IsTup.keeps' F18.keep hT16)) (by rw [hlv]; rfl) rfl (by decide) (more_count hr) (more_len hr (Nat.le_trans (name_len11 _ (hr.ten _ hp16)) (by decide)) (wishT_len31 (hr.small _ hp16))) fun h19 tk19 t19 F19 N19 => ?_
      obtain ⟨X5, hX5⟩ : ∃ X, Str.join SP (actW ac ++ flatP (ws.map pairOf ++ [pairOf p16])) = X := ⟨_, rfl⟩
      rw [hX5]
      clear F17 N17 F18 N18
      have N20 : News g L h19 ((D6, PySem.W.listOf (strValues lvF).toArray cF) :: (src, o16) :: dif g g) := fun p hp => News.ofMem N19 (.tail _ (.tail _ hp))
      clear N19
      have hvz : (strValues lvF).length ≤ 5 := by rw [strValues, List.length_map]; exact hlF
      k_steps
      rename_i h21 F21 N21
      rw [strs_push] at N21
      refine Stop.go ⟨_, _, lvF ++ [(X5, t19)], _, o16, trivial, rfl, F21, N21, hi16, fun y hy => ?_, by rw [List.length_append]; exact Nat.add_le_add_right hlF 1⟩
      rw [List.map_append] at hy
      rcases List.mem_append.mp hy with q | q
      · exact hbF y q
      · rw [List.mem_singleton.mp q, ← hX5]; exact bad_twice hr hp16
  · intro fl s3 hq3
    obtain ⟨h22, tk22, lvG, cG, oG, rfl, rfl, F22, N22, hiG, hbG, hlG⟩ := hq3.out
    clear F13 NF hq3
    have hsD : @LT.lt Nat _ src D6 := la.2.2.1
    clear la lb l3 l5 l9 hX2 hX3 hX4 k3 hbF hlF
    k_steps
    refine Stop.go (wpAny_mono (Q := fun v s' => Stop (∃ h' tk' x t, v = .str (x ++ SP) t ∧ s' = { s with heap := h', toks := tk' } ∧ (x = PRI ∨ x = NOTH) ∧ Fr g L h' (fun y => if y = Str.ofString "found" then some (Value.ref D6) else List.lookup y [(Str.ofString "source", Value.ref src), (Str.ofString "words", Value.ref lw), (Str.ofString "pairs", Value.ref lp)].reverse) ∧
      News g L h' ((D6, PySem.W.listOf (strValues lvG).toArray cG) :: (src, oG) :: dif g g))) ?_ ?_ fun _ _ e => e)
    · refine wpAny_IfExp ?_
      k_steps
      refine Stop.go ?_
      refine LCt.CompSrcT.base rfl F22 N22 hlpg (by rw [List.size_toArray, sizeLine_eq]; omega) fun g' => rest_T [D6, src] [_, _] (fun i ys B => ∃ ws' : List (Nat × Wish), PairsAt B ys (ws'.map pairOf) ∧ ∀ p ∈ ws', p.1 < 10) (fun r => .inl hlpg) ⟨hL, by simpa using ⟨(News.ofMem N22 (.head _)).2.2, hgo⟩⟩ ⟨[], .nil, by simp⟩ ?_ ?_
      · intro i v I oI C oC D m₂ h tk E' ys B hi hP hJ hB hoff hn hx3 hne hC hx F3 N3
        obtain ⟨ws', hJ1, hJ2⟩ := hJ
        obtain ⟨p25, a25, t25, u25, hp25, rfl, hT25⟩ := pair_mem hPg (List.mem_of_getElem? (by simpa using hP))
        dsimp only [List.cons_append, List.nil_append] at N3
        have hT26 := IsTup.keeps' F3.keep hT25
        k_steps
        refine Br.split (fun _ => ?_) fun _ => ?_
        · k_steps
          refine Stop.go (elt_end (ex := [(D6, _), (src, oG)]) (m := fun y => if y = Str.ofString "found" then some (Value.ref D6) else List.lookup y [(Str.ofString "source", Value.ref src), (Str.ofString "words", Value.ref lw), (Str.ofString "pairs", Value.ref lp)].reverse) F3 hB N3 hoff hn fun B' hB' hBB => ⟨ws' ++ [p25], ?_, fun p hp => ?_⟩)
          · rw [List.map_append]
            exact (hJ1.keeps hBB).snoc (IsTup.keeps' (hB.trans hBB) hT25)
          · rcases List.mem_append.mp hp with q | q
            · exact hJ2 p q
            · rw [List.mem_singleton.mp q]; exact hr.ten _ hp25
        · exact Stop.go (elt_end (ex := [(D6, _), (src, oG)]) F3 hB N3 hoff hn fun B' hB' hBB => ⟨ws', hJ1.keeps hBB, hJ2⟩)
      · intro ys B hJ hB hoff
        obtain ⟨ws', hJ1, hJ2⟩ := hJ
        k_steps
        rename_i D26 _ _ _ l26 h27 F27 N27 l27
        refine Stop.go ?_
        refine eq_nil (vs := ys) ⟨_, (News.ofMem N27 (.tail _ (.head _))).1, rfl, _, rfl⟩ (hJ1.keeps (ext_of F27 (Ext.refl _ |>.trans hB) (news_r (l1 := [_, _, _, _]) N27))).reads ⟨_, (News.ofMem N27 (.head _)).1, rfl, _, rfl⟩ (shaped_list (pair_low hJ2)) (Rm.u65 R) ?_
        have N28 : News g L h27 ((D6, PySem.W.listOf (strValues lvG).toArray cG) :: (src, oG) :: dif g g) := fun p hp => by
          rcases List.mem_cons.mp hp with rfl | hp
          · exact News.ofMem N27 (.tail _ (.tail _ (.head _)))
          · rcases List.mem_cons.mp hp with rfl | hp
            · exact News.ofMem N27 (.tail _ (.tail _ (.tail _ (.head _))))
            · rw [dif_self] at hp; cases hp
        clear N27
        k_steps
        · exact Stop.go ⟨_, _, PRI, _, rfl, rfl, .inl rfl, F27, N28⟩
        · exact Stop.go ⟨_, _, NOTH, _, rfl, rfl, .inr rfl, F27, N28⟩
    · intro v s4 hq4
      obtain ⟨h30, tk30, x30, t30, rfl, rfl, hx30, F30, N30⟩ := hq4.out
      clear F22 N22
      k_steps
      refine Stop.go (for_S ?_)
      k_steps
      rename_i D32 h32 F32 N32 l32
      rw [bad_arr] at N32
      obtain ⟨lvW, hWN, hWx⟩ : ∃ lvW : List (Str × Tok), News g L h32 ((D32, PySem.W.listOf (strValues lvW).toArray 0) :: (D6, PySem.W.listOf (strValues lvG).toArray cG) :: (src, oG) :: dif g g) ∧ lvW.map (·.1) = badW := ⟨_, N32, badL_map⟩
      clear N32
      have hWl : (strValues lvW).length = 14 := by
        have := congrArg List.length hWx
        rw [List.length_map] at this
        rw [strValues, List.length_map, this]; rfl
      have hgD : g.get? D6 = none := (News.ofMem hWN (.tail _ (.head _))).2.2
      have N33 : News g L h32 ((D6, PySem.W.listOf (strValues lvG).toArray cG) :: (src, oG) :: dif g g) := fun p hp => News.ofMem hWN (.tail _ hp)
      obtain ⟨B2, hB2, F4, hsB, _, N4, hLB, hmB, hBh⟩ := refreeze (mu := [D6, src]) (ex := [_, _]) F32 (Ext.refl g) N33 hL (by simpa using ⟨hgD, hgo⟩) (Ext.refl _)
      have hlB : B2.IsList D32 (strValues lvW).toArray := by
        subst hB2
        refine ⟨_, hideAll_get _ (News.ofMem hWN (.head _)).1 ?_, rfl, _, rfl⟩
        simp only [List.mem_cons, List.not_mem_nil, or_false, not_or]
        exact ⟨(News.ofMem hWN (.head _)).2.1, Nat.ne_of_gt l32.1, Nat.ne_of_gt l32.2.1⟩
      clear hWN N33 hB2 F32
      refine iter_list [D6, src] (fun i m ex B => ∃ lvH c, ex = [(D6, PySem.W.listOf (strValues lvH).toArray c), (src, oG)] ∧ (∀ y ∈ lvH.map (·.1), Bad y) ∧ lvH.length ≤ 6 + i ∧ m (Str.ofString "found") = some (.ref D6) ∧ m (Str.ofString "at") = some (.str (x30 ++ SP) t30) ∧ m (Str.ofString "words") = some (.ref lw) ∧ m (Str.ofString "pairs") = some (.ref lp)) rfl hlB F4 hsB ⟨hLB, hmB⟩ (ex₀ := [_, _]) N4 ⟨lvG, cG, rfl, hbG, hlG, rfl, rfl, rfl, rfl⟩ rfl rfl ?_ ?_
      · intro I i v m ex B h tk oI hi hP hJ' F' hBB hoff N' hx'
        obtain ⟨lvH, c, rfl, hbH, hlH, e1, e2, e3, e4⟩ := hJ'
        dsimp only [List.cons_append, List.nil_append] at N'
        obtain ⟨y, ty, rfl, hy⟩ := items_at hWx hP
        have hyn := badW_all y hy
        have hyl : y.length ≤ 31 := hyn.2.2.1
        have hxl : (x30 ++ SP).length ≤ 10 := by
          rcases hx30 with rfl | rfl <;> decide
        k_steps
        refine Stop.go ?_
        refine joined_F J (wordsOf ac ws) G F' N' R (by omega) (Fr.lst F' hlwg) (Fr.lst F' hlpg) (hPg.keeps F'.keep) hz hJ (by decide) (Nat.le_trans hr.count (by decide)) hr.len fun h35 tk35 t35 F35 N35 => ?_
        clear F' N'
        k_steps
        have hi' : i < 14 := by rw [List.size_toArray, hWl] at hi; exact hi
        have hDI : @Ne Nat D6 I := hx' _ (.head _)
        have hID : @Ne Nat I D6 := Ne.symm hDI
        have hBd : B.get? D6 = none := hoff.2.1 _ (.head _)
        refine append_K (by assumption) (by assumption) (by k_upd) (fun h8 F8 N8 => ?_) (by rw [List.size_toArray, strValues, List.length_map, sizeLine_eq]; omega)
        rw [strs_push] at N8
        k_steps
        refine Stop.go ⟨_, _, _, _, B, rfl, F8, hBB, hoff, fun p hp => News.ofMem N8 hp, ?_, lvH ++ [(_, _)], _, rfl, fun z hz2 => ?_, by rw [List.length_append]; exact Nat.add_le_add_right hlH 1, e1, e2, e3, e4⟩
        · intro p hp
          rcases List.mem_cons.mp hp with rfl | hp
          · exact hDI
          · exact hx' p (.tail _ hp)
        · rw [List.map_append] at hz2
          rcases List.mem_append.mp hz2 with q | q
          · exact hbH z q
          · rw [List.mem_singleton.mp q]
            have hb := bad_at hr (x := x30) (y := y) rfl (hx30.elim (fun e => .inl ⟨e, hyn⟩) fun e => .inr ⟨e, hyn⟩)
            rw [hJ] at hb
            exact hb
      · intro h tk m ex B hJ' F' hBB hoff N'
        obtain ⟨lvH, c, rfl, hbH, hlH, e1, e2, e3, e4⟩ := hJ'
        dsimp only [List.cons_append, List.nil_append] at N'
        k_steps
        rw [List.size_toArray, hWl] at hlH
        refine hQ _ _ _ lvH (fun b o n e => Fr.keep F' _ _ (hOg b o n e)) ⟨_, (News.ofMem N' (.tail _ (.head _))).1, hiG⟩ ⟨_, (News.ofMem N' (.head _)).1, rfl, _, rfl⟩ hbH (by omega) ?_
        cases q : s.heap.get? D6 with
        | none => rfl
        | some ob =>
          have z := hOg _ _ (by
            intro hm
            rw [List.mem_singleton.mp hm] at hsD
            exact Nat.lt_irrefl _ hsD) q
          rw [hgD] at z; cases z
end
end Mine
end

section
open PySem PySem.W PySem.Calls PyProof.Rows PySem.Spec PySem.SeqAt
namespace Mine
theorem FF.pushC {H h : Heap} {l : List Env} {L a : Addr} {m : Str → Option Value} {name : Str} {scope : Scope} {cd : Value} (ff : FF H l) (F : Fr H L h m) (hk : scope.kind = .function := by rfl) : FF h (envOfC name scope L a cd :: l) := by
  have f2 : h.FunFrames (hideAll h (frs l)) l := ff.ext F.keep
  exact Heap.FunFrames.cons (by show scope.kind ≠ .module; rw [hk]; decide) rfl F.ns (hide_none (.head _)) (frames_any f2 fun b hb => hide_none (.tail _ hb))
theorem RuleIs.ok {a : Act} {ws : List (Nat × Wish)} (r : RuleIs a ws) : ruleOk a ws := ⟨r.fit, fun n e => Nat.le_of_lt_succ (r.act n e)⟩
theorem RuleIs.big {a : Act} {ws : List (Nat × Wish)} (r : RuleIs a ws) : ∀ p ∈ ws, p.2.lo < 2 ^ 80 ∧ p.2.hi < 2 ^ 80 := fun p hp => ⟨Nat.lt_trans (r.small p hp).1 (by decide), Nat.lt_trans (r.small p hp).2 (by decide)⟩
theorem noT_data {h : Heap} {a : Addr} {ob : Obj} (e : h.get? a = some ob) (hd : ∀ vs n, ob.data ≠ .seq vs n) : NoT h a := noT_seq fun o e' vs n q => by
  rw [e] at e'; cases e'
  exact hd vs n q
theorem act_drawn {h : Heap} {D : Addr} {d : Int} {t1 t2 t3 t4 : Tok} {k : Nat} {v : Value} (h0 : 0 ≤ d) (h1 : d < 8) (e : h.get? D = some { cls := .type "tuple", data := .seq #[.str (Str.ofString "mark") t1, .int d t2] k })
    (hv : v ∈ [Value.str (Str.ofString "let") t3, Value.str (Str.ofString "drop") t4, .ref D]) : ∃ a : Act, (∀ n, a = .mark n → n < 8) ∧ Reads h v (actD a) [] := by
  rcases List.mem_cons.mp hv with rfl | hv
  · exact ⟨.let_, (fun n q => by cases q), Reads.str _ _⟩
  · rcases List.mem_cons.mp hv with rfl | hv
    · exact ⟨.drop, (fun n q => by cases q), Reads.str _ _⟩
    · rw [List.mem_singleton.mp hv]
      refine ⟨.mark d.toNat, (fun n q => by cases q; omega), ?_⟩
      have hd : d = ((d.toNat : Nat) : Int) := by omega
      rw [hd] at e
      exact reads_tuple_at e rfl rfl (.cons (.str _ _) (.cons (.int _ _) .nil))
theorem ldC {M : Model} {A : Around} {E : Value → Shared → Prop} {s : Shared} {h₀ : Heap} {L a : Addr} {m : Str → Option Value} {cn : Str} {cs : Scope} {ccd : Value} {x : Str} {pos : Pos} {v : Value} {Q : Value → Shared → Prop}
    (F : Fr h₀ L s.heap m) (hv : m x = some v) (h : Q v s) (hk : cs.kind = .function := by rfl) (hx : (envOfC cn cs L a ccd).kindOf x = some .local := by rfl) (hd : (x == ("__debug__" : Str)) = false := by decide) :
    wpAny M A (eval (.Name x pos) (envOfC cn cs L a ccd)) Q E s := wpAny_Name (wpAny_loadName_local hk hx F.ns hv h) hd
theorem RuleAt.hide {w : World} {h : Heap} {S : List Addr} {x dx D : Addr} {o' : Obj} {va : Value} {t1 t2 : Tok} {kvs : List (Int × Value)} {a : Act} {ws : List (Nat × Wish)} (r : RuleAt w h x dx D o' va t1 t2 kvs a ws) (hS : ∀ b ∈ S, NoT h b) (hx : x ∉ S) (hdx : dx ∉ S) (hD : D ∉ S) :
    RuleAt w (hideAll h S) x dx D o' va t1 t2 kvs a ws := by
  obtain ⟨as, hact⟩ := r.act
  obtain rfl := act_nil hact
  exact ⟨hideAll_get _ r.x_ hx, hideAll_get _ r.dx_ hdx, hideAll_get _ r.D_ hD, r.dict, r.low, r.lt1, r.lt2, ⟨[], act_offN hact (off_hide _ _) hS⟩, r.held.off (off_hide _ _) hS⟩
theorem old_notin {h : Heap} {S : List Addr} {a : Addr} (ha : h.get? a = none) (hS : ∀ b ∈ S, ∃ o, h.get? b = some o) : a ∉ S := fun hm => by
  obtain ⟨o, e⟩ := hS a hm
  rw [ha] at e; cases e
/-- a list of strings, or of references, is not the well of draws -/
theorem strs_ne_src {h : Heap} {l src : Addr} {o : Obj} {lv : List (Str × Tok)} (hl : h.IsList l (strValues lv).toArray) (hs : h.get? src = some o) (ho : IsSrc o) : l ≠ src := fun e => by
  subst e
  obtain ⟨a, b, t1, t2, c, rfl, _⟩ := ho
  obtain ⟨o', h1, _, n, h2⟩ := hl
  rw [hs] at h1; cases h1
  replace h2 : Data.seq #[.int a t1, .int b t2] c = Data.seq (strValues lv).toArray n := h2
  injection h2 with h3 _
  have h4 := congrArg Array.toList h3
  cases lv with
  | nil => simp [strValues] at h4
  | cons p r => simp [strValues] at h4
theorem pairs_ne_src {h g : Heap} {l src : Addr} {o : Obj} {vs : List Value} {ps : List (Str × Str)} (hl : h.IsList l vs.toArray) (hP : PairsAt g vs ps) (hs : h.get? src = some o) (ho : IsSrc o) : l ≠ src := fun e => by
  subst e
  obtain ⟨a, b, t1, t2, c, rfl, _⟩ := ho
  obtain ⟨o', h1, _, n, h2⟩ := hl
  rw [hs] at h1; cases h1
  replace h2 : Data.seq #[.int a t1, .int b t2] c = Data.seq vs.toArray n := h2
  injection h2 with h3 _
  have h4 := congrArg Array.toList h3
  cases hP with
  | nil => simp at h4
  | cons x y => simp at h4
theorem lst_ne_cls {h : Heap} {l b : Addr} {items : Array Value} {o : Obj} (hl : h.IsList l items) (hb : h.get? b = some o) (hc : ∀ n, o.data ≠ .seq items n) : l ≠ b := fun e => by
  subst e
  obtain ⟨o', h1, _, n, h2⟩ := hl
  rw [hb] at h1; cases h1
  exact hc n h2
theorem lst_ne_fr {h₀ h : Heap} {l L : Addr} {m : Str → Option Value} {items : Array Value} (hl : h.IsList l items) (F : Fr h₀ L h m) : l ≠ L := fun e => by
  subst e
  obtain ⟨o', h1, _, n, h2⟩ := hl
  exact Ns.notSeq F.ns _ h1 _ _ h2
theorem lst_ne_dict {w : World} {h : Heap} {l d : Addr} {items : Array Value} {o : Obj} {kvs : List (Int × Value)} (hl : h.IsList l items) (hd : h.get? d = some o) (ho : o.IsDictOf (IK w) kvs) : l ≠ d := fun e => by
  subst e
  have hD : h.DictOf (IK w) l kvs := Heap.dictOf_iff.mpr ⟨o, hd, ho⟩
  obtain ⟨o', h1, h2⟩ := (hD.typeIs : Shared.TypeIs { heap := h } (.ref l) "dict")
  obtain ⟨o2, h3, h4, _⟩ := hl
  replace h1 : h.get? l = some o' := h1
  rw [h1] at h3; cases h3
  rw [h2] at h4; exact absurd h4 (by decide)
theorem nd_wish (W : Wish) : nd (wishD W) = true := by cases W <;> rfl
theorem nds_rows : ∀ ws : List (Nat × Wish), nds (ws.map rowT) = true
  | [] => rfl
  | p :: r => by
    show ((nd (.int p.1) && (nd (wishD p.2) && true)) && nds (r.map rowT)) = true
    rw [nd_wish, nds_rows r]; rfl
theorem nd_told (a : Act) (ws : List (Nat × Wish)) : nd (.tuple [actD a, .tuple (ws.map rowT)]) = true := by
  show (nd (actD a) && (nds (ws.map rowT) && true)) = true
  rw [nds_rows]
  cases a <;> rfl
theorem dict_cls {w : World} {h : Heap} {d : Addr} {o : Obj} {kvs : List (Int × Value)} (hd : h.get? d = some o) (ho : o.IsDictOf (IK w) kvs) : o.cls = .type "dict" := by
  have hD : h.DictOf (IK w) d kvs := Heap.dictOf_iff.mpr ⟨o, hd, ho⟩
  obtain ⟨o', h1, h2⟩ := (hD.typeIs : Shared.TypeIs { heap := h } (.ref d) "dict")
  replace h1 : h.get? d = some o' := h1
  rw [hd] at h1; cases h1
  exact h2
theorem notTup_of {h : Heap} {a : Addr} {o : Obj} (e : h.get? a = some o) (hc : o.cls ≠ .type "tuple") : NotTup h a := fun o' e' => by rw [e] at e'; cases e'; exact hc
theorem notSeq_of {h : Heap} {a : Addr} {o : Obj} (e : h.get? a = some o) (hc : ∀ vs n, o.data ≠ .seq vs n) : NotSeq h a := fun o' e' => by rw [e] at e'; cases e'; exact hc
theorem src_cls {o : Obj} (h : IsSrc o) : o.cls ≠ .type "tuple" := by
  obtain ⟨a, b, t1, t2, c, rfl, _⟩ := h
  show Value.type "list" ≠ Value.type "tuple"; decide
theorem eq_nil0 {prog : Program} {w : World} {A : Around} {E : Value → Shared → Prop} {s : Shared} {l D : Addr} {Q : Value → Shared → Prop} (hl : s.heap.IsList l #[]) (hD : s.heap.IsList D #[]) (hu : A.units + 65 < cLine) (h : Q (.bool true) s) :
    wpAny (model prog w) A (compareOp .Eq (.ref l) (.ref D)) Q E s := eq_nil (vs := []) (xs := []) hl ReadsAll.nil hD shaped_nil hu h
theorem bits_ok : ∀ k : Nat, k < 10 → 1 ≤ bitsOf k ∧ bitsOf k ≤ 48 := by decide +kernel
theorem wishAt_low {ws : List (Nat × Wish)} {k : Nat} (h : ∀ p ∈ ws, p.1 < k) : wishAt ws k = none := by
  cases e : wishAt ws k with
  | none => rfl
  | some W =>
    unfold wishAt at e
    obtain ⟨q, hq, _⟩ := Option.map_eq_some_iff.mp e
    have h1 := List.find?_some hq
    have h2 := h q (List.mem_of_find?_eq_some hq)
    have h3 : q.1 = k := by simpa using h1
    omega
section
variable {w : World} {mean : ExcName → Option Value} {mg mb : Str → Option Value} {dp un : Nat} {fr : Option (List Env)} {gd : Option (List Code)} {s : Shared} {Q E : Value → Shared → Prop}
variable {h₀ : Heap} {L : Addr} {m : Str → Option Value} {news : List (Addr × Obj)} {l : List Env}
theorem refused_F {x : Str} {t0 : Tok} (G : Gr w mean mg mb h₀) (F : Fr h₀ L s.heap m) (N : News h₀ L s.heap news) (R : Rm 8 dp un) (ff : FF s.heap l) (hl : frs l = [L]) (hx : Bad x)
    (hQ : ∀ h' tk, Fr h₀ L h' m → News h₀ L h' news → Q (.bool true) { s with heap := h', toks := tk }) :
    wpAny (model PR w) (Ar dp (some l) gd un) (call (.ref 239) [.str x t0] []) Q E s := by
  have hL0 : h₀.get? L = none := fr_none F
  refine refused_t G F.keep (fun a ha => ?_) R ff hx.len hx.ok fun h' tk b hb ho hu => ?_
  · rw [hl] at ha
    rw [List.mem_singleton.mp ha]; exact hL0
  · rw [hb.mpr hx.no]
    rw [hl] at ho
    have ne : ∀ {b : Addr}, b ≠ L → b ∉ [L] := fun h1 h2 => h1 (List.mem_singleton.mp h2)
    refine hQ h' tk (F.of_stays (fun b o e => ho b o (ne fun q => ?_) (F.keep b o e)) hu) fun p hp => ⟨ho _ _ (ne (N p hp).2.1) (N p hp).1, (N p hp).2⟩
    rw [q, hL0] at e; cases e
theorem pool_F {lo : Addr} {vs : List Value} {ns : List Int} {t : Tok} (G : Gr w mean mg mb h₀) (F : Fr h₀ L s.heap m) (N : News h₀ L s.heap news) (R : Rm 1 dp un) (hl : h₀.IsList lo vs.toArray) (hi : IntsAre vs ns) (hlen : ns.length ≤ 63)
    (hQ : ∀ h' tk src o, Fr h₀ L h' m → News h₀ L h' ((src, o) :: news) → IsSrc o → (∀ p ∈ news, @Ne Nat p.1 src) → Q (.ref src) { s with heap := h', toks := tk }) :
    wpAny (model PR w) (Ar dp fr gd un) (call (.ref 173) [.ref lo, .int 0 t] []) Q E s := by
  refine pool_t (G.keeps F.keep) R (Fr.lst F hl) hi hlen fun h' tk src hext h0 hs => ?_
  obtain ⟨o, ho, hi'⟩ := hs
  exact hQ h' tk src o (Fr.ext F hext) (news_new F h0 ho (News.ext N hext)) hi' (news_ne h0 N)
theorem wish_F {src : Addr} {u : Obj → List (Addr × Obj)} {o : Obj} {bits : Nat} {t : Tok}
    (G₀ : Gr w mean mg mb h₀) (F : Fr h₀ L s.heap m) (N : News h₀ L s.heap news) (U : UpdF src o news u) (ho : IsSrc o) (R : Rm 4 dp un) (h0 : 1 ≤ bits) (h1 : bits ≤ 48)
    (hQ : ∀ h' tk v W o', Fr h₀ L h' m → News h₀ L h' (u o') → IsSrc o' → Reads h' v (wishD W) [] → W.fits bits → Q v { s with heap := h', toks := tk }) :
    wpAny (model PR w) (Ar dp fr gd un) (call (.ref 208) [.ref src, .int bits t] []) Q E s := by
  have hm : (src, o) ∈ news := by obtain ⟨own, rest, rfl, _⟩ := U.split; exact List.mem_append_right _ (.head _)
  refine law_wish_t G₀ F.keep (N.fresh hm) R ⟨o, N.get hm, ho⟩ h0 h1 fun h' tk v W k hs hr hf => ?_
  obtain ⟨o', hi, F', N'⟩ := src_step F N U k hs
  exact hQ h' tk v W o' F' N' hi hr hf
end
end Mine
end

section
open PySem PySem.W PySem.Calls PyProof.Rows PySem.Spec PySem.SeqAt
set_option maxHeartbeats 8000000
namespace Mine
local macro_rules | `(tactic| k_qdec) => `(tactic| decide +kernel)
local macro_rules | `(tactic| walk_at "exec For Tuple Call cons nil") => `(tactic| refine Stop.out ?_)
local macro_rules | `(tactic| walk_at "exec For Name List cons nil") => `(tactic| refine Stop.out ?_)
local macro_rules | `(tactic| walk_at "call type:enumerate") => `(tactic| refine Stop.out ?_)
local macro_rules | `(tactic| walk_at "call ref") => `(tactic| refine Stop.out ?_)
local macro_rules | `(tactic| walk_at "CompSrcT") => `(tactic| refine Stop.out ?_)
local macro_rules | `(tactic| walk_at "compareOp Eq ref ref") => `(tactic| refine Stop.out ?_)
local macro_rules | `(tactic| walk_at "compareOp NotEq ref ref") => `(tactic| refine Stop.out ?_)
local macro_rules | `(tactic| walk_at "subscriptTail Name Slice ref ref") => `(tactic| refine Stop.out ?_)
local macro_rules | `(tactic| walk_at "call builtin:sorted") => `(tactic| refine Stop.out ?_)
local macro_rules | `(tactic| walk_at "CompSrc") => `(tactic| refine Stop.out ?_)
local macro_rules | `(tactic| walk_at "subscriptTail Name Name ref int") => `(tactic| refine Stop.out ?_)
local macro_rules | `(tactic| walk_at "eval ListComp Name cons") => `(tactic| (with_unfolding_all refine LCt.ListComp_T (F₀ := by assumption) (by with_unfolding_all rfl) (by decide) (by rfl) (by decide) (by rfl) ?_ (by intro _; rfl)))
local macro_rules | `(tactic| walk_at "eval Name") => `(tactic| ((with_reducible show wpAny _ _ (eval (Expr.Name _ _) (envOfC _ _ _ _ _)) _ _ _); k_dflt (refine' ldC ?k1 ?k2 ?_; (case k1 => assumption); (case k2 => assumption))))
theorem law_holds : PySem.Challenge.rw_pc0364_01.Holds := hd (by
  k_go0
  have G : Gr _ _ _ _ _ := ⟨by assumption, by assumption⟩
  rename Fr _ _ _ _ => F
  rename News _ _ _ _ => N
  rename_i w s₀ s₁ mg mb G0 Y fa o pm doc ho hg KX X V GL T B TE TW wa wo M w8 w7 hcd ns hs hlay0 hL1 hr1 hl2 as5 as4 lo vs as1 hL ra w1 r0 hI hr hcond1 hcond2 K0 hD h₁ tk₁ oc right X0
  replace right : oc.data = .cell none := right
  replace F : Fr s₁.heap s₁.heap.objs.size h₁ (fun y => if y = Str.ofString "script" then some (.ref lo) else none) := F
  clear X0 hD K0 hcond2 hr r0 w1 ra hs hlay0 hL1 hr1 hl2 as1 as4 as5 hcd M TW TE B GL V X ho Y G0
  have hlen : ns.length ≤ 63 := by omega
  clear hcond1
  have R0 : Rm 13 callerA.depth callerA.units := ⟨by decide, by decide⟩
  have R : Rm 12 (callerA.depth + 1) (callerA.units + 3) := ⟨by decide, by decide⟩
  generalize s₁.heap.objs.size = L at *
  have hL0 : s₁.heap.get? L = none := fr_none F
  k_steps
  refine Stop.go ?_
  refine refused_F G F N (Rm.le R (by omega)) (FF.pushC (FF.nil _) F) rfl bad1 fun h2 tk2 F2 N2 => ?_
  clear F N
  k_steps
  refine Stop.go ?_
  refine refused_F G F2 N2 (Rm.le R (by omega)) (FF.pushC (FF.nil _) F2) rfl bad2 fun h3 tk3 F3 N3 => ?_
  clear F2 N2
  k_steps
  refine Stop.go ?_
  refine refused_F G F3 N3 (Rm.le R (by omega)) (FF.pushC (FF.nil _) F3) rfl bad3 fun h4 tk4 F4 N4 => ?_
  clear F3 N3
  k_steps
  refine Stop.go ?_
  refine pool_F G F4 N4 (Rm.le R (by omega)) hL hI hlen fun h5 tk5 src oS F5 N5 hiS neS => ?_
  clear F4 N4
  have hneS : @Ne Nat (L + 1) src := neS _ (.head _)
  have hneS' : @Ne Nat src (L + 1) := Ne.symm hneS
  k_steps
  rename_i h6 F6 N6
  refine Stop.go ?_
  refine take_F G F6 N6 (by k_updF) hiS (Rm.le R (by omega)) (by decide) (by decide) fun h7 tk7 d7 t7 o7 F7 N7 hi7 d70 d71 => ?_
  try dsimp only at N7
  clear F6 N6
  k_steps
  rename_i D8 _ l8 D9 h9 F9 N9 l9
  refine Stop.go ?_
  refine one_F (vs := [_, _, .ref D8]) G F9 N9 (by k_updF) hi7 (Rm.le R (by omega)) ⟨_, (News.ofMem N9 (.head _)).1, rfl, _, rfl⟩ (Nat.ne_of_gt l9.2.1) (Nat.le_of_ble_eq_true rfl) (Nat.le_of_ble_eq_true rfl) fun h10 tk10 va o10 F10 N10 hi10 hv10 => ?_
  try dsimp only at N10
  obtain ⟨ac, hac8, hac⟩ : ∃ a : Act, (∀ n, a = .mark n → n < 8) ∧ Reads h10 va (actD a) [] := act_drawn d70 d71 (News.ofMem N10 (.tail _ (.head _))).1 hv10
  obtain ⟨B1, hB1, F11, hsB1, _, N11, hLB1, hmB1, hBh1⟩ := refreeze (mu := [src, L + 1]) (ex := [_, _]) F10 (Ext.refl s₁.heap) (show News s₁.heap L h10 ([(src, o10), (L + 1, oc)] ++ dif s₁.heap s₁.heap) from fun p hp => by
    rw [dif_self, List.append_nil] at hp
    exact News.ofMem N10 (.tail _ (.tail _ hp))) hL0 (fun b hb => by
      rcases List.mem_cons.mp hb with rfl | hb
      · exact (News.ofMem N10 (.tail _ (.tail _ (.head _)))).2.2
      · rw [List.mem_singleton.mp hb]; exact (News.ofMem N10 (.tail _ (.tail _ (.tail _ (.head _))))).2.2) (Ext.refl _)
  have hacB : Reads B1 va (actD ac) [] := by
    subst hB1
    refine act_offN hac (off_hide _ _) fun b hb => ?_
    rcases List.mem_cons.mp hb with rfl | hb
    · exact noT_fr F11
    · rcases List.mem_cons.mp hb with rfl | hb
      · exact src_notup ⟨_, (News.ofMem N10 (.tail _ (.tail _ (.head _)))).1, hi10⟩
      · rw [List.mem_singleton.mp hb]
        refine noT_data (News.ofMem N10 (.tail _ (.tail _ (.tail _ (.head _))))).1 ?_
        rw [right]; intro vs n q; cases q
  clear F10 N10 F9 N9 hB1 hac hBh1
  try dsimp only [List.cons_append, List.nil_append] at N11
  have hB1s : B1.get? src = none := hmB1 _ (.head _)
  have hB1c : B1.get? (L + 1) = none := hmB1 _ (.tail _ (.head _))
  k_steps
  rename_i dW _ oW loW _ _ hiW _ lW D12 _ l12 _ _ h12 oC F12 N12 dC
  have N13 : News s₁.heap L h12 ([(dW, oW), (src, o10), (L + 1, oC)] ++ dif B1 s₁.heap) := fun p hp => News.ofMem N12 (.tail _ hp)
  have hB1d : B1.get? dW = none := by
    cases q : B1.get? dW with
    | none => rfl
    | some ob => exact absurd (allLt_mem lW.2.2 (mem_dif.mpr ⟨q, (News.ofMem N13 (.head _)).2.2⟩)) (Nat.lt_irrefl _)
  have hdS : @LT.lt Nat _ src dW := lW.1
  have hdC : @LT.lt Nat _ (L + 1) dW := lW.2.1
  clear N12 l12 lW l9 l8 hv10 d70 d71 hi7
  refine Stop.go (for_E rfl ?_)
  k_steps
  refine Stop.go ?_
  refine names_t (G.keeps F12.keep) (Rm.le R (by omega)) fun h13 tk13 l13 hext13 hl13 hr13 => ?_
  have neL : ∀ {b : Addr} {ob : Obj}, h12.get? b = some ob → l13 ≠ b := fun {b ob} e q => by rw [q, e] at hl13; cases hl13
  obtain ⟨nv, hnl, hnv, hnr⟩ := names_rows hr13
  obtain ⟨B2, hB2, F15, hsB2, h12B, N15, hLB2, hmB2, hBh2⟩ := refreeze (mu := [dW, src, L + 1]) (ex := [_, _, _]) F12 hsB1 N13 hLB1 (by simpa using ⟨hB1d, hB1s, hB1c⟩) hext13
  have hln : l13 ∉ [L, dW, src, L + 1] := by
    obtain ⟨oL, _, _, hLl, _⟩ := id F12.ns
    simp only [List.mem_cons, List.not_mem_nil, or_false, not_or]
    exact ⟨neL hLl, neL (News.ofMem N13 (.head _)).1, neL (News.ofMem N13 (.tail _ (.head _))).1, neL (News.ofMem N13 (.tail _ (.tail _ (.head _)))).1⟩
  have hlB2 : B2.IsList l13 nv.toArray := by
    subst hB2
    obtain ⟨ol, hol, r⟩ := hnl
    exact ⟨ol, hideAll_get _ hol hln, r⟩
  have hnt2 : ∀ b ∈ [L, dW, src, L + 1], NoT h13 b := fun b hb => by
    rcases List.mem_cons.mp hb with rfl | hb
    · exact noT_fr F15
    · rcases List.mem_cons.mp hb with rfl | hb
      · exact noT_dict (s := { s₁ with heap := h13 }) (News.ofMem N15 (.head _)).1 hiW
      · rcases List.mem_cons.mp hb with rfl | hb
        · exact src_notup ⟨_, (News.ofMem N15 (.tail _ (.head _))).1, hi10⟩
        · rw [List.mem_singleton.mp hb]
          refine noT_data (News.ofMem N15 (.tail _ (.tail _ (.head _)))).1 ?_
          rw [dC]; intro vs n q; cases q
  have hnr2 : ∀ k < 10, ∃ a t u, nv[k]? = some (Value.ref a) ∧ IsTup B2 a #[.str (nameOf k) t, .int (bitsOf k) u] := fun k hk => by
    obtain ⟨a, t, u, e1, e2⟩ := hnr k hk
    refine ⟨a, t, u, e1, ?_⟩
    subst hB2
    exact tup_off e2 (off_hide _ _) hnt2
  clear F12 N13 hB2 hBh2 hnt2 hln hnl hnr hr13
  try dsimp only [List.cons_append, List.nil_append] at N15
  have hB2s : B2.get? src = none := hmB2 _ (.tail _ (.head _))
  have hB2c : B2.get? (L + 1) = none := hmB2 _ (.tail _ (.tail _ (.head _)))
  have hB2d : B2.get? dW = none := hmB2 _ (.head _)
  k_steps
  refine Stop.go ?_
  refine enum_list [dW, src, L + 1] (fun i m ex B => ∃ oS oD kvs acc, ex = [(dW, oD), (src, oS), (L + 1, oC)] ∧ IsSrc oS ∧ oD.IsDictOf (IK w) kvs ∧ Held B kvs acc ∧ (∀ p ∈ acc, p.1 < i) ∧ (acc.map (·.1)).Nodup ∧ (∀ p ∈ acc, p.2.fits (bitsOf p.1)) ∧ m (Str.ofString "source") = some (.ref src) ∧ m (Str.ofString "action") = some va)
    rfl hlB2 F15 hsB2 ⟨hLB2, hmB2⟩ (ex₀ := [_, _, _]) N15 ⟨_, _, [], [], rfl, hi10, hiW, .nil, by simp, by simp, by simp, rfl, rfl⟩ rfl rfl rfl ?_ ?_
  · intro e it i x t m ex B h tk oe oi hx hJ F' hBB hoff N' hx' hei hce hci
    obtain ⟨oS', oD, kvs, acc, rfl, hiS', hD, hH, hlt, hnd, hfit, e1, e2⟩ := hJ
    dsimp only [List.cons_append, List.nil_append] at N'
    have hi10 : i < 10 := by
      have := (Array.getElem?_eq_some_iff.mp hx).1
      rwa [List.size_toArray, hnv] at this
    obtain ⟨ai, ti, ui, hni, hTi⟩ := hnr2 i hi10
    have hx2 : nv[i]? = some x := by simpa using hx
    rw [hni] at hx2
    cases hx2
    obtain ⟨hb1, hb48⟩ := bits_ok i hi10
    have hBe : B.get? e = none := hoff.2 _ (.head _)
    have hBi : B.get? it = none := hoff.2 _ (.tail _ (.head _))
    have hBd : B.get? dW = none := hoff.2 _ (.tail _ (.tail _ (.head _)))
    have hBs : B.get? src = none := hoff.2 _ (.tail _ (.tail _ (.tail _ (.head _))))
    have hBc : B.get? (L + 1) = none := hoff.2 _ (.tail _ (.tail _ (.tail _ (.tail _ (.head _)))))
    have hde : @Ne Nat dW e := (hx' _ (.head _)).1
    have hdi : @Ne Nat dW it := (hx' _ (.head _)).2
    have hse : @Ne Nat src e := (hx' _ (.tail _ (.head _))).1
    have hsi : @Ne Nat src it := (hx' _ (.tail _ (.head _))).2
    have hed : @Ne Nat e dW := Ne.symm hde
    have hid : @Ne Nat it dW := Ne.symm hdi
    have hx'' : ∀ (o1 o2 : Obj), ∀ p ∈ [(dW, o1), (src, o2), (L + 1, oC)], p.1 ≠ e ∧ p.1 ≠ it := fun o1 o2 p hp => by
      rcases List.mem_cons.mp hp with rfl | hp
      · exact hx' (dW, oD) (.head _)
      · rcases List.mem_cons.mp hp with rfl | hp
        · exact hx' (src, oS') (.tail _ (.head _))
        · rw [List.mem_singleton.mp hp]; exact hx' _ (.tail _ (.tail _ (.head _)))
    have hes : @Ne Nat e src := Ne.symm hse
    have his : @Ne Nat it src := Ne.symm hsi
    k_steps
    refine Stop.go ?_
    refine take_F G F' N' (by k_updF) hiS' (Rm.le R (by omega)) (by decide) (by decide) fun h16 tk16 d16 t16 o16 F16 N16 hi16 d160 d161 => ?_
    try dsimp only at N16
    have hTh := IsTup.keeps' (ext_of F16 (hsB2.trans hBB) (news_r (l1 := [_, _, _, _, _]) N16)) (IsTup.keeps' hBB hTi)
    clear F' N'
    k_steps
    · refine Stop.go ?_
      refine wish_F G F16 N16 (by k_updF) hi16 (Rm.le R (by omega)) hb1 hb48 fun h17 tk17 v17 W17 o17 F17 N17 hi17 hr17 hf17 => ?_
      try dsimp only at N17
      clear F16 N16 hTh
      k_steps
      obtain ⟨B3, hB3, F18, hsB3, h23, N18, hLB3, hmB3, hBh3⟩ := refreeze (mu := [e, it, dW, src, L + 1]) (ex := [_, _, _, _, _]) F17 (hsB2.trans hBB) N17 hoff.1 hoff.2 (Ext.refl _)
      have rB : Reads B3 v17 (wishD W17) [] := by
        subst hB3
        refine wish_offN hr17 (off_hide _ _) fun b hb => ?_
        rcases List.mem_cons.mp hb with rfl | hb
        · exact noT_fr F18
        · rcases List.mem_cons.mp hb with rfl | hb
          · exact noT_cls (News.ofMem N18 (.head _)).1 hce
          · rcases List.mem_cons.mp hb with rfl | hb
            · exact noT_cls (News.ofMem N18 (.tail _ (.head _))).1 hci
            · rcases List.mem_cons.mp hb with rfl | hb
              · exact noT_dict (s := { s₁ with heap := h17 }) (News.ofMem N18 (.tail _ (.tail _ (.head _)))).1 hD
              · rcases List.mem_cons.mp hb with rfl | hb
                · exact src_notup ⟨_, (News.ofMem N18 (.tail _ (.tail _ (.tail _ (.head _))))).1, hi17⟩
                · rw [List.mem_singleton.mp hb]
                  refine noT_data (News.ofMem N18 (.tail _ (.tail _ (.tail _ (.tail _ (.head _)))))).1 ?_
                  rw [dC]; intro vs n q; cases q
      have hwa := wishAt_low hlt
      have hkl : kvs.length < 64 := by
        have := nodup_le hnd (k := 10) fun q hq => by
          obtain ⟨p, hp, rfl⟩ := List.mem_map.mp hq
          exact Nat.lt_trans (hlt p hp) hi10
        rw [hH.len]
        rw [List.length_map] at this
        omega
      have hB3d : B3.get? dW = none := hmB3 _ (.tail _ (.tail _ (.head _)))
      clear F17 N17 hB3
      dsimp only [List.cons_append, List.nil_append] at N18
      refine dict_set F18 N18 (by k_updF) hD hkl fun h19 o19 F19 N19 ho19 => ?_
      k_steps
      refine Stop.go ⟨_, _, _, _, B3, rfl, F19, hBB.trans h23, ⟨hLB3, hmB3⟩, fun p hp => News.ofMem N19 hp, hx'' _ _, o17, o19, _, acc ++ [(i, W17)], rfl, hi17, ho19, (hH.keeps h23).stored rB hwa, ?_, wishAt_snoc hwa hnd, ?_, e1, e2⟩
      · intro q hq
        rcases List.mem_append.mp hq with hq | hq
        · exact Nat.lt_succ_of_lt (hlt q hq)
        · rw [List.mem_singleton.mp hq]; exact Nat.lt_succ_self _
      · intro q hq
        rcases List.mem_append.mp hq with hq | hq
        · exact hfit q hq
        · rw [List.mem_singleton.mp hq]; exact hf17
    · exact Stop.go ⟨_, _, _, _, B, rfl, F16, hBB, hoff, fun p hp => News.ofMem N16 hp, hx'' _ _, o16, oD, kvs, acc, rfl, hi16, hD, hH, (fun q hq => Nat.lt_succ_of_lt (hlt q hq)), hnd, hfit, e1, e2⟩
  · intro h tk m ex B hJ F' hBB hoff N'
    obtain ⟨oS2, oD, kvs, acc, rfl, hiS2, hD, hH, hlt, hnd, hfit, e1, e2⟩ := hJ
    rw [List.size_toArray, hnv] at hlt
    have kB : Ext B h := ext_of F' (hsB2.trans hBB) (news_r (l1 := [_, _, _]) N')
    dsimp only [List.cons_append, List.nil_append] at N'
    have hr : RuleIs ac acc := ⟨hlt, hfit, fun p hp => fits_small (bits_ok _ (hlt p hp)).2 (hfit p hp), hnd, hac8⟩
    have hW0 : s₁.heap.get? dW = none := (News.ofMem N' (.head _)).2.2
    have hs0 : s₁.heap.get? src = none := (News.ofMem N' (.tail _ (.head _))).2.2
    have hacB2 : Reads B va (actD ac) [] := Reads.keeps ((h12B.trans hBB)) hacB
    clear hacB hnr2 hlB2
    k_steps
    refine Stop.go ?_
    refine rule_new_t (l := [_]) (G.keeps F'.keep) (Rm.le R (by omega)) (FF.pushC (FF.nil _) F') (Reads.keeps kB hacB2) loW (News.ofMem N' (.head _)).1 hD (hH.keeps kB) hlt hnd (by have := hr.ten'; omega) hr.big (fun n q => Nat.lt_trans (hac8 n q) (by decide)) (fun h20 tk20 xx dx DD oo t1 t2 _ hext20 hx0 hdx0 RA hD0 => ?_) fun _ _ _ hno _ => absurd hr.ok hno
    have hlive : ∀ b ∈ [L, dW, src, L + 1], ∃ o, h.get? b = some o := fun b hb => by
      rcases List.mem_cons.mp hb with rfl | hb
      · obtain ⟨oL, _, _, hLl, _⟩ := id F'.ns
        exact ⟨_, hLl⟩
      · rcases List.mem_cons.mp hb with rfl | hb
        · exact ⟨_, (News.ofMem N' (.head _)).1⟩
        · rcases List.mem_cons.mp hb with rfl | hb
          · exact ⟨_, (News.ofMem N' (.tail _ (.head _))).1⟩
          · rw [List.mem_singleton.mp hb]; exact ⟨_, (News.ofMem N' (.tail _ (.tail _ (.head _)))).1⟩
    have hxx0 : s₁.heap.get? xx = none := by
      cases q : s₁.heap.get? xx with
      | none => rfl
      | some ob => rw [F'.keep _ _ q] at hx0; cases hx0
    have hdx00 : s₁.heap.get? dx = none := by
      cases q : s₁.heap.get? dx with
      | none => rfl
      | some ob => rw [F'.keep _ _ q] at hdx0; cases hdx0
    obtain ⟨B4, hB4, F20, hsB4, h24, N20, hLB4, hmB4, hBh4⟩ := refreeze (mu := [dW, src, L + 1]) (ex := [_, _, _]) F' (hsB2.trans hBB) N' hoff.1 hoff.2 hext20
    have hnt4 : ∀ b ∈ [L, dW, src, L + 1], NoT h20 b := fun b hb => by
      rcases List.mem_cons.mp hb with rfl | hb
      · exact noT_fr F20
      · rcases List.mem_cons.mp hb with rfl | hb
        · exact noT_dict (s := { s₁ with heap := h20 }) (News.ofMem N20 (.head _)).1 hD
        · rcases List.mem_cons.mp hb with rfl | hb
          · exact src_notup ⟨_, (News.ofMem N20 (.tail _ (.head _))).1, hiS2⟩
          · rw [List.mem_singleton.mp hb]
            refine noT_data (News.ofMem N20 (.tail _ (.tail _ (.head _)))).1 ?_
            rw [dC]; intro vs n q; cases q
    have RA4 : RuleAt w B4 xx dx DD oo va t1 t2 kvs ac acc := by
      subst hB4
      exact RA.hide hnt4 (old_notin hx0 hlive) (old_notin hdx0 hlive) (old_notin hD0 hlive)
    have hacB4 : Reads B4 va (actD ac) [] := Reads.keeps h24 hacB2
    have hH4 : Held B4 kvs acc := hH.keeps h24
    clear F' N' hB4 hBh4 hnt4 hlive RA hacB2 hH kB hoff
    dsimp only [List.cons_append, List.nil_append] at N20
    have hB4d : B4.get? dW = none := hmB4 _ (.head _)
    have hB4s : B4.get? src = none := hmB4 _ (.tail _ (.head _))
    have hB4c : B4.get? (L + 1) = none := hmB4 _ (.tail _ (.tail _ (.head _)))
    k_steps
    refine Stop.go ?_
    have kB4 : Ext B4 h20 := ext_of F20 hsB4 (news_r (l1 := [_, _, _]) N20)
    refine law_told_t (a := ac) (ws := acc) G F20.keep hW0 (Rm.le R (by omega)) (Reads.keeps kB4 hacB4) loW (News.ofMem N20 (.head _)).1 hD (hH4.keeps kB4) hlt hnd hr.small hac8 fun h21 tk21 l21 lw lp wsS lv21 vs21 n21 hlv21 hlw21 hlp21 hP21 hp1 hp2 hext21 hl21 hl210 => ?_
    obtain ⟨B5, hB5, F22, hsB5, h45, N22, hLB5, hmB5, hBh5⟩ := refreeze (mu := [dW, src, L + 1]) (ex := [_, _, _]) F20 hsB4 N20 hLB4 hmB4 hext21
    have hnt5 : ∀ b ∈ [L, dW, src, L + 1], NoT h21 b := fun b hb => by
      rcases List.mem_cons.mp hb with rfl | hb
      · exact noT_fr F22
      · rcases List.mem_cons.mp hb with rfl | hb
        · exact noT_dict (s := { s₁ with heap := h21 }) (News.ofMem N22 (.head _)).1 hD
        · rcases List.mem_cons.mp hb with rfl | hb
          · exact src_notup ⟨_, (News.ofMem N22 (.tail _ (.head _))).1, hiS2⟩
          · rw [List.mem_singleton.mp hb]
            refine noT_data (News.ofMem N22 (.tail _ (.tail _ (.head _)))).1 ?_
            rw [dC]; intro vs n q; cases q
    have hnl5 : ∀ {a : Addr} {items : Array Value}, h21.IsList a items → a ≠ src → a ∉ [L, dW, src, L + 1] := fun {a items} hl ha => by
      simp only [List.mem_cons, List.not_mem_nil, or_false, not_or]
      exact ⟨lst_ne_fr hl F22, lst_ne_dict hl (News.ofMem N22 (.head _)).1 hD, ha, lst_ne_cls hl (News.ofMem N22 (.tail _ (.tail _ (.head _)))).1 (by rw [dC]; intro n q; cases q)⟩
    have hnw : lw ≠ src := strs_ne_src hlw21 (News.ofMem N22 (.tail _ (.head _))).1 hiS2
    have hnp : lp ≠ src := pairs_ne_src hlp21 hP21 (News.ofMem N22 (.tail _ (.head _))).1 hiS2
    have hlwB : B5.IsList lw (strValues lv21).toArray := by
      subst hB5
      obtain ⟨o', e1, r⟩ := id hlw21
      exact ⟨o', hideAll_get _ e1 (hnl5 hlw21 hnw), r⟩
    have hlpB : B5.IsList lp vs21.toArray := by
      subst hB5
      obtain ⟨o', e1, r⟩ := id hlp21
      exact ⟨o', hideAll_get _ e1 (hnl5 hlp21 hnp), r⟩
    have hPB : PairsAt B5 vs21 (wsS.map pairOf) := by
      subst hB5
      exact hP21.off (off_hide _ _) hnt5
    have hlwK : ∀ {k : Heap}, Ext B5 k → k.IsList lw (strValues lv21).toArray := fun {k} x => let ⟨o', e1, r⟩ := hlwB; ⟨o', x _ _ e1, r⟩
    have hlpK : ∀ {k : Heap}, Ext B5 k → k.IsList lp vs21.toArray := fun {k} x => let ⟨o', e1, r⟩ := hlpB; ⟨o', x _ _ e1, r⟩
    clear hlwB hlpB
    have RA5 := RA4.keeps h45
    have hacB5 : Reads B5 va (actD ac) [] := Reads.keeps h45 hacB4
    have hH5 : Held B5 kvs acc := hH4.keeps h45
    have hrS : RuleIs ac wsS := hr.perm hp1
    have N23 := news_new F20 hl210 hl21 N22
    have hln0 : ∀ p ∈ [(dW, oD), (src, oS2), (L + 1, oC)], @Ne Nat p.1 l21 := fun p hp e => by
      have := (News.ofMem N20 (List.mem_append_left (dif B4 s₁.heap) hp : p ∈ [(dW, oD), (src, oS2), (L + 1, oC)] ++ dif B4 s₁.heap)).1
      rw [e, hl210] at this; cases this
    clear F20 N20 N22 hB5 hBh5 hnt5 hnl5 hlw21 hlp21 hP21 kB4 RA4 hacB4 hH4
    dsimp only [List.cons_append, List.nil_append] at N23
    have hB5d : B5.get? dW = none := hmB5 _ (.head _)
    have hB5s : B5.get? src = none := hmB5 _ (.tail _ (.head _))
    have hB5c : B5.get? (L + 1) = none := hmB5 _ (.tail _ (.tail _ (.head _)))
    k_steps
    rename_i h24 F24 N24
    have N25 : News s₁.heap L h24 ([(dW, oD), (src, oS2), (L + 1, oC)] ++ dif B5 s₁.heap) := fun p hp => News.ofMem N24 (.tail _ (.tail _ hp))
    have kB5 : Ext B5 h24 := ext_of F24 hsB5 (news_r (l1 := [_, _, _]) N25)
    refine Stop.go ?_
    refine rule_text_t G F24.keep hxx0 hdx00 (Rm.le R (by omega)) (RA5.keeps kB5) hlt hnd hr.small hac8 fun h26 tk26 t26 ws1 q1 q2 hext26 => ?_
    obtain rfl : ws1 = wsS := sorted_eq (q1.trans hp1.symm) q2 hp2 (hr.perm q1).nd
    rw [rule_text_eq]
    obtain ⟨J, hJ⟩ : ∃ J, Str.join SP (wordsOf ac ws1) = J := ⟨_, rfl⟩
    have hJl : J.length ≤ 2000 := hJ ▸ hrS.joinLen
    have hz21 : lv21.map (·.1) ++ flatP (ws1.map pairOf) = wordsOf ac ws1 := by rw [hlv21]
    rw [hJ]
    have F26 := Fr.ext F24 hext26
    have N26 := News.ext N25 hext26
    clear F24 N24 N25 kB5 RA5
    dsimp only [List.cons_append, List.nil_append] at N26
    k_steps
    refine Stop.go ?_
    have kB26 : Ext B5 h26 := ext_of F26 hsB5 (news_r (l1 := [_, _, _]) N26)
    refine joined_F J (wordsOf ac ws1) G F26 N26 R0 (by omega) (hlwK kB26) (hlpK kB26) (hPB.keeps kB26) hz21 hJ (by decide) (Nat.le_trans hrS.count (by decide)) hrS.len fun h27 tk27 t27 F27 N27 => ?_
    clear F26 N26
    k_steps
    rename_i hJJ
    clear hJJ
    have kB27 : Ext B5 h27 := ext_of F27 hsB5 (news_r (l1 := [_, _, _]) N27)
    refine Stop.go (for_S ?_)
    k_steps
    refine Stop.go ?_
    refine joined_F J (wordsOf ac ws1) G F27 N27 R0 (by omega) (hlwK kB27) (hlpK kB27) (hPB.keeps kB27) hz21 hJ (by decide) (Nat.le_trans hrS.count (by decide)) hrS.len fun h28 tk28 t28 F28 N28 => ?_
    clear F27 N27
    k_steps
    refine Stop.go ?_
    have hvl : vs21.length ≤ 10 := by
      have := hPB.len
      rw [List.length_map] at this
      have := hrS.ten'
      omega
    have kB28 : Ext B5 h28 := ext_of F28 hsB5 (news_r (l1 := [_, _, _]) N28)
    refine krv_lit F28 N28 (hlpK kB28) (IsPart.int _ _) (zs := vs21.reverse) rfl (fun D29 h29 F29 N29 l29 => ?_) (by with_unfolding_all rfl) (by intro _; with_unfolding_all rfl) (by rw [List.size_toArray, sizeLine_eq]; omega)
    obtain ⟨J2, hJ2⟩ : ∃ J2, Str.join SP2 (wordsOf ac ws1.reverse) = J2 := ⟨_, rfl⟩
    have hJ2l : J2.length ≤ 2000 := hJ2 ▸ join31 (by decide) (Nat.le_trans hrS.rev.count (by decide)) hrS.rev.len
    have kB29 : Ext B5 h29 := ext_of F29 hsB5 (news_r (l1 := [_, _, _, _]) N29)
    have hPR : PairsAt h29 vs21.reverse (ws1.reverse.map pairOf) := by
      rw [List.map_reverse]
      exact (hPB.keeps kB29).rev
    clear F28 N28 kB28
    k_steps
    refine Stop.go ?_
    refine joined_F J2 (wordsOf ac ws1.reverse) G F29 N29 R0 (by omega) (hlwK kB29) ⟨_, (News.ofMem N29 (.head _)).1, rfl, _, rfl⟩ hPR (by rw [hlv21]) hJ2 (by decide) (Nat.le_trans hrS.rev.count (by decide)) hrS.rev.len fun h30 tk30 t30 F30 N30 => ?_
    have N31 : News s₁.heap L h30 ((dW, oD) :: (src, oS2) :: (L + 1, oC) :: dif B5 s₁.heap) := fun p hp => News.ofMem N30 (.tail _ hp)
    clear F29 N29 N30 kB29 hPR l29
    k_steps
    rename_i t31 _ _ D32 h32 F32 N32 l32
    have N33 : News s₁.heap L h32 ([(dW, oD), (src, oS2), (L + 1, oC)] ++ dif B5 s₁.heap) := fun p hp => News.ofMem N32 (.tail _ hp)
    obtain ⟨B6, hB6, F34, hsB6, h56, N34, hLB6, hmB6, _⟩ := refreeze (mu := [dW, src, L + 1]) (ex := [_, _, _]) F32 hsB5 N33 hLB5 hmB5 (Ext.refl _)
    have hlB6 : B6.IsList D32 (strValues [(J, t28), (J2 ++ SP, t31)]).toArray := by
      subst hB6
      refine ⟨_, hideAll_get _ (News.ofMem N32 (.head _)).1 ?_, rfl, _, rfl⟩
      simp only [List.mem_cons, List.not_mem_nil, or_false, not_or]
      exact ⟨(News.ofMem N32 (.head _)).2.1, Nat.ne_of_gt l32.1, Nat.ne_of_gt l32.2.1, Nat.ne_of_gt l32.2.2.1⟩
    have hg1 : Good J ac ws1 := hJ ▸ hrS.good1
    have hg2 : Good (J2 ++ SP) ac ws1.reverse := hJ2 ▸ hrS.good2
    clear N32 N33 hB6 F32 l32
    have hdS' : @LT.lt Nat _ src dW := hdS
    refine iter_listC [dW, src, L + 1] (fun i m ex B => ex = [(dW, oD), (src, oS2), (L + 1, oC)] ∧ m (Str.ofString "source") = some (.ref src) ∧ m (Str.ofString "action") = some va ∧ m (Str.ofString "words") = some (.ref lw) ∧ m (Str.ofString "pairs") = some (.ref lp)) rfl hlB6 F34 hsB6 ⟨hLB6, hmB6⟩ (ex₀ := [_, _, _]) N34 ⟨rfl, e1, e2, rfl, rfl⟩ rfl rfl ?_ ?_
    · intro I i v m3 ex B7 h tk oI hIc hi hP hJ' F' hBB7 hoff N' hx'
      obtain ⟨rfl, f1, f2, f3, f4⟩ := hJ'
      dsimp only [List.cons_append, List.nil_append] at N'
      obtain ⟨y, ty, ws2, rfl, hgy, hpy⟩ : ∃ y ty ws2, v = .str y ty ∧ Good y ac ws2 ∧ ws2.Perm ws1 := by
        match i, hP with
        | 0, hP => cases hP; exact ⟨_, _, _, rfl, hg1, .refl _⟩
        | 1, hP => cases hP; exact ⟨_, _, _, rfl, hg2, List.reverse_perm _⟩
        | i + 2, hP => exact absurd hi (by show ¬ i + 2 < 2; omega)
      k_steps
      refine Stop.go ?_
      refine read_rule_t (l := [_]) (G.keeps F'.keep) (Rm.le R (by omega)) (FF.pushC (FF.nil _) F') hgy.len hgy.ok (fun a2 ws3 h36 tk36 xx2 dx2 D2 o2 va2 t21 t22 kvs2 ht hext36 hx20 hdx20 RA2 hnd2 h102 hsm2 => ?_) fun _ _ _ hno _ => absurd hgy.tells (hno _ _)
      obtain ⟨ea, ew⟩ := tells_one hgy.tells ht
      subst ea ew
      have hxx2 : s₁.heap.get? xx2 = none := by
        cases q : s₁.heap.get? xx2 with
        | none => rfl
        | some ob => rw [F'.keep _ _ q] at hx20; cases hx20
      have hdx2 : s₁.heap.get? dx2 = none := by
        cases q : s₁.heap.get? dx2 with
        | none => rfl
        | some ob => rw [F'.keep _ _ q] at hdx20; cases hdx20
      have F36 := Fr.ext F' hext36
      have N35 := News.ext N' hext36
      have N36 := news_new F' hdx20 RA2.dx_ (news_new F' hx20 RA2.x_ N35)
      clear F' N'
      k_steps
      refine Stop.go ?_
      refine told_t G F36.keep hxx2 hdx2 (Rm.le R (by omega)) RA2 h102 hnd2 fun h37 tk37 l37 ws4 r1 r2 hext37 hl370 hR37 => ?_
      obtain rfl : ws4 = ws1 := sorted_eq (r1.trans hpy) r2 hp2 (hrS.perm (r1.trans hpy)).nd
      obtain ⟨B8, hB8, F38, hsB8, h78, N38, hLB8, hmB8, _⟩ := refreeze (mu := [I, dW, src, L + 1]) (ex := [_, _, _, _]) F36 (hsB6.trans hBB7) N35 hoff.1 (fun a ha => by
        rcases List.mem_cons.mp ha with rfl | ha
        · exact hoff.2.2
        · exact hoff.2.1 a ha) hext37
      have hR8 : Reads B8 (.ref l37) (.tuple [actD ac, .tuple (ws4.map rowT)]) [] := by
        subst hB8
        refine reads_hide (nd_told _ _) hR37 fun b hb => ?_
        rcases List.mem_cons.mp hb with rfl | hb
        · exact .inl (Ns.notSeq F38.ns)
        · rcases List.mem_cons.mp hb with rfl | hb
          · exact .inr ⟨notTup_of (News.ofMem N38 (.head _)).1 (by rw [hIc]; decide), List.not_mem_nil⟩
          · rcases List.mem_cons.mp hb with rfl | hb
            · exact .inr ⟨notTup_of (News.ofMem N38 (.tail _ (.head _))).1 (by rw [dict_cls (News.ofMem N38 (.tail _ (.head _))).1 hD]; decide), List.not_mem_nil⟩
            · rcases List.mem_cons.mp hb with rfl | hb
              · exact .inr ⟨notTup_of (News.ofMem N38 (.tail _ (.tail _ (.head _)))).1 (src_cls hiS2), List.not_mem_nil⟩
              · rw [List.mem_singleton.mp hb]
                exact .inl (notSeq_of (News.ofMem N38 (.tail _ (.tail _ (.tail _ (.head _))))).1 (by rw [dC]; intro vs n q; cases q))
      clear F36 N35 N36 hB8 hR37 RA2
      dsimp only [List.cons_append, List.nil_append] at N38
      have hB8I : B8.get? I = none := hmB8 _ (.head _)
      have hB8d : B8.get? dW = none := hmB8 _ (.tail _ (.head _))
      have hB8s : B8.get? src = none := hmB8 _ (.tail _ (.tail _ (.head _)))
      have hB8c : B8.get? (L + 1) = none := hmB8 _ (.tail _ (.tail _ (.tail _ (.head _))))
      have hdI : @Ne Nat dW I := hx' _ (.head _)
      have hsI : @Ne Nat src I := hx' _ (.tail _ (.head _))
      have hcI : @Ne Nat (L + 1) I := hx' _ (.tail _ (.tail _ (.head _)))
      have hH8 : Held B8 kvs acc := hH5.keeps (h56.trans (hBB7.trans h78))
      have hacB8 : Reads B8 va (actD ac) [] := Reads.keeps (h56.trans (hBB7.trans h78)) hacB5
      have hal := hr.ten'
      k_steps
      refine Stop.go ?_
      refine dict_sorted rfl F38 N38 loW (Heap.dictOf_iff.mpr ⟨oD, (News.ofMem N38 (.tail _ (.head _))).1, hD⟩) (by rw [hH5.len]; omega) fun D40 vs40 ns40 e40 h40 tk40 F40 N40 l40 hI40 hp40 hs40 => ?_
      obtain ⟨wsQ, w1, w2, w3⟩ := ws_sorted hH5 hp40 hs40
      obtain rfl : wsQ = ws4 := sorted_eq (w1.trans hp1.symm) w3 hp2 (hr.perm w1).nd
      have hlen40 : vs40.length = wsQ.length := by rw [hI40.length, ← w2, List.length_map]
      have hwl : wsQ.length = acc.length := w1.length_eq
      clear F38 N38
      refine LCg.CompSrc.ledger rfl F40 N40 (.head _) (by rw [List.size_toArray, sizeLine_eq]; omega) fun g' => rest_U [I, dW, src, L + 1] [_, _, _, _, _] (fun i ys B => RowsAt B ys (wsQ.take i)) (fun r => .inr ⟨_, .head _, rfl, _, rfl⟩) ⟨hLB8, hmB8⟩ .nil ?_ ?_
      · intro i9 v9 I9 oI9 C9 oC9 D9' m9 h9' tk9 E9 ys B9 hi9 hP9 hJ9 hB9 hoff9 hn9 hx9 hne9 hC9 hxx9 F9 N9
        obtain ⟨n9, tn9, rfl, hni9⟩ := ints_get hI40 (by simpa using hP9)
        rw [← w2, List.getElem?_map] at hni9
        obtain ⟨⟨k9, W9⟩, hp9, rfl⟩ := Option.map_eq_some_iff.mp hni9
        have hmem9 := w1.mem_iff.mp (List.mem_of_getElem? hp9)
        obtain ⟨vk9, hvk9, rk9'⟩ := hH8.at (wishAt_of_mem hnd hmem9)
        have rk9 := Reads.keeps hB9 rk9'
        dsimp only [List.cons_append, List.nil_append] at N9
        have hlt9 : h9'.objs.size ∉ [L, I9, C9, D9', I, dW, src, L + 1] := by
          simp only [List.mem_cons, List.not_mem_nil, or_false, not_or]
          exact ⟨Nat.ne_of_gt F9.ns.lt, Nat.ne_of_gt (Heap.lt_size (News.ofMem N9 (.head _)).1), Nat.ne_of_gt (Heap.lt_size (News.ofMem N9 (.tail _ (.head _))).1), Nat.ne_of_gt (Heap.lt_size (News.ofMem N9 (.tail _ (.tail _ (.head _)))).1),
            Nat.ne_of_gt (Heap.lt_size (News.ofMem N9 (.tail _ (.tail _ (.tail _ (.tail _ (.head _)))))).1), Nat.ne_of_gt (Heap.lt_size (News.ofMem N9 (.tail _ (.tail _ (.tail _ (.tail _ (.tail _ (.head _))))))).1), Nat.ne_of_gt (Heap.lt_size (News.ofMem N9 (.tail _ (.tail _ (.tail _ (.tail _ (.tail _ (.tail _ (.head _)))))))).1), Nat.ne_of_gt (Heap.lt_size (News.ofMem N9 (.tail _ (.tail _ (.tail _ (.tail _ (.tail _ (.tail _ (.tail _ (.head _))))))))).1)⟩
        k_steps
        refine Stop.go ?_
        refine dict_item (Heap.dictOf_iff.mpr ⟨oD, (News.ofMem N9 (.tail _ (.tail _ (.tail _ (.tail _ (.tail _ (.head _))))))).1, hD⟩) hvk9 ?_
        k_steps
        rename_i h50 F50 N50 _ _ _ _
        refine Stop.go (elt_end (ex := [_, _, _, _, _]) F50 (hsB8.trans hB9) (fun p hp => News.ofMem N50 (.tail _ hp)) hoff9 hn9 fun B' hB' hBB => ?_)
        rw [take_snoc hp9]
        refine (hJ9.keeps hBB).snoc (t := tn9) ?_ (Reads.keeps hBB rk9)
        subst hB'
        exact new_hide (News.ofMem N50 (.head _)).1 hlt9
      · intro ys B9 hJ9 hB9 hoff9
        rw [List.take_of_length_le (by rw [List.size_toArray]; omega)] at hJ9
        have hyl : ys.length ≤ 10 := by rw [hJ9.len]; omega
        have hyz : ys.length ≤ sizeLine := by rw [sizeLine_eq]; omega
        have hB9I : B9.get? I = none := hoff9.2 _ (.head _)
        have hB9d : B9.get? dW = none := hoff9.2 _ (.tail _ (.head _))
        have hB9s : B9.get? src = none := hoff9.2 _ (.tail _ (.tail _ (.head _)))
        k_steps
        rename_i D51 _ _ _ _ h54 F54 N54 _ _ _ _
        have kB9 : Ext B9 h54 := ext_of F54 (hsB8.trans hB9) (news_r (l1 := [_, _, _, _, _, _, _, _]) N54)
        refine Stop.go ?_
        refine ne_anyB false (Reads.keeps (hB9.trans kB9) hR8) (reads_tuple_at (News.ofMem N54 (.head _)).1 rfl rfl (.cons (as := []) (Reads.keeps (hB9.trans kB9) hacB8) (.cons (as := []) (reads_tuple_at (News.ofMem N54 (.tail _ (.head _))).1 rfl rfl (hJ9.keeps kB9).reads) .nil))) told_shaped told_shaped (Rm.u65 R0) (by rw [told_refl]; rfl) ?_
        k_steps
        exact Stop.go ⟨_, _, _, _, B9, rfl, F54, (hBB7.trans h78).trans hB9, ⟨hoff9.1, fun a ha => hoff9.2 a (.tail _ ha), hB9I⟩, fun p hp => News.ofMem N54 (.tail _ (.tail _ (.tail _ (.tail _ hp)))), hx', rfl, f1, f2, f3, f4⟩
    · intro h60 tk60 m60 ex60 B10 hJ60 F60 hBB60 hoff60 N60
      obtain ⟨rfl, f1, f2, f3, f4⟩ := hJ60
      dsimp only [List.cons_append, List.nil_append] at N60
      have hB10d : B10.get? dW = none := hoff60.2 _ (.head _)
      have hB10s : B10.get? src = none := hoff60.2 _ (.tail _ (.head _))
      have hB10c : B10.get? (L + 1) = none := hoff60.2 _ (.tail _ (.tail _ (.head _)))
      k_steps
      refine Stop.go ?_
      have kB10 : Ext B10 h60 := ext_of F60 (hsB6.trans hBB60) (news_r (l1 := [_, _, _]) N60)
      have kB5h : Ext B5 h60 := h56.trans (hBB60.trans kB10)
      refine law_spoilt_t G F60.keep hs0 (Rm.le R (by omega)) ⟨_, (News.ofMem N60 (.tail _ (.head _))).1, hiS2⟩ (hlwK kB5h) hlv21 (hlpK kB5h) (hPB.keeps kB5h) hrS hnw hnp fun h61 tk61 l61 lv61 k61 hsrc61 hl61 hbad61 hlen61 hl610 => ?_
      obtain ⟨o61, hi61, F61, N61⟩ := src_step (u := fun o' => (dW, oD) :: (src, o') :: (L + 1, oC) :: dif B10 s₁.heap) F60 N60 (by k_updF) k61 hsrc61
      try dsimp only at N61
      obtain ⟨ol61, hol61, hlc61, nl61, hld61⟩ := id hl61
      have N62 := news_new F60 hl610 hol61 N61
      have hz61 : (strValues lv61).length ≤ 64 := by rw [strValues, List.length_map]; exact hlen61
      clear F60 N60 N61 kB10 kB5h
      refine .inl ⟨l61, (strValues lv61).toArray, _, rfl, rfl, F61, N62, .inr ⟨ol61, .head _, hlc61, nl61, hld61⟩, by rw [List.size_toArray, sizeLine_eq]; omega, fun _ ⟨g', eg⟩ => eg ▸ rest_T [dW, src, L + 1] [_, _, _, _] (fun i ys B => ys = []) (fun r => .inr ⟨ol61, .head _, hlc61, nl61, hld61⟩) ⟨hoff60.1, hoff60.2⟩ rfl ?_ ?_⟩
      · intro i9 v9 I9 oI9 C9 oC9 D9' m9 h9' tk9 E9 ys B9 hi9 hP9 hJ9 hB9 hoff9 hn9 hx9 hne9 hC9 hxx9 F9 N9
        subst hJ9
        obtain ⟨y9, t9, rfl, hy9⟩ := items_at rfl hP9
        dsimp only [List.cons_append, List.nil_append] at N9
        k_steps
        rename Fr _ _ _ _ => F69
        rename News _ _ _ _ => N69
        refine Stop.go ?_
        refine refused_F (l := [_]) G F69 N69 (Rm.le R (by omega)) (FF.pushC (FF.nil _) F69) rfl (hbad61 y9 hy9) fun h70 tk70 F70 N70 => ?_
        clear F69 N69
        k_steps
        refine Br.split (fun q => ?_) fun _ => ?_
        · cases q
        · exact Stop.go (elt_end (ex := [_, _, _, _]) F70 ((hsB6.trans hBB60).trans hB9) N70 hoff9 hn9 fun B' _ _ => rfl)
      · intro ys B9 hJ9 hB9 hoff9
        subst hJ9
        k_steps
        rename_i N71 _
        refine Stop.go ?_
        refine eq_nil0 ⟨_, (News.ofMem N71 (.tail _ (.head _))).1, rfl, _, rfl⟩ ⟨_, (News.ofMem N71 (.head _)).1, rfl, _, rfl⟩ (Rm.u65 R0) ?_
        k_steps)

end Mine
end

end

theorem PySem.Challenge.cw_pc0364_01_holds : PySem.Challenge.rw_pc0364_01.Holds := by
  exact Mine.law_holds
