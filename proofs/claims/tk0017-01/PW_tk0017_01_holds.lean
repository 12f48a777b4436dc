import PyProof.Rows.All
import Wide.All
import OpenK.AllK
import Wide.FinOn
import PySem.Challenge.RW_tk0017_01
set_option Elab.async false
set_option compiler.extract_closed false

section
-- part Hd
open PySem PySem.W PyProof.Rows
namespace Mine
set_option maxRecDepth 100000
set_option maxHeartbeats 8000000
open_top hd for PySem.Challenge.rw_tk0017_01
end Mine
end

section
-- part Base
open PySem PySem.W PyProof.Rows PySem.Calls
set_option maxRecDepth 100000
namespace Mine

abbrev Ext (h h' : Heap) : Prop := ∀ b o, h.get? b = some o → h'.get? b = some o

/-- the heap holds at v the pair q of ints -/
inductive RatV (h : Heap) (v : Value) (q : Int × Int) : Prop
  | mk (a : _) (t : _) (u : _) (q0 : v = .ref a) (q1 : IsTup h a #[.int q.1 t, .int q.2 u])

inductive All2 {α β : Type} (R : α → β → Prop) : List α → List β → Prop
  | nil : All2 R [] []
  | cons {a b as bs} : R a b → All2 R as bs → All2 R (a :: as) (b :: bs)

inductive PolyV (h : Heap) (v : Value) (ps : List (Int × Int)) : Prop
  | mk (a : _) (vs : _) (q0 : v = .ref a) (q1 : h.PlainList a (List.toArray vs)) (q2 : All2 (RatV h) vs ps) (q3 : ps.length ≤ 1000)

theorem RatV.ext {h h' : Heap} (k : Ext h h') {v q} (x : RatV h v q) : RatV h' v q :=
  let ⟨a, t, u, e, y⟩ := x; ⟨a, t, u, e, y.keeps k⟩
theorem All2.imp {α β : Type} {R S : α → β → Prop} (f : ∀ a b, R a b → S a b) {as bs} (x : All2 R as bs) : All2 S as bs := by
  induction x with
  | nil => exact .nil
  | cons h _ ih => exact .cons (f _ _ h) ih
theorem All2.length {α β : Type} {R : α → β → Prop} {as : List α} {bs : List β} (x : All2 R as bs) : as.length = bs.length := by
  induction x with
  | nil => rfl
  | cons h _ ih => simp [ih]
theorem PolyV.ext {h h' : Heap} (k : Ext h h') {v ps} (x : PolyV h v ps) : PolyV h' v ps :=
  let ⟨a, vs, e, y, z, z2⟩ := x; ⟨a, vs, e, (let ⟨n, ho⟩ := y; ⟨n, k _ _ ho⟩), z.imp fun _ _ => RatV.ext k, z2⟩

/-- how a call comes back: what it hands back is told, the old objects stand -/
def Back (post : Heap → Value → Prop) (s : Shared) (r : Value) (s' : Shared) : Prop := post s'.heap r ∧ Keeps s s'

section
variable (w : World) (p : Program) (loose : List Str) (mean : ExcName → Option Value) (mg mb : Str → Option Value)

/-- a call of the def at f, on vs: within room d, u; from heaps that meet pre it comes back with post, all old objects as they were -/
def Sp (f : Addr) (d u : Nat) (vs : List Value) (pre : Heap → Prop) (post : Heap → Value → Prop) : Prop :=
  ∀ (dp un : Nat) (fr : Option (List Env)) (gd : Option (List Code)) (s : Shared) (E : Value → Shared → Prop), dp + d < recursionLimit → un + u < cLine →
    (Mine.hd.heap_39 w.params).In s.heap → Top p loose mean mg mb s.heap → pre s.heap →
    wpAny (model PySem.Challenge.rw_tk0017_01.prog w) { handled := none, depth := dp, frames := fr, guards := gd, units := un } (call (.ref f) vs) (fun r s' => Back post s r s') E s
end

section
variable {prog : Program} {w : World} {A : Around} {E : Value → Shared → Prop} {s : Shared} {K : Frag} {mg mb : Str → Option Value} {p : Program} {loose : List Str} {mean : ExcName → Option Value} {Q : Value → Shared → Prop}

theorem enter {name qual : Str} {params : Arguments} {body : List Stmt} {scope : Scope} {dV kV doc pm cdv ct oc : Value} {an od : Option Addr} {osl : Array (Option Value)} {f : Addr} {vs : List Value} {binds : List (Str × Value)}
    (X : K.In s.heap) (T : Top p loose mean mg mb s.heap)
    (ho : K.lookup f = some ⟨oc, od, .func (fnOf name qual params body scope dV kV doc pm an cdv ct), osl⟩) (hcd : codeIn K cdv qual = true) (hroom : A.depth < recursionLimit)
    (hbind : BindsTo s (fnOf name qual params body scope dV kV doc pm an cdv ct) ⟨vs, []⟩ binds) (hloc : ∀ y ∈ binds, scope.names.lookup y.1 = some .local)
    (h : ∀ L h₁, L = s.heap.objs.size → Fr s.heap L h₁ (fun y => binds.reverse.lookup y) →
      wpAny (model prog w) (A.deeper (envOf qual scope L f cdv)) (execs body (envOf qual scope L f cdv))
        (fun fl s' => Q (match fl with | .ret v => v | _ => .none) s') (fun _ _ => False)
        { s with heap := h₁, toks := s.toks + binds.length })
    (hco : scope.isCoroutine = false) (hgen : scope.isGenerator = false) (hk : scope.kind = .function)
    (hcell : ∀ x ∈ scope.names, x.2 ≠ .cell) : wpAny (model prog w) A (call (.ref f) vs) Q E s := by
  refine wpAny_call (codeAny_call_def (fd := fnX name qual params body scope [] dV kV doc pm an cdv ct) (body := body) (binds := binds) hroom (X _ _ ho) rfl T.nolimit (codeRec_of X hcd) rfl hbind hcell hloc (fun h₁ hns hk₁ => ?_) hco hgen hk)
  exact wpAny_mono (h _ h₁ rfl ⟨hns, hk₁, Nat.le_refl _⟩) (fun fl s' hl => hl) fun _ _ x => x.elim
end
end Mine
end

section
-- part Rules
open PySem PySem.W PyProof.Rows PySem.Calls
set_option maxRecDepth 100000
namespace Mine

/-- all but the lists of M and the namespaces stand -/
def KeepM (M : List Addr) (h h' : Heap) : Prop := ∀ b o, b ∉ M → h.get? b = some o → (∀ es n, o.data ≠ .dict es n) → h'.get? b = some o
/-- where the frame and the ledger own stand, all that h holds stands (but M and namespaces) -/
def Mover (M : List Addr) (h₀ : Heap) (L : Addr) (own : List (Addr × Obj)) (h : Heap) : Prop := ∀ h' m', Fr h₀ L h' m' → News h₀ L h' own → KeepM M h h'

theorem KeepM.of_ext {h h' : Heap} (k : Ext h h') (M : List Addr) : KeepM M h h' := fun b o _ e _ => k b o e
theorem KeepM.trans {M : List Addr} {h h' h'' : Heap} (a : KeepM M h h') (b : KeepM M h' h'') : KeepM M h h'' := fun x o hx e hd => b x o hx (a x o hx e hd) hd
theorem KeepM.weak {M M' : List Addr} {h h' : Heap} (a : KeepM M h h') (hs : ∀ b ∈ M, b ∈ M') : KeepM M' h h' := fun x o hx e hd => a x o (fun q => hx (hs x q)) e hd
theorem KeepM.plain {M : List Addr} {h h' : Heap} (k : KeepM M h h') {a vs} (ha : a ∉ M) (y : h.PlainList a vs) : h'.PlainList a vs := by
  obtain ⟨n, ho⟩ := y
  exact ⟨n, k a _ ha ho (by intro es n h; cases h)⟩
/-- the list objects of M hold no tuple -/
def ListsIn (M : List Addr) (h : Heap) : Prop := ∀ a ∈ M, ∃ o, h.get? a = some o ∧ o.cls = .type "list"
theorem ListsIn.nil {h : Heap} : ListsIn [] h := fun _ hm => nomatch hm
theorem KeepM.ratV {M : List Addr} {h h' : Heap} (k : KeepM M h h') (hM : ListsIn M h) {v q} (y : RatV h v q) : RatV h' v q := by
  obtain ⟨a, t, u, e, o, ho, hc, n, hd⟩ := y
  refine ⟨a, t, u, e, o, k a o (fun hm => ?_) ho (by rw [hd]; intro es n h; cases h), hc, n, hd⟩
  obtain ⟨o', ho', hc'⟩ := hM a hm
  rw [ho] at ho'; cases ho'
  rw [hc] at hc'; exact absurd (Value.type.inj hc') (by decide)
theorem KeepM.ratV0 {h h' : Heap} (k : KeepM [] h h') {v q} (y : RatV h v q) : RatV h' v q := k.ratV .nil y
theorem KeepM.polyV {h h' : Heap} (k : KeepM [] h h') {v ps} (y : PolyV h v ps) : PolyV h' v ps := by
  obtain ⟨a, vs, e, hl, hr, hn⟩ := y
  exact ⟨a, vs, e, k.plain (fun h => nomatch h) hl, hr.imp fun _ _ => k.ratV0, hn⟩

/-- a list of ints -/
inductive IntsV (h : Heap) (v : Value) (ns : List Int) : Prop
  | mk (a : Addr) (vs : List Value) (q0 : v = .ref a) (q1 : h.PlainList a (List.toArray vs)) (q2 : IntsAre vs ns) (q3 : ns.length ≤ 1000)
/-- all new objects of h but X -/
def newOf (h₀ h : Heap) (X : List Addr) : List (Addr × Obj) := PyProof.Rows.ownOf h₀ ((List.range h.objs.size).filter fun b => decide (b ∉ X)) h
theorem newOf_news {h₀ h : Heap} {L : Addr} {M : List Addr} : News h₀ L h (newOf h₀ h (L :: M)) :=
  news_ownOf fun hm => by simp at hm
theorem newOf_off {h₀ h : Heap} {X : List Addr} : ∀ p ∈ newOf h₀ h X, p.1 ∉ X := fun p hp => by
  have := ownOf_sub p hp
  simp only [List.mem_filter, decide_eq_true_eq] at this
  exact this.2
theorem newOf_mem {h₀ h : Heap} {X : List Addr} {b : Addr} {o : Obj} (hb : b ∉ X) (hn : h₀.get? b = none) (e : h.get? b = some o) : (b, o) ∈ newOf h₀ h X :=
  mem_ownOf (by simp only [List.mem_filter, decide_eq_true_eq, List.mem_range]; exact ⟨Heap.lt_size e, hb⟩) hn e
theorem newOf_keep {h₀ h h' : Heap} {L : Addr} {m m' : Str → Option Value} {M : List Addr} (F : Fr h₀ L h m) (F' : Fr h₀ L h' m') (N : News h₀ L h' (newOf h₀ h (L :: M))) :
    ∀ b o, b ≠ L → b ∉ M → h.get? b = some o → h'.get? b = some o := fun b o hL hM e => by
  cases hn : h₀.get? b with
  | some o₀ =>
    have : o₀ = o := by have q := F.keep b o₀ hn; rw [e] at q; exact (Option.some.inj q).symm
    exact this ▸ F'.keep b o₀ hn
  | none => exact (N _ (newOf_mem (by simp; exact ⟨hL, hM⟩) hn e)).1
theorem newOf_mover {h₀ h : Heap} {L : Addr} {m : Str → Option Value} {M : List Addr} (F : Fr h₀ L h m) : Mover M h₀ L (newOf h₀ h (L :: M)) h := fun h' m' F' N b o hM e hd => by
  refine newOf_keep F F' N b o (fun q => ?_) hM e
  obtain ⟨oL, es, ep, hL, hLd, _⟩ := F.ns
  rw [q, hL] at e; cases e
  exact hd _ _ hLd

/-- what an iterator's step turns: objects that hold fields, new since h₀, not the frame's names -/
def ItMod (h₀ : Heap) (L : Addr) (K : List (Addr × Obj)) (h h' : Heap) : Prop :=
  ∃ wr : List Addr, (∀ b ∈ wr, h₀.get? b = none) ∧ L ∉ wr ∧ (∀ b ∈ wr, ∀ p ∈ K, p.1 ≠ b) ∧ (∀ b ∈ wr, ∃ o fs, h.get? b = some o ∧ o.data = .fields fs) ∧
    ∀ b o, b ∉ wr → h.get? b = some o → h'.get? b = some o

theorem ItMod.of {h₀ : Heap} {L : Addr} {K : List (Addr × Obj)} {h h' : Heap} (x : ItMod h₀ L K h h') {b : Addr} {o : Obj} (e : h.get? b = some o) (hd : ∀ fs, o.data ≠ .fields fs) : h'.get? b = some o := by
  obtain ⟨wr, _, _, _, hf, hk⟩ := x
  refine hk b o (fun hb => ?_) e
  obtain ⟨o', fs, e', hd'⟩ := hf b hb
  rw [e] at e'; cases e'
  exact hd fs hd'
theorem ItMod.fr {h₀ : Heap} {L : Addr} {K : List (Addr × Obj)} {h h' : Heap} (x : ItMod h₀ L K h h') {m} (F : Fr h₀ L h m) : Fr h₀ L h' m := by
  obtain ⟨wr, h1, h2, _, _, hk⟩ := x
  exact ⟨F.ns.at' fun o e => hk _ o h2 e, fun b o e => hk b o (fun hb => by rw [h1 b hb] at e; cases e) (F.keep b o e), F.above⟩
theorem ItMod.news {h₀ : Heap} {L : Addr} {K : List (Addr × Obj)} {h h' : Heap} (x : ItMod h₀ L K h h') (N : News h₀ L h K) : News h₀ L h' K := fun p hp => by
  obtain ⟨wr, _, _, h3, _, hk⟩ := x
  exact ⟨hk _ _ (fun hb => h3 _ hb p hp rfl) (N p hp).1, (N p hp).2⟩
theorem ItMod.ratV {h₀ : Heap} {L : Addr} {K : List (Addr × Obj)} {h h' : Heap} (x : ItMod h₀ L K h h') {v q} (y : RatV h v q) : RatV h' v q := by
  obtain ⟨a, t, u, e, o, ho, hc, n, hd⟩ := y
  exact ⟨a, t, u, e, o, x.of ho (by rw [hd]; intro fs h; cases h), hc, n, hd⟩
theorem ItMod.plain {h₀ : Heap} {L : Addr} {K : List (Addr × Obj)} {h h' : Heap} (x : ItMod h₀ L K h h') {a vs} (y : h.PlainList a vs) : h'.PlainList a vs := by
  obtain ⟨n, ho⟩ := y
  exact ⟨n, x.of ho (by intro fs h; cases h)⟩
theorem ItMod.polyV {h₀ : Heap} {L : Addr} {K : List (Addr × Obj)} {h h' : Heap} (x : ItMod h₀ L K h h') {v ps} (y : PolyV h v ps) : PolyV h' v ps := by
  obtain ⟨a, vs, e, hl, hr, hn⟩ := y
  exact ⟨a, vs, e, x.plain hl, hr.imp fun _ _ => x.ratV, hn⟩
section
variable {prog : Program} {w : World} {A : Around} {E : Value → Shared → Prop} {s : Shared} {env : Env} {h₀ : Heap} {target : Expr} {body : List Stmt} {Q : Flow → Shared → Prop}

inductive FPack (n : Nat) (s₂ : Shared) (St Inv : Nat → Heap → Prop) (k : Nat) (s' : Shared) : Prop
  | mk (h' : Heap) (tk i : Nat) (e1 : s' = { s₂ with heap := h', toks := tk }) (q1 : St i h') (q2 : Inv i h') (q3 : i ≤ n) (e2 : k = n + 1 - i)
inductive CPack (n : Nat) (s₂ : Shared) (St : Nat → Heap → Prop) (hb : Heap) (C D : Addr) (Cel : Heap → Prop) (Gs : List Value → Nat → Heap → Prop) (k : Nat) (s' : Shared) : Prop
  | mk (h' : Heap) (tk i : Nat) (ys : List Value) (m' : Str → Option Value) (e1 : s' = { s₂ with heap := h', toks := tk }) (e2 : i ≤ n) (e3 : k = n + 1 - i) (q1 : St i h') (q2 : Fr hb C h' m') (q3 : Cel h') (q4 : h'.PlainList D (List.toArray ys)) (q5 : Gs ys i h')
/-- one iteration source at the start of a loop -/
inductive ForAt (prog : Program) (w : World) (A : Around) (K : List (Addr × Obj)) (M : List Addr) (h₀ : Heap) (env : Env) (target : Expr) (body : List Stmt) (Q : Flow → Shared → Prop) (E : Value → Shared → Prop) (Inv : Nat → Heap → Prop) (it : Value) (s₂ : Shared) : Prop
  | mk (I : Addr) (fp wr : List Addr) (n : Nat) (P Md : Nat → Value → Heap → Prop) (St : Nat → Heap → Prop) (q0 : it = .ref I) (q1 : KTurns prog w A target I fp wr n P Md St) (q2 : env.locals ∉ fp) (q3 : (∀ b ∈ fp, b ∉ M)) (q4 : (∀ b ∈ wr, h₀.get? b = none)) (q5 : (∀ b ∈ wr, ∀ p ∈ K, p.1 ≠ b)) (q6 : (∀ i v h, Md i v h → ∀ b ∈ wr, ∃ o fs, h.get? b = some o ∧ o.data = .fields fs)) (q7 : (∀ i h, St i h → ∀ b ∈ wr, ∃ o fs, h.get? b = some o ∧ o.data = .fields fs)) (q8 : St 0 s₂.heap) (q9 : Inv 0 s₂.heap) (q10 : (∀ i v h tk own, i < n → P i v h → Inv i h → News h₀ env.locals h own → (∀ p ∈ own, p.1 ∉ M) → Mover M h₀ env.locals own h → wpAny (model prog w) A (assign target env v) (fun _ s₃ => wpAny (model prog w) A (execs body env) (fun f s₄ => (f = .next ∨ f = .cont) ∧ ∃ h' tk', s₄ = { s₂ with heap := h', toks := tk' } ∧ News h₀ env.locals h' own ∧ Inv (i + 1) h') E s₃) E { s₂ with heap := h, toks := tk })) (q11 : ∀ h tk, Inv n h → Q .next { s₂ with heap := h, toks := tk })

theorem for_rule {iter : Expr} {pos : Pos} (K : List (Addr × Obj)) (M : List Addr) (h₀ : Heap) (Inv : Nat → Heap → Prop)
    (hFr : ∀ i h, Inv i h → ∃ m, Fr h₀ env.locals h m)
    (stay : ∀ i h h', ItMod h₀ env.locals K h h' → Inv i h → Inv i h')
    (h : wpAny (model prog w) A (eval iter env) (fun xv s₁ => wpAny (model prog w) A (pyIter xv) (fun it s₂ => ForAt prog w A K M h₀ env target body Q E Inv it s₂) E s₁) E s)
    (hs : ∀ x, foldedSetIterable iter env x = pure x := by intro _; rfl)
    (hE : PassesOwn (model prog w) A env E := by passes_own) :
    wpAny (model prog w) A (exec (.For target iter body [] pos) env) Q E s := by
  refine wpAny_For (wpAny_mono h (fun xv s₁ h₁ => wpAny_mono h₁ (fun it s₂ h₂ => ?_) fun _ _ e => e) fun _ _ e => e) hs
  obtain ⟨I, fp, wr, n, P, Md, St, rfl, W, hLf, hfM, hwr, hwK, hMf, hSf, hst, h0, step, done⟩ := h₂
  have hLw : env.locals ∉ wr := fun h => hLf (W.sub _ h)
  refine codeAny_forLoop_any
    (fun k s' => FPack n s₂ St Inv k s') ?_ (n + 1)
    ⟨s₂.heap, s₂.toks, 0, rfl, hst, h0, Nat.zero_le _, rfl⟩
  rintro k s' ⟨h', tk, i, rfl, hst', hI, hi, rfl⟩
  by_cases hlt : i < n
  · refine W.item i _ _ _ hlt hst' fun v h₁ tk₁ hMd hk₁ => ?_
    have hI₁ : Inv i h₁ := stay i _ _ ⟨wr, hwr, hLw, hwK, hSf i _ hst', hk₁⟩ hI
    refine W.go i v _ _ _ hMd fun h₂ hP hst₂ hk₂ => ?_
    have hI₂ : Inv i h₂ := stay i _ _ ⟨wr, hwr, hLw, hwK, hMf i v _ hMd, hk₂⟩ hI₁
    obtain ⟨m₂, F₂⟩ := hFr i h₂ hI₂
    refine wpAny_mono (wpAny_passesOwn hE (step i v h₂ tk₁ (newOf h₀ h₂ (env.locals :: M)) hlt hP hI₂ newOf_news (fun p hp q => newOf_off p hp (List.mem_cons_of_mem _ q)) (newOf_mover F₂))) (fun _ s₃ h₃ => wpAny_mono (wpAny_passesOwn hE h₃) (fun f s₄ h₄ => ?_) fun _ _ e => e) fun _ _ e => e
    obtain ⟨hf, h₄', tk₄, rfl, N₄, hI₄⟩ := h₄
    obtain ⟨m₄, F₄⟩ := hFr _ _ hI₄
    have goal : ∃ m, m < n + 1 - i ∧ FPack n s₂ St Inv m { s₂ with heap := h₄', toks := tk₄ } :=
      ⟨n + 1 - (i + 1), by omega, h₄', tk₄, i + 1, rfl, W.frame _ _ _ hst₂ fun b hb o e => newOf_keep F₂ F₄ N₄ b o (fun q => hLf (q ▸ hb)) (hfM b hb) e, hI₄, hlt, rfl⟩
    rcases hf with rfl | rfl <;> exact goal
  · have hin : i = n := by omega
    subst hin
    refine W.done _ _ _ hst' fun h₁ tk₁ hk₁ => wpAny_execs_nil ?_
    exact done h₁ tk₁ (stay i _ _ ⟨wr, hwr, hLw, hwK, hSf i _ hst', hk₁⟩ hI)

def WTurn (Inv : Nat → Heap → Prop) (k : Nat) (s : Shared) (f : Flow) (s₃ : Shared) : Prop := (f = .next ∨ f = .cont) ∧ ∃ h' tk' k', s₃ = { s with heap := h', toks := tk' } ∧ k' < k ∧ Inv k' h'
/-- a while loop by what holds at its head and a measure -/
theorem while_rule {test : Expr} {pos : Pos} (Inv : Nat → Heap → Prop) (k₀ : Nat) (h0 : Inv k₀ s.heap)
    (turn : ∀ k h tk, Inv k h → wpAny (model prog w) A (isTrue test env (eval test env)) (fun b s₂ => if b = true then
      wpAny (model prog w) A (execs body env) (WTurn Inv k s) E s₂ else Q .next s₂) E { s with heap := h, toks := tk })
    (hE : PassesOwn (model prog w) A env E := by passes_own) :
    wpAny (model prog w) A (exec (.While test body [] pos) env) Q E s := by
  refine whl_start 0 ?_
  have all : ∀ k k' : Nat, ∀ h tk, k' ≤ k → Inv k' h → ∀ j, WhlRest prog w A E env test body [] Q j { s with heap := h, toks := tk } := by
    intro k
    induction k with
    | zero =>
      intro k' h tk hk hI j
      have : WhlRest prog w A E env test body [] Q (j + 1) { s with heap := h, toks := tk } := by
        refine whl_turn hE (wpAny_mono (turn k' h tk hI) (fun b s₂ hb => ?_) fun _ _ e => e)
        cases b with
        | false => rw [if_neg Bool.false_ne_true] at hb; exact WhlIf.no rfl (wpAny_execs_nil hb)
        | true =>
          rw [if_pos rfl] at hb
          refine WhlIf.yes rfl (wpAny_mono hb (fun f s₃ hf => ?_) fun _ _ e => e)
          obtain ⟨_, _, _, k'', _, hlt, _⟩ := hf
          omega
      exact this
    | succ k ih =>
      intro k' h tk hk hI j
      have : WhlRest prog w A E env test body [] Q (j + 1) { s with heap := h, toks := tk } := by
        refine whl_turn hE (wpAny_mono (turn k' h tk hI) (fun b s₂ hb => ?_) fun _ _ e => e)
        cases b with
        | false => rw [if_neg Bool.false_ne_true] at hb; exact WhlIf.no rfl (wpAny_execs_nil hb)
        | true =>
          rw [if_pos rfl] at hb
          refine WhlIf.yes rfl (wpAny_mono hb (fun f s₃ hf => ?_) fun _ _ e => e)
          obtain ⟨hff, h', tk', k'', rfl, hlt, hI'⟩ := hf
          rcases hff with rfl | rfl <;> exact ih k'' h' tk' (by omega) hI' j
      exact this
  exact all k₀ k₀ s.heap s.toks (Nat.le_refl _) h0 0
end

section
variable {prog : Program} {w : World} {A : Around} {E : Value → Shared → Prop} {s : Shared} {env : Env} {target : Expr} {Q : Value → Shared → Prop}

theorem All2.get {α β : Type} {R : α → β → Prop} {as : List α} {bs : List β} (x : All2 R as bs) : ∀ {i : Nat} {b : β}, bs[i]? = some b → ∃ a, as[i]? = some a ∧ R a b := by
  induction x with
  | nil => intro i b h; simp at h
  | cons h _ ih =>
    intro i b hb
    cases i with
    | zero => simp at hb; subst hb; exact ⟨_, rfl, h⟩
    | succ i => simp at hb; simpa using ih hb
theorem All2.get' {α β : Type} {R : α → β → Prop} {as : List α} {bs : List β} (x : All2 R as bs) : ∀ {i : Nat} {a : α}, as[i]? = some a → ∃ b, bs[i]? = some b ∧ R a b := by
  induction x with
  | nil => intro i b h; simp at h
  | cons h _ ih =>
    intro i b hb
    cases i with
    | zero => simp at hb; subst hb; exact ⟨_, rfl, h⟩
    | succ i => simp at hb; simpa using ih hb
theorem All2.append {α β : Type} {R : α → β → Prop} {as as' : List α} {bs bs' : List β} (x : All2 R as bs) (y : All2 R as' bs') : All2 R (as ++ as') (bs ++ bs') := by
  induction x with
  | nil => exact y
  | cons h _ ih => exact .cons h ih
theorem All2.snoc {α β : Type} {R : α → β → Prop} {as : List α} {bs : List β} {a : α} {b : β} (x : All2 R as bs) (y : R a b) : All2 R (as ++ [a]) (bs ++ [b]) := x.append (.cons y .nil)
theorem All2.take {α β : Type} {R : α → β → Prop} {as : List α} {bs : List β} (x : All2 R as bs) : ∀ n, All2 R (as.take n) (bs.take n) := by
  induction x with
  | nil => intro n; simpa using All2.nil
  | cons h _ ih => intro n; cases n with
    | zero => exact .nil
    | succ n => exact .cons h (ih n)
theorem All2.drop {α β : Type} {R : α → β → Prop} {as : List α} {bs : List β} (x : All2 R as bs) : ∀ n, All2 R (as.drop n) (bs.drop n) := by
  induction x with
  | nil => intro n; simpa using All2.nil
  | cons h r ih => intro n; cases n with
    | zero => exact .cons h r
    | succ n => exact ih n
theorem All2.rev {α β : Type} {R : α → β → Prop} {as : List α} {bs : List β} (x : All2 R as bs) : All2 R as.reverse bs.reverse := by
  induction x with
  | nil => exact .nil
  | cons h _ ih => simpa using ih.snoc h

/-- stable where tuples stand -/
def TK (h h' : Heap) : Prop := ∀ b o, h.get? b = some o → o.cls = .type "tuple" → (∃ vs n, o.data = .seq vs n) → h'.get? b = some o
theorem TK.ratV {h h' : Heap} (k : TK h h') {v q} (y : RatV h v q) : RatV h' v q := by
  obtain ⟨a, t, u, e, o, ho, hc, n, hd⟩ := y
  exact ⟨a, t, u, e, o, k a o ho hc ⟨_, _, hd⟩, hc, n, hd⟩

/-- an iteration source at the start of a list comprehension over hb -/
inductive CompAt {β : Type} (prog : Program) (w : World) (A : Around) (hb : Heap) (env : Env) (scope : Scope) (cl : List (Str × Addr)) (target elt : Expr) (G : Heap → Value → β → Prop) (bs : List β) (Dn : Heap → Shared → Prop) (it : Value) (s₂ : Shared) : Prop
  | mk (I : Addr) (fp wr : List Addr) (P Md : Nat → Value → Heap → Prop) (St : Nat → Heap → Prop) (q0 : it = .ref I) (q1 : KTurns prog w A target I fp wr bs.length P Md St) (q2 : (∀ i (s : Shared) (Q : Value → Shared → Prop) (E : Value → Shared → Prop), St i s.heap → Q (.ref I) s → wpAny (model prog w) A (pyIter (.ref I)) Q E s)) (q3 : (∀ b ∈ fp, b < s₂.heap.objs.size)) (q4 : (∀ b ∈ wr, hb.get? b = none)) (q5 : (∀ i v h, Md i v h → ∀ b ∈ wr, ∃ o fs, h.get? b = some o ∧ o.data = .fields fs)) (q6 : (∀ i h, St i h → ∀ b ∈ wr, ∃ o fs, h.get? b = some o ∧ o.data = .fields fs)) (q7 : St 0 s₂.heap) (q8 : Ext hb s₂.heap) (q9 : hb.objs.size ≤ s₂.heap.objs.size) (q10 : bs.length ≤ sizeLine) (q11 : (∀ i b v C h tk m own (E' : Value → Shared → Prop), bs[i]? = some b → P i v h → Fr hb C h m → News hb C h own → Mover [] hb C own h → wpAny (model prog w) A (assign target (compEnvC scope cl C env) v) (fun _ s₃ => wpAny (model prog w) A (eval elt (compEnvC scope cl C env)) (fun y s₄ => ∃ h' tk' m', s₄ = { s₂ with heap := h', toks := tk' } ∧ Fr hb C h' m' ∧ News hb C h' own ∧ G h' y b) E' s₃) E' { s₂ with heap := h, toks := tk })) (q12 : Dn hb s₂)

/-- the cells of M hold something -/
def Cels (M : List Addr) (h : Heap) : Prop := ∀ c ∈ M, ∃ v, h.IsCell c v
theorem Cels.nil {h : Heap} : Cels [] h := fun _ hc => nomatch hc
theorem Cels.keep {M : List Addr} {h h' : Heap} (x : Cels M h) (k : ∀ c ∈ M, ∀ o, h.get? c = some o → h'.get? c = some o) : Cels M h' := fun c hc => by
  obtain ⟨v, o, e, d⟩ := x c hc
  exact ⟨v, o, k c hc o e, d⟩
theorem Cels.noTuple {M : List Addr} {h : Heap} (x : Cels M h) {c : Addr} {o : Obj} (e : h.get? c = some o) (hd : ∃ vs n, o.data = .seq vs n) : c ∉ M := fun hc => by
  obtain ⟨v, o', e', d⟩ := x c hc
  obtain ⟨vs, n, hd⟩ := hd
  rw [e] at e'; cases e'
  rw [hd] at d; cases d
theorem fr_noTuple {hb h : Heap} {C : Addr} {m : Str → Option Value} (F : Fr hb C h m) {c : Addr} {o : Obj} (e : h.get? c = some o) (hd : ∃ vs n, o.data = .seq vs n) : c ≠ C := fun q => by
  obtain ⟨oL, es, ep, hL, hLd, _⟩ := F.ns
  rw [q, hL] at e; cases e
  obtain ⟨vs, n, hd⟩ := hd
  rw [hLd] at hd; cases hd
/-- the loop of a list comprehension whose frame is C, its list D, its cells M -/
theorem comp_go {β : Type} {elt iter : Expr} {scope : Scope} {pos : Pos} {cenv : Env} (G : Heap → Value → β → Prop) (hG : ∀ h h' v b, TK h h' → G h v b → G h' v b) (bs : List β) {hb : Heap} {s₂ : Shared} {C D I : Addr} {fp wr M : List Addr}
    {P Md : Nat → Value → Heap → Prop} {St : Nat → Heap → Prop} {R : Result → Shared → Prop} {h₁ : Heap} {tk₁ : Nat} {m₁ : Str → Option Value} (W : KTurns prog w A target I fp wr bs.length P Md St)
    (hwr : ∀ b ∈ wr, hb.get? b = none) (hMf : ∀ i v h, Md i v h → ∀ b ∈ wr, ∃ o fs, h.get? b = some o ∧ o.data = .fields fs) (hSf : ∀ i h, St i h → ∀ b ∈ wr, ∃ o fs, h.get? b = some o ∧ o.data = .fields fs) (hsz : bs.length ≤ sizeLine)
    (hCf : C ∉ fp) (hDf : D ∉ fp) (hMfp : ∀ c ∈ M, c ∉ fp) (hDC : D ≠ C) (hDM : D ∉ M) (hD₀ : hb.get? D = none)
    (hst₁ : St 0 h₁) (F₁ : Fr hb C h₁ m₁) (hacc : h₁.PlainList D #[]) (hcl₁ : Cels M h₁)
    (step : ∀ i b v h tk m (E' : Value → Shared → Prop), bs[i]? = some b → P i v h → Fr hb C h m → Cels M h →
      wpAny (model prog w) A (assign target cenv v) (fun _ s₃ => wpAny (model prog w) A (eval elt cenv)
        (fun y s₄ => ∃ h' tk' m', s₄ = { s₂ with heap := h', toks := tk' } ∧ Fr hb C h' m' ∧ Cels M h' ∧ (∀ b o, b ≠ C → b ∉ M → h.get? b = some o → h'.get? b = some o) ∧ G h' y b) E' s₃) E' { s₂ with heap := h, toks := tk })
    (fin : ∀ h' tk m' ys, Fr hb C h' m' → h'.PlainList D (List.toArray ys) → All2 (G h') ys bs → R (.ok .next) { s₂ with heap := h', toks := tk }) :
    codeAny (model prog w) A (.compLoop (.ListComp elt [⟨target, iter, [], 0⟩] scope pos) 0 (.ref I) (.ref D) cenv) R { s₂ with heap := h₁, toks := tk₁ } := by
  have hCw : C ∉ wr := fun hm => hCf (W.sub _ hm)
  have it : ∀ h h', (∀ b ∈ wr, ∃ o fs, h.get? b = some o ∧ o.data = .fields fs) → (∀ b o, b ∉ wr → h.get? b = some o → h'.get? b = some o) → ItMod hb C [] h h' := fun h h' a b => ⟨wr, hwr, hCw, (fun _ _ _ hp => nomatch hp), a, b⟩
  have tk_it : ∀ h h', ItMod hb C [] h h' → TK h h' := fun h h' x b o e _ hd => x.of e (by obtain ⟨vs, n, hd⟩ := hd; rw [hd]; intro fs q; cases q)
  refine kcp_loop
    (fun k s' => CPack bs.length s₂ St hb C D (Cels M) (fun ys i h' => All2 (G h') ys (bs.take i)) k s') ?_ (bs.length + 1)
    ⟨h₁, _, 0, [], _, rfl, Nat.zero_le _, rfl, hst₁, F₁, hcl₁, hacc, by simpa using All2.nil⟩
  rintro k s' ⟨h', tk, i, ys, m', rfl, hi, rfl, hst', F', hcl', hl', hG'⟩
  have hG' : All2 (G h') ys (bs.take i) := hG'
  by_cases hlt : i < bs.length
  · obtain ⟨b, hbs⟩ : ∃ b, bs[i]? = some b := ⟨_, List.getElem?_eq_getElem hlt⟩
    refine W.item i _ _ _ hlt hst' fun v h₂ tk₂ hMd hk₂ => ?_
    have i₂ := it _ _ (hSf i _ hst') hk₂
    refine W.go i v _ _ _ hMd fun h₃ hP hst₃ hk₃ => ?_
    have i₃ := it _ _ (hMf i v _ hMd) hk₃
    have F₃ := i₃.fr (i₂.fr F')
    have hl₃ := i₃.plain (i₂.plain hl')
    have hcl₃ : Cels M h₃ := (hcl'.keep fun c hc o e => hk₂ c o (fun q => hMfp c hc (W.sub _ q)) e).keep fun c hc o e => hk₃ c o (fun q => hMfp c hc (W.sub _ q)) e
    refine wpAny_mono (step i b v h₃ tk₂ _ _ hbs hP F₃ hcl₃) (fun _ s₄ h₄ => wpAny_mono h₄ (fun y s₅ h₅ => ?_) fun _ _ e => e) fun _ _ e => e
    obtain ⟨h₅', tk₅, m₅, rfl, F₅, hcl₅, k₅, hy⟩ := h₅
    have hl₅ : h₅'.PlainList D (List.toArray ys) := hl₃.at fun o e => k₅ _ o hDC hDM e
    have tk₅ : TK h₃ h₅' := fun c o e hc hd => k₅ c o (fr_noTuple F₃ e hd) (hcl₃.noTuple e hd) e
    have hylen : ys.length = i := by have := hG'.length; rw [List.length_take] at this; omega
    refine wpAny_list_append_plain (hsz := by rw [List.size_toArray, hylen]; omega) hl₅ fun h₆ hl₆ hs₆ => ?_
    have tk₆ : TK h₅' h₆ := fun c o e hc _ => (hs₆.2 c (fun q => by
      obtain ⟨n, ho⟩ := hl₅
      rw [q, ho] at e; cases e
      exact absurd (Value.type.inj hc) (by decide))).trans e
    refine ⟨bs.length + 1 - (i + 1), by omega, h₆, _, i + 1, ys ++ [y], m₅, rfl, hlt, rfl, ?_, ?_, hcl₅.keep fun c hc o e => (hs₆.2 c fun q => hDM (q ▸ hc)).trans e, by simpa using hl₆, ?_⟩
    · exact W.frame _ _ _ hst₃ fun c hc o e => (hs₆.2 c fun q => hDf (q ▸ hc)).trans (k₅ c o (fun q => hCf (q ▸ hc)) (fun q => hMfp c q hc) e)
    · exact ⟨F₅.ns.sameBut hs₆ (Ne.symm hDC), fun c o e => (hs₆.2 c (fun q => by rw [q, hD₀] at e; cases e)).trans (F₅.keep c o e), F₅.above⟩
    · show All2 (G h₆) (ys ++ [y]) (bs.take (i + 1))
      rw [show bs.take (i + 1) = bs.take i ++ [b] by simp [List.take_add_one, hbs]]
      refine All2.snoc (hG'.imp fun u c x => ?_) (hG _ _ _ _ tk₆ hy)
      exact hG _ _ _ _ tk₆ (hG _ _ _ _ tk₅ (hG _ _ _ _ (tk_it _ _ i₃) (hG _ _ _ _ (tk_it _ _ i₂) x)))
  · have hin : i = bs.length := by omega
    subst hin
    rw [List.take_length] at hG'
    refine W.done _ _ _ hst' fun h₂ tk₂ hk₂ => ?_
    have i₂ := it _ _ (hSf _ _ hst') hk₂
    exact fin h₂ _ m' ys (i₂.fr F') (i₂.plain hl') (hG'.imp fun u c x => hG _ _ _ _ (tk_it _ _ i₂) x)
theorem comp_core {β : Type} {elt iter : Expr} {scope : Scope} {cl : List (Str × Addr)} {pos : Pos} (G : Heap → Value → β → Prop) (hG : ∀ h h' v b, TK h h' → G h v b → G h' v b) (bs : List β)
    (hcell : ∀ y ∈ scope.names, y.2 ≠ .cell) (hkind : scope.kind = .function) {Dn : Heap → Shared → Prop} {hb : Heap} {it : Value} {s₂ : Shared} {RR : Value → Addr → Result → Shared → Prop}
    (h : CompAt prog w A hb env scope cl target elt G bs Dn it s₂)
    (hRR : Dn hb s₂ → ∀ D C h' tk m' ys, Fr hb C h' m' → h'.PlainList D (List.toArray ys) → All2 (G h') ys bs → hb.get? D = none → hb.get? C = none → D ≠ C → RR (.ref D) C (.ok .next) { s₂ with heap := h', toks := tk }) :
    wpAny (model prog w) A (newList []) (fun acc s₃ => wpAny (model prog w) A (newFunctionEnv scope env.globals cl [] env.qual none .none (some env)) (fun cenv s₄ =>
      codeAny (model prog w) A (.compStart (.ListComp elt [⟨target, iter, [], 0⟩] scope pos) 0 it acc { cenv with scope := relabel scope env }) (RR acc cenv.locals) s₄) E s₃) E s₂ := by
  obtain ⟨I, fp, wr, P, Md, St, rfl, W, self, hfp, hwr, hMf, hSf, hst, hext, hgrow, hsz, step, done⟩ := h
  refine wpAny_newObj_type (wpAny_newFunctionEnv hcell (by intro y hy; simp at hy) (fun h₁ hns₁ hsb₁ => ?_) hkind)
  dsimp only at hns₁ hsb₁ ⊢
  generalize hH2 : s₂.heap.push { cls := .type "list", dict := none, data := .seq ([] : List Value).toArray } = H2 at hns₁ hsb₁ ⊢
  have hC : H2.objs.size = s₂.heap.objs.size + 1 := by rw [← hH2, Heap.size_push]
  have hDC : s₂.heap.objs.size ≠ H2.objs.size := by rw [hC]; exact Nat.ne_of_lt (Nat.lt_succ_self _)
  have below : ∀ b, b < s₂.heap.objs.size → b ≠ H2.objs.size ∧ b ≠ s₂.heap.objs.size := fun b hb => ⟨by rw [hC]; exact Nat.ne_of_lt (Nat.lt_succ_of_lt hb), Nat.ne_of_lt hb⟩
  have old : ∀ b o, s₂.heap.get? b = some o → h₁.get? b = some o := fun b o e => hsb₁.extBut b o (below b (Heap.lt_size e)).1 (Heap.get?_push_of_some _ (hH2 ▸ Heap.get?_push_of_some _ e))
  have hacc : h₁.PlainList s₂.heap.objs.size #[] := ⟨_, hsb₁.extBut _ _ hDC (Heap.get?_push_of_some _ (hH2 ▸ Heap.get?_push_size _ rfl))⟩
  have fresh : ∀ a, s₂.heap.objs.size ≤ a → hb.get? a = none := fun a ha => by
    cases e : hb.get? a with
    | none => rfl
    | some o' => exact absurd (Heap.lt_size (hext a o' e)) (Nat.not_lt.mpr ha)
  have hD₀ := fresh _ (Nat.le_refl _)
  have hC₀ := fresh H2.objs.size (by rw [hC]; exact Nat.le_succ _)
  have hCf : H2.objs.size ∉ fp := fun hm => (below _ (hfp _ hm)).1 rfl
  have hDf : s₂.heap.objs.size ∉ fp := fun hm => (below _ (hfp _ hm)).2 rfl
  have hst₁ : St 0 h₁ := W.frame _ _ _ hst fun b _ o e => old b o e
  have hsC : hb.objs.size ≤ H2.objs.size := by rw [hC]; exact Nat.le_succ_of_le hgrow
  have F₁ : Fr hb H2.objs.size h₁ (fun _ => none) := ⟨by simpa using hns₁, fun b o e => old b o (hext b o e), hsC⟩
  have loop := comp_go (elt := elt) (iter := iter) (scope := scope) (pos := pos) (cenv := compEnvC scope cl H2.objs.size env) (M := []) (tk₁ := s₂.toks + ([] : List (Str × Value)).length) (R := RR (.ref s₂.heap.objs.size) H2.objs.size) G hG bs W hwr hMf hSf hsz hCf hDf (fun _ hc => nomatch hc) hDC (fun hc => nomatch hc) hD₀ hst₁ F₁ hacc Cels.nil
    (fun i b v h tk m E' hbs hP F _ => wpAny_mono (step i b v H2.objs.size h tk _ (newOf hb h [H2.objs.size]) _ hbs hP F newOf_news (newOf_mover F)) (fun _ s₄ h₄ => wpAny_mono h₄ (fun y s₅ h₅ => by
      obtain ⟨h₅', tk₅, m₅, rfl, F₅, N₅, hy⟩ := h₅
      exact ⟨h₅', tk₅, m₅, rfl, F₅, Cels.nil, fun c o hc _ e => newOf_keep F F₅ N₅ c o hc (fun q => nomatch q) e, hy⟩) fun _ _ e => e) fun _ _ e => e)
    (fun h' tk m' ys F' hl' hG' => hRR done _ _ h' _ m' ys F' hl' hG' hD₀ hC₀ hDC)
  exact codeAny_compStart_list loop (self 0 _ _ _ hst₁ loop)

theorem TK.but_dict {h h' : Heap} {C : Addr} {m : Str → Option Value} (hn : h.Ns C m) (hs : Heap.SameBut C h h') : TK h h' := fun c o e _ hd => (hs.2 c (fun q => by
  obtain ⟨oL, es, ep, hL, hLd, _⟩ := hn
  rw [q, hL] at e; cases e
  obtain ⟨vs, n, hd⟩ := hd
  rw [hLd] at hd; cases hd)).trans e

abbrev CompDone {β : Type} (G : Heap → Value → β → Prop) (bs : List β) (Q : Value → Shared → Prop) (hb : Heap) (s₂ : Shared) : Prop :=
  ∀ D h' tk ys, h'.PlainList D (List.toArray ys) → All2 (G h') ys bs → Ext hb h' → hb.get? D = none → Q (.ref D) { s₂ with heap := h', toks := tk }

theorem comp_rule {β : Type} {elt iter : Expr} {scope : Scope} {cl : List (Str × Addr)} {pos : Pos} (G : Heap → Value → β → Prop) (hG : ∀ h h' v b, TK h h' → G h v b → G h' v b) (bs : List β)
    (hclos : closureFor scope env = pure cl) (hcell : ∀ y ∈ scope.names, y.2 ≠ .cell) (hkind : scope.kind = .function)
    (hnames : ∀ y ∈ scope.names, y.2 = .local → scope.names.lookup y.1 = some .local)
    (h : wpAny (model prog w) A (eval iter env) (fun xv s₁ => wpAny (model prog w) A (pyIter xv) (fun it s₂ => ∃ hb, CompAt prog w A hb env scope cl target elt G bs (CompDone G bs Q) it s₂) E s₁) E s)
    (hs : ∀ x, foldedSetIterable iter env x = pure x) :
    wpAny (model prog w) A (eval (.ListComp elt [⟨target, iter, [], 0⟩] scope pos) env) Q E s := by
  rw [eval_ListComp]
  refine wpAny_comprehension_free (use := none) rfl hs hclos hkind hnames (wpAny_mono h (fun xv s₁ h₁ => wpAny_mono h₁ (fun it s₂ h₂ => ?_) fun _ _ e => e) fun _ _ e => e)
  obtain ⟨hb, hC⟩ := h₂
  refine comp_core (RR := fun acc C => compPost (model prog w) A E none Q acc C) G hG bs hcell hkind hC fun done D C h' tk m' ys F' hl' hG' hD hC₀ hDC => ?_
  exact ⟨m', F'.ns, fun h₃ hs₃ => done D h₃ _ ys (hl'.extBut hs₃.extBut hDC) (hG'.imp fun u c x => hG _ _ _ _ (TK.but_dict F'.ns hs₃) x)
    (fun c o e => hs₃.extBut c o (fun q => by rw [q, hC₀] at e; cases e) (F'.keep c o e)) hD⟩

abbrev CompDoneA {β : Type} (G : Heap → Value → β → Prop) (bs : List β) (L : Addr) (m : Str → Option Value) (y : Str) (Q : Flow → Shared → Prop) (hb : Heap) (s₂ : Shared) : Prop :=
  hb.Ns L m ∧ ∀ D h' tk ys, h'.PlainList D (List.toArray ys) → All2 (G h') ys bs → h'.Ns L (fun z => if z = y then some (.ref D) else m z) → (∀ b o, b ≠ L → hb.get? b = some o → h'.get? b = some o) → hb.get? D = none → Q .next { s₂ with heap := h', toks := tk }

theorem comp_assign {β : Type} {elt iter : Expr} {scope : Scope} {cl : List (Str × Addr)} {pos py spos : Pos} {y : Str} {Q : Flow → Shared → Prop} {m : Str → Option Value} (G : Heap → Value → β → Prop) (hG : ∀ h h' v b, TK h h' → G h v b → G h' v b) (bs : List β)
    (hsw : swapsWith (.ListComp elt [⟨target, iter, [], 0⟩] scope pos) (some (.Name y py)) spos.line env = pure true)
    (hclos : closureFor scope env = pure cl) (hcell : ∀ y ∈ scope.names, y.2 ≠ .cell) (hkind : scope.kind = .function)
    (hnames : ∀ y ∈ scope.names, y.2 = .local → scope.names.lookup y.1 = some .local)
    (hy : env.kindOf y = some .local) (hp : (env.scope.kind == .class || (env.scope.kind == .module && env.locals != env.globals)) = false)
    (h : wpAny (model prog w) A (eval iter env) (fun xv s₁ => wpAny (model prog w) A (pyIter xv) (fun it s₂ => ∃ hb, CompAt prog w A hb env scope cl target elt G bs (CompDoneA G bs env.locals m y Q) it s₂) E s₁) E s)
    (hs : ∀ x, foldedSetIterable iter env x = pure x) :
    wpAny (model prog w) A (exec (.Assign [.Name y py] (.ListComp elt [⟨target, iter, [], 0⟩] scope pos) spos) env) Q E s := by
  rw [exec_Assign_Name_used _ _ _ _ hsw]
  refine wpAny_bind (wpAny_standAt (wpAny_bind ?_))
  show wpAny _ A (do let _ ← comprehension (.ListComp elt [⟨target, iter, [], 0⟩] scope pos) scope env _ (newList []) false (eval iter env) (some (assign (.Name y py) env))) _ _ s
  refine wpAny_bind (wpAny_mono (wpAny_comprehension_free (use := some (assign (.Name y py) env)) (Q := fun _ s' => Q .next s') rfl hs hclos hkind hnames
    (wpAny_mono h (fun xv s₁ h₁ => wpAny_mono h₁ (fun it s₂ h₂ => ?_) fun _ _ e => e) fun _ _ e => e)) (fun _ s' hq => wpAny_pure (wpAny_pure hq)) fun _ _ e => e)
  obtain ⟨hb, hC⟩ := h₂
  refine comp_core (RR := fun acc C => compPost (model prog w) A E (some (assign (.Name y py) env)) (fun _ s' => Q .next s') acc C) G hG bs hcell hkind hC fun done D C h' tk m' ys F' hl' hG' hD hC₀ hDC => ?_
  obtain ⟨hn, done⟩ := done
  have hLb : ∀ b, hb.get? b = none → env.locals ≠ b := fun b hb' q => by obtain ⟨o, _, _, ho, _⟩ := hn; rw [q, hb'] at ho; cases ho
  have hLC := hLb C hC₀
  have hLD := hLb D hD
  have hn' : h'.Ns env.locals m := hn.at' fun o e => F'.keep _ o e
  show wpAny _ A (assign (.Name y py) env (.ref D)) _ _ _
  refine wpAny_assign_Name (wpAny_storeName_local hy hn' (fun h₂ hn₂ hs₂ => ?_) hp)
  have hnC₂ := F'.ns.sameBut hs₂ (Ne.symm hLC)
  refine ⟨m', hnC₂, fun h₃ hs₃ => ?_⟩
  exact done D h₃ _ ys ((hl'.extBut hs₂.extBut (Ne.symm hLD)).extBut hs₃.extBut hDC)
    (hG'.imp fun u c x => hG _ _ _ _ (TK.but_dict hnC₂ hs₃) (hG _ _ _ _ (TK.but_dict hn' hs₂) x)) (hn₂.sameBut hs₃ hLC)
    (fun c o hcL e => hs₃.extBut c o (fun q => by rw [q, hC₀] at e; cases e) (hs₂.extBut c o hcL (F'.keep c o e))) hD
end

end Mine
end

section
-- part Src
open PySem PySem.W PyProof.Rows PySem.Calls
set_option maxRecDepth 100000
namespace Mine

section
variable {prog : Program} {w : World} {A : Around} {E : Value → Shared → Prop} {s : Shared} {env : Env} {h₀ : Heap} {body : List Stmt} {Q : Flow → Shared → Prop} {K : List (Addr × Obj)} {M : List Addr} {m : Str → Option Value}

abbrev InvOf (h₀ : Heap) (L : Addr) (J : Nat → (Str → Option Value) → Heap → Prop) (i : Nat) (h : Heap) : Prop := ∃ m, Fr h₀ L h m ∧ J i m h
/-- what a turn hands back -/
def TurnEnd (s : Shared) (h₀ : Heap) (L : Addr) (own : List (Addr × Obj)) (Jn : (Str → Option Value) → Heap → Prop) (f : Flow) (s₄ : Shared) : Prop :=
  (f = .next ∨ f = .cont) ∧ ∃ h' tk' m', s₄ = { s with heap := h', toks := tk' } ∧ Fr h₀ L h' m' ∧ News h₀ L h' own ∧ Jn m' h'

theorem invOf_fr (J : Nat → (Str → Option Value) → Heap → Prop) : ∀ i h, InvOf h₀ env.locals J i h → ∃ m, Fr h₀ env.locals h m := fun _ _ ⟨m, F, _⟩ => ⟨m, F⟩
theorem invOf_stay (J : Nat → (Str → Option Value) → Heap → Prop) (stay : ∀ i m h h', ItMod h₀ env.locals K h h' → Fr h₀ env.locals h m → J i m h → J i m h') : ∀ i h h', ItMod h₀ env.locals K h h' → InvOf h₀ env.locals J i h → InvOf h₀ env.locals J i h' :=
  fun i h h' x ⟨m, F, hj⟩ => ⟨m, x.fr F, stay i m h h' x F hj⟩

theorem fields_of {o : Obj} {h : Heap} {b : Addr} {fs : Array Value} (e : h.get? b = some o) (hd : o.data = .fields fs) : ∃ o fs, h.get? b = some o ∧ o.data = .fields fs := ⟨o, fs, e, hd⟩

theorem letGo_name {I : Addr} {x : Str} {px : Pos} {v : Value} {Q : Unit → Shared → Prop} (h : Q () s) : wpAny (model prog w) A (letOwnedTupleGo (.Name x px) (.ref I) v) Q E s := by
  have e : letOwnedTupleGo (.Name x px) (.ref I) v = pure () := rfl
  rw [e]
  exact wpAny_pure h

theorem assign_name {x : Str} {px : Pos} {v : Value} {own : List (Addr × Obj)} {Q : Unit → Shared → Prop} (hx : env.kindOf x = some .local) (hp : (env.scope.kind == .class || (env.scope.kind == .module && env.locals != env.globals)) = false)
    (F : Fr h₀ env.locals s.heap m) (N : News h₀ env.locals s.heap own)
    (h : ∀ h' tk, Fr h₀ env.locals h' (fun z => if z = x then some v else m z) → News h₀ env.locals h' own → (∀ b o, b ≠ env.locals → s.heap.get? b = some o → h'.get? b = some o) → Q () { s with heap := h', toks := tk }) : wpAny (model prog w) A (assign (.Name x px) env v) Q E s :=
  wpAny_assign_Name (wpAny_storeName_local hx F.ns (fun h' hn hs => h h' _ (F.set hn hs) (N.set hs) hs.extBut) hp)

theorem assign_pair {a b : Str} {pa pb tp : Pos} {kk : Nat} {T : Addr} {x y : Value} {own : List (Addr × Obj)} {Q : Unit → Shared → Prop} (hh : A.handled = none) (ht : s.heap.IsTuple T #[x, y])
    (ha : env.kindOf a = some .local) (hb : env.kindOf b = some .local) (hp : (env.scope.kind == .class || (env.scope.kind == .module && env.locals != env.globals)) = false)
    (F : Fr h₀ env.locals s.heap m) (N : News h₀ env.locals s.heap own)
    (h : ∀ h' tk, Fr h₀ env.locals h' (fun z => if z = b then some y else if z = a then some x else m z) → News h₀ env.locals h' own → (∀ b o, b ≠ env.locals → s.heap.get? b = some o → h'.get? b = some o) → Q () { s with heap := h', toks := tk }) :
    wpAny (model prog w) A (assign (.Tuple [.Name a pa, .Name b pb] kk tp) env (.ref T)) Q E s := by
  refine kcp_assign hh ht ha hb hp F.ns fun h' tk hn hk => h h' tk ⟨hn, fun c o e => hk c o (Nat.ne_of_lt (Nat.lt_of_lt_of_le (Heap.lt_size e) F.above)) (F.keep c o e), F.above⟩ (fun p hp => ⟨hk _ _ (N p hp).2.1 (N p hp).1, (N p hp).2⟩) hk

theorem all_fields1 {I : Addr} {h : Heap} {o : Obj} {fs : Array Value} (e : h.get? I = some o) (hd : o.data = .fields fs) : ∀ b ∈ [I], ∃ o fs, h.get? b = some o ∧ o.data = .fields fs := fun b hb => by
  rw [List.mem_singleton.mp hb]; exact ⟨o, fs, e, hd⟩

/-- a for over a list -/
theorem all_cons {α : Type} {P : α → Prop} {a : α} {l : List α} (h : P a) (t : ∀ b ∈ l, P b) : ∀ b ∈ a :: l, P b := fun b hb => by
  rcases List.mem_cons.mp hb with rfl | hb
  · exact h
  · exact t b hb
theorem all_nil {α : Type} {P : α → Prop} : ∀ b ∈ ([] : List α), P b := fun _ hb => nomatch hb
theorem for_rev {x : Str} {px : Pos} {l : Addr} {vs : List Value} (J : Nat → (Str → Option Value) → Heap → Prop)
    (hh : A.handled = none) (hl : s.heap.PlainList l vs.toArray) (F : Fr h₀ env.locals s.heap m) (NK : News h₀ env.locals s.heap K) (lM : l ∉ M) (hM : ∀ b ∈ M, b < s.heap.objs.size)
    (hx : env.kindOf x = some .local) (hp : (env.scope.kind == .class || (env.scope.kind == .module && env.locals != env.globals)) = false)
    (h0 : ∀ h', Ext s.heap h' → J 0 m h')
    (step : ∀ i v m hI h tk own, vs.reverse[i]? = some v → J i m hI → Fr h₀ env.locals hI m → Fr h₀ env.locals h (fun z => if z = x then some v else m z) → News h₀ env.locals h own → (∀ p ∈ own, p.1 ∉ M) → Mover M h₀ env.locals own hI → (∀ b o, b ≠ env.locals → hI.get? b = some o → h.get? b = some o) →
      wpAny (model prog w) A (execs body env) (TurnEnd s h₀ env.locals own (J (i + 1))) E { s with heap := h, toks := tk })
    (done : ∀ m h tk own, J vs.length m h → Fr h₀ env.locals h m → News h₀ env.locals h own → Mover [] h₀ env.locals own h → Q .next { s with heap := h, toks := tk }) :
    wpAny (model prog w) A (call (.type "reversed") [.ref l]) (fun xv s₁ => wpAny (model prog w) A (pyIter xv) (fun it s₂ => ForAt prog w A K M h₀ env (.Name x px) body Q E (InvOf h₀ env.locals J) it s₂) E s₁) E s := by
  obtain ⟨nn, ho⟩ := id hl
  have hlt : l < s.heap.objs.size := Heap.lt_size ho
  have hne : l ≠ s.heap.objs.size := Nat.ne_of_lt hlt
  have hlen : vs.toArray.size = vs.length := by simp
  refine call_reversed_list hl.isList ?_
  have hR : Heap.IsRevIter (s.heap.push (revObj l ((vs.toArray.size : Int) - 1))) s.heap.objs.size l ((vs.toArray.size : Int) - 1) := ⟨_, Heap.get?_push_size _ rfl, rfl, rfl⟩
  refine wpAny_pyIter_revIter hR ⟨s.heap.objs.size, [s.heap.objs.size, l], [s.heap.objs.size], vs.length, _, _, _, rfl,
    KTurns.ofWalks (hlen ▸ Walks.listRev hh s.heap.objs.size l hne vs.toArray) (fun i v s Q E _ q => letGo_name q), ?_, ?_, ?_, ?_, ?_, ?_, ?_, ?_, ?_, ?_⟩
  · intro hm
    rcases List.mem_cons.mp hm with e | hm
    · exact absurd F.ns.lt (e ▸ Nat.lt_irrefl _)
    · have e := List.mem_singleton.mp hm
      obtain ⟨oL, es, ep, hL, hLd, _⟩ := F.ns
      rw [e, ho] at hL; cases hL; cases hLd
  · intro b hb hbM
    rcases List.mem_cons.mp hb with rfl | hb
    · exact Nat.lt_irrefl _ (hM _ hbM)
    · rw [List.mem_singleton.mp hb] at hbM; exact lM hbM
  · intro b hb
    rw [List.mem_singleton.mp hb]
    exact next_is_new F
  · intro b hb q hq e
    rw [List.mem_singleton.mp hb] at e
    exact Nat.lt_irrefl _ (e ▸ Heap.lt_size (NK q hq).1)
  · rintro i v h ⟨_, _, ⟨o, ho, _, hd⟩, _⟩
    exact all_fields1 ho hd
  · rintro i h ⟨_, ⟨o, ho, _, hd⟩, _⟩
    exact all_fields1 ho hd
  · refine ⟨Nat.zero_le _, ?_, hl.isList.push _⟩
    simpa using hR
  · exact ⟨m, F.push _, h0 _ fun b o e => Heap.get?_push_of_some _ e⟩
  · rintro i v h tk own hi hP ⟨m₁, F₁, hJ⟩ N hoff mv
    refine assign_name hx hp F₁ N fun h' tk' F' N' kp => wpAny_mono (step i v m₁ h h' tk' own ?_ hJ F₁ F' N' hoff mv kp) (fun f s₄ ⟨hf, h', tk', m', e, F', N', hj⟩ => ⟨hf, h', tk', e, N', m', F', hj⟩) fun _ _ e => e
    rw [List.getElem?_reverse hi]
    simpa using hP
  · rintro h tk ⟨m₁, F₁, hJ⟩
    exact done m₁ h tk _ hJ F₁ newOf_news (newOf_mover F₁)

/-- a for over enumerate(list), two names -/
theorem for_enum {xa xb : Str} {pa pb tp : Pos} {kk : Nat} {l : Addr} {vs : List Value} (J : Nat → (Str → Option Value) → Heap → Prop)
    (hh : A.handled = none) (hl : s.heap.PlainList l vs.toArray) (F : Fr h₀ env.locals s.heap m) (NK : News h₀ env.locals s.heap K) (lM : l ∉ M) (hM : ∀ b ∈ M, b < s.heap.objs.size)
    (ha : env.kindOf xa = some .local) (hb : env.kindOf xb = some .local) (hp : (env.scope.kind == .class || (env.scope.kind == .module && env.locals != env.globals)) = false)
    (h0 : ∀ h', Ext s.heap h' → J 0 m h')
    (step : ∀ i v t m hI h tk own, vs[i]? = some v → J i m hI → Fr h₀ env.locals hI m → Fr h₀ env.locals h (fun z => if z = xb then some v else if z = xa then some (.int (i : Int) t) else m z) → News h₀ env.locals h own → (∀ p ∈ own, p.1 ∉ M) → Mover M h₀ env.locals own hI → (∀ b o, b ≠ env.locals → hI.get? b = some o → h.get? b = some o) →
      wpAny (model prog w) A (execs body env) (TurnEnd s h₀ env.locals own (J (i + 1))) E { s with heap := h, toks := tk })
    (done : ∀ m h tk own, J vs.length m h → Fr h₀ env.locals h m → News h₀ env.locals h own → Mover [] h₀ env.locals own h → Q .next { s with heap := h, toks := tk }) :
    wpAny (model prog w) A (call (.type "enumerate") [.ref l]) (fun xv s₁ => wpAny (model prog w) A (pyIter xv) (fun it s₂ => ForAt prog w A K M h₀ env (.Tuple [.Name xa pa, .Name xb pb] kk tp) body Q E (InvOf h₀ env.locals J) it s₂) E s₁) E s := by
  obtain ⟨nn, ho⟩ := id hl
  have hlt : l < s.heap.objs.size := Heap.lt_size ho
  have hlen : vs.toArray.size = vs.length := by simp
  refine call_enumerate_list hl.isList fun h₁ he hit hsz hk => ?_
  have hli : l ≠ s.heap.objs.size := Nat.ne_of_lt hlt
  have hle : l ≠ s.heap.objs.size + 1 := Nat.ne_of_lt (Nat.lt_succ_of_lt hlt)
  have hei : s.heap.objs.size + 1 ≠ s.heap.objs.size := Nat.ne_of_gt (Nat.lt_succ_self _)
  have W := KTurns.ofWalksU (prog := prog) (w := w) (A := A) (elts := [.Name xa pa, .Name xb pb]) (k := kk) (pos := tp) (WalksT.enumerate (prog := prog) (w := w) hh (s.heap.objs.size + 1) s.heap.objs.size l hei hle hli vs.toArray).toU
  rw [hlen] at W
  have new1 : ∀ b, s.heap.objs.size ≤ b → h₀.get? b = none := fun b hb => ktu_new F hb
  refine wpAny_pyIter_enum (by exact he) ⟨s.heap.objs.size + 1, [s.heap.objs.size + 1, s.heap.objs.size, l], [s.heap.objs.size + 1, s.heap.objs.size], vs.length, _, _, _, rfl, W, ?_, ?_, ?_, ?_, ?_, ?_, ?_, ?_, ?_, ?_⟩
  · refine fun hm => all_cons (P := fun b => env.locals ≠ b) (fun e => ?_) (all_cons (fun e => ?_) (all_cons (fun e => ?_) all_nil)) _ hm rfl
    · exact absurd F.ns.lt (by rw [e]; exact Nat.not_lt.mpr (Nat.le_succ _))
    · exact absurd F.ns.lt (by rw [e]; exact Nat.lt_irrefl _)
    · obtain ⟨oL, es, ep, hL, hLd, _⟩ := F.ns
      rw [e, ho] at hL; cases hL; cases hLd
  · exact all_cons (fun h => absurd (hM _ h) (Nat.not_lt.mpr (Nat.le_succ _))) (all_cons (fun h => Nat.lt_irrefl _ (hM _ h)) (all_cons lM all_nil))
  · exact all_cons (new1 _ (Nat.le_succ _)) (all_cons (new1 _ (Nat.le_refl _)) all_nil)
  · exact all_cons (fun q hq e => Nat.not_lt.mpr (Nat.le_succ _) (e ▸ Heap.lt_size (NK q hq).1)) (all_cons (fun q hq e => Nat.lt_irrefl _ (e ▸ Heap.lt_size (NK q hq).1)) all_nil)
  · rintro i v h ⟨T, vals, _, _, _, ⟨x, hx⟩, ⟨o, ho, _, hd⟩, _⟩
    exact all_cons ⟨_, _, hx, rfl⟩ (all_cons ⟨_, _, ho, hd⟩ all_nil)
  · rintro i h ⟨⟨old, hx⟩, ⟨o, ho, _, hd⟩, _⟩
    exact all_cons ⟨_, _, hx, rfl⟩ (all_cons ⟨_, _, ho, hd⟩ all_nil)
  · exact ⟨⟨_, he⟩, hit, hl.isList.at fun o e => hk _ o e⟩
  · exact ⟨m, F.keeps hk, h0 _ hk⟩
  · rintro i v h tk own hi ⟨T, vals, rfl, ⟨t, x, hx, rfl⟩, hT⟩ ⟨m₁, F₁, hJ⟩ N hoff mv
    exact assign_pair hh hT ha hb hp F₁ N fun h' tk' F' N' kp => wpAny_mono (step i x t m₁ h h' tk' own (by simpa using hx) hJ F₁ F' N' hoff mv kp) (fun f s₄ ⟨hf, h', tk', m', e, F', N', hj⟩ => ⟨hf, h', tk', e, N', m', F', hj⟩) fun _ _ e => e
  · rintro h tk ⟨m₁, F₁, hJ⟩
    exact done m₁ h tk _ hJ F₁ newOf_news (newOf_mover F₁)

/-- a for over a range by ones -/
theorem for_range {x : Str} {px : Pos} {r : Addr} {a₀ b₀ : Int} {t₀ u₀ v₀ : Tok} {n : Nat} (J : Nat → (Str → Option Value) → Heap → Prop)
    (hh : A.handled = none) (hr : IsRange s.heap r a₀ b₀ 1 t₀ u₀ v₀) (hsmall : Builtin.Range.small a₀ b₀ 1 = true) (hn : Builtin.Range.rangeSize a₀ b₀ 1 = (n : Int)) (F : Fr h₀ env.locals s.heap m) (NK : News h₀ env.locals s.heap K) (hM : ∀ b ∈ M, b < s.heap.objs.size)
    (hx : env.kindOf x = some .local) (hp : (env.scope.kind == .class || (env.scope.kind == .module && env.locals != env.globals)) = false)
    (h0 : ∀ h', Ext s.heap h' → J 0 m h')
    (step : ∀ i t m hI h tk own, i < n → J i m hI → Fr h₀ env.locals hI m → Fr h₀ env.locals h (fun z => if z = x then some (.int (a₀ + (i : Int)) t) else m z) → News h₀ env.locals h own → (∀ p ∈ own, p.1 ∉ M) → Mover M h₀ env.locals own hI → (∀ b o, b ≠ env.locals → hI.get? b = some o → h.get? b = some o) →
      wpAny (model prog w) A (execs body env) (TurnEnd s h₀ env.locals own (J (i + 1))) E { s with heap := h, toks := tk })
    (done : ∀ m h tk own, J n m h → Fr h₀ env.locals h m → News h₀ env.locals h own → Mover [] h₀ env.locals own h → Q .next { s with heap := h, toks := tk }) :
    wpAny (model prog w) A (pyIter (.ref r)) (fun it s₂ => ForAt prog w A K M h₀ env (.Name x px) body Q E (InvOf h₀ env.locals J) it s₂) E s := by
  have W : Walks prog w A s.heap.objs.size [s.heap.objs.size] [s.heap.objs.size] n (fun i v => i < n ∧ ∃ t, v = .int (a₀ + i * 1) t)
      (fun i h => IsRangeIter h s.heap.objs.size (a₀ + (i : Nat) * 1) ((n : Int) - (i : Nat)) 1) := (Walks.range hh _ a₀ 1 n).bound
  refine wpAny_pyIter_range hr hsmall ⟨s.heap.objs.size, [s.heap.objs.size], [s.heap.objs.size], n, _, _, _, rfl,
    KTurns.ofWalks W (fun i v s Q E _ q => letGo_name q), ?_, ?_, ?_, ?_, ?_, ?_, ?_, ?_, ?_, ?_⟩
  · intro hm
    exact absurd F.ns.lt ((List.mem_singleton.mp hm) ▸ Nat.lt_irrefl _)
  · intro b hb hbM
    rw [List.mem_singleton.mp hb] at hbM
    exact Nat.lt_irrefl _ (hM _ hbM)
  · intro b hb
    rw [List.mem_singleton.mp hb]
    exact next_is_new F
  · intro b hb q hq e
    rw [List.mem_singleton.mp hb] at e
    exact Nat.lt_irrefl _ (e ▸ Heap.lt_size (NK q hq).1)
  · rintro i v h ⟨_, hd⟩
    exact all_fields1 hd rfl
  · intro i h hd
    exact all_fields1 hd rfl
  · show IsRangeIter _ _ _ _ _
    rw [hn]
    simpa using Heap.get?_push_size _ rfl
  · exact ⟨m, F.push _, h0 _ fun b o e => Heap.get?_push_of_some _ e⟩
  · rintro i v h tk own hi ⟨_, t, rfl⟩ ⟨m₁, F₁, hJ⟩ N hoff mv
    rw [Int.mul_one]
    exact assign_name hx hp F₁ N fun h' tk' F' N' kp => wpAny_mono (step i t m₁ h h' tk' own hi hJ F₁ F' N' hoff mv kp) (fun f s₄ ⟨hf, h', tk', m', e, F', N', hj⟩ => ⟨hf, h', tk', e, N', m', F', hj⟩) fun _ _ e => e
  · rintro h tk ⟨m₁, F₁, hJ⟩
    exact done m₁ h tk _ hJ F₁ newOf_news (newOf_mover F₁)
end
end Mine
end

section
-- part Src2
open PySem PySem.W PyProof.Rows PySem.Calls
set_option maxRecDepth 100000
namespace Mine

section
variable {prog : Program} {w : World} {A : Around} {E : Value → Shared → Prop} {s : Shared} {env : Env} {β : Type} {G : Heap → Value → β → Prop} {bs : List β} {Dn : Heap → Shared → Prop} {scope : Scope} {cl : List (Str × Addr)} {elt : Expr}

def EltEnd (s : Shared) (hb : Heap) (C : Addr) (own : List (Addr × Obj)) (G : Heap → Value → β → Prop) (b : β) (y : Value) (s₄ : Shared) : Prop :=
  ∃ h' tk' m', s₄ = { s with heap := h', toks := tk' } ∧ Fr hb C h' m' ∧ News hb C h' own ∧ G h' y b

theorem comp_kind {C : Addr} (hk : scope.kind = .function) : ((compEnvC scope cl C env).scope.kind == .class || ((compEnvC scope cl C env).scope.kind == .module && (compEnvC scope cl C env).locals != (compEnvC scope cl C env).globals)) = false := by
  simp [compEnvC, relabel, hk]

theorem comp_list {x : Str} {px : Pos} {l : Addr} {vs : List Value}
    (hh : A.handled = none) (hl : s.heap.PlainList l vs.toArray) (hlen : vs.length = bs.length) (hsz : bs.length ≤ sizeLine) (hk : scope.kind = .function) (hx : scope.names.lookup x = some .local)
    (step : ∀ (i : Nat) (b : β) (v : Value) (C : Addr) (h : Heap) (tk : Nat) (m : Str → Option Value) (own : List (Addr × Obj)) (E' : Value → Shared → Prop), bs[i]? = some b → vs[i]? = some v → Fr s.heap C h (fun z => if z = x then some v else m z) → News s.heap C h own →
      wpAny (model prog w) A (eval elt (compEnvC scope cl C env)) (EltEnd s s.heap C own G b) E' { s with heap := h, toks := tk })
    (done : ∀ h tk, Dn s.heap { s with heap := h, toks := tk }) :
    wpAny (model prog w) A (pyIter (.ref l)) (fun it s₂ => ∃ hb, CompAt prog w A hb env scope cl (.Name x px) elt G bs Dn it s₂) E s := by
  obtain ⟨nn, ho⟩ := id hl
  have hlt : l < s.heap.objs.size := Heap.lt_size ho
  have hne : l ≠ s.heap.objs.size := Nat.ne_of_lt hlt
  have hlen' : vs.toArray.size = bs.length := by simpa using hlen
  have W := Walks.list (prog := prog) (w := w) hh s.heap.objs.size l hne vs.toArray
  rw [hlen'] at W
  refine wpAny_pyIter_list hl.isList ⟨s.heap, s.heap.objs.size, [s.heap.objs.size, l], [s.heap.objs.size], _, _, _, rfl,
    KTurns.ofWalks W (fun i v s Q E _ q => letGo_name q), W.self, ?_, ?_, ?_, ?_, ?_, ?_, ?_, hsz, ?_, ?_⟩
  · intro b hb
    show b < (s.heap.push _).objs.size
    rw [Heap.size_push]
    rcases List.mem_cons.mp hb with rfl | hb
    · exact Nat.lt_succ_self _
    · rw [List.mem_singleton.mp hb]; exact Nat.lt_succ_of_lt hlt
  · intro b hb
    rw [List.mem_singleton.mp hb]
    exact Heap.get?_none_of_le (Nat.le_refl _)
  · rintro i v h ⟨_, ⟨o, ho, _, hd⟩, _⟩
    exact all_fields1 ho hd
  · rintro i h ⟨⟨o, ho, _, hd⟩, _⟩
    exact all_fields1 ho hd
  · exact ⟨⟨_, Heap.get?_push_size _ rfl, rfl, rfl⟩, hl.isList.push _⟩
  · exact fun b o e => Heap.get?_push_of_some _ e
  · show s.heap.objs.size ≤ (s.heap.push _).objs.size
    rw [Heap.size_push]; exact Nat.le_succ _
  · rintro i b v C h tk m own E' hb hP F N mv
    exact assign_name (env := compEnvC scope cl C env) (lookup_relabel_local hx) (comp_kind hk) F N fun h' tk' F' N' _ => step i b v C h' tk' m own E' hb (by simpa using hP) F' N'
  · exact done _ _

theorem comp_range {x : Str} {px : Pos} {r : Addr} {a₀ b₀ : Int} {t₀ u₀ v₀ : Tok}
    (hh : A.handled = none) (hr : IsRange s.heap r a₀ b₀ 1 t₀ u₀ v₀) (hsmall : Builtin.Range.small a₀ b₀ 1 = true) (hn : Builtin.Range.rangeSize a₀ b₀ 1 = (bs.length : Int)) (hsz : bs.length ≤ sizeLine) (hk : scope.kind = .function) (hx : scope.names.lookup x = some .local)
    (step : ∀ (i : Nat) (b : β) (t : Tok) (C : Addr) (h : Heap) (tk : Nat) (m : Str → Option Value) (own : List (Addr × Obj)) (E' : Value → Shared → Prop), bs[i]? = some b → Fr s.heap C h (fun z => if z = x then some (.int (a₀ + (i : Int)) t) else m z) → News s.heap C h own →
      wpAny (model prog w) A (eval elt (compEnvC scope cl C env)) (EltEnd s s.heap C own G b) E' { s with heap := h, toks := tk })
    (done : ∀ h tk, Dn s.heap { s with heap := h, toks := tk }) :
    wpAny (model prog w) A (pyIter (.ref r)) (fun it s₂ => ∃ hb, CompAt prog w A hb env scope cl (.Name x px) elt G bs Dn it s₂) E s := by
  have W := Walks.range (prog := prog) (w := w) hh s.heap.objs.size a₀ 1 bs.length
  refine wpAny_pyIter_range hr hsmall ⟨s.heap, s.heap.objs.size, [s.heap.objs.size], [s.heap.objs.size], _, _, _, rfl,
    KTurns.ofWalks W (fun i v s Q E _ q => letGo_name q), W.self, ?_, ?_, ?_, ?_, ?_, ?_, ?_, hsz, ?_, ?_⟩
  · intro b hb
    show b < (s.heap.push _).objs.size
    rw [Heap.size_push, List.mem_singleton.mp hb]
    exact Nat.lt_succ_self _
  · intro b hb
    rw [List.mem_singleton.mp hb]
    exact Heap.get?_none_of_le (Nat.le_refl _)
  · rintro i v h ⟨_, hd⟩
    exact all_fields1 hd rfl
  · intro i h hd
    exact all_fields1 hd rfl
  · show IsRangeIter _ _ _ _ _
    rw [hn]
    simpa using Heap.get?_push_size _ rfl
  · exact fun b o e => Heap.get?_push_of_some _ e
  · show s.heap.objs.size ≤ (s.heap.push _).objs.size
    rw [Heap.size_push]; exact Nat.le_succ _
  · rintro i b v C h tk m own E' hb ⟨t, rfl⟩ F N mv
    rw [Int.mul_one]
    exact assign_name (env := compEnvC scope cl C env) (lookup_relabel_local hx) (comp_kind hk) F N fun h' tk' F' N' _ => step i b t C h' tk' m own E' hb F' N'
  · exact done _ _

theorem comp_enum {xa xb : Str} {pa pb tp : Pos} {kk : Nat} {l : Addr} {vs : List Value}
    (hh : A.handled = none) (hl : s.heap.PlainList l vs.toArray) (hlen : vs.length = bs.length) (hsz : bs.length ≤ sizeLine) (hk : scope.kind = .function) (ha : scope.names.lookup xa = some .local) (hxb : scope.names.lookup xb = some .local)
    (step : ∀ (i : Nat) (b : β) (v : Value) (t : Tok) (C : Addr) (h : Heap) (tk : Nat) (m : Str → Option Value) (own : List (Addr × Obj)) (E' : Value → Shared → Prop), bs[i]? = some b → vs[i]? = some v → Fr s.heap C h (fun z => if z = xb then some v else if z = xa then some (.int (i : Int) t) else m z) → News s.heap C h own →
      wpAny (model prog w) A (eval elt (compEnvC scope cl C env)) (EltEnd s s.heap C own G b) E' { s with heap := h, toks := tk })
    (done : ∀ h tk, Dn s.heap { s with heap := h, toks := tk }) :
    wpAny (model prog w) A (call (.type "enumerate") [.ref l]) (fun xv s₁ => wpAny (model prog w) A (pyIter xv) (fun it s₂ => ∃ hb, CompAt prog w A hb env scope cl (.Tuple [.Name xa pa, .Name xb pb] kk tp) elt G bs Dn it s₂) E s₁) E s := by
  obtain ⟨nn, ho⟩ := id hl
  have hlt : l < s.heap.objs.size := Heap.lt_size ho
  have hlen' : vs.toArray.size = bs.length := by simpa using hlen
  refine call_enumerate_list hl.isList fun h₁ he hit hsz₁ hkp => ?_
  have hli : l ≠ s.heap.objs.size := Nat.ne_of_lt hlt
  have hle : l ≠ s.heap.objs.size + 1 := Nat.ne_of_lt (Nat.lt_succ_of_lt hlt)
  have hei : s.heap.objs.size + 1 ≠ s.heap.objs.size := Nat.ne_of_gt (Nat.lt_succ_self _)
  have WU := (WalksT.enumerate (prog := prog) (w := w) hh (s.heap.objs.size + 1) s.heap.objs.size l hei hle hli vs.toArray).toU
  have W := KTurns.ofWalksU (prog := prog) (w := w) (A := A) (elts := [.Name xa pa, .Name xb pb]) (k := kk) (pos := tp) WU
  rw [hlen'] at W
  refine wpAny_pyIter_enum (by exact he) ⟨s.heap, s.heap.objs.size + 1, [s.heap.objs.size + 1, s.heap.objs.size, l], [s.heap.objs.size + 1, s.heap.objs.size], _, _, _, rfl, W, WU.self, ?_, ?_, ?_, ?_, ?_, ?_, ?_, hsz, ?_, ?_⟩
  · show ∀ b ∈ [s.heap.objs.size + 1, s.heap.objs.size, l], b < h₁.objs.size
    rw [hsz₁]
    exact all_cons (Nat.lt_succ_self _) (all_cons (Nat.lt_succ_of_lt (Nat.lt_succ_self _)) (all_cons (Nat.lt_succ_of_lt (Nat.lt_succ_of_lt hlt)) all_nil))
  · exact all_cons (Heap.get?_none_of_le (Nat.le_succ _)) (all_cons (Heap.get?_none_of_le (Nat.le_refl _)) all_nil)
  · rintro i v h ⟨T, vals, _, _, _, ⟨x, hx⟩, ⟨o, ho, _, hd⟩, _⟩
    exact all_cons ⟨_, _, hx, rfl⟩ (all_cons ⟨_, _, ho, hd⟩ all_nil)
  · rintro i h ⟨⟨old, hx⟩, ⟨o, ho, _, hd⟩, _⟩
    exact all_cons ⟨_, _, hx, rfl⟩ (all_cons ⟨_, _, ho, hd⟩ all_nil)
  · exact ⟨⟨_, he⟩, hit, hl.isList.at fun o e => hkp _ o e⟩
  · exact hkp
  · show s.heap.objs.size ≤ h₁.objs.size
    rw [hsz₁]; exact Nat.le_add_right _ _
  · rintro i b v C h tk m own E' hb ⟨T, vals, rfl, ⟨t, x, hx, rfl⟩, hT⟩ F N mv
    exact assign_pair (env := compEnvC scope cl C env) hh hT (lookup_relabel_local ha) (lookup_relabel_local hxb) (comp_kind hk) F N fun h' tk' F' N' _ => step i b x t C h' tk' m own E' hb (by simpa using hx) F' N'
  · exact done _ _
end

section
variable {prog : Program} {w : World} {A : Around} {E : Value → Shared → Prop} {s : Shared} {K : Frag} {mg mb : Str → Option Value} {p : Program} {loose : List Str} {mean : ExcName → Option Value} {Q : Value → Shared → Prop}

theorem enterC {name qual : Str} {params : Arguments} {body : List Stmt} {scope : Scope} {dV kV doc pm cdv ct oc : Value} {an od : Option Addr} {osl : Array (Option Value)} {f : Addr} {vs : List Value} {binds : List (Str × Value)}
    (X : K.In s.heap) (T : Top p loose mean mg mb s.heap)
    (ho : K.lookup f = some ⟨oc, od, .func (fnOf name qual params body scope dV kV doc pm an cdv ct), osl⟩) (hcd : codeIn K cdv qual = true) (hroom : A.depth < recursionLimit)
    (hbind : BindsTo s (fnOf name qual params body scope dV kV doc pm an cdv ct) ⟨vs, []⟩ binds) (hkind : (binds.all fun y => scope.names.lookup y.1 == some .local || scope.names.lookup y.1 == some .cell) = true)
    (hnd : ((cellsFrom 0 scope.names []).map (·.1)).Nodup)
    (h : ∀ L h₁ tk cells, Fr s.heap L h₁ (bindL (envOfC qual scope L f cdv).kindOf binds fun _ => none) → News s.heap L h₁ cells →
      CellsAre (bindC (envOfC qual scope L f cdv).kindOf binds fun _ => none) (cellsFrom (L + 1) scope.names []) cells →
      wpAny (model prog w) (A.deeper (envOfC qual scope L f cdv)) (execs body (envOfC qual scope L f cdv))
        (fun fl s' => Q (match fl with | .ret v => v | _ => .none) s') (fun _ _ => False) { s with heap := h₁, toks := tk })
    (hco : scope.isCoroutine = false) (hgen : scope.isGenerator = false) (hk : scope.kind = .function) : wpAny (model prog w) A (call (.ref f) vs) Q E s := by
  refine wpAny_call (codeAny_call_function hroom (X _ _ ho) rfl hco hgen rfl (codeRec_of X hcd) (hbind _ _ _ _ ?_))
  refine wpAny_newFunctionEnv_cells hk (kindsX hkind _) fun env' he s' x => ?_
  subst he
  refine ⟨T.nolimit.keeps x.toInCall.keep, codeAny_func ?_⟩
  obtain ⟨h₁, tk, rfl, _⟩ := x.done
  obtain ⟨cells, NC, Y⟩ := Cl.news (h₀ := s.heap) (Nat.le_refl _) fun n c hm => ⟨x.cell n c (lookup_of_mem_nodup (cellsFrom_names scope.names 0 (s.heap.objs.size + 1) [] [] rfl ▸ hnd) hm), x.above n c hm⟩
  exact wpAny_mono (h s.heap.objs.size h₁ tk cells ⟨x.toInCall.ns, x.toInCall.keep, Nat.le_refl _⟩ NC Y) (fun fl s' hl => hl) fun _ _ x => x.elim
end

/-- a call told by its contract, in a frame with its ledger -/
theorem use_sp {w : World} {p : Program} {loose : List Str} {mean : ExcName → Option Value} {mg mb : Str → Option Value} {f : Addr} {d u : Nat} {vs : List Value} {pre : Heap → Prop} {post : Heap → Value → Prop} {A : Around} {s : Shared} {E : Value → Shared → Prop} {Q : Value → Shared → Prop}
    {h₀ : Heap} {L : Addr} {m : Str → Option Value} {news : List (Addr × Obj)} (C : Sp w p loose mean mg mb f d u vs pre post)
    (F : Fr h₀ L s.heap m) (N : News h₀ L s.heap news) (X : (Mine.hd.heap_39 w.params).In h₀) (T : Top p loose mean mg mb h₀) (hh : A.handled = none) (hd : A.depth + d < recursionLimit) (hu : A.units + u < cLine) (hpre : pre s.heap)
    (k : ∀ r h' tk' own, post h' r → Ext s.heap h' → Fr h₀ L h' m → News h₀ L h' (own ++ news) → Mover [] h₀ L own h' → Q r { s with heap := h', toks := tk' }) :
    wpAny (model PySem.Challenge.rw_tk0017_01.prog w) A (call (.ref f) vs) Q E s := by
  obtain ⟨_, dp, fr, gd, un⟩ := A
  dsimp only at hh
  subst hh
  refine wpAny_mono (C dp un fr gd s E hd hu (X.keeps F.keep) (T.keeps F.keep) hpre) (fun r s' hr => ?_) fun _ _ e => e
  obtain ⟨hp, h', tk', rfl, hk⟩ := hr
  have F' := F.keeps hk
  exact k r h' tk' (newOf h₀ h' [L]) hp hk F' ((newOf_news (M := [])).append (N.grown hk)) (newOf_mover F')
end Mine
end

section
-- part Tac
open PySem PySem.W PyProof.Rows PySem.Calls
set_option maxRecDepth 100000
namespace Mine
/-- the walk stands here -/
def Stopped (P : Prop) : Prop := P
theorem stopped {P : Prop} (h : Stopped P) : P := h

def pinned (ps : List (Str × Value)) (m : Str → Option Value) : Str → Option Value := fun z => match ps.lookup z with | some v => some v | none => m z
def Has (m : Str → Option Value) : List (Str × Value) → Prop
  | [] => True
  | p :: r => m p.1 = some p.2 ∧ Has m r
theorem Has.pinned {m : Str → Option Value} : ∀ {ps : List (Str × Value)}, Has m ps → pinned ps m = m
  | [], _ => by funext z; rfl
  | p :: r, ⟨h, hr⟩ => by
    funext z
    have ih := congrFun (Has.pinned hr) z
    unfold Mine.pinned at ih ⊢
    rw [List.lookup_cons]
    cases hz : z == p.1 with
    | true => rw [beq_iff_eq.mp hz]; exact h.symm
    | false => exact ih
theorem Fr.pins {h₀ h : Heap} {L : Addr} {m : Str → Option Value} {ps : List (Str × Value)} (F : Fr h₀ L h m) (x : Has m ps) : Fr h₀ L h (pinned ps m) := by rw [x.pinned]; exact F

theorem keeps_of {h₀ : Heap} {L : Addr} {m : Str → Option Value} {s s' : Shared} {h' : Heap} {tk : Nat} (F : Fr h₀ L h' m) (e : s' = { s with heap := h', toks := tk }) (h0 : h₀ = s.heap) : Keeps s s' := ⟨h', tk, e, h0 ▸ F.keep⟩
end Mine
namespace Mine
theorem back_tuple {s : Shared} {L D : Addr} {h' : Heap} {m : Str → Option Value} {news : List (Addr × Obj)} {n d : Int} {t u : Tok} {tk : Nat} {q : Int × Int} (F : Fr s.heap L h' m)
    (N : News s.heap L h' ((D, { cls := .type "tuple", data := .seq #[.int n t, .int d u] }) :: news)) (e : q = (n, d)) : Back (fun h r => RatV h r q) s (.ref D) { s with heap := h', toks := tk } := by
  subst e
  exact ⟨⟨D, t, u, rfl, _, (N _ (.head _)).1, rfl, _, rfl⟩, h', tk, rfl, F.keep⟩
theorem back_of {s : Shared} {L : Addr} {h' : Heap} {m : Str → Option Value} {tk : Nat} {post : Heap → Value → Prop} {r : Value} (F : Fr s.heap L h' m) (hp : post h' r) : Back post s r { s with heap := h', toks := tk } := ⟨hp, h', tk, rfl, F.keep⟩
end Mine
namespace Mine
section
variable {prog : Program} {w : World} {A : Around} {E : Value → Shared → Prop} {s : Shared} {h₀ h h1 : Heap} {L : Addr} {m : Str → Option Value} {own news : List (Addr × Obj)}
theorem plain_at {a : Addr} {vs : Array Value} (F : Fr h₀ L h m) (y : h₀.PlainList a vs) : h.PlainList a vs := y.at fun o e => F.keep _ o e
theorem plain_mv {a : Addr} {vs : Array Value} (mv : Mover [] h₀ L own h1) (F : Fr h₀ L h m) (N : News h₀ L h news) (hs : ∀ p ∈ own, p ∈ news) (y : h1.PlainList a vs) : h.PlainList a vs :=
  (mv _ _ F fun p hp => N p (hs p hp)).plain (fun q => nomatch q) y
theorem tup_mv {a : Addr} {vs : Array Value} (mv : Mover [] h₀ L own h1) (F : Fr h₀ L h m) (N : News h₀ L h news) (hs : ∀ p ∈ own, p ∈ news) (y : IsTup h1 a vs) : IsTup h a vs := by
  obtain ⟨o, ho, hc, n, hd⟩ := y
  exact ⟨o, mv _ _ F (fun p hp => N p (hs p hp)) a o (fun q => nomatch q) ho (by rw [hd]; intro es n q; cases q), hc, n, hd⟩
theorem rat_mv {v : Value} {q : Int × Int} (mv : Mover [] h₀ L own h1) (F : Fr h₀ L h m) (N : News h₀ L h news) (hs : ∀ p ∈ own, p ∈ news) (y : RatV h1 v q) : RatV h v q := (mv _ _ F fun p hp => N p (hs p hp)).ratV0 y
theorem poly_mv {v : Value} {q : List (Int × Int)} (mv : Mover [] h₀ L own h1) (F : Fr h₀ L h m) (N : News h₀ L h news) (hs : ∀ p ∈ own, p ∈ news) (y : PolyV h1 v q) : PolyV h v q := (mv _ _ F fun p hp => N p (hs p hp)).polyV y
theorem rat_news {D : Addr} {n d : Int} {t u : Tok} {c : Nat} (N : News h₀ L h news) (hm : (D, ({ cls := .type "tuple", data := .seq #[.int n t, .int d u] c } : Obj)) ∈ news) : RatV h (.ref D) (n, d) := ⟨D, t, u, rfl, _, (N _ hm).1, rfl, c, rfl⟩
theorem item_my {value slice : Expr} {l : Addr} {vs : List Value} {k : Int} {u : Tok} {x : Value} {Q : Value → Shared → Prop} (hl : s.heap.PlainList l vs.toArray)
    (h0 : 0 ≤ k) (hfit : k < 2 ^ 63) (hx : vs[k.toNat]? = some x) (h : Q x s)
    (hs : subscripted slice false (.ref l) (.int k u) = operate [.ref l, .int k u] (getItem (.ref l) (.int k u)) := by with_unfolding_all rfl) (hg : ∀ r, letTemporaryGo value (.ref l) r = pure () := by intro _; with_unfolding_all rfl) :
    wpAny (model prog w) A (subscriptTail value slice (.ref l) (.int k u)) Q E s := item_list hl.isList h0 hfit (by simpa using hx) h hs hg
theorem len_my {l : Addr} {vs : List Value} {Q : Value → Shared → Prop} (hl : s.heap.PlainList l vs.toArray) (hfit : vs.length ≤ 1000)
    (h : Q (.int (vs.length : Int) (s.toks + 1)) { s with toks := s.toks + 1 + 1 }) : wpAny (model prog w) A (call (.builtin "len") [.ref l]) Q E s :=
  len_list hl.isList (by simp only [List.size_toArray]; omega) (by simpa using h)
theorem slice_upto {value slice : Expr} {l : Addr} {vs : List Value} {n : Nat} {t : Tok} {Q : Value → Shared → Prop} (F : Fr h₀ L s.heap m) (N : News h₀ L s.heap news) (hl : s.heap.PlainList l vs.toArray) (hn : n ≤ vs.length) (hz : vs.length ≤ 1000)
    (h : ∀ D h', Fr h₀ L h' m → News h₀ L h' ((D, listOf (vs.take n).toArray 0) :: news) → Q (.ref D) { s with heap := h' })
    (hs : subscripted slice false (.ref l) (.ref s.heap.objs.size) = operate [.ref s.heap.objs.size, .ref l] (getItem (.ref l) (.ref s.heap.objs.size))) (ht : ∀ r, letTemporaryGo value (.ref l) r = pure ()) :
    wpAny (model prog w) A (subscriptTail value slice (.ref l) (.ref s.heap.objs.size)) Q E { s with heap := s.heap.push { cls := .type "slice", data := .fields #[.none, .int (n : Int) t, .none] } } := by
  refine kmk_slice (lo := none) (hi := some (n : Int)) F N hl.isList IsPart.none (IsPart.int _ _) (fun D h' F' N' _ => h D h' F' ?_) hs ht (by simp only [List.size_toArray, sizeLine_eq]; omega)
  have e := slicePick_upto vs.toArray n (by simpa using hn)
  rw [e] at N'
  exact N'
theorem slice_from1 {value slice : Expr} {l : Addr} {vs : List Value} {t : Tok} {Q : Value → Shared → Prop} (F : Fr h₀ L s.heap m) (N : News h₀ L s.heap news) (hl : s.heap.PlainList l vs.toArray) (hz : vs.length ≤ 1000)
    (h : ∀ D h', Fr h₀ L h' m → News h₀ L h' ((D, listOf (vs.drop 1).toArray 0) :: news) → Q (.ref D) { s with heap := h' })
    (hs : subscripted slice false (.ref l) (.ref s.heap.objs.size) = operate [.ref s.heap.objs.size, .ref l] (getItem (.ref l) (.ref s.heap.objs.size))) (ht : ∀ r, letTemporaryGo value (.ref l) r = pure ()) :
    wpAny (model prog w) A (subscriptTail value slice (.ref l) (.ref s.heap.objs.size)) Q E { s with heap := s.heap.push { cls := .type "slice", data := .fields #[.int 1 t, .none, .none] } } := by
  refine kmk_slice (lo := some (1 : Int)) (hi := none) F N hl.isList (IsPart.int _ _) IsPart.none (fun D h' F' N' _ => h D h' F' ?_) hs ht (by simp only [List.size_toArray, sizeLine_eq]; omega)
  have e : slicePick vs.toArray (some (1 : Int)) none none = (vs.drop 1).toArray := by
    have e1 : sliceBounds (some (1 : Int)) none none vs.toArray.size = (((min 1 vs.toArray.size : Nat) : Int), ((vs.toArray.size : Nat) : Int), 1) := by
      simp only [sliceBounds, Option.getD_none, show (1 : Int) > 0 by decide, if_true, if_neg (show ¬ ((1 : Int) < 0) by omega)]
      congr 1
      omega
    rw [kmk_pick_nat _ e1]
    show List.toArray ((vs.drop (min 1 vs.toArray.size)).take (vs.toArray.size - min 1 vs.toArray.size)) = _
    rw [List.size_toArray, kmk_drop_min, List.take_of_length_le (by rw [List.length_drop]; omega)]
  rw [e] at N'
  exact N'
theorem list_my {l : Addr} {vs : List Value} {Q : Value → Shared → Prop} (F : Fr h₀ L s.heap m) (N : News h₀ L s.heap news) (hl : s.heap.PlainList l vs.toArray) (hz : vs.length ≤ 1000)
    (h : ∀ D h' c, Fr h₀ L h' m → News h₀ L h' ((D, listOf vs.toArray c) :: news) → Q (.ref D) { s with heap := h' }) : wpAny (model prog w) A (call (.type "list") [.ref l]) Q E s := by
  obtain ⟨n, ho⟩ := hl
  refine call_list_seq l (.inl rfl) ho rfl rfl (fun h' c' hk hD => h _ h' c' (F.keeps hk) fun p hp => ?_) (by simp only [List.size_toArray, sizeLine_eq]; omega)
  rcases List.mem_cons.mp hp with rfl | hp
  · exact ⟨hD, fun e => Nat.lt_irrefl _ (e ▸ F.ns.lt), next_is_new F⟩
  · exact N.grown hk p hp
end
end Mine
namespace Mine
section
variable {M : Model} {A : Around} {E : Value → Shared → Prop} {s : Shared} {env : Env} {h₀ : Heap} {m : Str → Option Value} {x : Str} {pos : Pos} {v : Value} {Q : Value → Shared → Prop}
theorem name_loc (F : Fr h₀ env.locals s.heap m) (hk : env.scope.kind = .function) (hx : env.kindOf x = some .local) (hv : m x = some v) (h : Q v s) (hd : (x == ("__debug__" : Str)) = false) : wpAny M A (eval (.Name x pos) env) Q E s :=
  wpAny_Name (wpAny_loadName_local hk hx F.ns hv h) hd
theorem name_cell {L : Addr} {c : Addr} (F : Fr h₀ L s.heap m) (hk : env.scope.kind = .function) (hx : env.kindOf x = some .cell) (hc : env.cells.lookup x = some c) (hv : h₀.IsCell c (some v)) (h : Q v s) (hd : (x == ("__debug__" : Str)) = false) : wpAny M A (eval (.Name x pos) env) Q E s :=
  wpAny_Name (wpAny_loadName_cell hk hx hc (hv.keeps F.keep) h) hd
end
theorem back_poly {s : Shared} {D : Addr} {h' : Heap} {vs : List Value} {tk : Nat} {qs : List (Int × Int)} (k : Ext s.heap h') (hl : h'.PlainList D (List.toArray vs)) (e : All2 (RatV h') vs qs) (hn : qs.length ≤ 1000) :
    Back (fun h r => PolyV h r qs) s (.ref D) { s with heap := h', toks := tk } := ⟨⟨D, vs, rfl, hl, e, hn⟩, h', tk, rfl, k⟩
theorem All2.map_right {α β γ : Type} {R : α → β → Prop} {S : α → γ → Prop} {f : β → γ} {as : List α} {bs : List β} (x : All2 R as bs) (h : ∀ a b, R a b → S a (f b)) : All2 S as (bs.map f) := by
  induction x with
  | nil => exact .nil
  | cons y _ ih => exact .cons (h _ _ y) ih
end Mine
namespace Mine
theorem elt_end {β : Type} {s : Shared} {hb : Heap} {C : Addr} {own news : List (Addr × Obj)} {G : Heap → Value → β → Prop} {b : β} {y : Value} {h' : Heap} {tk : Nat} {m : Str → Option Value} (F : Fr hb C h' m) (N : News hb C h' news) (hs : ∀ p ∈ own, p ∈ news) (hg : G h' y b) :
    EltEnd s hb C own G b y { s with heap := h', toks := tk } := ⟨h', tk, m, rfl, F, fun p hp => N p (hs p hp), hg⟩
theorem turn_end {s : Shared} {h₀ : Heap} {L : Addr} {own news : List (Addr × Obj)} {Jn : (Str → Option Value) → Heap → Prop} {h' : Heap} {tk : Nat} {m : Str → Option Value} (F : Fr h₀ L h' m) (N : News h₀ L h' news) (hs : ∀ p ∈ own, p ∈ news) (hj : Jn m h') :
    TurnEnd s h₀ L own Jn .next { s with heap := h', toks := tk } := ⟨.inl rfl, h', tk, m, rfl, F, fun p hp => N p (hs p hp), hj⟩
theorem Ext.trans {h h' h'' : Heap} (a : Ext h h') (b : Ext h' h'') : Ext h h'' := fun x o e => b x o (a x o e)
end Mine
namespace Mine
theorem range_size (a : Int) (n : Nat) : Builtin.Range.rangeSize a (a + (n : Int)) 1 = (n : Int) := by
  rw [rangeSize_nat, show a + (n : Int) - a = (n : Int) by omega, Int.toNat_natCast]
theorem range_small {a b : Int} (h1 : -(2 ^ 40) ≤ a) (h2 : a ≤ 2 ^ 40) (h3 : -(2 ^ 40) ≤ b) (h4 : b ≤ 2 ^ 40) : Builtin.Range.small a b 1 = true :=
  small_one (Int.le_trans (by decide) h1) (Int.lt_of_le_of_lt h2 (by decide)) (Int.le_trans (by decide) h3) (Int.lt_of_le_of_lt h4 (by decide))
end Mine
namespace Mine
section
variable {prog : Program} {w : World} {A : Around} {E : Value → Shared → Prop} {s : Shared} {h₀ h hI h' : Heap} {L D : Addr} {m : Str → Option Value} {own news : List (Addr × Obj)}
theorem kp_plain {a : Addr} {vs : Array Value} (F : Fr h₀ L hI m) (kp : ∀ b o, b ≠ L → hI.get? b = some o → h.get? b = some o) (y : hI.PlainList a vs) : h.PlainList a vs := by
  obtain ⟨n, ho⟩ := y
  refine ⟨n, kp _ _ (fun q => ?_) ho⟩
  obtain ⟨oL, es, ep, hL, hLd, _⟩ := F.ns
  rw [q, hL] at ho; cases ho; cases hLd
theorem kp_rat {v : Value} {q : Int × Int} (F : Fr h₀ L hI m) (kp : ∀ b o, b ≠ L → hI.get? b = some o → h.get? b = some o) (y : RatV hI v q) : RatV h v q := by
  obtain ⟨a, t, u, e, o, ho, hc, n, hd⟩ := y
  refine ⟨a, t, u, e, o, kp _ _ (fun q => ?_) ho, hc, n, hd⟩
  obtain ⟨oL, es, ep, hL, hLd, _⟩ := F.ns
  rw [q, hL] at ho; cases ho
  rw [hLd] at hd; cases hd
theorem kp_news (kp : ∀ b o, b ≠ L → hI.get? b = some o → h.get? b = some o) (N : News h₀ L hI news) : News h₀ L h news := fun p hp => ⟨kp _ _ (N p hp).2.1 (N p hp).1, (N p hp).2⟩
theorem kp_poly {v : Value} {ps : List (Int × Int)} (F : Fr h₀ L hI m) (kp : ∀ b o, b ≠ L → hI.get? b = some o → h.get? b = some o) (y : PolyV hI v ps) : PolyV h v ps := by
  obtain ⟨a, vs, e, hl, hr, hn⟩ := y
  exact ⟨a, vs, e, kp_plain F kp hl, hr.imp fun _ _ => kp_rat F kp, hn⟩
/-- the list at D turned, all else as it was -/
theorem sb_rat {vs : Array Value} {v : Value} {q : Int × Int} (hl : h.PlainList D vs) (sb : Heap.SameBut D h h') (y : RatV h v q) : RatV h' v q := by
  obtain ⟨a, t, u, e, o, ho, hc, n, hd⟩ := y
  refine ⟨a, t, u, e, o, (sb.2 a (fun q => ?_)).trans ho, hc, n, hd⟩
  obtain ⟨n', ho'⟩ := hl
  rw [q, ho'] at ho; cases ho
  exact absurd (Value.type.inj hc) (by decide)
theorem sb_news (sb : Heap.SameBut D h h') (N : News h₀ L h own) (ho : ∀ p ∈ own, p.1 ∉ [D]) : News h₀ L h' own := fun p hp => ⟨(sb.2 _ (fun q => ho p hp (by rw [q]; exact .head _))).trans (N p hp).1, (N p hp).2⟩
/-- the ledger with D told, at the start of a turn -/
theorem led {vs : Array Value} {c : Nat} (F : Fr h₀ L h m) (N : News h₀ L h own) (hD : h₀.get? D = none) (hL : D ≠ L) (hl : h.get? D = some (listOf vs c)) :
    News h₀ L h ((D, listOf vs c) :: (own ++ newOf h₀ h [L])) := fun p hp => by
  rcases List.mem_cons.mp hp with rfl | hp
  · exact ⟨hl, hL, hD⟩
  · exact (N.append (newOf_news (M := []))) p hp
theorem append_my {D : Addr} {vs : List Value} {x : Value} {Q : Value → Shared → Prop} (hl : s.heap.PlainList D vs.toArray) (hz : vs.length ≤ 1000) (F : Fr h₀ L s.heap m) (N : News h₀ L s.heap news) (hD : D ≠ L ∧ h₀.get? D = none) (hoff : ∀ p ∈ own, p.1 ∉ [D]) (hs : ∀ p ∈ own, p ∈ news)
    (h : ∀ h', Fr h₀ L h' m → News h₀ L h' own → h'.PlainList D (vs ++ [x]).toArray → Heap.SameBut D s.heap h' → Q .none { s with heap := h' }) : wpAny (model prog w) A (call (.builtin "list.append") [.ref D, x]) Q E s := by
  refine wpAny_list_append_plain (hsz := by rw [List.size_toArray, sizeLine_eq]; omega) hl fun h' hl' sb => ?_
  exact h h' (F.change sb hD.1 hD.2) (sb_news sb (fun p hp => N p (hs p hp)) hoff) (by simpa using hl') sb
theorem setItem_my {D : Addr} {vs : List Value} {k : Nat} {i : Int} {t : Tok} {x : Value} {Q : Unit → Shared → Prop} (hl : s.heap.PlainList D vs.toArray) (hi : i = (k : Int)) (hk : k < vs.length) (hz : vs.length ≤ 1000) (F : Fr h₀ L s.heap m) (N : News h₀ L s.heap news) (hD : D ≠ L ∧ h₀.get? D = none) (hoff : ∀ p ∈ own, p.1 ∉ [D]) (hs : ∀ p ∈ own, p ∈ news)
    (h : ∀ h', Fr h₀ L h' m → News h₀ L h' own → h'.PlainList D (vs.set k x).toArray → Heap.SameBut D s.heap h' → Q () { s with heap := h' }) : wpAny (model prog w) A (setItem (.ref D) (.int i t) x) Q E s := by
  subst hi
  obtain ⟨n, ho⟩ := hl
  have ho' : s.heap.get? D = some (listOf vs.toArray n) := ho
  refine ki_setAt ho' (by omega) (by omega) (by simpa using hk) ?_
  have sb := Heap.SameBut.update s.heap D (Obj.mapSeq (·.setIfInBounds ((k : Int)).toNat x))
  refine h _ (F.change sb hD.1 hD.2) (sb_news sb (fun p hp => N p (hs p hp)) hoff) ?_ sb
  have q := PySem.IsL.update (n := n) (l := D) (items := vs.toArray) ho' (·.setIfInBounds ((k : Int)).toNat x)
  have e : vs.toArray.setIfInBounds ((k : Int)).toNat x = (vs.set k x).toArray := by rw [Int.toNat_natCast, List.setIfInBounds_toArray]
  obtain ⟨c, hc⟩ : ∃ c, (s.heap.update D (Obj.mapSeq fun x_1 => x_1.setIfInBounds ((k : Int)).toNat x)).get? D = some (listOf (vs.toArray.setIfInBounds ((k : Int)).toNat x) c) := ⟨_, q⟩
  exact ⟨c, hc.trans (congrArg (fun z => some (listOf z c)) e)⟩
end
theorem ints_get {vs : List Value} {ns : List Int} (h : IntsAre vs ns) {i : Nat} {n : Int} (hn : ns[i]? = some n) : ∃ t, vs[i]? = some (.int n t) := by
  have hl := IntsAre.length h
  have hi := (List.getElem?_eq_some_iff.mp hn).1
  obtain ⟨n', t, e, hn'⟩ := IntsAre.at h i _ (List.getElem?_eq_getElem (by omega))
  rw [hn] at hn'; cases hn'
  exact ⟨t, by rw [List.getElem?_eq_getElem (by omega), e]⟩
theorem IntsAre.snoc {vs : List Value} {ns : List Int} {n : Int} {t : Tok} (h : IntsAre vs ns) : IntsAre (vs ++ [.int n t]) (ns ++ [n]) := PyProof.Rows.IntsAre.append h (.cons _ _ .nil)
theorem All2.set {α β : Type} {R : α → β → Prop} {as : List α} {bs : List β} (x : All2 R as bs) {a : α} {b : β} (h : R a b) : ∀ k, All2 R (as.set k a) (bs.set k b) := by
  induction x with
  | nil => intro k; exact .nil
  | cons y r ih => intro k; cases k with
    | zero => exact .cons h r
    | succ k => exact .cons y (ih k)
theorem All2.repl {α β : Type} {R : α → β → Prop} {a : α} {b : β} (h : R a b) : ∀ n, All2 R (List.replicate n a) (List.replicate n b)
  | 0 => .nil
  | n + 1 => .cons h (All2.repl h n)
theorem foldl_repl {α : Type} (x : α) : ∀ (n : Nat) (acc : Array α), List.foldl (fun x1 x2 => x1 ++ x2) acc (List.replicate n #[x]) = acc ++ (List.replicate n x).toArray
  | 0, acc => by simp
  | n + 1, acc => by
    rw [List.replicate_succ, List.foldl_cons, foldl_repl x n]
    apply Array.ext'
    simp [List.replicate_succ]
end Mine
namespace Mine
theorem roomC {env : Env} {d : Nat} (hd : d ≤ 200) : (callerA.deeper env).depth + d < recursionLimit := by
  rw [depth_deeper, depth_caller, show recursionLimit = 1000 from rfl]; omega
theorem roomU {env : Env} {d : Nat} (hd : d ≤ 200) : (callerA.deeper env).units + d < cLine := by
  rw [units_deeper, units_caller, cLine_is]; omega
end Mine
namespace Mine
theorem room_0 {n k R : Nat} (h : n + k < R) : n < R := Nat.lt_of_le_of_lt (Nat.le_add_right _ _) h
theorem size_ok {n : Nat} (h : n ≤ 1000) : n ≤ sizeLine := by rw [sizeLine_eq]; omega
theorem ar_two (n : Nat) : (n : Int) + 2 = 1 + ((n + 1 : Nat) : Int) := by rw [Int.add_comm 1]; rfl
theorem ar_one (n : Nat) : 1 + (n : Int) = 0 + ((n + 1 : Nat) : Int) := by rw [Int.zero_add, Int.add_comm]; rfl
theorem ar_one1 (n : Nat) : 1 + (n : Int) + 1 = ((n + 1 : Nat) : Int) + 1 := by rw [Int.add_comm 1]; rfl
theorem ar_left {m i : Nat} (h : i < m) : ∃ j, m - i = j + 1 := ⟨m - i - 1, (Nat.sub_add_cancel (Nat.sub_pos_of_lt h)).symm⟩
theorem ar_up {m i j : Nat} (h : m - i = j + 1) : m - (i + 1) = j := by rw [← Nat.sub_sub, h]; rfl
theorem ar_to (i : Nat) : (1 + (i : Int)).toNat = i + 1 := by rw [Int.add_comm]; rfl
theorem ar_to2 (k i : Nat) : ((k : Int) + 1 - (1 + (i : Int))).toNat = k + 1 - (i + 1) := by omega
theorem ar_toadd (i j : Nat) : ((i : Int) + (j : Int)).toNat = i + j := rfl
theorem ar_len {a b i n : Nat} (h1 : a = b) (h2 : b = i + 1) (h3 : i < n) (h4 : n ≤ 999) : a ≤ 1000 := by rw [h1, h2]; exact Nat.le_trans h3 (Nat.le_trans h4 (by decide))
theorem lo_nat {n : Nat} (h : n ≤ 1000) : 0 ≤ (n : Int) ∧ (n : Int) ≤ 1000 := ⟨Int.natCast_nonneg n, Int.ofNat_le.mpr h⟩
theorem lo_zero {n : Nat} (h : n ≤ 1000) : -(2 ^ 40) ≤ 0 + (n : Int) ∧ 0 + (n : Int) ≤ 2 ^ 40 := by
  rw [Int.zero_add]
  exact ⟨Int.le_trans (by decide) (lo_nat h).1, Int.le_trans (lo_nat h).2 (by decide)⟩
theorem lo_one {n : Nat} (h : n ≤ 1000) : -(2 ^ 40) ≤ 1 + (n : Int) ∧ 1 + (n : Int) ≤ 2 ^ 40 :=
  ⟨Int.le_trans (by decide) (Int.add_le_add_left (lo_nat h).1 1), Int.le_trans (Int.add_le_add_left (lo_nat h).2 1) (by decide)⟩
end Mine
namespace Mine
section
variable {M : Model} {A : Around} {E : Value → Shared → Prop} {s : Shared} {env : Env} {h₀ : Heap} {m : Str → Option Value} {x : Str} {pos : Pos} {v : Value} {Q : Value → Shared → Prop} {prog : Program} {w : World}
theorem loc_a (h : Q v s) (hx : env.kindOf x = some .local := by exact rfl) (hk : env.scope.kind = .function := by exact rfl) (hd : (x == ("__debug__" : Str)) = false := by decide) (F : Fr h₀ env.locals s.heap m := by k_asm) (hv : m x = some v := by exact rfl) : wpAny M A (eval (.Name x pos) env) Q E s := name_loc F hk hx hv h hd
theorem cell_a {L : Addr} {c : Addr} (h : Q v s) (hx : env.kindOf x = some .cell := by exact rfl) (hk : env.scope.kind = .function := by exact rfl) (hd : (x == ("__debug__" : Str)) = false := by decide) (hc : env.cells.lookup x = some c := by exact rfl) (F : Fr h₀ L s.heap m := by k_asm) (hv : h₀.IsCell c (some v) := by assumption) : wpAny M A (eval (.Name x pos) env) Q E s := name_cell F hk hx hc hv h hd
theorem item_a {value slice : Expr} {l : Addr} {vs : List Value} {k : Int} {u : Tok} {x : Value} (h : Q x s) (hl : s.heap.PlainList l vs.toArray := by walk_at "my plain") (hx : vs[k.toNat]? = some x := by assumption) (h0 : 0 ≤ k := by omega) (hfit : k < 2 ^ 63 := by omega)
    (hs : subscripted slice false (.ref l) (.int k u) = operate [.ref l, .int k u] (getItem (.ref l) (.int k u)) := by with_unfolding_all rfl) (hg : ∀ r, letTemporaryGo value (.ref l) r = pure () := by intro _; with_unfolding_all rfl) :
    wpAny (model prog w) A (subscriptTail value slice (.ref l) (.int k u)) Q E s := item_my hl h0 hfit hx h hs hg
theorem len_a {l : Addr} {vs : List Value} (h : Q (.int (vs.length : Int) (s.toks + 1)) { s with toks := s.toks + 1 + 1 }) (hl : s.heap.PlainList l vs.toArray := by walk_at "my plain") (hfit : vs.length ≤ 1000 := by omega) : wpAny (model prog w) A (call (.builtin "len") [.ref l]) Q E s := len_my hl hfit h
end
end Mine
end

section
-- part Pure
namespace Mine
abbrev Q2 := Int × Int
noncomputable def sm (x : Int) : Bool := Nat.blt x.natAbs 18446744073709551616
noncomputable def R0 : Q2 := (0, 1)
noncomputable def R1 : Q2 := (1, 1)
noncomputable def rat? (t b : Int) : Option Q2 :=
  if b = 0 then none else
    if 0 < b then some (t.fdiv (Int.gcd t b : Int), b.fdiv (Int.gcd t b : Int)) else some (t.fdiv (0 - (Int.gcd t b : Int)), b.fdiv (0 - (Int.gcd t b : Int)))
noncomputable def smQ (x : Q2) : Bool := sm x.1 && sm x.2
noncomputable def radd? (x y : Q2) : Option Q2 := if smQ x && smQ y then rat? (x.1 * y.2 + y.1 * x.2) (x.2 * y.2) else none
noncomputable def rmul? (x y : Q2) : Option Q2 := if smQ x && smQ y then rat? (x.1 * y.1) (x.2 * y.2) else none
noncomputable def rdiv? (x y : Q2) : Option Q2 := if smQ x && smQ y then rat? (x.1 * y.2) (x.2 * y.1) else none
noncomputable def rneg (x : Q2) : Q2 := (0 - x.1, x.2)
noncomputable def qtrim : List Q2 → List Q2
  | [] => []
  | x :: r => match qtrim r with
    | [] => if x.1 = 0 then [] else [x]
    | y :: t => x :: y :: t
/-- the items from i on -/
noncomputable def mapI? {α β : Type} (f : Int → α → Option β) : Int → List α → Option (List β)
  | _, [] => some []
  | i, x :: r => match f i x with
    | none => none
    | some y => match mapI? f (i + 1) r with
      | none => none
      | some t => some (y :: t)
noncomputable def map? {α β : Type} (f : α → Option β) : List α → Option (List β)
  | [] => some []
  | x :: r => match f x with
    | none => none
    | some y => match map? f r with
      | none => none
      | some t => some (y :: t)
/-- item by item, as long as the longer one -/
noncomputable def zip? (f : Q2 → Q2 → Option Q2) : List Q2 → List Q2 → Option (List Q2)
  | [], b => map? (fun y => f R0 y) b
  | x :: r, b => match f x (b.headD R0) with
    | none => none
    | some z => match zip? f r b.tail with
      | none => none
      | some u => some (z :: u)
noncomputable def qadd? (a b : List Q2) : Option (List Q2) := match zip? radd? a b with
  | none => none
  | some r => some (qtrim r)
noncomputable def qneg (p : List Q2) : List Q2 := p.map rneg
noncomputable def qsub? (a b : List Q2) : Option (List Q2) := qadd? a (qneg b)
noncomputable def qscale? (p : List Q2) (r : Q2) : Option (List Q2) := if r.1 = 0 then some [] else map? (fun x => rmul? x r) p
/-- found[k + j] += left * right, j the places of b -/
noncomputable def qmulRow? (left : Q2) : Nat → List Q2 → List Q2 → Option (List Q2)
  | _, [], found => some found
  | k, y :: t, found => match found[k]? with
    | none => none
    | some c => match rmul? left y with
      | none => none
      | some m => match radd? c m with
        | none => none
        | some z => qmulRow? left (k + 1) t (found.set k z)
noncomputable def qmulRows? (b : List Q2) : Nat → List Q2 → List Q2 → Option (List Q2)
  | _, [], found => some found
  | k, x :: r, found => match qmulRow? x k b found with
    | none => none
    | some f => qmulRows? b (k + 1) r f
noncomputable def qmul? (a b : List Q2) : Option (List Q2) := if a.length = 0 ∨ b.length = 0 then some [] else if a.length + b.length ≤ 1000 then qmulRows? b 0 a (List.replicate (a.length + b.length - 1) R0) else none
noncomputable def qderive? (p : List Q2) : Option (List Q2) := match mapI? (fun i x => rmul? x (i, 1)) 0 p with
  | none => none
  | some r => some (r.drop 1)
noncomputable def qintegral? (p : List Q2) : Option (List Q2) := match mapI? (fun i x => rdiv? x (i + 1, 1)) 0 p with
  | none => none
  | some [] => some []
  | some (y :: t) => if p.length ≤ 999 then some (R0 :: y :: t) else none
noncomputable def qatGo? (r : Q2) : Q2 → List Q2 → Option Q2
  | found, [] => some found
  | found, x :: t => match rmul? found r with
    | none => none
    | some m => match radd? m x with
      | none => none
      | some z => qatGo? r z t
noncomputable def qat? (p : List Q2) (r : Q2) : Option Q2 := qatGo? r R0 p.reverse
noncomputable def qcomposeGo? (b : List Q2) : List Q2 → List Q2 → Option (List Q2)
  | found, [] => some found
  | found, x :: t => match qmul? found b with
    | none => none
    | some m => match qadd? m (qtrim [x]) with
      | none => none
      | some z => qcomposeGo? b z t
noncomputable def qcompose? (a b : List Q2) : Option (List Q2) := qcomposeGo? b [] a.reverse
/-- binomial_row(n) from k on, m turns left; last the last number -/
noncomputable def binoGo? (n : Int) : Nat → Int → Int → List Int → Option (List Int)
  | 0, _, _, found => some found
  | m + 1, k, last, found => if sm last && sm (n - k) then
      let z := (last * (n - k)).fdiv (k + 1)
      binoGo? n m (k + 1) z (found ++ [z])
    else none
noncomputable def bino? (n : Nat) : Option (List Int) := binoGo? n n 0 1 [1]
noncomputable def bernInner? : List Int → List Q2 → Q2 → Nat → Option Q2
  | _, _, total, 0 => some total
  | c :: row, f :: found, total, k + 1 => match rat? c 1 with
    | none => none
    | some r => match rmul? r f with
      | none => none
      | some m => match radd? total m with
        | none => none
        | some z => bernInner? row found z k
  | _, _, _, _ => none
noncomputable def bernGo? : Nat → Nat → List Q2 → Option (List Q2)
  | 0, _, found => some found
  | j + 1, m, found => match bino? (m + 1) with
    | none => none
    | some row => match bernInner? row found R0 m with
      | none => none
      | some total => match rdiv? total ((m : Int) + 1, 1) with
        | none => none
        | some z => bernGo? j (m + 1) (found ++ [rneg z])
noncomputable def bern? (n : Nat) : Option (List Q2) := bernGo? n 1 [R1]
noncomputable def psumGo? (k : Nat) (row : List Int) (known : List Q2) : Nat → Nat → List Q2 → Option (List Q2)
  | 0, _, found => some found
  | j + 1, power, found => match row[power]? with
    | none => none
    | some c => match known[k + 1 - power]? with
      | none => none
      | some b => match rat? c 1 with
        | none => none
        | some r => match rmul? r b with
          | none => none
          | some m => match rdiv? m ((k : Int) + 1, 1) with
            | none => none
            | some z => psumGo? k row known j (power + 1) (found ++ [z])
noncomputable def psum? (k : Nat) : Option (List Q2) := match bino? (k + 1) with
  | none => none
  | some row => match bern? k with
    | none => none
    | some known => psumGo? k row known (k + 1) 1 [R0]
noncomputable def polySumGo? : Nat → List Q2 → List Q2 → Option (List Q2)
  | _, [], found => some found
  | i, x :: t, found => if x = R0 then polySumGo? (i + 1) t found else
    match psum? i with
    | none => none
    | some s => match qscale? s x with
      | none => none
      | some c => match qadd? found c with
        | none => none
        | some z => polySumGo? (i + 1) t z
noncomputable def polySum? (p : List Q2) : Option (List Q2) := polySumGo? 0 p []
noncomputable def withoutLast? (f : List Q2) : Option (List Q2) := match qat? f R0 with
  | none => none
  | some c => qsub? f [c]
/-- the list of ratios of whole numbers -/
abbrev whole (cs : List Int) : List Q2 := cs.map fun c => (c, 1)
/-- one turn of the law's loop: by, whole, halves, slope, onward -/
inductive LStep (row : List Q2) (next : Nat → Int → List Q2 → List Q2 → List Q2 → List Q2 → Prop) (place : Nat) (by0 : Int) (wh ha sl on : List Q2) : Prop
  | mk (b r1 : Q2) (s1 wh' : List Q2) (r2 : Q2) (s2 ha' sl' s3 on' : List Q2) (f0 : row[place]? = some b) (f1 : sm by0 = true) (f2 : sm (by0 * (place : Int)) = true) (f3 : smQ b = true) (f4 : sm (b.1 * (2 - 2 ^ place)) = true)
      (f5 : sm (b.2 * (by0 * (place : Int))) = true) (f6 : rat? b.1 (b.2 * (by0 * (place : Int))) = some r1) (f7 : qscale? sl r1 = some s1) (f8 : qadd? wh s1 = some wh') (f9 : rat? (b.1 * (2 - 2 ^ place)) (b.2 * (by0 * (place : Int)) * 2 ^ place) = some r2)
      (f10 : qscale? sl r2 = some s2) (f11 : qadd? ha s2 = some ha') (f12 : qderive? sl = some sl') (f13 : qscale? sl' (1, by0 * (place : Int)) = some s3) (f14 : qadd? on s3 = some on') (hq : next (place + 1) (by0 * (place : Int)) wh' ha' sl' on')
/-- the law's loop, j turns from the place on, ends in z -/
def LawGo (row : List Q2) (z : List Q2 × List Q2 × List Q2) : Nat → Nat → Int → List Q2 → List Q2 → List Q2 → List Q2 → Prop
  | 0, _, _, wh, ha, _, on => (wh, ha, on) = z
  | j + 1, place, by0, wh, ha, sl, on => LStep row (LawGo row z j) place by0 wh ha sl on
noncomputable def valAt (p : List Int) (x : Int) : Int := (p.zipIdx.map fun c => c.1 * x ^ c.2).sum
end Mine
end

section
-- part PRep
set_option maxRecDepth 100000
set_option maxHeartbeats 8000000
namespace Mine
/-- all numbers of the law's polynomials are whole numbers by this one -/
noncomputable def DD : Int := 960
theorem DD_pos : 0 < DD := by decide
/-- x is n by DD, in lowest terms -/
noncomputable def Is (n : Int) (x : Q2) : Prop := 0 < x.2 ∧ Int.gcd x.1 x.2 = 1 ∧ x.1 * DD = n * x.2
noncomputable def Sm (n : Int) : Prop := -1099511627776 < n ∧ n < 1099511627776
theorem dvd_of_cop {a b c : Int} (h : a ∣ b * c) (hg : Int.gcd b a = 1) : a ∣ c := by
  have h1 : a.natAbs ∣ b.natAbs * c.natAbs := by rw [← Int.natAbs_mul]; exact Int.natAbs_dvd_natAbs.mpr h
  have h2 : Nat.Coprime a.natAbs b.natAbs := by
    show Nat.gcd a.natAbs b.natAbs = 1
    rw [Nat.gcd_comm]; exact hg
  exact Int.natAbs_dvd_natAbs.mp (Nat.Coprime.dvd_of_dvd_mul_left h2 h1)
noncomputable def SmL : List Int → Prop
  | [] => True
  | n :: ns => Sm n ∧ SmL ns
theorem rat_is {t b n : Int} (hb : 0 < b) (h : t * DD = n * b) : ∃ z, rat? t b = some z ∧ Is n z := by
  unfold rat?
  rw [if_neg (by omega), if_pos hb]
  have hg : 0 < (Int.gcd t b : Int) := by
    have := Int.gcd_pos_of_ne_zero_right t (show b ≠ 0 by omega)
    omega
  obtain ⟨t', ht⟩ := Int.gcd_dvd_left t b
  obtain ⟨b', hb'⟩ := Int.gcd_dvd_right t b
  generalize hG : Int.gcd t b = g at *
  have hg0 : (g : Int) ≠ 0 := by omega
  refine ⟨_, rfl, ?_⟩
  have e1 : t.fdiv (g : Int) = t' := by rw [ht]; exact Int.mul_fdiv_cancel_left t' hg0
  have e2 : b.fdiv (g : Int) = b' := by rw [hb']; exact Int.mul_fdiv_cancel_left b' hg0
  refine ⟨?_, ?_, ?_⟩
  · dsimp only
    rw [e2]
    rw [hb'] at hb
    exact Int.pos_of_mul_pos_right hb hg
  · dsimp only
    rw [e1, e2]
    have : Int.gcd ((g : Int) * t') ((g : Int) * b') = g * Int.gcd t' b' := by rw [Int.gcd_mul_left]; simp
    rw [← ht, ← hb', hG] at this
    have hgn : 0 < g := by omega
    exact Nat.eq_of_mul_eq_mul_left hgn (by omega)
  · dsimp only
    rw [e1, e2]
    have : (g : Int) * (t' * DD) = (g : Int) * (n * b') := by
      have h2 := h
      rw [ht, hb'] at h2
      grind
    exact Int.eq_of_mul_eq_mul_left hg0 this
theorem Is.le {n : Int} {x : Q2} (h : Is n x) : x.2 ≤ DD ∧ x.1.natAbs ≤ n.natAbs := by
  obtain ⟨h1, h2, h3⟩ := h
  have hd : x.2 ∣ DD := by
    have h4 : x.2 ∣ x.1 * DD := ⟨n, by rw [h3, Int.mul_comm]⟩
    exact dvd_of_cop h4 h2
  have hle := Int.le_of_dvd DD_pos hd
  refine ⟨hle, ?_⟩
  have h5 : x.1.natAbs * DD.natAbs = n.natAbs * x.2.natAbs := by rw [← Int.natAbs_mul, ← Int.natAbs_mul, h3]
  have h6 : x.2.natAbs ≤ DD.natAbs := by omega
  have h7 : x.1.natAbs * DD.natAbs ≤ n.natAbs * DD.natAbs := by rw [h5]; exact Nat.mul_le_mul_left _ h6
  exact Nat.le_of_mul_le_mul_right h7 (by decide)
theorem sm_of {n : Int} (h : n.natAbs < 18446744073709551616) : sm n = true := by
  unfold sm
  exact Nat.ble_eq_true_of_le h
theorem Is.smQ {n : Int} {x : Q2} (h : Is n x) (hn : Sm n) : smQ x = true := by
  obtain ⟨h1, h2⟩ := h.le
  have h3 := h.1
  have : DD = 960 := rfl
  unfold Sm at hn
  unfold Mine.smQ
  rw [sm_of (by omega), sm_of (by omega)]
  rfl
theorem Is.uniq {n : Int} {x y : Q2} (hx : Is n x) (hy : Is n y) : x = y := by
  obtain ⟨x1, x2⟩ := x
  obtain ⟨y1, y2⟩ := y
  obtain ⟨a1, a2, a3⟩ := hx
  obtain ⟨b1, b2, b3⟩ := hy
  dsimp only at *
  have hD : DD ≠ 0 := by decide
  have e : x1 * y2 = y1 * x2 := by
    have : DD * (x1 * y2) = DD * (y1 * x2) := by grind
    exact Int.eq_of_mul_eq_mul_left hD this
  have d1 : x2 ∣ y2 := dvd_of_cop (⟨y1, by rw [e, Int.mul_comm]⟩ : x2 ∣ x1 * y2) a2
  have d2 : y2 ∣ x2 := dvd_of_cop (⟨x1, by rw [← e, Int.mul_comm]⟩ : y2 ∣ y1 * x2) b2
  have e2 : x2 = y2 := Int.le_antisymm (Int.le_of_dvd b1 d1) (Int.le_of_dvd a1 d2)
  subst e2
  have e3 : x1 = y1 := Int.eq_of_mul_eq_mul_right (by omega) e
  rw [e3]
theorem Is.zero : Is 0 R0 := ⟨by decide, by decide, by decide⟩
theorem Is.of_zero {n : Int} (h : Is n R0) : n = 0 := by
  have := h.2.2
  simp only [R0] at this
  omega
theorem Is.num0 {n : Int} {x : Q2} (h : Is n x) (h0 : x.1 = 0) : n = 0 := by
  have h3 := h.2.2
  rw [h0, Int.zero_mul] at h3
  rcases Int.mul_eq_zero.mp h3.symm with h | h
  · exact h
  · have := ‹Is n x›.1
    omega
theorem Is.whole (c : Int) : Is (960 * c) (c, 1) := ⟨Int.one_pos, by simp, by show c * 960 = 960 * c * 1; omega⟩
theorem radd_is {n m : Int} {x y : Q2} (hx : Is n x) (hy : Is m y) (sn : Sm n) (sm : Sm m) : ∃ z, radd? x y = some z ∧ Is (n + m) z := by
  unfold radd?
  rw [if_pos (by rw [hx.smQ sn, hy.smQ sm]; rfl)]
  refine rat_is (Int.mul_pos hx.1 hy.1) ?_
  have h1 := hx.2.2
  have h2 := hy.2.2
  grind
/-- times a number told outright -/
theorem rmul_is {n k : Int} {x r : Q2} (hx : Is n x) (sn : Sm n) (hr : 0 < r.2) (sr : smQ r = true) (hk : k * r.2 = n * r.1) : ∃ z, rmul? x r = some z ∧ Is k z := by
  unfold rmul?
  rw [if_pos (by rw [hx.smQ sn, sr]; rfl)]
  refine rat_is (Int.mul_pos hx.1 hr) ?_
  have h1 := hx.2.2
  grind
theorem rmul_is' {n k : Int} {x r : Q2} (hx : Is n x) (sn : Sm n) (hr : 0 < r.2) (sr : smQ r = true) (hk : k * r.2 = n * r.1) : ∃ z, rmul? r x = some z ∧ Is k z := by
  unfold rmul?
  rw [if_pos (by rw [hx.smQ sn, sr]; rfl)]
  refine rat_is (Int.mul_pos hr hx.1) ?_
  have h1 := hx.2.2
  grind
theorem rdiv_is {n k : Int} {x r : Q2} (hx : Is n x) (sn : Sm n) (hr : 0 < r.1) (sr : smQ r = true) (hk : k * r.1 = n * r.2) : ∃ z, rdiv? x r = some z ∧ Is k z := by
  unfold rdiv?
  rw [if_pos (by rw [hx.smQ sn, sr]; rfl)]
  refine rat_is (Int.mul_pos hx.1 hr) ?_
  have h1 := hx.2.2
  grind

/-- the polynomial ps is told by ns, noughts behind it or not -/
noncomputable def PR : List Q2 → List Int → Prop
  | ps, [] => ps = []
  | ps, n :: ns => Is n (ps.headD R0) ∧ PR ps.tail ns
noncomputable def comb (x : Q2) : List Q2 → List Q2
  | [] => if x.1 = 0 then [] else [x]
  | y :: t => x :: y :: t
theorem qtrim_comb : ∀ a : List Q2, qtrim a = comb (a.headD R0) (qtrim a.tail)
  | [] => rfl
  | x :: r => by
    show qtrim (x :: r) = comb x (qtrim r)
    rw [qtrim]
    unfold comb
    rfl
theorem PR.trim_eq : ∀ {ns : List Int} {a b : List Q2}, PR a ns → PR b ns → qtrim a = qtrim b
  | [], a, b, ha, hb => by rw [show a = [] from ha, show b = [] from hb]
  | n :: ns, a, b, ha, hb => by
    rw [qtrim_comb a, qtrim_comb b, ha.1.uniq hb.1, PR.trim_eq ha.2 hb.2]
theorem PR.comb {n : Int} {ns : List Int} {x : Q2} {t : List Q2} (hx : Is n x) (ht : PR t ns) : PR (comb x t) (n :: ns) := by
  cases t with
  | nil =>
    show PR (if x.1 = 0 then [] else [x]) (n :: ns)
    split
    · rename_i h0
      have := hx.num0 h0
      subst this
      exact ⟨Is.zero, ht⟩
    · exact ⟨hx, ht⟩
  | cons y t => exact ⟨hx, ht⟩
theorem PR.trim : ∀ {ns : List Int} {a : List Q2}, PR a ns → PR (qtrim a) ns
  | [], a, h => by rw [show a = [] from h]; rfl
  | n :: ns, a, h => by
    rw [qtrim_comb a]
    exact PR.comb h.1 (PR.trim h.2)
theorem PR.eq {ns : List Int} {a b : List Q2} (ha : PR a ns) (hb : PR b ns) (ta : qtrim a = a) (tb : qtrim b = b) : a = b := by rw [← ta, ← tb, ha.trim_eq hb]

noncomputable def Add3 : List Int → List Int → List Int → Prop
  | [], [], [] => True
  | n :: ns, m :: ms, k :: ks => k = n + m ∧ Add3 ns ms ks
  | _, _, _ => False
theorem zip_is : ∀ {ns ms ks : List Int} {a b : List Q2}, PR a ns → PR b ms → Add3 ns ms ks → SmL ns → SmL ms → ∃ c, zip? radd? a b = some c ∧ PR c ks
  | [], [], [], a, b, ha, hb, _, _, _ => by
    rw [show a = [] from ha, show b = [] from hb]
    exact ⟨[], rfl, rfl⟩
  | n :: ns, m :: ms, k :: ks, a, b, ha, hb, hk, sn, sm => by
    obtain ⟨rfl, hk⟩ := hk
    obtain ⟨z, hz, iz⟩ := radd_is ha.1 hb.1 sn.1 sm.1
    obtain ⟨c, hc, pc⟩ := zip_is ha.2 hb.2 hk sn.2 sm.2
    cases a with
    | cons x r =>
      refine ⟨z :: c, ?_, iz, pc⟩
      unfold zip?
      rw [show radd? x (b.headD R0) = some z from hz]
      dsimp only
      rw [show zip? radd? r b.tail = some c from hc]
    | nil =>
      cases b with
      | cons y t =>
        refine ⟨z :: c, ?_, iz, pc⟩
        have hc : map? (fun y => radd? R0 y) t = some c := by
          have : zip? radd? [] t = some c := hc
          unfold zip? at this
          exact this
        unfold zip? map?
        rw [show radd? R0 y = some z from hz]
        dsimp only
        rw [hc]
      | nil =>
        have hc0 : c = [] := by
          have : zip? radd? [] [] = some c := hc
          unfold zip? map? at this
          exact (Option.some.inj this).symm
        subst hc0
        refine ⟨[], rfl, ?_, pc⟩
        have h1 := ha.1.of_zero
        have h2 := hb.1.of_zero
        subst h1 h2
        exact Is.zero
theorem qadd_is {ns ms ks : List Int} {a b : List Q2} (ha : PR a ns) (hb : PR b ms) (h : Add3 ns ms ks) (sn : SmL ns) (sm : SmL ms) : ∃ c, qadd? a b = some c ∧ PR c ks ∧ qtrim c = c := by
  obtain ⟨c, hc, pc⟩ := zip_is ha hb h sn sm
  refine ⟨qtrim c, ?_, pc.trim, PR.trim_eq pc.trim pc⟩
  unfold qadd?
  rw [hc]

noncomputable def Scal (r : Q2) : List Int → List Int → Prop
  | [], [] => True
  | n :: ns, k :: ks => k * r.2 = n * r.1 ∧ Scal r ns ks
  | _, _ => False
theorem map_is {r : Q2} (hr : 0 < r.2) (sr : smQ r = true) : ∀ {ns ks : List Int} {a : List Q2}, PR a ns → Scal r ns ks → SmL ns → ∃ c, map? (fun x => rmul? x r) a = some c ∧ PR c ks
  | [], [], a, ha, _, _ => by
    rw [show a = [] from ha]
    exact ⟨[], rfl, rfl⟩
  | n :: ns, k :: ks, a, ha, hk, sn => by
    obtain ⟨hk1, hk⟩ := hk
    obtain ⟨z, hz, iz⟩ := rmul_is ha.1 sn.1 hr sr hk1
    obtain ⟨c, hc, pc⟩ := map_is hr sr ha.2 hk sn.2
    cases a with
    | cons x t =>
      refine ⟨z :: c, ?_, iz, pc⟩
      unfold map?
      rw [show rmul? x r = some z from hz]
      dsimp only
      rw [show map? (fun x => rmul? x r) t = some c from hc]
    | nil =>
      have hc0 : c = [] := by
        have : map? (fun x => rmul? x r) [] = some c := hc
        unfold map? at this
        exact (Option.some.inj this).symm
      subst hc0
      refine ⟨[], rfl, ?_, pc⟩
      have h1 := ha.1.of_zero
      subst h1
      rw [Int.zero_mul] at hk1
      have : k = 0 := by
        rcases Int.mul_eq_zero.mp hk1 with h | h
        · exact h
        · omega
      subst this
      exact Is.zero
theorem scal_zero {r : Q2} (hr : 0 < r.2) (h0 : r.1 = 0) : ∀ {ns ks : List Int}, Scal r ns ks → PR [] ks
  | [], [], _ => rfl
  | n :: ns, k :: ks, h => by
    obtain ⟨h1, h2⟩ := h
    rw [h0, Int.mul_zero] at h1
    have : k = 0 := by
      rcases Int.mul_eq_zero.mp h1 with h | h
      · exact h
      · omega
    subst this
    exact ⟨Is.zero, scal_zero hr h0 h2⟩
theorem qscale_is {r : Q2} {ns ks : List Int} {a : List Q2} (ha : PR a ns) (h : Scal r ns ks) (sn : SmL ns) (hr : 0 < r.2) (sr : smQ r = true) : ∃ c, qscale? a r = some c ∧ PR c ks := by
  unfold qscale?
  by_cases h0 : r.1 = 0
  · rw [if_pos h0]
    exact ⟨[], rfl, scal_zero hr h0 h⟩
  · rw [if_neg h0]
    exact map_is hr sr ha h sn

end Mine
end

section
-- part PRep2
set_option maxRecDepth 100000
set_option maxHeartbeats 8000000
namespace Mine
theorem PR.cast {a : List Q2} {ns ms : List Int} (h : PR a ns) (e : ns = ms) : PR a ms := e ▸ h
theorem int_small {i : Int} (h0 : 0 ≤ i) (h1 : i ≤ 1000) : smQ (i, 1) = true := by
  unfold smQ
  rw [sm_of (show i.natAbs < _ by omega), sm_of (show (1 : Int).natAbs < 18446744073709551616 by decide)]
  rfl
theorem int_small' {i : Int} (h0 : 0 ≤ i) (h1 : i ≤ 1000) : smQ (i, 1) = true := int_small h0 h1
theorem mul_zero_of {k r : Int} (hr : 0 < r) (h : k * r = 0) : k = 0 := by
  rcases Int.mul_eq_zero.mp h with h | h
  · exact h
  · omega
noncomputable def Deri : Int → List Int → List Int → Prop
  | _, [], [] => True
  | i, n :: ns, k :: ks => k = n * i ∧ Deri (i + 1) ns ks
  | _, _, _ => False
theorem mapD_is : ∀ {ns ks : List Int} {a : List Q2} {i : Int}, 0 ≤ i → i + ns.length ≤ 1000 → PR a ns → Deri i ns ks → SmL ns → ∃ c, mapI? (fun i x => rmul? x (i, 1)) i a = some c ∧ PR c ks
  | [], [], a, i, _, _, ha, _, _ => by
    rw [show a = [] from ha]
    exact ⟨[], rfl, rfl⟩
  | n :: ns, k :: ks, a, i, h0, h1, ha, hk, sn => by
    rw [List.length_cons] at h1
    obtain ⟨rfl, hk⟩ := hk
    obtain ⟨z, hz, iz⟩ := rmul_is (k := n * i) (r := (i, 1)) ha.1 sn.1 Int.one_pos (int_small h0 (by omega)) (by simp)
    obtain ⟨c, hc, pc⟩ := mapD_is (i := i + 1) (by omega) (by omega) ha.2 hk sn.2
    cases a with
    | cons x t =>
      refine ⟨z :: c, ?_, iz, pc⟩
      unfold mapI?
      rw [show rmul? x (i, 1) = some z from hz]
      dsimp only
      rw [show mapI? (fun i x => rmul? x (i, 1)) (i + 1) t = some c from hc]
    | nil =>
      have hc0 : c = [] := by
        have : mapI? (fun i x => rmul? x (i, 1)) (i + 1) [] = some c := hc
        unfold mapI? at this
        exact (Option.some.inj this).symm
      subst hc0
      refine ⟨[], rfl, ?_, pc⟩
      have h1 := ha.1.of_zero
      subst h1
      rw [Int.zero_mul]
      exact Is.zero
theorem qderive_is {n : Int} {ns ks : List Int} {a : List Q2} (ha : PR a (n :: ns)) (h : Deri 0 (n :: ns) (0 :: ks)) (sn : SmL (n :: ns)) (hl : ns.length ≤ 100) : ∃ c, qderive? a = some c ∧ PR c ks := by
  obtain ⟨c, hc, pc⟩ := mapD_is (i := 0) (by omega) (by rw [List.length_cons]; omega) ha h sn
  refine ⟨c.drop 1, ?_, ?_⟩
  · unfold qderive?
    rw [hc]
  · rw [List.drop_one]
    exact pc.2
noncomputable def Inte : Int → List Int → List Int → Prop
  | _, [], [] => True
  | i, n :: ns, k :: ks => k * (i + 1) = n ∧ Inte (i + 1) ns ks
  | _, _, _ => False
theorem mapN_is : ∀ {ns ks : List Int} {a : List Q2} {i : Int}, 0 ≤ i → i + ns.length < 1000 → PR a ns → Inte i ns ks → SmL ns → ∃ c, mapI? (fun i x => rdiv? x (i + 1, 1)) i a = some c ∧ PR c ks ∧ c.length = a.length
  | [], [], a, i, _, _, ha, _, _ => by
    rw [show a = [] from ha]
    exact ⟨[], rfl, rfl, rfl⟩
  | n :: ns, k :: ks, a, i, h0, h1, ha, hk, sn => by
    rw [List.length_cons] at h1
    obtain ⟨hk1, hk⟩ := hk
    obtain ⟨z, hz, iz⟩ := rdiv_is (k := k) (r := (i + 1, 1)) ha.1 sn.1 (by dsimp only; omega) (int_small (by omega) (by omega)) (by simpa using hk1)
    obtain ⟨c, hc, pc, lc⟩ := mapN_is (i := i + 1) (by omega) (by omega) ha.2 hk sn.2
    cases a with
    | cons x t =>
      refine ⟨z :: c, ?_, ⟨iz, pc⟩, by simpa using lc⟩
      unfold mapI?
      rw [show rdiv? x (i + 1, 1) = some z from hz]
      dsimp only
      rw [show mapI? (fun i x => rdiv? x (i + 1, 1)) (i + 1) t = some c from hc]
    | nil =>
      have hc0 : c = [] := by
        have : mapI? (fun i x => rdiv? x (i + 1, 1)) (i + 1) [] = some c := hc
        unfold mapI? at this
        exact (Option.some.inj this).symm
      subst hc0
      refine ⟨[], rfl, ⟨?_, pc⟩, rfl⟩
      have h1 := ha.1.of_zero
      rw [h1] at hk1
      have : k = 0 := mul_zero_of (r := i + 1) (by omega) hk1
      subst this
      exact Is.zero
theorem qintegral_is {ns ks : List Int} {a : List Q2} (ha : PR a ns) (h : Inte 0 ns ks) (sn : SmL ns) (hl : ns.length ≤ 100) (hl2 : a.length ≤ 100) : ∃ c, qintegral? a = some c ∧ PR c (0 :: ks) := by
  obtain ⟨c, hc, pc, lc⟩ := mapN_is (i := 0) (by omega) (by omega) ha h sn
  unfold qintegral?
  rw [hc]
  cases c with
  | nil => exact ⟨[], rfl, Is.zero, pc⟩
  | cons y t =>
    refine ⟨R0 :: y :: t, ?_, Is.zero, pc⟩
    dsimp only
    rw [if_pos (by omega)]

noncomputable def H (r : Int) : List Int → Int
  | [] => 0
  | n :: ns => H r ns * r + n
noncomputable def HB (r : Int) : List Int → Prop
  | [] => True
  | n :: ns => Sm (H r ns) ∧ Sm (H r ns * r) ∧ Sm n ∧ HB r ns
theorem qatGo_append {r : Q2} : ∀ (xs ys : List Q2) (z : Q2), qatGo? r z (xs ++ ys) = match qatGo? r z xs with
    | none => none
    | some u => qatGo? r u ys
  | [], ys, z => rfl
  | x :: t, ys, z => by
    simp only [List.cons_append, qatGo?]
    cases rmul? z r with
    | none => rfl
    | some m =>
      dsimp only
      cases radd? m x with
      | none => rfl
      | some u => exact qatGo_append t ys u
theorem qat_cons {r x : Q2} {ps : List Q2} {u : Q2} (h : qat? ps r = some u) : qat? (x :: ps) r = qatGo? r u [x] := by
  unfold qat? at h ⊢
  rw [List.reverse_cons, qatGo_append, h]
theorem H_zero (r : Int) : ∀ {ns : List Int}, PR [] ns → H r ns = 0
  | [], _ => rfl
  | n :: ns, h => by
    unfold H
    rw [H_zero r h.2, h.1.of_zero]
    simp
theorem qat_is {r : Int} (h0 : 0 ≤ r) (h1 : r ≤ 1000) : ∀ {ns : List Int} {ps : List Q2}, PR ps ns → HB r ns → ∃ v, qat? ps (r, 1) = some v ∧ Is (H r ns) v
  | [], ps, hp, _ => by
    rw [show ps = [] from hp]
    exact ⟨R0, rfl, Is.zero⟩
  | n :: ns, [], hp, _ => ⟨R0, rfl, by rw [H_zero r hp]; exact Is.zero⟩
  | n :: ns, x :: ps, hp, hb => by
    obtain ⟨b1, b2, b3, b4⟩ := hb
    obtain ⟨u, hu, iu⟩ := qat_is h0 h1 (ps := ps) hp.2 b4
    obtain ⟨m, hm, im⟩ := rmul_is (k := H r ns * r) (r := (r, 1)) iu b1 Int.one_pos (int_small h0 h1) (by simp)
    obtain ⟨z, hz, iz⟩ := radd_is im (show Is n x from hp.1) b2 b3
    refine ⟨z, ?_, iz⟩
    rw [qat_cons hu]
    unfold qatGo? qatGo?
    rw [hm]
    dsimp only
    rw [hz]
theorem Is.neg {n : Int} {x : Q2} (h : Is n x) : Is (-n) (rneg x) := by
  obtain ⟨h1, h2, h3⟩ := h
  refine ⟨h1, ?_, ?_⟩
  · show Int.gcd (0 - x.1) x.2 = 1
    rw [Int.zero_sub, Int.neg_gcd]
    exact h2
  · show (0 - x.1) * DD = -n * x.2
    grind
noncomputable def zeros : List Int → List Int
  | [] => []
  | _ :: ns => 0 :: zeros ns
theorem PR_zeros : ∀ ns : List Int, PR [] (zeros ns)
  | [] => rfl
  | _ :: ns => ⟨Is.zero, PR_zeros ns⟩
theorem Add3_zeros : ∀ ns : List Int, Add3 ns (zeros ns) ns
  | [] => trivial
  | n :: ns => ⟨by omega, Add3_zeros ns⟩
theorem SmL_zeros : ∀ ns : List Int, SmL (zeros ns)
  | [] => trivial
  | _ :: ns => ⟨by unfold Sm; omega, SmL_zeros ns⟩
theorem withoutLast_is {n : Int} {ns : List Int} {ps : List Q2} (hp : PR ps (n :: ns)) (hb : HB 0 (n :: ns)) (sn : SmL (n :: ns)) : ∃ c, withoutLast? ps = some c ∧ PR c (0 :: ns) ∧ qtrim c = c := by
  obtain ⟨v, hv, iv⟩ := qat_is (r := 0) (by omega) (by omega) hp hb
  have e : H 0 (n :: ns) = n := by unfold H; simp
  rw [e] at iv
  have hq : PR (qneg [v]) (-n :: zeros ns) := ⟨iv.neg, PR_zeros ns⟩
  obtain ⟨c, hc, pc, tc⟩ := qadd_is hp hq (show Add3 (n :: ns) (-n :: zeros ns) (0 :: ns) from ⟨by omega, Add3_zeros ns⟩) sn ⟨by have := sn.1; unfold Sm at this ⊢; omega, SmL_zeros ns⟩
  refine ⟨c, ?_, pc, tc⟩
  unfold withoutLast? qsub?
  rw [show qat? ps R0 = some v from hv]
  exact hc

end Mine
end

section
-- part PRep3
set_option maxRecDepth 100000
set_option maxHeartbeats 8000000
namespace Mine
theorem PR.snoc0 : ∀ {ns : List Int} {a : List Q2}, PR a ns → PR a (ns ++ [0])
  | [], a, h => by
    rw [show a = [] from h]
    exact ⟨Is.zero, rfl⟩
  | _ :: _, _, h => ⟨h.1, PR.snoc0 h.2⟩
theorem PR.len : ∀ {ns : List Int} {a : List Q2}, PR a ns → a.length ≤ ns.length
  | [], a, h => by rw [show a = [] from h]; simp
  | n :: ns, [], _ => by simp
  | n :: ns, x :: t, h => by
    have := PR.len (show PR t ns from h.2)
    simpa using this
/-- ns times the polynomial u, 1, prev carried from the place before -/
noncomputable def Conv (u : Q2) : Int → List Int → List Int → Prop
  | prev, [], ms => ms = [prev]
  | prev, n :: ns, m :: ms => (m - prev) * u.2 = n * u.1 ∧ Sm prev ∧ Sm n ∧ Sm (m - prev) ∧ Conv u n ns ms
  | _, _, _ => False
theorem conv_zero {u : Q2} (hu : 0 < u.2) : ∀ {ns ms : List Int}, PR [] ns → Conv u 0 ns ms → PR [] ms
  | [], ms, _, h => by
    rw [show ms = [0] from h]
    exact ⟨Is.zero, rfl⟩
  | n :: ns, m :: ms, hn, h => by
    have h0 := hn.1.of_zero
    subst h0
    obtain ⟨h1, _, _, _, h2⟩ := h
    rw [Int.zero_mul] at h1
    have := mul_zero_of hu h1
    have hm : m = 0 := by omega
    subst hm
    exact ⟨Is.zero, conv_zero hu hn.2 h2⟩
theorem get_at {α : Type} (pre t : List α) (x : α) : (pre ++ x :: t)[pre.length]? = some x := by simp
theorem set_at {α : Type} (pre t : List α) (x y : α) : (pre ++ x :: t).set pre.length y = pre ++ y :: t := by simp
theorem rows_is {u : Q2} (hu : 0 < u.2) (su : smQ u = true) : ∀ {fs ms : List Int} {prev : Int} {r pre : List Q2} {cur : Q2}, PR r fs → Is prev cur → Conv u prev fs ms →
    ∃ out, qmulRows? [u, R1] pre.length r (pre ++ cur :: List.replicate r.length R0) = some (pre ++ out) ∧ PR out ms
  | [], ms, prev, r, pre, cur, hr, hc, h => by
    rw [show r = [] from hr, show ms = [prev] from h]
    exact ⟨[cur], rfl, hc, rfl⟩
  | n :: ns, m :: ms, prev, [], pre, cur, hr, hc, h => by
    have h0 := hr.1.of_zero
    subst h0
    obtain ⟨h1, _, _, _, h2⟩ := h
    rw [Int.zero_mul] at h1
    have := mul_zero_of hu h1
    have hm : m = prev := by omega
    subst hm
    exact ⟨[cur], rfl, hc, conv_zero hu hr.2 h2⟩
  | n :: ns, m :: ms, prev, x :: r, pre, cur, hr, hc, h => by
    obtain ⟨h1, s1, s2, s3, h2⟩ := h
    have hx : Is n x := hr.1
    obtain ⟨m1, hm1, im1⟩ := rmul_is hx s2 hu su h1
    obtain ⟨z, hz, iz⟩ := radd_is hc im1 s1 s3
    rw [show prev + (m - prev) = m by omega] at iz
    obtain ⟨x2, hx2, ix2⟩ := rmul_is (k := n) (r := R1) hx s2 Int.one_pos (by decide) (by simp [R1])
    obtain ⟨z2, hz2, iz2⟩ := radd_is Is.zero ix2 (by unfold Sm; omega) s2
    rw [Int.zero_add] at iz2
    obtain ⟨out, ho, po⟩ := rows_is hu su (r := r) (pre := pre ++ [z]) hr.2 iz2 h2
    refine ⟨z :: out, ?_, iz, po⟩
    rw [List.length_cons, List.replicate_succ]
    unfold qmulRows? qmulRow?
    rw [get_at]
    dsimp only
    rw [hm1]
    dsimp only
    rw [hz]
    dsimp only
    rw [set_at]
    unfold qmulRow?
    rw [show pre ++ z :: R0 :: List.replicate r.length R0 = (pre ++ [z]) ++ R0 :: List.replicate r.length R0 by simp, show pre.length + 1 = (pre ++ [z]).length by simp, get_at]
    dsimp only
    rw [hx2]
    dsimp only
    rw [hz2]
    dsimp only
    rw [set_at]
    unfold qmulRow?
    dsimp only
    rw [ho]
    simp
theorem qmul_is {u : Q2} (hu : 0 < u.2) (su : smQ u = true) {fs ms : List Int} {f : List Q2} (hf : PR f fs) (h : Conv u 0 fs ms) (hl : fs.length ≤ 100) : ∃ m, qmul? f [u, R1] = some m ∧ PR m ms := by
  cases f with
  | nil => exact ⟨[], rfl, conv_zero hu hf h⟩
  | cons x t =>
    obtain ⟨out, ho, po⟩ := rows_is hu su (pre := []) hf Is.zero h
    have hlen := hf.len
    refine ⟨out, ?_, po⟩
    unfold qmul?
    rw [if_neg (by simp), if_pos (by simp only [List.length_cons, List.length_nil] at hlen ⊢; omega)]
    rw [show (x :: t).length + [u, R1].length - 1 = (x :: t).length + 1 by simp, List.replicate_succ]
    exact ho
theorem qcompGo_append {b : List Q2} : ∀ (xs ys z : List Q2), qcomposeGo? b z (xs ++ ys) = match qcomposeGo? b z xs with
    | none => none
    | some u => qcomposeGo? b u ys
  | [], ys, z => rfl
  | x :: t, ys, z => by
    simp only [List.cons_append, qcomposeGo?]
    cases qmul? z b with
    | none => rfl
    | some m =>
      dsimp only
      cases qadd? m (qtrim [x]) with
      | none => rfl
      | some u => exact qcompGo_append t ys u
theorem qcomp_cons {b : List Q2} {x : Q2} {ps u : List Q2} (h : qcompose? ps b = some u) : qcompose? (x :: ps) b = qcomposeGo? b u [x] := by
  unfold qcompose? at h ⊢
  rw [List.reverse_cons, qcompGo_append, h]
/-- the polynomial ns at u plus the unknown is gs -/
noncomputable def CS (u : Q2) : List Int → List Int → Prop
  | [], gs => gs = []
  | n :: ns, gs => ∃ fs m ms, CS u ns fs ∧ Conv u 0 fs (m :: ms) ∧ SmL (m :: ms) ∧ Sm n ∧ fs.length ≤ 100 ∧ gs = (m + n) :: ms
theorem comp_zero {u : Q2} (hu : 0 < u.2) : ∀ {ns gs : List Int}, PR [] ns → CS u ns gs → PR [] gs
  | [], gs, _, h => by rw [show gs = [] from h]; rfl
  | n :: ns, gs, hn, h => by
    obtain ⟨fs, m, ms, h1, h2, _, _, _, rfl⟩ := h
    have h3 := comp_zero hu hn.2 h1
    have h4 := conv_zero hu h3 h2
    have e1 := hn.1.of_zero
    have e2 := h4.1.of_zero
    subst e1 e2
    exact ⟨Is.zero, h4.2⟩
theorem comp_is {u : Q2} (hu : 0 < u.2) (su : smQ u = true) : ∀ {ns gs : List Int} {ps : List Q2}, PR ps ns → CS u ns gs → ∃ g, qcompose? ps [u, R1] = some g ∧ PR g gs ∧ qtrim g = g
  | ns, gs, [], hp, h => ⟨[], rfl, comp_zero hu hp h, rfl⟩
  | [], gs, x :: t, hp, h => by cases hp
  | n :: ns, gs, x :: t, hp, h => by
    obtain ⟨fs, m, ms, h1, h2, h3, h4, h5, rfl⟩ := h
    obtain ⟨f, hf, pf, _⟩ := comp_is hu su (ps := t) hp.2 h1
    obtain ⟨w, hw, pw⟩ := qmul_is hu su pf h2 h5
    have hx : PR (qtrim [x]) (n :: zeros ms) := PR.trim ⟨hp.1, PR_zeros ms⟩
    obtain ⟨g, hg, pg, tg⟩ := qadd_is pw hx (show Add3 (m :: ms) (n :: zeros ms) ((m + n) :: ms) from ⟨rfl, Add3_zeros ms⟩) h3 ⟨h4, SmL_zeros ms⟩
    refine ⟨g, ?_, pg, tg⟩
    rw [qcomp_cons hf]
    unfold qcomposeGo? qcomposeGo?
    rw [hw]
    dsimp only
    rw [hg]
/-- n times the numbers s -/
noncomputable def RelQ (n : Int) : List Q2 → List Int → Prop
  | [], ks => PR [] ks
  | y :: s, k :: ks => 0 < y.2 ∧ smQ y = true ∧ k * y.2 = n * y.1 ∧ RelQ n s ks
  | _, _ => False
theorem relq_zero : ∀ {s : List Q2} {ks : List Int}, RelQ 0 s ks → PR [] ks
  | [], _, h => h
  | y :: s, k :: ks, h => by
    obtain ⟨h1, _, h2, h3⟩ := h
    rw [Int.zero_mul] at h2
    have := mul_zero_of h1 h2
    subst this
    exact ⟨Is.zero, relq_zero h3⟩
theorem mapq_is {n : Int} {x : Q2} (hx : Is n x) (sn : Sm n) : ∀ {s : List Q2} {ks : List Int}, RelQ n s ks → ∃ c, map? (fun y => rmul? y x) s = some c ∧ PR c ks
  | [], _, h => ⟨[], rfl, h⟩
  | y :: s, k :: ks, h => by
    obtain ⟨h1, h0, h2, h3⟩ := h
    obtain ⟨z, hz, iz⟩ := rmul_is' hx sn h1 h0 h2
    obtain ⟨c, hc, pc⟩ := mapq_is hx sn h3
    refine ⟨z :: c, ?_, iz, pc⟩
    unfold map?
    rw [show rmul? y x = some z from hz]
    dsimp only
    rw [hc]
theorem qscaleq_is {n : Int} {x : Q2} (hx : Is n x) (sn : Sm n) {s : List Q2} {ks : List Int} (h : RelQ n s ks) : ∃ c, qscale? s x = some c ∧ PR c ks := by
  unfold qscale?
  by_cases h0 : x.1 = 0
  · rw [if_pos h0]
    have := hx.num0 h0
    subst this
    exact ⟨[], rfl, relq_zero h⟩
  · rw [if_neg h0]
    exact mapq_is hx sn h
theorem add3_zero : ∀ {fs ks hs : List Int}, PR [] ks → Add3 fs ks hs → hs = fs
  | [], [], [], _, _ => rfl
  | f :: fs, k :: ks, h :: hs, hk, ha => by
    have h0 := hk.1.of_zero
    obtain ⟨h1, h2⟩ := ha
    rw [add3_zero hk.2 h2, h1, h0, Int.add_zero]
/-- from the sum fs on, the place i: the sum of the polynomial ns is gs -/
noncomputable def PS : List Int → Nat → List Int → List Int → Prop
  | fs, _, [], gs => gs = fs
  | fs, i, n :: ns, gs => ∃ s ks hs, psum? i = some s ∧ Sm n ∧ RelQ n s ks ∧ SmL fs ∧ SmL ks ∧ Add3 fs ks hs ∧ PS hs (i + 1) ns gs
theorem ps_is : ∀ {ns fs gs : List Int} {i : Nat} {ps found : List Q2}, PR ps ns → PR found fs → qtrim found = found → PS fs i ns gs → ∃ z, polySumGo? i ps found = some z ∧ PR z gs ∧ qtrim z = z
  | [], fs, gs, i, ps, found, hp, hf, tf, h => by
    rw [show ps = [] from hp, show gs = fs from h]
    exact ⟨found, rfl, hf, tf⟩
  | n :: ns, fs, gs, i, [], found, hp, hf, tf, h => by
    obtain ⟨s, ks, hs, _, _, h3, _, _, h6, h7⟩ := h
    have h0 := hp.1.of_zero
    subst h0
    rw [add3_zero (relq_zero h3) h6] at h7
    obtain ⟨z, hz, pz⟩ := ps_is (ps := []) hp.2 hf tf h7
    exact ⟨z, hz, pz⟩
  | n :: ns, fs, gs, i, x :: t, found, hp, hf, tf, h => by
    obtain ⟨s, ks, hs, h1, h2, h3, h4, h5, h6, h7⟩ := h
    have hx : Is n x := hp.1
    unfold polySumGo?
    by_cases hR : x = R0
    · rw [if_pos hR]
      rw [hR] at hx
      have h0 := hx.of_zero
      subst h0
      rw [add3_zero (relq_zero h3) h6] at h7
      exact ps_is (ps := t) hp.2 hf tf h7
    · rw [if_neg hR, h1]
      dsimp only
      obtain ⟨c, hc, pc⟩ := qscaleq_is hx h2 h3
      rw [hc]
      dsimp only
      obtain ⟨g, hg, pg, tg⟩ := qadd_is hf pc h6 h4 h5
      rw [hg]
      dsimp only
      exact ps_is (ps := t) hp.2 pg tg h7
theorem turn_is {row : List Q2} {j place : Nat} {by0 by1 : Int} {b r1 r2 : Q2} {wh ha sl on : List Q2} {W A O W' A' O' S' X1 X2 X3 ks : List Int} {n : Int} {S : List Int} (hb : row[place]? = some b) (hby : by1 = by0 * (place : Int))
    (t1 : sm by0 = true) (t2 : sm by1 = true) (t3 : smQ b = true) (t4 : sm (b.1 * (2 - 2 ^ place)) = true) (t5 : sm (b.2 * by1) = true)
    (e1 : rat? b.1 (b.2 * by1) = some r1) (e2 : rat? (b.1 * (2 - 2 ^ place)) (b.2 * by1 * 2 ^ place) = some r2)
    (g1 : 0 < r1.2) (g1' : smQ r1 = true) (g2 : 0 < r2.2) (g2' : smQ r2 = true) (g3 : 0 < by1) (g3' : smQ (1, by1) = true)
    (hw : PR wh W) (hh : PR ha A) (hsl : PR sl (n :: S)) (ho : PR on O) (x1 : Scal r1 (n :: S) X1) (x2 : Scal r2 (n :: S) X2) (hd : Deri 0 (n :: S) (0 :: ks)) (hS : S' = ks ++ [0]) (x3 : Scal (1, by1) S' X3)
    (a1 : Add3 W X1 W') (a2 : Add3 A X2 A') (a3 : Add3 O X3 O') (s1 : SmL W) (s2 : SmL A) (s3 : SmL (n :: S)) (s4 : SmL O) (s5 : SmL X1) (s6 : SmL X2) (s7 : SmL X3) (s8 : SmL S') (hl : S.length ≤ 100) :
    ∃ wh' ha' sl' on', (∀ z, LawGo row z j (place + 1) by1 wh' ha' sl' on' → LawGo row z (j + 1) place by0 wh ha sl on) ∧ PR wh' W' ∧ PR ha' A' ∧ PR sl' S' ∧ PR on' O' ∧ qtrim on' = on' := by
  subst hby
  obtain ⟨u1, hu1, pu1⟩ := qscale_is hsl x1 s3 g1 g1'
  obtain ⟨u2, hu2, pu2⟩ := qscale_is hsl x2 s3 g2 g2'
  obtain ⟨w', hw', pw', _⟩ := qadd_is hw pu1 a1 s1 s5
  obtain ⟨h', hh', ph', _⟩ := qadd_is hh pu2 a2 s2 s6
  obtain ⟨d', hd', pd'⟩ := qderive_is hsl hd s3 hl
  have pd2 : PR d' S' := by rw [hS]; exact pd'.snoc0
  obtain ⟨u3, hu3, pu3⟩ := qscale_is pd2 x3 s8 g3 g3'
  obtain ⟨o', ho', po', to'⟩ := qadd_is ho pu3 a3 s4 s7
  exact ⟨w', h', d', o', fun z hz => ⟨b, r1, u1, w', r2, u2, h', d', u3, o', hb, t1, t2, t3, t4, t5, e1, hu1, hw', e2, hu2, hh', hd', hu3, ho', hz⟩, pw', ph', pd2, po', to'⟩

end Mine
end

section
-- part LawQ
set_option maxRecDepth 100000
set_option maxHeartbeats 8000000
namespace Mine
set_option linter.unusedVariables false
/-- a number of the law by its parts of the four numbers of p -/
abbrev V4 := Int × Int × Int × Int
noncomputable def ev (c f : V4) : Int := f.1 * c.1 + f.2.1 * c.2.1 + f.2.2.1 * c.2.2.1 + f.2.2.2 * c.2.2.2
noncomputable abbrev evL (c : V4) (fs : List V4) : List Int := fs.map (ev c)
noncomputable def Bnd (c : V4) : Prop := -3 ≤ c.1 ∧ c.1 ≤ 3 ∧ -3 ≤ c.2.1 ∧ c.2.1 ≤ 3 ∧ -3 ≤ c.2.2.1 ∧ c.2.2.1 ≤ 3 ∧ -3 ≤ c.2.2.2 ∧ c.2.2.2 ≤ 3
noncomputable def z4 : V4 := (0, 0, 0, 0)
theorem ev_z (c : V4) : ev c z4 = 0 := by simp [ev, z4]
noncomputable def add4 (f g : V4) : V4 := (f.1 + g.1, f.2.1 + g.2.1, f.2.2.1 + g.2.2.1, f.2.2.2 + g.2.2.2)
theorem ev_add (c f g : V4) : ev c (add4 f g) = ev c f + ev c g := by simp only [ev, add4]; grind
/-- by a ratio -/
noncomputable def sc4 (r : Q2) (f : V4) : V4 := (f.1 * r.1 / r.2, f.2.1 * r.1 / r.2, f.2.2.1 * r.1 / r.2, f.2.2.2 * r.1 / r.2)
noncomputable def okSc (r : Q2) (f : V4) : Bool := let k := sc4 r f; decide (k.1 * r.2 = f.1 * r.1) && decide (k.2.1 * r.2 = f.2.1 * r.1) && decide (k.2.2.1 * r.2 = f.2.2.1 * r.1) && decide (k.2.2.2 * r.2 = f.2.2.2 * r.1)
theorem ev_sc {c f : V4} {r : Q2} (h : okSc r f = true) : ev c (sc4 r f) * r.2 = ev c f * r.1 := by
  unfold okSc at h
  simp only [Bool.and_eq_true, decide_eq_true_eq] at h
  obtain ⟨⟨⟨h1, h2⟩, h3⟩, h4⟩ := h
  unfold ev
  grind
noncomputable def smB (f : V4) : Bool := decide (f.1.natAbs < 1000000) && decide (f.2.1.natAbs < 1000000) && decide (f.2.2.1.natAbs < 1000000) && decide (f.2.2.2.natAbs < 1000000)
theorem mul_bnd {a c : Int} (h : a.natAbs < 1000000) (h1 : -3 ≤ c) (h2 : c ≤ 3) : (a * c).natAbs ≤ 1000000 * 3 := by
  rw [Int.natAbs_mul]
  exact Nat.mul_le_mul (Nat.le_of_lt h) (by omega)
theorem sm_abs {n : Int} (h : n.natAbs ≤ (1000000 * 3 + 1000000 * 3 + 1000000 * 3 + 1000000 * 3) * 1000) : Sm n := by
  unfold Sm
  omega
theorem ev_sm {c f : V4} (hc : Bnd c) (h : smB f = true) (k : Int) (hk : k.natAbs ≤ 1000) : Sm (ev c f) ∧ Sm (ev c f * k) := by
  unfold smB at h
  simp only [Bool.and_eq_true, decide_eq_true_eq] at h
  have m1 := mul_bnd h.1.1.1 hc.1 hc.2.1
  have m2 := mul_bnd h.1.1.2 hc.2.2.1 hc.2.2.2.1
  have m3 := mul_bnd h.1.2 hc.2.2.2.2.1 hc.2.2.2.2.2.1
  have m4 := mul_bnd h.2 hc.2.2.2.2.2.2.1 hc.2.2.2.2.2.2.2
  have hv : (ev c f).natAbs ≤ 1000000 * 3 + 1000000 * 3 + 1000000 * 3 + 1000000 * 3 :=
    Nat.le_trans (Int.natAbs_add_le _ _) (Nat.add_le_add (Nat.le_trans (Int.natAbs_add_le _ _) (Nat.add_le_add (Nat.le_trans (Int.natAbs_add_le _ _) (Nat.add_le_add m1 m2)) m3)) m4)
  refine ⟨sm_abs (Nat.le_trans hv (Nat.le_mul_of_pos_right _ (by decide))), sm_abs ?_⟩
  rw [Int.natAbs_mul]
  exact Nat.mul_le_mul hv hk
theorem smL_is {c : V4} (hc : Bnd c) : ∀ {fs : List V4}, fs.all smB = true → SmL (evL c fs)
  | [], _ => trivial
  | f :: fs, h => by
    rw [List.all_cons, Bool.and_eq_true] at h
    exact ⟨(ev_sm hc h.1 0 (by decide)).1, smL_is hc h.2⟩
theorem scal_is {c : V4} {r : Q2} : ∀ {fs : List V4}, fs.all (okSc r) = true → Scal r (evL c fs) (evL c (fs.map (sc4 r)))
  | [], _ => trivial
  | f :: fs, h => by
    rw [List.all_cons, Bool.and_eq_true] at h
    exact ⟨ev_sc h.1, scal_is h.2⟩
noncomputable def addL : List V4 → List V4 → List V4
  | f :: fs, g :: gs => add4 f g :: addL fs gs
  | _, _ => []
theorem add_is {c : V4} : ∀ {fs gs : List V4}, (fs.length == gs.length) = true → Add3 (evL c fs) (evL c gs) (evL c (addL fs gs))
  | [], [], _ => trivial
  | f :: fs, g :: gs, h => ⟨ev_add c f g, add_is (by simpa using h)⟩
noncomputable def derL : Int → List V4 → List V4
  | _, [] => []
  | i, f :: fs => sc4 (i, 1) f :: derL (i + 1) fs
theorem sc_int (c f : V4) (i : Int) : ev c (sc4 (i, 1) f) = ev c f * i := by
  unfold ev sc4
  simp only [Int.ediv_one]
  grind
theorem deri_is {c : V4} : ∀ {fs : List V4} {i : Int}, Deri i (evL c fs) (evL c (derL i fs))
  | [], _ => trivial
  | f :: fs, i => ⟨sc_int c f i, deri_is⟩
noncomputable def intL : Int → List V4 → List V4
  | _, [] => []
  | i, f :: fs => sc4 (1, i + 1) f :: intL (i + 1) fs
noncomputable def okInt : Int → List V4 → Bool
  | _, [] => true
  | i, f :: fs => okSc (1, i + 1) f && okInt (i + 1) fs
theorem inte_is {c : V4} : ∀ {fs : List V4} {i : Int}, okInt i fs = true → Inte i (evL c fs) (evL c (intL i fs))
  | [], _, _ => trivial
  | f :: fs, i, h => by
    unfold okInt at h
    rw [Bool.and_eq_true] at h
    have := ev_sc (c := c) h.1
    exact ⟨by simpa using this, inte_is h.2⟩
noncomputable def hor (r : Int) : List V4 → V4
  | [] => z4
  | f :: fs => add4 (sc4 (r, 1) (hor r fs)) f
noncomputable def okHor (r : Int) : List V4 → Bool
  | [] => true
  | f :: fs => smB (hor r fs) && smB f && okHor r fs
theorem hor_is {c : V4} {r : Int} : ∀ {fs : List V4}, H r (evL c fs) = ev c (hor r fs)
  | [] => (ev_z c).symm
  | f :: fs => by
    show H r (evL c fs) * r + ev c f = _
    rw [hor_is]
    show _ = ev c (add4 (sc4 (r, 1) (hor r fs)) f)
    rw [ev_add, sc_int]
theorem hb_is {c : V4} (hc : Bnd c) {r : Int} (hr : r.natAbs ≤ 1000) : ∀ {fs : List V4}, okHor r fs = true → HB r (evL c fs)
  | [], _ => trivial
  | f :: fs, h => by
    unfold okHor at h
    rw [Bool.and_eq_true, Bool.and_eq_true] at h
    have h1 := ev_sm hc h.1.1 r hr
    refine ⟨?_, ?_, (ev_sm hc h.1.2 0 (by decide)).1, hb_is hc hr h.2⟩
    · show Sm (H r (evL c fs)); rw [hor_is]; exact h1.1
    · show Sm (H r (evL c fs) * r); rw [hor_is]; exact h1.2
noncomputable def conL (u : Q2) : V4 → List V4 → List V4
  | p, [] => [p]
  | p, f :: fs => add4 p (sc4 u f) :: conL u f fs
noncomputable def okCon (u : Q2) : V4 → List V4 → Bool
  | _, [] => true
  | p, f :: fs => okSc u f && smB p && smB f && smB (sc4 u f) && okCon u f fs
theorem conv_is {c : V4} (hc : Bnd c) {u : Q2} : ∀ {fs : List V4} {p : V4}, okCon u p fs = true → Conv u (ev c p) (evL c fs) (evL c (conL u p fs))
  | [], _, _ => rfl
  | f :: fs, p, h => by
    unfold okCon at h
    simp only [Bool.and_eq_true] at h
    obtain ⟨⟨⟨⟨h1, h2⟩, h3⟩, h4⟩, h5⟩ := h
    have e : ev c (add4 p (sc4 u f)) - ev c p = ev c (sc4 u f) := by rw [ev_add]; omega
    refine ⟨?_, (ev_sm hc h2 0 (by decide)).1, (ev_sm hc h3 0 (by decide)).1, ?_, conv_is hc h5⟩
    · rw [e]; exact ev_sc h1
    · rw [e]; exact (ev_sm hc h4 0 (by decide)).1
noncomputable def comL (u : Q2) : List V4 → List V4
  | [] => []
  | f :: fs => match conL u z4 (comL u fs) with
    | [] => []
    | m :: ms => add4 m f :: ms
noncomputable def okCom (u : Q2) : List V4 → Bool
  | [] => true
  | f :: fs => okCon u z4 (comL u fs) && (conL u z4 (comL u fs)).all smB && smB f && Nat.ble (comL u fs).length 100 && okCom u fs
theorem cs_is {c : V4} (hc : Bnd c) {u : Q2} : ∀ {fs : List V4}, okCom u fs = true → CS u (evL c fs) (evL c (comL u fs))
  | [], _ => rfl
  | f :: fs, h => by
    unfold okCom at h
    simp only [Bool.and_eq_true] at h
    obtain ⟨⟨⟨⟨h1, h2⟩, h3⟩, h4⟩, h5⟩ := h
    have hv := conv_is hc h1
    rw [ev_z] at hv
    have hs := smL_is hc h2
    cases e : conL u z4 (comL u fs) with
    | nil => cases hh : comL u fs with
      | nil => rw [hh] at e; cases e
      | cons a b => rw [hh] at e; cases e
    | cons m ms =>
      rw [e] at hv hs
      refine ⟨evL c (comL u fs), ev c m, evL c ms, cs_is hc h5, hv, hs, (ev_sm hc h3 0 (by decide)).1, by simpa using Nat.le_of_ble_eq_true h4, ?_⟩
      unfold comL
      rw [e]
      show ev c (add4 m f) :: _ = _
      rw [ev_add]
noncomputable def relL (f : V4) : List Q2 → List V4
  | [] => []
  | y :: s => sc4 y f :: relL f s
noncomputable def okRel (f : V4) : List Q2 → Bool
  | [] => true
  | y :: s => okSc y f && decide (0 < y.2) && smQ y && okRel f s
theorem rel_is {c f : V4} : ∀ {s : List Q2} {n : Nat}, okRel f s = true → RelQ (ev c f) s (evL c (relL f s ++ List.replicate n z4))
  | [], n, _ => by
    show PR [] _
    induction n with
    | zero => rfl
    | succ n ih => exact ⟨by rw [ev_z]; exact Is.zero, ih⟩
  | y :: s, n, h => by
    unfold okRel at h
    simp only [Bool.and_eq_true, decide_eq_true_eq] at h
    exact ⟨h.1.1.2, h.1.2, ev_sc h.1.1.1, rel_is h.2⟩
noncomputable def psT : Nat → List Q2
  | 0 => [(0, 1), (1, 1)]
  | 1 => [(0, 1), (-1, 2), (1, 2)]
  | 2 => [(0, 1), (1, 6), (-1, 2), (1, 3)]
  | _ => [(0, 1), (0, 1), (1, 4), (-1, 2), (1, 4)]
theorem psT_is : ∀ i, i < 4 → psum? i = some (psT i)
  | 0, _ => by decide +kernel
  | 1, _ => by decide +kernel
  | 2, _ => by decide +kernel
  | 3, _ => by decide +kernel
  | _ + 4, h => by omega
noncomputable def psK (f : V4) (i : Nat) : List V4 := relL f (psT i) ++ List.replicate (3 - i) z4
noncomputable def psL : List V4 → Nat → List V4 → List V4
  | fs, _, [] => fs
  | fs, i, n :: ns => psL (addL fs (psK n i)) (i + 1) ns
noncomputable def okPs : List V4 → Nat → List V4 → Bool
  | _, _, [] => true
  | fs, i, n :: ns => Nat.blt i 4 && smB n && okRel n (psT i) && fs.all smB && (psK n i).all smB && (fs.length == (psK n i).length) && okPs (addL fs (psK n i)) (i + 1) ns
theorem psv_is {c : V4} (hc : Bnd c) : ∀ {ns fs : List V4} {i : Nat}, okPs fs i ns = true → PS (evL c fs) i (evL c ns) (evL c (psL fs i ns))
  | [], _, _, _ => rfl
  | n :: ns, fs, i, h => by
    unfold okPs at h
    simp only [Bool.and_eq_true] at h
    obtain ⟨⟨⟨⟨⟨⟨h1, h2⟩, h3⟩, h4⟩, h5⟩, h6⟩, h7⟩ := h
    exact ⟨psT i, _, _, psT_is i (Nat.le_of_ble_eq_true h1), (ev_sm hc h2 0 (by decide)).1, rel_is h3, smL_is hc h4, smL_is hc h5, add_is h6, psv_is hc h7⟩
/-- whole, halves, slope, onward between the turns -/
structure Stt where
  W : List V4
  A : List V4
  S : List V4
  O : List V4
noncomputable def turnV (r1 r2 : Q2) (by1 : Int) (t : Stt) : Stt :=
  let S' := (derL 0 t.S).tail ++ [z4]
  ⟨addL t.W (t.S.map (sc4 r1)), addL t.A (t.S.map (sc4 r2)), S', addL t.O (S'.map (sc4 (1, by1)))⟩
noncomputable def okTurn (r1 r2 : Q2) (by1 : Int) (t : Stt) : List Bool :=
  let S' := (derL 0 t.S).tail ++ [z4]
  [t.S.all (okSc r1), t.S.all (okSc r2), S'.all (okSc (1, by1)), t.W.all smB, t.A.all smB, t.S.all smB, t.O.all smB, (t.S.map (sc4 r1)).all smB, (t.S.map (sc4 r2)).all smB, (S'.map (sc4 (1, by1))).all smB, S'.all smB,
    (t.W.length == (t.S.map (sc4 r1)).length), (t.A.length == (t.S.map (sc4 r2)).length), (t.O.length == (S'.map (sc4 (1, by1))).length), Nat.ble t.S.length 100, !t.S.isEmpty]
noncomputable def okLit (place : Nat) (by0 by1 : Int) (b r1 r2 : Q2) : List Bool :=
  [decide (by1 = by0 * (place : Int)), sm by0, sm by1, smQ b, sm (b.1 * (2 - 2 ^ place)), sm (b.2 * by1), decide (rat? b.1 (b.2 * by1) = some r1), decide (rat? (b.1 * (2 - 2 ^ place)) (b.2 * by1 * 2 ^ place) = some r2),
    decide (0 < r1.2), smQ r1, decide (0 < r2.2), smQ r2, decide (0 < by1), smQ (1, by1)]
theorem at_ok {l : List Bool} (h : l.all id = true) (n : Nat) {x : Bool} (e : l[n]? = some x) : x = true := List.all_eq_true.mp h x (List.mem_of_getElem? e)
theorem at_dec {l : List Bool} (h : l.all id = true) (n : Nat) {P : Prop} [Decidable P] (e : l[n]? = some (decide P)) : P := of_decide_eq_true (at_ok h n e)
theorem turn_v {c : V4} (hc : Bnd c) {row : List Q2} {j place : Nat} {by0 by1 : Int} {b r1 r2 : Q2} {wh ha sl on : List Q2} {t : Stt} (hb : row[place]? = some b) (hl : (okLit place by0 by1 b r1 r2).all id = true) (ht : (okTurn r1 r2 by1 t).all id = true)
    (hw : PR wh (evL c t.W)) (hh : PR ha (evL c t.A)) (hs : PR sl (evL c t.S)) (ho : PR on (evL c t.O)) :
    ∃ wh' ha' sl' on', (∀ z, LawGo row z j (place + 1) by1 wh' ha' sl' on' → LawGo row z (j + 1) place by0 wh ha sl on) ∧ PR wh' (evL c (turnV r1 r2 by1 t).W) ∧ PR ha' (evL c (turnV r1 r2 by1 t).A) ∧ PR sl' (evL c (turnV r1 r2 by1 t).S) ∧ PR on' (evL c (turnV r1 r2 by1 t).O) ∧ qtrim on' = on' := by
  obtain ⟨W, A, S, O⟩ := t
  cases S with
  | nil => exact Bool.noConfusion (show false = true from at_ok ht 15 rfl)
  | cons n S =>
    have hd : Deri 0 (ev c n :: evL c S) (0 :: evL c (derL 1 S)) := ⟨(Int.mul_zero _).symm, deri_is⟩
    exact turn_is hb (at_dec hl 0 rfl) (at_ok hl 1 rfl) (at_ok hl 2 rfl) (at_ok hl 3 rfl) (at_ok hl 4 rfl) (at_ok hl 5 rfl) (at_dec hl 6 rfl) (at_dec hl 7 rfl) (at_dec hl 8 rfl) (at_ok hl 9 rfl) (at_dec hl 10 rfl) (at_ok hl 11 rfl) (at_dec hl 12 rfl) (at_ok hl 13 rfl) hw hh hs ho
      (scal_is (at_ok ht 0 rfl)) (scal_is (at_ok ht 1 rfl)) hd (by rw [← ev_z c]; simp [turnV, derL]) (scal_is (at_ok ht 2 rfl)) (add_is (at_ok ht 11 rfl)) (add_is (at_ok ht 12 rfl)) (add_is (at_ok ht 13 rfl))
      (smL_is hc (at_ok ht 3 rfl)) (smL_is hc (at_ok ht 4 rfl)) (smL_is hc (at_ok ht 5 rfl)) (smL_is hc (at_ok ht 6 rfl)) (smL_is hc (at_ok ht 7 rfl)) (smL_is hc (at_ok ht 8 rfl)) (smL_is hc (at_ok ht 9 rfl)) (smL_is hc (at_ok ht 10 rfl))
      (by have := Nat.le_of_ble_eq_true (at_ok ht 14 rfl); simp at this ⊢; omega)
noncomputable def e0 : V4 := (960, 0, 0, 0)
noncomputable def e1 : V4 := (0, 960, 0, 0)
noncomputable def e2 : V4 := (0, 0, 960, 0)
noncomputable def e3 : V4 := (0, 0, 0, 960)
noncomputable def pV : List V4 := [e0, e1, e2, e3]
noncomputable def wV : List V4 := z4 :: intL 0 pV
noncomputable def t0 : Stt := ⟨wV, wV, pV ++ [z4], pV ++ [z4]⟩
noncomputable def t1 : Stt := turnV (-1, 2) (0, 1) 1 t0
noncomputable def t2 : Stt := turnV (1, 12) (-1, 24) 2 t1
noncomputable def t3 : Stt := turnV (0, 1) (0, 1) 6 t2
noncomputable def t4 : Stt := turnV (-1, 720) (7, 5760) 24 t3
noncomputable def z5 : List V4 := List.replicate 5 z4
noncomputable def toldV : List V4 := psL z5 0 pV
noncomputable def halfV : List V4 := comL (1, 2) pV
noncomputable def halfS : List V4 := psL z5 0 halfV
noncomputable def unitV : List V4 := comL (1, 1) pV
/-- what the law needs of the numbers cs -/
inductive Facts (cs : List Int) : Prop
  | mk (row whole0 wh ha on told w1 : List Q2) (v3 : Q2) (c1 t1 w2 c2 : List Q2) (h1 : bern? (cs.length - 1 + 1) = some row) (h2 : qintegral? (whole cs) = some whole0)
    (h3 : LawGo row (wh, ha, on) (cs.length - 1 + 1) 1 1 whole0 whole0 (whole cs) (whole cs)) (h4 : polySum? (whole cs) = some told) (h5 : withoutLast? wh = some w1)
    (h6 : qat? told (3, 1) = some v3) (h7 : qcompose? (whole cs) [(1, 2), (1, 1)] = some c1) (h8 : polySum? c1 = some t1) (h9 : withoutLast? ha = some w2) (h10 : qcompose? (whole cs) [(1, 1), (1, 1)] = some c2)
    (q1 : told = w1) (q2 : v3 = (valAt cs 0 + valAt cs 1 + valAt cs 2, 1)) (q3 : t1 = w2) (q4 : c2 = on) (hl : c1.length ≤ 49)
theorem pr_whole : ∀ {cs : List Int} {ns : List Int}, ns = cs.map (960 * ·) → PR (whole cs) ns
  | [], _, h => by rw [h]; rfl
  | c :: cs, _, h => by rw [h]; exact ⟨Is.whole c, pr_whole rfl⟩
noncomputable def eqV (n : Nat) : List V4 → List V4 → Bool
  | [], [] => true
  | f :: fs, g :: gs => decide (f.1 = g.1) && decide (f.2.1 = g.2.1) && (Nat.blt n 2 || decide (f.2.2.1 = g.2.2.1)) && (Nat.blt n 3 || decide (f.2.2.2 = g.2.2.2)) && eqV n fs gs
  | _, _ => false
noncomputable def Deg (n : Nat) (c : V4) : Prop := (n < 2 → c.2.2.1 = 0) ∧ (n < 3 → c.2.2.2 = 0)
theorem eqV_is {n : Nat} {c : V4} (hd : Deg n c) : ∀ {fs gs : List V4}, eqV n fs gs = true → evL c fs = evL c gs
  | [], [], _ => rfl
  | f :: fs, g :: gs, h => by
    unfold eqV at h
    simp only [Bool.and_eq_true, Bool.or_eq_true, decide_eq_true_eq] at h
    obtain ⟨⟨⟨⟨h1, h2⟩, h3⟩, h4⟩, h5⟩ := h
    have e3 : f.2.2.1 * c.2.2.1 = g.2.2.1 * c.2.2.1 := by
      rcases h3 with h3 | h3
      · rw [hd.1 (Nat.le_of_ble_eq_true h3), Int.mul_zero, Int.mul_zero]
      · rw [h3]
    have e4 : f.2.2.2 * c.2.2.2 = g.2.2.2 * c.2.2.2 := by
      rcases h4 with h4 | h4
      · rw [hd.2 (Nat.le_of_ble_eq_true h4), Int.mul_zero, Int.mul_zero]
      · rw [h4]
    show ev c f :: evL c fs = ev c g :: evL c gs
    rw [eqV_is hd h5]
    unfold ev
    rw [h1, h2, e3, e4]
theorem hz5 (c : V4) : PR [] (evL c z5) := by
  show PR [] [ev c z4, ev c z4, ev c z4, ev c z4, ev c z4]
  rw [ev_z]
  exact ⟨Is.zero, Is.zero, Is.zero, Is.zero, Is.zero, rfl⟩
/-- the loop's end told: the law holds -/
theorem facts_of {c : V4} (hc : Bnd c) {n : Nat} (hd : Deg n c) {cs : List Int} {row whole0 wh ha on : List Q2} {w a : V4} {W A O : List V4} (hp : PR (whole cs) (evL c pV)) (hb : bern? (cs.length - 1 + 1) = some row) (hi : qintegral? (whole cs) = some whole0)
    (hg : LawGo row (wh, ha, on) (cs.length - 1 + 1) 1 1 whole0 whole0 (whole cs) (whole cs)) (hw : PR wh (evL c (w :: W))) (hh : PR ha (evL c (a :: A))) (ho : PR on (evL c O)) (to : qtrim on = on)
    (k : (okHor 0 (w :: W) && okHor 0 (a :: A) && (w :: W).all smB && (a :: A).all smB && eqV n toldV (z4 :: W) && eqV n halfS (z4 :: A) && eqV n (unitV ++ [z4]) O) = true)
    (q2 : ev c (2880, 2880, 4800, 8640) = 960 * (valAt cs 0 + valAt cs 1 + valAt cs 2)) : Facts cs := by
  simp only [Bool.and_eq_true] at k
  obtain ⟨⟨⟨⟨⟨⟨k1, k2⟩, k3⟩, k4⟩, q1⟩, q3⟩, q4⟩ := k
  obtain ⟨told, a1, a2, a3⟩ := ps_is hp (hz5 c) rfl (psv_is hc (show okPs z5 0 pV = true by decide +kernel))
  obtain ⟨v3, v1, v2⟩ := qat_is (r := 3) (by decide) (by decide) a2 (hb_is hc (by decide) (show okHor 3 toldV = true by decide +kernel))
  obtain ⟨c1, b1, b2, _⟩ := comp_is (u := (1, 2)) (by decide) (by decide) hp (cs_is hc (show okCom (1, 2) pV = true by decide +kernel))
  obtain ⟨s1, d1, d2, d3⟩ := ps_is b2 (hz5 c) rfl (psv_is hc (show okPs z5 0 halfV = true by decide +kernel))
  obtain ⟨c2, f1, f2, f3⟩ := comp_is (u := (1, 1)) (by decide) (by decide) hp (cs_is hc (show okCom (1, 1) pV = true by decide +kernel))
  obtain ⟨w1, g1, g2, g3⟩ := withoutLast_is (n := ev c w) (ns := evL c W) hw (hb_is hc (by decide) k1) (smL_is hc k3)
  obtain ⟨w2, j1, j2, j3⟩ := withoutLast_is (n := ev c a) (ns := evL c A) hh (hb_is hc (by decide) k2) (smL_is hc k4)
  have z : ∀ fs, evL c (z4 :: fs) = 0 :: evL c fs := fun fs => by show ev c z4 :: _ = _; rw [ev_z]
  refine ⟨row, whole0, wh, ha, on, told, w1, v3, c1, s1, w2, c2, hb, hi, hg, a1, g1, v1, b1, d1, j1, f1, ?_, ?_, ?_, ?_, Nat.le_trans b2.len (by rw [List.length_map]; decide +kernel)⟩
  · exact (a2.cast ((eqV_is hd q1).trans (z W))).eq g2 a3 g3
  · refine v2.uniq ?_
    show Is (H 3 (evL c toldV)) _
    rw [hor_is, show hor 3 toldV = (2880, 2880, 4800, 8640) by decide +kernel, q2]
    exact Is.whole _
  · exact (d2.cast ((eqV_is hd q3).trans (z A))).eq j2 d3 j3
  · refine (f2.snoc0.cast ?_).eq ho f3 to
    rw [← eqV_is hd q4]
    show _ = List.map (ev c) (unitV ++ [z4])
    rw [List.map_append]
    show _ = _ ++ [ev c z4]
    rw [ev_z]
    rfl
theorem int_is {c : V4} (hc : Bnd c) {cs : List Int} (hp : PR (whole cs) (evL c pV)) (hl : cs.length ≤ 4) : ∃ w, qintegral? (whole cs) = some w ∧ PR w (evL c wV) := by
  obtain ⟨w, h1, h2⟩ := qintegral_is hp (inte_is (i := 0) (show okInt 0 pV = true by decide +kernel)) (smL_is hc (by decide +kernel)) (by rw [List.length_map]; decide) (by rw [List.length_map]; omega)
  refine ⟨w, h1, ?_⟩
  show PR w (ev c z4 :: evL c (intL 0 pV))
  rw [ev_z]
  exact h2
theorem p5 {c : V4} {cs : List Int} (hp : PR (whole cs) (evL c pV)) : PR (whole cs) (evL c (pV ++ [z4])) := by
  have := hp.snoc0
  rw [← ev_z c] at this
  simpa using this
theorem evp (a b c d : Int) : evL (a, b, c, d) pV = [960 * a, 960 * b, 960 * c, 960 * d] := by simp [evL, ev, pV, e0, e1, e2, e3]
theorem bnd0 : -3 ≤ (0 : Int) ∧ (0 : Int) ≤ 3 := by decide
theorem bnd {a b c d : Int} (ha : -3 ≤ a ∧ a ≤ 3) (hb : -3 ≤ b ∧ b ≤ 3) (hc : -3 ≤ c ∧ c ≤ 3) (hd : -3 ≤ d ∧ d ≤ 3) : Bnd (a, b, c, d) := ⟨ha.1, ha.2, hb.1, hb.2, hc.1, hc.2, hd.1, hd.2⟩
theorem law_1 {a b : Int} (ha : -3 ≤ a ∧ a ≤ 3) (hb : -3 ≤ b ∧ b ≤ 3) : Facts [a, b] := by
  have hc := bnd ha hb bnd0 bnd0
  have hp : PR (whole [a, b]) (evL (a, b, 0, 0) pV) := by rw [evp]; exact ⟨Is.whole a, Is.whole b, Is.zero, Is.zero, rfl⟩
  obtain ⟨w0, i1, i2⟩ := int_is hc hp (by simp)
  obtain ⟨w1, h1, s1, o1, f1, x1, y1, z1, n1, _⟩ := turn_v (j := 1) hc (row := [(1, 1), (-1, 2), (1, 6)]) (place := 1) (by0 := 1) rfl (by decide +kernel) (show (okTurn (-1, 2) (0, 1) 1 t0).all id = true by decide +kernel) i2 i2 (p5 hp) (p5 hp)
  obtain ⟨w2, h2, s2, o2, f2, x2, y2, z2, n2, m2⟩ := turn_v (j := 0) hc (row := [(1, 1), (-1, 2), (1, 6)]) (place := 2) (by0 := 1) rfl (by decide +kernel) (show (okTurn (1, 12) (-1, 24) 2 t1).all id = true by decide +kernel) x1 y1 z1 n1
  exact facts_of hc (n := 1) ⟨fun _ => rfl, fun _ => rfl⟩ hp (show bern? 2 = _ by decide +kernel) i1 (f1 _ (f2 _ rfl)) x2 y2 n2 m2 (by decide +kernel) (by simp [ev, valAt]; omega)
theorem law_2 {a b d : Int} (ha : -3 ≤ a ∧ a ≤ 3) (hb : -3 ≤ b ∧ b ≤ 3) (hd : -3 ≤ d ∧ d ≤ 3) : Facts [a, b, d] := by
  have hc := bnd ha hb hd bnd0
  have hp : PR (whole [a, b, d]) (evL (a, b, d, 0) pV) := by rw [evp]; exact ⟨Is.whole a, Is.whole b, Is.whole d, Is.zero, rfl⟩
  obtain ⟨w0, i1, i2⟩ := int_is hc hp (by simp)
  obtain ⟨w1, h1, s1, o1, f1, x1, y1, z1, n1, _⟩ := turn_v (j := 2) hc (row := [(1, 1), (-1, 2), (1, 6), (0, 1)]) (place := 1) (by0 := 1) rfl (by decide +kernel) (show (okTurn (-1, 2) (0, 1) 1 t0).all id = true by decide +kernel) i2 i2 (p5 hp) (p5 hp)
  obtain ⟨w2, h2, s2, o2, f2, x2, y2, z2, n2, _⟩ := turn_v (j := 1) hc (row := [(1, 1), (-1, 2), (1, 6), (0, 1)]) (place := 2) (by0 := 1) rfl (by decide +kernel) (show (okTurn (1, 12) (-1, 24) 2 t1).all id = true by decide +kernel) x1 y1 z1 n1
  obtain ⟨w3, h3, s3, o3, f3, x3, y3, z3, n3, m3⟩ := turn_v (j := 0) hc (row := [(1, 1), (-1, 2), (1, 6), (0, 1)]) (place := 3) (by0 := 2) rfl (by decide +kernel) (show (okTurn (0, 1) (0, 1) 6 t2).all id = true by decide +kernel) x2 y2 z2 n2
  exact facts_of hc (n := 2) ⟨fun h => absurd h (by decide), fun _ => rfl⟩ hp (show bern? 3 = _ by decide +kernel) i1 (f1 _ (f2 _ (f3 _ rfl))) x3 y3 n3 m3 (by decide +kernel) (by simp [ev, valAt]; omega)
theorem law_3 {a b d e : Int} (ha : -3 ≤ a ∧ a ≤ 3) (hb : -3 ≤ b ∧ b ≤ 3) (hd : -3 ≤ d ∧ d ≤ 3) (he : -3 ≤ e ∧ e ≤ 3) : Facts [a, b, d, e] := by
  have hc := bnd ha hb hd he
  have hp : PR (whole [a, b, d, e]) (evL (a, b, d, e) pV) := by rw [evp]; exact ⟨Is.whole a, Is.whole b, Is.whole d, Is.whole e, rfl⟩
  obtain ⟨w0, i1, i2⟩ := int_is hc hp (by simp)
  obtain ⟨w1, h1, s1, o1, f1, x1, y1, z1, n1, _⟩ := turn_v (j := 3) hc (row := [(1, 1), (-1, 2), (1, 6), (0, 1), (-1, 30)]) (place := 1) (by0 := 1) rfl (by decide +kernel) (show (okTurn (-1, 2) (0, 1) 1 t0).all id = true by decide +kernel) i2 i2 (p5 hp) (p5 hp)
  obtain ⟨w2, h2, s2, o2, f2, x2, y2, z2, n2, _⟩ := turn_v (j := 2) hc (row := [(1, 1), (-1, 2), (1, 6), (0, 1), (-1, 30)]) (place := 2) (by0 := 1) rfl (by decide +kernel) (show (okTurn (1, 12) (-1, 24) 2 t1).all id = true by decide +kernel) x1 y1 z1 n1
  obtain ⟨w3, h3, s3, o3, f3, x3, y3, z3, n3, _⟩ := turn_v (j := 1) hc (row := [(1, 1), (-1, 2), (1, 6), (0, 1), (-1, 30)]) (place := 3) (by0 := 2) rfl (by decide +kernel) (show (okTurn (0, 1) (0, 1) 6 t2).all id = true by decide +kernel) x2 y2 z2 n2
  obtain ⟨w4, h4, s4, o4, f4, x4, y4, z4, n4, m4⟩ := turn_v (j := 0) hc (row := [(1, 1), (-1, 2), (1, 6), (0, 1), (-1, 30)]) (place := 4) (by0 := 6) rfl (by decide +kernel) (show (okTurn (-1, 720) (7, 5760) 24 t3).all id = true by decide +kernel) x3 y3 z3 n3
  exact facts_of hc (n := 3) ⟨fun h => absurd h (by decide), fun h => absurd h (by decide)⟩ hp (show bern? 4 = _ by decide +kernel) i1 (f1 _ (f2 _ (f3 _ (f4 _ rfl)))) x4 y4 n4 m4 (by decide +kernel) (by simp [ev, valAt]; omega)
theorem law_facts {cs : List Int} {lead : Int} (h0 : 1 ≤ cs.length) (h1 : cs.length ≤ 3) (hc : ∀ c ∈ cs, -3 ≤ c ∧ c ≤ 3) (hl0 : 1 ≤ lead) (hl1 : lead ≤ 3) : Facts (cs ++ [lead]) := by
  have hl : -3 ≤ lead ∧ lead ≤ 3 := ⟨by omega, hl1⟩
  match cs, h0, h1, hc with
  | [a], _, _, hc => exact law_1 (hc a (.head _)) hl
  | [a, b], _, _, hc => exact law_2 (hc a (.head _)) (hc b (.tail _ (.head _))) hl
  | [a, b, c], _, _, hc => exact law_3 (hc a (.head _)) (hc b (.tail _ (.head _))) (hc c (.tail _ (.tail _ (.head _)))) hl

end Mine
end

section
-- the lines of the walk
open PySem PySem.W PyProof.Rows PySem.Calls
set_option maxRecDepth 100000
set_option maxHeartbeats 8000000
namespace Mine
variable {w : World} {p : Program} {loose : List Str} {mean : ExcName → Option Value} {mg mb : Str → Option Value}
local macro_rules | `(tactic| walk_at "my room") => `(tactic| ((try simp only [depth_deeper, depth_in1, units_deeper, units_in1]); (try dsimp only); omega))
local macro_rules | `(tactic| walk_at "my done") => `(tactic| (intro r' h' tk' own' hp' _ F' N' mv'; (try k_sweep); (try dsimp only)))
local macro_rules | `(tactic| walk_at "my sub") => `(tactic| first | exact fun _ h => h | (intro p9 h9; simp only [List.mem_append, List.mem_cons, h9, true_or, or_true]))
local macro_rules | `(tactic| walk_at "my ext") => `(tactic| ((case y => assumption); (case F => k_asm)))
local macro_rules | `(tactic| walk_at "my mv") => `(tactic| ((case y => assumption); (case mv => assumption); (case F => k_asm); (case N => k_asm); (case s => walk_at "my sub")))
local macro_rules | `(tactic| walk_at "my plain") => `(tactic| first | assumption | (refine' plain_at ?F ?y; walk_at "my ext") | (refine' plain_mv ?mv ?F ?N ?s ?y; walk_at "my mv"))
local macro_rules | `(tactic| walk_at "my tup") => `(tactic| first | assumption | (refine' IsTup.keeps ?y (Fr.keep ?F); walk_at "my ext") | (refine' tup_mv ?mv ?F ?N ?s ?y; walk_at "my mv"))
local macro_rules | `(tactic| walk_at "my rat") => `(tactic| first | assumption | (refine' RatV.ext (Fr.keep ?F) ?y; walk_at "my ext") | (refine' rat_mv ?mv ?F ?N ?s ?y; walk_at "my mv") | (refine' rat_news ?N ?y; (case N => k_asm); (case y => k_mem)))
local macro_rules | `(tactic| walk_at "my poly") => `(tactic| first | assumption | (refine' PolyV.ext (Fr.keep ?F) ?y; walk_at "my ext") | (refine' poly_mv ?mv ?F ?N ?s ?y; walk_at "my mv"))
local macro_rules | `(tactic| walk_at "subscriptTail") => `(tactic| ((with_reducible show wpAny _ _ (subscriptTail _ _ (Value.ref _) (Value.int _ _)) _ _ _); k_dflt (first | refine item_a ?_ | (refine' item_tupleT ?t ?a ?b ?c ?d ?_; (case t => walk_at "my tup"); (case a => decide); (case b => decide); (case c => rfl); (case d => rfl)))))
local macro_rules | `(tactic| walk_at "call builtin:len") => `(tactic| ((with_reducible show wpAny _ _ (call (Value.builtin "len") [Value.ref _]) _ _ _); k_dflt (refine len_a ?_)))
local macro_rules | `(tactic| walk_at "eval Name") => `(tactic| (k_dflt (first | refine loc_a ?_ | refine cell_a ?_)))
local macro_rules | `(tactic| walk_at "my args") => `(tactic| ((case F => k_asm); (case N => k_asm); (case X => k_asm); (case T => k_asm); (case d => walk_at "my room"); (case u => walk_at "my room")))
local macro_rules | `(tactic| walk_at "my mem") => `(tactic| first | exact List.Mem.head _ | (refine List.Mem.tail _ ?_; walk_at "my mem") | (refine List.mem_append_right _ ?_; walk_at "my mem"))
local macro_rules | `(tactic| walk_at "my method") => `(tactic| ((with_reducible show wpAny _ _ (getMethod (Value.ref _) (PySem.Str.ofString "append") _) _ _ _); k_dflt (refine' listMethod_K ?N ?m PySem.F.slot_list_append PySem.F.type_list_append ?_; (case N => k_asm); (case m => walk_at "my mem"))))
local macro_rules | `(tactic| walk_at "my lit") => `(tactic| fail)
local macro_rules | `(tactic| walk_at "my val") => `(tactic| first | walk_at "my rat" | walk_at "my poly" | walk_at "my lit")
local macro_rules | `(tactic| walk_at "my pre") => `(tactic| first | exact trivial | walk_at "my val" | (refine ⟨?_, ?_⟩ <;> walk_at "my val"))
local macro_rules | `(tactic| walk_at "my call") => `(tactic| (k_dflt (refine' use_sp ?C ?F ?N ?X ?T rfl ?d ?u ?p ?_; (case' C => walk_at "my con"); walk_at "my args"; (case p => walk_at "my pre"); (try (case z => assumption)); (try (case l => first | assumption | decide)); (try (case e => omega)); (try (case h => omega))); walk_at "my done"; (try k_fold)))

section
-- part Gcd
theorem gcd_turn {x y : Int} (hx : 0 ≤ x) (hy : 0 ≤ y) (h : y ≠ 0) : 0 ≤ x.fmod y ∧ (x.fmod y).toNat < y.toNat ∧ Int.gcd y (x.fmod y) = Int.gcd x y := by
  have e : x.fmod y = x % y := Int.fmod_eq_emod_of_nonneg _ hy
  have h1 := Int.emod_nonneg x h
  have h2 := Int.emod_lt_of_pos x (show 0 < y by omega)
  rw [e]
  refine ⟨h1, by omega, ?_⟩
  obtain ⟨a, rfl⟩ := Int.eq_ofNat_of_zero_le hx
  obtain ⟨b, rfl⟩ := Int.eq_ofNat_of_zero_le hy
  rw [← Int.natCast_emod, Int.gcd_natCast_natCast, Int.gcd_natCast_natCast, Nat.gcd_comm, ← Nat.gcd_rec, Nat.gcd_comm]
theorem gcd_abs (a b : Int) : Int.gcd (if a < 0 then -a else a) (if b < 0 then -b else b) = Int.gcd a b := by
  unfold Int.gcd
  congr 1 <;> split <;> simp
inductive GcdInv (a b : Int) (h₀ : Heap) (L : Addr) (k : Nat) (h : Heap) : Prop
  | mk (x y : Int) (tx ty : Tok) (m : Str → Option Value) (q0 : Fr h₀ L h m) (q1 : Has m [(Str.ofString "a", .int x tx), (Str.ofString "b", .int y ty)]) (q2 : 0 ≤ x) (q3 : 0 ≤ y) (q4 : Int.gcd x y = Int.gcd a b) (q5 : k = y.toNat)
local macro_rules | `(tactic| walk_at "exec While Compare cons nil") => `(tactic| refine stopped ?_)
theorem gcd_sp {a b : Int} {ta tb : Tok} : Sp w p loose mean mg mb 41 1 8 [.int a ta, .int b tb] (fun _ => True) (fun _ r => ∃ t, r = .int (Int.gcd a b : Int) t) := by
  unfold Sp
  k_fill
  intro dp un fr gd s E hd hu X T _
  k_dflt (refine' enter (binds := [(Str.ofString "a", .int a ta), (Str.ofString "b", .int b tb)]) X T ?k6 ?k7 ?k8 ?k9 ?kB ?_ ?c2 ?c3 ?c4 ?c5; (case k6 => k_is); (case k7 => k_is); (case k8 => first | exact room_0 (by assumption) | (dsimp only; omega)); (case k9 => exact BindsTo.of_eq rfl); (case c5 => decide); (case kB => exact locs rfl); (case c2 => exact rfl); (case c3 => exact rfl); (case c4 => exact rfl); k_whole)
  intro L h₁ hL F
  have N : News s.heap L h₁ [] := News.nil
  (try k_fold)
  k_steps
  unfold Stopped
  rename Fr _ _ _ _ => F1
  refine while_rule (GcdInv a b s.heap L) _ ⟨_, _, _, _, _, F1, ⟨rfl, rfl, trivial⟩, ?_, ?_, gcd_abs a b, rfl⟩ ?_
  · split <;> omega
  · split <;> omega
  · clear F1
    rename News _ _ _ _ => N1
    clear N1
    rintro k h tk ⟨x, y, tx, ty, m, F, hm, hx, hy, hg, rfl⟩
    have F := Fr.pins F hm
    have N : News s.heap L h [] := News.nil
    k_steps
    · rename Fr _ _ _ _ => F'
      obtain ⟨h1, h2, h3⟩ := gcd_turn hx hy (by assumption)
      exact ⟨.inl rfl, _, _, _, rfl, h2, _, _, _, _, _, F', ⟨rfl, rfl, trivial⟩, hy, h1, h3.trans hg, rfl⟩
    · have hy0 : y = 0 := by omega
      subst hy0
      have e : (Int.gcd a b : Int) = x := by rw [← hg, Int.gcd_zero_right]; omega
      exact ⟨⟨tx, by rw [e]⟩, keeps_of F rfl rfl⟩
end

section
-- part Rat
local macro_rules | `(tactic| walk_at "call ref") => `(tactic| refine stopped ?_)
local macro_rules | `(tactic| walk_at "binaryOp FloorDiv int int") => `(tactic| refine floordiv_int (by omega) ?_ (Or.inl (PyProof.noPylong_of_log2 (by assumption))))
theorem log2_small {n k : Nat} (h : n < 2 ^ 200) (hk : k ≤ n) : k.log2 < 9000 := by
  rcases Nat.eq_zero_or_pos k with h0 | h0
  · subst h0; decide
  · have : k.log2 < 200 := (Nat.log2_lt (Nat.ne_of_gt h0)).mpr (Nat.lt_of_le_of_lt hk h)
    omega
theorem rat_sp {t b : Int} {tt tb : Tok} {q : Q2} (hz : rat? t b = some q) (hs : b.natAbs < 2 ^ 200) : Sp w p loose mean mg mb 50 2 16 [.int t tt, .int b tb] (fun _ => True) (fun h r => RatV h r q) := by
  unfold Sp
  k_fill
  intro dp un fr gd s E hd hu X T _
  k_dflt (refine' enter (binds := [(Str.ofString "top", .int t tt), (Str.ofString "bottom", .int b tb)]) X T ?k6 ?k7 ?k8 ?k9 ?kB ?_ ?c2 ?c3 ?c4 ?c5; (case k6 => k_is); (case k7 => k_is); (case k8 => first | exact room_0 (by assumption) | (dsimp only; omega)); (case k9 => exact BindsTo.of_eq rfl); (case c5 => decide); (case kB => exact locs rfl); (case c2 => exact rfl); (case c3 => exact rfl); (case c4 => exact rfl); k_whole)
  intro L h₁ hL F
  have N : News s.heap L h₁ [] := News.nil
  (try k_fold)
  have hb : b ≠ 0 := fun e => by unfold rat? at hz; rw [if_pos e] at hz; cases hz
  have hg : (0 : Int) < (Int.gcd t b : Int) := by
    have := Int.gcd_pos_of_ne_zero_right t hb
    omega
  have hgb : Int.gcd t b ≤ b.natAbs := Nat.gcd_le_right _ (by omega)
  have hl1 : ((Int.gcd t b : Int)).natAbs.log2 < 9000 := log2_small hs (by simpa using hgb)
  have hl2 : ((0 : Int) - (Int.gcd t b : Int)).natAbs.log2 < 9000 := log2_small hs (by simpa using hgb)
  clear hgb hs
  k_steps
  all_goals (first | exact absurd (by assumption) hb | skip)
  all_goals
    unfold Stopped
    k_dflt (refine' use_sp gcd_sp ?F ?N ?X ?T rfl ?d ?u trivial ?_; (case F | N | X | T => k_asm); (case d | u => walk_at "my room"))
    walk_at "my done"
    rename ∃ _, _ => hp'
    obtain ⟨t', hp'⟩ := hp'
    subst hp'
    try dsimp only
    try k_fold
    k_steps
  · exact back_tuple (by assumption) (by assumption) (by unfold rat? at hz; rw [if_neg hb, if_pos (by assumption)] at hz; exact (Option.some.inj hz).symm)
  · exact back_tuple (by assumption) (by assumption) (by unfold rat? at hz; rw [if_neg hb, if_neg (by assumption)] at hz; exact (Option.some.inj hz).symm)
end

section
-- part Rops
local macro_rules | `(tactic| walk_at "my none") => `(tactic| skip)
local macro_rules | `(tactic| walk_at "my none") => `(tactic| skip)
theorem sm_bits {x : Int} (h : sm x = true) : Builtin.Int.intBits x ≤ 64 := by
  have : x.natAbs < 2 ^ 64 := by
    have := Nat.ble_eq.mp h
    omega
  exact PySem.intBits_le_64 (by omega) (by omega)
theorem sm_lt {x : Int} (h : sm x = true) : x.natAbs < 2 ^ 64 := by
  have := Nat.ble_eq.mp h
  omega
theorem sm_mul {x y : Int} (hx : sm x = true) (hy : sm y = true) : (x * y).natAbs < 2 ^ 200 := by
  rw [Int.natAbs_mul]
  calc x.natAbs * y.natAbs < 2 ^ 64 * 2 ^ 64 := Nat.mul_lt_mul'' (sm_lt hx) (sm_lt hy)
    _ ≤ 2 ^ 200 := by decide
theorem smQ_and {x y : Q2} {P : Option Q2} {z : Q2} (h : (if (smQ x && smQ y) = true then P else none) = some z) : sm x.1 = true ∧ sm x.2 = true ∧ sm y.1 = true ∧ sm y.2 = true ∧ P = some z := by
  split at h
  · rename_i hc
    simp only [smQ, Bool.and_eq_true] at hc
    exact ⟨hc.1.1, hc.1.2, hc.2.1, hc.2.2, h⟩
  · cases h
local macro_rules | `(tactic| walk_at "my con") => `(tactic| first | refine' rat_sp (by assumption) (by assumption))
local macro_rules | `(tactic| walk_at "call ref") => `(tactic| walk_at "my call")
theorem radd_sp {v1 v2 : Value} {x y z : Q2} (hz : radd? x y = some z) : Sp w p loose mean mg mb 57 3 24 [v1, v2] (fun h => RatV h v1 x ∧ RatV h v2 y) (fun h r => RatV h r z) := by
  unfold Sp
  k_fill
  intro dp un fr gd s E hd hu X T hpre
  obtain ⟨⟨a1, t1, u1, rfl, ht1⟩, a2, t2, u2, rfl, ht2⟩ := hpre
  k_dflt (refine' enter (binds := [(Str.ofString "a", .ref a1), (Str.ofString "b", .ref a2)]) X T ?k6 ?k7 ?k8 ?k9 ?kB ?_ ?c2 ?c3 ?c4 ?c5; (case k6 => k_is); (case k7 => k_is); (case k8 => first | exact room_0 (by assumption) | (dsimp only; omega)); (case k9 => exact BindsTo.of_eq rfl); (case c5 => decide); (case kB => exact locs rfl); (case c2 => exact rfl); (case c3 => exact rfl); (case c4 => exact rfl); k_whole)
  intro L h₁ hL F
  have N : News s.heap L h₁ [] := News.nil
  have ht1 := ht1.keeps F.keep
  have ht2 := ht2.keeps F.keep
  obtain ⟨s1, s2, s3, s4, hz⟩ := smQ_and hz
  have b1 := sm_bits s1
  have b2 := sm_bits s2
  have b3 := sm_bits s3
  have b4 := sm_bits s4
  have m1 := sm_mul s2 s4
  have m2 := sm_mul s2 s3
  (try k_fold)
  k_steps
  exact back_of (by assumption) (by assumption)
theorem rmul_sp {v1 v2 : Value} {x y z : Q2} (hz : rmul? x y = some z) : Sp w p loose mean mg mb 64 3 24 [v1, v2] (fun h => RatV h v1 x ∧ RatV h v2 y) (fun h r => RatV h r z) := by
  unfold Sp
  k_fill
  intro dp un fr gd s E hd hu X T hpre
  obtain ⟨⟨a1, t1, u1, rfl, ht1⟩, a2, t2, u2, rfl, ht2⟩ := hpre
  k_dflt (refine' enter (binds := [(Str.ofString "a", .ref a1), (Str.ofString "b", .ref a2)]) X T ?k6 ?k7 ?k8 ?k9 ?kB ?_ ?c2 ?c3 ?c4 ?c5; (case k6 => k_is); (case k7 => k_is); (case k8 => first | exact room_0 (by assumption) | (dsimp only; omega)); (case k9 => exact BindsTo.of_eq rfl); (case c5 => decide); (case kB => exact locs rfl); (case c2 => exact rfl); (case c3 => exact rfl); (case c4 => exact rfl); k_whole)
  intro L h₁ hL F
  have N : News s.heap L h₁ [] := News.nil
  have ht1 := ht1.keeps F.keep
  have ht2 := ht2.keeps F.keep
  obtain ⟨s1, s2, s3, s4, hz⟩ := smQ_and hz
  have b1 := sm_bits s1
  have b2 := sm_bits s2
  have b3 := sm_bits s3
  have b4 := sm_bits s4
  have m1 := sm_mul s2 s4
  have m2 := sm_mul s2 s3
  (try k_fold)
  k_steps
  exact back_of (by assumption) (by assumption)
theorem rdiv_sp {v1 v2 : Value} {x y z : Q2} (hz : rdiv? x y = some z) : Sp w p loose mean mg mb 71 3 24 [v1, v2] (fun h => RatV h v1 x ∧ RatV h v2 y) (fun h r => RatV h r z) := by
  unfold Sp
  k_fill
  intro dp un fr gd s E hd hu X T hpre
  obtain ⟨⟨a1, t1, u1, rfl, ht1⟩, a2, t2, u2, rfl, ht2⟩ := hpre
  k_dflt (refine' enter (binds := [(Str.ofString "a", .ref a1), (Str.ofString "b", .ref a2)]) X T ?k6 ?k7 ?k8 ?k9 ?kB ?_ ?c2 ?c3 ?c4 ?c5; (case k6 => k_is); (case k7 => k_is); (case k8 => first | exact room_0 (by assumption) | (dsimp only; omega)); (case k9 => exact BindsTo.of_eq rfl); (case c5 => decide); (case kB => exact locs rfl); (case c2 => exact rfl); (case c3 => exact rfl); (case c4 => exact rfl); k_whole)
  intro L h₁ hL F
  have N : News s.heap L h₁ [] := News.nil
  have ht1 := ht1.keeps F.keep
  have ht2 := ht2.keeps F.keep
  obtain ⟨s1, s2, s3, s4, hz⟩ := smQ_and hz
  have b1 := sm_bits s1
  have b2 := sm_bits s2
  have b3 := sm_bits s3
  have b4 := sm_bits s4
  have m1 := sm_mul s2 s4
  have m2 := sm_mul s2 s3
  (try k_fold)
  k_steps
  exact back_of (by assumption) (by assumption)
theorem rneg_sp {v : Value} {x : Q2} : Sp w p loose mean mg mb 78 1 8 [v] (fun h => RatV h v x) (fun h r => RatV h r (rneg x)) := by
  unfold Sp
  k_fill
  intro dp un fr gd s E hd hu X T hpre
  obtain ⟨a1, t1, u1, rfl, ht1⟩ := hpre
  k_dflt (refine' enter (binds := [(Str.ofString "a", .ref a1)]) X T ?k6 ?k7 ?k8 ?k9 ?kB ?_ ?c2 ?c3 ?c4 ?c5; (case k6 => k_is); (case k7 => k_is); (case k8 => first | exact room_0 (by assumption) | (dsimp only; omega)); (case k9 => exact BindsTo.of_eq rfl); (case c5 => decide); (case kB => exact locs rfl); (case c2 => exact rfl); (case c3 => exact rfl); (case c4 => exact rfl); k_whole)
  intro L h₁ hL F
  have N : News s.heap L h₁ [] := News.nil
  have ht1 := ht1.keeps F.keep
  (try k_fold)
  k_steps
  exact back_tuple (by assumption) (by assumption) rfl
end

section
-- part Qtrim
theorem qtrim_snoc (x : Q2) : ∀ xs : List Q2, qtrim (xs ++ [x]) = if x.1 = 0 then qtrim xs else xs ++ [x]
  | [] => by
    show qtrim [x] = _
    unfold qtrim
    unfold qtrim
    split <;> simp_all
  | y :: t => by
    have ih := qtrim_snoc x t
    rw [List.cons_append]
    unfold qtrim
    rw [ih]
    by_cases h : x.1 = 0
    · simp only [if_pos h]
    · simp only [if_neg h]
      cases t <;> simp
theorem qtrim_length : ∀ xs : List Q2, (qtrim xs).length ≤ xs.length
  | [] => Nat.le_refl _
  | x :: r => by
    have ih := qtrim_length r
    unfold qtrim
    split
    · split <;> simp
    · rename_i e; rw [e] at ih; simpa using ih
inductive QtrimInv (ps : List Q2) (a : Addr) (h₀ : Heap) (L : Addr) (k : Nat) (h : Heap) : Prop
  | mk (t : Tok) (m : Str → Option Value) (q0 : Fr h₀ L h m) (q1 : Has m [(Str.ofString "row", .ref a), (Str.ofString "size", .int (k : Int) t)]) (q2 : k ≤ ps.length) (q3 : qtrim (ps.take k) = qtrim ps)
local macro_rules | `(tactic| walk_at "exec While BoolOp cons nil") => `(tactic| refine stopped ?_)
local macro_rules | `(tactic| walk_at "subscriptTail Name Slice ref ref") => `(tactic| refine stopped ?_)
local macro_rules | `(tactic| walk_at "call type:list") => `(tactic| refine stopped ?_)
theorem back_list {s : Shared} {L D : Addr} {h' : Heap} {m : Str → Option Value} {news : List (Addr × Obj)} {vs : List Value} {c tk : Nat} {qs : List Q2} (F : Fr s.heap L h' m)
    (N : News s.heap L h' ((D, listOf vs.toArray c) :: news)) (e : All2 (RatV h') vs qs) (hn : qs.length ≤ 1000) : Back (fun h r => PolyV h r qs) s (.ref D) { s with heap := h', toks := tk } :=
  ⟨⟨D, vs, rfl, ⟨c, (N _ (.head _)).1⟩, e, hn⟩, h', tk, rfl, F.keep⟩
theorem qtrim_sp {v : Value} {ps : List Q2} : Sp w p loose mean mg mb 85 1 8 [v] (fun h => PolyV h v ps) (fun h r => PolyV h r (qtrim ps)) := by
  unfold Sp
  k_fill
  intro dp un fr gd s E hd hu X T hpre
  obtain ⟨a, vs, rfl, hl, hr, hn⟩ := hpre
  have hlen := hr.length
  k_dflt (refine' enter (binds := [(Str.ofString "row", .ref a)]) X T ?k6 ?k7 ?k8 ?k9 ?kB ?_ ?c2 ?c3 ?c4 ?c5; (case k6 => k_is); (case k7 => k_is); (case k8 => first | exact room_0 (by assumption) | (dsimp only; omega)); (case k9 => exact BindsTo.of_eq rfl); (case c5 => decide); (case kB => exact locs rfl); (case c2 => exact rfl); (case c3 => exact rfl); (case c4 => exact rfl); k_whole)
  intro L h₁ hL F
  have N : News s.heap L h₁ [] := News.nil
  (try k_fold)
  k_steps
  unfold Stopped
  rename Fr _ _ _ _ => F1
  refine while_rule (QtrimInv ps a s.heap L) vs.length ⟨_, _, F1, ⟨rfl, rfl, trivial⟩, by omega, by rw [hlen, List.take_length]⟩ ?_
  clear F1
  rename News _ _ _ _ => N1
  clear N1
  rintro k h tk ⟨t, m, F, hm, hk, hq⟩
  have F := Fr.pins F hm
  have N : News s.heap L h [] := News.nil
  have fin : ∀ j ≤ ps.length, qtrim (ps.take j) = ps.take j → qtrim (ps.take j) = qtrim ps → ∀ D h' m c news, Fr s.heap L h' m → News s.heap L h' ((D, listOf (vs.take j).toArray c) :: news) → ∀ tk, Back (fun h r => PolyV h r (qtrim ps)) s (.ref D) { s with heap := h', toks := tk } := by
    intro j hj e1 e2 D h' m c news F N tk
    refine back_list F N ?_ (Nat.le_trans (qtrim_length ps) hn)
    rw [← e2, e1]
    exact (hr.take j).imp fun _ _ => RatV.ext F.keep
  cases k with
  | zero =>
    k_steps
    · unfold Stopped
      k_dflt (refine' slice_upto ?F ?N ?l ?n ?z ?_ ?hs9 ?ht9; (case F | N => k_asm); (case l => walk_at "my plain"); (case n | z => omega); (case hs9 => with_unfolding_all rfl); (case ht9 => kmk_pure))
      intro D8 h8 F8 N8
      try k_sweep
      k_steps
      unfold Stopped
      k_dflt (refine' list_my ?F ?N ?l ?z ?_; (case F | N => k_asm); (case l => exact ⟨_, News.get (by k_asm) (by k_mem)⟩); (case z => (simp only [List.length_take]; omega)))
      intro D9 h9 c9 F9 N9
      try k_sweep
      k_steps
      exact fin 0 (Nat.zero_le _) rfl hq _ _ _ _ _ (by assumption) (by assumption) _
  | succ k =>
    have hlt : k < ps.length := hk
    obtain ⟨q, hqk⟩ : ∃ q, ps[k]? = some q := ⟨_, List.getElem?_eq_getElem hlt⟩
    obtain ⟨v, hv, x, t1, u1, rfl, ht⟩ := hr.get hqk
    have hv' : vs[(((k + 1 : Nat) : Int) - 1).toNat]? = some (.ref x) := by rw [show (((k + 1 : Nat) : Int) - 1).toNat = k by omega]; exact hv
    have hsn : ps.take (k + 1) = ps.take k ++ [q] := by simp [List.take_add_one, hqk]
    k_steps
    · rename Fr _ _ _ _ => F'
      refine ⟨.inl rfl, _, _, k, rfl, Nat.lt_succ_self k, _, _, F', ⟨rfl, congrArg (fun z => some (Value.int z _)) (by omega : ((k + 1 : Nat) : Int) - 1 = (k : Int)), trivial⟩, by omega, ?_⟩
      rw [hsn, qtrim_snoc, if_pos (by assumption)] at hq
      exact hq
    · unfold Stopped
      k_dflt (refine' slice_upto ?F ?N ?l ?n ?z ?_ ?hs9 ?ht9; (case F | N => k_asm); (case l => walk_at "my plain"); (case n | z => omega); (case hs9 => with_unfolding_all rfl); (case ht9 => kmk_pure))
      intro D8 h8 F8 N8
      try k_sweep
      k_steps
      unfold Stopped
      k_dflt (refine' list_my ?F ?N ?l ?z ?_; (case F | N => k_asm); (case l => exact ⟨_, News.get (by k_asm) (by k_mem)⟩); (case z => (simp only [List.length_take]; omega)))
      intro D9 h9 c9 F9 N9
      try k_sweep
      k_steps
      refine fin (k + 1) hk ?_ hq _ _ _ _ _ (by assumption) (by assumption) _
      rw [hsn, qtrim_snoc, if_neg (by assumption)]
end

section
-- part Qneg
local macro_rules | `(tactic| walk_at "my none") => `(tactic| skip)
local macro_rules | `(tactic| walk_at "eval ListComp") => `(tactic| refine stopped ?_)
local macro_rules | `(tactic| walk_at "pyIter ref") => `(tactic| refine stopped ?_)
local macro_rules | `(tactic| walk_at "my con") => `(tactic| first | refine' rneg_sp)
local macro_rules | `(tactic| walk_at "call ref") => `(tactic| walk_at "my call")
theorem qneg_sp {v : Value} {ps : List Q2} : Sp w p loose mean mg mb 95 2 16 [v] (fun h => PolyV h v ps) (fun h r => PolyV h r (qneg ps)) := by
  unfold Sp
  k_fill
  intro dp un fr gd s E hd hu X T hpre
  obtain ⟨a, vs, rfl, hl, hr, hn⟩ := hpre
  have hlen := hr.length
  k_dflt (refine' enter (binds := [(Str.ofString "p", .ref a)]) X T ?k6 ?k7 ?k8 ?k9 ?kB ?_ ?c2 ?c3 ?c4 ?c5; (case k6 => k_is); (case k7 => k_is); (case k8 => first | exact room_0 (by assumption) | (dsimp only; omega)); (case k9 => exact BindsTo.of_eq rfl); (case c5 => decide); (case kB => exact locs rfl); (case c2 => exact rfl); (case c3 => exact rfl); (case c4 => exact rfl); k_whole)
  intro L h₁ hL F
  have N : News s.heap L h₁ [] := News.nil
  have Xb := X.keeps F.keep
  have Tb := T.keeps F.keep
  have hr := hr.imp fun _ _ => RatV.ext F.keep
  (try k_fold)
  k_steps
  unfold Stopped
  refine' comp_rule RatV (fun _ _ _ _ k x => k.ratV x) (qneg ps) ?hclos ?hcell ?hkind ?hnames ?_ ?hs
  ((case' hclos => with_unfolding_all rfl); (case' hcell => decide); (case' hkind => with_unfolding_all rfl); (case' hnames => decide); (case' hs => (intro _; with_unfolding_all rfl)))
  k_steps
  unfold Stopped
  have hl1 := plain_at F hl
  refine comp_list rfl hl1 (by simp [qneg, hlen]) (by simp only [qneg, List.length_map, sizeLine_eq]; omega) rfl rfl ?_ ?_
  · intro i b v C h tk m own E' hb hv FC NC
    obtain ⟨q, hq, hR⟩ := hr.get' hv
    k_steps
    refine elt_end (by k_asm) (by k_asm) (by walk_at "my sub") ?_
    have e : b = rneg q := by simpa [qneg, hq] using hb.symm
    rw [e]
    assumption
  · intro _ _ D h' tk ys hD hys hext hnew
    exact back_poly (Ext.trans F.keep hext) hD hys (by simpa [qneg] using hn)
end

section
-- part PureL
theorem map?_len {α β : Type} {f : α → Option β} : ∀ {xs : List α} {ys : List β}, map? f xs = some ys → ys.length = xs.length
  | [], ys, h => by cases h; rfl
  | x :: r, ys, h => by
    unfold map? at h
    split at h
    · cases h
    · split at h
      · cases h
      · rename_i _ _ _ t e
        cases h
        simp [map?_len e]
theorem map?_get {α β : Type} {f : α → Option β} : ∀ {xs : List α} {ys : List β}, map? f xs = some ys → ∀ {i : Nat} {x : α} {y : β}, xs[i]? = some x → ys[i]? = some y → f x = some y
  | [], ys, h, i, x, y, hx, hy => by simp at hx
  | x :: r, ys, h, i, x', y', hx, hy => by
    unfold map? at h
    split at h
    · cases h
    · rename_i y e
      split at h
      · cases h
      · rename_i t e2
        cases h
        cases i with
        | zero => simp at hx hy; subst hx; subst hy; exact e
        | succ i => exact map?_get e2 (by simpa using hx) (by simpa using hy)
theorem mapI?_len {α β : Type} {f : Int → α → Option β} : ∀ {k : Int} {xs : List α} {ys : List β}, mapI? f k xs = some ys → ys.length = xs.length
  | k, [], ys, h => by cases h; rfl
  | k, x :: r, ys, h => by
    unfold mapI? at h
    split at h
    · cases h
    · split at h
      · cases h
      · rename_i _ _ _ t e
        cases h
        simp [mapI?_len e]
theorem mapI?_get {α β : Type} {f : Int → α → Option β} : ∀ {k : Int} {xs : List α} {ys : List β}, mapI? f k xs = some ys → ∀ {i : Nat} {x : α} {y : β}, xs[i]? = some x → ys[i]? = some y → f (k + (i : Int)) x = some y
  | k, [], ys, h, i, x, y, hx, hy => by simp at hx
  | k, x :: r, ys, h, i, x', y', hx, hy => by
    unfold mapI? at h
    split at h
    · cases h
    · rename_i y e
      split at h
      · cases h
      · rename_i t e2
        cases h
        cases i with
        | zero => simp at hx hy; subst hx; subst hy; simpa using e
        | succ i =>
          have := mapI?_get e2 (i := i) (by simpa using hx) (by simpa using hy)
          rw [show k + ((i + 1 : Nat) : Int) = k + 1 + (i : Int) by omega]
          exact this
theorem zip?_len {f : Q2 → Q2 → Option Q2} : ∀ {a b c : List Q2}, zip? f a b = some c → c.length = max a.length b.length
  | [], b, c, h => by
    unfold zip? at h
    have := map?_len h
    simpa using this
  | x :: r, b, c, h => by
    unfold zip? at h
    split at h
    · cases h
    · split at h
      · cases h
      · rename_i _ _ _ t e
        cases h
        have := zip?_len e
        simp only [List.length_cons, List.length_tail] at this ⊢
        omega
theorem zip?_get {f : Q2 → Q2 → Option Q2} : ∀ {a b c : List Q2}, zip? f a b = some c → ∀ {i : Nat} {z : Q2}, c[i]? = some z → f (a.getD i R0) (b.getD i R0) = some z
  | [], b, c, h, i, z, hz => by
    unfold zip? at h
    have hl := map?_len h
    obtain ⟨y, hy⟩ : ∃ y, b[i]? = some y := by
      have : i < c.length := (List.getElem?_eq_some_iff.mp hz).1
      exact ⟨_, List.getElem?_eq_getElem (by omega)⟩
    have := map?_get h hy hz
    simpa [List.getD, hy] using this
  | x :: r, b, c, h, i, z, hz => by
    unfold zip? at h
    split at h
    · cases h
    · rename_i y e
      split at h
      · cases h
      · rename_i t e2
        cases h
        cases i with
        | zero =>
          simp at hz
          subst hz
          cases b <;> simpa [List.getD] using e
        | succ i =>
          have := zip?_get e2 (i := i) (z := z) (by simpa using hz)
          cases b <;> simpa [List.getD] using this

inductive QatStep (r z x : Q2) (t : List Q2) (z₀ : Q2) : Prop
  | mk (m z' : Q2) (h1 : rmul? z r = some m) (h2 : radd? m x = some z') (h : qatGo? r z' t = some z₀)
theorem qat_step {r z x : Q2} {t : List Q2} {z₀ : Q2} (h : qatGo? r z (x :: t) = some z₀) : QatStep r z x t z₀ := by
  unfold qatGo? at h
  split at h
  · cases h
  rename_i m h1
  split at h
  · cases h
  rename_i z' h2
  exact ⟨m, z', h1, h2, h⟩
inductive QcompStep (b z : List Q2) (x : Q2) (t z₀ : List Q2) : Prop
  | mk (m z' : List Q2) (h1 : qmul? z b = some m) (h2 : qadd? m (qtrim [x]) = some z') (h : qcomposeGo? b z' t = some z₀)
theorem qcomp_step {b z : List Q2} {x : Q2} {t z₀ : List Q2} (h : qcomposeGo? b z (x :: t) = some z₀) : QcompStep b z x t z₀ := by
  unfold qcomposeGo? at h
  split at h
  · cases h
  rename_i m h1
  split at h
  · cases h
  rename_i z' h2
  exact ⟨m, z', h1, h2, h⟩
inductive QmulStep (l y : Q2) (k : Nat) (t f out : List Q2) : Prop
  | mk (c m z : Q2) (h1 : f[k]? = some c) (h2 : rmul? l y = some m) (h3 : radd? c m = some z) (h : qmulRow? l (k + 1) t (f.set k z) = some out)
theorem qmul_step {l y : Q2} {k : Nat} {t f out : List Q2} (h : qmulRow? l k (y :: t) f = some out) : QmulStep l y k t f out := by
  unfold qmulRow? at h
  split at h
  · cases h
  rename_i c h1
  split at h
  · cases h
  rename_i m h2
  split at h
  · cases h
  rename_i z h3
  exact ⟨c, m, z, h1, h2, h3, h⟩
theorem qrow_step {b r f out : List Q2} {k : Nat} {x : Q2} (h : qmulRows? b k (x :: r) f = some out) : ∃ g, qmulRow? x k b f = some g ∧ qmulRows? b (k + 1) r g = some out := by
  unfold qmulRows? at h
  split at h
  · cases h
  rename_i g h1
  exact ⟨g, h1, h⟩
inductive PolyStep (i : Nat) (x : Q2) (t f out : List Q2) : Prop
  | mk (s c z : List Q2) (h1 : psum? i = some s) (h2 : qscale? s x = some c) (h3 : qadd? f c = some z) (h : polySumGo? (i + 1) t z = some out)
theorem poly_step {i : Nat} {x : Q2} {t f out : List Q2} (hx : ¬ x = R0) (h : polySumGo? i (x :: t) f = some out) : PolyStep i x t f out := by
  unfold polySumGo? at h
  rw [if_neg hx] at h
  split at h
  · cases h
  rename_i s h1
  split at h
  · cases h
  rename_i c h2
  split at h
  · cases h
  rename_i z h3
  exact ⟨s, c, z, h1, h2, h3, h⟩
inductive BernStep (j m : Nat) (f out : List Q2) : Prop
  | mk (row : List Int) (t z : Q2) (h1 : bino? (m + 1) = some row) (h2 : bernInner? row f R0 m = some t) (h3 : rdiv? t ((m : Int) + 1, 1) = some z) (h : bernGo? j (m + 1) (f ++ [rneg z]) = some out)
theorem bern_step {j m : Nat} {f out : List Q2} (h : bernGo? (j + 1) m f = some out) : BernStep j m f out := by
  unfold bernGo? at h
  split at h
  · cases h
  rename_i row h1
  split at h
  · cases h
  rename_i t h2
  split at h
  · cases h
  rename_i z h3
  exact ⟨row, t, z, h1, h2, h3, h⟩
inductive PsumStep (k j power : Nat) (row : List Int) (known f out : List Q2) : Prop
  | mk (c : Int) (b r m z : Q2) (h1 : row[power]? = some c) (h2 : known[k + 1 - power]? = some b) (h3 : rat? c 1 = some r) (h4 : rmul? r b = some m) (h5 : rdiv? m ((k : Int) + 1, 1) = some z) (h : psumGo? k row known j (power + 1) (f ++ [z]) = some out)
theorem psum_step {k j power : Nat} {row : List Int} {known f out : List Q2} (h : psumGo? k row known (j + 1) power f = some out) : PsumStep k j power row known f out := by
  unfold psumGo? at h
  split at h
  · cases h
  rename_i c h1
  split at h
  · cases h
  rename_i b h2
  split at h
  · cases h
  rename_i r h3
  split at h
  · cases h
  rename_i m h4
  split at h
  · cases h
  rename_i z h5
  exact ⟨c, b, r, m, z, h1, h2, h3, h4, h5, h⟩
end

section
-- part Qs
theorem R0_rat {h : Heap} (X : (Mine.hd.heap_39 w.params).In h) : RatV h (.ref 42) (0, 1) := by
  revert X
  show (Mine.hd.heap_39 w.params).In h → RatV h (.ref 42) (0, 1)
  have hf : PySem.Challenge.rw_tk0017_01 = PySem.Challenge.rw_tk0017_01 → ∀ h : Heap, (Mine.hd.heap_39 w.params).In h → RatV h (.ref 42) (0, 1) := by
    k_fill
    intro _ h X
    exact ⟨42, _, _, rfl, _, X 42 _ (by k_is), rfl, _, rfl⟩
  exact hf rfl h
local macro_rules | `(tactic| walk_at "eval ListComp") => `(tactic| refine stopped ?_)
local macro_rules | `(tactic| walk_at "exec Assign cons ListComp") => `(tactic| refine stopped ?_)
local macro_rules | `(tactic| walk_at "pyIter ref") => `(tactic| refine stopped ?_)
local macro_rules | `(tactic| walk_at "call type:enumerate") => `(tactic| refine stopped ?_)
local macro_rules | `(tactic| walk_at "my con") => `(tactic| first | refine' radd_sp ?z | refine' rmul_sp ?z | refine' rdiv_sp ?z)
local macro_rules | `(tactic| walk_at "call ref") => `(tactic| walk_at "my call")
theorem qscale_sp {v1 v2 : Value} {ps qs : List Q2} {r : Q2} (hz : qscale? ps r = some qs) : Sp w p loose mean mg mb 107 4 32 [v1, v2] (fun h => PolyV h v1 ps ∧ RatV h v2 r) (fun h r => PolyV h r qs) := by
  unfold Sp
  k_fill
  intro dp un fr gd s E hd hu X T hpre
  obtain ⟨⟨a, vs, rfl, hl, hr, hn⟩, a2, t2, u2, rfl, ht2⟩ := hpre
  have hlen := hr.length
  have hr2 : RatV s.heap (.ref a2) r := ⟨a2, t2, u2, rfl, ht2⟩
  k_dflt (refine' enterC (binds := [(Str.ofString "p", .ref a), (Str.ofString "r", .ref a2)]) X T ?k6 ?k7 ?k8 ?k9 ?kB ?kD ?_ ?c2 ?c3 ?c4; (case k6 => k_is); (case k7 => k_is); (case k8 => first | exact room_0 (by assumption) | (dsimp only; omega)); (case k9 => exact BindsTo.of_eq rfl); (case kB => exact rfl); (case kD => decide +kernel); (case c2 => exact rfl); (case c3 => exact rfl); (case c4 => exact rfl); k_whole)
  intro L h₁ tk₁ cells F N Y
  obtain ⟨o1, rfl, d1⟩ := CellsAre.one (show CellsAre _ [(Str.ofString "r", L + 1)] cells from Y)
  have d1 : o1.data = .cell (some (.ref a2)) := d1
  have Xb := X.keeps F.keep
  have Tb := T.keeps F.keep
  have hr := hr.imp fun _ _ => RatV.ext F.keep
  have hr2 := hr2.ext F.keep
  have hc : h₁.IsCell (L + 1) (some (.ref a2)) := ⟨o1, N.get (.head _), d1⟩
  (try k_fold)
  k_steps
  · unfold Stopped
    rename r.fst ≠ 0 => h0
    have hz : map? (fun x => rmul? x r) ps = some qs := by unfold qscale? at hz; rw [if_neg h0] at hz; exact hz
    have hql := map?_len hz
    refine' comp_rule RatV (fun _ _ _ _ k x => k.ratV x) qs ?hclos ?hcell ?hkind ?hnames ?_ ?hs
    ((case' hclos => with_unfolding_all rfl); (case' hcell => decide); (case' hkind => with_unfolding_all rfl); (case' hnames => decide); (case' hs => (intro _; with_unfolding_all rfl)))
    k_steps
    unfold Stopped
    have hl1 := plain_at F hl
    refine comp_list rfl hl1 (hlen.trans hql.symm) (size_ok (by rw [hql]; exact hn)) rfl rfl ?_ ?_
    · intro i b v C h tk m own E' hb hv FC NC
      obtain ⟨q, hq, hR⟩ := hr.get' hv
      have hz1 : rmul? q r = some b := map?_get hz hq hb
      k_steps
      exact elt_end (by k_asm) (by k_asm) (by walk_at "my sub") (by assumption)
    · intro _ _ D h' tk ys hD hys hext hnew
      exact back_poly (Ext.trans F.keep hext) hD hys (by omega)
  · rename r.fst = 0 => h0
    have hz : qs = [] := by unfold qscale? at hz; rw [if_pos h0] at hz; exact (Option.some.inj hz).symm
    subst hz
    exact back_list (vs := []) (by assumption) (by assumption) .nil (Nat.zero_le _)
local macro_rules | `(tactic| walk_at "subscriptTail Name Slice ref ref") => `(tactic| refine stopped ?_)
theorem qderive_sp {v : Value} {ps qs : List Q2} (hz : qderive? ps = some qs) : Sp w p loose mean mg mb 119 4 32 [v] (fun h => PolyV h v ps) (fun h r => PolyV h r qs) := by
  unfold Sp
  k_fill
  intro dp un fr gd s E hd hu X T hpre
  obtain ⟨a, vs, rfl, hl, hr, hn⟩ := hpre
  have hlen := hr.length
  obtain ⟨rs, hzz, rfl⟩ : ∃ rs, mapI? (fun i x => rmul? x (i, 1)) 0 ps = some rs ∧ qs = rs.drop 1 := by
    unfold qderive? at hz
    split at hz
    · cases hz
    · rename_i rs e
      exact ⟨rs, e, (Option.some.inj hz).symm⟩
  have hql := mapI?_len hzz
  k_dflt (refine' enter (binds := [(Str.ofString "p", .ref a)]) X T ?k6 ?k7 ?k8 ?k9 ?kB ?_ ?c2 ?c3 ?c4 ?c5; (case k6 => k_is); (case k7 => k_is); (case k8 => first | exact room_0 (by assumption) | (dsimp only; omega)); (case k9 => exact BindsTo.of_eq rfl); (case c5 => decide); (case kB => exact locs rfl); (case c2 => exact rfl); (case c3 => exact rfl); (case c4 => exact rfl); k_whole)
  intro L h₁ hL F
  have N : News s.heap L h₁ [] := News.nil
  have Xb := X.keeps F.keep
  have Tb := T.keeps F.keep
  have hr := hr.imp fun _ _ => RatV.ext F.keep
  (try k_fold)
  k_steps
  unfold Stopped
  refine' comp_rule RatV (fun _ _ _ _ k x => k.ratV x) rs ?hclos ?hcell ?hkind ?hnames ?_ ?hs
  ((case' hclos => with_unfolding_all rfl); (case' hcell => decide); (case' hkind => with_unfolding_all rfl); (case' hnames => decide); (case' hs => (intro _; with_unfolding_all rfl)))
  k_steps
  unfold Stopped
  have hl1 := plain_at F hl
  refine comp_enum rfl hl1 (hlen.trans hql.symm) (size_ok (by rw [hql]; exact hn)) rfl rfl rfl ?_ ?_
  · intro i b v t C h tk m own E' hb hv FC NC
    obtain ⟨q, hq, hR⟩ := hr.get' hv
    have hz1 : rmul? q ((i : Int), 1) = some b := by simpa using mapI?_get hzz hq hb
    k_steps
    exact elt_end (by k_asm) (by k_asm) (by walk_at "my sub") (by assumption)
  · intro _ _ D h' tk ys hD hys hext hnew
    have FD := F.keeps hext
    have ND : News s.heap L h' (newOf s.heap h' [L]) := newOf_news (M := [])
    have mvD := newOf_mover (M := []) FD
    have hyl := hys.length
    k_steps
    unfold Stopped
    k_dflt (refine' slice_from1 ?F ?N ?l ?z ?_ ?hs9 ?ht9; (case F | N => k_asm); (case l => walk_at "my plain"); (case z => omega); (case hs9 => with_unfolding_all rfl); (case ht9 => kmk_pure))
    intro D9 h9 F9 N9
    try k_sweep
    k_steps
    rename Fr _ _ _ _ => F'
    rename News _ _ _ _ => N'
    refine back_list F' N' ?_ (by simp only [List.length_drop]; omega)
    exact (hys.drop 1).imp fun _ _ => rat_mv mvD F' N' (by walk_at "my sub")
local macro_rules | `(tactic| walk_at "binaryOp Add") => `(tactic| refine stopped ?_)
theorem qintegral_sp {v : Value} {ps qs : List Q2} (hz : qintegral? ps = some qs) : Sp w p loose mean mg mb 124 4 32 [v] (fun h => PolyV h v ps) (fun h r => PolyV h r qs) := by
  unfold Sp
  k_fill
  intro dp un fr gd s E hd hu X T hpre
  obtain ⟨a, vs, rfl, hl, hr, hn⟩ := hpre
  have hlen := hr.length
  obtain ⟨rs, hzz, hqs⟩ : ∃ rs, mapI? (fun i x => rdiv? x (i + 1, 1)) 0 ps = some rs ∧ ((rs = [] ∧ qs = []) ∨ (0 < rs.length ∧ ps.length ≤ 999 ∧ qs = R0 :: rs)) := by
    unfold qintegral? at hz
    split at hz
    · cases hz
    · rename_i e
      exact ⟨[], e, .inl ⟨rfl, (Option.some.inj hz).symm⟩⟩
    · rename_i y t e
      split at hz
      · exact ⟨_, e, .inr ⟨by simp, by assumption, (Option.some.inj hz).symm⟩⟩
      · cases hz
  have hql := mapI?_len hzz
  k_dflt (refine' enter (binds := [(Str.ofString "p", .ref a)]) X T ?k6 ?k7 ?k8 ?k9 ?kB ?_ ?c2 ?c3 ?c4 ?c5; (case k6 => k_is); (case k7 => k_is); (case k8 => first | exact room_0 (by assumption) | (dsimp only; omega)); (case k9 => exact BindsTo.of_eq rfl); (case c5 => decide); (case kB => exact locs rfl); (case c2 => exact rfl); (case c3 => exact rfl); (case c4 => exact rfl); k_whole)
  intro L h₁ hL F
  have N : News s.heap L h₁ [] := News.nil
  have Xb := X.keeps F.keep
  have Tb := T.keeps F.keep
  have hr := hr.imp fun _ _ => RatV.ext F.keep
  (try k_fold)
  k_steps
  unfold Stopped
  refine' comp_assign (m := fun y => List.lookup y [(Str.ofString "p", Value.ref a)].reverse) RatV (fun _ _ _ _ k x => k.ratV x) rs ?hsw ?hclos ?hcell ?hkind ?hnames ?hy ?hp ?_ ?hs
  (case hsw => with_unfolding_all rfl)
  (case hy => with_unfolding_all rfl)
  (case hp => with_unfolding_all rfl)
  ((case' hclos => with_unfolding_all rfl); (case' hcell => decide); (case' hkind => with_unfolding_all rfl); (case' hnames => decide); (case' hs => (intro _; with_unfolding_all rfl)))
  k_steps
  unfold Stopped
  have hl1 := plain_at F hl
  refine comp_enum rfl hl1 (hlen.trans hql.symm) (size_ok (by rw [hql]; exact hn)) rfl rfl rfl ?_ ?_
  · intro i b v t C h tk m own E' hb hv FC NC
    obtain ⟨q, hq, hR⟩ := hr.get' hv
    have hz1 : rdiv? q ((i : Int) + 1, 1) = some b := by simpa using mapI?_get hzz hq hb
    k_steps
    exact elt_end (by k_asm) (by k_asm) (by walk_at "my sub") (by assumption)
  · intro _ _
    refine ⟨F.ns, ?_⟩
    intro D h' tk ys hD hys hns hext hnew
    have FD : Fr s.heap L h' _ := ⟨hns, fun b o e => hext b o (Nat.ne_of_lt (Nat.lt_of_lt_of_le (Heap.lt_size e) F.above)) (F.keep b o e), F.above⟩
    have ND : News s.heap L h' (newOf s.heap h' [L]) := newOf_news (M := [])
    have mvD := newOf_mover (M := []) FD
    have hyl := hys.length
    have hhl : ys.length ≤ 1000 := by omega
    clear F N
    k_steps
    · unfold Stopped
      k_dflt (refine' add_lists ?F ?N ?hl ?hb ?_ ?z; (case F | N => k_asm); (case hl => exact News.isList (by k_asm) (by k_mem)); (case hb => exact Heap.PlainList.isList (by walk_at "my plain")); (case z => (simp only [List.length_cons, List.length_nil, sizeLine_eq]; omega)))
      intro h9 F9 N9
      try k_sweep
      k_steps
      rename Fr _ _ _ _ => F'
      rename News _ _ _ _ => N'
      rcases hqs with ⟨rfl, _⟩ | ⟨_, h999, rfl⟩
      · simp only [List.length_nil] at hyl
        omega
      · exact back_list F' N' (.cons (R0_rat (X.keeps F'.keep)) (hys.imp fun _ _ => rat_mv mvD F' N' (by walk_at "my sub"))) (by simp only [List.length_cons]; omega)
    · rcases hqs with ⟨rfl, rfl⟩ | ⟨h1, _, _⟩
      · exact back_list (vs := []) (by assumption) (by assumption) .nil (Nat.zero_le _)
      · omega
end

section
-- part Qadd
local macro_rules | `(tactic| walk_at "eval ListComp") => `(tactic| refine stopped ?_)
local macro_rules | `(tactic| walk_at "pyIter ref") => `(tactic| refine stopped ?_)
local macro_rules | `(tactic| walk_at "my con") => `(tactic| first | refine' radd_sp ?z | refine' qtrim_sp)
local macro_rules | `(tactic| walk_at "call ref") => `(tactic| walk_at "my call")
theorem qadd_sp {v1 v2 : Value} {ps qs rs : List Q2} (hz : qadd? ps qs = some rs) : Sp w p loose mean mg mb 90 4 32 [v1, v2] (fun h => PolyV h v1 ps ∧ PolyV h v2 qs) (fun h r => PolyV h r rs) := by
  unfold Sp
  k_fill
  intro dp un fr gd s E hd hu X T hpre
  obtain ⟨⟨a1, vs, rfl, hl1, hr1, hn1⟩, a2, ws, rfl, hl2, hr2, hn2⟩ := hpre
  have hlen1 := hr1.length
  have hlen2 := hr2.length
  obtain ⟨zs, hzz, rfl⟩ : ∃ zs, zip? radd? ps qs = some zs ∧ rs = qtrim zs := by
    unfold qadd? at hz
    split at hz
    · cases hz
    · rename_i zs e
      exact ⟨zs, e, (Option.some.inj hz).symm⟩
  have hzl := zip?_len hzz
  k_dflt (refine' enterC (binds := [(Str.ofString "a", .ref a1), (Str.ofString "b", .ref a2)]) X T ?k6 ?k7 ?k8 ?k9 ?kB ?kD ?_ ?c2 ?c3 ?c4; (case k6 => k_is); (case k7 => k_is); (case k8 => first | exact room_0 (by assumption) | (dsimp only; omega)); (case k9 => exact BindsTo.of_eq rfl); (case kB => exact rfl); (case kD => decide +kernel); (case c2 => exact rfl); (case c3 => exact rfl); (case c4 => exact rfl); k_whole)
  intro L h₁ tk₁ cells F N Y
  obtain ⟨o1, o2, rfl, d1, d2⟩ := CellsAre.two (show CellsAre _ [(Str.ofString "b", L + 1 + 1), (Str.ofString "a", L + 1)] cells from Y)
  have d1 : o1.data = .cell (some (.ref a2)) := d1
  have d2 : o2.data = .cell (some (.ref a1)) := d2
  (try k_fold)
  k_steps
  unfold Stopped
  refine' comp_rule RatV (fun _ _ _ _ k x => k.ratV x) zs ?hclos ?hcell ?hkind ?hnames ?_ ?hs
  ((case' hclos => with_unfolding_all rfl); (case' hcell => decide); (case' hkind => with_unfolding_all rfl); (case' hnames => decide); (case' hs => (intro _; with_unfolding_all rfl)))
  k_steps
  unfold Stopped
  rename IsRange _ _ _ _ _ _ _ _ => hR
  rename Fr _ _ _ _ => F1
  rename News _ _ _ _ => N1
  have e : (if (ws.length : Int) > (vs.length : Int) then (ws.length : Int) else (vs.length : Int)) = 0 + ((zs.length : Nat) : Int) := by split <;> omega
  have hR := hR
  rw [e] at hR
  have Xb := X.keeps F1.keep
  have Tb := T.keeps F1.keep
  have hr1 := hr1.imp fun _ _ => RatV.ext F1.keep
  have hr2 := hr2.imp fun _ _ => RatV.ext F1.keep
  have hl1 := plain_at F1 hl1
  have hl2 := plain_at F1 hl2
  have hc1 : Heap.IsCell _ (L + 1 + 1) (some (.ref a2)) := ⟨o1, N1.get (by k_mem), d1⟩
  have hc2 : Heap.IsCell _ (L + 1) (some (.ref a1)) := ⟨o2, N1.get (by k_mem), d2⟩
  have hR0 := R0_rat Xb
  refine comp_range rfl hR (range_small (by decide) (by decide) (by omega) (by omega)) (range_size 0 zs.length) (by simp only [sizeLine_eq]; omega) rfl rfl ?_ ?_
  · intro i b t C h tk m own E' hb FC NC
    have hib : i < zs.length := (List.getElem?_eq_some_iff.mp hb).1
    have hz1 := zip?_get hzz hb
    rw [show (0 : Int) + (i : Int) = (i : Int) from Int.zero_add _] at FC
    by_cases h1 : i < ps.length
    · obtain ⟨v1, hv1, q1, hR1⟩ : ∃ v1, vs[i]? = some v1 ∧ ∃ q1, ps.getD i R0 = q1 ∧ RatV _ v1 q1 := by
        obtain ⟨v1, hv1, hR1⟩ := hr1.get (List.getElem?_eq_getElem h1)
        exact ⟨v1, hv1, _, rfl, by simpa [List.getD, List.getElem?_eq_getElem h1] using hR1⟩
      have hv1' : vs[((i : Nat) : Int).toNat]? = some v1 := by rw [Int.toNat_natCast]; exact hv1
      by_cases h2 : i < qs.length
      · obtain ⟨v2, hv2, q2, hR2⟩ : ∃ v2, ws[i]? = some v2 ∧ ∃ q2, qs.getD i R0 = q2 ∧ RatV _ v2 q2 := by
          obtain ⟨v2, hv2, hR2⟩ := hr2.get (List.getElem?_eq_getElem h2)
          exact ⟨v2, hv2, _, rfl, by simpa [List.getD, List.getElem?_eq_getElem h2] using hR2⟩
        have hv2' : ws[((i : Nat) : Int).toNat]? = some v2 := by rw [Int.toNat_natCast]; exact hv2
        obtain ⟨rfl, hR2⟩ := hR2
        obtain ⟨rfl, hR1⟩ := hR1
        k_steps
        exact elt_end (by k_asm) (by k_asm) (by walk_at "my sub") (by assumption)
      · have e2 : qs.getD i R0 = (0, 1) := by simp [List.getD, List.getElem?_eq_none (Nat.le_of_not_lt h2), R0]
        rw [e2] at hz1
        obtain ⟨rfl, hR1⟩ := hR1
        k_steps
        exact elt_end (by k_asm) (by k_asm) (by walk_at "my sub") (by assumption)
    · have e1 : ps.getD i R0 = (0, 1) := by simp [List.getD, List.getElem?_eq_none (Nat.le_of_not_lt h1), R0]
      rw [e1] at hz1
      by_cases h2 : i < qs.length
      · obtain ⟨v2, hv2, q2, hR2⟩ : ∃ v2, ws[i]? = some v2 ∧ ∃ q2, qs.getD i R0 = q2 ∧ RatV _ v2 q2 := by
          obtain ⟨v2, hv2, hR2⟩ := hr2.get (List.getElem?_eq_getElem h2)
          exact ⟨v2, hv2, _, rfl, by simpa [List.getD, List.getElem?_eq_getElem h2] using hR2⟩
        have hv2' : ws[((i : Nat) : Int).toNat]? = some v2 := by rw [Int.toNat_natCast]; exact hv2
        obtain ⟨rfl, hR2⟩ := hR2
        k_steps
        exact elt_end (by k_asm) (by k_asm) (by walk_at "my sub") (by assumption)
      · omega
  · intro _ _ D h' tk ys hD hys hext hnew
    have FD := F1.keeps hext
    have ND : News s.heap L h' (newOf s.heap h' [L]) := newOf_news (M := [])
    have hP : PolyV h' (.ref D) zs := ⟨D, ys, rfl, hD, hys, by omega⟩
    clear F1 N1
    k_steps
    exact back_of (by assumption) (by assumption)
end

section
-- part Qat
local macro_rules | `(tactic| walk_at "my none") => `(tactic| skip)
local macro_rules | `(tactic| walk_at "exec For Name Call cons nil") => `(tactic| refine stopped ?_)
local macro_rules | `(tactic| walk_at "call type:reversed") => `(tactic| refine stopped ?_)
local macro_rules | `(tactic| walk_at "my con") => `(tactic| first | refine' radd_sp ?z | refine' rmul_sp ?z)
local macro_rules | `(tactic| walk_at "call ref") => `(tactic| walk_at "my call")
theorem drop_of_get {α : Type} {l : List α} {i : Nat} {x : α} (h : l[i]? = some x) : l.drop i = x :: l.drop (i + 1) := by
  obtain ⟨hlt, e⟩ := List.getElem?_eq_some_iff.mp h
  rw [List.drop_eq_getElem_cons hlt, e]
inductive QatJ (a : Addr) (vr : Value) (r : Q2) (ps : List Q2) (z₀ : Q2) (i : Nat) (m : Str → Option Value) (h : Heap) : Prop
  | mk (v : _) (z : _) (q0 : Has m [(Str.ofString "p", .ref a), (Str.ofString "r", vr), (Str.ofString "found", v)]) (q1 : RatV h v z) (q2 : qatGo? r z (ps.reverse.drop i) = some z₀)
theorem qat_sp {v1 v2 : Value} {ps : List Q2} {r z₀ : Q2} (hz : qat? ps r = some z₀) : Sp w p loose mean mg mb 131 4 32 [v1, v2] (fun h => PolyV h v1 ps ∧ RatV h v2 r) (fun h u => RatV h u z₀) := by
  unfold Sp
  k_fill
  intro dp un fr gd s E hd hu X T hpre
  obtain ⟨⟨a, vs, rfl, hl, hr, hn⟩, hr2⟩ := hpre
  have hlen := hr.length
  k_dflt (refine' enter (binds := [(Str.ofString "p", .ref a), (Str.ofString "r", v2)]) X T ?k6 ?k7 ?k8 ?k9 ?kB ?_ ?c2 ?c3 ?c4 ?c5; ((case k6 => k_is); (case k7 => k_is); (case k8 => first | exact room_0 (by assumption) | (dsimp only; omega)); (case k9 => exact BindsTo.of_eq rfl); (case c5 => decide); (case kB => exact locs rfl); (case c2 => exact rfl); (case c3 => exact rfl); (case c4 => exact rfl); k_whole))
  intro L h₁ hL F
  have N : News s.heap L h₁ [] := News.nil
  (try k_fold)
  k_steps
  unfold Stopped
  rename Fr _ _ _ _ => F1
  rename News _ _ _ _ => N1
  refine for_rule [] [] s.heap (InvOf s.heap L (QatJ a v2 r ps z₀)) (invOf_fr (env := envOf _ _ L _ _) _) (invOf_stay (env := envOf _ _ L _ _) _ ?_) ?_
  · rintro i m h h' x _ ⟨v, z, hm, hR, hq⟩
    exact ⟨v, z, hm, x.ratV hR, hq⟩
  · k_steps
    unfold Stopped
    refine for_rev _ rfl (plain_at (by k_asm) hl) (by k_asm) News.nil (fun q => nomatch q) (fun _ q => nomatch q) rfl rfl ?_ ?_ ?_
    · intro h' hext
      exact ⟨_, R0, ⟨rfl, rfl, rfl, trivial⟩, (R0_rat (X.keeps F1.keep)).ext hext, by simpa [qat?] using hz⟩
    · rintro i v m hI h tk own hv ⟨v₁, z, hm, hR, hq⟩ FI F N hoff mv kp
      have N : News s.heap L h own := N
      have mv : Mover [] s.heap L own hI := mv
      have F : Fr s.heap L h _ := F
      rw [← hm.pinned] at F
      obtain ⟨q, hqi, hRq⟩ := hr.rev.get' hv
      have hd : ps.reverse.drop i = q :: ps.reverse.drop (i + 1) := drop_of_get hqi
      rw [hd] at hq
      obtain ⟨m₁, z', hz1, hz2, hq⟩ := qat_step hq
      k_steps
      refine turn_end (by k_asm) (by k_asm) (by walk_at "my sub") ?_
      exact ⟨_, z', ⟨rfl, rfl, rfl, trivial⟩, by walk_at "my rat", hq⟩
    · rintro m h tk own ⟨v, z, hm, hR, hq⟩ F N mv
      have N : News s.heap L h own := N
      have mv : Mover [] s.heap L own h := mv
      have F : Fr s.heap L h _ := Fr.pins F hm
      rw [List.drop_of_length_le (by rw [List.length_reverse]; omega)] at hq
      cases hq
      k_steps
      exact back_of (by assumption) (by assumption)
end

section
-- part Bino
local macro_rules | `(tactic| walk_at "my none") => `(tactic| skip)
local macro_rules | `(tactic| walk_at "exec For Name Call cons nil") => `(tactic| refine stopped ?_)
local macro_rules | `(tactic| walk_at "pyIter ref") => `(tactic| refine stopped ?_)
local macro_rules | `(tactic| walk_at "call builtin:list.append") => `(tactic| refine stopped ?_)
inductive BinoJ (D : Addr) (n0 : Nat) (t : Tok) (row : List Int) (i : Nat) (m : Str → Option Value) (h : Heap) : Prop
  | mk (fs : _) (ns : _) (last : _) (q0 : Has m [(Str.ofString "n", .int (n0 : Int) t), (Str.ofString "found", .ref D)]) (q1 : h.PlainList D (List.toArray fs)) (q2 : IntsAre fs ns) (q3 : ns.length = i + 1) (q4 : ns[i]? = some last) (q5 : binoGo? (n0 : Int) (n0 - i) (i : Int) last ns = some row)
theorem bino_sp {n0 : Nat} {t : Tok} {row : List Int} (hz : bino? n0 = some row) (hn : n0 ≤ 100) : Sp w p loose mean mg mb 145 1 8 [.int (n0 : Int) t] (fun _ => True) (fun h r => IntsV h r row) := by
  unfold Sp
  k_fill
  intro dp un fr gd s E hd hu X T hpre
  k_dflt (refine' enter (binds := [(Str.ofString "n", .int (n0 : Int) t)]) X T ?k6 ?k7 ?k8 ?k9 ?kB ?_ ?c2 ?c3 ?c4 ?c5; ((case k6 => k_is); (case k7 => k_is); (case k8 => first | exact room_0 (by assumption) | (dsimp only; omega)); (case k9 => exact BindsTo.of_eq rfl); (case c5 => decide); (case kB => exact locs rfl); (case c2 => exact rfl); (case c3 => exact rfl); (case c4 => exact rfl); k_whole))
  intro L h₁ hL F
  have N : News s.heap L h₁ [] := News.nil
  (try k_fold)
  k_steps
  unfold Stopped
  rename_i D _ _ h2 F1 N1
  have hD := (N1 _ (.head _)).2
  refine for_rule [] [D] s.heap (InvOf s.heap L (BinoJ D n0 t row)) (invOf_fr (env := envOf _ _ L _ _) _) (invOf_stay (env := envOf _ _ L _ _) _ ?_) ?_
  · rintro i m h h' x _ ⟨fs, ns, last, hm, hl, hI, hlen, hlast, hq⟩
    exact ⟨fs, ns, last, hm, x.plain hl, hI, hlen, hlast, hq⟩
  · k_steps
    unfold Stopped
    rename IsRange _ _ _ _ _ _ _ _ => hR
    rename Fr _ _ _ _ => F2
    rename News _ _ _ _ => N2
    have e : (n0 : Int) = 0 + (n0 : Int) := (Int.zero_add _).symm
    have hR := hR
    rw [e] at hR
    refine for_range _ rfl hR (range_small (by decide) (by decide) (lo_zero (Nat.le_trans hn (by decide))).1 (lo_zero (Nat.le_trans hn (by decide))).2) (range_size 0 n0) F2 News.nil ?_ rfl rfl ?_ ?_ ?_
    · intro b hb
      rw [List.mem_singleton.mp hb]
      exact Heap.lt_size (N2.get (by k_mem))
    · intro h' hext
      exact ⟨_, [1], 1, ⟨rfl, rfl, trivial⟩, ⟨_, hext _ _ (N2.get (by k_mem))⟩, .cons _ _ .nil, rfl, rfl, hz⟩
    · rintro i t1 m hJ h tk own hin ⟨fs, ns, last, hm, hl, hI, hlen, hlast, hq⟩ FI F N hoff mv kp
      change News s.heap L h own at N
      change Fr s.heap L hJ m at FI
      change Fr s.heap L h _ at F
      rw [← hm.pinned, show (0 : Int) + (i : Int) = (i : Int) from Int.zero_add _] at F
      have hfl := IntsAre.length hI
      have hl2 := kp_plain FI kp hl
      obtain ⟨c, hc⟩ := id hl2
      replace N := led F N hD.2 hD.1 hc
      obtain ⟨tl, hx⟩ := ints_get hI hlast
      replace hx : fs[((i : Nat) : Int).toNat]? = some (.int last tl) := by rw [Int.toNat_natCast]; exact hx
      obtain ⟨j, hj⟩ := ar_left hin
      rw [hj] at hq
      unfold binoGo? at hq
      split at hq
      · rename_i hs
        simp only [Bool.and_eq_true] at hs
        have b1 := sm_bits hs.1
        have b2 := sm_bits hs.2
        have m1 := sm_mul hs.1 hs.2
        k_steps
        unfold Stopped
        refine append_my (own := own) hl2 (by omega) F N hD hoff (by walk_at "my sub") ?_
        intro h' F' N' hl' sb
        k_steps
        refine turn_end F' N' (by walk_at "my sub") ?_
        have hg : ns.getD (((i : Nat) : Int)).toNat 0 = last := by simp [List.getD, hlast]
        refine ⟨_, _, (last * ((n0 : Int) - (i : Int))).fdiv ((i : Int) + 1), ⟨rfl, rfl, trivial⟩, hl', by rw [hg]; exact IntsAre.snoc hI, by simp [hlen], by simp [← hlen], ?_⟩
        rw [show n0 - (i + 1) = j from ar_up hj]
        exact hq
      · cases hq
    · rintro m h tk own ⟨fs, ns, last, hm, hl, hI, hlen, hlast, hq⟩ F N mv
      change News s.heap L h own at N
      change Mover [] s.heap L own h at mv
      have F : Fr s.heap L h _ := Fr.pins F hm
      rw [Nat.sub_self] at hq
      cases hq
      k_steps
      exact back_of (by assumption) ⟨D, fs, rfl, hl, hI, by omega⟩
end

section
-- part Qsub
local macro_rules | `(tactic| walk_at "my con") => `(tactic| first | refine' qneg_sp | refine' qadd_sp ?z)
local macro_rules | `(tactic| walk_at "call ref") => `(tactic| walk_at "my call")
theorem qsub_sp {v1 v2 : Value} {ps qs rs : List Q2} (hz : qsub? ps qs = some rs) : Sp w p loose mean mg mb 102 5 40 [v1, v2] (fun h => PolyV h v1 ps ∧ PolyV h v2 qs) (fun h r => PolyV h r rs) := by
  unfold Sp
  k_fill
  intro dp un fr gd s E hd hu X T hpre
  obtain ⟨⟨a1, vs, rfl, hl1, hr1, hn1⟩, a2, ws, rfl, hl2, hr2, hn2⟩ := hpre
  have hp1 : PolyV s.heap (.ref a1) ps := ⟨a1, vs, rfl, hl1, hr1, hn1⟩
  have hp2 : PolyV s.heap (.ref a2) qs := ⟨a2, ws, rfl, hl2, hr2, hn2⟩
  have hz : qadd? ps (qneg qs) = some rs := hz
  k_dflt (refine' enter (binds := [(Str.ofString "a", .ref a1), (Str.ofString "b", .ref a2)]) X T ?k6 ?k7 ?k8 ?k9 ?kB ?_ ?c2 ?c3 ?c4 ?c5; ((case k6 => k_is); (case k7 => k_is); (case k8 => first | exact room_0 (by assumption) | (dsimp only; omega)); (case k9 => exact BindsTo.of_eq rfl); (case c5 => decide); (case kB => exact locs rfl); (case c2 => exact rfl); (case c3 => exact rfl); (case c4 => exact rfl); k_whole))
  intro L h₁ hL F
  have N : News s.heap L h₁ [] := News.nil
  (try k_fold)
  k_steps
  exact back_of (by assumption) (by assumption)
end

section
-- part Qmul
theorem mul_my {prog : Program} {A : Around} {E : Value → Shared → Prop} {s : Shared} {h₀ : Heap} {L l : Addr} {m : Str → Option Value} {news : List (Addr × Obj)} {x : Value} {k : Nat} {i : Int} {u : Tok} {Q : Value → Shared → Prop}
    (F : Fr h₀ L s.heap m) (N : News h₀ L s.heap news) (hl : s.heap.get? l = some (listOf #[x] k)) (h0 : 0 ≤ i) (h1 : i ≤ 1000)
    (h : ∀ D h', Fr h₀ L h' m → News h₀ L h' ((D, listOf (List.replicate i.toNat x).toArray 0) :: news) → Q (.ref D) { s with heap := h' }) : wpAny (model prog w) A (binaryOp .Mult (.ref l) (.int i u)) Q E s := by
  refine mul_list F N hl (by omega) (by omega) (by simp; omega) fun h' F' N' => h _ h' F' ?_
  have e : List.foldl (fun x1 x2 => x1 ++ x2) #[] (List.replicate (if (#[x] : Array Value).isEmpty = true then 0 else i.toNat) #[x]) = (List.replicate i.toNat x).toArray := by
    rw [foldl_repl]
    simp
  rw [e] at N'
  exact N'
local macro_rules | `(tactic| walk_at "exec For Tuple Call cons nil") => `(tactic| refine stopped ?_)
local macro_rules | `(tactic| walk_at "call type:enumerate") => `(tactic| refine stopped ?_)
local macro_rules | `(tactic| walk_at "setItem ref int") => `(tactic| refine stopped ?_)
local macro_rules | `(tactic| walk_at "binaryOp Mult ref int") => `(tactic| refine stopped ?_)
local macro_rules | `(tactic| walk_at "my con") => `(tactic| first | refine' radd_sp ?z | refine' rmul_sp ?z)
local macro_rules | `(tactic| walk_at "call ref") => `(tactic| walk_at "my call")
inductive QmulJ (a b D : Addr) (qs rs : List Q2) (ps : List Q2) (i : Nat) (m : Str → Option Value) (h : Heap) : Prop
  | mk (fs : _) (xs : _) (q0 : Has m [(Str.ofString "a", .ref a), (Str.ofString "b", .ref b), (Str.ofString "found", .ref D)]) (q1 : h.PlainList D (List.toArray fs)) (q2 : All2 (RatV h) fs xs) (q3 : xs.length ≤ 1000) (q4 : qmulRows? qs i (ps.drop i) xs = some rs)
inductive QmulI (a b D : Addr) (h₀ : Heap) (L : Addr) (own0 : List (Addr × Obj)) (v1 : Value) (t : Tok) (x : Q2) (i : Nat) (qs ys : List Q2) (j : Nat) (m : Str → Option Value) (h : Heap) : Prop
  | mk (fs : _) (xs : _) (q0 : Has m [(Str.ofString "a", .ref a), (Str.ofString "b", .ref b), (Str.ofString "found", .ref D), (Str.ofString "one", .int (i : Int) t), (Str.ofString "left", v1)]) (q1 : h.PlainList D (List.toArray fs)) (q2 : All2 (RatV h) fs xs) (q3 : xs.length ≤ 1000) (q4 : News h₀ L h own0) (q5 : qmulRow? x (i + j) (qs.drop j) xs = some ys)
theorem qmul_sp {v1 v2 : Value} {ps qs rs : List Q2} (hz : qmul? ps qs = some rs) : Sp w p loose mean mg mb 114 4 32 [v1, v2] (fun h => PolyV h v1 ps ∧ PolyV h v2 qs) (fun h r => PolyV h r rs) := by
  unfold Sp
  k_fill
  intro dp un fr gd s E hd hu X T hpre
  obtain ⟨⟨a1, vs, rfl, hl1, hr1, hn1⟩, a2, ws, rfl, hl2, hr2, hn2⟩ := hpre
  have hlen1 := hr1.length
  have hlen2 := hr2.length
  k_dflt (refine' enter (binds := [(Str.ofString "a", .ref a1), (Str.ofString "b", .ref a2)]) X T ?k6 ?k7 ?k8 ?k9 ?kB ?_ ?c2 ?c3 ?c4 ?c5; ((case k6 => k_is); (case k7 => k_is); (case k8 => first | exact room_0 (by assumption) | (dsimp only; omega)); (case k9 => exact BindsTo.of_eq rfl); (case c5 => decide); (case kB => exact locs rfl); (case c2 => exact rfl); (case c3 => exact rfl); (case c4 => exact rfl); k_whole))
  intro L h₁ hL F
  have N : News s.heap L h₁ [] := News.nil
  (try k_fold)
  by_cases hlp : ps.length = 0 ∨ qs.length = 0
  · unfold qmul? at hz
    rw [if_pos hlp] at hz
    cases hz
    k_steps
    all_goals first | omega | exact back_list (vs := []) (by assumption) (by assumption) .nil (Nat.zero_le _)
  · unfold qmul? at hz
    rw [if_neg hlp] at hz
    have hle : ps.length + qs.length ≤ 1000 := by
      split at hz
      · assumption
      · cases hz
    rw [if_pos hle] at hz
    k_steps
    · omega
    · omega
    unfold Stopped
    k_dflt (refine' mul_my ?F ?N ?l ?a ?b ?_; (case F | N => k_asm); (case l => exact News.get (by k_asm) (by k_mem)); (case a | b => omega))
    intro D h9 F9 N9
    try k_sweep
    k_steps
    unfold Stopped
    rename Fr _ _ _ _ => F1
    rename News _ _ _ _ => N1
    have hD : D ≠ L ∧ s.heap.get? D = none := (N1 _ (.head _)).2
    have hR0 := R0_rat (X.keeps F1.keep)
    refine for_rule [] [D] s.heap (InvOf s.heap L (QmulJ a1 a2 D qs rs ps)) (invOf_fr (env := envOf _ _ L _ _) _) (invOf_stay (env := envOf _ _ L _ _) _ ?_) ?_
    · rintro i m h h' x _ ⟨fs, xs, hm, hl, hI, hlen, hq⟩
      exact ⟨fs, xs, hm, x.plain hl, hI.imp fun _ _ => x.ratV, hlen, hq⟩
    · k_steps
      unfold Stopped
      refine for_enum _ rfl (plain_at F1 hl1) F1 News.nil ?_ ?_ rfl rfl rfl ?_ ?_ ?_
      · intro hm
        obtain ⟨n, ho⟩ := hl1
        rw [List.mem_singleton.mp hm, hD.2] at ho
        cases ho
      · intro b hb
        rw [List.mem_singleton.mp hb]
        exact Heap.lt_size (N1.get (by k_mem))
      · intro h' hext
        refine ⟨_, _, ⟨rfl, rfl, rfl, trivial⟩, ⟨_, hext _ _ (N1.get (by k_mem))⟩, ?_, ?_, hz⟩
        · rw [show ((vs.length : Int) + (ws.length : Int) - 1).toNat = ps.length + qs.length - 1 by omega]
          exact All2.repl (hR0.ext hext) _
        · simp only [List.length_replicate]
          omega
      · rintro i v t m hJ h tk own hv ⟨fs, xs, hm, hl, hr, hlen, hq⟩ FI F N hoff mv kp
        change News s.heap L h own at N
        change Fr s.heap L hJ m at FI
        change Fr s.heap L h _ at F
        rw [← hm.pinned] at F
        obtain ⟨x, hx, hRx⟩ := hr1.get' hv
        have hdr : ps.drop i = x :: ps.drop (i + 1) := drop_of_get hx
        rw [hdr] at hq
        obtain ⟨ys, hys, hq⟩ := qrow_step hq
        have hl2' := kp_plain FI kp hl
        have hr' := hr.imp fun _ _ => kp_rat FI kp
        obtain ⟨c, hc⟩ := id hl2'
        have N2 : News s.heap L h ((D, listOf fs.toArray c) :: (own ++ newOf s.heap h [L])) := led F N hD.2 hD.1 hc
        k_steps
        unfold Stopped
        refine for_rule own [D] s.heap (InvOf s.heap L (QmulI a1 a2 D s.heap L own v t x i qs ys)) (invOf_fr (env := envOf _ _ L _ _) _) (invOf_stay (env := envOf _ _ L _ _) _ ?_) ?_
        · rintro j m h h' x _ ⟨fs, xs, hm, hl, hI, hlen, hN, hq⟩
          exact ⟨fs, xs, hm, x.plain hl, hI.imp fun _ _ => x.ratV, hlen, x.news hN, hq⟩
        · k_steps
          unfold Stopped
          refine for_enum _ rfl (plain_at F hl2) F N ?_ ?_ rfl rfl rfl ?_ ?_ ?_
          · intro hm
            obtain ⟨n, ho⟩ := hl2
            rw [List.mem_singleton.mp hm, hD.2] at ho
            cases ho
          · intro b hb
            rw [List.mem_singleton.mp hb]
            exact Heap.lt_size (N2.get (by k_mem))
          · intro h' hext
            exact ⟨fs, xs, ⟨rfl, rfl, rfl, rfl, rfl, trivial⟩, hl2'.at fun o e => hext _ o e, hr'.imp fun _ _ => RatV.ext hext, hlen, N.grown hext, hys⟩
          · have hoffO := hoff
            clear hq hl2' hr' hc N2 hlen hl hr F N FI mv kp hoff hm hR0 F1 N1 hz hdr
            rintro j v2 t2 m hJ h tk own2 hv2 ⟨fs, xs, hm, hl, hr, hlen, hN, hq⟩ FI F N hoff mv kp
            change News s.heap L h own2 at N
            change Fr s.heap L hJ m at FI
            change Fr s.heap L h _ at F
            rw [← hm.pinned] at F
            obtain ⟨y, hy, hRy⟩ := hr2.get' hv2
            have hdr : qs.drop j = y :: qs.drop (j + 1) := drop_of_get hy
            rw [hdr] at hq
            obtain ⟨c0, m0, z0, hc0, hm0, hz0, hq⟩ := qmul_step hq
            have hl2' := kp_plain FI kp hl
            have hr' := hr.imp fun _ _ => kp_rat FI kp
            have hN' := kp_news kp hN
            obtain ⟨c, hc⟩ := id hl2'
            have N2 : News s.heap L h (own ++ ((D, listOf fs.toArray c) :: (own2 ++ newOf s.heap h [L]))) := hN'.append (led F N hD.2 hD.1 hc)
            obtain ⟨vx, hvx, hRc⟩ := hr'.get hc0
            replace hvx : fs[((i : Int) + (j : Int)).toNat]? = some vx := by rw [show ((i : Int) + (j : Int)).toNat = i + j from ar_toadd i j]; exact hvx
            have mv2 : Mover [] s.heap L (newOf s.heap h [L]) h := newOf_mover (M := []) F
            have hfl := hr'.length
            have hij := (List.getElem?_eq_some_iff.mp hc0).1
            clear hN hN' hl hr mv kp N
            k_steps
            unfold Stopped
            rename Fr _ _ _ _ => F3
            rename News _ _ _ _ => N3
            have hl3 : Heap.PlainList _ D fs.toArray := plain_mv mv2 F3 N3 (by walk_at "my sub") hl2'
            refine setItem_my (own := own ++ own2) (vs := fs) (k := i + j) hl3 (by omega) ?_ (by omega) F3 N3 hD ?_ (fun p hp => by rcases List.mem_append.mp hp with h9 | h9 <;> simp only [List.mem_append, List.mem_cons, h9, true_or, or_true]) ?_
            · omega
            · intro p hp
              rcases List.mem_append.mp hp with hp | hp
              · exact hoffO p hp
              · exact hoff p hp
            · intro h4 F4 N4 hl4 sb
              k_steps
              refine turn_end F4 N4 (fun p hp => List.mem_append_right _ hp) ?_
              refine ⟨_, _, ⟨rfl, rfl, rfl, rfl, rfl, trivial⟩, hl4, All2.set (hr'.imp fun _ _ y => sb_rat hl3 sb (rat_mv mv2 F3 N3 (by walk_at "my sub") y)) (sb_rat hl3 sb (by assumption)) _, by rw [List.length_set]; exact hlen, fun p hp => N4 p (List.mem_append_left _ hp), ?_⟩
              rw [show i + (j + 1) = i + j + 1 from rfl]
              exact hq
          · have hqO := hq
            clear hq hl2' hr' hc N2 hlen hl hr F N FI mv kp hm hR0 F1 N1 hz hdr
            rintro m h tk own2 ⟨fs, xs, hm, hl, hr, hlen, hN, hq⟩ F N mv
            change News s.heap L h own2 at N
            change Mover [] s.heap L own2 h at mv
            have F : Fr s.heap L h _ := Fr.pins F hm
            rw [List.drop_of_length_le (by omega)] at hq
            have hq : xs = ys := Option.some.inj hq
            rw [← hq] at hqO
            k_steps
            refine turn_end F hN (fun _ h => h) ?_
            exact ⟨fs, xs, ⟨rfl, rfl, rfl, trivial⟩, hl, hr, hlen, hqO⟩
      · rintro m h tk own ⟨fs, xs, hm, hl, hr, hlen, hq⟩ F N mv
        change News s.heap L h own at N
        have F : Fr s.heap L h _ := Fr.pins F hm
        rw [List.drop_of_length_le (by omega)] at hq
        cases hq
        k_steps
        exact back_of (by assumption) ⟨D, fs, rfl, hl, hr, hlen⟩
end

section
-- part Qcomp
local macro_rules | `(tactic| walk_at "exec For Name Call cons nil") => `(tactic| refine stopped ?_)
local macro_rules | `(tactic| walk_at "call type:reversed") => `(tactic| refine stopped ?_)
theorem qtrim_one {v : Value} {h₀ h : Heap} {L D : Addr} {c : Nat} {q : Q2} {news : List (Addr × Obj)} (N : News h₀ L h news) (hm : (D, listOf #[v] c) ∈ news) (hr : RatV h v q) : PolyV h (.ref D) [q] :=
  ⟨D, [v], rfl, ⟨c, N.get hm⟩, .cons hr .nil, by simp⟩
local macro_rules | `(tactic| walk_at "my con") => `(tactic| first | refine' qtrim_sp | refine' qmul_sp ?z | refine' qadd_sp ?z)
local macro_rules | `(tactic| walk_at "call ref") => `(tactic| walk_at "my call")
local macro_rules | `(tactic| walk_at "my lit") => `(tactic| (refine' qtrim_one ?N ?m ?r; (case N => k_asm); (case m => k_mem); (case r => walk_at "my rat")))
inductive QcompJ (a : Addr) (vr : Value) (r : List Q2) (ps : List Q2) (z₀ : List Q2) (i : Nat) (m : Str → Option Value) (h : Heap) : Prop
  | mk (v : _) (z : _) (q0 : Has m [(Str.ofString "a", .ref a), (Str.ofString "b", vr), (Str.ofString "found", v)]) (q1 : PolyV h v z) (q2 : qcomposeGo? r z (ps.reverse.drop i) = some z₀)
theorem qcomp_sp {v1 v2 : Value} {ps qs z₀ : List Q2} (hz : qcompose? ps qs = some z₀) : Sp w p loose mean mg mb 138 5 40 [v1, v2] (fun h => PolyV h v1 ps ∧ PolyV h v2 qs) (fun h u => PolyV h u z₀) := by
  unfold Sp
  k_fill
  intro dp un fr gd s E hd hu X T hpre
  obtain ⟨⟨a, vs, rfl, hl, hr, hn⟩, hp2⟩ := hpre
  have hlen := hr.length
  k_dflt (refine' enter (binds := [(Str.ofString "a", .ref a), (Str.ofString "b", v2)]) X T ?k6 ?k7 ?k8 ?k9 ?kB ?_ ?c2 ?c3 ?c4 ?c5; ((case k6 => k_is); (case k7 => k_is); (case k8 => first | exact room_0 (by assumption) | (dsimp only; omega)); (case k9 => exact BindsTo.of_eq rfl); (case c5 => decide); (case kB => exact locs rfl); (case c2 => exact rfl); (case c3 => exact rfl); (case c4 => exact rfl); k_whole))
  intro L h₁ hL F
  have N : News s.heap L h₁ [] := News.nil
  (try k_fold)
  k_steps
  unfold Stopped
  rename Fr _ _ _ _ => F1
  rename News _ _ _ _ => N1
  refine for_rule [] [] s.heap (InvOf s.heap L (QcompJ a v2 qs ps z₀)) (invOf_fr (env := envOf _ _ L _ _) _) (invOf_stay (env := envOf _ _ L _ _) _ ?_) ?_
  · rintro i m h h' x _ ⟨v, z, hm, hR, hq⟩
    exact ⟨v, z, hm, x.polyV hR, hq⟩
  · k_steps
    unfold Stopped
    refine for_rev _ rfl (plain_at (by k_asm) hl) (by k_asm) News.nil (fun q => nomatch q) (fun _ q => nomatch q) rfl rfl ?_ ?_ ?_
    · intro h' hext
      exact ⟨_, [], ⟨rfl, rfl, rfl, trivial⟩, ⟨_, [], rfl, ⟨_, hext _ _ (N1.get (.head _))⟩, .nil, by simp⟩, by simpa [qcompose?] using hz⟩
    · rintro i v m hI h tk own hv ⟨v₁, z, hm, hR, hq⟩ FI F N hoff mv kp
      change News s.heap L h own at N
      change Mover [] s.heap L own hI at mv
      change Fr s.heap L h _ at F
      rw [← hm.pinned] at F
      obtain ⟨q, hqi, hRq⟩ := hr.rev.get' hv
      have hd : ps.reverse.drop i = q :: ps.reverse.drop (i + 1) := drop_of_get hqi
      rw [hd] at hq
      obtain ⟨m₁, z', hz1, hz2, hq⟩ := qcomp_step hq
      k_steps
      refine turn_end (by k_asm) (by k_asm) (by walk_at "my sub") ?_
      exact ⟨_, z', ⟨rfl, rfl, rfl, trivial⟩, by walk_at "my poly", hq⟩
    · rintro m h tk own ⟨v, z, hm, hR, hq⟩ F N mv
      change News s.heap L h own at N
      change Mover [] s.heap L own h at mv
      have F : Fr s.heap L h _ := Fr.pins F hm
      rw [List.drop_of_length_le (by rw [List.length_reverse]; omega)] at hq
      cases hq
      k_steps
      exact back_of (by assumption) (by assumption)
end

section
-- part Bern
theorem bino_sp' {n : Int} {n0 : Nat} {t : Tok} {row : List Int} (e : n = (n0 : Int)) (hz : bino? n0 = some row) (hn : n0 ≤ 100) : Sp w p loose mean mg mb 145 1 8 [.int n t] (fun _ => True) (fun h r => IntsV h r row) := by
  subst e
  exact bino_sp hz hn
theorem news_ex {h₀ h : Heap} {L : Addr} {news : List (Addr × Obj)} (N : News h₀ L h news) : ∃ K, News h₀ L h K ∧ ∀ p ∈ news, p ∈ K := ⟨news, N, fun _ h => h⟩
inductive InnerStep (row : List Int) (found : List Q2) (tot z : Q2) (j : Nat) : Prop
  | mk (c : Int) (row' : List Int) (f : Q2) (found' : List Q2) (r m t : Q2) (e1 : row = c :: row') (e2 : found = f :: found') (h1 : rat? c 1 = some r) (h2 : rmul? r f = some m) (h3 : radd? tot m = some t) (h : bernInner? row' found' t j = some z)
theorem bernInner_step {row : List Int} {found : List Q2} {tot z : Q2} {j : Nat} (h : bernInner? row found tot (j + 1) = some z) : InnerStep row found tot z j := by
  cases row with
  | nil => simp [bernInner?] at h
  | cons c row' => cases found with
    | nil => simp [bernInner?] at h
    | cons f found' =>
      unfold bernInner? at h
      split at h
      · cases h
      · rename_i r h1
        split at h
        · cases h
        · rename_i m h2
          split at h
          · cases h
          · rename_i t h3
            exact ⟨c, row', f, found', r, m, t, rfl, rfl, h1, h2, h3, h⟩
theorem drop_cons {α : Type} {l r : List α} {i : Nat} {x : α} (h : l.drop i = x :: r) : l[i]? = some x ∧ r = l.drop (i + 1) := by
  have hx : l[i]? = some x := by
    have : (l.drop i)[0]? = some x := by rw [h]; rfl
    rw [List.getElem?_drop] at this
    simpa using this
  refine ⟨hx, ?_⟩
  rw [drop_of_get hx] at h
  exact (List.cons.inj h).2.symm
theorem R1_rat {h : Heap} (X : (Mine.hd.heap_39 w.params).In h) : RatV h (.ref 43) (1, 1) := by
  revert X
  show (Mine.hd.heap_39 w.params).In h → RatV h (.ref 43) (1, 1)
  have hf : PySem.Challenge.rw_tk0017_01 = PySem.Challenge.rw_tk0017_01 → ∀ h : Heap, (Mine.hd.heap_39 w.params).In h → RatV h (.ref 43) (1, 1) := by
    k_fill
    intro _ h X
    exact ⟨43, _, _, rfl, _, X 43 _ (by k_is), rfl, _, rfl⟩
  exact hf rfl h
local macro_rules | `(tactic| walk_at "exec For Name Call cons nil") => `(tactic| refine stopped ?_)
local macro_rules | `(tactic| walk_at "pyIter ref") => `(tactic| refine stopped ?_)
local macro_rules | `(tactic| walk_at "call builtin:list.append") => `(tactic| refine stopped ?_)
local macro_rules | `(tactic| walk_at "my con") => `(tactic| first | refine' bino_sp' ?e (by assumption) ?h | refine' rat_sp (by assumption) (by decide) | refine' rneg_sp | refine' radd_sp ?z | refine' rmul_sp ?z | refine' rdiv_sp ?z)
local macro_rules | `(tactic| walk_at "call ref") => `(tactic| walk_at "my call")
local macro_rules | `(tactic| walk_at "getMethod ref") => `(tactic| walk_at "my method")
inductive BernJ (D : Addr) (n0 : Nat) (t : Tok) (rs : List Q2) (i : Nat) (m : Str → Option Value) (h : Heap) : Prop
  | mk (fs : _) (xs : _) (q0 : Has m [(Str.ofString "n", .int (n0 : Int) t), (Str.ofString "found", .ref D)]) (q1 : h.PlainList D (List.toArray fs)) (q2 : All2 (RatV h) fs xs) (q3 : xs.length = i + 1) (q4 : bernGo? (n0 - i) (i + 1) xs = some rs)
inductive BernI (D : Addr) (n0 : Nat) (t : Tok) (h₀ : Heap) (L : Addr) (K : List (Addr × Obj)) (vrow : Value) (i : Nat) (ti : Tok) (row : List Int) (xs : List Q2) (tot : Q2) (k : Nat) (m : Str → Option Value) (h : Heap) : Prop
  | mk (v : _) (q : _) (q0 : Has m [(Str.ofString "n", .int (n0 : Int) t), (Str.ofString "found", .ref D), (Str.ofString "m", .int (1 + (i : Int)) ti), (Str.ofString "row", vrow), (Str.ofString "total", v)]) (q1 : RatV h v q) (q2 : News h₀ L h K) (q3 : bernInner? (row.drop k) (xs.drop k) q (i + 1 - k) = some tot)
theorem bern_sp {n0 : Nat} {t : Tok} {rs : List Q2} (hz : bern? n0 = some rs) (hn : n0 ≤ 50) : Sp w p loose mean mg mb 152 4 32 [.int (n0 : Int) t] (fun _ => True) (fun h r => PolyV h r rs) := by
  unfold Sp
  k_fill
  intro dp un fr gd s E hd hu X T hpre
  k_dflt (refine' enter (binds := [(Str.ofString "n", .int (n0 : Int) t)]) X T ?k6 ?k7 ?k8 ?k9 ?kB ?_ ?c2 ?c3 ?c4 ?c5; ((case k6 => k_is); (case k7 => k_is); (case k8 => first | exact room_0 (by assumption) | (dsimp only; omega)); (case k9 => exact BindsTo.of_eq rfl); (case c5 => decide); (case kB => exact locs rfl); (case c2 => exact rfl); (case c3 => exact rfl); (case c4 => exact rfl); k_whole))
  intro L h₁ hL F
  have N : News s.heap L h₁ [] := News.nil
  (try k_fold)
  k_steps
  unfold Stopped
  rename_i D _ _ _ F1 N1
  have hD : D ≠ L ∧ s.heap.get? D = none := (N1 _ (.head _)).2
  have hR1 := R1_rat (X.keeps F1.keep)
  refine for_rule [] [D] s.heap (InvOf s.heap L (BernJ D n0 t rs)) (invOf_fr (env := envOf _ _ L _ _) _) (invOf_stay (env := envOf _ _ L _ _) _ ?_) ?_
  · rintro i m h h' x _ ⟨fs, xs, hm, hl, hI, hlen, hq⟩
    exact ⟨fs, xs, hm, x.plain hl, hI.imp fun _ _ => x.ratV, hlen, hq⟩
  · k_steps
    unfold Stopped
    rename IsRange _ _ _ _ _ _ _ _ => hR
    rename Fr _ _ _ _ => F2
    rename News _ _ _ _ => N2
    have e : (n0 : Int) + 1 = 1 + (n0 : Int) := Int.add_comm _ _
    have hR := hR
    rw [e] at hR
    refine for_range _ rfl hR (range_small (by decide) (by decide) (lo_one (Nat.le_trans hn (by decide))).1 (lo_one (Nat.le_trans hn (by decide))).2) (range_size 1 n0) F2 News.nil ?_ rfl rfl ?_ ?_ ?_
    · intro b hb
      rw [List.mem_singleton.mp hb]
      exact Heap.lt_size (N2.get (by k_mem))
    · intro h' hext
      exact ⟨_, [R1], ⟨rfl, rfl, trivial⟩, ⟨_, hext _ _ (N2.get (by k_mem))⟩, .cons ((R1_rat (X.keeps F2.keep)).ext hext) .nil, rfl, hz⟩
    · rintro i ti m hJ h tk own hin ⟨fs, xs, hm, hl, hr, hlen, hq⟩ FI F N hoff mv kp
      change News s.heap L h own at N
      change Fr s.heap L hJ m at FI
      change Fr s.heap L h _ at F
      rw [← hm.pinned] at F
      have hl2 : h.PlainList D fs.toArray := kp_plain FI kp hl
      have hr' : All2 (RatV h) fs xs := hr.imp fun _ _ => kp_rat FI kp
      have hfl := hr'.length
      obtain ⟨c, hc⟩ := id hl2
      have N2 : News s.heap L h ((D, listOf fs.toArray c) :: (own ++ newOf s.heap h [L])) := led F N hD.2 hD.1 hc
      have mv2 : Mover [] s.heap L (newOf s.heap h [L]) h := newOf_mover (M := []) F
      clear N hr hl mv kp FI F2 hR e
      obtain ⟨j, hj⟩ := ar_left hin
      rw [hj] at hq
      obtain ⟨row, tot, z0, hrow, htot, hz0, hq⟩ := bern_step hq
      k_steps
      unfold Stopped
      rename IntsV _ _ _ => hrw
      rename Mover _ _ _ _ _ => mv3
      rename Fr _ _ _ _ => F3
      rename News _ _ _ _ => N3
      obtain ⟨ar, rv, rfl, hrl, hri, hrn⟩ := hrw
      obtain ⟨K, NK, hKs⟩ := news_ex N3
      have hR0 := R0_rat (X.keeps F3.keep)
      refine for_rule K [] s.heap (InvOf s.heap L (BernI D n0 t s.heap L K (.ref ar) i ti row xs tot)) (invOf_fr (env := envOf _ _ L _ _) _) (invOf_stay (env := envOf _ _ L _ _) _ ?_) ?_
      · rintro k m h h' x _ ⟨v, q, hm, hR, hN, hq⟩
        exact ⟨v, q, hm, x.ratV hR, x.news hN, hq⟩
      · have NKx := stopped NK
        clear NK
        k_steps
        unfold Stopped
        rename IsRange _ _ _ _ _ _ _ _ => hR
        rename Fr _ _ _ _ => F4
        rename News _ _ _ _ => N4
        rename ∀ b o, Heap.get? _ b = some o → Heap.get? _ b = some o => hk4
        have e : 1 + (i : Int) = 0 + ((i + 1 : Nat) : Int) := ar_one i
        have hR := hR
        rw [e] at hR
        have NK4 : News s.heap L _ K := News.grown NKx hk4
        have hz0' : rdiv? tot (1 + (i : Int) + 1, 1) = some z0 := by rw [show 1 + (i : Int) + 1 = ((i + 1 : Nat) : Int) + 1 from ar_one1 i]; exact hz0
        refine for_range _ rfl hR (range_small (by decide) (by decide) (lo_zero (Nat.le_trans hin (Nat.le_trans hn (by decide)))).1 (lo_zero (Nat.le_trans hin (Nat.le_trans hn (by decide)))).2) (range_size 0 (i + 1)) F4 NK4 (fun _ q => nomatch q) rfl rfl ?_ ?_ ?_
        · intro h' hext
          exact ⟨_, R0, ⟨rfl, rfl, rfl, rfl, rfl, trivial⟩, (R0_rat (X.keeps F4.keep)).ext hext, NK4.grown hext, htot⟩
        · clear hz0 hz0' hq N4 F4 NK4 NKx hk4 hR hR0 hm hR1
          rintro k t3 m hJ h5 tk own2 hin2 ⟨v, q, hm, hR, hN, hq⟩ FI F N hoff2 mv5 kp
          change News s.heap L h5 own2 at N
          change Fr s.heap L hJ m at FI
          change Fr s.heap L h5 _ at F
          rw [← hm.pinned, show (0 : Int) + (k : Int) = (k : Int) from Int.zero_add _] at F
          have hNK := kp_news kp hN
          have N5 := N.append (hNK.append fun p hp => hNK p (hKs p hp))
          change Mover [] s.heap L own2 hJ at mv5
          clear N hNK hN kp FI
          obtain ⟨j2, hj2⟩ := ar_left hin2
          rw [hj2] at hq
          obtain ⟨c1, row', f, found', r, m', t', e1, e2, h1, h2, h3, hq⟩ := bernInner_step hq
          obtain ⟨g1, rfl⟩ := drop_cons e1
          obtain ⟨g2, rfl⟩ := drop_cons e2
          obtain ⟨tl, hx⟩ := ints_get hri g1
          obtain ⟨vf, hvf, hRf⟩ := hr'.get g2
          replace hx : rv[((k : Nat) : Int).toNat]? = some (.int c1 tl) := by rw [Int.toNat_natCast]; exact hx
          replace hvf : fs[((k : Nat) : Int).toNat]? = some vf := by rw [Int.toNat_natCast]; exact hvf
          k_steps
          refine turn_end (by k_asm) (by k_asm) (by walk_at "my sub") ?_
          rename Fr _ _ _ _ => F6
          rename News _ _ _ _ => N6
          refine ⟨_, t', ⟨rfl, rfl, rfl, rfl, rfl, trivial⟩, by walk_at "my rat", fun p hp => N6 p (by simp only [List.mem_append, List.mem_cons, hp, true_or, or_true]), ?_⟩
          · rw [show i + 1 - (k + 1) = j2 from ar_up hj2]
            exact hq
        · clear hz0 N4 F4 NK4 NKx hk4 hR hR0 hm hR1
          rintro m h6 tk own6 ⟨v, q, hm, hR, hN, hq6⟩ F N mv6
          change News s.heap L h6 own6 at N
          change Mover [] s.heap L own6 h6 at mv6
          have F : Fr s.heap L h6 _ := Fr.pins F hm
          have N6 := N.append fun p hp => hN p (hKs p hp)
          rw [Nat.sub_self] at hq6
          have e6 : q = tot := by simpa [bernInner?] using hq6
          subst e6
          clear N hN
          k_steps
          unfold Stopped
          rename Fr _ _ _ _ => F7
          rename News _ _ _ _ => N7
          have hl7 : Heap.PlainList _ D fs.toArray := plain_mv mv2 F7 N7 (by walk_at "my sub") hl2
          refine append_my (own := own) (vs := fs) hl7 (ar_len hfl hlen hin (Nat.le_trans hn (by decide))) F7 N7 hD hoff (by walk_at "my sub") ?_
          intro h8 F8 N8 hl8 sb
          k_steps
          refine turn_end F8 N8 (fun _ h => h) ?_
          refine ⟨_, _, ⟨rfl, rfl, trivial⟩, hl8, All2.snoc (hr'.imp fun _ _ y => sb_rat hl7 sb (rat_mv mv2 F7 N7 (by walk_at "my sub") y)) (sb_rat hl7 sb (by assumption)), by simp [hlen], ?_⟩
          rw [show n0 - (i + 1) = j from ar_up hj]
          exact hq
    · rintro m h tk own ⟨fs, xs, hm, hl, hr, hlen, hq⟩ F N mv
      change News s.heap L h own at N
      have F : Fr s.heap L h _ := Fr.pins F hm
      rw [Nat.sub_self] at hq
      have e6 : xs = rs := by simpa [bernGo?] using hq
      subst e6
      k_steps
      exact back_of (by assumption) ⟨D, fs, rfl, hl, hr, by omega⟩
end

section
-- part Psum
local macro_rules | `(tactic| walk_at "my none") => `(tactic| skip)
theorem allLt {d : Nat} : ∀ {l : List (Addr × Obj)}, AllLt d l → ∀ p ∈ l, p.1 < d
  | [], _, p, hp => nomatch hp
  | _ :: _, h, p, hp => by
    rcases List.mem_cons.mp hp with rfl | hp
    · exact h.1
    · exact allLt h.2 p hp
theorem bern_sp' {n : Int} {n0 : Nat} {t : Tok} {rs : List Q2} (e : n = (n0 : Int)) (hz : bern? n0 = some rs) (hn : n0 ≤ 50) : Sp w p loose mean mg mb 152 4 32 [.int n t] (fun _ => True) (fun h r => PolyV h r rs) := by
  subst e
  exact bern_sp hz hn
theorem news_ex2 {h₀ h : Heap} {L D : Addr} {o : Obj} {news : List (Addr × Obj)} (N : News h₀ L h ((D, o) :: news)) (l1 : ∀ p ∈ news, p.1 < D) : ∃ K, News h₀ L h K ∧ (∀ p ∈ news, p ∈ K) ∧ ∀ p ∈ K, p.1 ∉ [D] :=
  ⟨news, fun p hp => N p (.tail _ hp), fun _ h => h, fun p hp q => Nat.lt_irrefl _ (List.mem_singleton.mp q ▸ l1 p hp)⟩
local macro_rules | `(tactic| walk_at "exec For Name Call cons nil") => `(tactic| refine stopped ?_)
local macro_rules | `(tactic| walk_at "pyIter ref") => `(tactic| refine stopped ?_)
local macro_rules | `(tactic| walk_at "call builtin:list.append") => `(tactic| refine stopped ?_)
local macro_rules | `(tactic| walk_at "getMethod ref") => `(tactic| walk_at "my method")
local macro_rules | `(tactic| walk_at "my con") => `(tactic| first | refine' bino_sp' ?e (by assumption) ?h | refine' bern_sp' ?e (by assumption) ?h | refine' rat_sp (by assumption) (by decide) | refine' rmul_sp ?z | refine' rdiv_sp ?z)
local macro_rules | `(tactic| walk_at "call ref") => `(tactic| walk_at "my call")
inductive PsumJ (D : Addr) (k0 : Nat) (t : Tok) (ar ak : Addr) (row : List Int) (known : List Q2) (rs : List Q2) (h₀ : Heap) (L : Addr) (K : List (Addr × Obj)) (i : Nat) (m : Str → Option Value) (h : Heap) : Prop
  | mk (fs : _) (xs : _) (q0 : Has m [(Str.ofString "k", .int (k0 : Int) t), (Str.ofString "row", .ref ar), (Str.ofString "known", .ref ak), (Str.ofString "found", .ref D)]) (q1 : h.PlainList D (List.toArray fs)) (q2 : All2 (RatV h) fs xs) (q3 : xs.length = i + 1) (q4 : News h₀ L h K) (q5 : psumGo? k0 row known (k0 + 1 - i) (i + 1) xs = some rs)
theorem psum_sp {k0 : Nat} {t : Tok} {rs : List Q2} (hz : psum? k0 = some rs) (hn : k0 ≤ 49) : Sp w p loose mean mg mb 159 5 40 [.int (k0 : Int) t] (fun _ => True) (fun h r => PolyV h r rs) := by
  unfold Sp
  k_fill
  intro dp un fr gd s E hd hu X T hpre
  unfold psum? at hz
  split at hz
  · cases hz
  rename_i row hrow
  split at hz
  · cases hz
  rename_i known hknown
  k_dflt (refine' enter (binds := [(Str.ofString "k", .int (k0 : Int) t)]) X T ?k6 ?k7 ?k8 ?k9 ?kB ?_ ?c2 ?c3 ?c4 ?c5; ((case k6 => k_is); (case k7 => k_is); (case k8 => first | exact room_0 (by assumption) | (dsimp only; omega)); (case k9 => exact BindsTo.of_eq rfl); (case c5 => decide); (case kB => exact locs rfl); (case c2 => exact rfl); (case c3 => exact rfl); (case c4 => exact rfl); k_whole))
  intro L h₁ hL F
  have N : News s.heap L h₁ [] := News.nil
  (try k_fold)
  k_steps
  unfold Stopped
  rename_i D _ hl1 _ F1 N1
  rename IntsV _ _ _ => hrw
  rename PolyV _ _ _ => hkn
  obtain ⟨ar, rv, rfl, hrl, hri, hrn⟩ := hrw
  obtain ⟨ak, kv, rfl, hkl, hkr, hkn⟩ := hkn
  have hri9 : True → IntsAre rv row := fun _ => hri
  have hkr9 : True → All2 (RatV _) kv known := fun _ => hkr
  have hD : D ≠ L ∧ s.heap.get? D = none := (N1 _ (.head _)).2
  obtain ⟨K, NK, hKs, hKoff⟩ := news_ex2 N1 (fun p hp => by rcases List.mem_cons.mp hp with rfl | hp; exact hl1.1; exact allLt hl1.2 p hp)
  have Kx := stopped NK
  refine for_rule K [D] s.heap (InvOf s.heap L (PsumJ D k0 t ar ak row known rs s.heap L K)) (invOf_fr (env := envOf _ _ L _ _) _) (invOf_stay (env := envOf _ _ L _ _) _ ?_) ?_
  · rintro i m h h' x _ ⟨fs, xs, hm, hl, hI, hlen, hN, hq⟩
    exact ⟨fs, xs, hm, x.plain hl, hI.imp fun _ _ => x.ratV, hlen, x.news hN, hq⟩
  · clear NK
    k_steps
    unfold Stopped
    rename IsRange _ _ _ _ _ _ _ _ => hR
    rename Fr _ _ _ _ => F2
    rename News _ _ _ _ => N2
    rename ∀ b o, Heap.get? _ b = some o → Heap.get? _ b = some o => hk4
    have e : (k0 : Int) + 2 = 1 + ((k0 + 1 : Nat) : Int) := ar_two k0
    have hR := hR
    rw [e] at hR
    have NK4 : News s.heap L _ K := News.grown Kx hk4
    refine for_range _ rfl hR (range_small (by decide) (by decide) (lo_one (Nat.le_trans (Nat.succ_le_succ hn) (by decide))).1 (lo_one (Nat.le_trans (Nat.succ_le_succ hn) (by decide))).2) (range_size 1 (k0 + 1)) F2 NK4 ?_ rfl rfl ?_ ?_ ?_
    · intro b hb
      rw [List.mem_singleton.mp hb]
      exact Heap.lt_size (N2.get (by walk_at "my mem"))
    · intro h' hext
      exact ⟨_, [R0], ⟨rfl, rfl, rfl, rfl, trivial⟩, ⟨_, hext _ _ (N2.get (by walk_at "my mem"))⟩, .cons ((R0_rat (X.keeps F2.keep)).ext hext) .nil, rfl, NK4.grown hext, hz⟩
    · rintro i ti m hJ h tk own hin ⟨fs, xs, hm, hl, hr, hlen, hN, hq⟩ FI F N hoff mv kp
      change News s.heap L h own at N
      change Fr s.heap L hJ m at FI
      change Fr s.heap L h _ at F
      rw [← hm.pinned] at F
      have hl2 : h.PlainList D fs.toArray := kp_plain FI kp hl
      have hr' : All2 (RatV h) fs xs := hr.imp fun _ _ => kp_rat FI kp
      have hfl := hr'.length
      obtain ⟨c, hc⟩ := id hl2
      have hNK := kp_news kp hN
      have NA := led F N hD.2 hD.1 hc
      have NB := hNK.append fun p hp => hNK p (hKs p hp)
      replace N2 : News s.heap L h ((D, listOf fs.toArray c) :: (own ++ newOf s.heap h [L])) := NA
      have N5 := N2.append NB
      have mv2 : Mover [] s.heap L (newOf s.heap h [L]) h := newOf_mover (M := []) F
      obtain ⟨j, hj⟩ := ar_left hin
      rw [hj] at hq
      obtain ⟨c1, b1, r1, m1, z0, hc1, hb1, hr1, hm1, hz0, hq⟩ := psum_step hq
      obtain ⟨tl, hx⟩ := ints_get (hri9 trivial) hc1
      obtain ⟨vb, hvb, hRb⟩ := (hkr9 trivial).get hb1
      replace hx : rv[(1 + (i : Int)).toNat]? = some (.int c1 tl) := by rw [show (1 + (i : Int)).toNat = i + 1 from ar_to i]; exact hx
      replace hvb : kv[((k0 : Int) + 1 - (1 + (i : Int))).toNat]? = some vb := by rw [show ((k0 : Int) + 1 - (1 + (i : Int))).toNat = k0 + 1 - (i + 1) from ar_to2 k0 i]; exact hvb
      clear N NA NB N2 hN hl hr mv kp FI F2 hR e Kx hk4 NK4
      k_steps
      unfold Stopped
      rename Fr _ _ _ _ => F7
      rename News _ _ _ _ => N7
      have hl7 : Heap.PlainList _ D fs.toArray := plain_mv mv2 F7 N7 (by walk_at "my sub") hl2
      refine append_my (own := own ++ K) (vs := fs) hl7 (ar_len hfl hlen hin (Nat.le_trans (Nat.succ_le_succ hn) (by decide))) F7 N7 hD ?_ (fun p hp => by rcases List.mem_append.mp hp with h9 | h9 <;> simp only [List.mem_append, List.mem_cons, h9, true_or, or_true]) ?_
      · intro p hp
        rcases List.mem_append.mp hp with hp | hp
        · exact hoff p hp
        · exact hKoff p hp
      intro h8 F8 N8 hl8 sb
      k_steps
      refine turn_end F8 N8 (fun _ h => List.mem_append_left _ h) ?_
      refine ⟨_, _, ⟨rfl, rfl, rfl, rfl, trivial⟩, hl8, All2.snoc (hr'.imp fun _ _ y => sb_rat hl7 sb (rat_mv mv2 F7 N7 (by walk_at "my sub") y)) (sb_rat hl7 sb (by assumption)), by simp [hlen], fun p hp => N8 p (List.mem_append_right _ hp), ?_⟩
      rw [show k0 + 1 - (i + 1) = j from ar_up hj]
      exact hq
    · rintro m h tk own ⟨fs, xs, hm, hl, hr, hlen, hN, hq⟩ F N mv
      change News s.heap L h own at N
      have F : Fr s.heap L h _ := Fr.pins F hm
      rw [Nat.sub_self] at hq
      have e6 : xs = rs := by simpa [psumGo?] using hq
      subst e6
      clear N2 F2
      k_steps
      exact back_of (by assumption) ⟨D, fs, rfl, hl, hr, by omega⟩
end

section
-- part Eqs
def ratData (q : Q2) : PyData := .tuple [.int q.1, .int q.2]
theorem RatV.reads {h : Heap} {v : Value} {q : Q2} (y : RatV h v q) : Reads h v (ratData q) [] := by
  obtain ⟨a, t, u, rfl, o, ho, hc, n, hd⟩ := y
  exact Reads.tuple (as := [] ++ ([] ++ [])) ho hc hd (.cons (.int _ _) (.cons (.int _ _) .nil))
theorem ratData_shaped (q : Q2) : SeqAt.shaped (ratData q) = true := by
  simp [SeqAt.shaped, ratData, PyData.canLay0, PyData.canLayAll0, PyData.depth, PyData.depthAll]
theorem ratData_eqv (x y : Q2) : PyData.eqv (ratData x) (ratData y) = decide (x = y) := by
  obtain ⟨a, b⟩ := x
  obtain ⟨c, d⟩ := y
  simp [ratData, PyData.eqv, PyData.eqvAll, Bool.decide_and, BEq.beq]
theorem readsAll {h : Heap} {vs : List Value} {ps : List Q2} (x : All2 (RatV h) vs ps) : ReadsAll h vs (ps.map ratData) [] := by
  induction x with
  | nil => exact .nil
  | cons y _ ih => exact ReadsAll.cons (as := []) (bs := []) y.reads ih
theorem PolyV.reads {h : Heap} {v : Value} {ps : List Q2} (y : PolyV h v ps) : ∃ as, Reads h v (.list (ps.map ratData)) as := by
  obtain ⟨a, vs, rfl, ⟨n, ho⟩, hr, _⟩ := y
  exact ⟨_, Reads.list ho rfl rfl (readsAll hr)⟩
theorem polyData_lay (ps : List Q2) : PyData.canLayAll0 (ps.map ratData) = true ∧ PyData.depthAll (ps.map ratData) ≤ 1 := by
  induction ps with
  | nil => simp [PyData.canLayAll0, PyData.depthAll]
  | cons p r ih =>
    simp only [List.map_cons, PyData.canLayAll0, PyData.depthAll]
    refine ⟨?_, ?_⟩
    · rw [ih.1]
      simp [ratData, PyData.canLay0, PyData.canLayAll0]
    · have : PyData.depth (ratData p) = 1 := by simp [ratData, PyData.depth, PyData.depthAll]
      omega
theorem polyData_shaped (ps : List Q2) : SeqAt.shaped (.list (ps.map ratData)) = true := by
  have h := polyData_lay ps
  have h2 := h.2
  simp only [SeqAt.shaped, PyData.canLay0, PyData.depth, h.1, Bool.true_and]
  exact decide_eq_true (by omega)
theorem polyData_eqv : ∀ xs ys : List Q2, PyData.eqvAll (xs.map ratData) (ys.map ratData) = decide (xs = ys)
  | [], [] => by simp [PyData.eqvAll]
  | x :: xs, [] => by simp [PyData.eqvAll]
  | [], y :: ys => by simp [PyData.eqvAll]
  | x :: xs, y :: ys => by
    simp only [List.map_cons, PyData.eqvAll, ratData_eqv, polyData_eqv xs ys]
    simp [Bool.decide_and]
section
variable {prog : Program} {A : Around} {E : Value → Shared → Prop} {s : Shared} {a b : Value} {Q : Value → Shared → Prop}
theorem ne_ratT {x y : Q2} (ha : RatV s.heap a x) (hb : RatV s.heap b y) (hne : x ≠ y) (hu : A.units + 64 < cLine) (h : Q (.bool true) s) : wpAny (model prog w) A (compareOp .NotEq a b) Q E s :=
  ne_dataH ha.reads hb.reads (ratData_shaped x) (ratData_shaped y) hu (by rw [ratData_eqv, decide_eq_false hne]; exact h)
theorem ne_ratF {x y : Q2} (ha : RatV s.heap a x) (hb : RatV s.heap b y) (he : x = y) (hu : A.units + 64 < cLine) (h : Q (.bool false) s) : wpAny (model prog w) A (compareOp .NotEq a b) Q E s :=
  ne_dataH ha.reads hb.reads (ratData_shaped x) (ratData_shaped y) hu (by rw [ratData_eqv, decide_eq_true he]; exact h)
theorem ne_polyF {x y : List Q2} (ha : PolyV s.heap a x) (hb : PolyV s.heap b y) (he : x = y) (hu : A.units + 64 < cLine) (h : Q (.bool false) s) : wpAny (model prog w) A (compareOp .NotEq a b) Q E s := by
  obtain ⟨as, ra⟩ := ha.reads
  obtain ⟨bs, rb⟩ := hb.reads
  refine ne_dataH ra rb (polyData_shaped x) (polyData_shaped y) hu ?_
  show Q (.bool (!PyData.eqvAll (x.map ratData) (y.map ratData))) s
  rw [polyData_eqv, decide_eq_true he]
  exact h
theorem eq_polyT {x y : List Q2} (ha : PolyV s.heap a x) (hb : PolyV s.heap b y) (he : x = y) (hu : A.units + 64 < cLine) (h : Q (.bool true) s) : wpAny (model prog w) A (compareOp .Eq a b) Q E s := by
  obtain ⟨as, ra⟩ := ha.reads
  obtain ⟨bs, rb⟩ := hb.reads
  refine eq_dataH ra rb (polyData_shaped x) (polyData_shaped y) hu ?_
  show Q (.bool (PyData.eqvAll (x.map ratData) (y.map ratData))) s
  rw [polyData_eqv, decide_eq_true he]
  exact h
end
local macro_rules | `(tactic| walk_at "exec For Tuple Call cons nil") => `(tactic| refine stopped ?_)
local macro_rules | `(tactic| walk_at "call type:enumerate") => `(tactic| refine stopped ?_)
local macro_rules | `(tactic| walk_at "compareOp NotEq ref ref") => `(tactic| ((with_reducible show wpAny _ _ (compareOp CmpOp.NotEq (Value.ref _) (Value.ref _)) _ _ _); k_dflt (first
  | (refine' ne_ratT ?a ?b ?n ?u ?_; (case n => assumption); (case a => walk_at "my rat"); (case b => walk_at "my rat"); (case u => walk_at "my room"))
  | (refine' ne_ratF ?a ?b ?n ?u ?_; (case n => assumption); (case a => walk_at "my rat"); (case b => walk_at "my rat"); (case u => walk_at "my room")))))
local macro_rules | `(tactic| walk_at "my con") => `(tactic| first | refine' psum_sp (by assumption) ?h | refine' qscale_sp ?z | refine' qadd_sp ?z)
local macro_rules | `(tactic| walk_at "call ref") => `(tactic| walk_at "my call")
inductive PolyJ (a : Addr) (ps : List Q2) (z₀ : List Q2) (i : Nat) (m : Str → Option Value) (h : Heap) : Prop
  | mk (v : _) (z : _) (q0 : Has m [(Str.ofString "p", .ref a), (Str.ofString "found", v)]) (q1 : PolyV h v z) (q2 : polySumGo? i (ps.drop i) z = some z₀)
theorem polysum_sp {v1 : Value} {ps z₀ : List Q2} (hz : polySum? ps = some z₀) (hps : ps.length ≤ 49) : Sp w p loose mean mg mb 166 6 120 [v1] (fun h => PolyV h v1 ps) (fun h u => PolyV h u z₀) := by
  unfold Sp
  k_fill
  intro dp un fr gd s E hd hu X T hpre
  obtain ⟨a, vs, rfl, hl, hr, hn⟩ := hpre
  have hlen := hr.length
  k_dflt (refine' enter (binds := [(Str.ofString "p", .ref a)]) X T ?k6 ?k7 ?k8 ?k9 ?kB ?_ ?c2 ?c3 ?c4 ?c5; ((case k6 => k_is); (case k7 => k_is); (case k8 => first | exact room_0 (by assumption) | (dsimp only; omega)); (case k9 => exact BindsTo.of_eq rfl); (case c5 => decide); (case kB => exact locs rfl); (case c2 => exact rfl); (case c3 => exact rfl); (case c4 => exact rfl); k_whole))
  intro L h₁ hL F
  have N : News s.heap L h₁ [] := News.nil
  (try k_fold)
  k_steps
  unfold Stopped
  rename Fr _ _ _ _ => F1
  rename News _ _ _ _ => N1
  refine for_rule [] [] s.heap (InvOf s.heap L (PolyJ a ps z₀)) (invOf_fr (env := envOf _ _ L _ _) _) (invOf_stay (env := envOf _ _ L _ _) _ ?_) ?_
  · rintro i m h h' x _ ⟨v, z, hm, hR, hq⟩
    exact ⟨v, z, hm, x.polyV hR, hq⟩
  · k_steps
    unfold Stopped
    refine for_enum _ rfl (plain_at F1 hl) F1 News.nil (fun q => nomatch q) (fun _ q => nomatch q) rfl rfl rfl ?_ ?_ ?_
    · intro h' hext
      exact ⟨_, [], ⟨rfl, rfl, trivial⟩, ⟨_, [], rfl, ⟨_, hext _ _ (N1.get (.head _))⟩, .nil, by simp⟩, hz⟩
    · rintro i v t m hI h tk own hv ⟨v₁, z, hm, hR, hq⟩ FI F N hoff mv kp
      change News s.heap L h own at N
      change Mover [] s.heap L own hI at mv
      change Fr s.heap L h _ at F
      rw [← hm.pinned] at F
      obtain ⟨q, hqi, x, t1, u1, rfl, ht⟩ := hr.get' hv
      have hRq : RatV s.heap (.ref x) q := ⟨x, t1, u1, rfl, ht⟩
      have hR0 := R0_rat (X.keeps F.keep)
      have hil := (List.getElem?_eq_some_iff.mp hqi).1
      have hd : ps.drop i = q :: ps.drop (i + 1) := drop_of_get hqi
      rw [hd] at hq
      by_cases hq0 : q = (0, 1)
      · unfold polySumGo? at hq
        rw [if_pos (show q = R0 from hq0)] at hq
        k_steps
        refine turn_end (by k_asm) (by k_asm) (by walk_at "my sub") ?_
        exact ⟨_, z, ⟨rfl, rfl, trivial⟩, by walk_at "my poly", hq⟩
      · have hq0' : q ≠ (0, 1) := hq0
        obtain ⟨s1, c1, z1, hs1, hc1, hz1, hq⟩ := poly_step (show ¬ q = R0 from hq0) hq
        k_steps
        refine turn_end (by k_asm) (by k_asm) (by walk_at "my sub") ?_
        exact ⟨_, z1, ⟨rfl, rfl, trivial⟩, by walk_at "my poly", hq⟩
    · rintro m h tk own ⟨v, z, hm, hR, hq⟩ F N mv
      change News s.heap L h own at N
      change Mover [] s.heap L own h at mv
      have F : Fr s.heap L h _ := Fr.pins F hm
      rw [List.drop_of_length_le (by omega)] at hq
      have e6 : z = z₀ := by simpa [polySumGo?] using hq
      subst e6
      k_steps
      exact back_of (by assumption) (by assumption)
end

section
-- part Draw
local macro_rules | `(tactic| walk_at "setItem ref int") => `(tactic| refine stopped ?_)
def DrawEnd (s : Shared) (D la : Addr) (spot : Nat) (many : Int) (r : Value) (s' : Shared) : Prop :=
  (∃ n u, r = .int n u ∧ 0 ≤ n ∧ n < many) ∧ ∃ h' tk t', s' = { s with heap := h', toks := tk } ∧ (∀ b o, b ≠ D → s.heap.get? b = some o → h'.get? b = some o) ∧ h'.PlainList D (List.toArray [.ref la, .int ((spot : Int) + 1) t'])
theorem draw_sp {D la : Addr} {spot : Nat} {t tm : Tok} {many : Int} {ns : List Int} {h₀ : Heap} {dp un : Nat} {fr : Option (List Env)} {gd : Option (List Code)} {s : Shared} {E : Value → Shared → Prop} (hd : dp + 1 < recursionLimit) (hu : un + 8 < cLine)
    (X : (Mine.hd.heap_39 w.params).In h₀) (T : Top p loose mean mg mb h₀) (hx : Ext h₀ s.heap) (hsz : h₀.objs.size ≤ s.heap.objs.size) (hD : h₀.get? D = none)
    (hl : s.heap.PlainList D (List.toArray [.ref la, .int (spot : Int) t])) (hi : IntsV s.heap (.ref la) ns) (hs : spot ≤ 100) (hm : 0 < many) (hm2 : many ≤ 100) :
    wpAny (model PySem.Challenge.rw_tk0017_01.prog w) { handled := none, depth := dp, frames := fr, guards := gd, units := un } (call (.ref 173) [.ref D, .int many tm]) (DrawEnd s D la spot many) E s := by
  revert hd hu X T hx hsz hD hl hi hs hm hm2
  have key : ∀ (X : (Mine.hd.heap_39 w.params).In h₀), PySem.Challenge.rw_tk0017_01 = PySem.Challenge.rw_tk0017_01 → dp + 1 < recursionLimit → un + 8 < cLine → Top p loose mean mg mb h₀ → Ext h₀ s.heap → h₀.objs.size ≤ s.heap.objs.size → h₀.get? D = none →
      s.heap.PlainList D (List.toArray [.ref la, .int (spot : Int) t]) → IntsV s.heap (.ref la) ns → spot ≤ 100 → 0 < many → many ≤ 100 → 
      wpAny (model PySem.Challenge.rw_tk0017_01.prog w) { handled := none, depth := dp, frames := fr, guards := gd, units := un } (call (.ref 173) [.ref D, .int many tm]) (DrawEnd s D la spot many) E s := by
    k_fill
    intro X _ hd hu T hx hsz hD hl hi hs hm hm2
    obtain ⟨_, rv, h9, hrl, hri, hrn⟩ := hi
    cases h9
    have hla : la ≠ D := by
      rintro rfl
      obtain ⟨n, e⟩ := hl
      obtain ⟨n', e'⟩ := hrl
      rw [e] at e'
      cases e'
      cases hri
    have Xs := X.keeps hx
    have Ts := T.keeps hx
    k_dflt (refine' enter (binds := [(Str.ofString "pool", .ref D), (Str.ofString "many", .int many tm)]) Xs Ts ?k6 ?k7 ?k8 ?k9 ?kB ?_ ?c2 ?c3 ?c4 ?c5; ((case k6 => k_is); (case k7 => k_is); (case k8 => first | exact room_0 (by assumption) | (dsimp only; omega)); (case k9 => exact BindsTo.of_eq rfl); (case c5 => decide); (case kB => exact locs rfl); (case c2 => exact rfl); (case c3 => exact rfl); (case c4 => exact rfl); k_whole))
    intro L h₁ hL Fs
    have hLD : D ≠ L := by
      obtain ⟨n, e⟩ := hl
      have hlt := Heap.lt_size e
      intro q
      rw [q, hL] at hlt
      exact Nat.lt_irrefl _ hlt
    have F : Fr h₀ L h₁ _ := ⟨Fs.ns, fun b o e => Fs.keep b o (hx b o e), Nat.le_trans hsz Fs.above⟩
    have keep : ∀ h' m', Fr h₀ L h' m' → News h₀ L h' (newOf h₀ h₁ [L, D]) → ∀ b o, b ≠ D → s.heap.get? b = some o → h'.get? b = some o := fun h' m' F' N' b o hb e =>
      newOf_keep F F' N' b o (fun q => by have hlt := Heap.lt_size e; rw [q, hL] at hlt; exact Nat.lt_irrefl _ hlt) (by simpa using hb) (Fs.keep b o e)
    have hl1 : h₁.PlainList D (List.toArray [.ref la, .int (spot : Int) t]) := hl.at fun o e => Fs.keep _ o e
    have hrl1 : h₁.PlainList la rv.toArray := hrl.at fun o e => Fs.keep _ o e
    obtain ⟨c, hc⟩ := id hl1
    have N : News h₀ L h₁ ((D, listOf (List.toArray [.ref la, .int (spot : Int) t]) c) :: newOf h₀ h₁ [L, D]) := fun p hp => by
      rcases List.mem_cons.mp hp with rfl | hp
      · exact ⟨hc, hLD, hD⟩
      · exact newOf_news (M := [D]) p hp
    have hx1 : [Value.ref la, Value.int (spot : Int) t][(1 : Int).toNat]? = some (Value.int (spot : Int) t) := rfl
    have hx0 : ∀ t', [Value.ref la, Value.int ((spot : Int) + 1) t'][(0 : Int).toNat]? = some (Value.ref la) := fun _ => rfl
    clear Xs Ts Fs hl hrl
    have Fx : True → Fr h₀ L h₁ _ := fun _ => F
    (try k_fold)
    k_steps
    unfold Stopped
    rename Fr _ _ _ _ => F1
    rename News _ _ _ _ => N1
    refine setItem_my (own := newOf h₀ h₁ [L, D]) (vs := [.ref la, .int (spot : Int) t]) (k := 1) ⟨_, N1.get (.head _)⟩ (by omega) (by simp) (by simp) F1 N1 ⟨hLD, hD⟩ (fun p hp q => newOf_off p hp (List.mem_cons_of_mem _ q)) (fun p hp => .tail _ hp) ?_
    intro h2 F2 N2 hl2 sb
    have F : Fr h₀ L h₁ _ := Fx trivial
    have hrl2 : h2.PlainList la rv.toArray := (hrl1.at fun o e => newOf_keep F F1 (fun p hp => N1 p (.tail _ hp)) _ o (fun q => by
        obtain ⟨oL, es, ep, hL', hLd, _⟩ := F.ns
        rw [q, hL'] at e
        obtain ⟨n, e'⟩ := hrl1
        rw [q, hL'] at e'
        cases e'
        cases hLd) (by simpa using hla) e).at fun o e => (sb.2 _ hla).trans e
    obtain ⟨t2, hl2⟩ : ∃ t2, h2.PlainList D (List.toArray [.ref la, .int ((spot : Int) + 1) t2]) := ⟨_, hl2⟩
    have hx0 := hx0 t2
    obtain ⟨c2, hc2⟩ := id hl2
    replace N2 : News h₀ L h2 ((D, listOf (List.toArray [.ref la, .int ((spot : Int) + 1) t2]) c2) :: newOf h₀ h₁ [L, D]) := fun p hp => by
      rcases List.mem_cons.mp hp with rfl | hp
      · exact ⟨hc2, hLD, hD⟩
      · exact N2 p hp
    have fin : ∀ (x : Int) u tk h3 m3 news, Fr h₀ L h3 m3 → News h₀ L h3 news → (∀ p ∈ newOf h₀ h₁ [L, D], p ∈ news) → (D, listOf (List.toArray [.ref la, .int ((spot : Int) + 1) t2]) c2) ∈ news → DrawEnd s D la spot many (.int (x.fmod many) u) { s with heap := h3, toks := tk } := fun x u tk h3 m3 news F3 N3 hs hm3 =>
      ⟨⟨_, _, rfl, Int.fmod_nonneg_of_pos _ hm, Int.fmod_lt_of_pos _ hm⟩, h3, tk, t2, rfl, keep h3 _ F3 (fun p hp => N3 p (hs p hp)), ⟨c2, N3.get hm3⟩⟩
    have hfl := IntsAre.length hri
    clear F Fx hl1 hrl1 N1 F1 hx1 sb hc
    by_cases hsp : spot < ns.length
    · obtain ⟨x, hx⟩ : ∃ x, ns[spot]? = some x := ⟨_, List.getElem?_eq_getElem hsp⟩
      obtain ⟨tx, hx⟩ := ints_get hri hx
      replace hx : rv[((spot : Nat) : Int).toNat]? = some (.int x tx) := by rw [Int.toNat_natCast]; exact hx
      k_steps
      all_goals exact fin _ _ _ _ _ _ (by k_asm) (by k_asm) (by walk_at "my sub") (by k_mem)
    · k_steps
      all_goals exact fin _ _ _ _ _ _ (by k_asm) (by k_asm) (by walk_at "my sub") (by k_mem)
  exact fun hd hu X => key X rfl hd hu
end

section
-- part Wol
theorem K_rat {h : Heap} {a : Addr} {n d : Int} {t u : Tok} {c : Nat} {dd : Option Addr} {osl : Array (Option Value)} {K : Frag} (X : K.In h) (hk : K.lookup a = some ⟨.type "tuple", dd, .seq #[.int n t, .int d u] c, osl⟩) : RatV h (.ref a) (n, d) :=
  ⟨a, t, u, rfl, _, X a _ hk, rfl, _, rfl⟩
local macro_rules | `(tactic| walk_at "my con") => `(tactic| first | refine' qsub_sp ?z | refine' qat_sp ?z)
local macro_rules | `(tactic| walk_at "call ref") => `(tactic| walk_at "my call")
local macro_rules | `(tactic| walk_at "my lit") => `(tactic| (refine' qtrim_one ?N ?m ?r; (case N => k_asm); (case m => k_mem); (case r => walk_at "my rat")))
theorem wol_sp {v1 : Value} {ps z₀ : List Q2} (hz : withoutLast? ps = some z₀) : Sp w p loose mean mg mb 180 6 48 [v1] (fun h => PolyV h v1 ps) (fun h u => PolyV h u z₀) := by
  unfold Sp
  k_fill
  intro dp un fr gd s E hd hu X T hpre
  obtain ⟨a, vs, rfl, hl, hr, hn⟩ := hpre
  have hlen := hr.length
  have hp1 : PolyV s.heap (.ref a) ps := ⟨a, vs, rfl, hl, hr, hn⟩
  unfold withoutLast? at hz
  split at hz
  · cases hz
  rename_i c1 hc1
  have hc1 : qat? ps (0, 1) = some c1 := hc1
  k_dflt (refine' enter (binds := [(Str.ofString "f", .ref a)]) X T ?k6 ?k7 ?k8 ?k9 ?kB ?_ ?c2 ?c3 ?c4 ?c5; ((case k6 => k_is); (case k7 => k_is); (case k8 => first | exact room_0 (by assumption) | (dsimp only; omega)); (case k9 => exact BindsTo.of_eq rfl); (case c5 => decide); (case kB => exact locs rfl); (case c2 => exact rfl); (case c3 => exact rfl); (case c4 => exact rfl); k_whole))
  intro L h₁ hL F
  have N : News s.heap L h₁ [] := News.nil
  (try k_fold)
  k_steps
  exact back_of (by assumption) (by assumption)
end

section
-- part CompC
section
variable {prog : Program} {w : World} {A : Around} {E : Value → Shared → Prop} {s : Shared} {env : Env}
theorem newCompEnv {M : Model} {scope : Scope} {globals : Addr} {cl : List (Str × Addr)} {qual : Str} {code : Value} {Q : Env → Shared → Prop} {cl' : List (Str × Addr)}
    (h1 : cellsFrom (s.heap.objs.size + 1) scope.names cl = cl') (h2 : pushCells (s.heap.push { cls := .type "dict", data := .dict #[] }) scope.names = (s.heap.push { cls := .type "dict", data := .dict #[] }).push { cls := .type "cell", data := .cell none })
    (hQ : Q { scope := scope, locals := s.heap.objs.size, globals := globals, cells := cl', qual := qual, func := none, code := env.code, frame := env.frame, builtins := env.builtins } { s with heap := (s.heap.push { cls := .type "dict", data := .dict #[] }).push { cls := .type "cell", data := .cell none } }) :
    wpAny M A (newFunctionEnv scope globals cl [] qual none code (some env)) Q E s := by
  simp only [newFunctionEnv, Option.isSome_some, if_true]
  refine wpAny_bind (wpAny_alloc ?_)
  refine wpAny_bind (wpAny_layCells _ (fun name kind cells => by cases hkc : kind == NameKind.cell <;> simp) _ _ _ _ ?_)
  rw [show ({ s with heap := s.heap.push { cls := .type "dict", data := .dict #[] } } : Shared).heap.objs.size = s.heap.objs.size + 1 from Heap.size_push .., h1]
  refine wpAny_bind ?_
  rw [List.forIn_nil]
  refine wpAny_pure (wpAny_pure ?_)
  dsimp only
  rw [h2]
  exact hQ

/-- a range at the start of a list comprehension whose target stands in a cell -/
inductive CompAtC {β : Type} (prog : Program) (w : World) (A : Around) (hb : Heap) (env : Env) (scope : Scope) (cl : List (Str × Addr)) (x : Str) (px : Pos) (elt : Expr) (G : Value → β → Prop) (bs : List β) (Dn : Heap → Shared → Prop) (it : Value) (s₂ : Shared) : Prop
  | mk (I : Addr) (fp wr : List Addr) (P : Nat → Value → Prop) (Md : Nat → Value → Heap → Prop) (St : Nat → Heap → Prop) (q0 : it = .ref I) (q1 : KTurns prog w A (.Name x px) I fp wr bs.length (fun i v _ => P i v) Md St) (q2 : (∀ i (s : Shared) (Q : Value → Shared → Prop) (E : Value → Shared → Prop), St i s.heap → Q (.ref I) s → wpAny (model prog w) A (pyIter (.ref I)) Q E s)) (q3 : (∀ b ∈ fp, b < s₂.heap.objs.size)) (q4 : (∀ b ∈ wr, hb.get? b = none)) (q5 : (∀ i v h, Md i v h → ∀ b ∈ wr, ∃ o fs, h.get? b = some o ∧ o.data = .fields fs)) (q6 : (∀ i h, St i h → ∀ b ∈ wr, ∃ o fs, h.get? b = some o ∧ o.data = .fields fs)) (q7 : St 0 s₂.heap) (q8 : Ext hb s₂.heap) (q9 : hb.objs.size ≤ s₂.heap.objs.size) (q10 : bs.length ≤ sizeLine) (q11 : (∀ i b v C c o h tk m own (E' : Value → Shared → Prop), bs[i]? = some b → P i v → o.data = .cell (some v) → Fr hb C h m → News hb C h ((c, o) :: own) → wpAny (model prog w) A (eval elt (compEnvC scope ((x, c) :: cl) C env)) (EltEnd s₂ hb C ((c, o) :: own) (fun _ => G) b) E' { s₂ with heap := h, toks := tk })) (q12 : Dn hb s₂)

theorem kindOf_relabel_cell {env : Env} : ∀ {names : List (Str × NameKind)} {x : Str}, names.lookup x = some .cell →
    (names.map fun (n, k) => if (k == NameKind.free && env.scope.kind == .function && env.kindOf n == some .cell) then (n, NameKind.cell) else (n, k)).lookup x = some .cell
  | [], _, h => by simp at h
  | (n, k) :: r, x, h => by
    have ih := @kindOf_relabel_cell env r x
    show List.lookup x ((if (k == NameKind.free && env.scope.kind == .function && env.kindOf n == some .cell) = true then (n, NameKind.cell) else (n, k)) :: _) = _
    cases hx : x == n with
    | true =>
      simp only [List.lookup_cons, hx] at h
      cases h
      simp [List.lookup_cons, hx]
    | false =>
      simp only [List.lookup_cons, hx] at h
      by_cases hc : (k == NameKind.free && env.scope.kind == .function && env.kindOf n == some .cell) = true
      · rw [if_pos hc]; simp only [List.lookup_cons, hx]; exact ih h
      · rw [if_neg hc]; simp only [List.lookup_cons, hx]; exact ih h

theorem comp_coreC {β : Type} {elt iter : Expr} {scope : Scope} {cl : List (Str × Addr)} {pos px : Pos} {x : Str} (G : Value → β → Prop) (bs : List β)
    (hc1 : ∀ n, cellsFrom n scope.names cl = (x, n) :: cl) (hc2 : ∀ h, pushCells h scope.names = h.push { cls := .type "cell", data := .cell none }) (hx : scope.names.lookup x = some .cell) (hkind : scope.kind = .function)
    {Dn : Heap → Shared → Prop} {hb : Heap} {it : Value} {s₂ : Shared} {RR : Value → Addr → Result → Shared → Prop}
    (h : CompAtC prog w A hb env scope cl x px elt G bs Dn it s₂)
    (hRR : Dn hb s₂ → ∀ D C h' tk m' ys, Fr hb C h' m' → h'.PlainList D (List.toArray ys) → All2 G ys bs → hb.get? D = none → hb.get? C = none → D ≠ C → RR (.ref D) C (.ok .next) { s₂ with heap := h', toks := tk }) :
    wpAny (model prog w) A (newList []) (fun acc s₃ => wpAny (model prog w) A (newFunctionEnv scope env.globals cl [] env.qual none .none (some env)) (fun cenv s₄ =>
      codeAny (model prog w) A (.compStart (.ListComp elt [⟨.Name x px, iter, [], 0⟩] scope pos) 0 it acc { cenv with scope := relabel scope env }) (RR acc cenv.locals) s₄) E s₃) E s₂ := by
  obtain ⟨I, fp, wr, P, Md, St, rfl, W, self, hfp, hwr, hMf, hSf, hst, hext, hgrow, hsz, step, done⟩ := h
  refine wpAny_newObj_type (newCompEnv (hc1 _) (hc2 _) ?_)
  dsimp only
  generalize hH2 : s₂.heap.push { cls := .type "list", dict := none, data := .seq ([] : List Value).toArray } = H2
  have hC : H2.objs.size = s₂.heap.objs.size + 1 := by rw [← hH2, Heap.size_push]
  generalize hH3 : H2.push { cls := .type "dict", data := .dict #[] } = H3
  have hcs : H3.objs.size = H2.objs.size + 1 := by rw [← hH3, Heap.size_push]
  generalize hh₁ : H3.push { cls := .type "cell", data := .cell none } = h₁
  have hDC : s₂.heap.objs.size ≠ H2.objs.size := by rw [hC]; exact Nat.ne_of_lt (Nat.lt_succ_self _)
  have hDc : s₂.heap.objs.size ≠ H2.objs.size + 1 := by omega
  have hCc : H2.objs.size ≠ H2.objs.size + 1 := Nat.ne_of_lt (Nat.lt_succ_self _)
  have up : ∀ b o, H2.get? b = some o → h₁.get? b = some o := fun b o e => by
    rw [← hh₁]; exact Heap.get?_push_of_some _ (by rw [← hH3]; exact Heap.get?_push_of_some _ e)
  have old : ∀ b o, s₂.heap.get? b = some o → h₁.get? b = some o := fun b o e => up b o (hH2 ▸ Heap.get?_push_of_some _ e)
  have hacc : h₁.PlainList s₂.heap.objs.size #[] := ⟨_, up _ _ (hH2 ▸ Heap.get?_push_size _ rfl)⟩
  have hns₁ : h₁.Ns H2.objs.size (fun _ => none) := by
    have q := (Heap.Ns.new H2 (.type "dict")).keeps (h' := h₁) (fun b o e => by rw [← hh₁]; exact Heap.get?_push_of_some _ (hH3 ▸ e))
    exact q
  have hcell₁ : h₁.get? (H2.objs.size + 1) = some { cls := .type "cell", data := .cell none } := by
    rw [← hh₁, ← hcs]; exact Heap.get?_push_size _ rfl
  have fresh : ∀ a, s₂.heap.objs.size ≤ a → hb.get? a = none := fun a ha => by
    cases e : hb.get? a with
    | none => rfl
    | some o' => exact absurd (Heap.lt_size (hext a o' e)) (Nat.not_lt.mpr ha)
  have hD₀ := fresh _ (Nat.le_refl _)
  have hC₀ := fresh H2.objs.size (by omega)
  have hc₀ := fresh (H2.objs.size + 1) (by omega)
  have hCf : H2.objs.size ∉ fp := fun hm => by have : H2.objs.size < s₂.heap.objs.size := hfp _ hm; omega
  have hDf : s₂.heap.objs.size ∉ fp := fun hm => Nat.lt_irrefl _ (hfp _ hm)
  have hcf : H2.objs.size + 1 ∉ fp := fun hm => by have : H2.objs.size + 1 < s₂.heap.objs.size := hfp _ hm; omega
  have hst₁ : St 0 h₁ := W.frame _ _ _ hst fun b _ o e => old b o e
  have hsC : hb.objs.size ≤ H2.objs.size := by omega
  have F₁ : Fr hb H2.objs.size h₁ (fun _ => none) := ⟨hns₁, fun b o e => old b o (hext b o e), hsC⟩
  have hcM : ∀ c ∈ [H2.objs.size + 1], c ∉ fp := fun c hc => by rw [List.mem_singleton.mp hc]; exact hcf
  have loop := comp_go (elt := elt) (iter := iter) (scope := scope) (pos := pos) (target := .Name x px) (cenv := compEnvC scope ((x, H2.objs.size + 1) :: cl) H2.objs.size env) (M := [H2.objs.size + 1]) (tk₁ := s₂.toks) (R := RR (.ref s₂.heap.objs.size) H2.objs.size) (fun _ => G) (fun _ _ _ _ _ x => x) bs W hwr hMf hSf hsz hCf hDf hcM hDC
    (fun hm => hDc (List.mem_singleton.mp hm)) hD₀ hst₁ F₁ hacc (fun c hc => by rw [List.mem_singleton.mp hc]; exact ⟨_, _, hcell₁, rfl⟩)
    (fun i b v h₃ tk m E' hbs hP F₃ hcl => by
      obtain ⟨v₀, ho₃⟩ := hcl _ (.head _)
      refine wpAny_assign_Name (wpAny_storeName_cell (env := compEnvC scope ((x, H2.objs.size + 1) :: cl) H2.objs.size env) (c := H2.objs.size + 1) ?_ ?_ ?_ ho₃ fun h₄ hcell₄ sb₄ => ?_)
      · simpa [compEnvC, relabel] using hkind
      · exact kindOf_relabel_cell hx
      · simp [compEnvC]
      obtain ⟨o₄, ho₄, hod₄⟩ := hcell₄
      have F₄ : Fr hb H2.objs.size h₄ _ := F₃.change sb₄ (Ne.symm hCc) hc₀
      have N₄ : News hb H2.objs.size h₄ ((H2.objs.size + 1, o₄) :: newOf hb h₄ [H2.objs.size]) := fun p hp => by
        rcases List.mem_cons.mp hp with rfl | hp
        · exact ⟨ho₄, Ne.symm hCc, hc₀⟩
        · exact newOf_news (M := []) p hp
      refine wpAny_mono (step i b v H2.objs.size (H2.objs.size + 1) o₄ h₄ tk _ _ _ hbs hP hod₄ F₄ N₄) (fun y s₅ h₅ => ?_) fun _ _ e => e
      obtain ⟨h₅', tk₅, m₅, rfl, F₅, N₅, hy⟩ := h₅
      have k₅ : ∀ c o, c ≠ H2.objs.size → h₄.get? c = some o → h₅'.get? c = some o := fun c o hc e => newOf_keep F₄ F₅ (fun p hp => N₅ p (.tail _ hp)) c o hc (fun q => nomatch q) e
      exact ⟨h₅', tk₅, m₅, rfl, F₅, fun c hc => by rw [List.mem_singleton.mp hc]; exact ⟨_, o₄, k₅ _ _ (Ne.symm hCc) ho₄, hod₄⟩,
        fun c o hc hcM e => k₅ c o hc ((sb₄.2 c fun q => hcM (by rw [q]; exact .head _)).trans e), hy⟩)
    (fun h' tk m' ys F' hl' hG' => hRR done _ _ h' _ m' ys F' hl' hG' hD₀ hC₀ hDC)
  exact codeAny_compStart_list loop (self 0 _ _ _ hst₁ loop)

abbrev CompDoneC {β : Type} (G : Value → β → Prop) (bs : List β) (L : Addr) (m : Str → Option Value) (y : Str) (Q : Flow → Shared → Prop) (hb : Heap) (s₂ : Shared) : Prop :=
  hb.Ns L m ∧ ∀ D h' tk ys, h'.PlainList D (List.toArray ys) → All2 G ys bs → h'.Ns L (fun z => if z = y then some (.ref D) else m z) → (∀ b o, b ≠ L → hb.get? b = some o → h'.get? b = some o) → hb.get? D = none → Q .next { s₂ with heap := h', toks := tk }

theorem comp_assignC {β : Type} {elt iter : Expr} {scope : Scope} {cl : List (Str × Addr)} {x : Str} {pos px py spos : Pos} {y : Str} {Q : Flow → Shared → Prop} {h₀ : Heap} {m : Str → Option Value} (_F : Fr h₀ env.locals s.heap m) (G : Value → β → Prop) (bs : List β)
    (hsw : swapsWith (.ListComp elt [⟨.Name x px, iter, [], 0⟩] scope pos) (some (.Name y py)) spos.line env = pure true)
    (hclos : closureFor scope env = pure cl) (hc1 : ∀ n, cellsFrom n scope.names cl = (x, n) :: cl) (hc2 : ∀ h, pushCells h scope.names = h.push { cls := .type "cell", data := .cell none }) (hx : scope.names.lookup x = some .cell) (hkind : scope.kind = .function)
    (hnames : ∀ y ∈ scope.names, y.2 = .local → scope.names.lookup y.1 = some .local)
    (hy : env.kindOf y = some .local) (hp : (env.scope.kind == .class || (env.scope.kind == .module && env.locals != env.globals)) = false)
    (h : wpAny (model prog w) A (eval iter env) (fun xv s₁ => wpAny (model prog w) A (pyIter xv) (fun it s₂ => ∃ hb, CompAtC prog w A hb env scope cl x px elt G bs (CompDoneC G bs env.locals m y Q) it s₂) E s₁) E s)
    (hs : ∀ x, foldedSetIterable iter env x = pure x) :
    wpAny (model prog w) A (exec (.Assign [.Name y py] (.ListComp elt [⟨.Name x px, iter, [], 0⟩] scope pos) spos) env) Q E s := by
  rw [exec_Assign_Name_used _ _ _ _ hsw]
  refine wpAny_bind (wpAny_standAt (wpAny_bind ?_))
  show wpAny _ A (do let _ ← comprehension (.ListComp elt [⟨.Name x px, iter, [], 0⟩] scope pos) scope env _ (newList []) false (eval iter env) (some (assign (.Name y py) env))) _ _ s
  refine wpAny_bind (wpAny_mono (wpAny_comprehension_free (use := some (assign (.Name y py) env)) (Q := fun _ s' => Q .next s') rfl hs hclos hkind hnames
    (wpAny_mono h (fun xv s₁ h₁ => wpAny_mono h₁ (fun it s₂ h₂ => ?_) fun _ _ e => e) fun _ _ e => e)) (fun _ s' hq => wpAny_pure (wpAny_pure hq)) fun _ _ e => e)
  obtain ⟨hb, hC⟩ := h₂
  refine comp_coreC (RR := fun acc C => compPost (model prog w) A E (some (assign (.Name y py) env)) (fun _ s' => Q .next s') acc C) G bs hc1 hc2 hx hkind hC fun done D C h' tk m' ys F' hl' hG' hD hC₀ hDC => ?_
  obtain ⟨hn, done⟩ := done
  have hLb : ∀ b, hb.get? b = none → env.locals ≠ b := fun b hb' q => by obtain ⟨o, _, _, ho, _⟩ := hn; rw [q, hb'] at ho; cases ho
  have hLC := hLb C hC₀
  have hLD := hLb D hD
  have hn' : h'.Ns env.locals m := hn.at' fun o e => F'.keep _ o e
  show wpAny _ A (assign (.Name y py) env (.ref D)) _ _ _
  refine wpAny_assign_Name (wpAny_storeName_local hy hn' (fun h₂ hn₂ hs₂ => ?_) hp)
  have hnC₂ := F'.ns.sameBut hs₂ (Ne.symm hLC)
  refine ⟨m', hnC₂, fun h₃ hs₃ => ?_⟩
  exact done D h₃ _ ys ((hl'.extBut hs₂.extBut (Ne.symm hLD)).extBut hs₃.extBut hDC) hG' (hn₂.sameBut hs₃ hLC)
    (fun c o hcL e => hs₃.extBut c o (fun q => by rw [q, hC₀] at e; cases e) (hs₂.extBut c o hcL (F'.keep c o e))) hD

theorem comp_rangeC {β : Type} {elt : Expr} {scope : Scope} {cl : List (Str × Addr)} {G : Value → β → Prop} {bs : List β} {Dn : Heap → Shared → Prop} {x : Str} {px : Pos} {r : Addr} {a₀ b₀ : Int} {t₀ u₀ v₀ : Tok}
    (hh : A.handled = none) (hr : IsRange s.heap r a₀ b₀ 1 t₀ u₀ v₀) (hsmall : Builtin.Range.small a₀ b₀ 1 = true) (hn : Builtin.Range.rangeSize a₀ b₀ 1 = (bs.length : Int)) (hsz : bs.length ≤ sizeLine)
    (step : ∀ (i : Nat) (b : β) (t : Tok) (C c : Addr) (o : Obj) (h : Heap) (tk : Nat) (m : Str → Option Value) (own : List (Addr × Obj)) (E' : Value → Shared → Prop), bs[i]? = some b → o.data = .cell (some (.int (a₀ + (i : Int)) t)) → Fr s.heap C h m → News s.heap C h ((c, o) :: own) →
      wpAny (model prog w) A (eval elt (compEnvC scope ((x, c) :: cl) C env)) (EltEnd s s.heap C ((c, o) :: own) (fun _ => G) b) E' { s with heap := h, toks := tk })
    (done : ∀ h tk, Dn s.heap { s with heap := h, toks := tk }) :
    wpAny (model prog w) A (pyIter (.ref r)) (fun it s₂ => ∃ hb, CompAtC prog w A hb env scope cl x px elt G bs Dn it s₂) E s := by
  have W := Walks.range (prog := prog) (w := w) hh s.heap.objs.size a₀ 1 bs.length
  refine wpAny_pyIter_range hr hsmall ⟨s.heap, s.heap.objs.size, [s.heap.objs.size], [s.heap.objs.size], _, _, _, rfl,
    KTurns.ofWalks W (fun i v s Q E _ q => letGo_name q), W.self, ?_, ?_, ?_, ?_, ?_, ?_, ?_, hsz, ?_, ?_⟩
  · intro b hb
    show b < (s.heap.push _).objs.size
    rw [Heap.size_push, List.mem_singleton.mp hb]
    exact Nat.lt_succ_self _
  · intro b hb
    rw [List.mem_singleton.mp hb]
    exact Heap.get?_none_of_le (Nat.le_refl _)
  · rintro i v h ⟨_, hd⟩
    exact all_fields1 hd rfl
  · intro i h hd
    exact all_fields1 hd rfl
  · show IsRangeIter _ _ _ _ _
    rw [hn]
    simpa using Heap.get?_push_size _ rfl
  · exact fun b o e => Heap.get?_push_of_some _ e
  · show s.heap.objs.size ≤ (s.heap.push _).objs.size
    rw [Heap.size_push]; exact Nat.le_succ _
  · rintro i b v C c o h tk m own E' hb ⟨t, rfl⟩ ho F N
    rw [Int.mul_one] at ho
    exact step i b t C c o h tk m own E' hb ho F N
  · exact done _ _
end

theorem ints_of {ys : List Value} {bs : List Int} (h : All2 (fun y b => ∃ t, y = Value.int b t) ys bs) : IntsAre ys bs := by
  induction h with
  | nil => exact .nil
  | cons h _ ih => obtain ⟨t, rfl⟩ := h; exact .cons _ _ ih
theorem sumC_my {prog : Program} {w : World} {A : Around} {E : Value → Shared → Prop} {s : Shared} {h₀ : Heap} {L l : Addr} {m : Str → Option Value} {news : List (Addr × Obj)} {vs : List Value} {ns : List Int} {Q : Value → Shared → Prop} (hh : A.handled = none) (F : Fr h₀ L s.heap m) (N : News h₀ L s.heap news) (hl : s.heap.PlainList l vs.toArray) (hi : All2 (fun y b => ∃ t, y = Value.int b t) vs ns)
    (h : ∀ h' tk t', Fr h₀ L h' m → News h₀ L h' news → Q (.int ns.sum t') { s with heap := h', toks := tk }) : wpAny (model prog w) A (call (.builtin "sum") [.ref l]) Q E s :=
  sumK hh F N hl.isList (ints_of hi) h
theorem powC_my {prog : Program} {w : World} {A : Around} {E : Value → Shared → Prop} {s : Shared} {a n : Int} {t u : Tok} {Q : Value → Shared → Prop} (hn : 0 ≤ n) (hn2 : n ≤ 1000) (ha : -1000 ≤ a ∧ a ≤ 1000) (h : ∀ t', Q (.int (a ^ n.toNat) t') { s with toks := s.toks + 1 }) :
    wpAny (model prog w) A (binaryOp .Pow (.int a t) (.int n u)) Q E s := pow_int_small hn (by omega) (by omega) (h _)
theorem mulC_my {prog : Program} {w : World} {A : Around} {E : Value → Shared → Prop} {s : Shared} {a b : Int} {t u : Tok} {Q : Value → Shared → Prop} (ha : -1000 ≤ a ∧ a ≤ 1000) (h : ∀ t', Q (.int (a * b) t') { s with toks := s.toks + 1 }) :
    wpAny (model prog w) A (binaryOp .Mult (.int a t) (.int b u)) Q E s := mul_int (h _) (PySem.IntMulOk.of_left (intBits_le_iff.mpr (by omega)))

theorem poly_two {v1 v2 : Value} {h₀ h : Heap} {L D : Addr} {c : Nat} {q1 q2 : Q2} {news : List (Addr × Obj)} (N : News h₀ L h news) (hm : (D, listOf #[v1, v2] c) ∈ news) (h1 : RatV h v1 q1) (h2 : RatV h v2 q2) : PolyV h (.ref D) [q1, q2] :=
  ⟨D, [v1, v2], rfl, ⟨c, N.get hm⟩, .cons h1 (.cons h2 .nil), by simp⟩
theorem sum3 (f : Int → Int) : ((List.range 3).map fun i => f ((i : Nat) : Int)).sum = f 0 + f 1 + f 2 := by
  simp [List.range, List.range.loop, Int.add_assoc]
end

section
-- part LawA
theorem use_draw {p : Program} {loose : List Str} {mean : ExcName → Option Value} {mg mb : Str → Option Value} {D la : Addr} {spot : Nat} {t tm : Tok} {many : Int} {ns : List Int} {A : Around} {s : Shared} {E : Value → Shared → Prop} {Q : Value → Shared → Prop}
    {h₀ : Heap} {L : Addr} {m : Str → Option Value} {news own : List (Addr × Obj)} {c : Nat}
    (F : Fr h₀ L s.heap m) (N : News h₀ L s.heap news) (X : (Mine.hd.heap_39 w.params).In h₀) (T : Top p loose mean mg mb h₀) (hh : A.handled = none) (hd : A.depth + 1 < recursionLimit) (hu : A.units + 8 < cLine)
    (hm : (D, listOf (List.toArray [.ref la, .int (spot : Int) t]) c) ∈ news) (hs : ∀ p ∈ own, p ∈ news) (hoff : ∀ p ∈ own, p.1 ≠ D) (hi : IntsV s.heap (.ref la) ns) (hsp : spot ≤ 100) (h0 : 0 < many) (h1 : many ≤ 100)
    (k : ∀ n u h' tk' t' c', 0 ≤ n → n < many → (∀ b o, b ≠ D → s.heap.get? b = some o → h'.get? b = some o) → Fr h₀ L h' m → News h₀ L h' ((D, listOf (List.toArray [.ref la, .int (((spot + 1 : Nat) : Int)) t']) c') :: own) → Q (.int n u) { s with heap := h', toks := tk' }) :
    wpAny (model PySem.Challenge.rw_tk0017_01.prog w) A (call (.ref 173) [.ref D, .int many tm]) Q E s := by
  obtain ⟨_, dp, fr, gd, un⟩ := A
  dsimp only at hh
  subst hh
  have hD := N _ hm
  have hLs : h₀.objs.size ≤ s.heap.objs.size := Nat.le_of_lt (Nat.lt_of_le_of_lt F.above F.ns.lt)
  refine wpAny_mono (draw_sp (spot := spot) hd hu X T F.keep hLs hD.2.2 ⟨c, hD.1⟩ hi hsp h0 h1) (fun r s' hr => ?_) fun _ _ e => e
  obtain ⟨⟨n, u, rfl, hn0, hn1⟩, h', tk, t', rfl, hk, hl⟩ := hr
  obtain ⟨c', hc'⟩ := hl
  refine k n u h' tk t' c' hn0 hn1 hk ?_ ?_
  · exact ⟨F.ns.at' fun o e => hk _ o (fun q => hD.2.1 q.symm) e, fun b o e => hk b o (fun q => by rw [q, hD.2.2] at e; cases e) (F.keep b o e), F.above⟩
  · intro q hq
    rcases List.mem_cons.mp hq with rfl | hq
    · exact ⟨by simpa using hc', hD.2⟩
    · exact ⟨hk _ _ (hoff q hq) (N q (hs q hq)).1, (N q (hs q hq)).2⟩
def Passed (_ : Nat) : Prop := True
theorem passed (n : Nat) : Passed n := trivial
theorem but_rat {h h' : Heap} {D : Addr} {vs : Array Value} {v : Value} {q : Q2} (hl : h.PlainList D vs) (kp : ∀ b o, b ≠ D → h.get? b = some o → h'.get? b = some o) (y : RatV h v q) : RatV h' v q := by
  obtain ⟨a, t, u, e, o, ho, hc, n, hd⟩ := y
  refine ⟨a, t, u, e, o, kp a o (fun q => ?_) ho, hc, n, hd⟩
  obtain ⟨n', ho'⟩ := hl
  rw [q, ho'] at ho; cases ho
  exact absurd (Value.type.inj hc) (by decide)
inductive LawJ (D Dp la : Addr) (vsz : Value) (h₀ : Heap) (L : Addr) (K : List (Addr × Obj)) (i : Nat) (m : Str → Option Value) (h : Heap) : Prop
  | mk (fs : _) (cs : _) (spot : _) (t : _) (q0 : Has m [(Str.ofString "size", vsz), (Str.ofString "pool", .ref D)]) (q1 : h.PlainList D (List.toArray [.ref la, .int ((spot : Nat) : Int) t])) (q2 : spot = 1 + i) (q3 : h.PlainList Dp (List.toArray fs)) (q4 : All2 (RatV h) fs (whole cs)) (q5 : cs.length = i) (q6 : (∀ c ∈ cs, -3 ≤ c ∧ c ≤ 3)) (q7 : News h₀ L h K)
local macro_rules | `(tactic| walk_at "law room") => `(tactic| (simp only [depth_deeper, depth_caller, units_deeper, units_caller]; decide))
end

section
-- part LawB
theorem nat_of {n : Int} (h0 : 0 ≤ n) : ∃ sz : Nat, 1 + n = (sz : Int) := ⟨(1 + n).toNat, (Int.toNat_of_nonneg (Int.le_trans (by decide) (Int.add_le_add_left h0 1))).symm⟩
theorem sz_bnd {n : Int} {sz : Nat} (h : 1 + n = (sz : Int)) (h0 : 0 ≤ n) (h1 : n < 3) : 1 ≤ sz ∧ sz ≤ 3 := by omega
theorem spot1 {spot i sz : Nat} (hs : spot = 1 + i) (hi : i < sz) (h : sz ≤ 3) : spot ≤ 100 := by rw [hs]; exact Nat.le_trans (Nat.add_le_add_left (Nat.le_of_lt (Nat.lt_of_lt_of_le hi h)) 1) (by decide)
theorem spot2 {spot sz : Nat} (hs : spot = 1 + sz) (h : sz ≤ 3) : spot ≤ 100 := by rw [hs]; exact Nat.le_trans (Nat.add_le_add_left h 1) (by decide)
theorem spot_up {spot i : Nat} (hs : spot = 1 + i) : spot + 1 = 1 + (i + 1) := by rw [hs]; rfl
theorem len_lt {a i sz : Nat} (h : a = i) (hi : i < sz) (h3 : sz ≤ 3) : a ≤ 1000 := by rw [h]; exact Nat.le_trans (Nat.le_of_lt hi) (Nat.le_trans h3 (by decide))
theorem len_le {a sz : Nat} (h : a = sz) (h3 : sz ≤ 3) : a ≤ 1000 := by rw [h]; exact Nat.le_trans h3 (by decide)
theorem draw7 {n : Int} (h0 : 0 ≤ n) (h1 : n < 7) : -3 ≤ n - 3 ∧ n - 3 ≤ 3 := by omega
theorem lead_lo {n : Int} (h0 : 0 ≤ n) : 1 ≤ 1 + n := Int.add_le_add_left h0 1
theorem lead_hi {n : Int} (h1 : n < 3) : 1 + n ≤ 3 := by rw [Int.add_comm]; exact h1
theorem lead_b {n : Int} (h0 : 0 ≤ n) (h1 : n < 3) : -3 ≤ 1 + n ∧ 1 + n ≤ 3 := ⟨Int.le_trans (by decide) (lead_lo h0), lead_hi h1⟩
theorem whole_len {cs : List Int} {x : Int} {sz : Nat} (h : cs.length = sz) (h3 : sz ≤ 3) : (whole (cs ++ [x])).length ≤ 4 := by
  rw [List.length_map, List.length_append, h]
  exact Nat.succ_le_succ h3
theorem cast1 (i : Nat) : ((1 + i : Nat) : Int) = 1 + (i : Int) := rfl
theorem i_le {sz i : Nat} (h : i < sz + 1) (h3 : sz ≤ 3) : i ≤ 3 := Nat.le_trans (Nat.le_of_lt_succ h) h3
theorem row_lo (i : Nat) : 0 ≤ 1 + (i : Int) := Int.le_trans (by decide) (Int.add_le_add_left (Int.natCast_nonneg i) 1)
theorem row_hi {i : Nat} (h : i ≤ 3) : 1 + (i : Int) < 2 ^ 63 := Int.lt_of_le_of_lt (Int.add_le_add_left (Int.ofNat_le.mpr h) 1) (by decide)
theorem size4 {n : Nat} (h : n ≤ 4) : n ≤ sizeLine := size_ok (Nat.le_trans h (by decide))
theorem pow_hi {j : Nat} (h : j < 4) : (j : Int) ≤ 1000 := Int.le_trans (Int.ofNat_le.mpr (Nat.le_of_lt h)) (by decide)
theorem base_b {i : Nat} (h : i < 3) : -1000 ≤ (i : Int) ∧ (i : Int) ≤ 1000 := ⟨Int.le_trans (by decide) (Int.natCast_nonneg i), Int.le_trans (Int.ofNat_le.mpr (Nat.le_of_lt h)) (by decide)⟩
theorem coef_b {c : Int} (h : -3 ≤ c ∧ c ≤ 3) : -1000 ≤ c ∧ c ≤ 1000 := ⟨Int.le_trans (by decide) h.1, Int.le_trans h.2 (by decide)⟩
theorem news_cons {h₀ h : Heap} {L D : Addr} {o : Obj} {K : List (Addr × Obj)} (e : h.get? D = some o ∧ D ≠ L ∧ h₀.get? D = none) (N : News h₀ L h K) : News h₀ L h ((D, o) :: K) := fun p hp => by
  rcases List.mem_cons.mp hp with rfl | hp
  · exact e
  · exact N p hp
theorem sub_cons {α : Type} {x : α} {A B : List α} (h : x ∈ B) (t : ∀ p ∈ A, p ∈ B) : ∀ p ∈ x :: A, p ∈ B := fun p hp => by
  rcases List.mem_cons.mp hp with rfl | hp
  · exact h
  · exact t p hp
theorem sub_app {α : Type} {A A' B : List α} (h : ∀ p ∈ A, p ∈ B) (t : ∀ p ∈ A', p ∈ B) : ∀ p ∈ A ++ A', p ∈ B := fun p hp => (List.mem_append.mp hp).elim (h p) (t p)
theorem off_nil {D : Addr} : ∀ p ∈ ([] : List (Addr × Obj)), p.1 ≠ D := fun _ hp => nomatch hp
theorem off_cons {D a : Addr} {o : Obj} {A : List (Addr × Obj)} (h : a ≠ D) (t : ∀ p ∈ A, p.1 ≠ D) : ∀ p ∈ (a, o) :: A, p.1 ≠ D := fun p hp => by
  rcases List.mem_cons.mp hp with rfl | hp
  · exact h
  · exact t p hp
theorem off_app {D : Addr} {A A' : List (Addr × Obj)} (h : ∀ p ∈ A, p.1 ≠ D) (t : ∀ p ∈ A', p.1 ≠ D) : ∀ p ∈ A ++ A', p.1 ≠ D := fun p hp => (List.mem_append.mp hp).elim (h p) (t p)
theorem store_loc {prog : Program} {A : Around} {E : Value → Shared → Prop} {s : Shared} {env : Env} {h₀ : Heap} {m : Str → Option Value} {x : Str} {v : Value} {news : List (Addr × Obj)} {Q : Unit → Shared → Prop} (F : Fr h₀ env.locals s.heap m) (N : News h₀ env.locals s.heap news) (hx : env.kindOf x = some .local)
    (hp : (env.scope.kind == .class || (env.scope.kind == .module && env.locals != env.globals)) = false)
    (h : ∀ h', Fr h₀ env.locals h' (fun z => if z = x then some v else m z) → News h₀ env.locals h' news → Q () { s with heap := h', toks := s.toks + 1 }) : wpAny (model prog w) A (storeName env x v) Q E s :=
  wpAny_storeName_local hx F.ns (fun h' hn hs => h h' (F.set hn hs) (N.set hs)) hp
theorem name_cellN {M : Model} {A : Around} {E : Value → Shared → Prop} {s : Shared} {env : Env} {h₀ : Heap} {L c : Addr} {o : Obj} {x : Str} {pos : Pos} {v : Value} {news : List (Addr × Obj)} {Q : Value → Shared → Prop} (N : News h₀ L s.heap news) (hm : (c, o) ∈ news) (ho : o.data = .cell (some v))
    (hk : env.scope.kind = .function) (hx : env.kindOf x = some .cell) (hc : env.cells.lookup x = some c) (h : Q v s) (hd : (x == ("__debug__" : Str)) = false) : wpAny M A (eval (.Name x pos) env) Q E s :=
  wpAny_Name (wpAny_loadName_cell hk hx hc ⟨o, N.get hm, ho⟩ h) hd
theorem news_ex3 {h₀ h : Heap} {L : Addr} {news : List (Addr × Obj)} (N : News h₀ L h news) : ∃ K, News h₀ L h K ∧ ∀ p ∈ news, p ∈ K := ⟨news, N, fun _ h => h⟩
inductive LawK (ar : Addr) (sz : Nat) (ts : Tok) (row : List Q2) (W : List Q2 × List Q2 × List Q2) (h₀ : Heap) (L : Addr) (K : List (Addr × Obj)) (i : Nat) (m : Str → Option Value) (h : Heap) : Prop
  | mk (by0 : _) (tb : _) (vw : _) (wh : _) (vh : _) (ha : _) (vs : _) (sl : _) (vo : _) (on : _) (q0 : Has m [(Str.ofString "row", .ref ar), (Str.ofString "size", .int (sz : Int) ts), (Str.ofString "by", .int by0 tb), (Str.ofString "whole", vw), (Str.ofString "halves", vh), (Str.ofString "slope", vs), (Str.ofString "onward", vo)]) (q1 : PolyV h vw wh) (q2 : PolyV h vh ha) (q3 : PolyV h vs sl) (q4 : PolyV h vo on) (q5 : News h₀ L h K) (q6 : LawGo row W (sz + 1 - i) (1 + i) by0 wh ha sl on)
theorem pow_small {i : Nat} (h : i ≤ 3) : ((2 : Int) ^ (1 + i)).natAbs ≤ 2 ^ 5 := by
  have : i = 0 ∨ i = 1 ∨ i = 2 ∨ i = 3 := by omega
  rcases this with rfl | rfl | rfl | rfl <;> decide
theorem mul_small {x : Int} {i : Nat} (hx : sm x = true) (h : i ≤ 3) : (x * 2 ^ (1 + (i : Int)).toNat).natAbs < 2 ^ 200 := by
  rw [show (1 + (i : Int)).toNat = 1 + i by omega, Int.natAbs_mul]
  calc x.natAbs * ((2 : Int) ^ (1 + i)).natAbs ≤ 2 ^ 64 * 2 ^ 5 := Nat.mul_le_mul (Nat.le_of_lt (sm_lt hx)) (pow_small h)
    _ < 2 ^ 200 := by decide
end

section
-- part Law1
local macro_rules | `(tactic| walk_at "my in") => `(tactic| first | assumption | (refine List.mem_append_left _ ?_; assumption) | (refine List.mem_append_right _ ?_; walk_at "my in") | (refine List.mem_cons_of_mem _ ?_; walk_at "my in"))
local macro_rules | `(tactic| walk_at "my sub") => `(tactic| first | exact fun _ h => h | (intro p9 h9; walk_at "my in") | (intro p9 h9; simp only [List.mem_append, List.mem_cons, h9, true_or, or_true]))
local macro_rules | `(tactic| walk_at "my con") => `(tactic| first | refine' bern_sp' ?e (by assumption) ?h | refine' qintegral_sp ?z | refine' qderive_sp ?z | refine' polysum_sp ?z ?l | refine' wol_sp ?z | refine' rat_sp (by assumption) (by assumption) | refine' qscale_sp ?z | refine' qat_sp ?z | refine' qadd_sp ?z | refine' qcomp_sp ?z)
local macro_rules | `(tactic| walk_at "call ref") => `(tactic| walk_at "my call")
local macro_rules | `(tactic| walk_at "eval Name") => `(tactic| (k_dflt (first
  | (refine' name_loc ?F ?k ?x ?v ?_ ?d; (case x => exact rfl); (case k => exact rfl); (case d => decide); (case F => k_asm); (case v => exact rfl))
  | (refine' name_cellN ?N ?m ?o ?k ?x ?c ?_ ?d; (case x => exact rfl); (case k => exact rfl); (case d => decide); (case c => exact rfl); (case o => assumption); (case N => k_asm); (case m => walk_at "my mem")))))
local macro_rules | `(tactic| walk_at "storeName") => `(tactic| (rename Passed 1 => hpz; (with_reducible show wpAny _ _ (storeName (envOfC _ _ _ _ _) _ _) _ _ _); k_dflt (refine' store_loc ?F ?N ?x ?p ?_; (case x => exact rfl); (case p => exact rfl); (case F => k_asm); (case N => k_asm)); have hpz := passed 1; intro h' F' N'; (try k_sweep)))
local macro_rules | `(tactic| walk_at "my room") => `(tactic| first | exact roomC (by decide) | exact roomU (by decide) | (simp only [depth_deeper, depth_caller, units_deeper, units_caller]; decide))
local macro_rules | `(tactic| walk_at "exec Assign cons Tuple") => `(tactic| ((fail_if_success (rename Passed _ => hpz)); refine stopped ?_))
local macro_rules | `(tactic| walk_at "call ref") => `(tactic| (first | (with_reducible show wpAny _ _ (call (Value.ref 173) _) _ _ _)); refine stopped ?_)
local macro_rules | `(tactic| walk_at "call builtin:list.append") => `(tactic| refine stopped ?_)
local macro_rules | `(tactic| walk_at "pyIter ref") => `(tactic| refine stopped ?_)
local macro_rules | `(tactic| walk_at "exec Assign cons ListComp") => `(tactic| (rename Passed 1 => hpz; refine stopped ?_))
local macro_rules | `(tactic| walk_at "exec For Name Call cons nil") => `(tactic| refine stopped ?_)
local macro_rules | `(tactic| walk_at "eval ListComp") => `(tactic| (rename Passed 1 => hpz; refine stopped ?_))
local macro_rules | `(tactic| walk_at "call type:enumerate") => `(tactic| refine stopped ?_)
local macro_rules | `(tactic| walk_at "binaryOp Pow int int") => `(tactic| (rename Passed 2 => hpz; refine stopped ?_))
local macro_rules | `(tactic| walk_at "binaryOp Mult int int") => `(tactic| (rename Passed 2 => hpz; refine stopped ?_))
local macro_rules | `(tactic| walk_at "call builtin:sum") => `(tactic| refine stopped ?_)
local macro_rules | `(tactic| walk_at "my lit") => `(tactic| first | (refine' poly_two ?N ?m ?r1 ?r2; (case N => k_asm); (case m => k_mem); (case r1 => walk_at "my rat"); (case r2 => walk_at "my rat")) | (refine' RatV.ext (Fr.keep ?F) (K_rat ?X ?k); (case X => assumption); (case F => k_asm); (case k => k_is)))
local macro_rules | `(tactic| walk_at "my cmp") => `(tactic| skip)
local macro_rules | `(tactic| walk_at "compareOp NotEq") => `(tactic| refine stopped ?_)
local macro_rules | `(tactic| walk_at "compareOp NotEq ref ref") => `(tactic| refine stopped ?_)
local macro_rules | `(tactic| walk_at "compareOp Eq") => `(tactic| refine stopped ?_)

theorem law1 : PySem.Challenge.rw_tk0017_01.Holds := by
  refine Mine.hd ?_
  k_go0
  all_goals try k_fold
  k_steps
  unfold Stopped
  rename_i la _ _ o1 D _ l1 _ F N
  rename Shared => s1
  rename IntsAre _ (List.map _ _) => hI8
  rename List.length _ = List.length (List.map _ _) => hL8
  rename Frag.In _ _ => KX
  rename Top _ _ _ _ _ _ => T
  rename News _ _ _ _ => N
  have F1 := Fr.pins F (ps := [(Str.ofString "pool", .ref D)]) ⟨rfl, trivial⟩
  obtain ⟨m, F1⟩ : ∃ m, Fr _ _ _ (pinned [(Str.ofString "pool", .ref D)] m) := ⟨_, F1⟩
  clear F
  have hi := (⟨_, _, rfl, ⟨_, N.get (.tail _ (.head _))⟩, hI8, by rw [List.length_map, List.length_take]; omega⟩ : IntsV _ _ _)
  have hmk : ∀ h : Heap, h.get? la = some (LCg.lst ys) → IntsV h (.ref la) _ := fun h e => ⟨la, ys, rfl, ⟨_, e⟩, hI8, by rw [List.length_map, List.length_take]; omega⟩
  have mark := passed 0
  k_steps
  unfold Stopped
  rename Fr _ _ _ _ => F2
  rename News _ _ _ _ => N2
  refine use_draw (spot := 0) (own := _) F2 N2 KX T rfl (roomC (by decide)) (roomU (by decide)) (.head _) (fun p hp => .tail _ hp) ?_ hi (by decide) (by decide) (by decide) ?_
  · exact off_cons (Nat.ne_of_lt l1.1) (off_cons (Nat.ne_of_lt l1.2.1) (off_cons (Nat.ne_of_lt l1.2.2) off_nil))
  intro n u h3 tk3 t3 c3 hn0 hn1 kp3 F3 N3
  obtain ⟨sz, hsz⟩ := nat_of hn0
  have hszb := sz_bnd hsz hn0 hn1
  k_steps
  unfold Stopped
  rename_i lp _ l1p _ _ l2p _ _ h4 oc F4 N4 dc
  rw [hsz] at F4
  have hD : D ≠ s1.heap.objs.size ∧ s1.heap.get? D = none := (N4 _ (.tail _ (.tail _ (.head _)))).2
  have hP : lp ≠ s1.heap.objs.size ∧ s1.heap.get? lp = none := (N4 _ (.tail _ (.head _))).2
  have hDP : D ≠ lp := Nat.ne_of_lt l1p.1
  obtain ⟨K, NK, hKs, hKD, hKP⟩ : ∃ K, News s1.heap s1.heap.objs.size h4 K ∧ (∀ p ∈ [(la, LCg.lst _), (_, listOf _ 0), (s1.heap.objs.size + 1, oc)], p ∈ K) ∧ (∀ p ∈ K, p.1 ≠ D) ∧ (∀ p ∈ K, p.1 ≠ lp) := by
    exact ⟨_, fun p hp => N4 p (.tail _ (.tail _ (.tail _ hp))), fun _ h => h, off_cons (Nat.ne_of_lt l1.1) (off_cons (Nat.ne_of_lt l1.2.1) (off_cons (Nat.ne_of_lt l1.2.2) off_nil)), off_cons (Nat.ne_of_lt l1p.2.1) (off_cons (Nat.ne_of_lt l1p.2.2.1) (off_cons (Nat.ne_of_lt l1p.2.2.2) off_nil))⟩
  refine for_rule K [D, lp] s1.heap (InvOf s1.heap s1.heap.objs.size (LawJ D lp la (.int (sz : Int) tk3) s1.heap s1.heap.objs.size K)) (invOf_fr (env := envOfC _ _ s1.heap.objs.size _ _) _) (invOf_stay (env := envOfC _ _ s1.heap.objs.size _ _) _ ?_) ?_
  · rintro i m h h' x _ ⟨fs, cs, spot, t, hm, hl, hs, hlp, hr, hlen, hc, hN⟩
    exact ⟨fs, cs, spot, t, hm, x.plain hl, hs, x.plain hlp, hr.imp fun _ _ => x.ratV, hlen, hc, x.news hN⟩
  · have Kx : True → News s1.heap s1.heap.objs.size h4 K := fun _ => NK
    clear NK
    k_steps
    unfold Stopped
    rename IsRange _ _ _ _ _ _ _ _ => hR
    rename Fr _ _ _ _ => F5
    rename News _ _ _ _ => N5
    rename ∀ b o, Heap.get? _ b = some o → Heap.get? _ b = some o => hk5
    have e : (sz : Int) = 0 + (sz : Int) := (Int.zero_add _).symm
    have hR := hR
    rw [e] at hR
    have NK5 : News s1.heap s1.heap.objs.size _ K := News.grown (Kx trivial) hk5
    refine for_range _ rfl hR (range_small (by decide) (by decide) (lo_zero (Nat.le_trans hszb.2 (by decide))).1 (lo_zero (Nat.le_trans hszb.2 (by decide))).2) (range_size 0 sz) F5 NK5 ?_ rfl rfl ?_ ?_ ?_
    · intro b hb
      rcases List.mem_cons.mp hb with rfl | hb
      · exact Heap.lt_size (N5.get (.tail _ (.tail _ (.head _))))
      · rw [List.mem_singleton.mp hb]
        exact Heap.lt_size (N5.get (.tail _ (.head _)))
    · intro h' hext
      exact ⟨[], [], 1, t3, ⟨rfl, rfl, trivial⟩, ⟨_, hext _ _ (N5.get (.tail _ (.tail _ (.head _))))⟩, rfl, ⟨_, hext _ _ (N5.get (.tail _ (.head _)))⟩, .nil, rfl, by simp, NK5.grown hext⟩
    · clear F5 N5 hk5 hR NK5 hi
      rintro i t1 m hJ h tk own hin ⟨fs, cs, spot, t, hm, hl, hs, hlp, hr, hlen, hc, hN⟩ FI F N hoff mv kp
      change News s1.heap s1.heap.objs.size h own at N
      change Fr s1.heap s1.heap.objs.size hJ m at FI
      change Fr s1.heap s1.heap.objs.size h _ at F
      rw [← hm.pinned] at F
      have hl2 : h.PlainList D (List.toArray [.ref la, .int ((spot : Nat) : Int) t]) := kp_plain FI kp hl
      have hlp2 : h.PlainList lp (List.toArray fs) := kp_plain FI kp hlp
      have hr2 : All2 (RatV h) fs (whole cs) := hr.imp fun _ _ => kp_rat FI kp
      have hfl : fs.length = cs.length := by have := hr2.length; simpa using this
      have hNK := kp_news kp hN
      obtain ⟨c, hc1⟩ := id hl2
      obtain ⟨c', hc2⟩ := id hlp2
      have hila := hmk h (hNK _ (hKs _ (.head _))).1
      have N6 : News s1.heap s1.heap.objs.size h ((lp, listOf fs.toArray c') :: (s1.heap.objs.size + 1, oc) :: (D, listOf (List.toArray [.ref la, .int ((spot : Nat) : Int) t]) c) :: (own ++ K)) :=
        news_cons ⟨hc2, hP⟩ (news_cons (hNK _ (hKs _ (.tail _ (.tail _ (.head _))))) (news_cons ⟨hc1, hD⟩ (N.append hNK)))
      clear N hNK hl hlp hr mv kp FI hN hc1 hc2
      k_steps
      unfold Stopped
      rename Fr _ _ _ _ => F6
      rename News _ _ _ _ => N6
      have hmem := N6.get (.tail _ (.tail _ (.head _)))
      refine use_draw (spot := spot) (c := c) (own := (lp, listOf fs.toArray c') :: (s1.heap.objs.size + 1, oc) :: (own ++ K)) F6 N6 KX T rfl (roomC (by decide)) (roomU (by decide)) (.tail _ (.tail _ (.head _))) ?_ ?_ hila (spot1 hs hin hszb.2) (by decide) (by decide) ?_
      · exact sub_cons (.head _) (sub_cons (.tail _ (.head _)) fun _ hp => .tail _ (.tail _ (.tail _ hp)))
      · exact off_cons hDP.symm (off_cons (hKD _ (hKs _ (.tail _ (.tail _ (.head _))))) (off_app (fun p hp q => hoff p hp (by rw [q]; exact .head _)) hKD))
      intro n2 u2 h7 tk7 t7 c7 hn0 hn1 kp7 F7 N7
      have hr7 : All2 (RatV h7) fs (whole cs) := hr2.imp fun _ _ => but_rat hl2 kp7
      have mv7 : Mover [] s1.heap s1.heap.objs.size (newOf s1.heap h7 [s1.heap.objs.size]) h7 := newOf_mover (M := []) F7
      have N8 : News s1.heap s1.heap.objs.size h7 ((D, listOf (List.toArray [.ref la, .int ((spot + 1 : Nat) : Int) t7]) c7) :: (lp, listOf fs.toArray c') :: (s1.heap.objs.size + 1, oc) :: (own ++ (K ++ newOf s1.heap h7 [s1.heap.objs.size]))) :=
        news_cons (N7 _ (.head _)) (news_cons (N7 _ (.tail _ (.head _))) (news_cons (N7 _ (.tail _ (.tail _ (.head _)))) (News.append (fun p hp => N7 p (.tail _ (.tail _ (.tail _ (List.mem_append_left _ hp))))) (News.append (fun p hp => N7 p (.tail _ (.tail _ (.tail _ (List.mem_append_right _ hp))))) (newOf_news (M := []))))))
      clear N7 N6 hmem hl2 hlp2 hr2 hila kp7
      k_steps
      unfold Stopped
      rename Fr _ _ _ _ => F8
      rename News _ _ _ _ => N9
      refine append_my (own := (D, listOf (List.toArray [.ref la, .int ((spot + 1 : Nat) : Int) t7]) c7) :: (own ++ K)) (vs := fs) ⟨c', N9.get (by walk_at "my mem")⟩ (len_lt (hfl.trans hlen) hin hszb.2) F8 N9 hP ?_ ?_ ?_
      · exact fun p hp q => off_cons hDP (off_app (fun p hp q => hoff p hp (by rw [q]; exact .tail _ (.head _))) hKP) p hp (List.mem_singleton.mp q)
      · exact sub_cons (by walk_at "my mem") (sub_app (by walk_at "my sub") (by walk_at "my sub"))
      intro h9 F9 N10 hl9 sb
      have hlp8 : Heap.PlainList _ lp fs.toArray := ⟨c', N9.get (by walk_at "my mem")⟩
      have hr8 := hr7.imp fun _ _ y => sb_rat hlp8 sb (rat_mv mv7 F8 N9 (by walk_at "my sub") y)
      have hnew := sb_rat hlp8 sb (rat_news N9 (.head _))
      k_steps
      refine turn_end F9 N10 (fun p hp => .tail _ (List.mem_append_left _ hp)) ?_
      refine ⟨_, cs ++ [n2 - 3], spot + 1, t7, ⟨rfl, rfl, trivial⟩, ⟨c7, N10.get (.head _)⟩, spot_up hs, hl9, ?_, by rw [List.length_append, hlen]; rfl, ?_, fun p hp => N10 p (.tail _ (List.mem_append_right _ hp))⟩
      · rw [whole, List.map_append]
        exact All2.snoc hr8 hnew
      · intro x hx
        rcases List.mem_append.mp hx with hx | hx
        · exact hc x hx
        · rw [List.mem_singleton.mp hx]
          exact draw7 hn0 hn1
    · clear F5 N5 hk5 hR NK5 hi
      rintro m h tk own ⟨fs, cs, spot, t, hm, hl2, hs, hlp2, hr2, hlen, hc, hN⟩ F N mv
      replace F : Fr s1.heap s1.heap.objs.size h _ := Fr.pins F hm
      have hfl : fs.length = cs.length := by have := hr2.length; simpa using this
      obtain ⟨c, hc1⟩ := id hl2
      obtain ⟨c', hc2⟩ := id hlp2
      have hila := hmk h (hN _ (hKs _ (.head _))).1
      have N6 : News s1.heap s1.heap.objs.size h ((lp, listOf fs.toArray c') :: (s1.heap.objs.size + 1, oc) :: (D, listOf (List.toArray [.ref la, .int ((spot : Nat) : Int) t]) c) :: K) :=
        news_cons ⟨hc2, hP⟩ (news_cons (hN _ (hKs _ (.tail _ (.tail _ (.head _))))) (news_cons ⟨hc1, hD⟩ hN))
      clear N mv hN hc1 hc2
      k_steps
      unfold Stopped
      rename Fr _ _ _ _ => F6
      rename News _ _ _ _ => N6
      refine use_draw (spot := spot) (c := c) (own := (lp, listOf fs.toArray c') :: (s1.heap.objs.size + 1, oc) :: K) F6 N6 KX T rfl (roomC (by decide)) (roomU (by decide)) (.tail _ (.tail _ (.head _))) ?_ ?_ hila (spot2 hs hszb.2) (by decide) (by decide) ?_
      · exact sub_cons (.head _) (sub_cons (.tail _ (.head _)) fun _ hp => .tail _ (.tail _ (.tail _ hp)))
      · exact off_cons hDP.symm (off_cons (hKD _ (hKs _ (.tail _ (.tail _ (.head _))))) hKD)
      intro n2 u2 h7 tk7 t7 c7 hn0 hn1 kp7 F7 N7
      have hr7 : All2 (RatV h7) fs (whole cs) := hr2.imp fun _ _ => but_rat hl2 kp7
      have mv7 : Mover [] s1.heap s1.heap.objs.size (newOf s1.heap h7 [s1.heap.objs.size]) h7 := newOf_mover (M := []) F7
      have N8 : News s1.heap s1.heap.objs.size h7 ((D, listOf (List.toArray [.ref la, .int ((spot + 1 : Nat) : Int) t7]) c7) :: (lp, listOf fs.toArray c') :: (s1.heap.objs.size + 1, oc) :: (K ++ newOf s1.heap h7 [s1.heap.objs.size])) :=
        news_cons (N7 _ (.head _)) (news_cons (N7 _ (.tail _ (.head _))) (news_cons (N7 _ (.tail _ (.tail _ (.head _)))) (News.append (fun p hp => N7 p (.tail _ (.tail _ (.tail _ hp)))) (newOf_news (M := [])))))
      clear N7 N6 hl2 hlp2 hr2 hila kp7
      k_steps
      unfold Stopped
      rename Fr _ _ _ _ => F8
      rename News _ _ _ _ => N9
      refine append_my (own := K) (vs := fs) ⟨c', N9.get (by walk_at "my mem")⟩ (len_le (hfl.trans hlen) hszb.2) F8 N9 hP (fun p hp q => hKP p hp (List.mem_singleton.mp q)) ?_ ?_
      · walk_at "my sub"
      intro h9 F9 N10 hl9 sb
      have hlp8 : Heap.PlainList _ lp fs.toArray := ⟨c', N9.get (by walk_at "my mem")⟩
      have hr8 := hr7.imp fun _ _ y => sb_rat hlp8 sb (rat_mv mv7 F8 N9 (by walk_at "my sub") y)
      have hnew := sb_rat hlp8 sb (rat_news N9 (.head _))
      have hp9 : PolyV h9 (.ref lp) (whole (cs ++ [1 + n2])) := ⟨lp, _, rfl, hl9, by rw [whole, List.map_append]; exact All2.snoc hr8 hnew, Nat.le_trans (whole_len hlen hszb.2) (by decide)⟩
      have N11 : News s1.heap s1.heap.objs.size h9 ((s1.heap.objs.size + 1, oc) :: newOf s1.heap h9 [s1.heap.objs.size]) := news_cons (N10 _ (hKs _ (.tail _ (.tail _ (.head _))))) (newOf_news (M := []))
      have mv9 : Mover [] s1.heap s1.heap.objs.size (newOf s1.heap h9 [s1.heap.objs.size]) h9 := newOf_mover (M := []) F9
      have hlaw := law_facts (cs := cs) (lead := 1 + n2) (by rw [hlen]; exact hszb.1) (by rw [hlen]; exact hszb.2) hc (lead_lo hn0) (lead_hi hn1)
      obtain ⟨row, whole0, wh, ha, on, told, w1, v3, c1, tt1, w2, c2, e1, e2, e3, e4, e5, e6, e7, e8, e9, e10, q1, q2, q3, q4, hc49⟩ := hlaw
      rw [List.length_append, List.length_singleton, show cs.length + 1 - 1 + 1 = sz + 1 by rw [Nat.add_sub_cancel, hlen]] at e1 e3
      clear N10 hl9 sb hr8 hnew hlp8 hr7 mv7 N9 F8
      have mark1 := passed 1
      k_steps
      unfold Stopped
      rename_i vw hA _ _ hpw _ mvw _ _ vh hB _ _ hph _ mvh _ _ _ _ _ _ _ _ _ h12 F12 N12
      rename PolyV _ _ row => hrow
      obtain ⟨ar, rv, rfl, hrl, hrr, hrn⟩ := hrow
      have hpw2 : PolyV h12 vw whole0 := poly_mv mvw F12 N12 (by walk_at "my sub") hpw
      have hph2 : PolyV h12 vh whole0 := poly_mv mvh F12 N12 (by walk_at "my sub") hph
      have hpp2 : PolyV h12 (.ref lp) (whole (cs ++ [1 + n2])) := poly_mv mv9 F12 N12 (by walk_at "my sub") hp9
      obtain ⟨K2, NK2, hKs2⟩ := news_ex3 N12
      refine for_rule K2 [] s1.heap (InvOf s1.heap s1.heap.objs.size (LawK ar sz tk3 row (wh, ha, on) s1.heap s1.heap.objs.size K2)) (invOf_fr (env := envOfC _ _ s1.heap.objs.size _ _) _) (invOf_stay (env := envOfC _ _ s1.heap.objs.size _ _) _ ?_) ?_
      · rintro i m h h' x _ ⟨by0, tb, vw, wh, vh, ha, vs, sl, vo, on, hm, h1, h2, h3, h4, hN, hq⟩
        exact ⟨by0, tb, vw, wh, vh, ha, vs, sl, vo, on, hm, x.polyV h1, x.polyV h2, x.polyV h3, x.polyV h4, x.news hN, hq⟩
      · have Kx2 : True → News s1.heap s1.heap.objs.size h12 K2 := fun _ => NK2
        clear NK2
        k_steps
        unfold Stopped
        rename IsRange _ _ _ _ _ _ _ _ => hR
        rename Fr _ _ _ _ => F5
        rename News _ _ _ _ => N5
        rename ∀ b o, Heap.get? _ b = some o → Heap.get? _ b = some o => hk5
        have e : (sz : Int) + 2 = 1 + ((sz + 1 : Nat) : Int) := ar_two sz
        have hR := hR
        rw [e] at hR
        have NK5 : News s1.heap s1.heap.objs.size _ K2 := News.grown (Kx2 trivial) hk5
        refine for_range _ rfl hR (range_small (by decide) (by decide) (lo_one (Nat.le_trans (Nat.succ_le_succ hszb.2) (by decide))).1 (lo_one (Nat.le_trans (Nat.succ_le_succ hszb.2) (by decide))).2) (range_size 1 (sz + 1)) F5 NK5 (fun _ q => nomatch q) rfl rfl ?_ ?_ ?_
        · intro h' hext
          exact ⟨1, _, vw, whole0, vh, whole0, .ref lp, _, .ref lp, _, ⟨rfl, rfl, rfl, rfl, rfl, rfl, rfl, trivial⟩, hpw2.ext (Ext.trans hk5 hext), hph2.ext (Ext.trans hk5 hext), hpp2.ext (Ext.trans hk5 hext), hpp2.ext (Ext.trans hk5 hext), NK5.grown hext, e3⟩
        · clear NK5 hk5 hR F5 N5 hpw2 hph2 hpp2
          rintro i t1 m hJ h tk own hin ⟨by0, tb, vw, wh1, vh, ha1, vs, sl1, vo, on1, hm, g1, g2, g3, g4, hN, hq⟩ FI F N hoff mv kp
          change News s1.heap s1.heap.objs.size h own at N
          change Fr s1.heap s1.heap.objs.size hJ m at FI
          change Fr s1.heap s1.heap.objs.size h _ at F
          change Mover [] s1.heap s1.heap.objs.size own hJ at mv
          rw [← hm.pinned] at F
          have hNK := kp_news kp hN
          have NE : News s1.heap s1.heap.objs.size h _ := fun p hp => hNK p (hKs2 p hp)
          have hrl2 : h.PlainList ar rv.toArray := plain_mv (by assumption) F NE (by walk_at "my sub") hrl
          have hrr2 : All2 (RatV h) rv row := hrr.imp fun _ _ => rat_mv (by assumption) F NE (by walk_at "my sub")
          have N6 := N.append (hNK.append (newOf_news (h := h) (M := [])))
          have mvH : Mover [] s1.heap s1.heap.objs.size (newOf s1.heap h [s1.heap.objs.size]) h := newOf_mover (M := []) F
          obtain ⟨j, hj⟩ := ar_left hin
          rw [hj] at hq
          obtain ⟨b, r1, z1, wh2, r2, z2, ha2, sl2, z3, on2, f0, f1, f2, f3, f4, f5, f6, f7, f8, f9, f10, f11, f12, f13, f14, hq⟩ := hq
          have hcast : ((1 + i : Nat) : Int) = 1 + (i : Int) := cast1 i
          rw [hcast] at f2 f5 f6 f9 f13 hq
          obtain ⟨vb, hvb, xb, tb1, tb2, rfl, htb⟩ := hrr2.get f0
          replace hvb : rv[(1 + (i : Int)).toNat]? = some (.ref xb) := by rw [show (1 + (i : Int)).toNat = 1 + i from (ar_to i).trans (Nat.add_comm _ _)]; exact hvb
          simp only [smQ, Bool.and_eq_true] at f3
          have u1 := sm_bits f1
          have u2 := sm_bits f2
          have u3 := sm_bits f3.1
          have u4 := sm_bits f3.2
          have u5 := sm_bits f4
          have u6 := sm_bits f5
          have p1 : (b.2 * (by0 * (1 + (i : Int)))).natAbs < 2 ^ 200 := Nat.lt_trans (sm_lt f5) (by decide)
          have ra := row_lo i
          have rb := row_hi (i_le hin hszb.2)
          have p2 := mul_small (i := i) f5 (i_le hin hszb.2)
          rw [show 1 + i = (1 + (i : Int)).toNat from ((ar_to i).trans (Nat.add_comm _ _)).symm] at f9
          clear N hNK hN kp FI NE hrl hrr hrr2
          k_steps
          refine turn_end (by k_asm) (by k_asm) (by walk_at "my sub") ?_
          rename Fr _ _ _ _ => F7
          rename News _ _ _ _ => N7
          refine ⟨by0 * (1 + (i : Int)), _, _, wh2, _, ha2, _, sl2, _, on2, ⟨rfl, rfl, rfl, rfl, rfl, rfl, rfl, trivial⟩, by walk_at "my poly", by walk_at "my poly", by walk_at "my poly", by walk_at "my poly", fun p hp => N7 p (by walk_at "my in"), ?_⟩
          rw [show sz + 1 - (i + 1) = j from ar_up hj, show 1 + (i + 1) = 1 + i + 1 from rfl]
          exact hq
        · clear NK5 hk5 hR F5 N5 hpw2 hph2 hpp2
          rintro m h tk own ⟨by0, tb, vw, wh1, vh, ha1, vs, sl1, vo, on1, hm, g1, g2, g3, g4, hN, hq⟩ F N mv
          change News s1.heap s1.heap.objs.size h own at N
          change Mover [] s1.heap s1.heap.objs.size own h at mv
          replace F : Fr s1.heap s1.heap.objs.size h _ := Fr.pins F (ps := [(Str.ofString "whole", vw), (Str.ofString "halves", vh), (Str.ofString "onward", vo)]) ⟨hm.2.2.2.1, hm.2.2.2.2.1, hm.2.2.2.2.2.2.1, trivial⟩
          have NE : News s1.heap s1.heap.objs.size h _ := N.append fun p hp => hN p (hKs2 p hp)
          have hp9 := poly_mv mv9 F NE (by walk_at "my sub") hp9
          have N6 : News s1.heap s1.heap.objs.size h ((s1.heap.objs.size + 1, oc) :: newOf s1.heap h [s1.heap.objs.size]) := news_cons (NE (s1.heap.objs.size + 1, oc) (by walk_at "my mem")) (newOf_news (M := []))
          clear mv mv9
          have mv : Mover [] s1.heap s1.heap.objs.size (newOf s1.heap h [s1.heap.objs.size]) h := newOf_mover (M := []) F
          rw [Nat.sub_self] at hq
          have hq : (wh1, ha1, on1) = (wh, ha, on) := hq
          cases hq
          have hl49 : (whole (cs ++ [1 + n2])).length ≤ 49 := Nat.le_trans (whole_len hlen hszb.2) (by decide)
          clear N hN NE
          k_steps
          rename Fr _ _ _ _ => F13
          refine' comp_assignC F13 (fun y (b : Int) => ∃ t, y = .int b t) ((List.range 3).map fun i => valAt (cs ++ [1 + n2]) ((i : Nat) : Int)) ?hsw ?hclos ?hc1 ?hc2 ?hx ?hkind ?hnames ?hy ?hp ?_ ?hs
          (case hsw => with_unfolding_all rfl)
          (case hclos => with_unfolding_all rfl)
          (case hc1 => exact fun _ => rfl)
          (case hc2 => exact fun _ => rfl)
          (case hx => exact rfl)
          (case hkind => with_unfolding_all rfl)
          (case hnames => decide)
          (case hy => with_unfolding_all rfl)
          (case hp => with_unfolding_all rfl)
          (case hs => intro _; with_unfolding_all rfl)
          k_steps
          unfold Stopped
          rename IsRange _ _ _ _ _ _ _ _ => hR
          rename Fr _ _ _ _ => FV
          rename News _ _ _ _ => NV
          rename PolyV _ _ told => gt
          have gtV := poly_mv (by assumption) FV NV (by walk_at "my sub") gt
          have g1V := poly_mv mv FV NV (by walk_at "my sub") g1
          have g2V := poly_mv mv FV NV (by walk_at "my sub") g2
          have g4V := poly_mv mv FV NV (by walk_at "my sub") g4
          have gpV := poly_mv mv FV NV (by walk_at "my sub") hp9
          have hcp : Heap.IsCell _ (s1.heap.objs.size + 1) (some (.ref lp)) := ⟨oc, NV.get (by walk_at "my mem"), dc⟩
          have hocV := NV (s1.heap.objs.size + 1, oc) (by walk_at "my mem")
          have hcb : ∀ c ∈ cs ++ [1 + n2], -3 ≤ c ∧ c ≤ 3 := fun c hx => by
            rcases List.mem_append.mp hx with hx | hx
            · exact hc c hx
            · rw [List.mem_singleton.mp hx]; exact lead_b hn0 hn1
          have hlen4 : (cs ++ [1 + n2]).length ≤ 4 := by have := whole_len (x := 1 + n2) hlen hszb.2; rwa [List.length_map] at this
          obtain ⟨_, fs10, e10', hl10, hr10, hn10⟩ := id gpV
          cases e10'
          have hlen10 : fs10.length = (cs ++ [1 + n2]).length := by have := hr10.length; simpa using this
          refine comp_rangeC rfl hR (range_small (by decide) (by decide) (by decide) (by decide)) (by rw [List.length_map, List.length_range]; rfl) (by rw [List.length_map, List.length_range]; simp only [sizeLine_eq]; omega) ?_ ?_
          · intro i b t C c o hh tk mm own E' hb ho FC NC
            have Xb := KX.keeps FV.keep
            have Tb := T.keeps FV.keep
            rw [show (0 : Int) + (i : Int) = (i : Int) from Int.zero_add _] at ho
            k_steps
            unfold Stopped
            refine' comp_rule (fun _ y (b : Int) => ∃ t, y = .int b t) (fun _ _ _ _ _ x => x) ((cs ++ [1 + n2]).zipIdx.map fun c => c.1 * ((i : Nat) : Int) ^ c.2) ?hclos ?hcell ?hkind ?hnames ?_ ?hs
            ((case' hclos => with_unfolding_all rfl); (case' hcell => decide); (case' hkind => with_unfolding_all rfl); (case' hnames => decide); (case' hs => (intro _; with_unfolding_all rfl)))
            k_steps
            unfold Stopped
            rename Fr _ C _ _ => FI
            rename News _ C _ _ => NI
            have hcat : Heap.IsCell _ c (some (.int (i : Int) t)) := ⟨o, NI.get (.head _), ho⟩
            have hrI := hr10.imp fun _ _ => RatV.ext FI.keep
            have hlI := plain_at FI hl10
            refine comp_enum rfl hlI (by rw [List.length_map, List.length_zipIdx]; exact hlen10) (by rw [List.length_map, List.length_zipIdx]; exact size4 hlen4) rfl rfl rfl ?_ ?_
            · intro j b2 v t2 C2 h2 tk2 m2 own2 E2 hb2 hv2 FC2 NC2
              obtain ⟨q, hq, hRq⟩ := hrI.get' hv2
              obtain ⟨cc, hcc, rfl⟩ : ∃ cc, (cs ++ [1 + n2])[j]? = some cc ∧ q = (cc, 1) := by
                rw [List.getElem?_map] at hq
                obtain ⟨cc, hcc, e⟩ := Option.map_eq_some_iff.mp hq
                exact ⟨cc, hcc, e.symm⟩
              have hb3 : b2 = cc * ((i : Nat) : Int) ^ j := by
                simp only [List.getElem?_map, List.getElem?_zipIdx, hcc, Option.map_some, Option.some.injEq, Nat.zero_add] at hb2
                exact hb2.symm
              have hcc3 := hcb cc (List.mem_of_getElem? hcc)
              have hj4 : j < 4 := Nat.lt_of_lt_of_le (List.getElem?_eq_some_iff.mp hcc).1 hlen4
              have hi3 : i < 3 := by have := (List.getElem?_eq_some_iff.mp hb).1; simpa using this
              obtain ⟨aq, tq, uq, rfl, hT⟩ := hRq
              have pj1 : (0 : Int) ≤ (j : Int) := Int.natCast_nonneg j
              have pj2 := pow_hi hj4
              have pi3 := base_b hi3
              have pc3 := coef_b hcc3
              have mark2 := passed 2
              k_steps
              unfold Stopped
              k_dflt (refine' powC_my ?p1 ?p2 ?p3 ?_; (case p1 | p2 | p3 => assumption))
              intro t19
              have mark22 := passed 2
              dsimp only
              k_steps
              unfold Stopped
              k_dflt (refine' mulC_my ?p33 ?_; (case p33 => assumption))
              intro t20
              have mark23 := passed 2
              dsimp only
              k_steps
              exact elt_end (by k_asm) (by k_asm) (by walk_at "my sub") ⟨_, by rw [hb3, Int.toNat_natCast]⟩
            · intro _ _ D h' tk ys hD hys hext hnew
              have FD := FI.keeps hext
              have ND := News.grown NI hext
              have hbs : b = valAt (cs ++ [1 + n2]) ((i : Nat) : Int) := by
                have hi3 : i < 3 := by have := (List.getElem?_eq_some_iff.mp hb).1; simpa using this
                rw [List.getElem?_map, List.getElem?_range hi3] at hb
                exact (Option.some.inj hb).symm
              clear FI NI
              k_steps
              unfold Stopped
              k_dflt (refine' sumC_my rfl ?F ?N ?l ?i ?_; (case i => assumption); (case l => walk_at "my plain"); (case F | N => k_asm))
              intro h19 tk19 t19 F19 N19
              try k_sweep
              k_steps
              exact elt_end (by k_asm) (by k_asm) (by walk_at "my sub") ⟨_, by rw [hbs]; rfl⟩
          · intro _ _
            refine ⟨FV.ns, ?_⟩
            intro D h' tk ys hD hys hns hext hnew
            have FD : Fr s1.heap s1.heap.objs.size h' _ := ⟨hns, fun b o e => hext b o (Nat.ne_of_lt (Heap.lt_size e)) (FV.keep b o e), FV.above⟩
            have ND : News s1.heap s1.heap.objs.size h' ((s1.heap.objs.size + 1, oc) :: newOf s1.heap h' [s1.heap.objs.size]) := news_cons ⟨hext _ _ hocV.2.1 hocV.1, hocV.2⟩ (newOf_news (M := []))
            have mvD : Mover [] s1.heap s1.heap.objs.size (newOf s1.heap h' [s1.heap.objs.size]) h' := newOf_mover (M := []) FD
            have gtV := kp_poly FV hext gtV
            have g1V := kp_poly FV hext g1V
            have g2V := kp_poly FV hext g2V
            have g4V := kp_poly FV hext g4V
            have gpV := kp_poly FV hext gpV
            have q2 : v3 = (((List.range 3).map fun i => valAt (cs ++ [1 + n2]) ((i : Nat) : Int)).sum, 1) := by rw [q2, sum3]
            clear FV NV hcp hr10 hl10 hocV gt g1 g2 g3 g4 hp9
            have mark3 := passed 3
            k_steps
            unfold Stopped
            k_dflt (first | (refine' ne_polyF ?a1 ?b1 ?e1 ?u1 ?_; (case a1 | b1 => walk_at "my val"); (case e1 => assumption); (case u1 => walk_at "my room")) | (refine' ne_ratF ?a1 ?b1 ?e1 ?u1 ?_; (case a1 | b1 => walk_at "my val"); (case e1 => assumption); (case u1 => walk_at "my room")))
            k_steps
            unfold Stopped
            k_dflt (refine' sumC_my rfl ?F ?N ?l ?i ?_; (case i => assumption); (case l => walk_at "my plain"); (case F | N => k_asm))
            intro h19 tk19 t19 F19 N19
            try k_sweep
            k_steps
            unfold Stopped
            k_dflt (first | (refine' ne_polyF ?a2 ?b2 ?e2 ?u2 ?_; (case a2 | b2 => walk_at "my val"); (case e2 => assumption); (case u2 => walk_at "my room")) | (refine' ne_ratF ?a2 ?b2 ?e2 ?u2 ?_; (case a2 | b2 => walk_at "my val"); (case e2 => assumption); (case u2 => walk_at "my room")))
            k_steps
            unfold Stopped
            k_dflt (first | (refine' ne_polyF ?a3 ?b3 ?e3 ?u3 ?_; (case a3 | b3 => walk_at "my val"); (case e3 => assumption); (case u3 => walk_at "my room")) | (refine' ne_ratF ?a3 ?b3 ?e3 ?u3 ?_; (case a3 | b3 => walk_at "my val"); (case e3 => assumption); (case u3 => walk_at "my room")))
            k_steps
            unfold Stopped
            k_dflt (refine' eq_polyT ?a4 ?b4 ?e4 ?u4 ?_; (case a4 | b4 => walk_at "my val"); (case e4 => assumption); (case u4 => walk_at "my room"))
            k_steps
end

end Mine
end

set_option maxHeartbeats 8000000 in
theorem PySem.Challenge.cw_tk0017_01_holds : PySem.Challenge.rw_tk0017_01.Holds := by
  exact Mine.law1
