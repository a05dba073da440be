import PyProof.Rows.All
import Wide.All
import OpenK.AllK
import Wide.FinOn
import KE.KDictOf
import KE.KDictSum
import Lean
import PySem.Challenge.RW_pq0055_02
set_option Elab.async false
set_option linter.all false
noncomputable section PartA1
open PySem PySem.W PyProof.Rows
set_option maxRecDepth 20000
namespace Mine

set_option genInjectivity false in
set_option genSizeOf false in
set_option genSizeOfSpec false in
structure G where
  prog : Program
  w : World
  K : Frag
  h₀ : Heap
  os₀ : OsState
  p : Program
  loose : List Str
  mean : ExcName → Option Value
  mg : Str → Option Value
  mb : Str → Option Value
  X : K.In h₀
  T : Top p loose mean mg mb h₀

abbrev G.M (g : G) : Model := model g.prog g.w

inductive V where
  | ref (i : Nat)
  | dat (d : PyData)

inductive Slot where
  | list (xs : List PyData)
  | sdict (kvs : List (Str × V))
  | tdict (kvs : List (List Int × V))
  | odict (attrs : List (Str × V))
  | inst (C : Addr) (j : Nat)

mutual
def Rd (μ : List Addr) (h : Heap) : PyData → Value → Prop
  | .none, w => w = .none
  | .bool b, w => w = .bool b
  | .int i, w => ∃ t, w = .int i t
  | .str x, w => ∃ t, w = .str x t
  | .tuple xs, w => ∃ a vs n, w = .ref a ∧ a ∉ μ ∧ IsT h a vs n ∧ vs.size ≤ sizeLine ∧ Rds μ h xs vs.toList
  | .list xs, w => ∃ a vs n, w = .ref a ∧ a ∉ μ ∧ IsL h a vs n ∧ vs.size ≤ sizeLine ∧ Rds μ h xs vs.toList
  | .dict _, _ => False
def Rds (μ : List Addr) (h : Heap) : List PyData → List Value → Prop
  | [], ws => ws = []
  | d :: ds, ws => ∃ w r, ws = w :: r ∧ Rd μ h d w ∧ Rds μ h ds r
end

def VR (μ : List Addr) (h : Heap) : V → Value → Prop
  | .ref i, w => ∃ a, w = .ref a ∧ μ[i]? = some a
  | .dat d, w => Rd μ h d w

inductive VRs (μ : List Addr) (h : Heap) : List V → List Value → Prop
  | nil : VRs μ h [] []
  | cons {v vs w ws} : VR μ h v w → VRs μ h vs ws → VRs μ h (v :: vs) (w :: ws)

/-- growth of the store while an expression is worked out -/
structure Ext (μ : List Addr) (h : Heap) (μ' : List Addr) (h' : Heap) : Prop where
  pre : ∃ ν, μ' = μ ++ ν ∧ ∀ a ∈ ν, a ∉ μ ∧ h.get? a = none
  keep : ∀ a o, a ∉ μ → h.get? a = some o → h'.get? a = some o

theorem none_of_keep {h h' : Heap} {a : Addr} (k : ∀ o, h.get? a = some o → h'.get? a = some o) (e : h'.get? a = none) : h.get? a = none := by
  cases q : h.get? a with
  | none => rfl
  | some o => rw [k o q] at e; cases e
theorem Ext.refl {μ : List Addr} {h : Heap} : Ext μ h μ h := ⟨⟨[], by simp, by simp⟩, fun _ _ _ e => e⟩
theorem Ext.notin {μ μ' : List Addr} {h h' : Heap} (x : Ext μ h μ' h') {a : Addr} {o : Obj} (hn : a ∉ μ) (hl : h.get? a = some o) : a ∉ μ' := by
  obtain ⟨⟨ν, rfl, n⟩, k⟩ := x
  intro hm
  rcases List.mem_append.mp hm with q | q
  · exact hn q
  · rw [(n a q).2] at hl; cases hl
theorem Ext.trans {μ₁ μ₂ μ₃ : List Addr} {h₁ h₂ h₃ : Heap} (x : Ext μ₁ h₁ μ₂ h₂) (y : Ext μ₂ h₂ μ₃ h₃) : Ext μ₁ h₁ μ₃ h₃ := by
  have nx := fun a o => @Ext.notin _ _ _ _ x a o
  obtain ⟨⟨ν₁, rfl, n1⟩, k1⟩ := x
  obtain ⟨⟨ν₂, rfl, n2⟩, k2⟩ := y
  refine ⟨⟨ν₁ ++ ν₂, by simp, fun a ha => ?_⟩, fun a o hn e => k2 a o (nx a o hn e) (k1 a o hn e)⟩
  rcases List.mem_append.mp ha with q | q
  · exact n1 a q
  · obtain ⟨h1, h2⟩ := n2 a q
    have hn : a ∉ μ₁ := fun hm => h1 (List.mem_append_left _ hm)
    exact ⟨hn, none_of_keep (fun o e => k1 a o hn e) h2⟩
/-- plain growth: nothing that was there changes -/
theorem Ext.of_keep {μ : List Addr} {h h' : Heap} (k : ∀ a o, h.get? a = some o → h'.get? a = some o) : Ext μ h μ h' :=
  ⟨⟨[], by simp, by simp⟩, fun a o _ e => k a o e⟩

theorem IsTuple.at' {h h' : Heap} {a : Addr} {vs : Array Value} (x : h.IsTuple a vs) (k : ∀ o, h.get? a = some o → h'.get? a = some o) : h'.IsTuple a vs :=
  let ⟨o, e, r⟩ := x; ⟨o, k o e, r⟩
theorem IsList.at' {h h' : Heap} {a : Addr} {vs : Array Value} (x : h.IsList a vs) (k : ∀ o, h.get? a = some o → h'.get? a = some o) : h'.IsList a vs :=
  let ⟨o, e, r⟩ := x; ⟨o, k o e, r⟩

/-- what must hold for frozen values to live on -/
structure Lives (μ : List Addr) (h : Heap) (μ' : List Addr) (h' : Heap) : Prop where
  seq : ∀ a o vs n, a ∉ μ → h.get? a = some o → o.data = .seq vs n → a ∉ μ' ∧ h'.get? a = some o
theorem Lives.tup {μ μ' : List Addr} {h h' : Heap} (x : Lives μ h μ' h') (a : Addr) (vs : Array Value) (hn : a ∉ μ) (ht : h.IsTuple a vs) : a ∉ μ' ∧ h'.IsTuple a vs :=
  let ⟨o, e, hc, n, hd⟩ := ht; ⟨(x.seq a o vs n hn e hd).1, o, (x.seq a o vs n hn e hd).2, hc, n, hd⟩
theorem Lives.tx {μ μ' : List Addr} {h h' : Heap} (x : Lives μ h μ' h') (a : Addr) (vs : Array Value) (n : Nat) (hn : a ∉ μ) (ht : IsT h a vs n) : a ∉ μ' ∧ IsT h' a vs n := x.seq a _ vs n hn ht rfl
theorem Lives.lst {μ μ' : List Addr} {h h' : Heap} (x : Lives μ h μ' h') (a : Addr) (vs : Array Value) (n : Nat) (hn : a ∉ μ) (ht : IsL h a vs n) : a ∉ μ' ∧ IsL h' a vs n := x.seq a _ vs n hn ht rfl
theorem isTup {h : Heap} {a : Addr} {vs : Array Value} {n : Nat} (x : IsT h a vs n) : h.IsTuple a vs := ⟨_, x, rfl, n, rfl⟩

mutual
theorem Rd.lives {μ μ' : List Addr} {h h' : Heap} (x : Lives μ h μ' h') : ∀ (d : PyData) (w : Value), Rd μ h d w → Rd μ' h' d w
  | .none, _, e => by simpa only [Rd] using e
  | .bool _, _, e => by simpa only [Rd] using e
  | .int _, _, e => by simpa only [Rd] using e
  | .str _, _, e => by simpa only [Rd] using e
  | .tuple xs, w, e => by
    rw [Rd] at e ⊢
    obtain ⟨a, vs, n, rfl, hn, ht, hs, hr⟩ := e
    obtain ⟨hn', ht'⟩ := x.tx a vs n hn ht
    exact ⟨a, vs, n, rfl, hn', ht', hs, Rds.lives x xs _ hr⟩
  | .list xs, w, e => by
    rw [Rd] at e ⊢
    obtain ⟨a, vs, n, rfl, hn, ht, hs, hr⟩ := e
    obtain ⟨hn', ht'⟩ := x.lst a vs n hn ht
    exact ⟨a, vs, n, rfl, hn', ht', hs, Rds.lives x xs _ hr⟩
  | .dict _, _, e => by rw [Rd] at e; exact e.elim
theorem Rds.lives {μ μ' : List Addr} {h h' : Heap} (x : Lives μ h μ' h') : ∀ (ds : List PyData) (ws : List Value), Rds μ h ds ws → Rds μ' h' ds ws
  | [], _, e => by simpa only [Rds] using e
  | d :: ds, ws, e => by
    rw [Rds] at e ⊢
    obtain ⟨w, r, rfl, e1, e2⟩ := e
    exact ⟨w, r, rfl, Rd.lives x d w e1, Rds.lives x ds r e2⟩
end

theorem Ext.lives {μ μ' : List Addr} {h h' : Heap} (x : Ext μ h μ' h') : Lives μ h μ' h' :=
  ⟨fun a o vs n hn e _ => ⟨x.notin hn e, x.keep a o hn e⟩⟩
theorem Ext.get {μ μ' : List Addr} {h h' : Heap} (x : Ext μ h μ' h') {i : Nat} {a : Addr} (e : μ[i]? = some a) : μ'[i]? = some a := by
  obtain ⟨⟨ν, rfl, n⟩, k⟩ := x
  rw [List.getElem?_append_left (List.getElem?_eq_some_iff.mp e).1]; exact e
theorem VR.ext {μ μ' : List Addr} {h h' : Heap} (x : Ext μ h μ' h') {v : V} {w : Value} (e : VR μ h v w) : VR μ' h' v w := by
  cases v with
  | ref i => obtain ⟨a, rfl, e⟩ := e; exact ⟨a, rfl, x.get e⟩
  | dat d => exact Rd.lives x.lives d w e
theorem VRs.ext {μ μ' : List Addr} {h h' : Heap} (x : Ext μ h μ' h') {vs : List V} {ws : List Value} (e : VRs μ h vs ws) : VRs μ' h' vs ws := by
  induction e with
  | nil => exact .nil
  | cons a _ ih => exact .cons (a.ext x) ih

/-- pairs of a table keyed by strings -/
inductive SPairs (μ : List Addr) (h : Heap) : List (Str × V) → List (Str × Value) → Prop
  | nil : SPairs μ h [] []
  | cons {k v w kvs kws} : VR μ h v w → SPairs μ h kvs kws → SPairs μ h ((k, v) :: kvs) ((k, w) :: kws)
inductive TPairs (μ : List Addr) (h : Heap) : List (List Int × V) → List (List Int × Addr × Value) → Prop
  | nil : TPairs μ h [] []
  | cons {k v a w kvs kws} : a ∉ μ → VR μ h v w → TPairs μ h kvs kws → TPairs μ h ((k, v) :: kvs) ((k, a, w) :: kws)
theorem SPairs.ext {μ μ' : List Addr} {h h' : Heap} (x : Ext μ h μ' h') {a b} (e : SPairs μ h a b) : SPairs μ' h' a b := by
  induction e with
  | nil => exact .nil
  | cons v _ ih => exact .cons (v.ext x) ih

inductive OEnts (μ : List Addr) (h : Heap) : List (Str × V) → List DictEntry → Prop
  | nil : OEnts μ h [] []
  | cons {x t k v w as es} : VR μ h v w → OEnts μ h as es → OEnts μ h ((x, v) :: as) (⟨k, .str x t, w⟩ :: es)
abbrev sK (g : G) := strKind g.prog g.w
abbrev tK (g : G) := tupleKind (intKind g.prog g.w)

def SlotAt (g : G) (μ : List Addr) (h : Heap) (a : Addr) : Slot → Prop
  | .list xs => ∃ vs n, IsL h a vs n ∧ vs.size ≤ sizeLine ∧ Rds μ h xs vs.toList
  | .sdict kvs => (a == sysModules) = false ∧ ∃ ks, h.DictOf (sK g) a ks ∧ SPairs μ h kvs ks
  | .tdict kvs => (a == sysModules) = false ∧ ∃ xs, h.DictOfH (tK g) a xs ∧ TPairs μ h kvs xs
  | .odict attrs => ∃ es k, h.get? a = some (dictOf es k) ∧ OEnts μ h attrs es
  | .inst C j => ∃ dx, μ[j]? = some dx ∧ h.get? a = some (instObj C dx)

structure Mem (g : G) (μ : List Addr) (σ : List Slot) (s : Shared) : Prop where
  base : ∀ b o, g.h₀.get? b = some o → s.heap.get? b = some o
  gens : s.gens = #[]
  os : s.os = g.os₀
  len : μ.length = σ.length
  nd : μ.Nodup
  lo : ∀ a ∈ μ, g.h₀.get? a = none
  slots : ∀ (i : Nat) (a : Addr) (x : Slot), μ[i]? = some a → σ[i]? = some x → SlotAt g μ s.heap a x

/-- where a name's value lies -/
def Bound (μ : List Addr) (h : Heap) (env : Env) (m : Str → Option Value) (x : Str) (v : V) : Prop :=
  ∃ w, VR μ h v w ∧ ((env.kindOf x = some NameKind.local ∧ m x = some w) ∨ ((env.kindOf x = some NameKind.cell ∨ env.kindOf x = some NameKind.free) ∧ ∃ c, env.cells.lookup x = some c ∧ h.IsCell c (some w)))

structure Frm (g : G) (env : Env) (sc : Scope) (μ : List Addr) (ρ : List (Str × V)) (h : Heap) : Prop where
  esc : env.scope = sc
  kind : sc.kind = ScopeKind.function
  gl : env.globals = mainGlobals
  bl : env.builtins = builtinsNs
  lo : g.h₀.get? env.locals = none
  nL : env.locals ∉ μ
  cells : ∀ x c, env.cells.lookup x = some c → c ∉ μ ∧ c ≠ env.locals ∧ g.h₀.get? c = none ∧ ∃ ov, h.IsCell c ov
  cinj : ∀ x y c, env.cells.lookup x = some c → env.cells.lookup y = some c → x = y
  has : ∀ x, env.kindOf x = some NameKind.cell → ∃ c, env.cells.lookup x = some c
  vars : ∃ m, h.Ns env.locals m ∧ ∀ x v, ρ.lookup x = some v → Bound μ h env m x v

theorem Frm.ext {g : G} {env : Env} {sc : Scope} {μ μ' : List Addr} {ρ : List (Str × V)} {h h' : Heap} (F : Frm g env sc μ ρ h) (x : Ext μ h μ' h') : Frm g env sc μ' ρ h' := by
  obtain ⟨m, hm, hv⟩ := F.vars
  have hc : ∀ x' c, env.cells.lookup x' = some c → ∀ o, h.get? c = some o → h'.get? c = some o := fun x' c e o eo => x.keep c o (F.cells x' c e).1 eo
  refine ⟨F.esc, F.kind, F.gl, F.bl, F.lo, (let ⟨_, _, _, ho, _⟩ := hm; x.notin F.nL ho), fun y c e => ?_, F.cinj, F.has, m, hm.at' fun o e => x.keep _ o F.nL e, fun y v e => ?_⟩
  · obtain ⟨n1, n2, n3, ov, o, ho, hd⟩ := F.cells y c e
    exact ⟨x.notin n1 ho, n2, n3, ov, o, x.keep c o n1 ho, hd⟩
  · obtain ⟨w, hw, hb⟩ := hv y v e
    refine ⟨w, hw.ext x, ?_⟩
    rcases hb with q | ⟨q, c, e1, o, ho, hd⟩
    · exact .inl q
    · exact .inr ⟨q, c, e1, o, x.keep c o (F.cells y c e1).1 ho, hd⟩

structure Room (n : Nat) (A : Around) : Prop where
  hnd : A.handled = none
  dep : A.depth + n ≤ 600
  uni : A.units + 10 * n ≤ 6000

theorem Room.mono {n m : Nat} {A : Around} (r : Room n A) (h : m ≤ n) : Room m A := ⟨r.hnd, by have := r.dep; omega, by have := r.uni; omega⟩
theorem Room.in1 {n : Nat} {A : Around} (r : Room (n + 1) A) : Room n A.in1 := ⟨r.hnd, by have := r.dep; show A.depth + n ≤ 600; omega, by have := r.uni; show A.units + 1 + 10 * n ≤ 6000; omega⟩
theorem Room.deeper {n : Nat} {A : Around} (r : Room (n + 1) A) (env : Env) : Room n (A.deeper env) :=
  ⟨r.hnd, by have := r.dep; show A.depth + 1 + n ≤ 600; omega, by have := r.uni; show A.units + 3 + 10 * n ≤ 6000; omega⟩

/-- expression e, worked out in a frame of scope sc with the names ρ over the store σ, gives v and leaves σ' -/
def EV (g : G) (n : Nat) (sc : Scope) (e : Expr) (ρ : List (Str × V)) (σ : List Slot) (v : V) (σ' : List Slot) : Prop :=
  ∀ (A : Around) (env : Env) (μ : List Addr) (s : Shared) (Q : Value → Shared → Prop) (E : Value → Shared → Prop), Room n A → Frm g env sc μ ρ s.heap → Mem g μ σ s →
    (∀ w s' μ', Ext μ s.heap μ' s'.heap → Mem g μ' σ' s' → VR μ' s'.heap v w → Q w s') → wpAny g.M A (eval e env) Q E s

/-- a test -/
def TV (g : G) (n : Nat) (sc : Scope) (e : Expr) (ρ : List (Str × V)) (σ : List Slot) (b : Bool) (σ' : List Slot) : Prop :=
  ∀ (A : Around) (env : Env) (μ : List Addr) (s : Shared) (Q : Bool → Shared → Prop) (E : Value → Shared → Prop), Room n A → Frm g env sc μ ρ s.heap → Mem g μ σ s →
    (∀ s' μ', Ext μ s.heap μ' s'.heap → Mem g μ' σ' s' → Q b s') → wpAny g.M A (isTrue e env (eval e env)) Q E s

inductive Outc where
  | next (ρ : List (Str × V)) (σ : List Slot)
  | ret (v : V) (σ : List Slot)

/-- growth while a statement runs: the frame's own names may change -/
structure ExtS (env : Env) (μ : List Addr) (h : Heap) (μ' : List Addr) (h' : Heap) : Prop where
  pre : ∃ ν, μ' = μ ++ ν ∧ ∀ a ∈ ν, a ∉ μ ∧ h.get? a = none
  keep : ∀ a o, a ∉ μ → a ≠ env.locals → (∀ x, env.cells.lookup x ≠ some a) → h.get? a = some o → h'.get? a = some o
  live : ∀ a o, a ∉ μ → h.get? a = some o → ∃ o', h'.get? a = some o'

theorem Ext.toS {env : Env} {μ μ' : List Addr} {h h' : Heap} (x : Ext μ h μ' h') : ExtS env μ h μ' h' := ⟨x.pre, fun a o hn _ _ e => x.keep a o hn e, fun a o hn e => ⟨o, x.keep a o hn e⟩⟩
theorem ExtS.notin {env : Env} {μ μ' : List Addr} {h h' : Heap} (x : ExtS env μ h μ' h') {a : Addr} {o : Obj} (hn : a ∉ μ) (hl : h.get? a = some o) : a ∉ μ' := by
  obtain ⟨⟨ν, rfl, n⟩, k, l⟩ := x
  intro hm
  rcases List.mem_append.mp hm with q | q
  · exact hn q
  · rw [(n a q).2] at hl; cases hl
theorem ExtS.trans {env : Env} {μ₁ μ₂ μ₃ : List Addr} {h₁ h₂ h₃ : Heap} (x : ExtS env μ₁ h₁ μ₂ h₂) (y : ExtS env μ₂ h₂ μ₃ h₃) : ExtS env μ₁ h₁ μ₃ h₃ := by
  have nx := fun a o => @ExtS.notin _ _ _ _ _ x a o
  obtain ⟨⟨ν₁, rfl, n1⟩, k1, l1⟩ := x
  obtain ⟨⟨ν₂, rfl, n2⟩, k2, l2⟩ := y
  refine ⟨⟨ν₁ ++ ν₂, by simp, fun a ha => ?_⟩, fun a o hn hL hC e => k2 a o (nx a o hn e) hL hC (k1 a o hn hL hC e), fun a o hn e => ?_⟩
  · rcases List.mem_append.mp ha with q | q
    · exact n1 a q
    · obtain ⟨h1, h2⟩ := n2 a q
      have hn : a ∉ μ₁ := fun hm => h1 (List.mem_append_left _ hm)
      refine ⟨hn, ?_⟩
      cases q : h₁.get? a with
      | none => rfl
      | some o => obtain ⟨o', e'⟩ := l1 a o hn q; rw [e'] at h2; cases h2
  · obtain ⟨o', e'⟩ := l1 a o hn e
    exact l2 a o' (nx a o hn e) e'

def OutcAt (g : G) (env : Env) (sc : Scope) (μ' : List Addr) (s' : Shared) : Outc → Flow → Prop
  | .next ρ' σ', f => f = .next ∧ Mem g μ' σ' s' ∧ Frm g env sc μ' ρ' s'.heap
  | .ret v σ', f => ∃ w, f = .ret w ∧ Mem g μ' σ' s' ∧ VR μ' s'.heap v w

def SX (g : G) (n : Nat) (sc : Scope) (t : Env → Sem Flow) (ρ : List (Str × V)) (σ : List Slot) (o : Outc) : Prop :=
  ∀ (A : Around) (env : Env) (μ : List Addr) (s : Shared) (Q : Flow → Shared → Prop) (E : Value → Shared → Prop), Room n A → Frm g env sc μ ρ s.heap → Mem g μ σ s →
    (∀ f s' μ', ExtS env μ s.heap μ' s'.heap → OutcAt g env sc μ' s' o f → Q f s') → wpAny g.M A (t env) Q E s
abbrev ES (g : G) (n : Nat) (sc : Scope) (st : Stmt) := SX g n sc (exec st)
abbrev EL (g : G) (n : Nat) (sc : Scope) (ss : List Stmt) := SX g n sc (execs ss)

/-- a call of the value f on args -/
def FN (g : G) (n : Nat) (f : Value) (args : List V) (σ : List Slot) (v : V) (σ' : List Slot) : Prop :=
  ∀ (A : Around) (μ : List Addr) (s : Shared) (ws : List Value) (Q : Value → Shared → Prop) (E : Value → Shared → Prop), Room n A → Mem g μ σ s → VRs μ s.heap args ws →
    (∀ w s' μ', Ext μ s.heap μ' s'.heap → Mem g μ' σ' s' → VR μ' s'.heap v w → Q w s') → wpAny g.M A (call f ws []) Q E s

end Mine
end PartA1
noncomputable section PartB1
open PySem PySem.W PyProof.Rows
set_option linter.all false
set_option maxRecDepth 20000
namespace Mine
section
variable {g : G} {μ : List Addr} {h h' : Heap}

theorem rd_none {w : Value} : Rd μ h .none w ↔ w = .none := by rw [Rd]
theorem rd_bool {b : Bool} {w : Value} : Rd μ h (.bool b) w ↔ w = .bool b := by rw [Rd]
theorem rd_int {i : Int} {w : Value} : Rd μ h (.int i) w ↔ ∃ t, w = .int i t := by rw [Rd]
theorem rd_str {x : Str} {w : Value} : Rd μ h (.str x) w ↔ ∃ t, w = .str x t := by rw [Rd]
theorem rd_tuple {xs : List PyData} {w : Value} : Rd μ h (.tuple xs) w ↔ ∃ a vs n, w = .ref a ∧ a ∉ μ ∧ IsT h a vs n ∧ vs.size ≤ sizeLine ∧ Rds μ h xs vs.toList := by rw [Rd]
theorem rd_list {xs : List PyData} {w : Value} : Rd μ h (.list xs) w ↔ ∃ a vs n, w = .ref a ∧ a ∉ μ ∧ IsL h a vs n ∧ vs.size ≤ sizeLine ∧ Rds μ h xs vs.toList := by rw [Rd]
theorem rds_nil {ws : List Value} : Rds μ h [] ws ↔ ws = [] := by rw [Rds]
theorem rds_cons {d : PyData} {ds : List PyData} {ws : List Value} : Rds μ h (d :: ds) ws ↔ ∃ w r, ws = w :: r ∧ Rd μ h d w ∧ Rds μ h ds r := by rw [Rds]
theorem vr_dat {d : PyData} {w : Value} : VR μ h (.dat d) w ↔ Rd μ h d w := Iff.rfl
theorem VR.i {i : Int} {t : Tok} : VR μ h (.dat (.int i)) (.int i t) := vr_dat.mpr (rd_int.mpr ⟨_, rfl⟩)
theorem VR.s {i : Str} {t : Tok} : VR μ h (.dat (.str i)) (.str i t) := vr_dat.mpr (rd_str.mpr ⟨_, rfl⟩)
theorem VR.b {b : Bool} : VR μ h (.dat (.bool b)) (.bool b) := vr_dat.mpr (rd_bool.mpr rfl)
theorem VR.n : VR μ h (.dat .none) .none := vr_dat.mpr (rd_none.mpr rfl)
theorem Rds.length : ∀ {ds : List PyData} {ws : List Value}, Rds μ h ds ws → ds.length = ws.length
  | [], ws, e => by rw [rds_nil] at e; subst e; rfl
  | d :: ds, ws, e => by
    obtain ⟨w, r, rfl, _, e2⟩ := rds_cons.mp e
    simp [Rds.length e2]
theorem Rds.get : ∀ {ds : List PyData} {ws : List Value} (i : Nat) (d : PyData), Rds μ h ds ws → ds[i]? = some d → ∃ w, ws[i]? = some w ∧ Rd μ h d w
  | [], _, i, d, _, hd => by simp at hd
  | x :: ds, ws, i, d, e, hd => by
    obtain ⟨w, r, rfl, e1, e2⟩ := rds_cons.mp e
    cases i with
    | zero => simp at hd; subst hd; exact ⟨w, rfl, e1⟩
    | succ i => simpa using Rds.get i d e2 (by simpa using hd)
theorem Rds.append : ∀ {ds ds' : List PyData} {ws ws' : List Value}, Rds μ h ds ws → Rds μ h ds' ws' → Rds μ h (ds ++ ds') (ws ++ ws')
  | [], _, ws, _, e, e' => by rw [rds_nil] at e; subst e; exact e'
  | d :: ds, _, ws, _, e, e' => by
    obtain ⟨w, r, rfl, e1, e2⟩ := rds_cons.mp e
    exact rds_cons.mpr ⟨w, _, rfl, e1, Rds.append e2 e'⟩
theorem Rds.of_vrs : ∀ {ds : List PyData} {ws : List Value}, VRs μ h (ds.map V.dat) ws → Rds μ h ds ws
  | [], _, e => by cases e; exact rds_nil.mpr rfl
  | d :: ds, _, e => by
    cases e with
    | cons a b => exact rds_cons.mpr ⟨_, _, rfl, a, Rds.of_vrs b⟩
theorem Rds.ext {μ' : List Addr} (x : Ext μ h μ' h') {ds : List PyData} {ws : List Value} (e : Rds μ h ds ws) : Rds μ' h' ds ws := Rds.lives x.lives ds ws e

section
variable {μ' : List Addr}
/-- all that lives on -/
structure Liv (μ : List Addr) (h : Heap) (μ' : List Addr) (h' : Heap) : Prop extends Lives μ h μ' h' where
  get : ∀ (i : Nat) (a : Addr), μ[i]? = some a → μ'[i]? = some a
theorem Ext.liv (x : Ext μ h μ' h') : Liv μ h μ' h' := ⟨x.lives, fun _ _ e => x.get e⟩
theorem VR.liv (x : Liv μ h μ' h') {v : V} {w : Value} (e : VR μ h v w) : VR μ' h' v w := by
  cases v with
  | ref i => obtain ⟨a, rfl, e⟩ := e; exact ⟨a, rfl, x.get _ _ e⟩
  | dat d => exact Rd.lives x.toLives d w e
theorem VRs.liv (x : Liv μ h μ' h') {vs : List V} {ws : List Value} (e : VRs μ h vs ws) : VRs μ' h' vs ws := by
  induction e with
  | nil => exact .nil
  | cons a _ ih => exact .cons (a.liv x) ih
theorem SPairs.liv (x : Liv μ h μ' h') {a b} (e : SPairs μ h a b) : SPairs μ' h' a b := by
  induction e with
  | nil => exact .nil
  | cons v _ ih => exact .cons (v.liv x) ih
theorem OEnts.liv (x : Liv μ h μ' h') {a b} (e : OEnts μ h a b) : OEnts μ' h' a b := by
  induction e with
  | nil => exact .nil
  | cons v _ ih => exact .cons (v.liv x) ih
theorem TPairs.liv (x : Liv μ h μ' h') {a b} (e : TPairs μ h a b) (hk : ∀ y ∈ b, ∃ vs, h.IsTuple y.2.1 vs) : TPairs μ' h' a b := by
  induction e with
  | nil => exact .nil
  | cons n1 v1 _ ih =>
    obtain ⟨vs, ht⟩ := hk _ (List.mem_cons_self ..)
    exact .cons (x.tup _ vs n1 ht).1 (v1.liv x) (ih fun y hy => hk y (List.mem_cons_of_mem _ hy))
theorem TPairs.notin {a b} (e : TPairs μ h a b) : ∀ y ∈ b, y.2.1 ∉ μ := by
  induction e with
  | nil => simp
  | cons n1 _ _ ih => intro y hy; rcases List.mem_cons.mp hy with rfl | q; exact n1; exact ih y q
theorem SlotAt.liv (x : Liv μ h μ' h') {a : Addr} (k : ∀ o, h.get? a = some o → h'.get? a = some o) {sl : Slot} (e : SlotAt g μ h a sl) : SlotAt g μ' h' a sl := by
  cases sl with
  | list xs => obtain ⟨vs, n, hl, hs, hr⟩ := e; exact ⟨vs, n, k _ hl, hs, Rds.lives x.toLives _ _ hr⟩
  | sdict kvs =>
    obtain ⟨hsys, ks, ⟨o, es, ep, ho, r⟩, hp⟩ := e
    exact ⟨hsys, ks, ⟨o, es, ep, k _ ho, r⟩, hp.liv x⟩
  | tdict kvs =>
    obtain ⟨hsys, xs, ⟨o, es, ep, ho, hc, hd, he, hk, hn⟩, hp⟩ := e
    refine ⟨hsys, xs, ⟨o, es, ep, k _ ho, hc, hd, he, fun y hy => ?_, hn⟩, ?_⟩
    · obtain ⟨o', items, n', h1, h2, h3, h4⟩ := hk y hy
      obtain ⟨_, o'', e1, e2, n'', e3⟩ := x.tup y.2.1 items (hp.notin y hy) ⟨o', h1, h2, n', h3⟩
      exact ⟨o'', items, n'', e1, e2, e3, h4⟩
    · refine hp.liv x fun y hy => ?_
      obtain ⟨o', items, n', h1, h2, h3, h4⟩ := hk y hy
      exact ⟨items, o', h1, h2, n', h3⟩
  | odict as => obtain ⟨es, n, ho, hp⟩ := e; exact ⟨es, n, k _ ho, hp.liv x⟩
  | inst C j => obtain ⟨dx, hj, ho⟩ := e; exact ⟨dx, x.get _ _ hj, k _ ho⟩

end
theorem Mem.toks {σ : List Slot} {s : Shared} (m : Mem g μ σ s) {k : Nat} : Mem g μ σ { s with toks := k } := ⟨m.base, m.gens, m.os, m.len, m.nd, m.lo, m.slots⟩
/-- everything that was there stays -/
theorem Mem.grow {σ : List Slot} {s : Shared} (m : Mem g μ σ s) {h' : Heap} {k : Nat} (kp : ∀ a o, s.heap.get? a = some o → h'.get? a = some o) :
    Mem g μ σ { s with heap := h', toks := k } :=
  ⟨fun b o e => kp _ _ (m.base b o e), m.gens, m.os, m.len, m.nd, m.lo,
    fun i a x e1 e2 => (m.slots i a x e1 e2).liv (Ext.of_keep kp).liv (kp a)⟩
theorem SlotAt.alive {a : Addr} {sl : Slot} (e : SlotAt g μ h a sl) : ∃ o, h.get? a = some o := by
  cases sl with
  | list xs => obtain ⟨vs, n, hl, _⟩ := e; exact ⟨_, hl⟩
  | sdict kvs => obtain ⟨_, ks, ⟨o, es, ep, ho, r⟩, hp⟩ := e; exact ⟨_, ho⟩
  | tdict kvs => obtain ⟨_, ks, ⟨o, es, ep, ho, r⟩, hp⟩ := e; exact ⟨_, ho⟩
  | odict as => obtain ⟨es, n, ho, hp⟩ := e; exact ⟨_, ho⟩
  | inst C j => obtain ⟨dx, hj, ho⟩ := e; exact ⟨_, ho⟩
theorem Mem.alive {σ : List Slot} {s : Shared} (m : Mem g μ σ s) {a : Addr} (ha : a ∈ μ) : ∃ o, s.heap.get? a = some o := by
  obtain ⟨i, hi, e⟩ := List.mem_iff_getElem.mp ha
  exact (m.slots i a (σ[i]'(by rw [← m.len]; exact hi)) (by rw [List.getElem?_eq_getElem hi, e]) (List.getElem?_eq_getElem (by rw [← m.len]; exact hi))).alive
theorem push_keep {h : Heap} (o : Obj) : ∀ a o', h.get? a = some o' → (h.push o).get? a = some o' := fun _ _ e => Heap.get?_push_of_some _ e
theorem Mem.push {σ : List Slot} {s : Shared} (m : Mem g μ σ s) (o : Obj) : Mem g μ σ { s with heap := s.heap.push o } := m.grow (k := s.toks) (push_keep o)
theorem Ext.push {h : Heap} (o : Obj) : Ext μ h μ (h.push o) := Ext.of_keep (push_keep o)
theorem size_none {h : Heap} : h.get? h.objs.size = none := by
  cases q : h.get? h.objs.size with
  | none => rfl
  | some o => exact absurd (Heap.lt_size q) (Nat.lt_irrefl _)
theorem Mem.fresh_of {σ : List Slot} {s : Shared} (m : Mem g μ σ s) {a : Addr} (ha : s.heap.get? a = none) : a ∉ μ := fun hm => by
  obtain ⟨o, e⟩ := m.alive hm; rw [ha] at e; cases e
theorem Mem.fresh {σ : List Slot} {s : Shared} (m : Mem g μ σ s) : s.heap.objs.size ∉ μ := m.fresh_of size_none
theorem Mem.lo_of {σ : List Slot} {s : Shared} (m : Mem g μ σ s) {a : Addr} (ha : s.heap.get? a = none) : g.h₀.get? a = none := none_of_keep (fun o e => m.base a o e) ha

/-- an operation on values -/
def OP (g : G) (n : Nat) (f : List Value → Sem Value) (args : List V) (σ : List Slot) (v : V) (σ' : List Slot) : Prop :=
  ∀ (A : Around) (μ : List Addr) (s : Shared) (ws : List Value) (Q : Value → Shared → Prop) (E : Value → Shared → Prop), Room n A → Mem g μ σ s → VRs μ s.heap args ws →
    (∀ w s' μ', Ext μ s.heap μ' s'.heap → Mem g μ' σ' s' → VR μ' s'.heap v w → Q w s') → wpAny g.M A (f ws) Q E s
def op2 (f : Value → Value → Sem Value) : List Value → Sem Value
  | [a, b] => f a b
  | _ => pure .none
def op1 (f : Value → Sem Value) : List Value → Sem Value
  | [a] => f a
  | _ => pure .none

theorem VRs.two {a b : V} {ws : List Value} (e : VRs μ h [a, b] ws) : ∃ x y, ws = [x, y] ∧ VR μ h a x ∧ VR μ h b y := by
  cases e with
  | cons h1 e => cases e with
    | cons h2 e => cases e; exact ⟨_, _, rfl, h1, h2⟩
theorem VRs.one {a : V} {ws : List Value} (e : VRs μ h [a] ws) : ∃ x, ws = [x] ∧ VR μ h a x := by
  cases e with
  | cons h1 e => cases e; exact ⟨_, rfl, h1⟩
end
section
variable {g : G} {n : Nat} {sc : Scope} {ρ : List (Str × V)} {σ σ₁ σ₂ σ₃ : List Slot} {pos : Pos} {v v₁ v₂ : V}

theorem EV.int {i : Int} {k : Nat} : EV g n sc (.Constant (.int i) k pos) ρ σ (.dat (.int i)) σ :=
  fun _ _ μ _ _ _ _ _ M hQ => wpAny_Constant_int (hQ _ _ μ .refl M.toks .i)
theorem EV.str {x : Str} {k : Nat} : EV g n sc (.Constant (.str x) k pos) ρ σ (.dat (.str x)) σ :=
  fun _ _ μ _ _ _ _ _ M hQ => wpAny_Constant_str (hQ _ _ μ .refl M.toks .s)
theorem EV.bool {b : Bool} {k : Nat} : EV g n sc (.Constant (.bool b) k pos) ρ σ (.dat (.bool b)) σ :=
  fun _ _ μ _ _ _ _ _ M hQ => wpAny_Constant_bool (hQ _ _ μ .refl M .b)
theorem EV.none {k : Nat} : EV g n sc (.Constant .none k pos) ρ σ (.dat .none) σ :=
  fun _ _ μ _ _ _ _ _ M hQ => wpAny_Constant_none (hQ _ _ μ .refl M .n)
theorem EV.name {x : Str} (hx : ρ.lookup x = some v) (hd : (x == ("__debug__" : Str)) = false := by decide) (hn : (x == ("__classdict__" : Str)) = false := by decide) :
    EV g n sc (.Name x pos) ρ σ v σ := fun A env μ s Q E _ F M hQ => by
  obtain ⟨m, hm, hv⟩ := F.vars
  obtain ⟨w, hw, hb⟩ := hv x v hx
  have hk : env.scope.kind = .function := by rw [F.esc]; exact F.kind
  refine wpAny_Name ?_ hd
  have fin := hQ w s μ .refl M hw
  rcases hb with ⟨h1, h2⟩ | ⟨h1, c, hc, hcell⟩
  · exact wpAny_loadName_local hk h1 hm h2 fin
  · rcases h1 with h1 | h1
    · exact wpAny_loadName_cell hk h1 hc hcell fin
    · exact wpAny_loadName_free hk h1 hc hcell fin hn
theorem EV.bin {op : Operator} {l r : Expr} (h1 : EV g n sc l ρ σ v₁ σ₁) (h2 : EV g n sc r ρ σ₁ v₂ σ₂) (h3 : OP g n (op2 (binaryOp op)) [v₁, v₂] σ₂ v σ₃) :
    EV g n sc (.BinOp l op r pos) ρ σ v σ₃ := fun A env μ s Q E R F M hQ =>
  wpAny_BinOp (h1 A env μ s _ E R F M fun w₁ s₁ μ₁ x₁ M₁ V₁ => h2 A env μ₁ s₁ _ E R (F.ext x₁) M₁ fun w₂ s₂ μ₂ x₂ M₂ V₂ =>
    h3 A μ₂ s₂ [w₁, w₂] Q E R M₂ (.cons (V₁.ext x₂) (.cons V₂ .nil)) fun w s' μ' x M' V' => hQ w s' μ' (x₁.trans (x₂.trans x)) M' V')
theorem EV.cmp1 {op : CmpOp} {l r : Expr} (h1 : EV g n sc l ρ σ v₁ σ₁) (h2 : EV g n sc r ρ σ₁ v₂ σ₂) (h3 : OP g n (op2 (compareOp op)) [v₁, v₂] σ₂ v σ₃)
    (hm : behindInMarks op r = false := by with_unfolding_all rfl) :
    EV g n sc (.Compare l [op] [r] pos) ρ σ v σ₃ := fun A env μ s Q E R F M hQ =>
  wpAny_Compare1 (h1 A env μ s _ E R F M fun w₁ s₁ μ₁ x₁ M₁ V₁ => h2 A env μ₁ s₁ _ E R (F.ext x₁) M₁ fun w₂ s₂ μ₂ x₂ M₂ V₂ =>
    h3 A μ₂ s₂ [w₁, w₂] Q E R M₂ (.cons (V₁.ext x₂) (.cons V₂ .nil)) fun w s' μ' x M' V' => hQ w s' μ' (x₁.trans (x₂.trans x)) M' V') hm
theorem TV.cmp1 {op : CmpOp} {l r : Expr} {b : Bool} (h1 : EV g n sc l ρ σ v₁ σ₁) (h2 : EV g n sc r ρ σ₁ v₂ σ₂) (h3 : OP g n (op2 (compareOp op)) [v₁, v₂] σ₂ (.dat (.bool b)) σ₃)
    (hm : behindInMarks op r = false := by with_unfolding_all rfl) :
    TV g n sc (.Compare l [op] [r] pos) ρ σ b σ₃ := fun A env μ s Q E R F M hQ =>
  wpAny_isTrue_Compare1 (h1 A env μ s _ E R F M fun w₁ s₁ μ₁ x₁ M₁ V₁ => h2 A env μ₁ s₁ _ E R (F.ext x₁) M₁ fun w₂ s₂ μ₂ x₂ M₂ V₂ =>
    h3 A μ₂ s₂ [w₁, w₂] _ E R M₂ (.cons (V₁.ext x₂) (.cons V₂ .nil)) fun w s' μ' x M' V' => by
      have := rd_bool.mp (vr_dat.mp V'); subst this
      exact wpAny_truthy_bool (hQ s' μ' (x₁.trans (x₂.trans x)) M')) hm

/-- ops that leave the heap as it is -/
theorem OP.pure2 {f : Value → Value → Sem Value} {d₁ d₂ d : PyData}
    (h : ∀ (A : Around) (μ : List Addr) (s : Shared) (w₁ w₂ : Value) (Q : Value → Shared → Prop) (E : Value → Shared → Prop), Room n A → Rd μ s.heap d₁ w₁ → Rd μ s.heap d₂ w₂ → Mem g μ σ s →
      (∀ w k, Rd μ s.heap d w → Q w { s with toks := k }) → wpAny g.M A (f w₁ w₂) Q E s) : OP g n (op2 f) [.dat d₁, .dat d₂] σ (.dat d) σ := fun A μ s ws Q E R M V hQ => by
  obtain ⟨x, y, rfl, h1, h2⟩ := V.two
  exact h A μ s x y Q E R h1 h2 M fun w k hw => hQ w _ μ .refl M.toks hw

theorem OP.add_int {a b : Int} : OP g n (op2 (binaryOp .Add)) [.dat (.int a), .dat (.int b)] σ (.dat (.int (a + b))) σ := .pure2 fun A μ s w₁ w₂ Q E _ h1 h2 _ hQ => by
  obtain ⟨t, rfl⟩ := rd_int.mp h1; obtain ⟨u, rfl⟩ := rd_int.mp h2; exact PyProof.Rows.add_int (hQ _ _ (rd_int.mpr ⟨_, rfl⟩))
theorem OP.sub_int {a b : Int} : OP g n (op2 (binaryOp .Sub)) [.dat (.int a), .dat (.int b)] σ (.dat (.int (a - b))) σ := .pure2 fun A μ s w₁ w₂ Q E _ h1 h2 _ hQ => by
  obtain ⟨t, rfl⟩ := rd_int.mp h1; obtain ⟨u, rfl⟩ := rd_int.mp h2; exact PyProof.Rows.sub_int (hQ _ _ (rd_int.mpr ⟨_, rfl⟩))
theorem OP.mul_int {a b : Int} (hm : IntMulOk a b) : OP g n (op2 (binaryOp .Mult)) [.dat (.int a), .dat (.int b)] σ (.dat (.int (a * b))) σ := .pure2 fun A μ s w₁ w₂ Q E _ h1 h2 _ hQ => by
  obtain ⟨t, rfl⟩ := rd_int.mp h1; obtain ⟨u, rfl⟩ := rd_int.mp h2; exact PyProof.Rows.mul_int (hQ _ _ (rd_int.mpr ⟨_, rfl⟩)) hm
theorem OP.mod_int {a b : Int} (hb : b ≠ 0) : OP g n (op2 (binaryOp .Mod)) [.dat (.int a), .dat (.int b)] σ (.dat (.int (a.fmod b))) σ := .pure2 fun A μ s w₁ w₂ Q E _ h1 h2 _ hQ => by
  obtain ⟨t, rfl⟩ := rd_int.mp h1; obtain ⟨u, rfl⟩ := rd_int.mp h2; exact mod_int' hb (hQ _ _ (rd_int.mpr ⟨_, rfl⟩))
theorem OP.eq_int {a b : Int} : OP g n (op2 (compareOp .Eq)) [.dat (.int a), .dat (.int b)] σ (.dat (.bool (a == b))) σ := .pure2 fun A μ s w₁ w₂ Q E _ h1 h2 _ hQ => by
  obtain ⟨t, rfl⟩ := rd_int.mp h1; obtain ⟨u, rfl⟩ := rd_int.mp h2; exact PyProof.Rows.eq_int (hQ _ _ (rd_bool.mpr rfl))
theorem OP.ne_int {a b : Int} : OP g n (op2 (compareOp .NotEq)) [.dat (.int a), .dat (.int b)] σ (.dat (.bool (a != b))) σ := .pure2 fun A μ s w₁ w₂ Q E _ h1 h2 _ hQ => by
  obtain ⟨t, rfl⟩ := rd_int.mp h1; obtain ⟨u, rfl⟩ := rd_int.mp h2; exact PyProof.Rows.ne_int (hQ _ _ (rd_bool.mpr rfl))
theorem OP.lt_int {a b : Int} : OP g n (op2 (compareOp .Lt)) [.dat (.int a), .dat (.int b)] σ (.dat (.bool (decide (a < b)))) σ := .pure2 fun A μ s w₁ w₂ Q E _ h1 h2 _ hQ => by
  obtain ⟨t, rfl⟩ := rd_int.mp h1; obtain ⟨u, rfl⟩ := rd_int.mp h2; exact PyProof.Rows.lt_int (hQ _ _ (rd_bool.mpr rfl))
theorem OP.le_int {a b : Int} : OP g n (op2 (compareOp .LtE)) [.dat (.int a), .dat (.int b)] σ (.dat (.bool (decide (a ≤ b)))) σ := .pure2 fun A μ s w₁ w₂ Q E _ h1 h2 _ hQ => by
  obtain ⟨t, rfl⟩ := rd_int.mp h1; obtain ⟨u, rfl⟩ := rd_int.mp h2; exact PyProof.Rows.le_int (hQ _ _ (rd_bool.mpr rfl))
theorem OP.gt_int {a b : Int} : OP g n (op2 (compareOp .Gt)) [.dat (.int a), .dat (.int b)] σ (.dat (.bool (decide (a > b)))) σ := .pure2 fun A μ s w₁ w₂ Q E _ h1 h2 _ hQ => by
  obtain ⟨t, rfl⟩ := rd_int.mp h1; obtain ⟨u, rfl⟩ := rd_int.mp h2; exact PyProof.Rows.gt_int (hQ _ _ (rd_bool.mpr rfl))
theorem str_beq (a b : Str) : (a.cps.toList == b.cps.toList) = decide (a = b) := by
  rw [Bool.eq_iff_iff]; simp only [beq_iff_eq, decide_eq_true_eq]
  constructor
  · intro e; obtain ⟨x⟩ := a; obtain ⟨y⟩ := b; simp at e; simp [e]
  · intro e; rw [e]
theorem OP.eq_str {a b : Str} : OP g n (op2 (compareOp .Eq)) [.dat (.str a), .dat (.str b)] σ (.dat (.bool (decide (a = b)))) σ := .pure2 fun A μ s w₁ w₂ Q E _ h1 h2 _ hQ => by
  obtain ⟨t, rfl⟩ := rd_str.mp h1; obtain ⟨u, rfl⟩ := rd_str.mp h2; exact PyProof.Rows.eq_str (hQ _ _ (rd_bool.mpr (congrArg Value.bool (by rw [Bool.eq_iff_iff]; simp))))
theorem OP.ne_str {a b : Str} : OP g n (op2 (compareOp .NotEq)) [.dat (.str a), .dat (.str b)] σ (.dat (.bool (!decide (a = b)))) σ := .pure2 fun A μ s w₁ w₂ Q E _ h1 h2 _ hQ => by
  obtain ⟨t, rfl⟩ := rd_str.mp h1; obtain ⟨u, rfl⟩ := rd_str.mp h2; exact PyProof.Rows.ne_str (hQ _ _ (rd_bool.mpr (congrArg Value.bool (by rw [Bool.eq_iff_iff]; simp))))
end
end Mine
end PartB1
noncomputable section PartB2
open PySem PySem.W PyProof.Rows
set_option linter.all false
set_option maxRecDepth 20000
namespace Mine
section
variable {g : G} {μ μ' : List Addr} {h h' : Heap}

/-- an object that is no list and no tuple is changed -/
theorem Liv.sameBut {a : Addr} (hs : Heap.SameBut a h h') (hn : ∀ o, h.get? a = some o → ∀ vs n, o.data ≠ .seq vs n) : Liv μ h μ h' :=
  ⟨⟨fun b o vs n hb e hd => ⟨hb, (hs.2 b (fun hba => hn o (hba ▸ e) vs n hd)).trans e⟩⟩, fun _ _ e => e⟩
theorem samebut_live {a b : Addr} {o : Obj} (hs : Heap.SameBut a h h') (hn : ∃ o, h'.get? a = some o) (e : h.get? b = some o) : ∃ o', h'.get? b = some o' := by
  by_cases hb : b = a
  · subst hb; exact hn
  · exact ⟨o, (hs.2 b hb).trans e⟩
theorem Mem.sameBut {σ : List Slot} {s : Shared} (m : Mem g μ σ s) {a : Addr} {h' : Heap} {k : Nat} (hs : Heap.SameBut a s.heap h') (hn : ∀ o, s.heap.get? a = some o → ∀ vs n, o.data ≠ .seq vs n)
    (ha : a ∉ μ) (hlo : g.h₀.get? a = none) : Mem g μ σ { s with heap := h', toks := k } :=
  ⟨fun b o e => (hs.2 b (fun hb => by rw [hb, hlo] at e; cases e)).trans (m.base b o e), m.gens, m.os, m.len, m.nd, m.lo,
    fun i b x e1 e2 => (m.slots i b x e1 e2).liv (Liv.sameBut hs hn) fun o e => (hs.2 b (fun hb => ha (hb ▸ List.mem_of_getElem? e1))).trans e⟩
theorem ns_noseq {a : Addr} {m} (hn : h.Ns a m) : ∀ o, h.get? a = some o → ∀ vs n, o.data ≠ .seq vs n := fun o e vs n hd => by
  obtain ⟨o', es, ep, e', hd', _⟩ := hn
  rw [e] at e'; cases e'; rw [hd] at hd'; cases hd'
theorem cell_noseq {a : Addr} {m} (hn : h.IsCell a m) : ∀ o, h.get? a = some o → ∀ vs n, o.data ≠ .seq vs n := fun o e vs n hd => by
  obtain ⟨o', e', hd'⟩ := hn
  rw [e] at e'; cases e'; rw [hd] at hd'; cases hd'
end

section
variable {g : G} {n : Nat} {sc : Scope} {ρ : List (Str × V)} {σ σ₁ σ₂ σ₃ : List Slot} {pos : Pos} {v v₁ v₂ : V} {A : Around} {env : Env} {μ : List Addr} {s : Shared} {E : Value → Shared → Prop}

theorem lookup_cons' {x y : Str} {v : V} : ((x, v) :: ρ).lookup y = if y = x then some v else ρ.lookup y := by
  rw [List.lookup_cons]
  by_cases hxy : y = x
  · subst hxy; simp
  · have : (y == x) = false := by simpa using hxy
    rw [this, if_neg hxy]

theorem store {x : Str} {w : Value} {Q : Unit → Shared → Prop} (hx : sc.names.lookup x = some .local ∨ sc.names.lookup x = some .cell) (F : Frm g env sc μ ρ s.heap) (M : Mem g μ σ s) (hv : VR μ s.heap v w)
    (h : ∀ s', ExtS env μ s.heap μ s'.heap → Mem g μ σ s' → Frm g env sc μ ((x, v) :: ρ) s'.heap → Q () s') : wpAny g.M A (storeName env x w) Q E s := by
  obtain ⟨m, hm, hvars⟩ := F.vars
  have hk : env.scope.kind = .function := by rw [F.esc]; exact F.kind
  have kd : env.kindOf x = sc.names.lookup x := by rw [Env.kindOf, F.esc]
  rcases hx with hx | hx
  · refine wpAny_storeName_local (kd.trans hx) hm (fun h' hn hs => ?_) (by rw [hk]; rfl)
    have L : Liv μ s.heap μ h' := Liv.sameBut hs (ns_noseq hm)
    refine h _ ⟨⟨[], by simp, by simp⟩, fun a o _ hL _ e => (hs.2 a hL).trans e, fun a o _ e => samebut_live hs (let ⟨o, _, _, ho, _⟩ := hn; ⟨o, ho⟩) e⟩ (M.sameBut hs (ns_noseq hm) F.nL F.lo) ?_
    have cellk : ∀ y c, env.cells.lookup y = some c → ∀ ov, s.heap.IsCell c ov → h'.IsCell c ov := fun y c e ov ⟨o, ho, hd⟩ => ⟨o, (hs.2 c (F.cells y c e).2.1).trans ho, hd⟩
    refine ⟨F.esc, F.kind, F.gl, F.bl, F.lo, F.nL, fun y c e => ?_, F.cinj, F.has, _, hn, fun y u e => ?_⟩
    · obtain ⟨n1, n2, n3, ov, hc⟩ := F.cells y c e
      exact ⟨n1, n2, n3, ov, cellk y c e ov hc⟩
    · rw [lookup_cons'] at e
      by_cases hy : y = x
      · subst hy; rw [if_pos rfl] at e; cases e
        exact ⟨w, hv.liv L, .inl ⟨kd.trans hx, by simp⟩⟩
      · rw [if_neg hy] at e
        obtain ⟨w', hw', hb⟩ := hvars y u e
        refine ⟨w', hw'.liv L, ?_⟩
        rcases hb with ⟨b1, b2⟩ | ⟨b1, c, b2, b3⟩
        · exact .inl ⟨b1, by simp [hy, b2]⟩
        · exact .inr ⟨b1, c, b2, cellk y c b2 _ b3⟩
  · obtain ⟨c, hc⟩ := F.has x (kd.trans hx)
    obtain ⟨n1, n2, n3, ov, hcell⟩ := F.cells x c hc
    refine wpAny_storeName_cell hk (kd.trans hx) hc hcell fun h' hn hs => ?_
    have L : Liv μ s.heap μ h' := Liv.sameBut hs (cell_noseq hcell)
    refine h _ ⟨⟨[], by simp, by simp⟩, fun a o _ _ hC e => (hs.2 a (fun hac => hC x (hac ▸ hc))).trans e, fun a o _ e => samebut_live hs (let ⟨o, ho, _⟩ := hn; ⟨o, ho⟩) e⟩ (M.sameBut (k := s.toks) hs (cell_noseq hcell) n1 n3) ?_
    have cellk : ∀ y c', env.cells.lookup y = some c' → y ≠ x → ∀ ov, s.heap.IsCell c' ov → h'.IsCell c' ov := fun y c' e hyx ov ⟨o, ho, hd⟩ => ⟨o, (hs.2 c' (fun hcc => hyx (F.cinj y x c (hcc ▸ e) hc))).trans ho, hd⟩
    refine ⟨F.esc, F.kind, F.gl, F.bl, F.lo, F.nL, fun y c' e => ?_, F.cinj, F.has, m, hm.sameBut hs (Ne.symm n2), fun y u e => ?_⟩
    · by_cases hy : y = x
      · subst hy; obtain rfl : c' = c := Option.some.inj (e.symm.trans hc); exact ⟨n1, n2, n3, _, hn⟩
      · obtain ⟨n1, n2, n3, ov, hc'⟩ := F.cells y c' e
        exact ⟨n1, n2, n3, ov, cellk y c' e hy ov hc'⟩
    · rw [lookup_cons'] at e
      by_cases hy : y = x
      · subst hy; rw [if_pos rfl] at e; cases e
        exact ⟨w, hv.liv L, .inr ⟨.inl (kd.trans hx), c, hc, hn⟩⟩
      · rw [if_neg hy] at e
        obtain ⟨w', hw', hb⟩ := hvars y u e
        refine ⟨w', hw'.liv L, ?_⟩
        rcases hb with b | ⟨b1, c', b2, b3⟩
        · exact .inl b
        · exact .inr ⟨b1, c', b2, cellk y c' b2 hy _ b3⟩

theorem EL.nil : EL g n sc [] ρ σ (.next ρ σ) := fun A env μ s Q E _ F M hQ => wpAny_execs_nil (hQ _ _ μ Ext.refl.toS ⟨rfl, M, F⟩)
theorem EL.cons {st : Stmt} {rest : List Stmt} {ρ' : List (Str × V)} {o : Outc} (h1 : ES g n sc st ρ σ (.next ρ' σ₁)) (h2 : EL g n sc rest ρ' σ₁ o) : EL g n sc (st :: rest) ρ σ o :=
  fun A env μ s Q E R F M hQ => wpAny_execs_cons (h1 A env μ s _ E R F M fun f s₁ μ₁ x₁ ho => by
    obtain ⟨rfl, M₁, F₁⟩ := ho
    exact h2 A env μ₁ s₁ Q E R F₁ M₁ fun f s' μ' x ho => hQ f s' μ' (x₁.trans x) ho)
theorem EL.ret {st : Stmt} {rest : List Stmt} (h1 : ES g n sc st ρ σ (.ret v σ₁)) : EL g n sc (st :: rest) ρ σ (.ret v σ₁) :=
  fun A env μ s Q E R F M hQ => wpAny_execs_cons (h1 A env μ s _ E R F M fun f s₁ μ₁ x₁ ho => by
    obtain ⟨w, rfl, M₁, V₁⟩ := ho
    exact hQ _ s₁ μ₁ x₁ ⟨w, rfl, M₁, V₁⟩)
theorem ES.return {e : Expr} (h : EV g n sc e ρ σ v σ₁) : ES g n sc (.Return (some e) pos) ρ σ (.ret v σ₁) := fun A env μ s Q E R F M hQ =>
  wpAny_Return_some (h A env μ s _ E R F M fun w s' μ' x M' V' => hQ _ s' μ' x.toS ⟨w, rfl, M', V'⟩)
theorem ES.if_true {e : Expr} {body orelse : List Stmt} {o : Outc} (h : TV g n sc e ρ σ true σ₁) (h2 : EL g n sc body ρ σ₁ o) : ES g n sc (.If e body orelse pos) ρ σ o := fun A env μ s Q E R F M hQ =>
  wpAny_If (h A env μ s _ E R F M fun s' μ' x M' => by
    simp only [if_true]
    exact h2 A env μ' s' Q E R (F.ext x) M' fun f s'' μ'' y ho => hQ f s'' μ'' (x.toS.trans y) ho)
theorem ES.if_false {e : Expr} {body orelse : List Stmt} {o : Outc} (h : TV g n sc e ρ σ false σ₁) (h2 : EL g n sc orelse ρ σ₁ o) : ES g n sc (.If e body orelse pos) ρ σ o := fun A env μ s Q E R F M hQ =>
  wpAny_If (h A env μ s _ E R F M fun s' μ' x M' => by
    simp only [Bool.false_eq_true, if_false]
    exact h2 A env μ' s' Q E R (F.ext x) M' fun f s'' μ'' y ho => hQ f s'' μ'' (x.toS.trans y) ho)
theorem ES.assign {x : Str} {p : Pos} {e : Expr} (hx : sc.names.lookup x = some .local ∨ sc.names.lookup x = some .cell) (h : EV g n sc e ρ σ v σ₁)
    (hs : ∀ env, swapsWith e (some (.Name x p)) pos.line env = pure false := by intro _; rfl) :
    ES g n sc (.Assign [.Name x p] e pos) ρ σ (.next ((x, v) :: ρ) σ₁) := fun A env μ s Q E R F M hQ =>
  wpAny_Assign_Name (h A env μ s _ E R F M fun w s' μ' y M' V' => store hx (F.ext y) M' V' fun s'' z M'' F'' => hQ _ s'' μ' (y.toS.trans z) ⟨rfl, M'', F''⟩) (hs env)

theorem TV.val {e : Expr} {b : Bool} (h : EV g n sc e ρ σ (.dat (.bool b)) σ₁) (he : ∀ env whole, isTrue e env whole = (do let v ← whole; standAt e.pos; holding [v] (truthy v)) := by intro _ _; rfl) :
    TV g n sc e ρ σ b σ₁ := fun A env μ s Q E R F M hQ => by
  rw [he]
  refine wpAny_bind (h A env μ s _ E R F M fun w s' μ' x M' V' => ?_)
  have := rd_bool.mp (vr_dat.mp V'); subst this
  exact wpAny_bind (wpAny_standAt (wpAny_holding (wpAny_truthy_bool (hQ s' μ' x M'))))
theorem TV.not {e : Expr} {b : Bool} (h : TV g n sc e ρ σ b σ₁) : TV g n sc (.UnaryOp .Not e pos) ρ σ (!b) σ₁ := fun A env μ s Q E R F M hQ => by
  rw [arm_isTrue_UnaryOp]
  exact wpAny_bind (h A env μ s _ E R F M fun s' μ' x M' => wpAny_pure (hQ s' μ' x M'))

def AT (g : G) (n : Nat) (sc : Scope) (op : BoolOp) (es : List Expr) (ρ : List (Str × V)) (σ : List Slot) (b : Bool) (σ' : List Slot) : Prop :=
  ∀ (A : Around) (env : Env) (μ : List Addr) (s : Shared) (Q : Bool → Shared → Prop) (E : Value → Shared → Prop), Room n A → Frm g env sc μ ρ s.heap → Mem g μ σ s →
    (∀ s' μ', Ext μ s.heap μ' s'.heap → Mem g μ' σ' s' → Q b s') → wpAny g.M A (allTrue op es env) Q E s
theorem TV.boolop {op : BoolOp} {es : List Expr} {b : Bool} (h : AT g n sc op es ρ σ b σ₁) : TV g n sc (.BoolOp op es pos) ρ σ b σ₁ := fun A env μ s Q E R F M hQ => by
  rw [arm_isTrue_BoolOp]; exact h A env μ s Q E R F M hQ
theorem AT.nil {op : BoolOp} : AT g n sc op [] ρ σ (op == .And) σ := fun A env μ s Q E _ _ M hQ => wpAny_pure (hQ s μ .refl M)
theorem AT.and_stop {e : Expr} {es : List Expr} (h : TV g n sc e ρ σ false σ₁) : AT g n sc .And (e :: es) ρ σ false σ₁ := fun A env μ s Q E R F M hQ =>
  wpAny_bind (h A env μ s _ E R F M fun s' μ' x M' => wpAny_pure (hQ s' μ' x M'))
theorem AT.or_stop {e : Expr} {es : List Expr} (h : TV g n sc e ρ σ true σ₁) : AT g n sc .Or (e :: es) ρ σ true σ₁ := fun A env μ s Q E R F M hQ =>
  wpAny_bind (h A env μ s _ E R F M fun s' μ' x M' => wpAny_pure (hQ s' μ' x M'))
theorem AT.and_go {e : Expr} {es : List Expr} {b : Bool} (h : TV g n sc e ρ σ true σ₁) (h2 : AT g n sc .And es ρ σ₁ b σ₂) : AT g n sc .And (e :: es) ρ σ b σ₂ := fun A env μ s Q E R F M hQ =>
  wpAny_bind (h A env μ s _ E R F M fun s' μ' x M' => h2 A env μ' s' Q E R (F.ext x) M' fun s'' μ'' y M'' => hQ s'' μ'' (x.trans y) M'')
theorem AT.or_go {e : Expr} {es : List Expr} {b : Bool} (h : TV g n sc e ρ σ false σ₁) (h2 : AT g n sc .Or es ρ σ₁ b σ₂) : AT g n sc .Or (e :: es) ρ σ b σ₂ := fun A env μ s Q E R F M hQ =>
  wpAny_bind (h A env μ s _ E R F M fun s' μ' x M' => h2 A env μ' s' Q E R (F.ext x) M' fun s'' μ'' y M'' => hQ s'' μ'' (x.trans y) M'')

def BO (g : G) (n : Nat) (sc : Scope) (op : BoolOp) (es : List Expr) (ρ : List (Str × V)) (σ : List Slot) (v : V) (σ' : List Slot) : Prop :=
  ∀ (A : Around) (env : Env) (μ : List Addr) (s : Shared) (pos : Pos) (Q : Value → Shared → Prop) (E : Value → Shared → Prop), Room n A → Frm g env sc μ ρ s.heap → Mem g μ σ s →
    (∀ w s' μ', Ext μ s.heap μ' s'.heap → Mem g μ' σ' s' → VR μ' s'.heap v w → Q w s') → wpAny g.M A (boolOp pos op (evalEach es env)) Q E s
theorem EV.boolop {op : BoolOp} {es : List Expr} (h : BO g n sc op es ρ σ v σ₁) : EV g n sc (.BoolOp op es pos) ρ σ v σ₁ := fun A env μ s Q E R F M hQ => by
  rw [arm_eval_BoolOp]; exact h A env μ s pos Q E R F M hQ
theorem BO.last {op : BoolOp} {e : Expr} (h : EV g n sc e ρ σ v σ₁) : BO g n sc op [e] ρ σ v σ₁ := fun A env μ s pos Q E R F M hQ => h A env μ s Q E R F M hQ
theorem BO.and_stop {e e' : Expr} {es : List Expr} (h : EV g n sc e ρ σ (.dat (.bool false)) σ₁) : BO g n sc .And (e :: e' :: es) ρ σ (.dat (.bool false)) σ₁ := fun A env μ s pos Q E R F M hQ =>
  wpAny_bind (h A env μ s _ E R F M fun w s' μ' x M' V' => by
    have := rd_bool.mp (vr_dat.mp V'); subst this
    exact wpAny_bind (wpAny_standAt (wpAny_bind (wpAny_holding (wpAny_truthy_bool (wpAny_pure (hQ _ s' μ' x M' V')))))))
theorem BO.or_stop {e e' : Expr} {es : List Expr} (h : EV g n sc e ρ σ (.dat (.bool true)) σ₁) : BO g n sc .Or (e :: e' :: es) ρ σ (.dat (.bool true)) σ₁ := fun A env μ s pos Q E R F M hQ =>
  wpAny_bind (h A env μ s _ E R F M fun w s' μ' x M' V' => by
    have := rd_bool.mp (vr_dat.mp V'); subst this
    exact wpAny_bind (wpAny_standAt (wpAny_bind (wpAny_holding (wpAny_truthy_bool (wpAny_pure (hQ _ s' μ' x M' V')))))))
theorem BO.and_go {e e' : Expr} {es : List Expr} (h : EV g n sc e ρ σ (.dat (.bool true)) σ₁) (h2 : BO g n sc .And (e' :: es) ρ σ₁ v σ₂) : BO g n sc .And (e :: e' :: es) ρ σ v σ₂ := fun A env μ s pos Q E R F M hQ =>
  wpAny_bind (h A env μ s _ E R F M fun w s' μ' x M' V' => by
    have := rd_bool.mp (vr_dat.mp V'); subst this
    exact wpAny_bind (wpAny_standAt (wpAny_bind (wpAny_holding (wpAny_truthy_bool (h2 A env μ' s' pos Q E R (F.ext x) M' fun w s'' μ'' y M'' V'' => hQ w s'' μ'' (x.trans y) M'' V''))))))
theorem BO.or_go {e e' : Expr} {es : List Expr} (h : EV g n sc e ρ σ (.dat (.bool false)) σ₁) (h2 : BO g n sc .Or (e' :: es) ρ σ₁ v σ₂) : BO g n sc .Or (e :: e' :: es) ρ σ v σ₂ := fun A env μ s pos Q E R F M hQ =>
  wpAny_bind (h A env μ s _ E R F M fun w s' μ' x M' V' => by
    have := rd_bool.mp (vr_dat.mp V'); subst this
    exact wpAny_bind (wpAny_standAt (wpAny_bind (wpAny_holding (wpAny_truthy_bool (h2 A env μ' s' pos Q E R (F.ext x) M' fun w s'' μ'' y M'' V'' => hQ w s'' μ'' (x.trans y) M'' V''))))))
theorem EV.ifexp_true {t a b : Expr} (h : TV g n sc t ρ σ true σ₁) (h2 : EV g n sc a ρ σ₁ v σ₂) : EV g n sc (.IfExp t a b pos) ρ σ v σ₂ := fun A env μ s Q E R F M hQ => by
  rw [arm_eval_IfExp]
  refine wpAny_bind (h A env μ s _ E R F M fun s' μ' x M' => ?_)
  exact h2 A env μ' s' Q E R (F.ext x) M' fun w s'' μ'' y M'' V'' => hQ w s'' μ'' (x.trans y) M'' V''
theorem EV.ifexp_false {t a b : Expr} (h : TV g n sc t ρ σ false σ₁) (h2 : EV g n sc b ρ σ₁ v σ₂) : EV g n sc (.IfExp t a b pos) ρ σ v σ₂ := fun A env μ s Q E R F M hQ => by
  rw [arm_eval_IfExp]
  refine wpAny_bind (h A env μ s _ E R F M fun s' μ' x M' => ?_)
  exact h2 A env μ' s' Q E R (F.ext x) M' fun w s'' μ'' y M'' V'' => hQ w s'' μ'' (x.trans y) M'' V''
theorem EV.un {op : UnaryOp} {e : Expr} (h : EV g n sc e ρ σ v₁ σ₁) (h2 : OP g n (op1 (unaryOp op)) [v₁] σ₁ v σ₂) : EV g n sc (.UnaryOp op e pos) ρ σ v σ₂ := fun A env μ s Q E R F M hQ =>
  wpAny_UnaryOp (h A env μ s _ E R F M fun w s' μ' x M' V' => h2 A μ' s' [w] Q E R M' (.cons V' .nil) fun w s'' μ'' y M'' V'' => hQ w s'' μ'' (x.trans y) M'' V'')
theorem OP.neg {i : Int} : OP g n (op1 (unaryOp .USub)) [.dat (.int i)] σ (.dat (.int (-i))) σ := fun A μ s ws Q E R M V hQ => by
  obtain ⟨w, rfl, h⟩ := V.one
  obtain ⟨t, rfl⟩ := rd_int.mp (vr_dat.mp h)
  exact PyProof.Rows.neg_int (hQ _ _ μ .refl M.toks .i)
theorem OP.not {b : Bool} : OP g n (op1 (unaryOp .Not)) [.dat (.bool b)] σ (.dat (.bool (!b))) σ := fun A μ s ws Q E R M V hQ => by
  obtain ⟨w, rfl, h⟩ := V.one
  have := rd_bool.mp (vr_dat.mp h); subst this
  exact wpAny_bind (wpAny_truthy_bool (wpAny_pure (hQ _ _ μ .refl M .b)))
end
end Mine
end PartB2
noncomputable section PartB3
open PySem PySem.W PyProof.Rows
set_option linter.all false
set_option maxRecDepth 20000
namespace Mine
section
variable {g : G} {n : Nat} {sc : Scope} {ρ : List (Str × V)} {σ σ₁ σ₂ σ₃ : List Slot} {pos : Pos} {v v₁ v₂ : V} {A : Around} {env : Env} {μ : List Addr} {s : Shared} {E : Value → Shared → Prop}

/-- the arguments, one behind the other -/
def EVs (g : G) (n : Nat) (sc : Scope) (es : List Expr) (ρ : List (Str × V)) (σ : List Slot) (vs : List V) (σ' : List Slot) : Prop :=
  ∀ (A : Around) (env : Env) (μ : List Addr) (s : Shared) (pos : Pos) (Q : List Value → Shared → Prop) (E : Value → Shared → Prop), Room n A → Frm g env sc μ ρ s.heap → Mem g μ σ s →
    (∀ ws s' μ', Ext μ s.heap μ' s'.heap → Mem g μ' σ' s' → VRs μ' s'.heap vs ws → Q ws s') → wpAny g.M A (spliced (backTo pos (starEach es env))) Q E s
theorem EVs.nil : EVs g n sc [] ρ σ [] σ := fun A env μ s pos Q E _ _ M hQ => args_nil (hQ _ s μ .refl M .nil)
theorem EVs.cons {e : Expr} {es : List Expr} {vs : List V} (h1 : EV g n sc e ρ σ v σ₁) (h2 : EVs g n sc es ρ σ₁ vs σ₂)
    (he : ∀ env, starEach (e :: es) env = (false, eval e env) :: starEach es env := by intro _; rfl) : EVs g n sc (e :: es) ρ σ (v :: vs) σ₂ := fun A env μ s pos Q E R F M hQ =>
  args_cons (h1 A env μ s _ E R F M fun w s₁ μ₁ x₁ M₁ V₁ => h2 A env μ₁ s₁ pos _ E R (F.ext x₁) M₁ fun ws s₂ μ₂ x₂ M₂ V₂ =>
    hQ _ s₂ μ₂ (x₁.trans x₂) M₂ (.cons (V₁.ext x₂) V₂)) (he env)

def datsOf : List V → Option (List PyData)
  | [] => some []
  | .dat d :: r => (datsOf r).map (d :: ·)
  | _ :: _ => none
theorem rds_of_dats {μ : List Addr} {h : Heap} : ∀ {vs : List V} {ds : List PyData} {ws : List Value}, datsOf vs = some ds → VRs μ h vs ws → Rds μ h ds ws
  | [], ds, ws, e, V => by cases e; cases V; exact rds_nil.mpr rfl
  | .dat d :: r, ds, ws, e, V => by
    cases hr : datsOf r with
    | none => simp [datsOf, hr] at e
    | some ds' =>
      simp [datsOf, hr] at e; subst e
      cases V with
      | cons a b => exact rds_cons.mpr ⟨_, _, rfl, a, rds_of_dats hr b⟩
  | .ref _ :: _, _, _, e, _ => by cases e
theorem Rds.vrs {μ : List Addr} {h : Heap} : ∀ {ds : List PyData} {ws : List Value}, Rds μ h ds ws → VRs μ h (ds.map .dat) ws
  | [], _, e => by rw [rds_nil] at e; subst e; exact .nil
  | d :: ds, ws, e => by
    obtain ⟨w, r, rfl, e1, e2⟩ := rds_cons.mp e
    exact .cons e1 e2.vrs

theorem new_tuple {ws : List Value} {ds : List PyData} {σ : List Slot} (M : Mem g μ σ s) (hr : Rds μ s.heap ds ws) (hz : ds.length ≤ sizeLine) {Q : Value → Shared → Prop}
    (hQ : ∀ w s', Ext μ s.heap μ s'.heap → Mem g μ σ s' → Rd μ s'.heap (.tuple ds) w → Q w s') : wpAny g.M A (newTuple ws) Q E s := by
  have e := hr.length
  refine wpAny_newTuple (hQ _ _ (.push _) (M.push _) (rd_tuple.mpr ⟨_, ws.toArray, 0, rfl, M.fresh, Heap.get?_push_size _ rfl, by simp; omega, ?_⟩)) (by omega)
  exact hr.ext (.push _)
theorem new_list {ws : List Value} {ds : List PyData} {σ : List Slot} (M : Mem g μ σ s) (hr : Rds μ s.heap ds ws) (hz : ds.length ≤ sizeLine) {Q : Value → Shared → Prop}
    (hQ : ∀ w s', Ext μ s.heap μ s'.heap → Mem g μ σ s' → Rd μ s'.heap (.list ds) w → Q w s') : wpAny g.M A (newList ws) Q E s := by
  have e := hr.length
  refine wpAny_newList (hQ _ _ (.push _) (M.push _) (rd_list.mpr ⟨_, ws.toArray, 0, rfl, M.fresh, IsL.new _ _, by simp; omega, ?_⟩)) (by omega)
  exact hr.ext (.push _)
theorem EV.tuple {es : List Expr} {k : Nat} {vs : List V} {ds : List PyData} (h : EVs g n sc es ρ σ vs σ₁) (hd : datsOf vs = some ds) (hz : ds.length ≤ sizeLine := by exact Nat.le_of_ble_eq_true rfl) :
    EV g n sc (.Tuple es k pos) ρ σ (.dat (.tuple ds)) σ₁ := fun A env μ s Q E R F M hQ =>
  Tuple_ (h A env μ s pos _ E R F M fun ws s₁ μ₁ x₁ M₁ V₁ => new_tuple M₁ (rds_of_dats hd V₁) hz fun w s' x M' hr => hQ w s' μ₁ (x₁.trans x) M' hr)
theorem EV.list {es : List Expr} {vs : List V} {ds : List PyData} (h : EVs g n sc es ρ σ vs σ₁) (hd : datsOf vs = some ds) (hz : ds.length ≤ sizeLine := by exact Nat.le_of_ble_eq_true rfl) :
    EV g n sc (.List es pos) ρ σ (.dat (.list ds)) σ₁ := fun A env μ s Q E R F M hQ =>
  List_ (h A env μ s pos _ E R F M fun ws s₁ μ₁ x₁ M₁ V₁ => new_list M₁ (rds_of_dats hd V₁) hz fun w s' x M' hr => hQ w s' μ₁ (x₁.trans x) M' hr)

/-- a new slot -/
theorem Mem.slot {σ : List Slot} (M : Mem g μ σ s) {o : Obj} {sl : Slot} (h : SlotAt g (μ ++ [s.heap.objs.size]) (s.heap.push o) s.heap.objs.size sl) :
    Mem g (μ ++ [s.heap.objs.size]) (σ ++ [sl]) { s with heap := s.heap.push o } ∧ Ext μ s.heap (μ ++ [s.heap.objs.size]) (s.heap.push o) := by
  have x : Ext μ s.heap (μ ++ [s.heap.objs.size]) (s.heap.push o) := ⟨⟨[_], rfl, fun a ha => by simp at ha; subst ha; exact ⟨M.fresh, size_none⟩⟩, fun a o' _ e => Heap.get?_push_of_some _ e⟩
  refine ⟨⟨fun b o' e => Heap.get?_push_of_some _ (M.base b o' e), M.gens, M.os, by simp [M.len], ?_, fun a ha => ?_, fun i a sl' e1 e2 => ?_⟩, x⟩
  · rw [List.nodup_append]; refine ⟨M.nd, by simp, fun a ha b hb => ?_⟩
    simp at hb; subst hb; rintro rfl; exact M.fresh ha
  · rcases List.mem_append.mp ha with q | q
    · exact M.lo a q
    · simp at q; subst q
      exact M.lo_of size_none
  · by_cases hi : i < μ.length
    · rw [List.getElem?_append_left hi] at e1
      rw [List.getElem?_append_left (by rw [← M.len]; exact hi)] at e2
      exact (M.slots i a sl' e1 e2).liv x.liv fun o' e => Heap.get?_push_of_some _ e
    · rw [List.getElem?_append_right (by omega)] at e1
      rw [List.getElem?_append_right (by rw [← M.len]; omega), ← M.len] at e2
      have h0 : i - μ.length = 0 := by
        have := (List.getElem?_eq_some_iff.mp e1).1; simp at this; omega
      rw [h0] at e1 e2
      simp at e1 e2; subst e1; subst e2; exact h

theorem EV.list_new {es : List Expr} {vs : List V} {ds : List PyData} (h : EVs g n sc es ρ σ vs σ₁) (hd : datsOf vs = some ds) (hz : ds.length ≤ sizeLine := by exact Nat.le_of_ble_eq_true rfl) :
    EV g n sc (.List es pos) ρ σ (.ref σ₁.length) (σ₁ ++ [.list ds]) := fun A env μ s Q E R F M hQ =>
  List_ (h A env μ s pos _ E R F M fun ws s₁ μ₁ x₁ M₁ V₁ => by
    have hr := rds_of_dats hd V₁
    have e := hr.length
    have hs : SlotAt g (μ₁ ++ [s₁.heap.objs.size]) (s₁.heap.push { cls := .type "list", data := .seq ws.toArray }) s₁.heap.objs.size (.list ds) :=
      ⟨ws.toArray, 0, IsL.new _ _, by simp; omega, hr.ext ⟨⟨[_], rfl, fun a ha => by simp at ha; subst ha; exact ⟨M₁.fresh, size_none⟩⟩, fun a o' _ e => Heap.get?_push_of_some _ e⟩⟩
    obtain ⟨M', x'⟩ := M₁.slot hs
    exact wpAny_newList (hQ _ _ _ (x₁.trans x') M' ⟨_, rfl, by rw [← M₁.len]; simp⟩) (by omega))

/-- subscripts -/
theorem sub_tail {value slice : Expr} {o i : Value} {T id : String} {ops : List Value} {Q : Value → Shared → Prop} (hT : s.TypeIs o T)
    (hl : typeLookup (.type T) "__getitem__" = pure (some (.builtin id))) (h : wpAny g.M A (getItem o i) Q E s)
    (hs : subscripted slice false o i = operate ops (getItem o i)) :
    wpAny g.M A (subscriptTail value slice o i) Q E s := by
  unfold subscriptTail
  refine wpAny_bind ?_
  rw [getitemInPython_of_ne hT.not_modules]
  refine wpAny_bind (wpAny_specialOf hT hl ?_)
  have fin : wpAny g.M A (subscripted slice false o i) (fun r s₃ => wpAny g.M A (letTemporaryGo value o r >>= fun _ => pure r) Q E s₃) E s := by
    rw [hs]
    exact wpAny_operating (wpAny_mono h (fun r s₃ h₃ => wpAny_bind (wpAny_letTemporaryGo (wpAny_pure h₃))) fun _ _ x => x)
  first
    | exact wpAny_pure (wpAny_bind fin)
    | exact wpAny_bind (wpAny_pure (wpAny_bind fin))
    | exact wpAny_bind fin
theorem EV.sub {value slice : Expr} (h1 : EV g n sc value ρ σ v₁ σ₁) (h2 : EV g n sc slice ρ σ₁ v₂ σ₂) (h3 : OP g n (op2 (subscriptTail value slice)) [v₁, v₂] σ₂ v σ₃) :
    EV g n sc (.Subscript value slice pos) ρ σ v σ₃ := fun A env μ s Q E R F M hQ =>
  Subscript_ (h1 A env μ s _ E R F M fun w₁ s₁ μ₁ x₁ M₁ V₁ => h2 A env μ₁ s₁ _ E R (F.ext x₁) M₁ fun w₂ s₂ μ₂ x₂ M₂ V₂ =>
    h3 A μ₂ s₂ [w₁, w₂] Q E R M₂ (.cons (V₁.ext x₂) (.cons V₂ .nil)) fun w s' μ' x M' V' => hQ w s' μ' (x₁.trans (x₂.trans x)) M' V')

/-- the place that an index means -/
def at? (k : Int) (len : Nat) : Option Nat := seqIndex? k len
theorem subscripted_int {slice : Expr} {o : Value} {k : Int} {t : Tok} (hs : ∀ o i, subscripted slice false o i = operate [o, i] (getItem o i)) : subscripted slice false o (.int k t) = operate [o, .int k t] (getItem o (.int k t)) := hs _ _
theorem OP.item_tup {value slice : Expr} {xs : List PyData} {k : Int} {j : Nat} {d : PyData} (hj : seqIndex? k xs.length = some j) (hd : xs[j]? = some d) (hlo : -(2 ^ 63) ≤ k) (hhi : k < 2 ^ 63)
    (hs : ∀ o i, subscripted slice false o i = operate [o, i] (getItem o i) := by intro _ _; rfl) :
    OP g n (op2 (subscriptTail value slice)) [.dat (.tuple xs), .dat (.int k)] σ (.dat d) σ := .pure2 fun A μ s w₁ w₂ Q E _ h1 h2 _ hQ => by
  obtain ⟨a, vs, m, rfl, hn, ht', hz, hr⟩ := rd_tuple.mp h1; have ht := isTup ht'; obtain ⟨t, rfl⟩ := rd_int.mp h2
  obtain ⟨w, hw, hrd⟩ := hr.get j d hd
  have e := hr.length
  exact sub_tail (IsTup.typeIs ht) slot_tuple_getitem.lookup (getItem_tuple ht hlo hhi (by rw [← hj, e, Array.length_toList]) (by rw [← Array.getElem?_toList]; exact hw) (hQ w _ hrd)) (hs _ _)
theorem OP.item_lst {value slice : Expr} {xs : List PyData} {k : Int} {d : PyData} (h0 : 0 ≤ k) (hd : xs[k.toNat]? = some d) (hhi : k < 2 ^ 63)
    (hs : ∀ o i, subscripted slice false o i = operate [o, i] (getItem o i) := by intro _ _; rfl) :
    OP g n (op2 (subscriptTail value slice)) [.dat (.list xs), .dat (.int k)] σ (.dat d) σ := .pure2 fun A μ s w₁ w₂ Q E _ h1 h2 _ hQ => by
  obtain ⟨a, vs, m, rfl, hn, ht, hz, hr⟩ := rd_list.mp h1; obtain ⟨t, rfl⟩ := rd_int.mp h2
  obtain ⟨w, hw, hrd⟩ := hr.get _ d hd
  exact sub_tail (IsL.isList ht).typeIs slot_list_getitem.lookup (wpAny_getItem_list (IsL.isList ht) h0 hhi (by rw [← Array.getElem?_toList]; exact hw) (hQ w _ hrd)) (hs _ _)
theorem OP.item_slot_last {value slice : Expr} {i : Nat} {xs : List PyData} {d : PyData} (hi : σ[i]? = some (.list xs)) (hd : xs.getLast? = some d)
    (hs : ∀ o i, subscripted slice false o i = operate [o, i] (getItem o i) := by intro _ _; rfl) :
    OP g n (op2 (subscriptTail value slice)) [.ref i, .dat (.int (-1))] σ (.dat d) σ := fun A μ s ws Q E R M V hQ => by
  obtain ⟨x, y, rfl, h1, h2⟩ := V.two
  obtain ⟨t, rfl⟩ := rd_int.mp (vr_dat.mp h2)
  obtain ⟨a, rfl, ha⟩ := h1
  obtain ⟨vs, m, hl, hz, hr⟩ := M.slots i a _ ha hi
  have e := hr.length
  have e2 : vs.toList.length = vs.size := Array.length_toList
  have e3 : xs.length = vs.size := e.trans e2
  clear e e2
  rw [List.getLast?_eq_getElem?] at hd
  obtain ⟨w, hw, hrd⟩ := hr.get _ d hd
  have hpos : 0 < xs.length := by have := (List.getElem?_eq_some_iff.mp hd).1; omega
  refine sub_tail (IsL.isList hl).typeIs slot_list_getitem.lookup (wpAny_getItem_list_neg (IsL.isList hl) (by decide) (by omega) (by decide) ?_ (hQ w _ μ .refl M hrd)) (hs _ _)
  rw [← Array.getElem?_toList, ← hw]; congr 1; omega

/-- slices -/
def PV (g : G) (n : Nat) (sc : Scope) (e : Option Expr) (ρ : List (Str × V)) (σ : List Slot) (p : Option Int) : Prop :=
  ∀ (A : Around) (env : Env) (μ : List Addr) (s : Shared) (Q : Value → Shared → Prop) (E : Value → Shared → Prop), Room n A → Frm g env sc μ ρ s.heap → Mem g μ σ s →
    (∀ w s' μ', Ext μ s.heap μ' s'.heap → Mem g μ' σ s' → IsPart w p → Q w s') → wpAny g.M A (evalPart e env) Q E s
theorem PV.none : PV g n sc none ρ σ none := fun A env μ s Q E _ _ M hQ => by rw [evalPart_none]; exact wpAny_pure (hQ _ s μ .refl M .none)
theorem PV.some {e : Expr} {i : Int} (h : EV g n sc e ρ σ (.dat (.int i)) σ) : PV g n sc (some e) ρ σ (some i) := fun A env μ s Q E R F M hQ => by
  rw [evalPart_some]
  refine h A env μ s Q E R F M fun w s' μ' x M' V' => ?_
  obtain ⟨t, rfl⟩ := rd_int.mp (vr_dat.mp V')
  exact hQ _ s' μ' x M' (.int i t)
def SL (g : G) (n : Nat) (value slice : Expr) (v₁ : V) (PL PU PS : Option Int) (σ : List Slot) (v : V) : Prop :=
  ∀ (A : Around) (μ : List Addr) (s : Shared) (w wl wu ws : Value) (Q : Value → Shared → Prop) (E : Value → Shared → Prop), Room n A → Mem g μ σ s → VR μ s.heap v₁ w → IsPart wl PL → IsPart wu PU → IsPart ws PS →
      (∀ w' s' , Ext μ s.heap μ s'.heap → Mem g μ σ s' → VR μ s'.heap v w' → Q w' s') →
      wpAny g.M A (subscriptTail value slice w (.ref s.heap.objs.size)) Q E { s with heap := s.heap.push { cls := .type "slice", data := .fields #[wl, wu, ws] } }
theorem EV.slice {value : Expr} {lower upper step : Option Expr} {p : Pos} {PL PU PS : Option Int} (h1 : EV g n sc value ρ σ v₁ σ₁)
    (hl : PV g n sc lower ρ σ₁ PL) (hu : PV g n sc upper ρ σ₁ PU) (hst : PV g n sc step ρ σ₁ PS) (h3 : SL g n value (.Slice lower upper step p) v₁ PL PU PS σ₁ v) :
    EV g n sc (.Subscript value (.Slice lower upper step p) pos) ρ σ v σ₁ := fun A env μ s Q E R F M hQ =>
  Subscript_ (h1 A env μ s _ E R F M fun w₁ s₁ μ₁ x₁ M₁ V₁ => wpAny_Slice (hl A env μ₁ s₁ _ E R (F.ext x₁) M₁ fun wl s₂ μ₂ x₂ M₂ pl =>
    hu A env μ₂ s₂ _ E R ((F.ext x₁).ext x₂) M₂ fun wu s₃ μ₃ x₃ M₃ pu => hst A env μ₃ s₃ _ E R (((F.ext x₁).ext x₂).ext x₃) M₃ fun ws s₄ μ₄ x₄ M₄ ps =>
    h3 A μ₄ s₄ w₁ wl wu ws Q E R M₄ (((V₁.ext x₂).ext x₃).ext x₄) pl pu ps fun w' s' x M' V' => hQ w' s' μ₄ (x₁.trans (x₂.trans (x₃.trans (x₄.trans x)))) M' V'))

theorem tup_from {value : Expr} {l u : Option Expr} {p : Pos} {xs : List PyData} {a : Nat} (h1 : 1 ≤ a) (ha : a ≤ xs.length) :
    SL g n value (.Slice l u none p) (.dat (.tuple xs)) (some (a : Int)) none none σ (.dat (.tuple (xs.drop a))) := fun A μ s w wl wu ws Q E R M V pl pu ps hQ => by
  obtain ⟨t, vs, m, rfl, hn, htx, hz, hr⟩ := rd_tuple.mp (vr_dat.mp V)
  have ht := isTup htx
  cases pl; cases pu; cases ps
  rename_i tk
  have e : xs.length = vs.size := hr.length.trans Array.length_toList
  have ht' := IsTuple.at' ht (h' := s.heap.push { cls := .type "slice", data := .fields #[.int (a : Int) tk, .none, .none] }) fun _ e => Heap.get?_push_of_some _ e
  refine sub_tail (s := { s with heap := s.heap.push { cls := .type "slice", data := .fields #[.int (a : Int) tk, .none, .none] } }) (IsTup.typeIs ht') slot_tuple_getitem.lookup
    (getItem_tuple_from ht' (Heap.IsSliceOf.new ..) h1 (by omega) ?_ hz) (show _ = operate [_, _] _ from rfl)
  have M1 := M.push { cls := .type "slice", data := .fields #[.int (a : Int) tk, .none, .none] }
  have M2 := M1.push { cls := .type "tuple", data := .seq (vs.toList.drop a).toArray }
  refine hQ _ _ ((Ext.push _).trans (.push _)) M2 (rd_tuple.mpr ⟨_, _, 0, rfl, M1.fresh, Heap.get?_push_size _ rfl, ?_, ?_⟩)
  · simp; omega
  · have : ∀ (k : Nat) (ds : List PyData) (ws : List Value), Rds μ s.heap ds ws → Rds μ s.heap (ds.drop k) (ws.drop k) := by
      intro k
      induction k with
      | zero => intro ds ws h; simpa using h
      | succ k ih =>
        intro ds ws h
        cases ds with
        | nil => rw [rds_nil] at h; subst h; simpa using rds_nil.mpr rfl
        | cons d ds => obtain ⟨w, r, rfl, h1, h2⟩ := rds_cons.mp h; simpa using ih ds r h2
    simpa using (this a _ _ hr).ext ((Ext.push _).trans (.push _))
end
end Mine
end PartB3
noncomputable section PartB4
open PySem PySem.W PyProof.Rows
set_option linter.all false
set_option maxRecDepth 20000
namespace Mine
section
variable {prog : Program} {w : World} {A : Around} {E : Value → Shared → Prop} {s : Shared}

theorem adjust_upto (b n : Nat) : Builtin.Slice.sliceAdjust none (some (b : Int)) 1 (n : Int) = (0, ((min b n : Nat) : Int)) := by
  unfold Builtin.Slice.sliceAdjust
  have h1 : ¬ ((1 : Int) < 0) := by omega
  have h2 : ¬ ((b : Int) < 0) := by omega
  simp only [h1, h2, if_false]
  congr 1
  omega
theorem places_upto (m : Nat) : Builtin.Slice.slicePlaces 0 (m : Int) 1 = m := by
  unfold Builtin.Slice.slicePlaces
  have h1 : (1 : Int) > 0 := by omega
  simp only [h1, if_true, Int.ediv_one]
  split <;> omega
theorem sliceApplied_upto {sl : Addr} {b n : Nat} {u : Tok} {Q : Int × Int × Nat → Shared → Prop} (hs : s.heap.IsSliceOf sl .none (.int b u) .none) (h : Q (0, 1, min b n) s) :
    wpAny (model prog w) A (Builtin.Slice.sliceApplied (.ref sl) (pure (n : Int))) Q E s := by
  obtain ⟨os, hos, hcs, hds⟩ := id hs
  unfold Builtin.Slice.sliceApplied Builtin.Slice.sliceFields
  refine wpAny_bind (wpAny_bind (wpAny_field hos hds (x := .none) rfl (wpAny_bind (wpAny_field hos hds (x := .int b u) rfl (wpAny_bind (wpAny_field hos hds (x := .none) rfl (wpAny_pure ?_)))))))
  refine wpAny_bind (slicePart_none ?_)
  show wpAny _ _ (if ((1 : Int) == 0) = true then _ else _) _ _ s
  rw [if_neg (by decide)]
  refine wpAny_bind (slicePart_none (wpAny_bind (slicePart_int (wpAny_bind (wpAny_pure ?_)))))
  show wpAny _ _ (match Builtin.Slice.sliceAdjust none (some (b : Int)) 1 (n : Int) with | (lo, hi) => pure (lo, (1 : Int), Builtin.Slice.slicePlaces lo hi 1)) _ _ s
  rw [adjust_upto b n]
  show wpAny _ _ (pure ((0 : Int), (1 : Int), Builtin.Slice.slicePlaces 0 ((min b n : Nat) : Int) 1)) _ _ s
  rw [places_upto]
  exact wpAny_pure h
theorem pick_upto (xs : Array Value) (m : Nat) : ((List.range m).filterMap fun (k : Nat) => xs[((0 : Int) + (k : Int) * 1).toNat]?).toArray = (xs.toList.take m).toArray := by
  have e : (fun (k : Nat) => xs[((0 : Int) + (k : Int) * 1).toNat]?) = fun k => xs[0 + k]? := by
    funext k
    have : ((0 : Int) + (k : Int) * 1).toNat = 0 + k := by omega
    rw [this]
  rw [e]
  have := pick_run xs 0 m
  rw [List.filterMap_map] at this
  have e2 : ((fun x => xs[x]?) ∘ fun x => 0 + x) = fun k => xs[0 + k]? := rfl
  rw [e2] at this
  rw [this, List.drop_zero]

theorem getItem_tuple_upto {t sl : Addr} {items : Array Value} {b : Nat} {u : Tok} {Q : Value → Shared → Prop} (ht : IsTup s.heap t items) (hs : s.heap.IsSliceOf sl .none (.int b u) .none)
    (h0 : items.size ≤ b → Q (.ref t) s)
    (h : b < items.size → Q (.ref s.heap.objs.size) { s with heap := s.heap.push { cls := .type "tuple", data := .seq (items.toList.take b).toArray } })
    (hsz : items.size ≤ sizeLine) : wpAny (model prog w) A (getItem (.ref t) (.ref sl)) Q E s := by
  have hdrop : sizeOk (.seq (items.toList.take (min b items.size)).toArray) := by
    show (items.toList.take (min b items.size)).toArray.size ≤ sizeLine
    rw [List.size_toArray, List.length_take, Array.length_toList]
    omega
  obtain ⟨os, hos, hcs, hds⟩ := id hs
  have hTs : s.TypeIs (.ref sl) "slice" := ⟨os, hos, hcs⟩
  have hTt : s.TypeIs (.ref t) "tuple" := IsTup.typeIs ht
  unfold getItem
  try with_reducible refine wpAny_holding ?_
  first | refine wpAny_bind (wpAny_pure ?_) | skip
  refine wpAny_bind (wpAny_sequenceKey ht.typeIs (by decide) ?_)
  refine wpAny_bind (wpAny_callSpecial?_slot (name := Str.ofString "__getitem__") ht.typeIs slot_tuple_getitem
    (wpAny_call_entry slot_tuple_getitem ht.typeIs entry_tuple_getitem ?_ (args_tuple_getitem _ _)))
  show wpAny _ _ (Builtin.Tuple.tupleItemsOf (.ref t) >>= _) _ _ s
  refine wpAny_bind (tupleItemsOf_ ht ?_)
  refine wpAny_bind (wpAny_typeOf hTs ?_)
  rw [if_pos (by decide)]
  refine wpAny_bind (sliceApplied_upto hs ?_)
  by_cases hb : items.size ≤ b
  · have hyes : (((0 : Int) == 0 && (1 : Int) == 1 && (min b items.size) == items.size) = true) := by
      have : min b items.size = items.size := by omega
      rw [this]; simp
    show wpAny _ _ (if ((0 : Int) == 0 && (1 : Int) == 1 && (min b items.size) == items.size) = true then _ else _) _ _ s
    rw [if_pos hyes]
    refine wpAny_bind (m := Builtin.Tuple.tupleIsExact _) ?_
    unfold Builtin.Tuple.tupleIsExact
    refine wpAny_bind (wpAny_typeOf hTt (wpAny_pure ?_))
    show wpAny _ _ (if (Value.type "tuple" == Value.type "tuple") = true then _ else _) _ _ s
    rw [if_pos (by decide)]
    have h := h0 hb
    first
      | exact wpAny_bind (wpAny_rule (wpAny_bind (wpAny_pure (wpAny_pure ⟨_, rfl, wpAny_pure h⟩))))
      | exact wpAny_bind (wpAny_rule (wpAny_bind (wpAny_pure ⟨_, rfl, wpAny_pure h⟩)))
      | exact wpAny_bind (wpAny_rule (wpAny_pure ⟨_, rfl, wpAny_pure h⟩))
      | fail "no road"
  · have hno : ¬ (((0 : Int) == 0 && (1 : Int) == 1 && (min b items.size) == items.size) = true) := by
      have : ((min b items.size) == items.size) = false := by rw [beq_eq_false_iff_ne]; omega
      rw [this]; simp
    have hmin : min b items.size = b := by omega
    rw [hmin] at hdrop
    show wpAny _ _ (if ((0 : Int) == 0 && (1 : Int) == 1 && (min b items.size) == items.size) = true then _ else _) _ _ s
    rw [if_neg hno, hmin, pick_upto items b]
    have h := h (by omega)
    first
      | exact wpAny_bind (m := Builtin.Tuple.tupleExact _) (wpAny_newObj_type (wpAny_pure ⟨_, rfl, wpAny_pure h⟩) hdrop)
      | exact wpAny_bind (m := Builtin.Tuple.tupleExact _) (wpAny_newObj_type (wpAny_bind (wpAny_pure (wpAny_pure ⟨_, rfl, wpAny_pure h⟩))) hdrop)
      | exact wpAny_bind (wpAny_bind (m := Builtin.Tuple.tupleExact _) (wpAny_newObj_type (wpAny_pure (wpAny_pure ⟨_, rfl, wpAny_pure h⟩)) hdrop))
      | exact wpAny_bind (wpAny_bind (m := Builtin.Tuple.tupleExact _) (wpAny_newObj_type (wpAny_pure ⟨_, rfl, wpAny_pure h⟩) hdrop))
end
mutual
theorem reads_of {μ : List Addr} {h : Heap} : ∀ (d : PyData) (w : Value), Rd μ h d w → ∃ as, Reads h w d as
  | .none, w, e => by rw [rd_none] at e; subst e; exact ⟨_, .none⟩
  | .bool b, w, e => by rw [rd_bool] at e; subst e; exact ⟨_, .bool b⟩
  | .int i, w, e => by rw [rd_int] at e; obtain ⟨t, rfl⟩ := e; exact ⟨_, .int i t⟩
  | .str x, w, e => by rw [rd_str] at e; obtain ⟨t, rfl⟩ := e; exact ⟨_, .str x t⟩
  | .tuple xs, w, e => by
    rw [rd_tuple] at e
    obtain ⟨a, vs, n, rfl, hn, ho, hs, hr⟩ := e
    obtain ⟨as, ha⟩ := readsAll_of xs _ hr
    exact ⟨_, .tuple ho rfl rfl ha⟩
  | .list xs, w, e => by
    rw [rd_list] at e
    obtain ⟨a, vs, n, rfl, hn, ho, hs, hr⟩ := e
    obtain ⟨as, ha⟩ := readsAll_of xs _ hr
    exact ⟨_, .list ho rfl rfl ha⟩
  | .dict _, w, e => by rw [Rd] at e; exact e.elim
theorem readsAll_of {μ : List Addr} {h : Heap} : ∀ (ds : List PyData) (ws : List Value), Rds μ h ds ws → ∃ as, ReadsAll h ws ds as
  | [], ws, e => by rw [rds_nil] at e; subst e; exact ⟨_, .nil⟩
  | d :: ds, ws, e => by
    rw [rds_cons] at e
    obtain ⟨w, r, rfl, e1, e2⟩ := e
    obtain ⟨as, ha⟩ := reads_of d w e1
    obtain ⟨bs, hb⟩ := readsAll_of ds r e2
    exact ⟨_, .cons ha hb⟩
end

/-- what a value holds -/
def cont (σ : List Slot) : V → Option PyData
  | .dat d => some d
  | .ref i => match σ[i]? with
    | some (.list xs) => some (.list xs)
    | _ => none
section
variable {g : G} {n : Nat} {sc : Scope} {ρ : List (Str × V)} {σ σ₁ σ₂ σ₃ : List Slot} {pos : Pos} {v v₁ v₂ : V} {A : Around} {env : Env} {μ : List Addr} {s : Shared} {E : Value → Shared → Prop}

theorem cont_reads {d : PyData} {w : Value} (M : Mem g μ σ s) (hc : cont σ v = some d) (hv : VR μ s.heap v w) : ∃ as, Reads s.heap w d as := by
  cases v with
  | dat d' => cases hc; exact reads_of _ _ hv
  | ref i =>
    obtain ⟨a, rfl, ha⟩ := hv
    simp only [cont] at hc
    split at hc
    · rename_i xs hi
      cases hc
      obtain ⟨vs, m, hl, hz, hr⟩ := M.slots i a _ ha hi
      obtain ⟨as, hh⟩ := readsAll_of _ _ hr
      exact ⟨_, .list hl rfl rfl hh⟩
    · cases hc

structure Fine (d : PyData) : Prop where
  lay : d.canLay0 = true
  dep : d.depth ≤ 3000
theorem OP.eq {d₁ d₂ : PyData} (c1 : cont σ v₁ = some d₁) (c2 : cont σ v₂ = some d₂) (f1 : Fine d₁) (f2 : Fine d₂) : OP g n (op2 (compareOp .Eq)) [v₁, v₂] σ (.dat (.bool (PyData.eqv d₁ d₂))) σ := fun A μ s ws Q E R M V hQ => by
  obtain ⟨x, y, rfl, h1, h2⟩ := V.two
  obtain ⟨as, ra⟩ := cont_reads M c1 h1
  obtain ⟨bs, rb⟩ := cont_reads M c2 h2
  refine SeqAt.compareEq_reads ra rb f1.lay f2.lay ?_ (hQ _ s μ .refl M .b)
  have := R.uni; have := f1.dep; have : cLine = 9900 := rfl; omega
theorem OP.ne {d₁ d₂ : PyData} (c1 : cont σ v₁ = some d₁) (c2 : cont σ v₂ = some d₂) (f1 : Fine d₁) (f2 : Fine d₂) : OP g n (op2 (compareOp .NotEq)) [v₁, v₂] σ (.dat (.bool (!PyData.eqv d₁ d₂))) σ := fun A μ s ws Q E R M V hQ => by
  obtain ⟨x, y, rfl, h1, h2⟩ := V.two
  obtain ⟨as, ra⟩ := cont_reads M c1 h1
  obtain ⟨bs, rb⟩ := cont_reads M c2 h2
  refine SeqAt.compareNe_reads ra rb f1.lay f2.lay ?_ (hQ _ s μ .refl M .b)
  have := R.uni; have := f1.dep; have : cLine = 9900 := rfl; omega
theorem OP.in_tup {xs : List PyData} {d : PyData} (f1 : Fine (.tuple xs)) (f2 : Fine d) : OP g n (op2 (compareOp .In)) [.dat d, .dat (.tuple xs)] σ (.dat (.bool (xs.any fun y => PyData.eqv y d))) σ := .pure2 fun A μ s w₁ w₂ Q E R h1 h2 _ hQ => by
  obtain ⟨as, ra⟩ := reads_of _ _ h2
  obtain ⟨bs, rb⟩ := reads_of _ _ h1
  refine SeqAt.in_tuple_reads ra rb (by simpa [PyData.canLay0] using f1.lay) f2.lay ?_ (hQ _ s.toks (rd_bool.mpr rfl))
  have := R.uni; have := f2.dep; have : cLine = 9900 := rfl; omega
theorem OP.notIn_tup {xs : List PyData} {d : PyData} (f1 : Fine (.tuple xs)) (f2 : Fine d) : OP g n (op2 (compareOp .NotIn)) [.dat d, .dat (.tuple xs)] σ (.dat (.bool (!xs.any fun y => PyData.eqv y d))) σ := .pure2 fun A μ s w₁ w₂ Q E R h1 h2 _ hQ => by
  obtain ⟨as, ra⟩ := reads_of _ _ h2
  obtain ⟨bs, rb⟩ := reads_of _ _ h1
  refine SeqAt.notIn_tuple_reads ra rb (by simpa [PyData.canLay0] using f1.lay) f2.lay ?_ (hQ _ s.toks (rd_bool.mpr rfl))
  have := R.uni; have := f2.dep; have : cLine = 9900 := rfl; omega
theorem OP.notIn_lst {xs : List PyData} {d : PyData} (f1 : Fine (.list xs)) (f2 : Fine d) : OP g n (op2 (compareOp .NotIn)) [.dat d, .dat (.list xs)] σ (.dat (.bool (!xs.any fun y => PyData.eqv y d))) σ := .pure2 fun A μ s w₁ w₂ Q E R h1 h2 _ hQ => by
  obtain ⟨as, ra⟩ := reads_of _ _ h2
  obtain ⟨bs, rb⟩ := reads_of _ _ h1
  refine SeqAt.notIn_list_reads ra rb (by simpa [PyData.canLay0] using f1.lay) f2.lay ?_ (hQ _ s.toks (rd_bool.mpr rfl))
  have := R.uni; have := f2.dep; have : cLine = 9900 := rfl; omega

theorem rds_take {h : Heap} : ∀ (k : Nat) {ds : List PyData} {ws : List Value}, Rds μ h ds ws → Rds μ h (ds.take k) (ws.take k)
  | 0, ds, ws, e => by simpa using rds_nil.mpr rfl
  | k + 1, [], ws, e => by rw [rds_nil] at e; subst e; simpa using rds_nil.mpr rfl
  | k + 1, d :: ds, ws, e => by obtain ⟨w, r, rfl, h1, h2⟩ := rds_cons.mp e; simpa using rds_cons.mpr ⟨w, _, rfl, h1, rds_take k h2⟩
theorem rds_reverse {h : Heap} : ∀ {ds : List PyData} {ws : List Value}, Rds μ h ds ws → Rds μ h ds.reverse ws.reverse
  | [], ws, e => by rw [rds_nil] at e; subst e; simpa using rds_nil.mpr rfl
  | d :: ds, ws, e => by
    obtain ⟨w, r, rfl, h1, h2⟩ := rds_cons.mp e
    simpa using (rds_reverse h2).append (rds_cons.mpr ⟨w, [], rfl, h1, rds_nil.mpr rfl⟩)
theorem tup_upto {value : Expr} {l u : Option Expr} {p : Pos} {xs : List PyData} {b : Nat} :
    SL g n value (.Slice l u none p) (.dat (.tuple xs)) none (some (b : Int)) none σ (.dat (.tuple (xs.take b))) := fun A μ s w wl wu ws Q E R M V pl pu ps hQ => by
  obtain ⟨t, vs, m, rfl, hn, htx, hz, hr⟩ := rd_tuple.mp (vr_dat.mp V)
  have ht := isTup htx
  cases pl; cases pu; cases ps
  rename_i tk
  have e : xs.length = vs.size := hr.length.trans Array.length_toList
  have ht' := IsTuple.at' ht (h' := s.heap.push { cls := .type "slice", data := .fields #[.none, .int (b : Int) tk, .none] }) fun _ e => Heap.get?_push_of_some _ e
  have M1 := M.push { cls := .type "slice", data := .fields #[.none, .int (b : Int) tk, .none] }
  refine sub_tail (s := { s with heap := s.heap.push { cls := .type "slice", data := .fields #[.none, .int (b : Int) tk, .none] } }) (IsTup.typeIs ht') slot_tuple_getitem.lookup
    (getItem_tuple_upto ht' (Heap.IsSliceOf.new ..) (fun hb => ?_) (fun hb => ?_) hz) (show _ = operate [_, _] _ from rfl)
  · have : xs.take b = xs := List.take_of_length_le (by omega)
    rw [this] at hQ
    exact hQ _ _ (Ext.push _) M1 (rd_tuple.mpr ⟨t, vs, m, rfl, hn, Heap.get?_push_of_some _ htx, hz, hr.ext (.push _)⟩)
  · have M2 := M1.push { cls := .type "tuple", data := .seq (vs.toList.take b).toArray }
    refine hQ _ _ ((Ext.push _).trans (.push _)) M2 (rd_tuple.mpr ⟨_, _, 0, rfl, M1.fresh, Heap.get?_push_size _ rfl, ?_, ?_⟩)
    · simp; omega
    · simpa using (rds_take b hr).ext ((Ext.push _).trans (.push _))
/-- slices of lists -/
theorem lst_slice {value : Expr} {l u st : Option Expr} {p : Pos} {xs ys : List PyData} {PL PU PS : Option Int} (c1 : cont σ v₁ = some (.list xs)) (h0 : PS ≠ some 0)
    (hp : ∀ {h : Heap} {vs : Array Value}, Rds μ h xs vs.toList → True) (hs : ∀ o i, ∃ ops, subscripted (.Slice l u st p) false o i = operate ops (getItem o i))
    (hpick : ∀ (μ : List Addr) (h : Heap) (vs : Array Value), Rds μ h xs vs.toList → Rds μ h ys (slicePick vs PL PU PS).toList) :
    SL g n value (.Slice l u st p) v₁ PL PU PS σ (.dat (.list ys)) := fun A μ s w wl wu ws Q E R M V pl pu ps hQ => by
  obtain ⟨t, vs, m, rfl, ht, hz, hr⟩ : ∃ t vs m, w = .ref t ∧ IsL s.heap t vs m ∧ vs.size ≤ sizeLine ∧ Rds μ s.heap xs vs.toList := by
    cases v₁ with
    | dat d => cases c1; obtain ⟨t, vs, m, rfl, _, ht, hz, hr⟩ := rd_list.mp (vr_dat.mp V); exact ⟨t, vs, m, rfl, ht, hz, hr⟩
    | ref i =>
      obtain ⟨a, rfl, ha⟩ := V
      simp only [cont] at c1
      split at c1
      · rename_i hi; cases c1; obtain ⟨vs, m, hl, hz, hr⟩ := M.slots i a _ ha hi; exact ⟨a, vs, m, rfl, hl, hz, hr⟩
      · cases c1
  have M1 := M.push { cls := .type "slice", data := .fields #[wl, wu, ws] }
  have ht' := IsL.isList (IsL.push ht { cls := .type "slice", data := .fields #[wl, wu, ws] })
  obtain ⟨ops, hops⟩ := hs (.ref t) (.ref s.heap.objs.size)
  refine sub_tail (s := { s with heap := s.heap.push { cls := .type "slice", data := .fields #[wl, wu, ws] } }) ht'.typeIs list_getitem_lookup
    (wpAny_getItem_list_slice ht' (Heap.IsSliceOf.new ..) pl pu ps h0 ?_ hz) hops
  have M2 := M1.push { cls := .type "list", data := .seq (slicePick vs PL PU PS) }
  have hy := hpick μ s.heap vs hr
  exact hQ _ _ ((Ext.push _).trans (.push _)) M2 (rd_list.mpr ⟨_, _, 0, rfl, M1.fresh, IsL.new _ _, Nat.le_trans (slicePick_size_le ..) hz, hy.ext ((Ext.push _).trans (.push _))⟩)
theorem lst_rev {value : Expr} {st : Expr} {p : Pos} {xs : List PyData} (c1 : cont σ v₁ = some (.list xs)) : SL g n value (.Slice none none (some st) p) v₁ none none (some (-1)) σ (.dat (.list xs.reverse)) :=
  lst_slice (μ := []) c1 (by decide) (fun _ => trivial) (fun o i => ⟨[o, i], rfl⟩) fun μ h vs hr => by rw [krv_pick]; simpa using rds_reverse hr
end
end Mine
end PartB4
noncomputable section PartC1
open PySem PySem.W PyProof.Rows
set_option linter.all false
set_option maxRecDepth 20000
namespace Mine

def vrefs : V → List Nat
  | .ref i => [i]
  | .dat _ => []
def Slot.refs : Slot → List Nat
  | .list _ => []
  | .sdict kvs => kvs.flatMap fun p => vrefs p.2
  | .tdict kvs => kvs.flatMap fun p => vrefs p.2
  | .odict kvs => kvs.flatMap fun p => vrefs p.2
  | .inst _ j => [j]

section
variable {g : G} {μ μ' : List Addr} {h h' : Heap}

/-- slots are dropped: the store keeps its first k -/
structure Cut (k : Nat) (μ : List Addr) (h : Heap) (μ' : List Addr) (h' : Heap) : Prop extends Lives μ h μ' h' where
  get : ∀ (i : Nat) (a : Addr), i < k → μ[i]? = some a → μ'[i]? = some a
theorem VR.cut {k : Nat} (x : Cut k μ h μ' h') {v : V} {w : Value} (hk : ∀ i ∈ vrefs v, i < k) (e : VR μ h v w) : VR μ' h' v w := by
  cases v with
  | ref i => obtain ⟨a, rfl, e⟩ := e; exact ⟨a, rfl, x.get _ _ (hk i (by simp [vrefs])) e⟩
  | dat d => exact Rd.lives x.toLives d w e
theorem SPairs.cut {k : Nat} (x : Cut k μ h μ' h') {a b} (e : SPairs μ h a b) (hk : ∀ i ∈ a.flatMap fun p => vrefs p.2, i < k) : SPairs μ' h' a b := by
  induction e with
  | nil => exact .nil
  | cons v _ ih =>
    simp only [List.flatMap_cons, List.mem_append] at hk
    exact .cons (v.cut x fun i hi => hk i (.inl hi)) (ih fun i hi => hk i (.inr hi))
theorem OEnts.cut {k : Nat} (x : Cut k μ h μ' h') {a b} (e : OEnts μ h a b) (hk : ∀ i ∈ a.flatMap fun p => vrefs p.2, i < k) : OEnts μ' h' a b := by
  induction e with
  | nil => exact .nil
  | cons v _ ih =>
    simp only [List.flatMap_cons, List.mem_append] at hk
    exact .cons (v.cut x fun i hi => hk i (.inl hi)) (ih fun i hi => hk i (.inr hi))
theorem TPairs.cut {k : Nat} (x : Cut k μ h μ' h') {a b} (e : TPairs μ h a b) (hk : ∀ i ∈ a.flatMap fun p => vrefs p.2, i < k) (ht : ∀ y ∈ b, ∃ vs, h.IsTuple y.2.1 vs) : TPairs μ' h' a b := by
  induction e with
  | nil => exact .nil
  | cons n1 v _ ih =>
    simp only [List.flatMap_cons, List.mem_append] at hk
    obtain ⟨vs, htt⟩ := ht _ (List.mem_cons_self ..)
    exact .cons (x.tup _ vs n1 htt).1 (v.cut x fun i hi => hk i (.inl hi)) (ih (fun i hi => hk i (.inr hi)) fun y hy => ht y (List.mem_cons_of_mem _ hy))
theorem SlotAt.cut {k : Nat} (x : Cut k μ h μ' h') {a : Addr} (kp : ∀ o, h.get? a = some o → h'.get? a = some o) {sl : Slot} (hk : ∀ i ∈ sl.refs, i < k) (e : SlotAt g μ h a sl) : SlotAt g μ' h' a sl := by
  cases sl with
  | list xs => obtain ⟨vs, n, hl, hs, hr⟩ := e; exact ⟨vs, n, kp _ hl, hs, Rds.lives x.toLives _ _ hr⟩
  | sdict kvs =>
    obtain ⟨hsys, ks, ⟨o, es, ep, ho, r⟩, hp⟩ := e
    exact ⟨hsys, ks, ⟨o, es, ep, kp _ ho, r⟩, hp.cut x hk⟩
  | tdict kvs =>
    obtain ⟨hsys, xs, ⟨o, es, ep, ho, hc, hd, he, hkk, hn⟩, hp⟩ := e
    refine ⟨hsys, xs, ⟨o, es, ep, kp _ ho, hc, hd, he, fun y hy => ?_, hn⟩, ?_⟩
    · obtain ⟨o', items, n', h1, h2, h3, h4⟩ := hkk y hy
      obtain ⟨_, o'', e1, e2, n'', e3⟩ := x.tup y.2.1 items (hp.notin y hy) ⟨o', h1, h2, n', h3⟩
      exact ⟨o'', items, n'', e1, e2, e3, h4⟩
    · refine hp.cut x hk fun y hy => ?_
      obtain ⟨o', items, n', h1, h2, h3, h4⟩ := hkk y hy
      exact ⟨items, o', h1, h2, n', h3⟩
  | odict as => obtain ⟨es, n, ho, hp⟩ := e; exact ⟨es, n, kp _ ho, hp.cut x hk⟩
  | inst C j => obtain ⟨dx, hj, ho⟩ := e; exact ⟨dx, x.get _ _ (hk j (by simp [Slot.refs])) hj, kp _ ho⟩

theorem VRs.length {vs : List V} {ws : List Value} (e : VRs μ h vs ws) : vs.length = ws.length := by
  induction e with
  | nil => rfl
  | cons _ _ ih => simp [ih]
theorem SPairs.lt {a b} (e : SPairs μ h a b) : ∀ i ∈ a.flatMap fun p => vrefs p.2, i < μ.length := by
  induction e with
  | nil => simp
  | @cons k v w kvs kws hv _ ih =>
    intro i hi
    simp only [List.flatMap_cons, List.mem_append] at hi
    rcases hi with hi | hi
    · cases v with
      | ref j => simp [vrefs] at hi; subst hi; obtain ⟨a, _, e⟩ := hv; exact (List.getElem?_eq_some_iff.mp e).1
      | dat d => simp [vrefs] at hi
    · exact ih i hi
theorem TPairs.lt {a b} (e : TPairs μ h a b) : ∀ i ∈ a.flatMap fun p => vrefs p.2, i < μ.length := by
  induction e with
  | nil => simp
  | @cons k v a w kvs kws _ hv _ ih =>
    intro i hi
    simp only [List.flatMap_cons, List.mem_append] at hi
    rcases hi with hi | hi
    · cases v with
      | ref j => simp [vrefs] at hi; subst hi; obtain ⟨a, _, e⟩ := hv; exact (List.getElem?_eq_some_iff.mp e).1
      | dat d => simp [vrefs] at hi
    · exact ih i hi
theorem OEnts.lt {a b} (e : OEnts μ h a b) : ∀ i ∈ a.flatMap fun p => vrefs p.2, i < μ.length := by
  induction e with
  | nil => simp
  | @cons x t k v w as es hv _ ih =>
    intro i hi
    simp only [List.flatMap_cons, List.mem_append] at hi
    rcases hi with hi | hi
    · cases v with
      | ref j => simp [vrefs] at hi; subst hi; obtain ⟨a, _, e⟩ := hv; exact (List.getElem?_eq_some_iff.mp e).1
      | dat d => simp [vrefs] at hi
    · exact ih i hi
theorem SlotAt.lt {a : Addr} {sl : Slot} (e : SlotAt g μ h a sl) : ∀ i ∈ sl.refs, i < μ.length := by
  cases sl with
  | list xs => simp [Slot.refs]
  | sdict kvs => obtain ⟨_, ks, _, hp⟩ := e; exact hp.lt
  | tdict kvs => obtain ⟨_, ks, _, hp⟩ := e; exact hp.lt
  | odict kvs => obtain ⟨ks, _, _, hp⟩ := e; exact hp.lt
  | inst C j => obtain ⟨dx, hj, _⟩ := e; intro i hi; simp [Slot.refs] at hi; subst hi; exact (List.getElem?_eq_some_iff.mp hj).1
/-- all references of a store lie in it -/
def Closed (σ : List Slot) : Prop := ∀ sl ∈ σ, ∀ i ∈ sl.refs, i < σ.length
theorem Mem.closed {σ : List Slot} {s : Shared} (M : Mem g μ σ s) : Closed σ := fun sl hsl i hi => by
  obtain ⟨j, hj, e⟩ := List.mem_iff_getElem.mp hsl
  have hj' : j < μ.length := by rw [M.len]; exact hj
  have := (M.slots j μ[j] sl (List.getElem?_eq_getElem hj') (by rw [List.getElem?_eq_getElem hj, e])).lt i hi
  rwa [M.len] at this

theorem take_get {α : Type} {l : List α} {k i : Nat} (hi : i < k) : (l.take k)[i]? = l[i]? := by
  rw [List.getElem?_take]; simp [hi]
theorem Cut.take {k : Nat} : Cut k μ h (μ.take k) h :=
  ⟨⟨fun a o vs n hn e _ => ⟨fun hm => hn (List.mem_of_mem_take hm), e⟩⟩, fun i a hi e => (take_get hi).trans e⟩
theorem Mem.cut {σ τ : List Slot} {s : Shared} (M : Mem g μ (σ ++ τ) s) (hc : Closed σ) : Mem g (μ.take σ.length) σ s := by
  have hle : σ.length ≤ μ.length := by rw [M.len]; simp
  refine ⟨M.base, M.gens, M.os, by simp; omega, M.nd.sublist (List.take_sublist ..), fun a ha => M.lo a (List.mem_of_mem_take ha), fun i a x e1 e2 => ?_⟩
  have hi : i < σ.length := (List.getElem?_eq_some_iff.mp e2).1
  rw [take_get hi] at e1
  exact (M.slots i a x e1 (by rw [List.getElem?_append_left hi]; exact e2)).cut Cut.take (fun _ e => e) (fun j hj => hc x (List.mem_of_getElem? e2) j hj)

/-- a value as it leaves a function: slots behind the first k are dropped -/
inductive Fz (k : Nat) (τ : List Slot) : V → V → Prop
  | dat (d : PyData) : Fz k τ (.dat d) (.dat d)
  | ref {i : Nat} : i < k → Fz k τ (.ref i) (.ref i)
  | list {j : Nat} {xs : List PyData} : τ[j]? = some (.list xs) → Fz k τ (.ref (k + j)) (.dat (.list xs))
theorem Fz.vr {σ τ : List Slot} {s : Shared} {v v' : V} {w : Value} (f : Fz σ.length τ v v') (M : Mem g μ (σ ++ τ) s) (e : VR μ s.heap v w) : VR (μ.take σ.length) s.heap v' w := by
  cases f with
  | dat d => exact e.cut (k := σ.length) Cut.take (by simp [vrefs])
  | ref hi => exact e.cut (k := σ.length) Cut.take (by simpa [vrefs] using hi)
  | @list j xs hj =>
    obtain ⟨a, rfl, ha⟩ := e
    obtain ⟨vs, n, hl, hz, hr⟩ := M.slots _ a (.list xs) ha (by rw [List.getElem?_append_right (by omega)]; simpa using hj)
    refine rd_list.mpr ⟨a, vs, n, rfl, fun hm => ?_, hl, hz, Rds.lives (Cut.take (k := σ.length)).toLives _ _ hr⟩
    obtain ⟨i, hi, e⟩ := List.mem_iff_getElem.mp hm
    simp only [List.length_take] at hi
    rw [List.getElem_take] at e
    have := (List.getElem_inj (h₀ := (by omega)) (h₁ := (List.getElem?_eq_some_iff.mp ha).1) M.nd).mp (e.trans (List.getElem?_eq_some_iff.mp ha).2.symm)
    omega
end

section
variable {kindOf : Str → Option NameKind}
theorem bindL_out : ∀ (ps : List Str) (ws : List Value) (m : Str → Option Value) (x : Str), x ∉ ps → bindL kindOf (ps.zip ws) m x = m x
  | [], ws, m, x, _ => rfl
  | p :: ps, [], m, x, _ => rfl
  | p :: ps, w :: ws, m, x, hx => by
    simp only [List.mem_cons, not_or] at hx
    show bindL kindOf (ps.zip ws) _ x = _
    rw [bindL_out ps ws _ x hx.2]
    split
    · simp [hx.1]
    · rfl
theorem bindC_out : ∀ (ps : List Str) (ws : List Value) (m : Str → Option Value) (x : Str), x ∉ ps → bindC kindOf (ps.zip ws) m x = m x
  | [], ws, m, x, _ => rfl
  | p :: ps, [], m, x, _ => rfl
  | p :: ps, w :: ws, m, x, hx => by
    simp only [List.mem_cons, not_or] at hx
    show bindC kindOf (ps.zip ws) _ x = _
    rw [bindC_out ps ws _ x hx.2]
    split
    · rfl
    · simp [hx.1]
theorem binds_at {μ : List Addr} {h : Heap} : ∀ (ps : List Str) (vs : List V) (ws : List Value) (m c : Str → Option Value) (x : Str) (v : V), ps.Nodup → VRs μ h vs ws → (ps.zip vs).lookup x = some v →
    ∃ w, VR μ h v w ∧ (kindOf x = some .local → bindL kindOf (ps.zip ws) m x = some w) ∧ (kindOf x ≠ some .local → bindC kindOf (ps.zip ws) c x = some w)
  | [], vs, ws, m, c, x, v, _, _, e => by simp at e
  | p :: ps, [], ws, m, c, x, v, _, _, e => by simp at e
  | p :: ps, u :: vs, ws, m, c, x, v, nd, V, e => by
    cases V with
    | @cons _ _ w ws hw hV =>
      have nd' := List.nodup_cons.mp nd
      rw [List.zip_cons_cons, lookup_cons'] at e
      by_cases hx : x = p
      · subst hx; rw [if_pos rfl] at e; cases e
        refine ⟨w, hw, fun hl => ?_, fun hl => ?_⟩
        · show bindL kindOf (ps.zip ws) _ x = _
          rw [bindL_out _ _ _ _ nd'.1, if_pos hl]; simp
        · show bindC kindOf (ps.zip ws) _ x = _
          rw [bindC_out _ _ _ _ nd'.1, if_neg hl]; simp
      · rw [if_neg hx] at e
        exact binds_at ps vs ws _ _ x v nd'.2 hV e
end

section
variable {g : G} {n : Nat} {sc : Scope} {σ σ' τ : List Slot} {v v' : V}

theorem lookup_mem {α : Type} {x : Str} {c : α} : ∀ {l : List (Str × α)}, l.lookup x = some c → (x, c) ∈ l
  | (y, d) :: l, e => by
    rw [List.lookup_cons] at e
    by_cases hxy : x = y
    · subst hxy; simp at e; subst e; exact .head _
    · have : (x == y) = false := by simpa using hxy
      rw [this] at e; exact .tail _ (lookup_mem e)
theorem pairwise_inj {x y : Str} {c : Addr} {l : List (Str × Addr)} (hp : l.Pairwise fun x y => x.2 ≠ y.2) (h1 : (x, c) ∈ l) (h2 : (y, c) ∈ l) : x = y := by
  induction l with
  | nil => cases h1
  | cons p l ih =>
    obtain ⟨hp1, hp2⟩ := List.pairwise_cons.mp hp
    rcases List.mem_cons.mp h1 with rfl | q1
    · rcases List.mem_cons.mp h2 with e | q2
      · cases e; rfl
      · exact (hp1 (y, c) q2 rfl).elim
    · rcases List.mem_cons.mp h2 with rfl | q2
      · exact (hp1 (x, c) q1 rfl).elim
      · exact ih hp2 q1 q2

/-- how a body may end -/
inductive Ends (k : Nat) (σ' τ : List Slot) : Outc → V → Prop
  | ret {v v' : V} : Fz k τ v v' → Ends k σ' τ (.ret v (σ' ++ τ)) v'
  | fall {ρ : List (Str × V)} : Ends k σ' τ (.next ρ (σ' ++ τ)) (.dat .none)

/-- a call as a code -/
def FNc (g : G) (n : Nat) (f : Value) (args : List V) (σ : List Slot) (v : V) (σ' : List Slot) : Prop :=
  ∀ (A : Around) (μ : List Addr) (s : Shared) (ws : List Value) (P : Result → Shared → Prop), Room n A → Mem g μ σ s → VRs μ s.heap args ws →
    (∀ w s' μ', Ext μ s.heap μ' s'.heap → Mem g μ' σ' s' → VR μ' s'.heap v w → P (.ok (.ret w)) s') → codeAny g.M A (.call f ⟨ws, []⟩) P s
theorem FNc.fn {f : Value} {args : List V} (h : FNc g n f args σ v σ') : FN g n f args σ v σ' := fun A μ s ws Q E R M V hQ => wpAny_call (h A μ s ws _ R M V hQ)
theorem FNc_core {fa : Addr} {oc : Value} {od : Option Addr} {osl : Array (Option Value)} {fd : FuncData} {body : List Stmt} {ps : List Str} {args : List V} {o : Outc}
    (ho : g.K.lookup fa = some ⟨oc, od, .func fd, osl⟩) (hbody : fd.body = .stmts body) (hsc : fd.scope = sc) (hgl : fd.globals = mainGlobals) (hclo : fd.closure = []) (hbu : fd.builtins = builtinsNs)
    (hcd : codeIn g.K fd.code fd.qualname = true) (hco : sc.isCoroutine = false) (hgen : sc.isGenerator = false) (hk : sc.kind = .function)
    (hps : ps.Nodup) (hlen : args.length = ps.length) (hbind : ∀ ws : List Value, ws.length = ps.length → bindArgs fd ⟨ws, []⟩ = pure (ps.zip ws))
    (hkind : ∀ x ∈ ps, sc.names.lookup x = some .local ∨ sc.names.lookup x = some .cell) (hnd : ((cellsFrom 0 sc.names []).map (·.1)).Nodup)
    (h : EL g n sc body (ps.zip args) σ o) (he : Ends σ'.length σ' τ o v) (hl : σ.length ≤ σ'.length) (hc : Closed σ → Closed σ') :
    FNc g (n + 1) (.ref fa) args σ v σ' := by
  intro A μ s ws P R M V hQ
  have hwl : ws.length = args.length := V.length.symm
  subst hsc
  refine codeAny_call_function (by have := R.dep; show A.depth < 1000; omega) (M.base _ _ (g.X _ _ ho)) rfl hco hgen hbody (codeRec_of (fun a o e => M.base _ _ (g.X a o e)) hcd) ?_
  rw [hbind ws (hwl.trans hlen), hclo]
  refine wpAny_pure (wpAny_newFunctionEnv_cells hk (fun x hx => ?_) fun env henv s' X => ?_)
  · have hx' : x.1 ∈ ps := (List.of_mem_zip (show (x.1, x.2) ∈ ps.zip ws from hx)).1
    exact (hkind _ hx').imp id fun e => ⟨e, cellsFrom_some _ _ _ (.inl e)⟩
  · obtain ⟨h₁, tk, rfl, kp⟩ := X.done
    have hLs : env.locals = s.heap.objs.size := by rw [henv]; rfl
    have hM : Mem g μ σ { s with heap := h₁, toks := tk } := M.grow kp
    have hx : Ext μ s.heap μ h₁ := Ext.of_keep kp
    have big : ∀ a, s.heap.objs.size ≤ a → s.heap.get? a = none := fun a ha => by
      cases q : s.heap.get? a with
      | none => rfl
      | some o => exact absurd (Heap.lt_size q) (Nat.not_lt.mpr ha)
    refine ⟨(g.T.nolimit.keeps M.base).keeps kp, codeAny_func ?_⟩
    have hF : Frm g env fd.scope μ (ps.zip args) h₁ := by
      refine ⟨by rw [henv]; rfl, hk, by rw [henv]; exact hgl, by rw [henv]; exact hbu, by rw [hLs]; exact M.lo_of size_none, by rw [hLs]; exact M.fresh, fun x c e => ?_, fun x y c e1 e2 => ?_, fun x e => ?_, _, X.toInCall.ns, fun x v e => ?_⟩
      · have ha := X.above x c (lookup_mem e)
        rw [hLs] at ha ⊢
        exact ⟨M.fresh_of (big c (Nat.le_of_lt ha)), Nat.ne_of_gt ha, M.lo_of (big c (Nat.le_of_lt ha)), _, X.cell x c e⟩
      · exact pairwise_inj X.apart (lookup_mem e1) (lookup_mem e2)
      · have e' : fd.scope.names.lookup x = some .cell := by rw [← e, Env.kindOf, henv]; rfl
        have := cellsFrom_some fd.scope.names (s.heap.objs.size + 1) [] (x := x) (.inl e')
        obtain ⟨c, hc⟩ := Option.isSome_iff_exists.mp this
        exact ⟨c, by rw [henv]; exact hc⟩
      · have hxp : x ∈ ps := (List.of_mem_zip (lookup_mem e)).1
        obtain ⟨w, hw, b1, b2⟩ := binds_at (kindOf := env.kindOf) ps args ws (fun _ => none) (fun _ => none) x v hps (V.ext hx) e
        refine ⟨w, hw, ?_⟩
        have kd : env.kindOf x = fd.scope.names.lookup x := by rw [Env.kindOf, henv]; rfl
        rcases hkind x hxp with hl | hl
        · exact .inl ⟨kd.trans hl, b1 (kd.trans hl)⟩
        · have := cellsFrom_some fd.scope.names (s.heap.objs.size + 1) [] (x := x) (.inl hl)
          obtain ⟨c, hc⟩ := Option.isSome_iff_exists.mp this
          have hce : env.cells.lookup x = some c := by rw [henv]; exact hc
          refine .inr ⟨.inl (kd.trans hl), c, hce, ?_⟩
          have := X.cell x c hce
          rwa [b2 (by rw [kd, hl]; decide)] at this
    refine h (A.deeper env) env μ _ _ _ (R.deeper env) hF hM fun f s' μ' x ho' => ?_
    have ext' : ∀ μ'', μ'' = μ'.take σ'.length → Ext μ s.heap μ'' s'.heap := fun μ'' e => by
      obtain ⟨⟨ν, hν, hνlo⟩, kx, lx⟩ := x
      refine ⟨⟨ν.take (σ'.length - μ.length), ?_, fun a ha => ?_⟩, fun a o hn eo => ?_⟩
      · rw [e, hν, List.take_append, List.take_of_length_le (by rw [M.len]; exact hl)]
      · obtain ⟨h1, h2⟩ := hνlo a (List.mem_of_mem_take ha)
        exact ⟨h1, none_of_keep (fun o e => kp a o e) h2⟩
      · have ha := Heap.lt_size eo
        refine kx a o hn (fun e' => ?_) (fun y e' => ?_) (kp a o eo)
        · rw [e', hLs] at ha; exact Nat.lt_irrefl _ ha
        · have := X.above y a (lookup_mem e'); rw [hLs] at this; exact Nat.lt_asymm this ha
    cases he with
    | ret fz =>
      obtain ⟨w, rfl, M', V'⟩ := ho'
      exact hQ w s' _ (ext' _ rfl) (M'.cut (hc M.closed)) (fz.vr M' V')
    | fall =>
      obtain ⟨rfl, M', F'⟩ := ho'
      exact hQ _ s' _ (ext' _ rfl) (M'.cut (hc M.closed)) .n
theorem FNc.mono {m : Nat} {f : Value} {args : List V} (h : FNc g n f args σ v σ') (hm : n ≤ m) : FNc g m f args σ v σ' := fun A μ s ws Q R => h A μ s ws Q (R.mono hm)
end
end Mine
end PartC1
noncomputable section PartC2
open PySem PySem.W PyProof.Rows
set_option linter.all false
set_option maxRecDepth 20000
namespace Mine
section
variable {g : G} {n : Nat} {sc : Scope} {ρ : List (Str × V)} {σ σ₁ σ₂ σ₃ : List Slot} {pos : Pos} {v v₁ v₂ : V} {A : Around} {env : Env} {μ : List Addr} {s : Shared} {E : Value → Shared → Prop}

abbrev CA (g : G) (n : Nat) (f : Value) (args : List V) (σ : List Slot) (v : V) (σ' : List Slot) : Prop := OP g n (fun ws => call f ws []) args σ v σ'
theorem FN.ca {f : Value} {args : List V} (h : FN g n f args σ v σ₁) : CA g n f args σ v σ₁ := h
theorem OP.mono {m : Nat} {f : List Value → Sem Value} {args : List V} (h : OP g n f args σ v σ₁) (hm : n ≤ m) : OP g m f args σ v σ₁ := fun A μ s ws Q E R => h A μ s ws Q E (R.mono hm)
theorem FN.mono {m : Nat} {f : Value} {args : List V} (h : FN g n f args σ v σ₁) (hm : n ≤ m) : FN g m f args σ v σ₁ := fun A μ s ws Q E R => h A μ s ws Q E (R.mono hm)

theorem Mem.K (M : Mem g μ σ s) : g.K.In s.heap := fun a o e => M.base _ _ (g.X _ _ e)
theorem name_global {x : Str} {f : Value} {p : Pos} {Q : Value → Shared → Prop} (hx : sc.names.lookup x = some .globalImplicit) (hK : nsIn g.K mainGlobals x = some (some f)) (F : Frm g env sc μ ρ s.heap) (M : Mem g μ σ s) (h : Q f s)
    (hd : (x == ("__debug__" : Str)) = false) : wpAny g.M A (eval (.Name x p) env) Q E s := by
  refine Calls.Name_function_global (by rw [F.esc]; exact F.kind) (by rw [Env.kindOf, F.esc]; exact hx) ?_ hd
  have hg := g.T.g.keeps M.base
  exact Calls.loadGlobal_global (by rw [F.gl]; exact hg) (mg_of g.X g.T.g hK) h
theorem name_builtin {x : Str} {f : Value} {p : Pos} {Q : Value → Shared → Prop} (hx : sc.names.lookup x = some .globalImplicit) (hK : nsIn g.K mainGlobals x = some Option.none) (hv : bootBuiltins x = some f) (hn : x ≠ "__name__") (F : Frm g env sc μ ρ s.heap) (M : Mem g μ σ s) (h : Q f s)
    (hd : (x == ("__debug__" : Str)) = false) : wpAny g.M A (eval (.Name x p) env) Q E s := by
  refine Calls.Name_function_global (by rw [F.esc]; exact F.kind) (by rw [Env.kindOf, F.esc]; exact hx) ?_ hd
  exact Calls.loadGlobal_builtin (by rw [F.gl]; exact g.T.g.keeps M.base) (mg_none_of g.X g.T.g hK) (by rw [F.bl]; exact g.T.b.keeps M.base) ((g.T.builtins x hn).trans hv) h

/-- a call of a def or a class of the program -/
theorem EV.call {x : Str} {p : Pos} {e : Expr} {es : List Expr} {vs : List V} {f : Value} (hx : sc.names.lookup x = some .globalImplicit) (hK : nsIn g.K mainGlobals x = some (some f)) (hk : keepIn g.K f = true)
    (ha : EVs g n sc (e :: es) ρ σ vs σ₁) (hf : CA g n f vs σ₁ v σ₂) (he : ∀ env, starEach (e :: es) env = (false, eval e env) :: starEach es env := by intro _; rfl)
    (hplain : ∀ env, (backTo pos (starEach es env)).any (·.1) = false := by intro _; rfl) (hd : (x == ("__debug__" : Str)) = false := by decide) :
    EV g n sc (.Call (.Name x p) (e :: es) [] pos) ρ σ v σ₂ := fun A env μ s Q E R F M hQ =>
  Call_ (name_global hx hK F M (callWith_K (K := g.K) g.X hk (ha A env μ s pos _ E R F M fun ws s₁ μ₁ x₁ M₁ V₁ => ⟨M₁.K, by
    simp only [List.nil_append]
    exact hf A μ₁ s₁ ws Q E R M₁ V₁ fun w s' μ' x M' V' => hQ w s' μ' (x₁.trans x) M' V'⟩) (he env) (hplain env)) hd)
theorem EV.call_bi {x : Str} {p : Pos} {e : Expr} {es : List Expr} {vs : List V} {id : String} (hx : sc.names.lookup x = some .globalImplicit) (hK : nsIn g.K mainGlobals x = some Option.none) (hv : bootBuiltins x = some (.builtin id))
    (ha : EVs g n sc (e :: es) ρ σ vs σ₁) (hf : CA g n (.builtin id) vs σ₁ v σ₂) (he : ∀ env, starEach (e :: es) env = (false, eval e env) :: starEach es env := by intro _; rfl)
    (hplain : ∀ env, (backTo pos (starEach es env)).any (·.1) = false := by intro _; rfl) (hd : (x == ("__debug__" : Str)) = false := by decide) (hn : x ≠ "__name__" := by decide) :
    EV g n sc (.Call (.Name x p) (e :: es) [] pos) ρ σ v σ₂ := fun A env μ s Q E R F M hQ =>
  Call_ (name_builtin hx hK hv hn F M (callWith_builtin1 (ha A env μ s pos _ E R F M fun ws s₁ μ₁ x₁ M₁ V₁ =>
    hf A μ₁ s₁ ws Q E R M₁ V₁ fun w s' μ' x M' V' => hQ w s' μ' (x₁.trans x) M' V') (he env) (hplain env)) hd)
theorem EV.call_ty {x : Str} {p : Pos} {e : Expr} {es : List Expr} {vs : List V} {T : String} (hx : sc.names.lookup x = some .globalImplicit) (hK : nsIn g.K mainGlobals x = some Option.none) (hv : bootBuiltins x = some (.type T))
    (ha : EVs g n sc (e :: es) ρ σ vs σ₁) (hf : CA g n (.type T) vs σ₁ v σ₂) (he : ∀ env, starEach (e :: es) env = (false, eval e env) :: starEach es env := by intro _; rfl)
    (hplain : ∀ env, (backTo pos (starEach es env)).any (·.1) = false := by intro _; rfl) (hd : (x == ("__debug__" : Str)) = false := by decide) (hn : x ≠ "__name__" := by decide) :
    EV g n sc (.Call (.Name x p) (e :: es) [] pos) ρ σ v σ₂ := fun A env μ s Q E R F M hQ =>
  Call_ (name_builtin hx hK hv hn F M (PyProof.Rows.callWith_type1 (ha A env μ s pos _ E R F M fun ws s₁ μ₁ x₁ M₁ V₁ =>
    hf A μ₁ s₁ ws Q E R M₁ V₁ fun w s' μ' x M' V' => hQ w s' μ' (x₁.trans x) M' V') (he env) (hplain env)) hd)

/-- builtins -/
theorem fit_of {k : Nat} (h : k ≤ sizeLine) : (k : Int) < 2 ^ 63 := by
  have := sizeLine_eq; omega
theorem CA.len_tup {xs : List PyData} : CA g n (.builtin "len") [.dat (.tuple xs)] σ (.dat (.int xs.length)) σ := fun A μ s ws Q E R M V hQ => by
  obtain ⟨w, rfl, h⟩ := V.one
  obtain ⟨t, vs, m, rfl, hn, htx, hz, hr⟩ := rd_tuple.mp (vr_dat.mp h)
  have ht := isTup htx
  have e : xs.length = vs.size := hr.length.trans Array.length_toList
  refine PyProof.Rows.len_tuple ht (fit_of hz) ?_
  rw [e] at hQ
  exact hQ _ _ μ .refl M.toks .i
theorem CA.len_cont {v₁ : V} {xs : List PyData} (c1 : cont σ v₁ = some (.list xs)) : CA g n (.builtin "len") [v₁] σ (.dat (.int xs.length)) σ := fun A μ s ws Q E R M V hQ => by
  obtain ⟨w, rfl, h⟩ := V.one
  obtain ⟨t, vs, m, rfl, ht, hz, hr⟩ : ∃ t vs m, w = .ref t ∧ IsL s.heap t vs m ∧ vs.size ≤ sizeLine ∧ Rds μ s.heap xs vs.toList := by
    cases v₁ with
    | dat d => cases c1; obtain ⟨t, vs, m, rfl, _, ht, hz, hr⟩ := rd_list.mp (vr_dat.mp h); exact ⟨t, vs, m, rfl, ht, hz, hr⟩
    | ref i =>
      obtain ⟨a, rfl, ha⟩ := h
      simp only [cont] at c1
      split at c1
      · rename_i hi; cases c1; obtain ⟨vs, m, hl, hz, hr⟩ := M.slots i a _ ha hi; exact ⟨a, vs, m, rfl, hl, hz, hr⟩
      · cases c1
  have e : xs.length = vs.size := hr.length.trans Array.length_toList
  refine len_list (IsL.isList ht) (fit_of hz) ?_
  rw [e] at hQ
  exact hQ _ _ μ .refl M.toks .i
theorem len_sdict_aux {kvs : List (Str × V)} {ks : List (Str × Value)} {h : Heap} (e : SPairs μ h kvs ks) : kvs.length = ks.length := by
  induction e with
  | nil => rfl
  | cons _ _ ih => simp [ih]
theorem ref_mem {i : Nat} {a : Addr} (e : μ[i]? = some a) : a ∈ μ := List.mem_of_getElem? e
theorem CA.len_sdict {i : Nat} {kvs : List (Str × V)} (hi : σ[i]? = some (.sdict kvs)) (hz : kvs.length ≤ sizeLine) : CA g n (.builtin "len") [.ref i] σ (.dat (.int kvs.length)) σ := fun A μ s ws Q E R M V hQ => by
  obtain ⟨w, rfl, a, rfl, ha⟩ := V.one
  obtain ⟨hsys, ks, hd, hp⟩ := M.slots i a _ ha hi
  have e := len_sdict_aux hp
  refine call_len_dict (knd := sK g) hsys hd (by rw [← e]; exact fit_of hz) ?_
  rw [e] at hQ
  exact hQ _ _ μ .refl M.toks .i
theorem CA.isinstance {x T : V} : True := trivial
theorem isi_true {Tx : String} {x : Value} {T : String} {Q : Value → Shared → Prop} (hT : s.TypeIs x Tx) (hty : typeOf (.type T) = pure (.type "type")) (hsub : isSubtype (.type Tx) (.type T) = pure true) (h : Q (.bool true) s) :
    wpAny g.M A (PySem.call (.builtin "isinstance") [x, .type T]) Q E s := call_isinstance (isinstance_true hty hsub) ⟨hT, h⟩
end
end Mine
end PartC2
noncomputable section PartC3
open PySem PySem.W PyProof.Rows
set_option linter.all false
set_option maxRecDepth 20000
namespace Mine
section
variable {g : G} {n : Nat} {sc : Scope} {ρ : List (Str × V)} {σ σ₁ σ₂ σ₃ : List Slot} {pos apos p p2 : Pos} {v v₁ v₂ : V} {A : Around} {env : Env} {μ : List Addr} {s : Shared} {E : Value → Shared → Prop}

/-- a slot's object is changed in place -/
theorem Mem.setSlot {i : Nat} {a : Addr} {h' : Heap} {k : Nat} {sl : Slot} (M : Mem g μ σ s) (ha : μ[i]? = some a) (hs : Heap.SameBut a s.heap h') (hsl : SlotAt g μ h' a sl) :
    Mem g μ (σ.set i sl) { s with heap := h', toks := k } := by
  have hm := ref_mem ha
  have hi : i < μ.length := (List.getElem?_eq_some_iff.mp ha).1
  have L : Liv μ s.heap μ h' := ⟨⟨fun b o vs n hb e _ => ⟨hb, (hs.2 b (fun e' => hb (e' ▸ hm))).trans e⟩⟩, fun _ _ e => e⟩
  refine ⟨fun b o e => (hs.2 b (fun hb => by rw [hb, M.lo a hm] at e; cases e)).trans (M.base b o e), M.gens, M.os, by simp [M.len], M.nd, M.lo, fun j b x e1 e2 => ?_⟩
  by_cases hij : j = i
  · subst hij
    rw [ha] at e1; cases e1
    rw [List.getElem?_set_self (by rw [← M.len]; exact hi)] at e2; cases e2
    exact hsl
  · rw [List.getElem?_set_ne (Ne.symm hij)] at e2
    refine (M.slots j b x e1 e2).liv L fun o e => (hs.2 b (fun hba => hij ?_)).trans e
    subst hba
    have h1 := List.getElem?_eq_some_iff.mp e1
    have h2 := List.getElem?_eq_some_iff.mp ha
    exact (List.getElem_inj (h₀ := h1.1) (h₁ := h2.1) M.nd).mp (h1.2.trans h2.2.symm)
theorem Ext.setSlot {i : Nat} {a : Addr} {h h' : Heap} (ha : μ[i]? = some a) (hs : Heap.SameBut a h h') : Ext μ h μ h' :=
  ⟨⟨[], by simp, by simp⟩, fun b o hb e => (hs.2 b (fun e' => hb (e' ▸ ref_mem ha))).trans e⟩
theorem rd_set {i : Nat} {a : Addr} {h h' : Heap} (ha : μ[i]? = some a) (hs : Heap.SameBut a h h') {ds : List PyData} {ws : List Value} (e : Rds μ h ds ws) : Rds μ h' ds ws := e.ext (Ext.setSlot ha hs)

theorem list_method {o : Expr} {args : List Expr} {name : Str} {id : String} {i : Nat} {xs : List PyData} {Q : Value → Shared → Prop} (slot : PySem.Slot "list" name id) (hty : typeOf (.builtin id) = pure (.type "method_descriptor"))
    (ho : EV g n sc o ρ σ (.ref i) σ₁) (hi : σ₁[i]? = some (.list xs)) (R : Room n A) (F : Frm g env sc μ ρ s.heap) (M : Mem g μ σ s)
    (h : ∀ a vs m s₁ μ₁, Ext μ s.heap μ₁ s₁.heap → Mem g μ₁ σ₁ s₁ → μ₁[i]? = some a → IsL s₁.heap a vs m → vs.size ≤ sizeLine → Rds μ₁ s₁.heap xs vs.toList →
      wpAny g.M A (callWith pos (.builtin id) [.ref a] (backTo pos (starEach args env)) []) Q E s₁)
    (he : eval (.Call (.Attribute o name apos) args [] pos) env = (do
      let ov ← eval o env
      standAt apos.atName
      let (f, first) ← holding [ov] (getMethod ov name (do return (← importBound o env).getD true))
      callWith pos f first (backTo pos (starEach args env)) [])) :
    wpAny g.M A (eval (.Call (.Attribute o name apos) args [] pos) env) Q E s :=
  MethodCall_ (ho A env μ s _ E R F M fun w s₁ μ₁ x₁ M₁ V₁ => by
    obtain ⟨a, rfl, ha⟩ := V₁
    obtain ⟨vs, m, hl, hz, hr⟩ := M₁.slots i a _ ha hi
    refine getMethod_list_of slot hty (IsL.isList hl) ⟨_, hl, rfl⟩ ?_
    exact h a vs m s₁ μ₁ x₁ M₁ ha hl hz hr) he

theorem EV.append {o e : Expr} {i : Nat} {xs ys : List PyData} {d : PyData} (ho : EV g n sc o ρ σ (.ref i) σ₁) (hi : σ₁[i]? = some (.list ys)) (hee : EV g n sc e ρ σ₁ (.dat d) σ₂) (hi2 : σ₂[i]? = some (.list xs)) (hz : xs.length ≤ sizeLine - 1)
    (he : ∀ env, eval (.Call (.Attribute o "append" apos) [e] [] pos) env = (do
      let ov ← eval o env
      standAt apos.atName
      let (f, first) ← holding [ov] (getMethod ov "append" (do return (← importBound o env).getD true))
      callWith pos f first (backTo pos (starEach [e] env)) []) := by intro _; with_unfolding_all rfl)
    (hst : ∀ env, backTo pos (starEach [e] env) = [(false, eval e env)] := by intro _; rfl) :
    EV g n sc (.Call (.Attribute o "append" apos) [e] [] pos) ρ σ (.dat .none) (σ₂.set i (.list (xs ++ [d]))) := fun A env μ s Q E R F M hQ =>
  list_method PySem.F.slot_list_append PySem.F.type_list_append ho hi R F M (fun a vs m s₁ μ₁ x₁ M₁ ha hl hz0 hr => by
    rw [hst]
    refine P.append_list (hee A env μ₁ s₁ _ E R (F.ext x₁) M₁ fun w s₂ μ₂ x₂ M₂ V₂ => ?_)
    have ha2 := x₂.get ha
    obtain ⟨vs2, m2, hl2, hz2, hr2⟩ := M₂.slots i a _ ha2 hi2
    have e := hr2.length
    have e2 : vs2.toList.length = vs2.size := Array.length_toList
    have hs : Heap.SameBut a s₂.heap (s₂.heap.update a (Obj.mapSeq fun x => x.push w)) := Heap.SameBut.update ..
    have hsl := sizeLine_eq
    refine ⟨vs2, m2, hz2, hl2, ?_⟩
    refine hQ _ _ μ₂ (x₁.trans (x₂.trans (Ext.setSlot ha2 hs))) (M₂.setSlot (k := s₂.toks) ha2 hs ⟨_, _, hl2.update _, ?_, ?_⟩) .n
    · simp only [Array.size_push]; omega
    · rw [Array.toList_push]
      exact (rd_set ha2 hs hr2).append (rds_cons.mpr ⟨w, [], rfl, (vr_dat.mp (V₂.ext (Ext.setSlot ha2 hs))), rds_nil.mpr rfl⟩)) (he env)

theorem EV.extend {o e : Expr} {i : Nat} {xs ys zs : List PyData} (ho : EV g n sc o ρ σ (.ref i) σ₁) (hi : σ₁[i]? = some (.list zs)) (hee : EV g n sc e ρ σ₁ (.dat (.list ys)) σ₂) (hi2 : σ₂[i]? = some (.list xs)) (hz : xs.length + ys.length ≤ sizeLine)
    (he : ∀ env, eval (.Call (.Attribute o "extend" apos) [e] [] pos) env = (do
      let ov ← eval o env
      standAt apos.atName
      let (f, first) ← holding [ov] (getMethod ov "extend" (do return (← importBound o env).getD true))
      callWith pos f first (backTo pos (starEach [e] env)) []) := by intro _; with_unfolding_all rfl)
    (hst : ∀ env, backTo pos (starEach [e] env) = [(false, eval e env)] := by intro _; rfl) :
    EV g n sc (.Call (.Attribute o "extend" apos) [e] [] pos) ρ σ (.dat .none) (σ₂.set i (.list (xs ++ ys))) := fun A env μ s Q E R F M hQ =>
  list_method PySem.F.slot_list_extend PySem.F.type_list_extend ho hi R F M (fun a vs m s₁ μ₁ x₁ M₁ ha hl hz0 hr => by
    rw [hst]
    refine P.extend_list (hee A env μ₁ s₁ _ E R (F.ext x₁) M₁ fun w s₂ μ₂ x₂ M₂ V₂ => ?_)
    have ha2 := x₂.get ha
    obtain ⟨vs2, m2, hl2, hz2, hr2⟩ := M₂.slots i a _ ha2 hi2
    obtain ⟨b, ws2, m3, rfl, hb, hlb, hzb, hrb⟩ := rd_list.mp (vr_dat.mp V₂)
    have e := hr2.length
    have e' := hrb.length
    have e2 : vs2.toList.length = vs2.size := Array.length_toList
    have e3 : ws2.toList.length = ws2.size := Array.length_toList
    have hs : Heap.SameBut a s₂.heap (s₂.heap.update a (Obj.mapSeq fun x => x ++ ws2)) := Heap.SameBut.update ..
    have hsum : vs2.size + ws2.size ≤ sizeLine := by omega
    refine ⟨b, vs2, ws2, m2, m3, hz2, Nat.le_succ_of_le hsum, extend_door hsum, rfl, hl2, hlb, ?_⟩
    refine hQ _ _ μ₂ (x₁.trans (x₂.trans (Ext.setSlot ha2 hs))) (M₂.setSlot (k := s₂.toks) ha2 hs ⟨_, _, hl2.update _, ?_, ?_⟩) .n
    · simp only [Array.size_append]; omega
    · rw [Array.toList_append]
      exact (rd_set ha2 hs hr2).append (rd_set ha2 hs hrb)) (he env)
theorem EV.extend_tup {o e : Expr} {i : Nat} {xs ys zs : List PyData} (ho : EV g n sc o ρ σ (.ref i) σ₁) (hi : σ₁[i]? = some (.list zs)) (hee : EV g n sc e ρ σ₁ (.dat (.tuple ys)) σ₂) (hi2 : σ₂[i]? = some (.list xs)) (hz : xs.length + ys.length ≤ sizeLine)
    (he : ∀ env, eval (.Call (.Attribute o "extend" apos) [e] [] pos) env = (do
      let ov ← eval o env
      standAt apos.atName
      let (f, first) ← holding [ov] (getMethod ov "extend" (do return (← importBound o env).getD true))
      callWith pos f first (backTo pos (starEach [e] env)) []) := by intro _; with_unfolding_all rfl)
    (hst : ∀ env, backTo pos (starEach [e] env) = [(false, eval e env)] := by intro _; rfl) :
    EV g n sc (.Call (.Attribute o "extend" apos) [e] [] pos) ρ σ (.dat .none) (σ₂.set i (.list (xs ++ ys))) := fun A env μ s Q E R F M hQ =>
  list_method PySem.F.slot_list_extend PySem.F.type_list_extend ho hi R F M (fun a vs m s₁ μ₁ x₁ M₁ ha hl hz0 hr => by
    rw [hst]
    refine PySem.seqMethod1_meets PySem.F.slot_list_extend PySem.F.entry_list_extend (hee A env μ₁ s₁ _ E R (F.ext x₁) M₁ fun w s₂ μ₂ x₂ M₂ V₂ => ?_)
    have ha2 := x₂.get ha
    obtain ⟨vs2, m2, hl2, hz2, hr2⟩ := M₂.slots i a _ ha2 hi2
    obtain ⟨b, ws2, m3, rfl, hb, hlb, hzb, hrb⟩ := rd_tuple.mp (vr_dat.mp V₂)
    have e := hr2.length
    have e' := hrb.length
    have e2 : vs2.toList.length = vs2.size := Array.length_toList
    have e3 : ws2.toList.length = ws2.size := Array.length_toList
    have hs : Heap.SameBut a s₂.heap (s₂.heap.update a (Obj.mapSeq fun x => x ++ ws2)) := Heap.SameBut.update ..
    have hsum : vs2.size + ws2.size ≤ sizeLine := by omega
    refine ⟨⟨_, hl2, rfl⟩, PySem.F.args_list_extend_2 _ _, _, AutoSeq1.list_extend_list_tuple_0 a vs2 m2 b ws2 m3 (extend_door hsum) hz2 (Nat.le_succ_of_le hsum), hl2, hlb, ?_⟩
    refine hQ _ _ μ₂ (x₁.trans (x₂.trans (Ext.setSlot ha2 hs))) (M₂.setSlot (k := s₂.toks) ha2 hs ⟨_, _, hl2.update _, ?_, ?_⟩) .n
    · simp only [Array.size_append]; omega
    · rw [Array.toList_append]
      exact (rd_set ha2 hs hr2).append (rd_set ha2 hs hrb)) (he env)

theorem EV.reverse {o : Expr} {i : Nat} {xs : List PyData} (ho : EV g n sc o ρ σ (.ref i) σ₁) (hi : σ₁[i]? = some (.list xs))
    (he : ∀ env, eval (.Call (.Attribute o "reverse" apos) [] [] pos) env = (do
      let ov ← eval o env
      standAt apos.atName
      let (f, first) ← holding [ov] (getMethod ov "reverse" (do return (← importBound o env).getD true))
      callWith pos f first (backTo pos (starEach [] env)) []) := by intro _; with_unfolding_all rfl) :
    EV g n sc (.Call (.Attribute o "reverse" apos) [] [] pos) ρ σ (.dat .none) (σ₁.set i (.list xs.reverse)) := fun A env μ s Q E R F M hQ =>
  list_method PySem.F.slot_list_reverse PySem.F.type_list_reverse ho hi R F M (fun a vs m s₁ μ₁ x₁ M₁ ha hl hz0 hr => by
    have hs : Heap.SameBut a s₁.heap (s₁.heap.update a (Obj.mapSeq fun x => x.reverse)) := Heap.SameBut.update ..
    refine P.reverse_list hl (hQ _ _ μ₁ (x₁.trans (Ext.setSlot ha hs)) (M₁.setSlot (k := s₁.toks) ha hs ⟨_, _, hl.update _, ?_, ?_⟩) .n) hz0
    · simpa using hz0
    · rw [Array.toList_reverse]; exact rds_reverse (rd_set ha hs hr)) (he env)
theorem EV.pop {o : Expr} {i : Nat} {xs : List PyData} {d : PyData} (ho : EV g n sc o ρ σ (.ref i) σ₁) (hi : σ₁[i]? = some (.list (xs ++ [d])))
    (he : ∀ env, eval (.Call (.Attribute o "pop" apos) [] [] pos) env = (do
      let ov ← eval o env
      standAt apos.atName
      let (f, first) ← holding [ov] (getMethod ov "pop" (do return (← importBound o env).getD true))
      callWith pos f first (backTo pos (starEach [] env)) []) := by intro _; with_unfolding_all rfl) :
    EV g n sc (.Call (.Attribute o "pop" apos) [] [] pos) ρ σ (.dat d) (σ₁.set i (.list xs)) := fun A env μ s Q E R F M hQ =>
  list_method PySem.F.slot_list_pop PySem.F.type_list_pop ho hi R F M (fun a vs m s₁ μ₁ x₁ M₁ ha hl hz0 hr => by
    have e := hr.length
    have e2 : vs.toList.length = vs.size := Array.length_toList
    have e3 : xs.length + 1 = vs.size := by rw [← e2, ← e]; simp
    obtain ⟨w, hw, hrd⟩ := hr.get xs.length d (by simp)
    have hs : Heap.SameBut a s₁.heap (s₁.heap.update a (Obj.mapSeq fun x => x.eraseIdxIfInBounds (vs.size - 1))) := Heap.SameBut.update ..
    refine P.pop_list hl (y := w) ?_ (hQ _ _ μ₁ (x₁.trans (Ext.setSlot ha hs)) (M₁.setSlot (k := s₁.toks) ha hs ⟨_, _, hl.update _, ?_, ?_⟩) (hrd.lives (Ext.setSlot ha hs).lives)) hz0
    · rw [← Array.getElem?_toList, ← hw]; congr 1; omega
    · refine Nat.le_trans ?_ hz0
      simp only [Array.eraseIdxIfInBounds]; split
      · rw [Array.size_eraseIdx]; omega
      · exact Nat.le_refl _
    · have hlt : vs.size - 1 < vs.size := by omega
      have : (vs.eraseIdxIfInBounds (vs.size - 1)).toList = vs.toList.take xs.length := by
        simp only [Array.eraseIdxIfInBounds, hlt, dif_pos]
        rw [Array.toList_eraseIdx, List.eraseIdx_eq_take_drop_succ]
        have h1 : vs.size - 1 + 1 = vs.toList.length := by omega
        have h2 : vs.size - 1 = xs.length := by omega
        rw [h1, List.drop_length, h2]; simp
      rw [this]
      have := rds_take xs.length (rd_set ha hs hr)
      simpa using this) (he env)
end
end Mine
end PartC3
noncomputable section PartC4
open PySem PySem.W PyProof.Rows
set_option linter.all false
set_option maxRecDepth 20000
namespace Mine
section
variable {g : G} {n : Nat} {sc : Scope} {ρ : List (Str × V)} {σ σ₁ σ₂ σ₃ : List Slot} {pos apos p p2 : Pos} {v v₁ v₂ : V} {A : Around} {env : Env} {μ : List Addr} {s : Shared} {E : Value → Shared → Prop}

theorem OP.add_tup {xs ys : List PyData} (hz : xs.length + ys.length ≤ sizeLine) : OP g n (op2 (binaryOp .Add)) [.dat (.tuple xs), .dat (.tuple ys)] σ (.dat (.tuple (xs ++ ys))) σ := fun A μ s ws Q E R M V hQ => by
  obtain ⟨x, y, rfl, h1, h2⟩ := V.two
  obtain ⟨a, us, m1, rfl, na, ha, za, ra⟩ := rd_tuple.mp (vr_dat.mp h1)
  obtain ⟨b, ws, m2, rfl, nb, hb, zb, rb⟩ := rd_tuple.mp (vr_dat.mp h2)
  have e1 : xs.length = us.size := ra.length.trans Array.length_toList
  have e2 : ys.length = ws.size := rb.length.trans Array.length_toList
  by_cases hu : xs = []
  · subst hu
    have hus : us = #[] := by
      have : us.size = 0 := by simpa using e1.symm
      exact Array.size_eq_zero_iff.mp this
    refine concat_meets ⟨_, ha, rfl⟩ ⟨_, hb, rfl⟩ noFill_tuple_add seq_tuple_add PySem.F.slot_tuple_add PySem.F.entry_tuple_add (PySem.F.args_tuple_add_2 _ _)
      (tuple_addW0 a b us ws m1 m2 none none #[] #[] (by simp [hus])) ⟨ha, hb, ?_⟩
    exact hQ _ s μ .refl M h2
  · by_cases hw : ys = []
    · subst hw
      have hws : ws = #[] := by
        have : ws.size = 0 := by simpa using e2.symm
        exact Array.size_eq_zero_iff.mp this
      have hne : us.isEmpty = false := by
        have : xs.length ≠ 0 := by simpa using hu
        rw [Array.isEmpty_eq_false_iff_exists_mem]
        have hp : 0 < us.size := by omega
        exact ⟨us[0], by simp⟩
      refine concat_meets ⟨_, ha, rfl⟩ ⟨_, hb, rfl⟩ noFill_tuple_add seq_tuple_add PySem.F.slot_tuple_add PySem.F.entry_tuple_add (PySem.F.args_tuple_add_2 _ _)
        (tuple_addW1 a b us ws m1 m2 none none #[] #[] (by simp [hne]) (by simp [hws])) ⟨ha, hb, ?_⟩
      rw [List.append_nil] at hQ
      exact hQ _ s μ .refl M h1
    · have p1 : ¬ us.isEmpty = true := by
        have : xs.length ≠ 0 := by simpa using hu
        simp only [Array.isEmpty, decide_eq_true_eq]; omega
      have p2 : ¬ ws.isEmpty = true := by
        have : ys.length ≠ 0 := by simpa using hw
        simp only [Array.isEmpty, decide_eq_true_eq]; omega
      refine P.add_tuple ha hb p1 p2 ?_ (by omega)
      refine hQ _ _ μ (.push _) (M.push _) (rd_tuple.mpr ⟨_, _, 0, rfl, M.fresh, IsT.new _ _, by rw [Array.size_append]; omega, ?_⟩)
      rw [Array.toList_append]
      exact (ra.ext (.push _)).append (rb.ext (.push _))
theorem OP.add_lst {xs ys : List PyData} (hz : xs.length + ys.length ≤ sizeLine) : OP g n (op2 (binaryOp .Add)) [.dat (.list xs), .dat (.list ys)] σ (.dat (.list (xs ++ ys))) σ := fun A μ s ws Q E R M V hQ => by
  obtain ⟨x, y, rfl, h1, h2⟩ := V.two
  obtain ⟨a, us, m1, rfl, na, ha, za, ra⟩ := rd_list.mp (vr_dat.mp h1)
  obtain ⟨b, ws, m2, rfl, nb, hb, zb, rb⟩ := rd_list.mp (vr_dat.mp h2)
  have e1 : xs.length = us.size := ra.length.trans Array.length_toList
  have e2 : ys.length = ws.size := rb.length.trans Array.length_toList
  refine P.add_list ha hb ?_ (by omega)
  refine hQ _ _ μ (.push _) (M.push _) (rd_list.mpr ⟨_, _, 0, rfl, M.fresh, IsL.new _ _, by rw [Array.size_append]; omega, ?_⟩)
  rw [Array.toList_append]
  exact (ra.ext (.push _)).append (rb.ext (.push _))
theorem OP.add_str {x y : Str} (hx : x.length ≠ 0) (hy : y.length ≠ 0) (hz : (x ++ y).length ≤ sizeLine) : OP g n (op2 (binaryOp .Add)) [.dat (.str x), .dat (.str y)] σ (.dat (.str (x ++ y))) σ := .pure2 fun A μ s w₁ w₂ Q E _ h1 h2 _ hQ => by
  obtain ⟨t, rfl⟩ := rd_str.mp h1; obtain ⟨u, rfl⟩ := rd_str.mp h2
  refine PySem.P.add_str ?_
  have h1 : (x.length == 0) = false := by simpa using hx
  have h2 : (y.length == 0) = false := by simpa using hy
  rw [h1, h2]
  simp only [Bool.false_eq_true, if_false]
  exact ⟨hz, hQ (.str (x ++ y) s.toks) (s.toks + 1) (rd_str.mpr ⟨_, rfl⟩)⟩
theorem CA.str_int {a : Int} (h : a.natAbs < 2 ^ 60) : CA g n (.type "str") [.dat (.int a)] σ (.dat (.str (Str.ofString (toString a)))) σ := fun A μ s ws Q E R M V hQ => by
  obtain ⟨w, rfl, h1⟩ := V.one
  obtain ⟨t, rfl⟩ := rd_int.mp (vr_dat.mp h1)
  exact str_of_int_fit (N := 2 ^ 60) (by split <;> omega) (by decide) fun _ => hQ _ _ μ .refl M.toks .s
theorem CA.tuple_lst {xs : List PyData} : CA g n (.type "tuple") [.dat (.list xs)] σ (.dat (.tuple xs)) σ := fun A μ s ws Q E R M V hQ => by
  obtain ⟨w, rfl, h1⟩ := V.one
  obtain ⟨a, us, m1, rfl, na, ha, za, ra⟩ := rd_list.mp (vr_dat.mp h1)
  refine call_tuple_list (IsL.isList ha) (fun h' kp => ?_) za
  have M1 := M.grow (k := s.toks) kp
  have x1 : Ext μ s.heap μ h' := Ext.of_keep kp
  exact hQ _ _ μ (x1.trans (.push _)) (M1.push _) (rd_tuple.mpr ⟨_, _, 0, rfl, M1.fresh, IsT.new _ _, za, ra.ext (x1.trans (.push _))⟩)
end
end Mine
end PartC4
noncomputable section PartD1
open PySem PySem.W PyProof.Rows
set_option linter.all false
set_option maxRecDepth 20000
namespace Mine

/-- an iterator over frozen items -/
structure Src (g : G) (A : Around) (I : Addr) (fp wr : List Addr) (ds : List PyData) (items : List Value) (out : Nat → PyData → PyData) (tg : Expr → Prop) (St : Nat → Heap → Prop) : Prop where
  sub : ∀ b ∈ wr, b ∈ fp
  frame : ∀ i h h', St i h → (∀ b ∈ fp, ∀ o, h.get? b = some o → h'.get? b = some o) → St i h'
  flds : ∀ i h, St i h → ∀ b ∈ wr, ∃ o vs, h.get? b = some o ∧ o.data = .fields vs
  kind : ∀ i h, St i h → ∀ b ∈ fp, ∃ o, h.get? b = some o ∧ ((∃ vs, o.data = .fields vs) ∨ ∃ vs n, o.data = .seq vs n)
  item : ∀ (i : Nat) (d : PyData) (w : Value) (s : Shared) (Q : Value → Shared → Prop) (E : Value → Shared → Prop) (target : Expr), ds[i]? = some d → items[i]? = some w → tg target → St i s.heap →
    (∀ v h' tk, St (i + 1) h' → (∀ b o, b ∉ wr → s.heap.get? b = some o → h'.get? b = some o) →
      (∀ μ, (∀ b ∈ wr, b ∉ μ) → (∀ a ∈ μ, ∃ o, s.heap.get? a = some o) → Rd μ s.heap d w → Rd μ h' (out i d) v) → Q v { s with heap := h', toks := tk }) →
    wpAny g.M A (pyNext (.ref I)) (fun r s₁ => ∃ v, r = some v ∧ wpAny g.M A (letOwnedTupleGo target (.ref I) v) (fun _ s₂ => Q v s₂) E s₁) E s
  done : ∀ (s : Shared) (Q : Option Value → Shared → Prop) (E : Value → Shared → Prop), St ds.length s.heap →
    (∀ h' tk, (∀ b o, b ∉ wr → s.heap.get? b = some o → h'.get? b = some o) → Q none { s with heap := h', toks := tk }) → wpAny g.M A (pyNext (.ref I)) Q E s
  self : ∀ (i : Nat) (s : Shared) (Q : Value → Shared → Prop) (E : Value → Shared → Prop), St i s.heap → Q (.ref I) s → wpAny g.M A (pyIter (.ref I)) Q E s

section
variable {g : G} {n : Nat} {sc : Scope} {ρ ρ' : List (Str × V)} {σ σ₁ σ₂ σ₃ : List Slot} {pos apos p p2 : Pos} {v v₁ v₂ : V} {A : Around} {env : Env} {μ μ₀ : List Addr} {s : Shared} {E : Value → Shared → Prop} {wr : List Addr} {h h' : Heap}

/-- only the iterator changes -/
structure But (wr : List Addr) (h h' : Heap) : Prop where
  keep : ∀ b o, b ∉ wr → h.get? b = some o → h'.get? b = some o
  flds : ∀ b ∈ wr, ∃ o vs, h.get? b = some o ∧ o.data = .fields vs
theorem But.liv (x : But wr h h') : Liv μ h μ h' := ⟨⟨fun a o vs n hn e hd => ⟨hn, x.keep a o (fun hm => by obtain ⟨o', vs', e', hd'⟩ := x.flds a hm; rw [e] at e'; cases e'; rw [hd] at hd'; cases hd') e⟩⟩, fun _ _ e => e⟩
theorem But.mem (x : But wr s.heap h') (M : Mem g μ σ s) (hw : ∀ b ∈ wr, b ∉ μ ∧ g.h₀.get? b = none) {k : Nat} : Mem g μ σ { s with heap := h', toks := k } :=
  ⟨fun b o e => x.keep b o (fun hm => by rw [(hw b hm).2] at e; cases e) (M.base b o e), M.gens, M.os, M.len, M.nd, M.lo,
    fun i a sl e1 e2 => (M.slots i a sl e1 e2).liv x.liv fun o e => x.keep a o (fun hm => (hw a hm).1 (ref_mem e1)) e⟩
theorem But.frm (x : But wr h h') (F : Frm g env sc μ ρ h) : Frm g env sc μ ρ h' := by
  obtain ⟨m, hm, hv⟩ := F.vars
  have hL : env.locals ∉ wr := fun hmem => by
    obtain ⟨o, vs, e, hd⟩ := x.flds _ hmem
    obtain ⟨o', es, ep, e', hd', _⟩ := hm
    rw [e] at e'; cases e'; rw [hd] at hd'; cases hd'
  have hC : ∀ c ov, h.IsCell c ov → h'.IsCell c ov := fun c ov ⟨o, e, hd⟩ => ⟨o, x.keep c o (fun hmem => by
    obtain ⟨o', vs, e', hd'⟩ := x.flds _ hmem
    rw [e] at e'; cases e'; rw [hd] at hd'; cases hd') e, hd⟩
  refine ⟨F.esc, F.kind, F.gl, F.bl, F.lo, F.nL, fun y c e => ?_, F.cinj, F.has, m, hm.at' fun o e => x.keep _ o hL e, fun y v e => ?_⟩
  · obtain ⟨n1, n2, n3, ov, hc⟩ := F.cells y c e
    exact ⟨n1, n2, n3, ov, hC c ov hc⟩
  · obtain ⟨w, hw, hb⟩ := hv y v e
    refine ⟨w, hw.liv x.liv, ?_⟩
    rcases hb with q | ⟨q, c, e1, e2⟩
    · exact .inl q
    · exact .inr ⟨q, c, e1, hC c _ e2⟩
theorem But.extS {hs : Heap} (x : But wr h h') (X : ExtS env μ₀ hs μ h) (hw : ∀ b ∈ wr, hs.get? b = none) : ExtS env μ₀ hs μ h' :=
  have nw : ∀ a o, hs.get? a = some o → a ∉ wr := fun a o e hm => by rw [hw a hm] at e; cases e
  ⟨X.pre, fun a o hn hL hC e => x.keep a o (nw a o e) (X.keep a o hn hL hC e), fun a o hn e => let ⟨o', e'⟩ := X.live a o hn e; ⟨o', x.keep a o' (nw a o e) e'⟩⟩
theorem But.ext {hs : Heap} (x : But wr h h') (X : Ext μ₀ hs μ h) (hw : ∀ b ∈ wr, hs.get? b = none) : Ext μ₀ hs μ h' :=
  ⟨X.pre, fun a o hn e => x.keep a o (fun hm => by rw [hw a hm] at e; cases e) (X.keep a o hn e)⟩
theorem Rds.liv' {μ' : List Addr} (x : Liv μ h μ' h') {ds : List PyData} {ws : List Value} (e : Rds μ h ds ws) : Rds μ' h' ds ws := Rds.lives x.toLives ds ws e

theorem ExtS.liv {μ' : List Addr} (x : ExtS env μ h μ' h') (F : Frm g env sc μ ρ h) : Liv μ h μ' h' := by
  refine ⟨⟨fun a o vs n hn e hd => ⟨x.notin hn e, x.keep a o hn (fun ha => ?_) (fun y hy => ?_) e⟩⟩, fun i a e => ?_⟩
  · obtain ⟨m, hm, _⟩ := F.vars
    subst ha; exact ns_noseq hm o e vs n hd
  · obtain ⟨_, _, _, ov, hc⟩ := F.cells y a hy
    exact cell_noseq hc o e vs n hd
  · obtain ⟨⟨ν, rfl, _⟩, _, _⟩ := x
    rw [List.getElem?_append_left (List.getElem?_eq_some_iff.mp e).1]; exact e

def Sub (ρ' ρ : List (Str × V)) : Prop := ∀ x v, ρ'.lookup x = some v → ρ.lookup x = some v
theorem Sub.of_all (h : ∀ q ∈ ρ', ρ.lookup q.1 = some q.2) : Sub ρ' ρ := fun x v e => h (x, v) (lookup_mem e)
theorem Sub.refl : Sub ρ ρ := fun _ _ e => e
theorem Frm.sub (F : Frm g env sc μ ρ h) (x : Sub ρ' ρ) : Frm g env sc μ ρ' h :=
  let ⟨m, hm, hv⟩ := F.vars
  ⟨F.esc, F.kind, F.gl, F.bl, F.lo, F.nL, F.cells, F.cinj, F.has, m, hm, fun y v e => hv y v (x y v e)⟩

/-- the name or the names of a for -/
def AS (g : G) (sc : Scope) (target : Expr) (d : PyData) (ρ ρ' : List (Str × V)) : Prop :=
  ∀ (A : Around) (env : Env) (μ : List Addr) (σ : List Slot) (s : Shared) (w : Value) (Q : Unit → Shared → Prop) (E : Value → Shared → Prop), A.handled = none → Frm g env sc μ ρ s.heap → Mem g μ σ s → Rd μ s.heap d w →
    (∀ s', ExtS env μ s.heap μ s'.heap → Mem g μ σ s' → Frm g env sc μ ρ' s'.heap → Q () s') → wpAny g.M A (assign target env w) Q E s
theorem AS.name {x : Str} {d : PyData} (hx : sc.names.lookup x = some .local ∨ sc.names.lookup x = some .cell) : AS g sc (.Name x p) d ρ ((x, .dat d) :: ρ) := fun A env μ σ s w Q E _ F M hr hQ =>
  wpAny_assign_Name (store hx F M (v := .dat d) hr hQ)
theorem assignInOrder_cons {f : Value → Sem Unit} {fs : List (Value → Sem Unit)} {v : Value} {vs : List Value} : assignInOrder (f :: fs) (v :: vs) = (do holding vs (f v); assignInOrder fs vs) := rfl
theorem AS.tup2 {x y : Str} {px py : Pos} {k : Nat} {a b : PyData} (hx : sc.names.lookup x = some .local ∨ sc.names.lookup x = some .cell) (hy : sc.names.lookup y = some .local ∨ sc.names.lookup y = some .cell) :
    AS g sc (.Tuple [.Name x px, .Name y py] k p) (.tuple [a, b]) ρ ((y, .dat b) :: (x, .dat a) :: ρ) := fun A env μ σ s w Q E hh F M hr hQ => by
  obtain ⟨t, vs, m, rfl, hn, ht, hz, hrs⟩ := rd_tuple.mp hr
  obtain ⟨w1, r1, e1, ha, hrs⟩ := rds_cons.mp hrs
  obtain ⟨w2, r2, rfl, hb, hrs⟩ := rds_cons.mp hrs
  rw [rds_nil] at hrs; subst hrs
  have hvs : vs = #[w1, w2] := by apply Array.ext'; simpa using e1
  subst hvs
  refine wpAny_assign_Tuple hh (isTup ht) rfl rfl fun h₁ hx₁ => ?_
  have kp : ∀ a o, s.heap.get? a = some o → h₁.get? a = some o := fun a o e => hx₁ a o (Nat.ne_of_lt (Heap.lt_size e)) e
  have X1 : Ext μ s.heap μ h₁ := Ext.of_keep kp
  have M1 : Mem g μ σ { s with heap := h₁ } := M.grow (k := s.toks) kp
  show wpAny g.M A (assignInOrder [assign (.Name x px) env, assign (.Name y py) env] [w1, w2]) Q E _
  rw [assignInOrder_cons]
  refine wpAny_bind (wpAny_holding (wpAny_assign_Name (store hx (F.ext X1) M1 (v := .dat a) (vr_dat.mpr (ha.lives X1.lives)) fun s₂ X2 M2 F2 => ?_)))
  rw [assignInOrder_cons]
  have hb2 : Rd μ s₂.heap b w2 := (hb.lives X1.lives).lives (X2.liv (F.ext X1)).toLives
  refine wpAny_bind (wpAny_holding (wpAny_assign_Name (store hy F2 M2 (v := .dat b) hb2 fun s₃ X3 M3 F3 => ?_)))
  exact wpAny_pure (hQ s₃ (X1.toS.trans (X2.trans X3)) M3 F3)
theorem AS.tup3 {x y z : Str} {px py pz : Pos} {k : Nat} {a b c : PyData} (hx : sc.names.lookup x = some .local ∨ sc.names.lookup x = some .cell) (hy : sc.names.lookup y = some .local ∨ sc.names.lookup y = some .cell)
    (hz' : sc.names.lookup z = some .local ∨ sc.names.lookup z = some .cell) :
    AS g sc (.Tuple [.Name x px, .Name y py, .Name z pz] k p) (.tuple [a, b, c]) ρ ((z, .dat c) :: (y, .dat b) :: (x, .dat a) :: ρ) := fun A env μ σ s w Q E hh F M hr hQ => by
  obtain ⟨t, vs, m, rfl, hn, ht, hz, hrs⟩ := rd_tuple.mp hr
  obtain ⟨w1, r1, e1, ha, hrs⟩ := rds_cons.mp hrs
  obtain ⟨w2, r2, rfl, hb, hrs⟩ := rds_cons.mp hrs
  obtain ⟨w3, r3, rfl, hc, hrs⟩ := rds_cons.mp hrs
  rw [rds_nil] at hrs; subst hrs
  have hvs : vs = #[w1, w2, w3] := by apply Array.ext'; simpa using e1
  subst hvs
  refine wpAny_assign_Tuple hh (isTup ht) rfl rfl fun h₁ hx₁ => ?_
  have kp : ∀ a o, s.heap.get? a = some o → h₁.get? a = some o := fun a o e => hx₁ a o (Nat.ne_of_lt (Heap.lt_size e)) e
  have X1 : Ext μ s.heap μ h₁ := Ext.of_keep kp
  have M1 : Mem g μ σ { s with heap := h₁ } := M.grow (k := s.toks) kp
  show wpAny g.M A (assignInOrder [assign (.Name x px) env, assign (.Name y py) env, assign (.Name z pz) env] [w1, w2, w3]) Q E _
  rw [assignInOrder_cons]
  refine wpAny_bind (wpAny_holding (wpAny_assign_Name (store hx (F.ext X1) M1 (v := .dat a) (vr_dat.mpr (ha.lives X1.lives)) fun s₂ X2 M2 F2 => ?_)))
  rw [assignInOrder_cons]
  have hb2 : Rd μ s₂.heap b w2 := (hb.lives X1.lives).lives (X2.liv (F.ext X1)).toLives
  have hc2 : Rd μ s₂.heap c w3 := (hc.lives X1.lives).lives (X2.liv (F.ext X1)).toLives
  refine wpAny_bind (wpAny_holding (wpAny_assign_Name (store hy F2 M2 (v := .dat b) hb2 fun s₃ X3 M3 F3 => ?_)))
  rw [assignInOrder_cons]
  have hc3 : Rd μ s₃.heap c w3 := hc2.lives (X3.liv F2).toLives
  refine wpAny_bind (wpAny_holding (wpAny_assign_Name (store hz' F3 M3 (v := .dat c) hc3 fun s₄ X4 M4 F4 => ?_)))
  exact wpAny_pure (hQ s₄ (X1.toS.trans (X2.trans (X3.trans X4))) M4 F4)

/-- the iterable of a for -/
def ITR (g : G) (n : Nat) (sc : Scope) (iter : Expr) (ρ : List (Str × V)) (σ : List Slot) (ds : List PyData) (out : Nat → PyData → PyData) (tg : Expr → Prop) (σ' : List Slot) : Prop :=
  ∀ (A : Around) (env : Env) (μ : List Addr) (s : Shared) (Q : Value → Shared → Prop) (E : Value → Shared → Prop), Room n A → Frm g env sc μ ρ s.heap → Mem g μ σ s →
    (∀ s₁ μ₁ I fp wr items St, Ext μ s.heap μ₁ s₁.heap → Mem g μ₁ σ' s₁ → Src g A I fp wr ds items out tg St → St 0 s₁.heap → (∀ b ∈ wr, s.heap.get? b = none) → (∀ b ∈ fp, b ∉ μ₁) → Rds μ₁ s₁.heap ds items → Q (.ref I) s₁) →
    wpAny g.M A (eval iter env) (fun x s₁ => wpAny g.M A (pyIter x) Q E s₁) E s

theorem ES.for {target iter : Expr} {body : List Stmt} {ds : List PyData} {out : Nat → PyData → PyData} {tg : Expr → Prop} (hi : ITR g n sc iter ρ σ ds out tg σ₁) (ht : tg target)
    (st : Nat → List (Str × V) × List Slot) (h0 : Sub (st 0).1 ρ) (h1 : (st 0).2 = σ₁)
    (step : ∀ i d, ds[i]? = some d → ∃ ρ₁ ρ₂, AS g sc target (out i d) (st i).1 ρ₁ ∧ EL g n sc body ρ₁ (st i).2 (.next ρ₂ (st (i + 1)).2) ∧ Sub (st (i + 1)).1 ρ₂)
    (hs : ∀ x env, foldedSetIterable iter env x = pure x := by intro _ _; rfl) :
    ES g n sc (.For target iter body [] pos) ρ σ (.next (st ds.length).1 (st ds.length).2) := fun A env μ₀ s Q E R F M hQ => by
  refine wpAny_For (hi A env μ₀ s _ E R F M fun s₁ μ₁ I fp wr items St x₁ M₁ W h0' hwr hfp hr => ?_) (fun x => hs x env)
  refine codeAny_forLoop_any (fun k s' => ∃ i μ, k + i = ds.length ∧ i ≤ ds.length ∧ Mem g μ (st i).2 s' ∧ Frm g env sc μ (st i).1 s'.heap ∧ ExtS env μ₀ s.heap μ s'.heap ∧ Rds μ s'.heap ds items ∧ St i s'.heap ∧ ∀ b ∈ fp, b ∉ μ) ?_ ds.length
    ⟨0, μ₁, rfl, Nat.zero_le _, by rw [h1]; exact M₁, (F.ext x₁).sub h0, x₁.toS, hr, h0', hfp⟩
  rintro k s' ⟨i, μ, hk, hle, M', F', X', hr', hst, hfp'⟩
  have hw0 : ∀ b ∈ wr, b ∉ μ ∧ g.h₀.get? b = none := fun b hb => ⟨hfp' b (W.sub b hb), M.lo_of (hwr b hb)⟩
  by_cases hlt : i < ds.length
  · have hil : i < items.length := by rw [← hr'.length]; exact hlt
    have e1 : ds[i]? = some ds[i] := List.getElem?_eq_getElem hlt
    have e2 : items[i]? = some items[i] := List.getElem?_eq_getElem hil
    obtain ⟨w', hw', hrd⟩ := hr'.get i _ e1
    rw [e2] at hw'; cases hw'
    obtain ⟨ρ₁, ρ₂, hA, hB, hS⟩ := step i ds[i] e1
    refine wpAny_mono (W.item i ds[i] items[i] s' (fun v s₂ => wpAny g.M A (PySem.assign target env v) (fun _ s₂ => wpAny g.M A (execs body env) (fun f s₃ => match f with
            | .next | .cont => ∃ m, m < k ∧ ∃ i μ, m + i = ds.length ∧ i ≤ ds.length ∧ Mem g μ (st i).2 s₃ ∧ Frm g env sc μ (st i).1 s₃.heap ∧ ExtS env μ₀ s.heap μ s₃.heap ∧ Rds μ s₃.heap ds items ∧ St i s₃.heap ∧ ∀ b ∈ fp, b ∉ μ
            | .brk => Q .next s₃
            | .ret v => Q (.ret v) s₃) (notedBy g.M A env fun e s' => cameBackBy g.M A env E e s') s₂) (notedBy g.M A env fun e s' => cameBackBy g.M A env E e s') s₂) _ target e1 e2 ht hst fun v h₂ tk hst₂ kp hrd' => ?_) (fun r s₁ hr1 => ?_) fun _ _ e => e
    · have B : But wr s'.heap h₂ := ⟨kp, W.flds i _ hst⟩
      have M₂ := B.mem M' hw0 (k := tk)
      have F₂ := B.frm F'
      have X₂ := B.extS X' hwr
      have hv := hrd' μ (fun b hb => (hw0 b hb).1) (fun a ha => M'.alive ha) hrd
      have hr₂ := hr'.liv' B.liv
      refine hA A env μ _ _ v _ _ R.hnd F₂ M₂ hv fun s₃ X₃ M₃ F₃ => ?_
      have kindOut : ∀ {ρx : List (Str × V)} {μx : List Addr} {hx hy : Heap} {μy : List Addr} {j : Nat}, St j hx → Frm g env sc μx ρx hx → ExtS env μx hx μy hy → (∀ b ∈ fp, b ∉ μx) → ∀ b ∈ fp, ∀ o, hx.get? b = some o → hy.get? b = some o := by
        intro ρx μx hx hy μy j hs Fx Xx hf b hb o eo
        refine Xx.keep b o (hf b hb) (fun hL => ?_) (fun y hy => ?_) eo
        · obtain ⟨o', e', hk'⟩ := W.kind j hx hs b hb
          obtain ⟨m, ⟨o'', es, ep, e'', hd'', _⟩, _⟩ := Fx.vars
          rw [← hL, e'] at e''; cases e''
          rcases hk' with ⟨vs, hd⟩ | ⟨vs, n, hd⟩ <;> (rw [hd] at hd''; cases hd'')
        · obtain ⟨o', e', hk'⟩ := W.kind j hx hs b hb
          obtain ⟨_, _, _, ov, o'', e'', hd''⟩ := Fx.cells y b hy
          rw [e'] at e''; cases e''
          rcases hk' with ⟨vs, hd⟩ | ⟨vs, n, hd⟩ <;> (rw [hd] at hd''; cases hd'')
      have hst₃ : St (i + 1) s₃.heap := W.frame _ _ _ hst₂ (kindOut hst₂ F₂ X₃ hfp')
      have hr₃ := hr₂.liv' (X₃.liv F₂)
      refine hB A env μ s₃ _ _ R F₃ M₃ fun f s₄ μ₄ X₄ ho => ?_
      obtain ⟨rfl, M₄, F₄⟩ := ho
      have hfp₄ : ∀ b ∈ fp, b ∉ μ₄ := fun b hb => by
        obtain ⟨o', e', _⟩ := W.kind _ _ hst₃ b hb
        exact X₄.notin (hfp' b hb) e'
      exact ⟨k - 1, by omega, i + 1, μ₄, by omega, hlt, M₄, F₄.sub hS, X₂.trans (X₃.trans X₄), hr₃.liv' (X₄.liv F₃), W.frame _ _ _ hst₃ (kindOut hst₃ F₃ X₄ hfp'), hfp₄⟩
    · obtain ⟨v, rfl, hv⟩ := hr1
      exact hv
  · obtain rfl : i = ds.length := Nat.le_antisymm hle (Nat.not_lt.mp hlt)
    refine W.done _ _ _ hst fun h₂ tk kp => ?_
    have B : But wr s'.heap h₂ := ⟨kp, W.flds _ _ hst⟩
    exact wpAny_execs_nil (hQ _ _ μ (B.extS X' hwr) ⟨rfl, B.mem M' hw0, B.frm F'⟩)
end
end Mine
end PartD1
noncomputable section PartD2
open PySem PySem.W PyProof.Rows
set_option linter.all false
set_option maxRecDepth 20000
namespace Mine
section
variable {prog : Program} {w : World} {A : Around} {E : Value → Shared → Prop} {s : Shared}

theorem stop_tuple {it t : Addr} {i : Nat} {items : Array Value} {Q : Value → Shared → Prop} (hh : A.handled = none) (hit : s.heap.IsTupleIter it t i) (ht : s.heap.IsTuple t items) (hx : items[i]? = none)
    (hE : ∀ h' e, Heap.ExtBut it s.heap h' → (∃ o, h'.get? e = some o ∧ o.cls = .type "StopIteration") → E (.ref e) { s with heap := h' }) :
    wpAny (model prog w) A (Builtin.SmallTypes.nextOf (.ref it)) Q E s := by
  obtain ⟨o, ho, hc, hd⟩ := id hit
  obtain ⟨ol, hol, _, nl, hdl⟩ := ht
  unfold Builtin.SmallTypes.nextOf
  refine wpAny_bind (wpAny_callSpecial?_slot (name := Str.ofString "__next__") hit.typeIs F.slot_tuple_iterator_next
    (wpAny_call_entry F.slot_tuple_iterator_next hit.typeIs F.entry_tuple_iterator_next ?_ (F.args_tuple_iterator_next_1 _)))
  show wpAny _ _ (field (.ref it) 0 >>= _) _ _ s
  refine wpAny_bind (wpAny_field ho hd (x := .ref t) rfl ?_)
  show wpAny _ _ (if (Value.ref t == Value.none) = true then _ else _) _ _ s
  rw [if_neg (show ¬ ((Value.ref t == Value.none) = true) from Bool.false_ne_true)]
  show wpAny _ _ (field (.ref it) 1 >>= _) _ _ s
  refine wpAny_bind (wpAny_field ho hd (x := .int i 0) rfl ?_)
  show wpAny _ _ (seqItems? (.ref t) >>= _) _ _ s
  refine wpAny_bind (wpAny_seqItems hol hdl ?_)
  simp only [Int.toNat_natCast, hx]
  refine wpAny_bind (wpAny_rule (wpAny_bind (wpAny_setField ho hd (by simp) ?_)))
  show wpAny _ _ (newExc (.type "StopIteration") [] >>= _) _ _ _
  refine wpAny_bind ?_
  simp only [newExc, newTuple]
  refine wpAny_bind (wpAny_newObj_type ?_ (by size_fits))
  refine wpAny_bind (m := firstArgMember _ _) (wpAny_of_eq (a := Value.none) (by first | rfl | (simp only [firstArgMember]; rfl)) ?_)
  refine wpAny_newObj_type ?_ (by size_fits)
  simp only [raiseNew]
  refine wpAny_bind (wpAny_handled ?_)
  first | rw [show A.in1.handled = none from hh] | rw [hh]
  refine wpAny_bind (wpAny_pure (wpAny_throw ?_))
  exact hE _ _ (((Heap.SameBut.update ..).extBut.push _).push _) ⟨_, Heap.get?_push_size _ rfl, rfl⟩

theorem next_tuple {it t : Addr} {i : Nat} {items : Array Value} {x : Value} {Q : Value → Shared → Prop} (hit : s.heap.IsTupleIter it t i) (ht : s.heap.IsTuple t items) (hx : items[i]? = some x)
    (hQ : ∀ h', h'.IsTupleIter it t (i + 1) → Heap.SameBut it s.heap h' → Q x { s with heap := h' }) :
    wpAny (model prog w) A (Builtin.SmallTypes.nextOf (.ref it)) Q E s := by
  obtain ⟨o, ho, hc, hd⟩ := id hit
  obtain ⟨ol, hol, _, nl, hdl⟩ := ht
  unfold Builtin.SmallTypes.nextOf
  refine wpAny_bind (wpAny_callSpecial?_slot (name := Str.ofString "__next__") hit.typeIs F.slot_tuple_iterator_next
    (wpAny_call_entry F.slot_tuple_iterator_next hit.typeIs F.entry_tuple_iterator_next ?_ (F.args_tuple_iterator_next_1 _)))
  show wpAny _ _ (field (.ref it) 0 >>= _) _ _ s
  refine wpAny_bind (wpAny_field ho hd (x := .ref t) rfl ?_)
  show wpAny _ _ (if (Value.ref t == Value.none) = true then _ else _) _ _ s
  rw [if_neg (show ¬ ((Value.ref t == Value.none) = true) from Bool.false_ne_true)]
  show wpAny _ _ (field (.ref it) 1 >>= _) _ _ s
  refine wpAny_bind (wpAny_field ho hd (x := .int i 0) rfl ?_)
  show wpAny _ _ (seqItems? (.ref t) >>= _) _ _ s
  refine wpAny_bind (wpAny_seqItems hol hdl ?_)
  simp only [Int.toNat_natCast, hx]
  refine wpAny_bind (wpAny_setField ho hd (by simp) (wpAny_pure ⟨x, rfl, wpAny_pure (hQ _ ?_ (Heap.SameBut.update ..))⟩))
  exact ⟨_, Heap.get?_update_self _ ho (Obj.isFreed_of_fields (Obj.data_mapFields hd _)), (Obj.cls_mapFields ..).trans hc, by
    rw [Obj.data_mapFields hd]; simp [rawInt]⟩

/-- the next pair of an enumerate, whatever it runs over -/
theorem pair_next {e it : Addr} {i : Nat} {x old : Value} {J : Heap → Prop} {Q : Option Value → Shared → Prop} (he : IsEnum s.heap e it i old) (hne : e ≠ it)
    (inner : ∀ (A : Around) (Q : Value → Shared → Prop) (E : Value → Shared → Prop), (∀ h₁, Heap.SameBut it s.heap h₁ → J h₁ → Q x { s with heap := h₁ }) → wpAny (model prog w) A (Builtin.SmallTypes.nextOf (.ref it)) Q E s)
    (hQ : ∀ h' h₁, IsEnumOut h' e it ((i : Int) + 1) x s.heap.objs.size → J h₁ → Heap.SameBut it s.heap h₁ → (∀ o, h₁.get? it = some o → h'.get? it = some o) →
      h'.get? s.heap.objs.size = some { cls := .type "tuple", data := .seq #[.int i s.toks, x] } →
      (∀ b o, b ≠ e → b ≠ it → s.heap.get? b = some o → h'.get? b = some o) → Q (some (.ref s.heap.objs.size)) { s with heap := h', toks := s.toks + 1 }) :
    wpAny (model prog w) A (pyNext (.ref e)) Q E s := by
  have hT : s.TypeIs (.ref e) "enumerate" := ⟨_, he, rfl⟩
  unfold pyNext
  refine wpAny_bind (wpAny_attempt (wpAny_callSpecial?_slot (name := Str.ofString "__next__") hT F.slot_enumerate_next
    (wpAny_call_entry F.slot_enumerate_next hT F.entry_enumerate_next ?_ (F.args_enumerate_next_1 _))))
  obtain ⟨hp, g, d, tk, os⟩ := s
  have hel : e < hp.objs.size := Heap.lt_size he
  show wpAny _ _ (field (.ref e) 2 >>= _) _ _ _
  refine wpAny_bind (wpAny_field he rfl (x := .ref it) rfl (wpAny_bind (inner _ _ _ fun h₁ hs₁ hJ => ?_)))
  replace hs₁ : Heap.SameBut it hp h₁ := hs₁
  have he₁ : IsEnum h₁ e it i old := (hs₁.2 e hne).trans he
  show wpAny _ _ (field (.ref e) 3 >>= _) _ _ ⟨h₁, g, d, tk, os⟩
  refine wpAny_bind (wpAny_field he₁ rfl (x := rawInt i) rfl ?_)
  show wpAny _ _ (field (.ref e) 4 >>= _) _ _ ⟨h₁, g, d, tk, os⟩
  refine wpAny_bind (wpAny_field he₁ rfl (x := .none) rfl ?_)
  show wpAny _ _ (mkInt i >>= _) _ _ ⟨h₁, g, d, tk, os⟩
  refine wpAny_bind (wpAny_mkInt ?_)
  show wpAny _ _ (setField (.ref e) 3 (rawInt ((i : Int) + 1)) >>= _) _ _ ⟨h₁, g, d, tk + 1, os⟩
  refine wpAny_bind (wpAny_setField_rec he₁ (by simp) fun h₂ he₂ hs₂ => ?_)
  replace hs₂ : Heap.SameBut e h₁ h₂ := hs₂
  replace he₂ : IsEnum h₂ e it ((i : Int) + 1) old := he₂
  show wpAny _ _ (setField (.ref e) 4 .none >>= _) _ _ ⟨h₂, g, d, tk + 1, os⟩
  refine wpAny_bind (wpAny_setField_rec he₂ (by simp) fun h₃ he₃ hs₃ => ?_)
  replace hs₃ : Heap.SameBut e h₂ h₃ := hs₃
  replace he₃ : IsEnum h₃ e it ((i : Int) + 1) old := he₃
  show wpAny _ _ (newTuple [.int i tk, x] >>= _) _ _ ⟨h₃, g, d, tk + 1, os⟩
  refine wpAny_bind (wpAny_newTuple ?_)
  have hsz : h₃.objs.size = hp.objs.size := by rw [hs₃.1, hs₂.1, hs₁.1]
  have up : Heap.SameBut e h₁ h₃ := hs₂.trans hs₃
  have he₄ : IsEnum (h₃.push { cls := .type "tuple", data := .seq #[.int i tk, x] }) e it ((i : Int) + 1) old := Heap.get?_push_of_some _ he₃
  have ht₄ : (h₃.push { cls := .type "tuple", data := .seq #[.int i tk, x] }).get? hp.objs.size = some { cls := .type "tuple", data := .seq #[.int i tk, x] } := by rw [← hsz]; exact Heap.get?_push_size _ rfl
  have k₄ : ∀ b o, b ≠ e → h₁.get? b = some o → (h₃.push { cls := .type "tuple", data := .seq #[.int i tk, x] }).get? b = some o := fun b o hb eo => Heap.get?_push_of_some _ ((up.2 b hb).trans eo)
  generalize (h₃.push { cls := .type "tuple", data := .seq #[.int i tk, x] }) = h₄ at he₄ ht₄ k₄ ⊢
  show wpAny _ _ (Builtin.SmallTypes.ownedTupleIsFree (.ref e) >>= _) _ _ ⟨h₄, g, d, tk + 1, os⟩
  rw [hsz]
  refine wpAny_bind ?_
  unfold Builtin.SmallTypes.ownedTupleIsFree
  refine wpAny_bind (wpAny_field he₄ rfl (x := .none) rfl (wpAny_pure ?_))
  simp only [if_true]
  refine wpAny_bind (wpAny_rule (wpAny_bind (wpAny_field he₄ rfl (x := old) rfl (wpAny_bind (wpAny_setField_rec he₄ (by simp) fun h₅ he₅ hs₅ => ?_)))))
  replace hs₅ : Heap.SameBut e h₄ h₅ := hs₅
  replace he₅ : IsEnum h₅ e it ((i : Int) + 1) x := he₅
  show wpAny _ _ (Builtin.SmallTypes.ownedTupleHandOut (.ref e) (.ref hp.objs.size) >>= _) _ _ ⟨h₅, g, d, tk + 1, os⟩
  refine wpAny_bind ?_
  unfold Builtin.SmallTypes.ownedTupleHandOut
  refine wpAny_bind (wpAny_setField_rec he₅ (by simp) fun h₆ he₆ hs₆ => ?_)
  replace hs₆ : Heap.SameBut e h₅ h₆ := hs₆
  replace he₆ : IsEnumOut h₆ e it ((i : Int) + 1) x hp.objs.size := he₆
  refine wpAny_setField_rec he₆ (by simp) fun h₇ he₇ hs₇ => ?_
  replace hs₇ : Heap.SameBut e h₆ h₇ := hs₇
  replace he₇ : IsEnumOut h₇ e it ((i : Int) + 1) x hp.objs.size := he₇
  have last : Heap.SameBut e h₄ h₇ := (hs₅.trans hs₆).trans hs₇
  refine wpAny_bind (wpAny_letGo (wpAny_pure ⟨_, rfl, wpAny_pure (hQ h₇ h₁ he₇ hJ hs₁ (fun o eo => (last.2 it (Ne.symm hne)).trans (k₄ it o (Ne.symm hne) eo)) ((last.2 _ (Nat.ne_of_gt hel)).trans ht₄) fun b o hbe hbi hb => ?_)⟩))
  exact (last.2 b hbe).trans (k₄ b o hbe ((hs₁.2 b hbi).trans hb))

theorem pair_end {e it : Addr} {i : Nat} {old : Value} {Q : Option Value → Shared → Prop} (he : IsEnum s.heap e it i old)
    (inner : ∀ (A' : Around) (Q : Value → Shared → Prop) (E : Value → Shared → Prop), A'.handled = A.handled → (∀ h' e', Heap.ExtBut it s.heap h' → (∃ o, h'.get? e' = some o ∧ o.cls = .type "StopIteration") → E (.ref e') { s with heap := h' }) →
      wpAny (model prog w) A' (Builtin.SmallTypes.nextOf (.ref it)) Q E s)
    (hQ : ∀ h', Heap.ExtBut it s.heap h' → Q none { s with heap := h' }) : wpAny (model prog w) A (pyNext (.ref e)) Q E s := by
  have hT : s.TypeIs (.ref e) "enumerate" := ⟨_, he, rfl⟩
  unfold pyNext
  refine wpAny_bind (wpAny_attempt (wpAny_callSpecial?_slot (name := Str.ofString "__next__") hT F.slot_enumerate_next
    (wpAny_call_entry F.slot_enumerate_next hT F.entry_enumerate_next ?_ (F.args_enumerate_next_1 _))))
  show wpAny _ _ (field (.ref e) 2 >>= _) _ _ _
  refine wpAny_bind (wpAny_field he rfl (x := .ref it) rfl ?_)
  refine wpAny_bind (inner _ _ _ rfl fun h' x he' hx' => ?_)
  obtain ⟨o, ho, hc⟩ := hx'
  refine wpAny_bind (wpAny_isInstance (T := "StopIteration") (b := true) ⟨o, ho, hc⟩ isSubtype_stop ?_)
  exact wpAny_pure (hQ _ he')

theorem enum_new_tuple (l : Addr) (items : Array Value) (n : Nat) :
    Meets (Builtin.«enumerate.__new__» ⟨[.type "enumerate", .ref l], []⟩) (fun _ R s => IsT s.heap l items n ∧
      R (.ok (.ret (.ref (s.heap.push { cls := .type "tuple_iterator", data := .fields #[.ref l, .int 0 0] }).objs.size)))
        { s with heap := (s.heap.push { cls := .type "tuple_iterator", data := .fields #[.ref l, .int 0 0] }).push { cls := .type "enumerate", data := .fields #[.none, .bool false, .ref s.heap.objs.size, rawInt 0, .none, .none] } }) :=
  .of_wp fun prog w A R s h => by
    obtain ⟨hp, g, d, tk, os⟩ := s; obtain ⟨hl, h⟩ := h
    have hsub := sub_enumerate
    have hL : Heap.IsTuple (Shared.heap ⟨hp, g, d, tk, os⟩) l items := ⟨_, hl, rfl, n, rfl⟩
    wp_walk using AutoSeq1.wpAny_loadPart' hl
    refine wpAny_stack_any fun st => wpAny_pure ?_
    split
    · rename_i c _ _ _ _ _
      cases (c == Value.type "enumerate")
      · wp_walk using AutoSeq1.wpAny_loadPart' hl, wpAny_pyIter_tuple hL
        exact ⟨_, rfl, h⟩
      · wp_walk using AutoSeq1.wpAny_loadPart' hl, wpAny_pyIter_tuple hL
        exact ⟨_, rfl, h⟩
    · wp_walk using AutoSeq1.wpAny_loadPart' hl, wpAny_pyIter_tuple hL
      exact ⟨_, rfl, h⟩
end
end Mine
end PartD2
noncomputable section PartD3
open PySem PySem.W PyProof.Rows
set_option linter.all false
set_option maxRecDepth 20000
namespace Mine
section
variable {g : G} {n : Nat} {sc : Scope} {ρ ρ' : List (Str × V)} {σ σ₁ σ₂ σ₃ : List Slot} {pos apos p p2 : Pos} {v v₁ v₂ : V} {A : Around} {env : Env} {μ μ₀ : List Addr} {s : Shared} {E : Value → Shared → Prop} {h h' : Heap}

theorem owned_calm {target : Expr} {I : Addr} {v : Value} {o : Obj} {T : String} {Q : Unit → Shared → Prop} (ho : s.heap.get? I = some o) (hc : o.cls = .type T)
    (hT : ["enumerate", "zip", "dict_itemiterator", "dict_reverseitemiterator", "odict_iterator", "itertools.zip_longest", "itertools.pairwise"].contains T = false) (h : Q () s) :
    wpAny g.M A (letOwnedTupleGo target (.ref I) v) Q E s := by
  have core : wpAny g.M A (do
    let (.ref r, .ref a) := ((Value.ref I), v) | return
    let o ← load r
    match o.cls, o.data with
    | .type n, .fields vs =>
      if ["enumerate", "zip", "dict_itemiterator", "dict_reverseitemiterator", "odict_iterator", "itertools.zip_longest", "itertools.pairwise"].contains n && vs[0]? == some (rawInt a) then
        rule "for.unpacks-the-owned-tuple"
        updateField r 0 .none
    | _, _ => pure ()) Q E s := by
    cases v with
    | ref a =>
      refine wpAny_bind (wpAny_load ho ?_)
      rw [hc]
      cases o.data with
      | fields vs =>
        show wpAny g.M A (if (["enumerate", "zip", "dict_itemiterator", "dict_reverseitemiterator", "odict_iterator", "itertools.zip_longest", "itertools.pairwise"].contains T && vs[0]? == some (rawInt a)) = true then _ else _) Q E s
        rw [hT]; exact wpAny_pure h
      | _ => exact wpAny_pure h
    | _ => exact wpAny_pure h
  cases target <;> first | exact core | exact wpAny_pure h

theorem walks_item {I : Addr} {fp wr : List Addr} {N : Nat} {P : Nat → Value → Prop} {St : Nat → Heap → Prop} {T : String} (W : Walks g.prog g.w A I fp wr N P St)
    (hcls : ∀ i h, St i h → ∃ o, h.get? I = some o ∧ o.cls = .type T)
    (hT : ["enumerate", "zip", "dict_itemiterator", "dict_reverseitemiterator", "odict_iterator", "itertools.zip_longest", "itertools.pairwise"].contains T = false)
    {i : Nat} {target : Expr} {Q : Value → Shared → Prop} (hi : i < N) (st : St i s.heap)
    (hQ : ∀ v h' tk, P i v → St (i + 1) h' → (∀ b o, b ∉ wr → s.heap.get? b = some o → h'.get? b = some o) → Q v { s with heap := h', toks := tk }) :
    wpAny g.M A (pyNext (.ref I)) (fun r s₁ => ∃ v, r = some v ∧ wpAny g.M A (letOwnedTupleGo target (.ref I) v) (fun _ s₂ => Q v s₂) E s₁) E s :=
  W.item i s _ E hi st fun v h' tk hP hst k => ⟨v, rfl, by
    obtain ⟨o, ho, hc⟩ := hcls _ _ hst
    exact owned_calm (s := { s with heap := h', toks := tk }) ho hc hT (hQ v h' tk hP hst k)⟩

theorem Src.list {I ax : Addr} {vs : Array Value} {ds : List PyData} {tg : Expr → Prop} (hh : A.handled = none) (hne : ax ≠ I) (hl : ds.length = vs.size) :
    Src g A I [I, ax] [I] ds vs.toList (fun _ d => d) tg (fun i h => h.IsListIter I ax i ∧ h.IsList ax vs) where
  sub := fun b hb => by simp at hb; simp [hb]
  frame := (Walks.list (prog := g.prog) (w := g.w) hh I ax hne vs).frame
  flds := fun i h st b hb => by simp at hb; subst hb; obtain ⟨o, e, _, hd⟩ := st.1; exact ⟨o, _, e, hd⟩
  kind := fun i h st b hb => by
    simp at hb
    rcases hb with rfl | rfl
    · obtain ⟨o, e, _, hd⟩ := st.1; exact ⟨o, e, .inl ⟨_, hd⟩⟩
    · obtain ⟨o, e, _, n, hd⟩ := st.2; exact ⟨o, e, .inr ⟨_, n, hd⟩⟩
  item := fun i d w s Q E target e1 e2 _ st hQ => by
    have hi : i < vs.size := by rw [← hl]; exact (List.getElem?_eq_some_iff.mp e1).1
    refine walks_item (T := "list_iterator") (Walks.list (prog := g.prog) (w := g.w) hh I ax hne vs) (fun i h st => let ⟨o, e, hc, _⟩ := st.1; ⟨o, e, hc⟩) (by decide) hi st fun v h' tk hP hst k => ?_
    refine hQ v h' tk hst k fun μ hw _ hr => ?_
    have : v = w := by rw [← Array.getElem?_toList, e2] at hP; exact (Option.some.inj hP).symm
    subst this
    exact hr.lives (But.liv (wr := [I]) ⟨k, fun b hb => by simp at hb; subst hb; obtain ⟨o, e, _, hd⟩ := st.1; exact ⟨o, _, e, hd⟩⟩).toLives
  done := fun s Q E st hQ => (Walks.list (prog := g.prog) (w := g.w) hh I ax hne vs).done s Q E (hl ▸ st) hQ
  self := fun i s Q E st hQ => (Walks.list (prog := g.prog) (w := g.w) hh I ax hne vs).self i s Q E st hQ
theorem Src.tuple {I ax : Addr} {vs : Array Value} {ds : List PyData} {tg : Expr → Prop} (hh : A.handled = none) (hne : ax ≠ I) (hl : ds.length = vs.size) :
    Src g A I [I, ax] [I] ds vs.toList (fun _ d => d) tg (fun i h => h.IsTupleIter I ax i ∧ h.IsTuple ax vs) where
  sub := fun b hb => by simp at hb; simp [hb]
  frame := (Walks.tuple (prog := g.prog) (w := g.w) hh I ax hne vs).frame
  flds := fun i h st b hb => by simp at hb; subst hb; obtain ⟨o, e, _, hd⟩ := st.1; exact ⟨o, _, e, hd⟩
  kind := fun i h st b hb => by
    simp at hb
    rcases hb with rfl | rfl
    · obtain ⟨o, e, _, hd⟩ := st.1; exact ⟨o, e, .inl ⟨_, hd⟩⟩
    · obtain ⟨o, e, _, n, hd⟩ := st.2; exact ⟨o, e, .inr ⟨_, n, hd⟩⟩
  item := fun i d w s Q E target e1 e2 _ st hQ => by
    have hi : i < vs.size := by rw [← hl]; exact (List.getElem?_eq_some_iff.mp e1).1
    refine walks_item (T := "tuple_iterator") (Walks.tuple (prog := g.prog) (w := g.w) hh I ax hne vs) (fun i h st => let ⟨o, e, hc, _⟩ := st.1; ⟨o, e, hc⟩) (by decide) hi st fun v h' tk hP hst k => ?_
    refine hQ v h' tk hst k fun μ hw _ hr => ?_
    have : v = w := by rw [← Array.getElem?_toList, e2] at hP; exact (Option.some.inj hP).symm
    subst this
    exact hr.lives (But.liv (wr := [I]) ⟨k, fun b hb => by simp at hb; subst hb; obtain ⟨o, e, _, hd⟩ := st.1; exact ⟨o, _, e, hd⟩⟩).toLives
  done := fun s Q E st hQ => (Walks.tuple (prog := g.prog) (w := g.w) hh I ax hne vs).done s Q E (hl ▸ st) hQ
  self := fun i s Q E st hQ => (Walks.tuple (prog := g.prog) (w := g.w) hh I ax hne vs).self i s Q E st hQ
theorem Src.rev {I ax : Addr} {vs : Array Value} {ds : List PyData} {tg : Expr → Prop} (hh : A.handled = none) (hne : ax ≠ I) (hl : ds.length = vs.size) :
    Src g A I [I, ax] [I] ds vs.toList.reverse (fun _ d => d) tg (fun i h => i ≤ vs.size ∧ h.IsRevIter I ax ((vs.size : Int) - 1 - (i : Int)) ∧ h.IsList ax vs) where
  sub := fun b hb => by simp at hb; simp [hb]
  frame := (Walks.listRev (prog := g.prog) (w := g.w) hh I ax hne vs).frame
  flds := fun i h st b hb => by simp at hb; subst hb; obtain ⟨o, e, _, hd⟩ := st.2.1; exact ⟨o, _, e, hd⟩
  kind := fun i h st b hb => by
    simp at hb
    rcases hb with rfl | rfl
    · obtain ⟨o, e, _, hd⟩ := st.2.1; exact ⟨o, e, .inl ⟨_, hd⟩⟩
    · obtain ⟨o, e, _, n, hd⟩ := st.2.2; exact ⟨o, e, .inr ⟨_, n, hd⟩⟩
  item := fun i d w s Q E target e1 e2 _ st hQ => by
    have hi : i < vs.size := by rw [← hl]; exact (List.getElem?_eq_some_iff.mp e1).1
    refine walks_item (T := "list_reverseiterator") (Walks.listRev (prog := g.prog) (w := g.w) hh I ax hne vs) (fun i h st => let ⟨o, e, hc, _⟩ := st.2.1; ⟨o, e, hc⟩) (by decide) hi st fun v h' tk hP hst k => ?_
    refine hQ v h' tk hst k fun μ hw _ hr => ?_
    have : v = w := by
      rw [← Array.getElem?_toList] at hP
      have e3 : vs.toList.reverse[i]? = vs.toList[vs.size - 1 - i]? := by
        rw [List.getElem?_reverse (by simpa using hi), Array.length_toList]
      rw [e3, hP] at e2; exact Option.some.inj e2
    subst this
    exact hr.lives (But.liv (wr := [I]) ⟨k, fun b hb => by simp at hb; subst hb; obtain ⟨o, e, _, hd⟩ := st.2.1; exact ⟨o, _, e, hd⟩⟩).toLives
  done := fun s Q E st hQ => (Walks.listRev (prog := g.prog) (w := g.w) hh I ax hne vs).done s Q E (hl ▸ st) hQ
  self := fun i s Q E st hQ => (Walks.listRev (prog := g.prog) (w := g.w) hh I ax hne vs).self i s Q E st hQ
def upInts (N : Nat) : List PyData := (List.range N).map fun (i : Nat) => PyData.int (i : Int)
theorem Src.range {I : Addr} {N : Nat} {tg : Expr → Prop} {items : List Value} (hh : A.handled = none) :
    Src g A I [I] [I] (upInts N) items (fun _ d => d) tg (fun i h => IsRangeIter h I (0 + (i : Nat) * 1) ((N : Int) - (i : Nat)) 1) where
  sub := fun _ hb => hb
  frame := (Walks.range (prog := g.prog) (w := g.w) hh I 0 1 N).frame
  flds := fun i h st b hb => by simp at hb; subst hb; exact ⟨_, _, st, rfl⟩
  kind := fun i h st b hb => by simp at hb; subst hb; exact ⟨_, st, .inl ⟨_, rfl⟩⟩
  item := fun i d w s Q E target e1 e2 _ st hQ => by
    have hi : i < N := by have := (List.getElem?_eq_some_iff.mp e1).1; simpa [upInts] using this
    have hd : d = .int (i : Int) := by
      simp only [upInts, List.getElem?_map, List.getElem?_range hi, Option.map_some] at e1
      exact (Option.some.inj e1).symm
    refine walks_item (T := "range_iterator") (Walks.range (prog := g.prog) (w := g.w) hh I 0 1 N) (fun i h st => ⟨_, st, rfl⟩) (by decide) hi st fun v h' tk hP hst k => ?_
    refine hQ v h' tk hst k fun μ hw _ hr => ?_
    obtain ⟨t, rfl⟩ := hP
    subst hd
    exact rd_int.mpr ⟨t, by simp⟩
  done := fun s Q E st hQ => (Walks.range (prog := g.prog) (w := g.w) hh I 0 1 N).done s Q E (by simpa [upInts] using st) hQ
  self := fun i s Q E st hQ => (Walks.range (prog := g.prog) (w := g.w) hh I 0 1 N).self i s Q E st hQ

def TupTgt : Expr → Prop
  | .Tuple .. => True
  | _ => False
theorem Src.enumT {e it ax : Addr} {vs : Array Value} {ds : List PyData} (hh : A.handled = none) (hei : e ≠ it) (hae : ax ≠ e) (hai : ax ≠ it) (hl : ds.length = vs.size) :
    Src g A e [e, it, ax] [e, it] ds vs.toList (fun i d => .tuple [.int (i : Int), d]) TupTgt (fun i h => (∃ old, IsEnum h e it i old) ∧ h.IsTupleIter it ax i ∧ h.IsTuple ax vs) where
  sub := fun b hb => by simp at hb; rcases hb with rfl | rfl <;> simp
  frame := fun i h h' st k => ⟨let ⟨old, x⟩ := st.1; ⟨old, k e (by simp) _ x⟩, let ⟨o, x, r⟩ := st.2.1; ⟨o, k it (by simp) _ x, r⟩, let ⟨o, x, r⟩ := st.2.2; ⟨o, k ax (by simp) _ x, r⟩⟩
  flds := fun i h st b hb => by
    simp at hb
    rcases hb with rfl | rfl
    · obtain ⟨old, x⟩ := st.1; exact ⟨_, _, x, rfl⟩
    · obtain ⟨o, x, _, hd⟩ := st.2.1; exact ⟨o, _, x, hd⟩
  kind := fun i h st b hb => by
    simp at hb
    rcases hb with rfl | rfl | rfl
    · obtain ⟨old, x⟩ := st.1; exact ⟨_, x, .inl ⟨_, rfl⟩⟩
    · obtain ⟨o, x, _, hd⟩ := st.2.1; exact ⟨o, x, .inl ⟨_, hd⟩⟩
    · obtain ⟨o, x, _, n, hd⟩ := st.2.2; exact ⟨o, x, .inr ⟨_, n, hd⟩⟩
  item := fun i d w s Q E target e1 e2 ht st hQ => by
    obtain ⟨⟨old, he⟩, hit, hax⟩ := st
    rw [Array.getElem?_toList] at e2
    have ob := hit
    obtain ⟨oi, hoi, hci, hdi⟩ := ob
    refine pair_next (prog := g.prog) (w := g.w) (x := w) (J := fun h => h.IsTupleIter it ax (i + 1)) he hei (fun A Q E hq => next_tuple hit hax e2 fun h' a b => hq h' b a) fun h' h₁ ho hJ hs₁ hk1 hT k => ?_
    refine ⟨_, rfl, ?_⟩
    cases target with
    | Tuple elts k0 pos =>
      refine wpAny_letOwnedTupleGo_enum (s := { s with heap := h', toks := s.toks + 1 }) ho fun h₂ he₂ hs₂ => ?_
      replace hs₂ : Heap.SameBut e h' h₂ := hs₂
      obtain ⟨o', x', hc', hd'⟩ := hJ
      have helt : e < s.heap.objs.size := Heap.lt_size he
      have hTne : s.heap.objs.size ≠ e := Nat.ne_of_gt helt
      refine hQ _ h₂ _ ⟨⟨_, by simpa using he₂⟩, ⟨o', (hs₂.2 it (Ne.symm hei)).trans (hk1 _ x'), hc', hd'⟩, let ⟨o, x, r⟩ := hax; ⟨o, (hs₂.2 ax hae).trans (k ax o hae hai x), r⟩⟩
        (fun b o hb x => (hs₂.2 b (fun q => hb (by simp [q]))).trans (k b o (fun q => hb (by simp [q])) (fun q => hb (by simp [q])) x)) fun μ hw hal hr => ?_
      have B : But [e, it] s.heap h₂ := ⟨fun b o hb x => (hs₂.2 b (fun q => hb (by simp [q]))).trans (k b o (fun q => hb (by simp [q])) (fun q => hb (by simp [q])) x), fun b hb => by
        simp at hb
        rcases hb with rfl | rfl
        · exact ⟨_, _, he, rfl⟩
        · exact ⟨oi, _, hoi, hdi⟩⟩
      refine rd_tuple.mpr ⟨_, _, _, rfl, fun hm => ?_, (hs₂.2 _ hTne).trans hT, by show 2 ≤ sizeLine; exact Nat.le_of_ble_eq_true rfl, ?_⟩
      · obtain ⟨o, x⟩ := hal _ hm; exact absurd (Heap.lt_size x) (Nat.lt_irrefl _)
      · exact rds_cons.mpr ⟨_, _, rfl, rd_int.mpr ⟨_, rfl⟩, rds_cons.mpr ⟨_, _, rfl, hr.lives B.liv.toLives, rds_nil.mpr rfl⟩⟩
    | _ => exact ht.elim
  done := fun s Q E st hQ => by
    obtain ⟨⟨old, he⟩, hit, hax⟩ := st
    exact pair_end (prog := g.prog) (w := g.w) he (fun A' Q E hA hE => stop_tuple (hA.trans hh) hit hax (by simp [hl]) hE) fun h' hx => hQ h' s.toks fun b o hb x => hx b o (fun q => hb (by simp [q])) x
  self := fun i s Q E st hQ => let ⟨old, he⟩ := st.1; wpAny_pyIter_enum he hQ
theorem Src.enumL {e it ax : Addr} {vs : Array Value} {ds : List PyData} (hh : A.handled = none) (hei : e ≠ it) (hae : ax ≠ e) (hai : ax ≠ it) (hl : ds.length = vs.size) :
    Src g A e [e, it, ax] [e, it] ds vs.toList (fun i d => .tuple [.int (i : Int), d]) TupTgt (fun i h => (∃ old, IsEnum h e it i old) ∧ h.IsListIter it ax i ∧ h.IsList ax vs) where
  sub := fun b hb => by simp at hb; rcases hb with rfl | rfl <;> simp
  frame := fun i h h' st k => ⟨let ⟨old, x⟩ := st.1; ⟨old, k e (by simp) _ x⟩, let ⟨o, x, r⟩ := st.2.1; ⟨o, k it (by simp) _ x, r⟩, let ⟨o, x, r⟩ := st.2.2; ⟨o, k ax (by simp) _ x, r⟩⟩
  flds := fun i h st b hb => by
    simp at hb
    rcases hb with rfl | rfl
    · obtain ⟨old, x⟩ := st.1; exact ⟨_, _, x, rfl⟩
    · obtain ⟨o, x, _, hd⟩ := st.2.1; exact ⟨o, _, x, hd⟩
  kind := fun i h st b hb => by
    simp at hb
    rcases hb with rfl | rfl | rfl
    · obtain ⟨old, x⟩ := st.1; exact ⟨_, x, .inl ⟨_, rfl⟩⟩
    · obtain ⟨o, x, _, hd⟩ := st.2.1; exact ⟨o, x, .inl ⟨_, hd⟩⟩
    · obtain ⟨o, x, _, n, hd⟩ := st.2.2; exact ⟨o, x, .inr ⟨_, n, hd⟩⟩
  item := fun i d w s Q E target e1 e2 ht st hQ => by
    obtain ⟨⟨old, he⟩, hit, hax⟩ := st
    rw [Array.getElem?_toList] at e2
    have ob := hit
    obtain ⟨oi, hoi, hci, hdi⟩ := ob
    refine pair_next (prog := g.prog) (w := g.w) (x := w) (J := fun h => h.IsListIter it ax (i + 1)) he hei (fun A Q E hq => wpAny_nextOf_list_item hit hax e2 fun h' a b => hq h' b a) fun h' h₁ ho hJ hs₁ hk1 hT k => ?_
    refine ⟨_, rfl, ?_⟩
    cases target with
    | Tuple elts k0 pos =>
      refine wpAny_letOwnedTupleGo_enum (s := { s with heap := h', toks := s.toks + 1 }) ho fun h₂ he₂ hs₂ => ?_
      replace hs₂ : Heap.SameBut e h' h₂ := hs₂
      obtain ⟨o', x', hc', hd'⟩ := hJ
      have helt : e < s.heap.objs.size := Heap.lt_size he
      have hTne : s.heap.objs.size ≠ e := Nat.ne_of_gt helt
      refine hQ _ h₂ _ ⟨⟨_, by simpa using he₂⟩, ⟨o', (hs₂.2 it (Ne.symm hei)).trans (hk1 _ x'), hc', hd'⟩, let ⟨o, x, r⟩ := hax; ⟨o, (hs₂.2 ax hae).trans (k ax o hae hai x), r⟩⟩
        (fun b o hb x => (hs₂.2 b (fun q => hb (by simp [q]))).trans (k b o (fun q => hb (by simp [q])) (fun q => hb (by simp [q])) x)) fun μ hw hal hr => ?_
      have B : But [e, it] s.heap h₂ := ⟨fun b o hb x => (hs₂.2 b (fun q => hb (by simp [q]))).trans (k b o (fun q => hb (by simp [q])) (fun q => hb (by simp [q])) x), fun b hb => by
        simp at hb
        rcases hb with rfl | rfl
        · exact ⟨_, _, he, rfl⟩
        · exact ⟨oi, _, hoi, hdi⟩⟩
      refine rd_tuple.mpr ⟨_, _, _, rfl, fun hm => ?_, (hs₂.2 _ hTne).trans hT, by show 2 ≤ sizeLine; exact Nat.le_of_ble_eq_true rfl, ?_⟩
      · obtain ⟨o, x⟩ := hal _ hm; exact absurd (Heap.lt_size x) (Nat.lt_irrefl _)
      · exact rds_cons.mpr ⟨_, _, rfl, rd_int.mpr ⟨_, rfl⟩, rds_cons.mpr ⟨_, _, rfl, hr.lives B.liv.toLives, rds_nil.mpr rfl⟩⟩
    | _ => exact ht.elim
  done := fun s Q E st hQ => by
    obtain ⟨⟨old, he⟩, hit, hax⟩ := st
    exact pair_end (prog := g.prog) (w := g.w) he (fun A' Q E hA hE => wpAny_nextOf_list_end (hA.trans hh) hit hax (by simp [hl]) hE) fun h' hx => hQ h' s.toks fun b o hb x => hx b o (fun q => hb (by simp [q])) x
  self := fun i s Q E st hQ => let ⟨old, he⟩ := st.1; wpAny_pyIter_enum he hQ
end
end Mine
end PartD3
noncomputable section PartD4
open PySem PySem.W PyProof.Rows
set_option linter.all false
set_option maxRecDepth 20000
namespace Mine
section
variable {g : G} {n : Nat} {sc : Scope} {ρ ρ' : List (Str × V)} {σ σ₁ σ₂ σ₃ : List Slot} {pos apos p p2 : Pos} {v v₁ v₂ : V} {A : Around} {env : Env} {μ μ₀ μ₁ : List Addr} {s s₁ : Shared} {E : Value → Shared → Prop} {h h' : Heap}

theorem fresh_back (x : Ext μ h μ₁ s₁.heap) (M₁ : Mem g μ₁ σ₁ s₁) {a : Addr} (e : s₁.heap.get? a = none) : h.get? a = none := by
  by_cases hm : a ∈ μ
  · obtain ⟨⟨ν, hν, _⟩, _⟩ := x
    obtain ⟨o, e'⟩ := M₁.alive (a := a) (by rw [hν]; exact List.mem_append_left _ hm)
    rw [e] at e'; cases e'
  · exact none_of_keep (fun o e => x.keep _ o hm e) e
theorem size1_none {h : Heap} {o : Obj} : h.get? (h.objs.size + 1) = none := by
  cases q : h.get? (h.objs.size + 1) with
  | none => rfl
  | some o => exact absurd (Heap.lt_size q) (Nat.not_lt.mpr (Nat.le_succ _))
theorem ITR.lst {iter : Expr} {ds : List PyData} {tg : Expr → Prop} (hv : EV g n sc iter ρ σ (.dat (.list ds)) σ₁) : ITR g n sc iter ρ σ ds (fun _ d => d) tg σ₁ := fun A env μ s Q E R F M hQ =>
  hv A env μ s _ E R F M fun w s₁ μ₁ x M₁ V₁ => by
    obtain ⟨a, vs, m, rfl, na, hl, hz, hr⟩ := rd_list.mp (vr_dat.mp V₁)
    have hlen : ds.length = vs.size := hr.length.trans Array.length_toList
    have hne : a ≠ s₁.heap.objs.size := Nat.ne_of_lt (Heap.lt_size hl)
    refine wpAny_pyIter_list (IsL.isList hl) ?_
    exact hQ _ μ₁ s₁.heap.objs.size _ _ vs.toList _ (x.trans (.push _)) (M₁.push _) (Src.list R.hnd hne hlen) ⟨⟨_, Heap.get?_push_size _ rfl, rfl, rfl⟩, IsL.isList (hl.push _)⟩
      (fun b hb => by simp at hb; subst hb; exact fresh_back x M₁ size_none)
      (fun b hb => by simp at hb; rcases hb with rfl | rfl; exact M₁.fresh; exact na) (hr.ext (.push _))
theorem ITR.tup {iter : Expr} {ds : List PyData} {tg : Expr → Prop} (hv : EV g n sc iter ρ σ (.dat (.tuple ds)) σ₁) : ITR g n sc iter ρ σ ds (fun _ d => d) tg σ₁ := fun A env μ s Q E R F M hQ =>
  hv A env μ s _ E R F M fun w s₁ μ₁ x M₁ V₁ => by
    obtain ⟨a, vs, m, rfl, na, hl, hz, hr⟩ := rd_tuple.mp (vr_dat.mp V₁)
    have hlen : ds.length = vs.size := hr.length.trans Array.length_toList
    have hne : a ≠ s₁.heap.objs.size := Nat.ne_of_lt (Heap.lt_size hl)
    refine wpAny_pyIter_tuple (isTup hl) ?_
    exact hQ _ μ₁ s₁.heap.objs.size _ _ vs.toList _ (x.trans (.push _)) (M₁.push _) (Src.tuple R.hnd hne hlen) ⟨⟨_, Heap.get?_push_size _ rfl, rfl, rfl⟩, isTup (hl.push _)⟩
      (fun b hb => by simp at hb; subst hb; exact fresh_back x M₁ size_none)
      (fun b hb => by simp at hb; rcases hb with rfl | rfl; exact M₁.fresh; exact na) (hr.ext (.push _))

theorem call_one {x : Str} {e : Expr} {T : String} {v : V} {Q : Value → Shared → Prop} (hx : sc.names.lookup x = some NameKind.globalImplicit) (hK : nsIn g.K mainGlobals x = some Option.none) (hv : bootBuiltins x = some (.type T))
    (he : EV g n sc e ρ σ v σ₁) (R : Room n A) (F : Frm g env sc μ ρ s.heap) (M : Mem g μ σ s)
    (h : ∀ w s₁ μ₁, Ext μ s.heap μ₁ s₁.heap → Mem g μ₁ σ₁ s₁ → VR μ₁ s₁.heap v w → wpAny g.M A (call (.type T) [w]) Q E s₁)
    (hst : ∀ env, starEach [e] env = [(false, eval e env)]) (hd : (x == ("__debug__" : Str)) = false) (hn : x ≠ "__name__") : wpAny g.M A (eval (.Call (.Name x p) [e] [] pos) env) Q E s :=
  Call_ (name_builtin hx hK hv hn F M (PyProof.Rows.callWith_type1 (args_cons (he A env μ s _ E R F M fun w s₁ μ₁ x₁ M₁ V₁ => args_nil (h w s₁ μ₁ x₁ M₁ V₁)) (hst env)) (hst env)) hd)

theorem ITR.rev {e : Expr} {ds : List PyData} {tg : Expr → Prop} (hx : sc.names.lookup ("reversed" : Str) = some NameKind.globalImplicit) (hK : nsIn g.K mainGlobals ("reversed" : Str) = some Option.none) (hv : EV g n sc e ρ σ (.dat (.list ds)) σ₁)
    (hst : ∀ env, starEach [e] env = [(false, eval e env)] := by intro _; rfl) :
    ITR g n sc (.Call (.Name "reversed" p) [e] [] pos) ρ σ ds.reverse (fun _ d => d) tg σ₁ := fun A env μ s Q E R F M hQ =>
  call_one (T := "reversed") hx hK (by decide +kernel) hv R F M (fun w s₁ μ₁ x M₁ V₁ => by
    obtain ⟨a, vs, m, rfl, na, hl, hz, hr⟩ := rd_list.mp (vr_dat.mp V₁)
    have hlen : ds.reverse.length = vs.size := by rw [List.length_reverse]; exact hr.length.trans Array.length_toList
    have hne : a ≠ s₁.heap.objs.size := Nat.ne_of_lt (Heap.lt_size hl)
    have hit : (s₁.heap.push (revObj a ((vs.size : Int) - 1))).IsRevIter s₁.heap.objs.size a ((vs.size : Int) - 1) := ⟨_, Heap.get?_push_size _ rfl, rfl, rfl⟩
    refine call_reversed_list (IsL.isList hl) (wpAny_pyIter_revIter hit ?_)
    exact hQ _ μ₁ s₁.heap.objs.size _ _ vs.toList.reverse _ (x.trans (.push _)) (M₁.push _) (Src.rev R.hnd hne hlen) ⟨Nat.zero_le _, by simpa using hit, IsL.isList (hl.push _)⟩
      (fun b hb => by simp at hb; subst hb; exact fresh_back x M₁ size_none)
      (fun b hb => by simp at hb; rcases hb with rfl | rfl; exact M₁.fresh; exact na) (rds_reverse (hr.ext (.push _)))) hst (by decide) (by decide)
theorem ITR.enumT {e : Expr} {ds : List PyData} (hx : sc.names.lookup ("enumerate" : Str) = some NameKind.globalImplicit) (hK : nsIn g.K mainGlobals ("enumerate" : Str) = some Option.none) (hv : EV g n sc e ρ σ (.dat (.tuple ds)) σ₁)
    (hst : ∀ env, starEach [e] env = [(false, eval e env)] := by intro _; rfl) :
    ITR g n sc (.Call (.Name "enumerate" p) [e] [] pos) ρ σ ds (fun i d => .tuple [.int (i : Int), d]) TupTgt σ₁ := fun A env μ s Q E R F M hQ =>
  call_one (T := "enumerate") hx hK (by decide +kernel) hv R F M (fun w s₁ μ₁ x M₁ V₁ => by
    obtain ⟨a, vs, m, rfl, na, hl, hz, hr⟩ := rd_tuple.mp (vr_dat.mp V₁)
    have hlen : ds.length = vs.size := hr.length.trans Array.length_toList
    have hlt : a < s₁.heap.objs.size := Heap.lt_size hl
    have hsz : ∀ o : Obj, (s₁.heap.push o).objs.size = s₁.heap.objs.size + 1 := fun o => Heap.size_push ..
    refine callType_new PySem.F.called_enumerate (by decide) (PySem.F.typeCall_enumerate_1 _) (PySem.F.newCall_enumerate_1 _) (fun obj => PySem.F.args_object_init_2 obj _) PySem.F.entry_enumerate_new
      (enum_new_tuple a vs m) ⟨hl, ?_⟩
    have he : IsEnum ((s₁.heap.push { cls := .type "tuple_iterator", data := .fields #[.ref a, .int 0 0] }).push
      { cls := .type "enumerate", data := .fields #[.none, .bool false, .ref s₁.heap.objs.size, rawInt 0, .none, .none] }) (s₁.heap.objs.size + 1) s₁.heap.objs.size ((0 : Nat) : Int) .none := by
      have := Heap.get?_push_size (s₁.heap.push { cls := .type "tuple_iterator", data := .fields #[.ref a, .int 0 0] })
        (o := { cls := .type "enumerate", data := .fields #[.none, .bool false, .ref s₁.heap.objs.size, rawInt 0, .none, .none] }) rfl
      rw [hsz] at this; exact this
    show _ ∧ _
    rw [hsz]
    refine ⟨⟨_, he, rfl⟩, wpAny_pyIter_enum he ?_⟩
    exact hQ _ μ₁ (s₁.heap.objs.size + 1) _ _ vs.toList _ (x.trans ((Ext.push _).trans (.push _))) ((M₁.push _).push _) (Src.enumT R.hnd (Nat.ne_of_gt (Nat.lt_succ_self _)) (Nat.ne_of_lt (Nat.lt_succ_of_lt hlt)) (Nat.ne_of_lt hlt) hlen)
      ⟨⟨_, he⟩, ⟨_, Heap.get?_push_of_some _ (Heap.get?_push_size _ rfl), rfl, rfl⟩, isTup ((IsT.push hl _).push _)⟩
      (fun b hb => by
        simp at hb; rcases hb with rfl | rfl
        · exact fresh_back x M₁ (size1_none (o := { cls := .type "tuple" }))
        · exact fresh_back x M₁ size_none)
      (fun b hb => by
        simp at hb; rcases hb with rfl | rfl | rfl
        · exact M₁.fresh_of (size1_none (o := { cls := .type "tuple" }))
        · exact M₁.fresh
        · exact na) (hr.ext ((Ext.push _).trans (.push _)))) hst (by decide) (by decide)
theorem ITR.enumL {e : Expr} {ds : List PyData} (hx : sc.names.lookup ("enumerate" : Str) = some NameKind.globalImplicit) (hK : nsIn g.K mainGlobals ("enumerate" : Str) = some Option.none) (hv : EV g n sc e ρ σ (.dat (.list ds)) σ₁)
    (hst : ∀ env, starEach [e] env = [(false, eval e env)] := by intro _; rfl) :
    ITR g n sc (.Call (.Name "enumerate" p) [e] [] pos) ρ σ ds (fun i d => .tuple [.int (i : Int), d]) TupTgt σ₁ := fun A env μ s Q E R F M hQ =>
  call_one (T := "enumerate") hx hK (by decide +kernel) hv R F M (fun w s₁ μ₁ x M₁ V₁ => by
    obtain ⟨a, vs, m, rfl, na, hl, hz, hr⟩ := rd_list.mp (vr_dat.mp V₁)
    have hlen : ds.length = vs.size := hr.length.trans Array.length_toList
    have hlt : a < s₁.heap.objs.size := Heap.lt_size hl
    refine call_enumerate_1 hl fun h' he hit hsz kp => ?_
    refine wpAny_pyIter_enum he ?_
    have X : Ext μ₁ s₁.heap μ₁ h' := Ext.of_keep kp
    exact hQ _ μ₁ (s₁.heap.objs.size + 1) _ _ vs.toList _ (x.trans X) (M₁.grow (k := s₁.toks) kp) (Src.enumL R.hnd (Nat.ne_of_gt (Nat.lt_succ_self _)) (Nat.ne_of_lt (Nat.lt_succ_of_lt hlt)) (Nat.ne_of_lt hlt) hlen)
      ⟨⟨_, he⟩, hit, IsL.isList (kp _ _ hl)⟩
      (fun b hb => by
        simp at hb; rcases hb with rfl | rfl
        · exact fresh_back x M₁ (size1_none (o := { cls := .type "tuple" }))
        · exact fresh_back x M₁ size_none)
      (fun b hb => by
        simp at hb; rcases hb with rfl | rfl | rfl
        · exact M₁.fresh_of (size1_none (o := { cls := .type "tuple" }))
        · exact M₁.fresh
        · exact na) (hr.ext X)) hst (by decide) (by decide)
theorem rds_ints {μ : List Addr} {h : Heap} : ∀ N, Rds μ h (upInts N) ((List.range N).map fun (i : Nat) => Value.int (i : Int) 0) := by
  intro N
  unfold upInts
  generalize List.range N = l
  induction l with
  | nil => exact rds_nil.mpr rfl
  | cons i l ih => exact rds_cons.mpr ⟨_, _, rfl, rd_int.mpr ⟨_, rfl⟩, ih⟩
theorem ITR.range {e : Expr} {N : Nat} {tg : Expr → Prop} (hx : sc.names.lookup ("range" : Str) = some NameKind.globalImplicit) (hK : nsIn g.K mainGlobals ("range" : Str) = some Option.none) (hv : EV g n sc e ρ σ (.dat (.int (N : Int))) σ₁) (hN : N ≤ sizeLine)
    (hst : ∀ env, starEach [e] env = [(false, eval e env)] := by intro _; rfl) :
    ITR g n sc (.Call (.Name "range" p) [e] [] pos) ρ σ (upInts N) (fun _ d => d) tg σ₁ := fun A env μ s Q E R F M hQ =>
  call_one (T := "range") hx hK (by decide +kernel) hv R F M (fun w s₁ μ₁ x M₁ V₁ => by
    obtain ⟨t, rfl⟩ := rd_int.mp (vr_dat.mp V₁)
    have Fr0 : Fr {} mainGlobals s₁.heap g.mg := ⟨g.T.g.keeps M₁.base, fun b o e => by simp [Heap.get?] at e, Nat.zero_le _⟩
    refine range1_rows (news := []) Fr0 News.nil fun h' tk t₁ u₁ v₁ hr _ _ kp => ?_
    have hsl := sizeLine_eq
    have hsm : Builtin.Range.small 0 (N : Int) 1 = true := small_one (by decide) (by decide) (by omega) (by omega)
    have hrs : Builtin.Range.rangeSize 0 (N : Int) 1 = (N : Int) := by
      simp only [Builtin.Range.rangeSize]; split <;> (try split) <;> (try simp) <;> omega
    refine wpAny_pyIter_range hr hsm ?_
    have X : Ext μ₁ s₁.heap μ₁ h' := Ext.of_keep kp
    have M₂ := M₁.grow (k := tk) kp
    refine hQ _ μ₁ _ _ _ ((List.range N).map fun (i : Nat) => Value.int (i : Int) 0) _ (x.trans (X.trans (.push _))) (M₂.push _) (Src.range R.hnd) ?_ (fun b hb => by simp at hb; subst hb; exact fresh_back (x.trans X) M₂ size_none) (fun b hb => by simp at hb; subst hb; exact M₂.fresh) (rds_ints N)
    rw [hrs]
    show IsRangeIter _ _ _ _ _
    simpa using Heap.get?_push_size _ rfl) hst (by decide) (by decide)
end
end Mine
end PartD4
noncomputable section PartE1
open PySem PySem.W PyProof.Rows
set_option linter.all false
set_option maxRecDepth 20000
namespace Mine
section
variable {g : G} {n : Nat} {sc rsc : Scope} {ρ ρ' : List (Str × V)} {σ σ₁ σ₂ σ₃ : List Slot} {pos apos p p2 : Pos} {v v₁ v₂ : V} {A : Around} {env : Env} {μ μ₀ μ₁ : List Addr} {s s₁ : Shared} {E : Value → Shared → Prop} {h h' : Heap}

/-- the names of a comprehension: stores that touch its own frame alone -/
structure ExtL (L : Addr) (μ : List Addr) (h h' : Heap) : Prop where
  keep : ∀ a o, a ≠ L → h.get? a = some o → h'.get? a = some o
  live : ∀ o, h.get? L = some o → ∃ o', h'.get? L = some o'
theorem ExtL.refl {L : Addr} : ExtL L μ h h := ⟨fun _ _ _ e => e, fun o e => ⟨o, e⟩⟩
theorem ExtL.trans {L : Addr} {h'' : Heap} (x : ExtL L μ h h') (y : ExtL L μ h' h'') : ExtL L μ h h'' := ⟨fun a o ha e => y.keep a o ha (x.keep a o ha e), fun o e => let ⟨o', e'⟩ := x.live o e; y.live o' e'⟩
theorem ExtL.liv {L : Addr} (x : ExtL L μ h h') (hL : ∀ o, h.get? L = some o → ∀ vs n, o.data ≠ .seq vs n) : Liv μ h μ h' :=
  ⟨⟨fun a o vs n hn e hd => ⟨hn, x.keep a o (fun ha => hL o (ha ▸ e) vs n hd) e⟩⟩, fun _ _ e => e⟩
theorem Frm.noseq (F : Frm g env sc μ ρ h) : ∀ o, h.get? env.locals = some o → ∀ vs n, o.data ≠ .seq vs n := let ⟨m, hm, _⟩ := F.vars; ns_noseq hm

theorem storeL {x : Str} {w : Value} {Q : Unit → Shared → Prop} (hx : sc.names.lookup x = some .local) (F : Frm g env sc μ ρ s.heap) (M : Mem g μ σ s) (hv : VR μ s.heap v w)
    (h : ∀ s', ExtL env.locals μ s.heap s'.heap → Mem g μ σ s' → Frm g env sc μ ((x, v) :: ρ) s'.heap → Q () s') : wpAny g.M A (storeName env x w) Q E s := by
  obtain ⟨m, hm, hvars⟩ := F.vars
  have hk : env.scope.kind = .function := by rw [F.esc]; exact F.kind
  have kd : env.kindOf x = sc.names.lookup x := by rw [Env.kindOf, F.esc]
  refine wpAny_storeName_local (kd.trans hx) hm (fun h' hn hs => ?_) (by rw [hk]; rfl)
  have L : Liv μ s.heap μ h' := Liv.sameBut hs (ns_noseq hm)
  refine h _ ⟨fun a o hL e => (hs.2 a hL).trans e, fun o e => let ⟨o', _, _, ho, _⟩ := hn; ⟨o', ho⟩⟩ (M.sameBut hs (ns_noseq hm) F.nL F.lo) ?_
  have cellk : ∀ y c, env.cells.lookup y = some c → ∀ ov, s.heap.IsCell c ov → h'.IsCell c ov := fun y c e ov ⟨o, ho, hd⟩ => ⟨o, (hs.2 c (F.cells y c e).2.1).trans ho, hd⟩
  refine ⟨F.esc, F.kind, F.gl, F.bl, F.lo, F.nL, fun y c e => ?_, F.cinj, F.has, _, hn, fun y u e => ?_⟩
  · obtain ⟨n1, n2, n3, ov, hc⟩ := F.cells y c e
    exact ⟨n1, n2, n3, ov, cellk y c e ov hc⟩
  · rw [lookup_cons'] at e
    by_cases hy : y = x
    · subst hy; rw [if_pos rfl] at e; cases e
      exact ⟨w, hv.liv L, .inl ⟨kd.trans hx, by simp⟩⟩
    · rw [if_neg hy] at e
      obtain ⟨w', hw', hb⟩ := hvars y u e
      refine ⟨w', hw'.liv L, ?_⟩
      rcases hb with ⟨b1, b2⟩ | ⟨b1, c, b2, b3⟩
      · exact .inl ⟨b1, by simp [hy, b2]⟩
      · exact .inr ⟨b1, c, b2, cellk y c b2 _ b3⟩
def AL (g : G) (sc : Scope) (target : Expr) (d : PyData) (ρ ρ' : List (Str × V)) : Prop :=
  ∀ (A : Around) (env : Env) (μ : List Addr) (σ : List Slot) (s : Shared) (w : Value) (Q : Unit → Shared → Prop) (E : Value → Shared → Prop), A.handled = none → Frm g env sc μ ρ s.heap → Mem g μ σ s → Rd μ s.heap d w →
    (∀ s', ExtL env.locals μ s.heap s'.heap → Mem g μ σ s' → Frm g env sc μ ρ' s'.heap → Q () s') → wpAny g.M A (assign target env w) Q E s
theorem AL.name {x : Str} {d : PyData} (hx : sc.names.lookup x = some .local) : AL g sc (.Name x p) d ρ ((x, .dat d) :: ρ) := fun A env μ σ s w Q E _ F M hr hQ =>
  wpAny_assign_Name (storeL hx F M (v := .dat d) hr hQ)
theorem AL.tup2 {x y : Str} {px py : Pos} {k : Nat} {a b : PyData} (hx : sc.names.lookup x = some .local) (hy : sc.names.lookup y = some .local) :
    AL g sc (.Tuple [.Name x px, .Name y py] k p) (.tuple [a, b]) ρ ((y, .dat b) :: (x, .dat a) :: ρ) := fun A env μ σ s w Q E hh F M hr hQ => by
  obtain ⟨t, vs, m, rfl, hn, ht, hz, hrs⟩ := rd_tuple.mp hr
  obtain ⟨w1, r1, e1, ha, hrs⟩ := rds_cons.mp hrs
  obtain ⟨w2, r2, rfl, hb, hrs⟩ := rds_cons.mp hrs
  rw [rds_nil] at hrs; subst hrs
  have hvs : vs = #[w1, w2] := by apply Array.ext'; simpa using e1
  subst hvs
  refine wpAny_assign_Tuple hh (isTup ht) rfl rfl fun h₁ hx₁ => ?_
  have kp : ∀ a o, s.heap.get? a = some o → h₁.get? a = some o := fun a o e => hx₁ a o (Nat.ne_of_lt (Heap.lt_size e)) e
  have X1 : Ext μ s.heap μ h₁ := Ext.of_keep kp
  have M1 : Mem g μ σ { s with heap := h₁ } := M.grow (k := s.toks) kp
  have L1 : ExtL env.locals μ s.heap h₁ := ⟨fun a o _ e => kp a o e, fun o e => ⟨o, kp _ o e⟩⟩
  show wpAny g.M A (assignInOrder [assign (.Name x px) env, assign (.Name y py) env] [w1, w2]) Q E _
  rw [assignInOrder_cons]
  refine wpAny_bind (wpAny_holding (wpAny_assign_Name (storeL hx (F.ext X1) M1 (v := .dat a) (vr_dat.mpr (ha.lives X1.lives)) fun s₂ X2 M2 F2 => ?_)))
  rw [assignInOrder_cons]
  have hb2 : Rd μ s₂.heap b w2 := (hb.lives X1.lives).lives (X2.liv (F.ext X1).noseq).toLives
  refine wpAny_bind (wpAny_holding (wpAny_assign_Name (storeL hy F2 M2 (v := .dat b) hb2 fun s₃ X3 M3 F3 => ?_)))
  exact wpAny_pure (hQ s₃ (L1.trans (X2.trans X3)) M3 F3)

/-- growth while a comprehension runs: its own frame may change -/
structure ExtC (L : Addr) (μ : List Addr) (h : Heap) (μ' : List Addr) (h' : Heap) : Prop where
  pre : ∃ ν, μ' = μ ++ ν ∧ ∀ a ∈ ν, a ∉ μ ∧ h.get? a = none
  keep : ∀ a o, a ∉ μ → a ≠ L → h.get? a = some o → h'.get? a = some o
  live : ∀ a o, a ∉ μ → h.get? a = some o → ∃ o', h'.get? a = some o'
theorem Ext.toC {L : Addr} {μ' : List Addr} (x : Ext μ h μ' h') : ExtC L μ h μ' h' := ⟨x.pre, fun a o hn _ e => x.keep a o hn e, fun a o hn e => ⟨o, x.keep a o hn e⟩⟩
theorem ExtC.notin {L : Addr} {μ' : List Addr} (x : ExtC L μ h μ' h') {a : Addr} {o : Obj} (hn : a ∉ μ) (hl : h.get? a = some o) : a ∉ μ' := by
  obtain ⟨⟨ν, rfl, n⟩, k, l⟩ := x
  intro hm
  rcases List.mem_append.mp hm with q | q
  · exact hn q
  · rw [(n a q).2] at hl; cases hl
theorem ExtC.trans {L : Addr} {μ₁ μ₂ μ₃ : List Addr} {h₁ h₂ h₃ : Heap} (x : ExtC L μ₁ h₁ μ₂ h₂) (y : ExtC L μ₂ h₂ μ₃ h₃) : ExtC L μ₁ h₁ μ₃ h₃ := by
  have nx := fun a o => @ExtC.notin _ _ _ _ _ x a o
  obtain ⟨⟨ν₁, rfl, n1⟩, k1, l1⟩ := x
  obtain ⟨⟨ν₂, rfl, n2⟩, k2, l2⟩ := y
  refine ⟨⟨ν₁ ++ ν₂, by simp, fun a ha => ?_⟩, fun a o hn hL e => k2 a o (nx a o hn e) hL (k1 a o hn hL e), fun a o hn e => ?_⟩
  · rcases List.mem_append.mp ha with q | q
    · exact n1 a q
    · obtain ⟨h1, h2⟩ := n2 a q
      have hn : a ∉ μ₁ := fun hm => h1 (List.mem_append_left _ hm)
      refine ⟨hn, ?_⟩
      cases q : h₁.get? a with
      | none => rfl
      | some o => obtain ⟨o', e'⟩ := l1 a o hn q; rw [e'] at h2; cases h2
  · obtain ⟨o', e'⟩ := l1 a o hn e
    exact l2 a o' (nx a o hn e) e'
theorem ExtL.toC {L : Addr} (x : ExtL L μ h h') : ExtC L μ h μ h' := ⟨⟨[], by simp, by simp⟩, fun a o _ hL e => x.keep a o hL e, fun a o _ e => by
  by_cases ha : a = L
  · subst ha; exact x.live o e
  · exact ⟨o, x.keep a o ha e⟩⟩
theorem ExtC.liv {L : Addr} {μ' : List Addr} (x : ExtC L μ h μ' h') (hL : ∀ o, h.get? L = some o → ∀ vs n, o.data ≠ .seq vs n) : Liv μ h μ' h' := by
  refine ⟨⟨fun a o vs n hn e hd => ⟨x.notin hn e, x.keep a o hn (fun ha => hL o (ha ▸ e) vs n hd) e⟩⟩, fun i a e => ?_⟩
  obtain ⟨⟨ν, rfl, _⟩, _, _⟩ := x
  rw [List.getElem?_append_left (List.getElem?_eq_some_iff.mp e).1]; exact e
theorem But.extC {L : Addr} {wr : List Addr} {hs : Heap} (x : But wr h h') (X : ExtC L μ₀ hs μ h) (hw : ∀ b ∈ wr, hs.get? b = none) : ExtC L μ₀ hs μ h' :=
  have nw : ∀ a o, hs.get? a = some o → a ∉ wr := fun a o e hm => by rw [hw a hm] at e; cases e
  ⟨X.pre, fun a o hn hL e => x.keep a o (nw a o e) (X.keep a o hn hL e), fun a o hn e => let ⟨o', e'⟩ := X.live a o hn e; ⟨o', x.keep a o' (nw a o e) e'⟩⟩

/-- what a comprehension does with one item, names bound -/
abbrev Tail := Around → Env → Addr → (Shared → Prop) → (Value → Shared → Prop) → Shared → Prop
def TN (g : G) (n : Nat) (rsc : Scope) (tail : Tail) (ρ : List (Str × V)) (σ : List Slot) (ys : List PyData) (σ' : List Slot) (ys' : List PyData) : Prop :=
  ∀ (A : Around) (cenv : Env) (μ : List Addr) (s : Shared) (D : Addr) (Q : Shared → Prop) (E : Value → Shared → Prop), Room n A → Frm g cenv rsc μ ρ s.heap → Mem g μ (σ ++ [.list ys]) s → μ[σ.length]? = some D →
    (∀ s' μ', ExtC cenv.locals μ s.heap μ' s'.heap → Mem g μ' (σ' ++ [.list ys']) s' → Frm g cenv rsc μ' ρ s'.heap → Q s') → tail A cenv D Q E s
def turnT (g : G) (A : Around) (target : Expr) (tail : Tail) (it : Value) (D : Addr) (cenv : Env) (c : Code) (Q : Fin → Shared → Prop) (E : Value → Shared → Prop) (s : Shared) : Prop :=
  wpAny g.M A (pyNext it) (fun r s₁ => match r with
    | none => Q (.done .next) s₁
    | some v => wpAny g.M A (letOwnedTupleGo target it v) (fun _ s₂ => wpAny g.M A (assign target cenv v) (fun _ s₃ => tail A cenv D (fun s₄ => Q (.again c) s₄) E s₃) E s₂) E s₁) E s

theorem comp_loop {R : Result → Shared → Prop} {e : Expr} {depth : Nat} {target : Expr} {tail : Tail} {I D : Addr} {cenv : Env} {hs : Heap} {fp wr : List Addr} {ds : List PyData} {items : List Value} {out : Nat → PyData → PyData} {tg : Expr → Prop} {St : Nat → Heap → Prop} {caps : List (Str × V)} {k : Nat}
    (hq : (Code.compLoop e depth (.ref I) (.ref D) cenv).quiet = true)
    (hturn : ∀ s Q (E' : Value → Shared → Prop), turnT g A target tail (.ref I) D cenv (.compLoop e depth (.ref I) (.ref D) cenv) Q (notedBy g.M A cenv E') s →
      wpAny g.M (A.under (.compLoop e depth (.ref I) (.ref D) cenv)) (g.M.den (.compLoop e depth (.ref I) (.ref D) cenv)) Q E' s)
    (W : Src g A I fp wr ds items out tg St) (ht : tg target) (Rm : Room n A)
    (st : Nat → List Slot) (ys : Nat → List PyData) (hlen : ∀ i, i ≤ ds.length → (st i).length = k)
    (step : ∀ i d, ds[i]? = some d → ∃ ρ₁, AL g rsc target (out i d) caps ρ₁ ∧ Sub caps ρ₁ ∧ TN g n rsc tail ρ₁ (st i) (ys i) (st (i + 1)) (ys (i + 1)))
    (hbase : ∀ b o, g.h₀.get? b = some o → hs.get? b = some o) (hwr : ∀ b ∈ wr, hs.get? b = none)
    (h0 : St 0 s.heap) (F : Frm g cenv rsc μ caps s.heap) (M : Mem g μ (st 0 ++ [.list (ys 0)]) s) (hD : μ[k]? = some D) (X : ExtC cenv.locals μ₀ hs μ s.heap) (hr : Rds μ s.heap ds items) (hfp : ∀ b ∈ fp, b ∉ μ) (hfL : cenv.locals ∉ fp)
    (fin : ∀ s' μ', ExtC cenv.locals μ₀ hs μ' s'.heap → Mem g μ' (st ds.length ++ [.list (ys ds.length)]) s' → μ'[k]? = some D → Frm g cenv rsc μ' caps s'.heap → (∃ ν, μ' = μ ++ ν) → R (.ok .next) s') :
    codeAny g.M A (.compLoop e depth (.ref I) (.ref D) cenv) R s := by
  refine codeAny_loop hq (fun j s' => ∃ i μ', j + i = ds.length ∧ i ≤ ds.length ∧ Mem g μ' (st i ++ [.list (ys i)]) s' ∧ Frm g cenv rsc μ' caps s'.heap ∧ ExtC cenv.locals μ₀ hs μ' s'.heap ∧ Rds μ' s'.heap ds items ∧ St i s'.heap ∧ (∀ b ∈ fp, b ∉ μ') ∧ ∃ ν, μ' = μ ++ ν) ?_ ds.length
    ⟨0, μ, rfl, Nat.zero_le _, M, F, X, hr, h0, hfp, [], by simp⟩
  rintro j s' ⟨i, μ', hj, hle, M', F', X', hr', hst, hfp', ν, hν⟩
  have hw0 : ∀ b ∈ wr, b ∉ μ' ∧ g.h₀.get? b = none := fun b hb => ⟨hfp' b (W.sub b hb), none_of_keep (fun o e => hbase b o e) (hwr b hb)⟩
  refine hturn _ _ _ ?_
  by_cases hlt : i < ds.length
  · have hil : i < items.length := by rw [← hr'.length]; exact hlt
    have e1 : ds[i]? = some ds[i] := List.getElem?_eq_getElem hlt
    have e2 : items[i]? = some items[i] := List.getElem?_eq_getElem hil
    obtain ⟨w', hw', hrd⟩ := hr'.get i _ e1
    rw [e2] at hw'; cases hw'
    obtain ⟨ρ₁, hA, hS, hB⟩ := step i ds[i] e1
    refine wpAny_mono (W.item i ds[i] items[i] s' (fun v s₂ => wpAny g.M A (PySem.assign target cenv v) (fun _ s₃ => tail A cenv D (fun s₄ => (.compLoop e depth (.ref I) (.ref D) cenv) = (Code.compLoop e depth (.ref I) (.ref D) cenv) ∧ ∃ m, m < j ∧ ∃ i μ', m + i = ds.length ∧ i ≤ ds.length ∧ Mem g μ' (st i ++ [.list (ys i)]) s₄ ∧ Frm g cenv rsc μ' caps s₄.heap ∧ ExtC cenv.locals μ₀ hs μ' s₄.heap ∧ Rds μ' s₄.heap ds items ∧ St i s₄.heap ∧ (∀ b ∈ fp, b ∉ μ') ∧ ∃ ν, μ' = μ ++ ν)
          (notedBy g.M A cenv fun e s' => R (.error e) s') s₃) (notedBy g.M A cenv fun e s' => R (.error e) s') s₂) _ target e1 e2 ht hst fun v h₂ tk hst₂ kp hrd' => ?_) (fun r s₁ hr1 => ?_) fun _ _ e => e
    · have B : But wr s'.heap h₂ := ⟨kp, W.flds i _ hst⟩
      have M₂ := B.mem M' hw0 (k := tk)
      have F₂ := B.frm F'
      have X₂ := B.extC X' hwr
      have hv := hrd' μ' (fun b hb => (hw0 b hb).1) (fun a ha => M'.alive ha) hrd
      have hr₂ := hr'.liv' B.liv
      refine hA A cenv μ' _ _ v _ _ Rm.hnd F₂ M₂ hv fun s₃ X₃ M₃ F₃ => ?_
      have hst₃ : St (i + 1) s₃.heap := W.frame _ _ _ hst₂ fun b hb o e => X₃.keep b o (fun q => hfL (q ▸ hb)) e
      have hr₃ := hr₂.liv' (X₃.liv F₂.noseq)
      have X03 : ExtC cenv.locals μ₀ hs μ' s₃.heap := X₂.trans X₃.toC
      have hD' : μ'[(st i).length]? = some D := by rw [hlen i hle, hν, List.getElem?_append_left (List.getElem?_eq_some_iff.mp hD).1]; exact hD
      refine hB A cenv μ' s₃ D _ _ Rm F₃ M₃ hD' fun s₄ μ₄ X₄ M₄ F₄ => ?_
      have hfp₄ : ∀ b ∈ fp, b ∉ μ₄ := fun b hb => by
        obtain ⟨o', e', _⟩ := W.kind _ _ hst₃ b hb
        exact X₄.notin (hfp' b hb) e'
      have hst₄ : St (i + 1) s₄.heap := W.frame _ _ _ hst₃ fun b hb o e => X₄.keep b o (hfp' b hb) (fun q => hfL (q ▸ hb)) e
      exact ⟨rfl, j - 1, by omega, i + 1, μ₄, by omega, hlt, M₄, F₄.sub hS, X03.trans X₄, hr₃.liv' (X₄.liv F₃.noseq), hst₄, hfp₄, by obtain ⟨⟨ν', e', _⟩, _⟩ := X₄; exact ⟨ν ++ ν', by rw [e', hν]; simp⟩⟩
    · obtain ⟨v, rfl, hv⟩ := hr1
      exact hv
  · obtain rfl : i = ds.length := Nat.le_antisymm hle (Nat.not_lt.mp hlt)
    refine W.done _ _ _ hst fun h₂ tk kp => ?_
    have B : But wr s'.heap h₂ := ⟨kp, W.flds _ _ hst⟩
    refine fin _ μ' (B.extC X' hwr) (B.mem M' hw0) ?_ (B.frm F') ⟨ν, hν⟩
    rw [hν, List.getElem?_append_left (List.getElem?_eq_some_iff.mp hD).1]; exact hD

/-- one generator: the tail of a turn -/
def emitT (g : G) (elt : Expr) : Tail := fun A cenv D Q E s => wpAny g.M A (eval elt cenv) (fun x s₄ => wpAny g.M A (call (.builtin "list.append") [.ref D, x]) (fun _ s₅ => Q s₅) E s₄) E s
def ifsT (g : G) (ifs : List Expr) (tl : Tail) : Tail := fun A cenv D Q E s =>
  wpAny g.M A (forIn ifs true fun c r => if r = true then do let ok ← isTrue c cenv (eval c cenv); pure (ForInStep.yield ok) else pure (ForInStep.yield r)) (fun ok s₃ => if ok = true then tl A cenv D Q E s₃ else Q s₃) E s
theorem turn1 {elt target iter : Expr} {ifs : List Expr} {scope : Scope} {it : Value} {D : Addr} {cenv : Env} {s : Shared} {Q : Fin → Shared → Prop} {E' : Value → Shared → Prop}
    (h : turnT g A target (ifsT g ifs (emitT g elt)) it D cenv (.compLoop (.ListComp elt [⟨target, iter, ifs, 0⟩] scope pos) 0 it (.ref D) cenv) Q (notedBy g.M A cenv E') s) :
    wpAny g.M (A.under (.compLoop (.ListComp elt [⟨target, iter, ifs, 0⟩] scope pos) 0 it (.ref D) cenv)) (g.M.den (.compLoop (.ListComp elt [⟨target, iter, ifs, 0⟩] scope pos) 0 it (.ref D) cenv)) Q E' s := by
  show wpAny _ A ((compTurn (.ListComp elt [⟨target, iter, ifs, 0⟩] scope pos) 0 it (.ref D) cenv).onRaise (fun x => do noteFrame x cenv; theTreesLotGoes x)) _ _ s
  refine wpAny_noted ?_
  rw [compTurn_list]
  refine wpAny_bind (wpAny_standAt (wpAny_bind (wpAny_mono h (fun r s₁ h₁ => ?_) fun _ _ h' => h')))
  cases r with
  | none => exact wpAny_pure h₁
  | some v =>
    refine wpAny_bind (wpAny_mono h₁ (fun _ s₂ h₂ => wpAny_bind (wpAny_mono h₂ (fun _ s₃ h₃ => wpAny_bind (wpAny_mono h₃ (fun ok s₄ h₄ => ?_) fun _ _ h' => h')) fun _ _ h' => h')) fun _ _ h' => h')
    cases ok with
    | false => exact wpAny_pure h₄
    | true => exact wpAny_bind (wpAny_bind (wpAny_mono h₄ (fun x s₅ h₅ => wpAny_bind (wpAny_mono h₅ (fun _ s₆ h₆ => wpAny_pure (wpAny_pure h₆)) fun _ _ h' => h')) fun _ _ h' => h'))

/-- the element is put behind what there is -/
theorem TN.emit {elt : Expr} {ys : List PyData} {y : PyData} {σ' : List Slot} (h : EV g n rsc elt ρ (σ ++ [.list ys]) (.dat y) (σ' ++ [.list ys])) (hl : σ'.length = σ.length) (hz : ys.length ≤ sizeLine - 1) :
    TN g n rsc (emitT g elt) ρ σ ys σ' (ys ++ [y]) := fun A cenv μ s D Q E R F M hD hQ => by
  refine h A cenv μ s _ E R F M fun w s₂ μ₂ x₂ M₂ V₂ => ?_
  have ha2 : μ₂[σ'.length]? = some D := by rw [hl]; exact x₂.get hD
  obtain ⟨vs2, m2, hl2, hz2, hr2⟩ := M₂.slots σ'.length D (.list ys) ha2 (by simp)
  have e := hr2.length
  have e2 : vs2.toList.length = vs2.size := Array.length_toList
  have hsl := sizeLine_eq
  refine wpAny_list_append_plain ⟨m2, hl2⟩ (fun h' hp hs => ?_) hz2
  obtain ⟨m3, hl3⟩ := hp
  have M₃ := M₂.setSlot (k := s₂.toks) (sl := .list (ys ++ [y])) ha2 hs ⟨_, m3, hl3, by simp only [Array.size_push]; omega, by
    rw [Array.toList_push]
    exact (rd_set ha2 hs hr2).append (rds_cons.mpr ⟨w, [], rfl, (vr_dat.mp (V₂.ext (Ext.setSlot ha2 hs))), rds_nil.mpr rfl⟩)⟩
  have hset : (σ' ++ [Slot.list ys]).set σ'.length (.list (ys ++ [y])) = σ' ++ [.list (ys ++ [y])] := by
    rw [List.set_append_right _ _ (Nat.le_refl _)]; simp
  rw [hset] at M₃
  exact hQ _ μ₂ (x₂.trans (Ext.setSlot ha2 hs)).toC M₃ (F.ext (x₂.trans (Ext.setSlot ha2 hs)))
theorem TN.ifs_nil {tl : Tail} {ys ys' : List PyData} {σ' : List Slot} (h : TN g n rsc tl ρ σ ys σ' ys') : TN g n rsc (ifsT g [] tl) ρ σ ys σ' ys' := fun A cenv μ s D Q E R F M hD hQ =>
  wpAny_tests_nil (by simp only [if_true]; exact h A cenv μ s D Q E R F M hD hQ)
theorem TN.if_true {tl : Tail} {c : Expr} {ys ys' : List PyData} {σ' σ'' : List Slot} (hc : TV g n rsc c ρ (σ ++ [.list ys]) true (σ' ++ [.list ys])) (hl : σ'.length = σ.length) (h : TN g n rsc tl ρ σ' ys σ'' ys') :
    TN g n rsc (ifsT g [c] tl) ρ σ ys σ'' ys' := fun A cenv μ s D Q E R F M hD hQ =>
  wpAny_tests_one (hc A cenv μ s _ E R F M fun s₂ μ₂ x₂ M₂ => by
    simp only [if_true]
    exact h A cenv μ₂ s₂ D Q E R (F.ext x₂) M₂ (by rw [hl]; exact x₂.get hD) fun s' μ' x' M' F' => hQ s' μ' (x₂.toC.trans x') M' F')
theorem TN.if_false {tl : Tail} {c : Expr} {ys : List PyData} {σ' : List Slot} (hc : TV g n rsc c ρ (σ ++ [.list ys]) false (σ' ++ [.list ys])) :
    TN g n rsc (ifsT g [c] tl) ρ σ ys σ' ys := fun A cenv μ s D Q E R F M hD hQ =>
  wpAny_tests_one (hc A cenv μ s _ E R F M fun s₂ μ₂ x₂ M₂ => by
    simp only [Bool.false_eq_true, if_false]
    exact hQ s₂ μ₂ x₂.toC M₂ (F.ext x₂))

/-- two generators -/
def innerT (g : G) (iter2 : Expr) (e : Expr) : Tail := fun A cenv D Q E s =>
  wpAny g.M A (eval iter2 cenv) (fun x s₁ => wpAny g.M A (pyIter x) (fun it s₂ => codeAny g.M A (.compStart e 1 it (.ref D) cenv) (fun r s' => match r with | .ok _ => Q s' | .error e => cameBackBy g.M A cenv E e s') s₂) E s₁) E s
theorem compTurn20 (elt t1 i1 t2 i2 : Expr) (f1 f2 : List Expr) (scope : Scope) (pos : Pos) (it acc : Value) (env : Env) :
    compTurn (.ListComp elt [⟨t1, i1, f1, 0⟩, ⟨t2, i2, f2, 0⟩] scope pos) 0 it acc env = (do
      standAt i1.pos
      match ← pyNext it with
      | none => pure (.done .next)
      | some v =>
        letOwnedTupleGo t1 it v
        assign t1 env v
        let mut ok := true
        for c in f1 do
          if ok then ok ← isTrue c env (eval c env)
        if ok then
          let x ← eval i2 env
          standAt i2.pos
          let x ← foldedSetIterable i2 env x
          let _ ← runOwn (.compStart (.ListComp elt [⟨t1, i1, f1, 0⟩, ⟨t2, i2, f2, 0⟩] scope pos) 1 (← holding [x] (pyIter x)) acc env) env
        again (.compLoop (.ListComp elt [⟨t1, i1, f1, 0⟩, ⟨t2, i2, f2, 0⟩] scope pos) 0 it acc env)) := by rfl
theorem compTurn21 (elt t1 i1 t2 i2 : Expr) (f1 f2 : List Expr) (scope : Scope) (pos : Pos) (it acc : Value) (env : Env) :
    compTurn (.ListComp elt [⟨t1, i1, f1, 0⟩, ⟨t2, i2, f2, 0⟩] scope pos) 1 it acc env = (do
      standAt i2.pos
      match ← pyNext it with
      | none => pure (.done .next)
      | some v =>
        letOwnedTupleGo t2 it v
        assign t2 env v
        let mut ok := true
        for c in f2 do
          if ok then ok ← isTrue c env (eval c env)
        if ok then
          (do let _ ← call (.builtin "list.append") [acc, ← eval elt env])
        again (.compLoop (.ListComp elt [⟨t1, i1, f1, 0⟩, ⟨t2, i2, f2, 0⟩] scope pos) 1 it acc env)) := by rfl
theorem turn20 {elt t1 i1 t2 i2 : Expr} {f1 f2 : List Expr} {scope : Scope} {it : Value} {D : Addr} {cenv : Env} {s : Shared} {Q : Fin → Shared → Prop} {E' : Value → Shared → Prop} (hs : ∀ x env, foldedSetIterable i2 env x = pure x)
    (h : turnT g A t1 (ifsT g f1 (innerT g i2 (.ListComp elt [⟨t1, i1, f1, 0⟩, ⟨t2, i2, f2, 0⟩] scope pos))) it D cenv (.compLoop (.ListComp elt [⟨t1, i1, f1, 0⟩, ⟨t2, i2, f2, 0⟩] scope pos) 0 it (.ref D) cenv) Q (notedBy g.M A cenv E') s) :
    wpAny g.M (A.under (.compLoop (.ListComp elt [⟨t1, i1, f1, 0⟩, ⟨t2, i2, f2, 0⟩] scope pos) 0 it (.ref D) cenv)) (g.M.den (.compLoop (.ListComp elt [⟨t1, i1, f1, 0⟩, ⟨t2, i2, f2, 0⟩] scope pos) 0 it (.ref D) cenv)) Q E' s := by
  show wpAny _ A ((compTurn (.ListComp elt [⟨t1, i1, f1, 0⟩, ⟨t2, i2, f2, 0⟩] scope pos) 0 it (.ref D) cenv).onRaise (fun x => do noteFrame x cenv; theTreesLotGoes x)) _ _ s
  refine wpAny_noted ?_
  rw [compTurn20]
  refine wpAny_bind (wpAny_standAt (wpAny_bind (wpAny_mono h (fun r s₁ h₁ => ?_) fun _ _ h' => h')))
  cases r with
  | none => exact wpAny_pure h₁
  | some v =>
    refine wpAny_bind (wpAny_mono h₁ (fun _ s₂ h₂ => wpAny_bind (wpAny_mono h₂ (fun _ s₃ h₃ => wpAny_bind (wpAny_mono h₃ (fun ok s₄ h₄ => ?_) fun _ _ h' => h')) fun _ _ h' => h')) fun _ _ h' => h')
    cases ok with
    | false => exact wpAny_pure h₄
    | true =>
      refine wpAny_bind (wpAny_mono h₄ (fun x s₅ h₅ => wpAny_bind (wpAny_standAt (wpAny_bind (wpAny_of_eq (hs x cenv) (wpAny_bind (wpAny_holding (wpAny_mono h₅ (fun it2 s₆ h₆ => ?_) fun _ _ h' => h'))))))) fun _ _ h' => h')
      refine wpAny_bind (wpAny_runOwn (codeAny_mono h₆ fun r s' hr => ?_))
      cases r with
      | ok f => exact wpAny_pure hr
      | error e => exact hr
theorem turn21 {elt t1 i1 t2 i2 : Expr} {f1 f2 : List Expr} {scope : Scope} {it : Value} {D : Addr} {cenv : Env} {s : Shared} {Q : Fin → Shared → Prop} {E' : Value → Shared → Prop}
    (h : turnT g A t2 (ifsT g f2 (emitT g elt)) it D cenv (.compLoop (.ListComp elt [⟨t1, i1, f1, 0⟩, ⟨t2, i2, f2, 0⟩] scope pos) 1 it (.ref D) cenv) Q (notedBy g.M A cenv E') s) :
    wpAny g.M (A.under (.compLoop (.ListComp elt [⟨t1, i1, f1, 0⟩, ⟨t2, i2, f2, 0⟩] scope pos) 1 it (.ref D) cenv)) (g.M.den (.compLoop (.ListComp elt [⟨t1, i1, f1, 0⟩, ⟨t2, i2, f2, 0⟩] scope pos) 1 it (.ref D) cenv)) Q E' s := by
  show wpAny _ A ((compTurn (.ListComp elt [⟨t1, i1, f1, 0⟩, ⟨t2, i2, f2, 0⟩] scope pos) 1 it (.ref D) cenv).onRaise (fun x => do noteFrame x cenv; theTreesLotGoes x)) _ _ s
  refine wpAny_noted ?_
  rw [compTurn21]
  refine wpAny_bind (wpAny_standAt (wpAny_bind (wpAny_mono h (fun r s₁ h₁ => ?_) fun _ _ h' => h')))
  cases r with
  | none => exact wpAny_pure h₁
  | some v =>
    refine wpAny_bind (wpAny_mono h₁ (fun _ s₂ h₂ => wpAny_bind (wpAny_mono h₂ (fun _ s₃ h₃ => wpAny_bind (wpAny_mono h₃ (fun ok s₄ h₄ => ?_) fun _ _ h' => h')) fun _ _ h' => h')) fun _ _ h' => h')
    cases ok with
    | false => exact wpAny_pure h₄
    | true => exact wpAny_bind (wpAny_bind (wpAny_mono h₄ (fun x s₅ h₅ => wpAny_bind (wpAny_mono h₅ (fun _ s₆ h₆ => wpAny_pure (wpAny_pure h₆)) fun _ _ h' => h')) fun _ _ h' => h'))
theorem start1 {elt t1 i1 t2 i2 : Expr} {f1 f2 : List Expr} {scope : Scope} {it acc : Value} {env : Env} {R : Result → Shared → Prop}
    (h0 : codeAny g.M A (.compLoop (.ListComp elt [⟨t1, i1, f1, 0⟩, ⟨t2, i2, f2, 0⟩] scope pos) 1 it acc env) R s)
    (h : wpAny g.M A (pyIter it) (fun it' s' => codeAny g.M A (.compLoop (.ListComp elt [⟨t1, i1, f1, 0⟩, ⟨t2, i2, f2, 0⟩] scope pos) 1 it' acc env) R s') (notedBy g.M A env fun x s' => R (.error x) s') s) :
    codeAny g.M A (.compStart (.ListComp elt [⟨t1, i1, f1, 0⟩, ⟨t2, i2, f2, 0⟩] scope pos) 1 it acc env) R s := by
  refine codeAny_of_tree ?_
  show wpAny _ _ ((compStart (.ListComp elt [⟨t1, i1, f1, 0⟩, ⟨t2, i2, f2, 0⟩] scope pos) 1 it acc env).onRaise (fun x => do noteFrame x env; standAt theWindowsPlace)) _ _ s
  refine wpAny_notedAt ?_
  unfold compStart
  show wpAny _ _ (ask >>= _) _ _ s
  refine wpAny_bind (wpAny_askSetting (wpAny_ite ?_))
  split
  · first
      | exact wpAny_bind (wpAny_pure (wpAny_pure (And.intro rfl h0)))
      | exact wpAny_pure (And.intro rfl h0)
  · refine wpAny_bind (wpAny_rule ?_)
    show wpAny _ _ (standAt i2.pos >>= _) _ _ s
    exact wpAny_bind (wpAny_standAt (wpAny_bind (wpAny_mono h (fun it' s' h' => wpAny_pure (And.intro rfl h')) fun _ _ x => x)))

theorem TN.inner {elt t1 i1 t2 i2 : Expr} {f1 f2 : List Expr} {scope : Scope} {ds : List PyData} {out : Nat → PyData → PyData} {tg : Expr → Prop} {ys0 : List PyData}
    (hi : ITR g n rsc i2 ρ (σ ++ [.list ys0]) ds out tg (σ ++ [.list ys0])) (ht : tg t2) (st : Nat → List Slot) (ys : Nat → List PyData) (h0 : st 0 = σ) (hy : ys 0 = ys0) (hlen : ∀ i, i ≤ ds.length → (st i).length = σ.length)
    (step : ∀ i d, ds[i]? = some d → ∃ ρ₁, AL g rsc t2 (out i d) ρ ρ₁ ∧ Sub ρ ρ₁ ∧ TN g n rsc (ifsT g f2 (emitT g elt)) ρ₁ (st i) (ys i) (st (i + 1)) (ys (i + 1))) :
    TN g n rsc (innerT g i2 (.ListComp elt [⟨t1, i1, f1, 0⟩, ⟨t2, i2, f2, 0⟩] scope pos)) ρ σ ys0 (st ds.length) (ys ds.length) := fun A cenv μ s D Q E R F M hD hQ => by
  refine hi A cenv μ s _ E R F M fun s₁ μ₁ I fp wr items St x₁ M₁ W hst hwr hfp hr => ?_
  have hfL : cenv.locals ∉ fp := fun hm => by
    obtain ⟨o, e, hk⟩ := W.kind _ _ hst _ hm
    obtain ⟨m, ⟨o', es, ep, e', hd', _⟩, _⟩ := (F.ext x₁).vars
    rw [e] at e'; cases e'
    rcases hk with ⟨vs, hd⟩ | ⟨vs, n, hd⟩ <;> (rw [hd] at hd'; cases hd')
  have loop : codeAny g.M A (.compLoop (.ListComp elt [⟨t1, i1, f1, 0⟩, ⟨t2, i2, f2, 0⟩] scope pos) 1 (.ref I) (.ref D) cenv) (fun r s' => match r with | .ok _ => Q s' | .error e => cameBackBy g.M A cenv E e s') s₁ := by
    refine comp_loop (k := σ.length) (n := n) (rsc := rsc) (hs := s.heap) (μ₀ := μ) (caps := ρ) rfl (fun s Q E' h => turn21 h) W ht R st ys hlen step M.base hwr hst (F.ext x₁) (by rw [h0, hy]; exact M₁) (x₁.get hD) x₁.toC hr hfp hfL
      fun s' μ' X' M' hD' F' hν => hQ s' μ' X' M' F'
  exact start1 loop (W.self 0 _ _ _ hst loop)
end
end Mine
end PartE1
noncomputable section PartE2
open PySem PySem.W PyProof.Rows
set_option linter.all false
set_option maxRecDepth 20000
namespace Mine
section
variable {g : G} {n : Nat} {sc rsc scope : Scope} {ρ ρ' caps : List (Str × V)} {σ σ₁ σ₂ σ₃ : List Slot} {pos apos p p2 : Pos} {v v₁ v₂ : V} {A : Around} {env : Env} {μ μ₀ μ₁ : List Addr} {s s₁ : Shared} {E : Value → Shared → Prop} {h h' : Heap}

/-- the scope of a comprehension as it runs in a frame of scope sc -/
def relab (scope sc : Scope) : Scope :=
  { scope with names := scope.names.map fun (n, k) => if (k == .free && sc.kind == .function && sc.names.lookup n == some .cell) then (n, .cell) else (n, k) }
theorem relabel_eq (F : Frm g env sc μ ρ h) : relabel scope env = relab scope sc := by
  unfold relabel relab
  simp only [Env.kindOf, F.esc]

theorem closure_fold : ∀ (names : List (Str × NameKind)) (cs : List (Str × Addr)), (∀ x ∈ names, x.2 = .free → ∃ c, env.cells.lookup x.1 = some c) →
    ∃ cl, (forIn names cs fun x (cs : List (Str × Addr)) => match x with
      | (name, kind) => if kind == .free then do let a ← cellOf env name; pure (ForInStep.yield ((name, a) :: cs)) else pure (ForInStep.yield cs)) = (pure cl : Sem (List (Str × Addr))) ∧
      (∀ x c, (x, c) ∈ cl → (x, c) ∈ cs ∨ env.cells.lookup x = some c) ∧ (∀ x, ((x, NameKind.free) ∈ names ∨ ∃ c, (x, c) ∈ cs) → ∃ c, (x, c) ∈ cl)
  | [], cs, _ => ⟨cs, rfl, fun x c hm => .inl hm, fun x hx => by rcases hx with hx | hx; cases hx; exact hx⟩
  | (n, k) :: r, cs, hf => by
    by_cases hk : k = .free
    · subst hk
      obtain ⟨c, hc⟩ := hf (n, .free) (.head _) rfl
      obtain ⟨cl, e1, e2, e3⟩ := closure_fold r ((n, c) :: cs) (fun x hx => hf x (.tail _ hx))
      refine ⟨cl, ?_, fun x c' hm => ?_, fun x hx => e3 x ?_⟩
      · rw [List.forIn_cons]
        show (if (NameKind.free == NameKind.free) = true then (do let a ← cellOf env n; pure (ForInStep.yield ((n, a) :: cs))) else pure (ForInStep.yield cs)) >>= _ = _
        rw [if_pos (by rfl), cellOf, hc]
        exact e1
      · rcases e2 x c' hm with q | q
        · rcases List.mem_cons.mp q with q | q
          · cases q; exact .inr hc
          · exact .inl q
        · exact .inr q
      · rcases hx with hx | ⟨c', hx⟩
        · rcases List.mem_cons.mp hx with q | q
          · cases q; exact .inr ⟨c, .head _⟩
          · exact .inl q
        · exact .inr ⟨c', .tail _ hx⟩
    · obtain ⟨cl, e1, e2, e3⟩ := closure_fold r cs (fun x hx => hf x (.tail _ hx))
      refine ⟨cl, ?_, e2, fun x hx => e3 x ?_⟩
      · rw [List.forIn_cons]
        show (if (k == NameKind.free) = true then (do let a ← cellOf env n; pure (ForInStep.yield ((n, a) :: cs))) else pure (ForInStep.yield cs)) >>= _ = _
        rw [if_neg (by simpa using hk)]
        exact e1
      · rcases hx with hx | hx
        · rcases List.mem_cons.mp hx with q | q
          · cases q; exact absurd rfl hk
          · exact .inl q
        · exact .inr hx
theorem mem_lookup {α : Type} {x : Str} {c : α} : ∀ {l : List (Str × α)}, (x, c) ∈ l → ∃ c', l.lookup x = some c'
  | (y, d) :: l, hm => by
    rw [List.lookup_cons]
    cases hxy : x == y with
    | true => exact ⟨d, rfl⟩
    | false =>
      rcases List.mem_cons.mp hm with e | q
      · cases e; simp at hxy
      · exact mem_lookup q
theorem closure_ok (hf : ∀ x ∈ scope.names, x.2 = .free → ∃ c, env.cells.lookup x.1 = some c) :
    ∃ cl, closureFor scope env = pure cl ∧ (∀ x c, cl.lookup x = some c → env.cells.lookup x = some c) ∧ (∀ x, (x, NameKind.free) ∈ scope.names → ∃ c, cl.lookup x = some c) := by
  obtain ⟨cl, e1, e2, e3⟩ := closure_fold (env := env) scope.names [] hf
  refine ⟨cl, ?_, fun x c e => ?_, fun x hx => ?_⟩
  · show (forIn scope.names [] _ >>= fun cs => pure cs) = _
    exact (congrArg (· >>= fun cs => pure cs) e1)
  · rcases e2 x c (lookup_mem e) with q | q
    · cases q
    · exact q
  · obtain ⟨c, hc⟩ := e3 x (.inl hx)
    exact mem_lookup hc

/-- what may be said of a comprehension's scope without running it -/
structure Scoped (sc scope : Scope) (ρ caps : List (Str × V)) : Prop where
  kind : scope.kind = .function
  nocell : ∀ y ∈ scope.names, y.2 ≠ .cell
  names : ∀ y ∈ scope.names, y.2 = .local → scope.names.lookup y.1 = some .local
  free : ∀ y ∈ scope.names, y.2 = .free → sc.names.lookup y.1 = some .cell
  caps : ∀ q ∈ caps, ρ.lookup q.1 = some q.2 ∧ (q.1, NameKind.free) ∈ scope.names ∧ ((relab scope sc).names.lookup q.1 = some .cell ∨ (relab scope sc).names.lookup q.1 = some .free)

theorem comp_core {elt target iter : Expr} {ifs : List Expr} {rest : List Comprehension} {use : Option (Value → Sem Unit)} {ds : List PyData} {out : Nat → PyData → PyData} {tg : Expr → Prop} {tail : Tail} {Q : Value → Shared → Prop}
    (S : Scoped sc scope ρ caps) (hi : ITR g n sc iter ρ σ ds out tg σ₁) (ht : tg target)
    (st : Nat → List Slot) (ys : Nat → List PyData) (h0 : st 0 = σ₁) (hy : ys 0 = []) (hlen : ∀ i, i ≤ ds.length → (st i).length = σ₁.length) (hc : Closed σ₁ → Closed (st ds.length))
    (hturn : ∀ (it : Value) (D : Addr) (cenv : Env) s Q (E' : Value → Shared → Prop), turnT g A target tail it D cenv (.compLoop (.ListComp elt (⟨target, iter, ifs, 0⟩ :: rest) scope pos) 0 it (.ref D) cenv) Q (notedBy g.M A cenv E') s →
      wpAny g.M (A.under (.compLoop (.ListComp elt (⟨target, iter, ifs, 0⟩ :: rest) scope pos) 0 it (.ref D) cenv)) (g.M.den (.compLoop (.ListComp elt (⟨target, iter, ifs, 0⟩ :: rest) scope pos) 0 it (.ref D) cenv)) Q E' s)
    (step : ∀ i d, ds[i]? = some d → ∃ ρ₁, AL g (relab scope sc) target (out i d) caps ρ₁ ∧ Sub caps ρ₁ ∧ TN g n (relab scope sc) tail ρ₁ (st i) (ys i) (st (i + 1)) (ys (i + 1)))
    (hs : ∀ x env, foldedSetIterable iter env x = pure x)
    (R : Room n A) (F : Frm g env sc μ ρ s.heap) (M : Mem g μ σ s)
    (fin : ∀ s' μ' D C, Ext μ s.heap μ' s'.heap → Mem g μ' (st ds.length) s' → Rd μ' s'.heap (.list (ys ds.length)) (.ref D) → (∃ m, s'.heap.Ns C m) → s.heap.get? C = none → C ∉ μ' → compPost g.M A E use Q (.ref D) C (.ok .next) s') :
    wpAny g.M A (comprehension (.ListComp elt (⟨target, iter, ifs, 0⟩ :: rest) scope pos) scope env p (newList []) false (eval iter env) use) Q E s := by
  obtain ⟨cl, hclos, hcl1, hcl2⟩ := closure_ok (scope := scope) (env := env) fun x hx hk => F.has x.1 (by rw [Env.kindOf, F.esc]; exact S.free x hx hk)
  refine wpAny_comprehension_free (use := use) rfl (fun x => hs x env) hclos S.kind S.names (hi A env μ s _ E R F M fun s₁ μ₁ I fp wr items St x₁ M₁ W hst hwr hfp hr => ?_)
  have hsl : SlotAt g (μ₁ ++ [s₁.heap.objs.size]) (s₁.heap.push { cls := .type "list", data := .seq ([] : List Value).toArray }) s₁.heap.objs.size (.list []) :=
    ⟨#[], 0, IsL.new _ _, Nat.zero_le _, rds_nil.mpr rfl⟩
  obtain ⟨M₂, x₂⟩ := M₁.slot hsl
  refine wpAny_newList ?_ (Nat.zero_le _)
  refine wpAny_newFunctionEnv S.nocell (fun x hx => by cases hx) (fun h₃ hns hsb => ?_) S.kind
  have hk3 : ∀ a o, (s₁.heap.push { cls := .type "list", data := .seq ([] : List Value).toArray }).get? a = some o → h₃.get? a = some o := fun a o e =>
    hsb.extBut a o (Nat.ne_of_lt (Heap.lt_size e)) (Heap.get?_push_of_some _ e)
  generalize hH : s₁.heap.push { cls := .type "list", data := .seq ([] : List Value).toArray } = H at *
  have M₃ := M₂.grow (k := s₁.toks) hk3
  have x₃ : Ext (μ₁ ++ [s₁.heap.objs.size]) H (μ₁ ++ [s₁.heap.objs.size]) h₃ := Ext.of_keep hk3
  have hCn : H.get? H.objs.size = none := size_none
  have X : Ext μ s.heap (μ₁ ++ [s₁.heap.objs.size]) h₃ := x₁.trans (x₂.trans x₃)
  have hCs : s.heap.get? H.objs.size = none := fresh_back (x₁.trans x₂) M₂ hCn
  have hDC : s₁.heap.objs.size ≠ H.objs.size := by rw [← hH, Heap.size_push]; exact Nat.ne_of_lt (Nat.lt_succ_self _)
  have F₃ := (((F.ext x₁).ext x₂).ext x₃)
  have FC : Frm g (compEnvC scope cl H.objs.size env) (relab scope sc) (μ₁ ++ [s₁.heap.objs.size]) caps h₃ := by
    refine ⟨relabel_eq F, S.kind, F.gl, F.bl, M₂.lo_of hCn, M₂.fresh, fun y c e => ?_, fun y z c e1 e2 => F.cinj y z c (hcl1 y c e1) (hcl1 z c e2), fun y e => ?_, _, hns, fun y u e => ?_⟩
    · obtain ⟨n1, n2, n3, ov, hcell⟩ := F₃.cells y c (hcl1 y c e)
      refine ⟨n1, fun q => ?_, n3, ov, hcell⟩
      obtain ⟨_, _, _, ov', o', ho', _⟩ := F.cells y c (hcl1 y c e)
      have q' : c = H.objs.size := q
      rw [q', hCs] at ho'; cases ho'
    · rw [Env.kindOf] at e
      have e' : (relab scope sc).names.lookup y = some .cell := by rw [← relabel_eq F]; exact e
      have hm : (y, NameKind.cell) ∈ (relab scope sc).names := lookup_mem e'
      simp only [relab, List.mem_map] at hm
      obtain ⟨⟨n', k'⟩, hm', he'⟩ := hm
      by_cases hcond : (k' == .free && sc.kind == .function && sc.names.lookup n' == some .cell) = true
      · rw [if_pos hcond] at he'
        cases he'
        simp only [Bool.and_eq_true, beq_iff_eq] at hcond
        obtain ⟨c, hcc⟩ := hcl2 _ (by rw [← hcond.1.1]; exact hm')
        exact ⟨c, hcc⟩
      · rw [if_neg hcond] at he'
        cases he'
        exact absurd rfl (S.nocell _ hm')
    · obtain ⟨h1, h2, h3⟩ := S.caps (y, u) (lookup_mem e)
      obtain ⟨c, hcc⟩ := hcl2 y h2
      obtain ⟨m, hm, hv⟩ := F₃.vars
      obtain ⟨w, hw, hb⟩ := hv y u h1
      refine ⟨w, hw, .inr ⟨?_, c, hcc, ?_⟩⟩
      · rw [Env.kindOf]; show (relabel scope env).names.lookup y = _ ∨ (relabel scope env).names.lookup y = _; rw [relabel_eq F]; exact h3
      · rcases hb with ⟨b1, _⟩ | ⟨_, c', b2, b3⟩
        · rw [Env.kindOf, F.esc, S.free (y, .free) h2 rfl] at b1; cases b1
        · have := hcl1 y c hcc; rw [b2] at this; cases this; exact b3
  have hfL : H.objs.size ∉ fp := fun hm => by
    obtain ⟨o, e, _⟩ := W.kind _ _ hst _ hm
    have := x₂.keep _ o (hfp _ hm) e
    rw [hCn] at this; cases this
  have hst₃ : St 0 h₃ := W.frame _ _ _ hst fun b hb o e => hk3 b o (x₂.keep b o (hfp b hb) e)
  have hfp₃ : ∀ b ∈ fp, b ∉ μ₁ ++ [s₁.heap.objs.size] := fun b hb => by
    obtain ⟨o, e, _⟩ := W.kind _ _ hst b hb
    exact x₂.notin (hfp b hb) e
  have hlm : μ₁.length = σ₁.length := M₁.len
  have loop : ∀ s₄ : Shared, s₄ = { s₁ with heap := h₃, toks := s₁.toks + ([] : List (Str × Value)).length } →
      codeAny g.M A (.compLoop (.ListComp elt (⟨target, iter, ifs, 0⟩ :: rest) scope pos) 0 (.ref I) (.ref s₁.heap.objs.size) (compEnvC scope cl H.objs.size env))
        (compPost g.M A E use Q (.ref s₁.heap.objs.size) H.objs.size) s₄ := by
    rintro s₄ rfl
    refine comp_loop (k := σ₁.length) (n := n) (hs := s.heap) (μ₀ := μ) (caps := caps) rfl (hturn (.ref I) _ _) W ht R st ys hlen step M.base hwr hst₃ FC (by rw [h0, hy]; exact M₃.toks) (by rw [← hlm]; simp) X.toC ((hr.ext x₂).ext x₃) hfp₃ hfL
      fun s' μ' X' M' hD' F' hν => ?_
    obtain ⟨ν, hν⟩ := hν
    have hl' : (st ds.length).length = σ₁.length := hlen _ (Nat.le_refl _)
    have htk : μ'.take (st ds.length).length = μ₁ := by
      rw [hl', hν, ← hlm, List.append_assoc, List.take_left]
    have Mc := M'.cut (hc M₁.closed)
    rw [htk] at Mc
    have hrd := (Fz.list (k := (st ds.length).length) (τ := [.list (ys ds.length)]) (j := 0) (xs := ys ds.length) rfl).vr M' (w := .ref s₁.heap.objs.size) ⟨_, rfl, by rw [Nat.add_zero, hl']; exact hD'⟩
    rw [htk] at hrd
    obtain ⟨m', hm', _⟩ := F'.vars
    refine fin s' μ₁ _ _ ⟨x₁.pre, fun a o hn e => X'.keep a o hn (fun q => by have q' : a = H.objs.size := q; rw [q', hCs] at e; cases e) e⟩ Mc hrd ⟨m', hm'⟩ hCs (fun hm => F'.nL ?_)
    rw [hν]; exact List.mem_append_left _ (List.mem_append_left _ hm)
  exact codeAny_compStart_list (loop _ rfl) (W.self 0 _ _ _ hst₃ (loop _ rfl))

/-- a comprehension as a value -/
theorem EV.comp {elt target iter : Expr} {ifs : List Expr} {rest : List Comprehension} {ds : List PyData} {out : Nat → PyData → PyData} {tg : Expr → Prop} {tail : Tail}
    (S : Scoped sc scope ρ caps) (hi : ITR g n sc iter ρ σ ds out tg σ₁) (ht : tg target)
    (st : Nat → List Slot) (ys : Nat → List PyData) (h0 : st 0 = σ₁) (hy : ys 0 = []) (hlen : ∀ i, i ≤ ds.length → (st i).length = σ₁.length) (hc : Closed σ₁ → Closed (st ds.length))
    (hturn : ∀ (A : Around) (it : Value) (D : Addr) (cenv : Env) s Q (E' : Value → Shared → Prop), turnT g A target tail it D cenv (.compLoop (.ListComp elt (⟨target, iter, ifs, 0⟩ :: rest) scope pos) 0 it (.ref D) cenv) Q (notedBy g.M A cenv E') s →
      wpAny g.M (A.under (.compLoop (.ListComp elt (⟨target, iter, ifs, 0⟩ :: rest) scope pos) 0 it (.ref D) cenv)) (g.M.den (.compLoop (.ListComp elt (⟨target, iter, ifs, 0⟩ :: rest) scope pos) 0 it (.ref D) cenv)) Q E' s)
    (step : ∀ i d, ds[i]? = some d → ∃ ρ₁, AL g (relab scope sc) target (out i d) caps ρ₁ ∧ Sub caps ρ₁ ∧ TN g n (relab scope sc) tail ρ₁ (st i) (ys i) (st (i + 1)) (ys (i + 1)))
    (hs : ∀ x env, foldedSetIterable iter env x = pure x := by intro _ _; rfl) :
    EV g n sc (.ListComp elt (⟨target, iter, ifs, 0⟩ :: rest) scope pos) ρ σ (.dat (.list (ys ds.length))) (st ds.length) := fun A env μ s Q E R F M hQ => by
  rw [eval_ListComp]
  refine comp_core (use := Option.none) S hi ht st ys h0 hy hlen hc (hturn A) step hs R F M fun s' μ' D C X' M' hrd hC hCs hCm => ?_
  obtain ⟨m, hm⟩ := hC
  refine ⟨m, hm, fun h'' hs'' => ?_⟩
  have L : Liv μ' s'.heap μ' h'' := Liv.sameBut hs'' (ns_noseq hm)
  exact hQ _ _ μ' ⟨X'.pre, fun a o hn e => (hs''.2 a (fun q => by rw [q, hCs] at e; cases e)).trans (X'.keep a o hn e)⟩ (M'.sameBut (k := s'.toks) hs'' (ns_noseq hm) hCm (none_of_keep (fun o e => M.base _ o e) hCs)) (vr_dat.mpr (hrd.lives L.toLives))
end
end Mine
end PartE2
noncomputable section PartE3
open PySem PySem.W PyProof.Rows
set_option linter.all false
set_option maxRecDepth 20000
namespace Mine
section
variable {g : G} {n : Nat} {sc rsc scope : Scope} {ρ ρ' caps : List (Str × V)} {σ σ₁ σ₂ σ₃ : List Slot} {pos apos p p2 : Pos} {v v₁ v₂ : V} {A : Around} {env : Env} {μ μ₀ μ₁ : List Addr} {s s₁ : Shared} {E : Value → Shared → Prop} {h h' : Heap}

theorem swaps_true {elt : Expr} {gens : List Comprehension} {y : Str} {py : Pos} {line : Nat} (F : Frm g env sc μ ρ h) (hy : sc.names.lookup y = some .local) (hline : (py.line == pos.line) = true)
    (hno : (scope.names.any fun (n, k) => n == y && (k == .local || k == .cell)) = false) :
    swapsWith (.ListComp elt gens scope pos) (some (.Name y py)) line env = pure true := by
  show (pure (env.blockKind == .function && env.kindOf y == some .local && py.line == pos.line && !(scope.names.any fun (n, k) => n == y && (k == .local || k == .cell))) : Sem Bool) = _
  have h1 : env.blockKind = .function := by
    have : env.scope.kind = .function := by rw [F.esc]; exact F.kind
    simp [Env.blockKind, this, ScopeKind.isAnnotationScope]
  have h2 : env.kindOf y = some .local := by rw [Env.kindOf, F.esc]; exact hy
  rw [h1, h2, hline, hno]; rfl

/-- a comprehension that goes to a name of the same line -/
theorem ES.assign_comp {elt target iter : Expr} {ifs : List Expr} {rest : List Comprehension} {ds : List PyData} {out : Nat → PyData → PyData} {tg : Expr → Prop} {tail : Tail} {y : Str} {py spos : Pos}
    (hy : sc.names.lookup y = some .local) (hline : (py.line == pos.line) = true) (hno : (scope.names.any fun (n, k) => n == y && (k == .local || k == .cell)) = false)
    (S : Scoped sc scope ρ caps) (hi : ITR g n sc iter ρ σ ds out tg σ₁) (ht : tg target)
    (st : Nat → List Slot) (ys : Nat → List PyData) (h0 : st 0 = σ₁) (hy0 : ys 0 = []) (hlen : ∀ i, i ≤ ds.length → (st i).length = σ₁.length) (hc : Closed σ₁ → Closed (st ds.length))
    (hturn : ∀ (A : Around) (it : Value) (D : Addr) (cenv : Env) s Q (E' : Value → Shared → Prop), turnT g A target tail it D cenv (.compLoop (.ListComp elt (⟨target, iter, ifs, 0⟩ :: rest) scope pos) 0 it (.ref D) cenv) Q (notedBy g.M A cenv E') s →
      wpAny g.M (A.under (.compLoop (.ListComp elt (⟨target, iter, ifs, 0⟩ :: rest) scope pos) 0 it (.ref D) cenv)) (g.M.den (.compLoop (.ListComp elt (⟨target, iter, ifs, 0⟩ :: rest) scope pos) 0 it (.ref D) cenv)) Q E' s)
    (step : ∀ i d, ds[i]? = some d → ∃ ρ₁, AL g (relab scope sc) target (out i d) caps ρ₁ ∧ Sub caps ρ₁ ∧ TN g n (relab scope sc) tail ρ₁ (st i) (ys i) (st (i + 1)) (ys (i + 1)))
    (hs : ∀ x env, foldedSetIterable iter env x = pure x := by intro _ _; rfl) :
    ES g n sc (.Assign [.Name y py] (.ListComp elt (⟨target, iter, ifs, 0⟩ :: rest) scope pos) spos) ρ σ (.next ((y, .dat (.list (ys ds.length))) :: ρ) (st ds.length)) := fun A env μ s Q E R F M hQ => by
  show wpAny g.M A (exec (.Assign [.Name y py] (.ListComp elt (⟨target, iter, ifs, 0⟩ :: rest) scope pos) spos) env) Q E s
  rw [exec_Assign_Name_used _ _ _ _ (swaps_true F hy hline hno)]
  refine wpAny_bind (wpAny_standAt (wpAny_bind ?_))
  show wpAny _ A (do let _ ← comprehension (.ListComp elt (⟨target, iter, ifs, 0⟩ :: rest) scope pos) scope env _ (newList []) false (eval iter env) (some (PySem.assign (.Name y py) env))) _ _ s
  refine wpAny_bind (wpAny_mono (comp_core (Q := fun _ s' => Q .next s') (use := some (PySem.assign (.Name y py) env)) S hi ht st ys h0 hy0 hlen hc (hturn A) step hs R F M fun s' μ' D C X' M' hrd hC hCs hCm => ?_)
    (fun _ s' hq => wpAny_pure (wpAny_pure hq)) fun _ _ e => e)
  have F' := F.ext X'
  refine wpAny_assign_Name (storeL hy F' M' (v := .dat (.list (ys ds.length))) (vr_dat.mpr hrd) fun s₂ X₂ M₂ F₂ => ?_)
  obtain ⟨m, hm⟩ := hC
  have hCL : C ≠ env.locals := fun q => by
    obtain ⟨m', ⟨o, _, _, ho, _⟩, _⟩ := F.vars
    rw [← q, hCs] at ho; cases ho
  have hm₂ : s₂.heap.Ns C m := hm.at' fun o e => X₂.keep _ o hCL e
  refine ⟨m, hm₂, fun h'' hs'' => ?_⟩
  have L : Liv μ' s₂.heap μ' h'' := Liv.sameBut hs'' (ns_noseq hm₂)
  have M₃ := M₂.sameBut (k := s₂.toks) hs'' (ns_noseq hm₂) hCm (none_of_keep (fun o e => M.base _ o e) hCs)
  have cellk : ∀ x c, env.cells.lookup x = some c → c ≠ C := fun x c e q => by
    obtain ⟨_, _, _, ov, o, ho, _⟩ := F.cells x c e
    rw [q, hCs] at ho; cases ho
  have F₃ : Frm g env sc μ' ((y, .dat (.list (ys ds.length))) :: ρ) h'' := by
    obtain ⟨m', hm', hv⟩ := F₂.vars
    refine ⟨F₂.esc, F₂.kind, F₂.gl, F₂.bl, F₂.lo, F₂.nL, fun x c e => ?_, F₂.cinj, F₂.has, m', hm'.sameBut hs'' (Ne.symm hCL), fun x u e => ?_⟩
    · obtain ⟨n1, n2, n3, ov, o, ho, hd⟩ := F₂.cells x c e
      exact ⟨n1, n2, n3, ov, o, (hs''.2 c (cellk x c e)).trans ho, hd⟩
    · obtain ⟨w, hw, hb⟩ := hv x u e
      refine ⟨w, hw.liv L, ?_⟩
      rcases hb with q | ⟨b1, c, b2, o, ho, hd⟩
      · exact .inl q
      · exact .inr ⟨b1, c, b2, o, (hs''.2 c (cellk x c b2)).trans ho, hd⟩
  refine hQ _ _ μ' ⟨X'.pre, fun a o hn hL _ e => ?_, fun a o hn e => ?_⟩ ⟨rfl, M₃, F₃⟩
  · exact (hs''.2 a (fun q => by rw [q, hCs] at e; cases e)).trans (X₂.keep a o hL (X'.keep a o hn e))
  · have e1 := X'.keep a o hn e
    obtain ⟨o2, e2⟩ : ∃ o2, s₂.heap.get? a = some o2 := by
      by_cases ha : a = env.locals
      · subst ha; exact X₂.live o e1
      · exact ⟨o, X₂.keep a o ha e1⟩
    exact ⟨o2, (hs''.2 a (fun q => by rw [q, hCs] at e; cases e)).trans e2⟩
end
end Mine
end PartE3
noncomputable section PartE4
open PySem PySem.W PyProof.Rows
set_option linter.all false
set_option maxRecDepth 20000
namespace Mine
section
variable {g : G} {n : Nat} {sc rsc scope : Scope} {ρ ρ' caps : List (Str × V)} {σ σ₁ σ₂ σ₃ : List Slot} {pos apos p p2 tpos : Pos} {v v₁ v₂ v₃ : V} {A : Around} {env : Env} {μ μ₀ μ₁ : List Addr} {s s₁ : Shared} {E : Value → Shared → Prop} {h h' : Heap}

theorem not_interactive (F : Frm g env sc μ ρ h) : interactive env = false := by
  have hk : env.scope.kind = .function := by rw [F.esc]; exact F.kind
  unfold interactive; rw [hk]; rfl

/-- an expression alone -/
theorem ES.expr {e : Expr} (h : EV g n sc e ρ σ v σ₁) (hs : ∀ line env, swapsWith e Option.none line env = pure false := by intro _ _; rfl) : ES g n sc (.Expr e pos) ρ σ (.next ρ σ₁) := fun A env μ s Q E R F M hQ => by
  show wpAny g.M A (exec (.Expr e pos) env) Q E s
  rw [exec_Expr env e pos (not_interactive F) (hs _ _)]
  refine wpAny_bind (wpAny_standAt (wpAny_bind (h A env μ s _ E R F M fun w s' μ' x M' V' => ?_)))
  have fin := hQ .next s' μ' x.toS ⟨rfl, M', F.ext x⟩
  unfold dropValue
  split
  · exact wpAny_pure fin
  · exact wpAny_bind (wpAny_standAt (wpAny_bind (wpAny_runValue (codeAny_builtin entry_let_go (show wpAny _ _ (ret .none) _ _ s' from wpAny_pure (wpAny_pure fin))))))
  · exact wpAny_pure fin

/-- a try whose body does not raise -/
theorem ES.try_ret {body orelse : List Stmt} {h₀ : ExceptHandler} {hs : List ExceptHandler} (h : EL g n sc body ρ σ (.ret v σ₁)) : ES g n sc (.Try body (h₀ :: hs) orelse [] pos) ρ σ (.ret v σ₁) := fun A env μ s Q E R F M hQ =>
  wpAny_Try_except (h A env μ s _ _ R F M fun f s' μ' x ho => by
    obtain ⟨w, rfl, M', V'⟩ := ho
    exact hQ _ s' μ' x ⟨w, rfl, M', V'⟩)

/-- two names at once, from a tuple that is there -/
theorem ES.unpack {elts : List Expr} {k : Nat} {e : Expr} {d : PyData} (he : EV g n sc e ρ σ (.dat d) σ₁) (ha : AS g sc (.Tuple elts k tpos) d ρ ρ')
    (hs : ∀ env, swapsWithSole [.Tuple elts k tpos] e pos.line env = pure false := by intro _; rfl)
    (hw : ∀ env, swappedStores [.Tuple elts k tpos] e env = pure Option.none := by intro _; rfl) : ES g n sc (.Assign [.Tuple elts k tpos] e pos) ρ σ (.next ρ' σ₁) := fun A env μ s Q E R F M hQ =>
  Assign_Tuple (he A env μ s _ E R F M fun w s₁ μ₁ x M₁ V₁ => ha A env μ₁ σ₁ s₁ w _ E R.hnd (F.ext x) M₁ (vr_dat.mp V₁) fun s' X M' F' => hQ .next s' μ₁ (x.toS.trans X) ⟨rfl, M', F'⟩) (hs env) (hw env)
theorem AS.lst3 {x y z : Str} {px py pz : Pos} {k : Nat} {a b c : PyData} (hx : sc.names.lookup x = some .local ∨ sc.names.lookup x = some .cell) (hy : sc.names.lookup y = some .local ∨ sc.names.lookup y = some .cell)
    (hz' : sc.names.lookup z = some .local ∨ sc.names.lookup z = some .cell) :
    AS g sc (.Tuple [.Name x px, .Name y py, .Name z pz] k p) (.list [a, b, c]) ρ ((z, .dat c) :: (y, .dat b) :: (x, .dat a) :: ρ) := fun A env μ σ s w Q E hh F M hr hQ => by
  obtain ⟨t, vs, m, rfl, hn, ht, hz, hrs⟩ := rd_list.mp hr
  obtain ⟨w1, r1, e1, ha, hrs⟩ := rds_cons.mp hrs
  obtain ⟨w2, r2, rfl, hb, hrs⟩ := rds_cons.mp hrs
  obtain ⟨w3, r3, rfl, hc, hrs⟩ := rds_cons.mp hrs
  rw [rds_nil] at hrs; subst hrs
  have hvs : vs = #[w1, w2, w3] := by apply Array.ext'; simpa using e1
  subst hvs
  rw [arm_assign_Tuple]
  refine wpAny_bind (wpAny_standAt ?_)
  unfold PySem.unpack
  refine wpAny_bind (wpAny_holding ?_)
  refine kun_itemsOf (items := #[w1, w2, w3]) hh (IsL.isList ht) fun h₁ hx₁ => ?_
  have kp : ∀ a o, s.heap.get? a = some o → h₁.get? a = some o := fun a o e => hx₁ a o (Nat.ne_of_lt (Heap.lt_size e)) e
  have X1 : Ext μ s.heap μ h₁ := Ext.of_keep kp
  have M1 : Mem g μ σ { s with heap := h₁ } := M.grow (k := s.toks) kp
  show wpAny g.M A (assignInOrder [PySem.assign (.Name x px) env, PySem.assign (.Name y py) env, PySem.assign (.Name z pz) env] [w1, w2, w3]) Q E _
  rw [assignInOrder_cons]
  refine wpAny_bind (wpAny_holding (wpAny_assign_Name (store hx (F.ext X1) M1 (v := .dat a) (vr_dat.mpr (ha.lives X1.lives)) fun s₂ X2 M2 F2 => ?_)))
  rw [assignInOrder_cons]
  have hb2 : Rd μ s₂.heap b w2 := (hb.lives X1.lives).lives (X2.liv (F.ext X1)).toLives
  have hc2 : Rd μ s₂.heap c w3 := (hc.lives X1.lives).lives (X2.liv (F.ext X1)).toLives
  refine wpAny_bind (wpAny_holding (wpAny_assign_Name (store hy F2 M2 (v := .dat b) hb2 fun s₃ X3 M3 F3 => ?_)))
  rw [assignInOrder_cons]
  have hc3 : Rd μ s₃.heap c w3 := hc2.lives (X3.liv F2).toLives
  refine wpAny_bind (wpAny_holding (wpAny_assign_Name (store hz' F3 M3 (v := .dat c) hc3 fun s₄ X4 M4 F4 => ?_)))
  exact wpAny_pure (hQ s₄ (X1.toS.trans (X2.trans (X3.trans X4))) M4 F4)

/-- two names at once, from a display: the stores go the other way round -/
theorem ES.swap2 {x y : Str} {px py : Pos} {k k' : Nat} {es : List Expr} {vpos : Pos} (hx : sc.names.lookup x = some .local) (hy : sc.names.lookup y = some .local) (he : EVs g n sc es ρ σ [v₁, v₂] σ₁)
    (hw : ∀ env : Env, env.scope = sc → swappedStores [.Tuple [.Name x px, .Name y py] k tpos] (.Tuple es k' vpos) env = pure (some [x, y]))
    (hs : ∀ env, swapsWithSole [.Tuple [.Name x px, .Name y py] k tpos] (.Tuple es k' vpos) pos.line env = pure false := by intro _; rfl) :
    ES g n sc (.Assign [.Tuple [.Name x px, .Name y py] k tpos] (.Tuple es k' vpos) pos) ρ σ (.next ((x, v₁) :: (y, v₂) :: ρ) σ₁) := fun A env μ s Q E R F M hQ =>
  Assign_Tuple_swapped (names := [x, y]) (Tuple_ (he A env μ s vpos _ E R F M fun ws s₁ μ₁ x₁ M₁ V₁ => by
    obtain ⟨w1, w2, rfl, h1, h2⟩ := V₁.two
    refine wpAny_newTuple ?_ (by exact Nat.le_of_ble_eq_true rfl)
    have X1 : Ext μ₁ s₁.heap μ₁ (s₁.heap.push { cls := .type "tuple", data := .seq [w1, w2].toArray }) := .push _
    have M2 := M₁.push { cls := .type "tuple", data := .seq [w1, w2].toArray }
    refine wpAny_unpackItems_tuple (items := #[w1, w2]) R.hnd ⟨_, Heap.get?_push_size _ rfl, rfl, _, rfl⟩ fun h₃ hx₃ => ?_
    have kp : ∀ a o, (s₁.heap.push { cls := .type "tuple", data := .seq [w1, w2].toArray }).get? a = some o → h₃.get? a = some o := fun a o e => hx₃ a o (Nat.ne_of_lt (Heap.lt_size e)) e
    have X2 : Ext μ₁ (s₁.heap.push { cls := .type "tuple", data := .seq [w1, w2].toArray }) μ₁ h₃ := Ext.of_keep kp
    have M3 : Mem g μ₁ σ₁ { s₁ with heap := h₃ } := M2.grow (k := s₁.toks) kp
    have X3 := X1.trans X2
    have F3 := (F.ext x₁).ext X3
    show wpAny g.M A (assignInOrder [bindName env y, bindName env x] [w2, w1]) _ E _
    rw [assignInOrder_cons]
    refine wpAny_bind (wpAny_holding (wpAny_bindName (store (.inl hy) F3 M3 (h2.ext X3) fun s₄ X4 M4 F4 => ?_)))
    rw [assignInOrder_cons]
    refine wpAny_bind (wpAny_holding (wpAny_bindName (store (.inl hx) F4 M4 ((h1.ext X3).liv (X4.liv F3)) fun s₅ X5 M5 F5 => ?_)))
    exact wpAny_pure (hQ .next s₅ μ₁ ((x₁.trans X3).toS.trans (X4.trans X5)) ⟨rfl, M5, F5⟩))) (hs env) (hw env F.esc)

/-- while -/
theorem ES.while {test : Expr} {body : List Stmt} (st : Nat → List (Str × V) × List Slot) (N : Nat) (h0 : Sub (st 0).1 ρ) (h1 : (st 0).2 = σ)
    (go : ∀ i, i < N → TV g n sc test (st i).1 (st i).2 true (st i).2 ∧ ∃ ρ₂, EL g n sc body (st i).1 (st i).2 (.next ρ₂ (st (i + 1)).2) ∧ Sub (st (i + 1)).1 ρ₂)
    (stop : TV g n sc test (st N).1 (st N).2 false (st N).2) : ES g n sc (.While test body [] pos) ρ σ (.next (st N).1 (st N).2) := fun A env μ₀ s Q E R F M hQ => by
  refine wpAny_While (codeAny_whileLoop (fun k s' => ∃ i μ, k + i = N ∧ i ≤ N ∧ Mem g μ (st i).2 s' ∧ Frm g env sc μ (st i).1 s'.heap ∧ ExtS env μ₀ s.heap μ s'.heap) ?_ N ⟨0, μ₀, rfl, Nat.zero_le _, by rw [h1]; exact M, F.sub h0, Ext.refl.toS⟩)
  rintro k s' ⟨i, μ, hk, hle, M', F', X'⟩
  by_cases hlt : i < N
  · obtain ⟨hT, ρ₂, hB, hS⟩ := go i hlt
    refine hT A env μ s' _ _ R F' M' fun s₂ μ₂ x₂ M₂ => ?_
    simp only [if_true]
    refine hB A env μ₂ s₂ _ _ R (F'.ext x₂) M₂ fun f s₃ μ₃ X₃ ho => ?_
    obtain ⟨rfl, M₃, F₃⟩ := ho
    exact ⟨k - 1, by omega, i + 1, μ₃, by omega, hlt, M₃, F₃.sub hS, X'.trans (x₂.toS.trans X₃)⟩
  · obtain rfl : i = N := Nat.le_antisymm hle (Nat.not_lt.mp hlt)
    refine stop A env μ s' _ _ R F' M' fun s₂ μ₂ x₂ M₂ => ?_
    simp only [Bool.false_eq_true, if_false]
    exact wpAny_execs_nil (hQ _ s₂ μ₂ (X'.trans x₂.toS) ⟨rfl, M₂, F'.ext x₂⟩)
end
end Mine
end PartE4
noncomputable section PartF1
open PySem PySem.W PyProof.Rows
set_option linter.all false
set_option maxRecDepth 20000
namespace Mine
section
variable {g : G} {n : Nat} {sc : Scope} {ρ ρ' : List (Str × V)} {σ σ₁ σ₂ σ₃ : List Slot} {pos apos p p2 : Pos} {v v₁ v₂ v₃ : V} {A : Around} {env : Env} {μ μ₀ μ₁ : List Addr} {s s₁ : Shared} {E : Value → Shared → Prop} {h h' : Heap}

/-- a store into a table -/
def sput {K : Type} [DecidableEq K] (kvs : List (K × V)) (k : K) (v : V) : List (K × V) :=
  if kvs.any (fun kv => kv.1 = k) then kvs.map (fun kv => if kv.1 = k then (kv.1, v) else kv) else kvs ++ [(k, v)]
theorem SPairs.at_ {kvs : List (Str × V)} {ks : List (Str × Value)} {k : Str} (e : SPairs μ h kvs ks) : (∀ v, kvs.lookup k = some v → ∃ w, valueAt ks k = some w ∧ VR μ h v w) ∧ (kvs.lookup k = none → valueAt ks k = none) := by
  induction e with
  | nil => exact ⟨fun v e => by simp at e, fun _ => rfl⟩
  | @cons k' v' w' kvs ks hv _ ih =>
    rw [lookup_cons']
    unfold valueAt
    rw [List.find?_cons]
    by_cases hk : k = k'
    · subst hk
      rw [if_pos rfl]
      refine ⟨fun v e => ?_, fun e => nomatch e⟩
      cases e
      exact ⟨w', by simp, hv⟩
    · have hk' : ¬ k' = k := fun e => hk e.symm
      rw [if_neg hk]
      simp only [hk', decide_false]
      exact ih
theorem SPairs.any {kvs : List (Str × V)} {ks : List (Str × Value)} {k : Str} (e : SPairs μ h kvs ks) : (ks.any fun kv => decide (kv.1 = k)) = (kvs.any fun kv => decide (kv.1 = k)) := by
  induction e with
  | nil => rfl
  | cons hv _ ih => simp only [List.any_cons, ih]
theorem SPairs.append {kvs kvs' : List (Str × V)} {ks ks' : List (Str × Value)} (e : SPairs μ h kvs ks) (e' : SPairs μ h kvs' ks') : SPairs μ h (kvs ++ kvs') (ks ++ ks') := by
  induction e with
  | nil => exact e'
  | cons hv _ ih => exact .cons hv ih
theorem SPairs.mapput {kvs : List (Str × V)} {ks : List (Str × Value)} {k : Str} {v : V} {w : Value} (e : SPairs μ h kvs ks) (hv : VR μ h v w) :
    SPairs μ h (kvs.map (fun kv => if kv.1 = k then (kv.1, v) else kv)) (ks.map (fun kv => if kv.1 = k then (kv.1, w) else kv)) := by
  induction e with
  | nil => exact .nil
  | @cons k' v' w' kvs ks hv' _ ih =>
    rw [List.map_cons, List.map_cons]
    by_cases hk : k' = k
    · simp only [hk, if_true]; exact .cons hv ih
    · simp only [hk, if_false]; exact .cons hv' ih
theorem SPairs.stored {kvs : List (Str × V)} {ks : List (Str × Value)} {k : Str} {v : V} {w : Value} (e : SPairs μ h kvs ks) (hv : VR μ h v w) : SPairs μ h (sput kvs k v) (stored ks k w) := by
  unfold sput PySem.stored
  rw [e.any]
  split
  · exact e.mapput hv
  · exact e.append (.cons hv .nil)
theorem SPairs.len {kvs : List (Str × V)} {ks : List (Str × Value)} (e : SPairs μ h kvs ks) : kvs.length = ks.length := by
  induction e with
  | nil => rfl
  | cons _ _ ih => simp [ih]

theorem str_key {x : Str} {t : Tok} : (sK g).is x (.str x t) = true := by simp [PySem.strKind, Value.isStrOf]

theorem OP.sget {value slice : Expr} {i : Nat} {kvs : List (Str × V)} {x : Str} (hi : σ[i]? = some (.sdict kvs)) (hk : kvs.lookup x = some v)
    (hs : ∀ o i, subscripted slice false o i = operate [o, i] (getItem o i) := by intro _ _; rfl) :
    OP g n (op2 (subscriptTail value slice)) [.ref i, .dat (.str x)] σ v σ := fun A μ s ws Q E R M V hQ => by
  obtain ⟨a, b, rfl, h1, h2⟩ := V.two
  obtain ⟨t, rfl⟩ := rd_str.mp (vr_dat.mp h2)
  obtain ⟨d, rfl, hd⟩ := h1
  obtain ⟨hsys, ks, hD, hp⟩ := M.slots i d _ hd hi
  obtain ⟨w, hw, hv⟩ := (hp.at_ (k := x)).1 v hk
  exact sub_tail hD.typeIs slot_dict_getitem.lookup (wpAny_getItem_of str_key hD.mapOf hw (hQ w _ μ .refl M.toks hv)) (hs _ _)
theorem OP.sin {i : Nat} {kvs : List (Str × V)} {x : Str} (hi : σ[i]? = some (.sdict kvs)) :
    OP g n (op2 (compareOp .In)) [.dat (.str x), .ref i] σ (.dat (.bool (kvs.lookup x).isSome)) σ := fun A μ s ws Q E R M V hQ => by
  obtain ⟨a, b, rfl, h1, h2⟩ := V.two
  obtain ⟨t, rfl⟩ := rd_str.mp (vr_dat.mp h1)
  obtain ⟨d, rfl, hd⟩ := h2
  obtain ⟨hsys, ks, hD, hp⟩ := M.slots i d _ hd hi
  refine wpAny_in_of str_key hsys hD.mapOf ?_
  have : (valueAt ks x).isSome = (kvs.lookup x).isSome := by
    cases hl : kvs.lookup x with
    | none => rw [(hp.at_ (k := x)).2 hl]; rfl
    | some v => obtain ⟨w, hw, _⟩ := (hp.at_ (k := x)).1 v hl; rw [hw]; rfl
  rw [this]
  exact hQ _ _ μ .refl M.toks .b
theorem OP.snotin {i : Nat} {kvs : List (Str × V)} {x : Str} (hi : σ[i]? = some (.sdict kvs)) :
    OP g n (op2 (compareOp .NotIn)) [.dat (.str x), .ref i] σ (.dat (.bool (!(kvs.lookup x).isSome))) σ := fun A μ s ws Q E R M V hQ => by
  obtain ⟨a, b, rfl, h1, h2⟩ := V.two
  obtain ⟨t, rfl⟩ := rd_str.mp (vr_dat.mp h1)
  obtain ⟨d, rfl, hd⟩ := h2
  obtain ⟨hsys, ks, hD, hp⟩ := M.slots i d _ hd hi
  refine wpAny_notIn_of str_key hsys hD.mapOf ?_
  have : (valueAt ks x).isSome = (kvs.lookup x).isSome := by
    cases hl : kvs.lookup x with
    | none => rw [(hp.at_ (k := x)).2 hl]; rfl
    | some v => obtain ⟨w, hw, _⟩ := (hp.at_ (k := x)).1 v hl; rw [hw]; rfl
  rw [this]
  exact hQ _ _ μ .refl M.toks .b

/-- d[k] = v -/
def ST (g : G) (n : Nat) (o k v : V) (σ σ' : List Slot) : Prop :=
  ∀ (A : Around) (μ : List Addr) (s : Shared) (wo wk wv : Value) (Q : Unit → Shared → Prop) (E : Value → Shared → Prop), Room n A → Mem g μ σ s → VR μ s.heap o wo → VR μ s.heap k wk → VR μ s.heap v wv →
    (∀ s', Ext μ s.heap μ s'.heap → Mem g μ σ' s' → Q () s') → wpAny g.M A (setItem wo wk wv) Q E s
theorem ES.store {o i : Expr} {e : Expr} (he : EV g n sc e ρ σ v σ₁) (ho : EV g n sc o ρ σ₁ v₁ σ₂) (hi : EV g n sc i ρ σ₂ v₂ σ₃) (h : ST g n v₁ v₂ v σ₃ σ')
    (hs : ∀ env, swapsWith e (some (.Subscript o i p)) pos.line env = pure false := by intro _; rfl) : ES g n sc (.Assign [.Subscript o i p] e pos) ρ σ (.next ρ σ') := fun A env μ s Q E R F M hQ =>
  wpAny_Assign_Subscript (he A env μ s _ E R F M fun w s₁ μ₁ x₁ M₁ V₁ => ho A env μ₁ s₁ _ E R (F.ext x₁) M₁ fun wo s₂ μ₂ x₂ M₂ V₂ => hi A env μ₂ s₂ _ E R ((F.ext x₁).ext x₂) M₂ fun wi s₃ μ₃ x₃ M₃ V₃ =>
    h A μ₃ s₃ wo wi w _ E R M₃ (V₂.ext x₃) V₃ ((V₁.ext x₂).ext x₃) fun s' x' M' => hQ .next s' μ₃ (x₁.trans (x₂.trans (x₃.trans x'))).toS ⟨rfl, M', (((F.ext x₁).ext x₂).ext x₃).ext x'⟩) (hs env)
theorem ST.str {i : Nat} {kvs : List (Str × V)} {x : Str} (hi : σ[i]? = some (.sdict kvs)) (hz : kvs.length ≤ sizeLine) : ST g n (.ref i) (.dat (.str x)) v σ (σ.set i (.sdict (sput kvs x v))) := fun A μ s wo wk wv Q E R M h1 h2 h3 hQ => by
  obtain ⟨t, rfl⟩ := rd_str.mp (vr_dat.mp h2)
  obtain ⟨d, rfl, hd⟩ := h1
  obtain ⟨hsys, ks, hD, hp⟩ := M.slots i d _ hd hi
  refine wpAny_setItem_pairs str_key hD (fun h' hD' hs => ?_) (by rw [← hp.len]; exact hz)
  have X := Ext.setSlot hd hs
  exact hQ _ X (M.setSlot (k := s.toks + 1) hd hs ⟨hsys, _, hD', (hp.ext X).stored (h3.ext X)⟩)
end
end Mine
end PartF1
noncomputable section PartF2
open PySem PySem.W PyProof.Rows
set_option linter.all false
set_option maxRecDepth 20000
namespace Mine
section
variable {g : G} {n : Nat} {sc : Scope} {ρ ρ' : List (Str × V)} {σ σ₁ σ₂ σ₃ : List Slot} {pos apos p p2 : Pos} {v v₁ v₂ v₃ : V} {A : Around} {env : Env} {μ μ₀ μ₁ : List Addr} {s s₁ : Shared} {E : Value → Shared → Prop} {h h' : Heap}

theorem Mem.notModules (M : Mem g μ σ s) : (s.heap.objs.size == sysModules) = false :=
  beq_eq_false_iff_ne.mpr (Nat.ne_of_gt (modules_low (g.T.nolimit.keeps M.base)))
theorem EV.dict0 : EV g n sc (.Dict [] [] pos) ρ σ (.ref σ.length) (σ ++ [.sdict []]) := fun A env μ s Q E _ _ M hQ => by
  have hs : SlotAt g (μ ++ [s.heap.objs.size]) (s.heap.push { cls := .type "dict", data := .dict #[] }) s.heap.objs.size (.sdict []) :=
    ⟨M.notModules, [], Heap.DictOf.new _, .nil⟩
  obtain ⟨M', x'⟩ := M.slot hs
  exact wpAny_Dict_empty (hQ _ _ _ x' M' ⟨_, rfl, by rw [← M.len]; simp⟩)
theorem EV.dict0t : EV g n sc (.Dict [] [] pos) ρ σ (.ref σ.length) (σ ++ [.tdict []]) := fun A env μ s Q E _ _ M hQ => by
  have hs : SlotAt g (μ ++ [s.heap.objs.size]) (s.heap.push { cls := .type "dict", data := .dict #[] }) s.heap.objs.size (.tdict []) :=
    ⟨M.notModules, [], Heap.DictOfH.new _, .nil⟩
  obtain ⟨M', x'⟩ := M.slot hs
  exact wpAny_Dict_empty (hQ _ _ _ x' M' ⟨_, rfl, by rw [← M.len]; simp⟩)

theorem EV.dict2 {x y : Str} {px py : Pos} {kx ky : Nat} {e₁ e₂ : Expr} (hxy : x ≠ y) (h1 : EV g n sc e₁ ρ (σ ++ [.sdict []]) v₁ σ₁) (h2 : EV g n sc e₂ ρ σ₁ v₂ σ₂) (hd : σ₂[σ.length]? = some (.sdict [])) :
    EV g n sc (.Dict [some (.Constant (.str x) kx px), some (.Constant (.str y) ky py)] [e₁, e₂] pos) ρ σ (.ref σ.length) (σ₂.set σ.length (.sdict [(x, v₁), (y, v₂)])) := fun A env μ s Q E R F M hQ => by
  have hs : SlotAt g (μ ++ [s.heap.objs.size]) (s.heap.push { cls := .type "dict", data := .dict #[] }) s.heap.objs.size (.sdict []) :=
    ⟨M.notModules, [], Heap.DictOf.new _, .nil⟩
  obtain ⟨M', x'⟩ := M.slot hs
  have hD : (μ ++ [s.heap.objs.size])[σ.length]? = some s.heap.objs.size := by rw [← M.len]; simp
  refine wpAny_Dict_pairs (knd := sK g) (pairs := [(eval (.Constant (.str x) kx px) env, do let v ← eval e₁ env; standAt pos; pure v), (eval (.Constant (.str y) ky py) env, do let v ← eval e₂ env; standAt pos; pure v)]) rfl (by simp) (Nat.le_of_ble_eq_true rfl) ?_
  refine evalPairs_cons (wpAny_Constant_str (wpAny_bind (h1 A env _ _ _ E R (F.ext x') M'.toks fun w₁ s₁ μ₁ x₁ M₁ V₁ => wpAny_bind (wpAny_standAt (wpAny_pure ?_)))))
  refine evalPairs_cons (wpAny_Constant_str (wpAny_bind (h2 A env _ _ _ E R ((F.ext x').ext x₁) M₁.toks fun w₂ s₂ μ₂ x₂ M₂ V₂ => wpAny_bind (wpAny_standAt (wpAny_pure (evalPairs_nil ?_))))))
  have ha : μ₂[σ.length]? = some s.heap.objs.size := x₂.get (x₁.get hD)
  obtain ⟨hsys, ks, hDk, hp⟩ := M₂.slots _ _ _ ha hd
  cases hp
  refine ⟨[(x, w₁), (y, w₂)], ⟨str_key, rfl, str_key, rfl, trivial⟩, hDk, fun h' hm hsb => ?_⟩
  have X := Ext.setSlot ha hsb
  have e : merged [] [(x, w₁), (y, w₂)] = [(x, w₁), (y, w₂)] := by simp [merged, stored, hxy]
  rw [e] at hm
  refine hQ _ _ μ₂ (x'.trans (x₁.trans (x₂.trans X))) (M₂.setSlot ha hsb ⟨hsys, _, hm, .cons ((V₁.ext x₂).ext X) (.cons (V₂.ext X) .nil)⟩) ⟨_, rfl, ha⟩

/-- tables keyed by tuples of intD -/
def intD (ks : List Int) : List PyData := ks.map .int
theorem items_of_rds : ∀ {ks : List Int} {ws : List Value}, Rds μ h (intD ks) ws → ItemsAre (PySem.intKind g.prog g.w) ks ws
  | [], ws, e => by rw [intD, List.map_nil, rds_nil] at e; subst e; exact .nil
  | k :: ks, ws, e => by
    obtain ⟨w, r, rfl, e1, e2⟩ := rds_cons.mp e
    obtain ⟨t, rfl⟩ := rd_int.mp e1
    exact .cons (by simp [PySem.intKind, Value.isInt]) (items_of_rds e2)
theorem key_of {ks : List Int} {w : Value} (e : Rd μ h (.tuple (intD ks)) w) : ∃ a, w = .ref a ∧ a ∉ μ ∧ (tK g).is h ks a := by
  obtain ⟨a, vs, m, rfl, hn, ht, _, hr⟩ := rd_tuple.mp e
  exact ⟨a, rfl, hn, _, vs, m, ht, rfl, rfl, items_of_rds hr⟩
theorem TPairs.at_ {kvs : List (List Int × V)} {ks : List (List Int × Addr × Value)} {k : List Int} (e : TPairs μ h kvs ks) : (∀ v, kvs.lookup k = some v → ∃ a w, atKey ks k = some (a, w) ∧ VR μ h v w) ∧ (kvs.lookup k = none → atKey ks k = none) := by
  induction e with
  | nil => exact ⟨fun v e => by simp at e, fun _ => rfl⟩
  | @cons k' v' a' w' kvs ks hn hv _ ih =>
    rw [List.lookup_cons]
    unfold atKey
    rw [List.find?_cons]
    by_cases hk : k = k'
    · subst hk
      simp only [beq_self_eq_true, decide_true]
      refine ⟨fun v e => ?_, fun e => nomatch e⟩
      cases e
      exact ⟨a', w', rfl, hv⟩
    · have hk' : ¬ k' = k := fun e => hk e.symm
      have hb : (k == k') = false := beq_eq_false_iff_ne.mpr hk
      simp only [hb, hk', decide_false]
      exact ih
theorem TPairs.append {kvs kvs' : List (List Int × V)} {ks ks'} (e : TPairs μ h kvs ks) (e' : TPairs μ h kvs' ks') : TPairs μ h (kvs ++ kvs') (ks ++ ks') := by
  induction e with
  | nil => exact e'
  | cons hn hv _ ih => exact .cons hn hv ih
theorem TPairs.len {kvs : List (List Int × V)} {ks} (e : TPairs μ h kvs ks) : kvs.length = ks.length := by
  induction e with
  | nil => rfl
  | cons _ _ _ ih => simp [ih]
theorem room_key {n : Nat} (R : Room n A) : (tK g).room A.in1 := by
  have := R.uni
  have h : A.units + 1 < cLine := by have : cLine = 9900 := rfl; omega
  exact tupleKind_room_in1 h
theorem OP.tget {value slice : Expr} {i : Nat} {kvs : List (List Int × V)} {ks : List Int} (hi : σ[i]? = some (.tdict kvs)) (hk : kvs.lookup ks = some v)
    (hs : ∀ o i, subscripted slice false o i = operate [o, i] (getItem o i) := by intro _ _; rfl) :
    OP g n (op2 (subscriptTail value slice)) [.ref i, .dat (.tuple (intD ks))] σ v σ := fun A μ s ws Q E R M V hQ => by
  obtain ⟨a, b, rfl, h1, h2⟩ := V.two
  obtain ⟨ka, rfl, hn, hkey⟩ := key_of (g := g) (vr_dat.mp h2)
  obtain ⟨d, rfl, hd⟩ := h1
  obtain ⟨hsys, xs, hD, hp⟩ := M.slots i d _ hd hi
  obtain ⟨a, w, hw, hv⟩ := (hp.at_ (k := ks)).1 v hk
  exact sub_tail hD.typeIs slot_dict_getitem.lookup (wpAny_getItem_heap (room_key R) hkey hD hw (hQ w _ μ .refl M.toks hv)) (hs _ _)
theorem ST.tup {i : Nat} {kvs : List (List Int × V)} {ks : List Int} (hi : σ[i]? = some (.tdict kvs)) (hk : kvs.lookup ks = none) (hz : kvs.length ≤ sizeLine) : ST g n (.ref i) (.dat (.tuple (intD ks))) v σ (σ.set i (.tdict (kvs ++ [(ks, v)]))) := fun A μ s wo wk wv Q E R M h1 h2 h3 hQ => by
  obtain ⟨ka, rfl, hn, hkey⟩ := key_of (g := g) (vr_dat.mp h2)
  obtain ⟨d, rfl, hd⟩ := h1
  obtain ⟨hsys, xs, hD, hp⟩ := M.slots i d _ hd hi
  refine wpAny_setItem_heap (room_key R) hkey hD (fun h' hD' hs => ?_) (by rw [← hp.len]; exact hz)
  have X := Ext.setSlot hd hs
  rw [storedH_new ((hp.at_ (k := ks)).2 hk)] at hD'
  have htup : ∀ y ∈ xs, ∃ vs, s.heap.IsTuple y.2.1 vs := by
    obtain ⟨o, es, ep, ho, hc, hdd, he, hkk, hnn⟩ := hD
    intro y hy
    obtain ⟨o', items, n', q1, q2, q3, q4⟩ := hkk y hy
    exact ⟨items, o', q1, q2, n', q3⟩
  exact hQ _ X (M.setSlot hd hs ⟨hsys, _, hD', (hp.liv X.liv htup).append (.cons hn (h3.ext X) .nil)⟩)
end
end Mine
end PartF2
noncomputable section PartF3
open PySem PySem.W PyProof.Rows
set_option linter.all false
set_option maxRecDepth 20000
namespace Mine
section
variable {g : G} {n : Nat} {sc : Scope} {ρ ρ' : List (Str × V)} {σ σ₁ σ₂ σ₃ : List Slot} {pos apos p p2 : Pos} {v v₁ v₂ v₃ : V} {A : Around} {env : Env} {μ μ₀ μ₁ : List Addr} {s s₁ : Shared} {E : Value → Shared → Prop} {h h' : Heap}

theorem Rd.handed {d : PyData} {w : Value} (e : Rd μ h d w) : handedIn w = true := by
  cases d with
  | none => rw [rd_none] at e; subst e; rfl
  | bool b => rw [rd_bool] at e; subst e; rfl
  | int i => obtain ⟨t, rfl⟩ := rd_int.mp e; rfl
  | str x => obtain ⟨t, rfl⟩ := rd_str.mp e; rfl
  | tuple xs => obtain ⟨a, _, _, rfl, _⟩ := rd_tuple.mp e; rfl
  | list xs => obtain ⟨a, _, _, rfl, _⟩ := rd_list.mp e; rfl
  | dict x => rw [Rd] at e; exact e.elim
theorem VR.handed {w : Value} (e : VR μ h v w) : handedIn w = true := by
  cases v with
  | ref i => obtain ⟨a, rfl, _⟩ := e; rfl
  | dat d => exact Rd.handed e

theorem OEnts.get {attrs : List (Str × V)} {es : List DictEntry} {x : Str} (e : OEnts μ h attrs es) : (∀ v, attrs.lookup x = some v → ∃ w, getL x es = some (some w) ∧ VR μ h v w) ∧ (attrs.lookup x = none → getL x es = some none) := by
  unfold getL
  have nr : es.any (·.refKey) = false := by
    clear x
    induction e with
    | nil => rfl
    | cons hv _ ih => simp only [List.any_cons, ih, Bool.or_false]; rfl
  rw [nr]
  simp only [Bool.false_eq_true, if_false]
  clear nr
  induction e with
  | nil => exact ⟨fun v e => by simp at e, fun _ => rfl⟩
  | @cons y t k v' w' as es hv _ ih =>
    rw [lookup_cons', List.find?_cons]
    by_cases hk : x = y
    · subst hk
      rw [if_pos rfl]
      have : (Value.str x t).isStr x = true := by simp [Value.isStr]
      simp only [this]
      refine ⟨fun v e => ?_, fun e => nomatch e⟩
      cases e
      exact ⟨w', rfl, hv⟩
    · rw [if_neg hk]
      have : (Value.str y t).isStr x = false := by simp [Value.isStr]; exact fun e => hk e.symm
      simp only [this]
      exact ih

/-- a made object and its names -/
structure Ins (σ : List Slot) (i : Nat) (C : Addr) (attrs : List (Str × V)) : Prop where
  out : ∃ j, σ[i]? = some (.inst C j) ∧ σ[j]? = some (.odict attrs)
theorem Ins.at_ {i : Nat} {C a : Addr} {attrs : List (Str × V)} (I : Ins σ i C attrs) (M : Mem g μ σ s) (ha : μ[i]? = some a) : ∃ dx es k, InstAt s.heap a (instObj C dx) C (some (dictOf es k)) ∧ OEnts μ s.heap attrs es ∧ (∃ j, μ[j]? = some dx ∧ σ[i]? = some (.inst C j) ∧ σ[j]? = some (.odict attrs)) := by
  obtain ⟨j, h1, h2⟩ := I.out
  obtain ⟨dx, hj, ho⟩ := M.slots i a _ ha h1
  obtain ⟨es, k, hd, hp⟩ := M.slots j dx _ hj h2
  exact ⟨dx, es, k, ⟨ho, rfl, rfl, hd⟩, hp, j, hj, h1, h2⟩

/-- what the program's part says of a name of a class -/
structure Plain (K : Frag) (C : Addr) (name : Str) : Prop where
  get : plainGet K C name = true
  dict : hasDictIn K C = true
  attr : ∃ attr, findIn K (.ref C) name = some attr ∧ noGet K attr = true
theorem EV.attr {e : Expr} {name : Str} {i : Nat} {C : Addr} {attrs : List (Str × V)} (P : Plain g.K C name) (ho : EV g n sc e ρ σ (.ref i) σ₁) (hi : Ins σ₁ i C attrs) (hl : attrs.lookup name = some v)
    (he : ∀ env, eval (.Attribute e name pos) env = (do
      let o ← eval e env
      standAt pos.atName
      let r ← holding [o] (getAttr o name true)
      letTemporaryGo e o r
      pure r) := by intro _; with_unfolding_all rfl) : EV g n sc (.Attribute e name pos) ρ σ v σ₁ := fun A env μ s Q E R F M hQ =>
  Attribute_any_ (ho A env μ s _ E R F M fun w s₁ μ₁ x₁ M₁ V₁ => by
    obtain ⟨a, rfl, ha⟩ := V₁
    obtain ⟨dx, es, k, I, hp, _⟩ := hi.at_ M₁ ha
    obtain ⟨w, hw, hv⟩ := (hp.get (x := name)).1 v hl
    obtain ⟨attr, hf, hn⟩ := P.attr
    exact get_value M₁.K I (plainGet_of P.get).1 (findObj_own P.dict hf hn hw) hv.handed (hQ w _ μ₁ x₁ M₁.toks hv)) (he env)

structure Meth (K : Frag) (C : Addr) (name : Str) (f : Addr) : Prop where
  get : plainGet K C name = true
  find : findIn K (.ref C) name = some (some (.ref f))
  fn : isFn K (.ref f) = true
  keep : keepIn K (.ref f) = true
theorem EV.method {o e : Expr} {es : List Expr} {name : Str} {i : Nat} {C f : Addr} {attrs : List (Str × V)} {vs : List V} (P : Meth g.K C name f) (ho : EV g n sc o ρ σ (.ref i) σ₁) (hi : Ins σ₁ i C attrs) (hl : attrs.lookup name = Option.none)
    (ha : EVs g n sc (e :: es) ρ σ₁ vs σ₂) (hf : CA g n (.ref f) (.ref i :: vs) σ₂ v σ₃)
    (he : ∀ env, eval (.Call (.Attribute o name apos) (e :: es) [] pos) env = (do
      let ov ← eval o env
      standAt apos.atName
      let (f, first) ← holding [ov] (getMethod ov name (do return (← importBound o env).getD true))
      callWith pos f first (backTo pos (starEach (e :: es) env)) []))
    (hst : ∀ env, starEach (e :: es) env = (false, eval e env) :: starEach es env := by intro _; rfl)
    (hplain : ∀ env, (backTo pos (starEach es env)).any (·.1) = false := by intro _; rfl) :
    EV g n sc (.Call (.Attribute o name apos) (e :: es) [] pos) ρ σ v σ₃ := fun A env μ s Q E R F M hQ =>
  MethodCall_ (ho A env μ s _ E R F M fun w s₁ μ₁ x₁ M₁ V₁ => by
    obtain ⟨a, rfl, hia⟩ := V₁
    obtain ⟨dx, eds, k, I, hp, _⟩ := hi.at_ M₁ hia
    refine method_fn M₁.K I (plainGet_of P.get).1 (plainGet_of P.get).2 P.find (beq_iff_eq.mp P.fn) ?_ ?_
    · show (lookIn name (dictOf eds k)).map _ = _
      rw [lookIn_dict, (hp.get (x := name)).2 hl]; rfl
    · exact callWith_K (K := g.K) g.X P.keep (ha A env μ₁ s₁ pos _ E R (F.ext x₁) M₁ fun ws s₂ μ₂ x₂ M₂ V₂ => ⟨M₂.K, by
        exact hf A μ₂ s₂ (.ref a :: ws) Q E R M₂ (.cons ⟨a, rfl, x₂.get hia⟩ V₂) fun w s' μ' x M' V' => hQ w s' μ' (x₁.trans (x₂.trans x)) M' V'⟩) (hst env) (hplain env)) (he env)

theorem Room.under_make {n : Nat} {C : Addr} {rest : List Value} {kw : List (Str × Value)} (R : Room (n + 1) A) : Room n (A.under (.builtin "type.__call__" ⟨.ref C :: rest, kw⟩)) := by
  have hw : (Code.builtin "type.__call__" ⟨.ref C :: rest, kw⟩).weight ≤ 1 := by
    have hg : (Code.builtin "type.__call__" ⟨.ref C :: rest, kw⟩).isGuard = false := by show guardIds.contains "type.__call__" = false; decide +kernel
    have hc : (Code.builtin "type.__call__" ⟨.ref C :: rest, kw⟩).isCaller = false := rfl
    have hf : (Code.builtin "type.__call__" ⟨.ref C :: rest, kw⟩).frames = 0 := rfl
    unfold Code.weight
    rw [hg, hc, hf]
    simp only [Bool.false_eq_true, if_false]
    split <;> omega
  have hu : (Code.builtin "type.__call__" ⟨.ref C :: rest, kw⟩).cUnits = 1 := rfl
  refine ⟨R.hnd, ?_, ?_⟩
  · have := R.dep; show A.depth + _ + n ≤ 600; omega
  · have := R.uni; show A.units + _ + 10 * n ≤ 6000; omega

/-- a class is called -/
structure Maker (K : Frag) (C fI : Addr) : Prop where
  makes : makesIn K C = true
  find : findIn K (.ref C) "__init__" = some (some (.ref fI))
  fn : typeIn K (.ref fI) = some (.type "function")
theorem CA.make {C fI : Addr} {args : List V} {σ' : List Slot} (P : Maker g.K C fI) (hI : FNc g n (.ref fI) (.ref (σ.length + 1) :: args) (σ ++ [.odict [], .inst C σ.length]) (.dat .none) σ') :
    CA g (n + 1) (.ref C) args σ (.ref (σ.length + 1)) σ' := fun A μ s ws Q E R M V hQ => by
  refine wpAny_call ?_
  have hs1 : SlotAt g (μ ++ [s.heap.objs.size]) (s.heap.push emptyDict) s.heap.objs.size (.odict []) := ⟨[], 0, Heap.get?_push_size _ rfl, .nil⟩
  obtain ⟨M1, x1⟩ := M.slot hs1
  have e1 : (s.heap.push emptyDict).objs.size = s.heap.objs.size + 1 := Heap.size_push ..
  have hs2 : SlotAt g ((μ ++ [s.heap.objs.size]) ++ [(s.heap.push emptyDict).objs.size]) ((s.heap.push emptyDict).push (instObj C s.heap.objs.size)) (s.heap.push emptyDict).objs.size (.inst C σ.length) :=
    ⟨s.heap.objs.size, by rw [List.append_assoc, ← M.len]; simp, Heap.get?_push_size _ rfl⟩
  obtain ⟨M2, x2⟩ := M1.slot (s := { s with heap := s.heap.push emptyDict }) hs2
  have x : Ext μ s.heap _ _ := x1.trans x2
  have hm : ((μ ++ [s.heap.objs.size]) ++ [(s.heap.push emptyDict).objs.size])[σ.length + 1]? = some (s.heap.objs.size + 1) := by
    have : (μ ++ [s.heap.objs.size]).length = σ.length + 1 := by simp [M.len]
    rw [← this, e1]; simp
  obtain ⟨hp, g1, d1, t1, os1⟩ := s
  refine make_core (makes_of M.K P.makes) (looks_findIn M.K P.find) (fun self => bind_fn M.K self P.fn) (.inl rfl) ?_
  have eσ : σ ++ [Slot.odict [], .inst C σ.length] = σ ++ [.odict []] ++ [.inst C σ.length] := by simp
  rw [eσ] at hI
  refine hI _ _ _ (.ref (hp.objs.size + 1) :: ws) _ R.under_make M2 (.cons ⟨_, rfl, hm⟩ (V.ext x)) fun w s' μ' x' M' V' => ?_
  have : w = .none := rd_none.mp (vr_dat.mp V')
  subst this
  exact ⟨rfl, hQ _ s' μ' (x.trans x') M' ⟨_, rfl, x'.get hm⟩⟩
end
end Mine
end PartF3
noncomputable section PartF4
open PySem PySem.W PyProof.Rows Builtin Builtin.ObjectAttr Builtin.Getset_descriptor
set_option linter.all false
set_option maxRecDepth 20000
namespace Mine
section
variable {g : G} {n : Nat} {sc : Scope} {ρ ρ' : List (Str × V)} {σ σ₁ σ₂ σ₃ : List Slot} {pos apos p p2 : Pos} {v v₁ v₂ v₃ : V} {A : Around} {env : Env} {μ μ₀ μ₁ : List Addr} {s s₁ : Shared} {E : Value → Shared → Prop} {h h' : Heap}

structure Setter (K : Frag) (C : Addr) (name : Str) : Prop where
  set : findIn K (.ref C) "__setattr__" = some (some (.builtin "object.__setattr__"))
  over : plainOver K C = true
  taker : takerIn K C name = some Option.none
  dict : hasDictIn K C = true

theorem OEnts.put {attrs : List (Str × V)} {es : List DictEntry} {x : Str} {w : Value} {hsh : Int} {t : Tok} (e : OEnts μ h attrs es) (hl : attrs.lookup x = Option.none) (hv : VR μ h v w) :
    OEnts μ h (attrs ++ [(x, v)]) (putL x hsh (.str x t) w es) ∧ (putL x hsh (.str x t) w es).length = es.length + 1 := by
  induction e with
  | nil => exact ⟨.cons hv .nil, rfl⟩
  | @cons y t' k v' w' as es hv' _ ih =>
    rw [lookup_cons'] at hl
    by_cases hk : x = y
    · rw [if_pos hk] at hl; cases hl
    · rw [if_neg hk] at hl
      have hy : (Value.str y t').isStr x = false := by simp [Value.isStr]; exact fun e => hk e.symm
      obtain ⟨h1, h2⟩ := ih hl
      simp only [putL, hy, Bool.false_eq_true, if_false, List.cons_append, List.length_cons, h2, and_true]
      exact .cons hv' h1
theorem OEnts.len {attrs : List (Str × V)} {es : List DictEntry} (e : OEnts μ h attrs es) : attrs.length = es.length := by
  induction e with
  | nil => rfl
  | cons _ _ ih => simp [ih]
theorem set_own' {x : Addr} {C dx : Addr} {es : List DictEntry} {k : Nat} {name : Str} {w : Value} {attrs : List (Str × V)} {Q : Unit → Shared → Prop} {K : Frag} {prog : Program} {wd : World} (X : K.In s.heap) (P : Setter K C name) (I : InstAt s.heap x (instObj C dx) C (some (dictOf es k))) (hl : getL name es = some Option.none)
    (hz : (putL name (PyData.keyHash wd.params name) (.str name (s.toks + 1)) w es).length ≤ 1000)
    (hQ : Q () { s with heap := s.heap.update dx (Obj.putName name (PyData.keyHash wd.params name) (.str name (s.toks + 1)) w), toks := s.toks + 2 }) :
    wpAny (model prog wd) A (setAttr (.ref x) name w) Q E s := by
  refine set_plain X I P.set ?_
  refine osa_open (s := { s with toks := s.toks + 1 }) (od := some (dictOf es k)) X I P.over P.taker fun b => ?_
  obtain ⟨cd, hc, hd'⟩ := any_some P.dict
  obtain ⟨hx, hcl, hn, hdd⟩ := I
  have D : s.heap.get? dx = some (dictOf es k) := hdd
  have D' : (s.heap.update dx (Obj.putName name (PyData.keyHash wd.params name) (.str name (s.toks + 1)) w)).get? dx = some (dictOf (putL name (PyData.keyHash wd.params name) (.str name (s.toks + 1)) w es) (putN name es k)) := by
    rw [← putName_dict]
    exact Heap.get?_update_self _ D (by rw [putName_dict]; rfl)
  refine wpAny_bind (wpAny_pure (wpAny_bind (wpAny_bind (wpAny_loadPart hx (wpAny_bind (looks_clsIn X hc _ _ _ _ (fun _ _ e => e) ?_))))))
  rw [hd']
  refine wpAny_pure (a := some dx) (wpAny_bind (wpAny_pure (wpAny_bind ?_)))
  unfold nsSet
  refine wpAny_bind (wpAny_bind (wpAny_askSetting (wpAny_pure (wpAny_bind (wpAny_mkText (wpAny_bind (wpAny_loadPart D ?_)))))))
  dsimp only
  have c : (!es.toArray.any (·.key.isStr name) && es.toArray.any (·.refKey)) = false := by
    rw [← Array.any_toList, ← Array.any_toList]
    have hl' := hl
    unfold getL at hl'
    split at hl'
    · rename_i en he; cases hl'
    · split at hl'
      · cases hl'
      · rename_i z; rw [Bool.not_eq_true] at z; show (_ && es.any (·.refKey)) = false; rw [z, Bool.and_false]
  rw [aRefKeyMayBeTheName_at, c]
  refine wpAny_updatePart D ?_
  refine wpAny_bind (wpAny_lookBehind D' (pastItsLine_dict (by rw [List.size_toArray, sizeLine_eq]; omega)) ?_)
  exact wpAny_pure hQ

theorem ES.setattr {o e : Expr} {name : Str} {i j : Nat} {C : Addr} {attrs : List (Str × V)} (P : Setter g.K C name) (he : EV g n sc e ρ σ v σ₁) (ho : EV g n sc o ρ σ₁ (.ref i) σ₂) (h1 : σ₂[i]? = some (.inst C j)) (h2 : σ₂[j]? = some (.odict attrs))
    (hl : attrs.lookup name = Option.none) (hz : attrs.length ≤ 100) (hs : ∀ env, swapsWith e (some (.Attribute o name p)) pos.line env = pure false := by intro _; rfl) :
    ES g n sc (.Assign [.Attribute o name p] e pos) ρ σ (.next ρ (σ₂.set j (.odict (attrs ++ [(name, v)])))) := fun A env μ s Q E R F M hQ =>
  plainObj_wpAny_Assign_Attribute (he A env μ s _ E R F M fun w s₁ μ₁ x₁ M₁ V₁ => ho A env μ₁ s₁ _ E R (F.ext x₁) M₁ fun wo s₂ μ₂ x₂ M₂ V₂ => by
    obtain ⟨a, rfl, ha⟩ := V₂
    obtain ⟨dx, hj, ho'⟩ := M₂.slots i a _ ha h1
    obtain ⟨es, k, hd, hp⟩ := M₂.slots j dx _ hj h2
    have I : InstAt s₂.heap a (instObj C dx) C (some (dictOf es k)) := ⟨ho', rfl, rfl, hd⟩
    have hgl := (hp.get (x := name)).2 hl
    have hq := hp.put (hsh := PyData.keyHash g.w.params name) (t := s₂.toks + 1) hl (V₁.ext x₂)
    have hlen := hp.len
    refine set_own' (attrs := attrs) M₂.K P I hgl (by rw [hq.2]; omega) ?_
    have hsb : Heap.SameBut dx s₂.heap (s₂.heap.update dx (Obj.putName name (PyData.keyHash g.w.params name) (.str name (s₂.toks + 1)) w)) := Heap.SameBut.update ..
    have X := Ext.setSlot hj hsb
    have D' : (s₂.heap.update dx (Obj.putName name (PyData.keyHash g.w.params name) (.str name (s₂.toks + 1)) w)).get? dx = some (dictOf (putL name (PyData.keyHash g.w.params name) (.str name (s₂.toks + 1)) w es) (putN name es k)) := by
      rw [← putName_dict]
      exact Heap.get?_update_self _ hd (by rw [putName_dict]; rfl)
    refine hQ .next _ μ₂ (x₁.trans (x₂.trans X)).toS ⟨rfl, M₂.setSlot hj hsb ⟨_, _, D', ?_⟩, ((F.ext x₁).ext x₂).ext X⟩
    exact hq.1.liv X.liv) (hs env)
end
end Mine
end PartF4
noncomputable section PartF5
open PySem PySem.W PyProof.Rows
set_option linter.all false
set_option maxRecDepth 20000
namespace Mine
section
variable {g : G} {n : Nat} {sc : Scope} {ρ ρ' : List (Str × V)} {σ σ₁ σ₂ σ₃ σ₄ : List Slot} {pos apos p p2 pt : Pos} {v v₁ v₂ v₃ : V} {A : Around} {env : Env} {μ μ₀ μ₁ : List Addr} {s s₁ : Shared} {E : Value → Shared → Prop} {h h' : Heap}

theorem isi_core {e : Expr} {T Tx : String} {x : Str} {Q : Value → Shared → Prop} (hi : sc.names.lookup ("isinstance" : Str) = some NameKind.globalImplicit) (hx : sc.names.lookup x = some NameKind.globalImplicit)
    (hKi : nsIn g.K mainGlobals ("isinstance" : Str) = some Option.none) (hKx : nsIn g.K mainGlobals x = some Option.none) (hv : bootBuiltins x = some (.type T)) (hty : typeOf (.type T) = pure (.type "type")) (hsub : isSubtype (.type Tx) (.type T) = pure true)
    (he : EV g n sc e ρ σ v σ₁) (R : Room n A) (F : Frm g env sc μ ρ s.heap) (M : Mem g μ σ s) (hT : ∀ w s₁ μ₁, Mem g μ₁ σ₁ s₁ → VR μ₁ s₁.heap v w → s₁.TypeIs w Tx)
    (hQ : ∀ s' μ', Ext μ s.heap μ' s'.heap → Mem g μ' σ₁ s' → Q (.bool true) s')
    (hst : ∀ env, starEach [e, .Name x pt] env = (false, eval e env) :: starEach [.Name x pt] env) (hd : (x == ("__debug__" : Str)) = false) (hn : x ≠ "__name__") :
    wpAny g.M A (eval (.Call (.Name "isinstance" p) [e, .Name x pt] [] pos) env) Q E s := by
  refine Call_ (name_builtin (f := .builtin "isinstance") hi hKi (by decide +kernel) (by decide) F M (PyProof.Rows.callWith_builtin1 ?_ (hst env) rfl) (by decide))
  refine args_cons (he A env μ s _ E R F M fun w s₁ μ₁ x₁ M₁ V₁ => ?_) (hst env)
  refine args_cons (rest := []) (name_builtin hx hKx hv hn (F.ext x₁) M₁ (args_nil ?_) hd) rfl
  exact call_isinstance (isinstance_true hty hsub) ⟨hT w s₁ μ₁ M₁ V₁, hQ _ μ₁ x₁ M₁.toks⟩
theorem EV.isi_tup {e : Expr} {xs : List PyData} (hi : sc.names.lookup ("isinstance" : Str) = some NameKind.globalImplicit) (hx : sc.names.lookup ("tuple" : Str) = some NameKind.globalImplicit)
    (hKi : nsIn g.K mainGlobals ("isinstance" : Str) = some Option.none) (hKx : nsIn g.K mainGlobals ("tuple" : Str) = some Option.none) (he : EV g n sc e ρ σ (.dat (.tuple xs)) σ₁)
    (hst : ∀ env, starEach [e, .Name "tuple" pt] env = (false, eval e env) :: starEach [.Name "tuple" pt] env := by intro _; rfl) :
    EV g n sc (.Call (.Name "isinstance" p) [e, .Name "tuple" pt] [] pos) ρ σ (.dat (.bool true)) σ₁ := fun A env μ s Q E R F M hQ =>
  isi_core (T := "tuple") (Tx := "tuple") hi hx hKi hKx (by decide +kernel) (by with_unfolding_all rfl) isSubtype_tuple_tuple he R F M (fun w s₁ μ₁ M₁ V₁ => by
    obtain ⟨a, vs, m, rfl, _, ht, _⟩ := rd_tuple.mp (vr_dat.mp V₁); exact ⟨_, ht, rfl⟩) (fun s' μ' x M' => hQ _ s' μ' x M' .b) hst (by decide) (by decide)
theorem EV.isi_str {e : Expr} {x : Str} (hi : sc.names.lookup ("isinstance" : Str) = some NameKind.globalImplicit) (hx : sc.names.lookup ("str" : Str) = some NameKind.globalImplicit)
    (hKi : nsIn g.K mainGlobals ("isinstance" : Str) = some Option.none) (hKx : nsIn g.K mainGlobals ("str" : Str) = some Option.none) (he : EV g n sc e ρ σ (.dat (.str x)) σ₁)
    (hst : ∀ env, starEach [e, .Name "str" pt] env = (false, eval e env) :: starEach [.Name "str" pt] env := by intro _; rfl) :
    EV g n sc (.Call (.Name "isinstance" p) [e, .Name "str" pt] [] pos) ρ σ (.dat (.bool true)) σ₁ := fun A env μ s Q E R F M hQ =>
  isi_core (T := "str") (Tx := "str") hi hx hKi hKx (by decide +kernel) (by with_unfolding_all rfl) (by rw [isSubtype_type]; kernel_rfl) he R F M (fun w s₁ μ₁ M₁ V₁ => by
    obtain ⟨t, rfl⟩ := rd_str.mp (vr_dat.mp V₁); exact typeIs_str _ _ _) (fun s' μ' x M' => hQ _ s' μ' x M' .b) hst (by decide) (by decide)

/-- l op₁ m op₂ r -/
theorem TV.chain {l m r : Expr} {o1 o2 : CmpOp} {b : Bool} (h1 : EV g n sc l ρ σ v₁ σ₁) (h2 : EV g n sc m ρ σ₁ v₂ σ₂) (h3 : OP g n (op2 (compareOp o1)) [v₁, v₂] σ₂ (.dat (.bool true)) σ₂)
    (h4 : EV g n sc r ρ σ₂ v₃ σ₃) (h5 : OP g n (op2 (compareOp o2)) [v₂, v₃] σ₃ (.dat (.bool b)) σ₃) (hm : lastMarks [o1, o2] [m, r] = false := by with_unfolding_all rfl) :
    TV g n sc (.Compare l [o1, o2] [m, r] pos) ρ σ b σ₃ := fun A env μ s Q E R F M hQ =>
  isTrue_chain (h1 A env μ s _ E R F M fun w₁ s₁ μ₁ x₁ M₁ V₁ => test_link (h2 A env μ₁ s₁ _ E R (F.ext x₁) M₁ fun w₂ s₂ μ₂ x₂ M₂ V₂ =>
    h3 A μ₂ s₂ [w₁, w₂] _ E R M₂ (.cons (V₁.ext x₂) (.cons V₂ .nil)) fun w s₃ μ₃ x₃ M₃ V₃ => by
      have := rd_bool.mp (vr_dat.mp V₃); subst this
      refine wpAny_truthy_bool ?_
      simp only [if_true]
      exact test_last (h4 A env μ₃ s₃ _ E R (((F.ext x₁).ext x₂).ext x₃) M₃ fun w₃ s₄ μ₄ x₄ M₄ V₄ => h5 A μ₄ s₄ [w₂, w₃] _ E R M₄ (.cons ((V₂.ext x₃).ext x₄) (.cons V₄ .nil)) fun w' s₅ μ₅ x₅ M₅ V₅ => by
        have := rd_bool.mp (vr_dat.mp V₅); subst this
        exact wpAny_truthy_bool (hQ s₅ μ₅ (x₁.trans (x₂.trans (x₃.trans (x₄.trans x₅)))) M₅)))) hm

theorem str_upto {value : Expr} {l u : Option Expr} {x : Str} {b : Int} (hz : x.length ≤ sizeLine) (hs : ∀ o i, ∃ ops, subscripted (.Slice l u Option.none p) false o i = operate ops (getItem o i)) :
    SL g n value (.Slice l u Option.none p) (.dat (.str x)) Option.none (some b) Option.none σ (.dat (.str (Txt.slice x Option.none (some b)))) := fun A μ s w wl wu ws Q E R M V pl pu ps hQ => by
  obtain ⟨t, rfl⟩ := rd_str.mp (vr_dat.mp V)
  cases pl; cases pu; cases ps
  rename_i tk
  have hk : KeptH (fun h => ∀ a o, s.heap.get? a = some o → h.get? a = some o) := fun h ob P a o e => Heap.get?_push_of_some _ (P a o e)
  obtain ⟨T, id, hl, hT, hg⟩ := SBH.sliceItem_ns (prog := g.prog) (w := g.w) (A := A) (E := E) (s := s) (x := x) (t := t) (j := b) (uj := tk) (Q := Q) hk (fun _ _ e => e) (fun h' t' k P => hQ _ _ (Ext.of_keep P) (M.grow P) .s) hz
  obtain ⟨ops, hops⟩ := hs (.str x t) (.ref s.heap.objs.size)
  exact sub_tail hT hl hg hops
theorem lst_upto {value : Expr} {u : Option Expr} {xs : List PyData} {b : Nat} (c1 : cont σ v₁ = some (.list xs)) : SL g n value (.Slice Option.none u Option.none p) v₁ Option.none (some (b : Int)) Option.none σ (.dat (.list (xs.take b))) :=
  lst_slice (μ := []) c1 (by decide) (fun _ => trivial) (fun o i => ⟨_, rfl⟩) fun μ h vs hr => by rw [slicePick_upto']; simpa using rds_take b hr
theorem CA.list_lst {xs : List PyData} : CA g n (.type "list") [.dat (.list xs)] σ (.dat (.list xs)) σ := fun A μ s ws Q E R M V hQ => by
  obtain ⟨w, rfl, h1⟩ := V.one
  obtain ⟨a, us, m1, rfl, na, ha, za, ra⟩ := rd_list.mp (vr_dat.mp h1)
  refine call_list_seq a (.inl rfl) ha rfl rfl (fun h' c' kp hn => ?_) za
  have x1 : Ext μ s.heap μ h' := Ext.of_keep kp
  exact hQ _ _ μ x1 (M.grow (k := s.toks) kp) (rd_list.mpr ⟨_, us, c', rfl, M.fresh, hn, za, ra.ext x1⟩)
theorem CA.list_tup {xs : List PyData} : CA g n (.type "list") [.dat (.tuple xs)] σ (.dat (.list xs)) σ := fun A μ s ws Q E R M V hQ => by
  obtain ⟨w, rfl, h1⟩ := V.one
  obtain ⟨a, us, m1, rfl, na, ha, za, ra⟩ := rd_tuple.mp (vr_dat.mp h1)
  refine call_list_seq a (.inr rfl) ha rfl rfl (fun h' c' kp hn => ?_) za
  have x1 : Ext μ s.heap μ h' := Ext.of_keep kp
  exact hQ _ _ μ x1 (M.grow (k := s.toks) kp) (rd_list.mpr ⟨_, us, c', rfl, M.fresh, hn, za, ra.ext x1⟩)
end
end Mine
end PartF5
noncomputable section PartQ1
open PySem PySem.W PyProof.Rows
set_option linter.all false
set_option maxRecDepth 20000
namespace Mine
set_option maxRecDepth 8000 in
theorem getAttrq_miss {prog : Program} {w : World} {A : Around} {E : Value → Shared → Prop} {s : Shared} {a : Addr} {o : Obj} {xs : Array Value} {k : Nat} {name : Str} {Q : Option Value → Shared → Prop}
    (hx : s.heap.get? a = some o) (hc : o.cls = .type "tuple") (hdat : o.data = .seq xs k) (hd : o.dict = none) (hmiss : typeLookup (.type "tuple") name = pure none) (hname : (["__module__", "__name__", "__qualname__", "__doc__", "__annotations__"] : List Str).contains name = false) (hA : A.handled = none)
    (h : ∀ h' tk e, Heap.NewExcOf s.heap h' e "AttributeError" → Q none { s with heap := h', toks := tk }) (hsz : name.length + 100 ≤ sizeLine) :
    wpAny (model prog w) A (getAttr? (.ref a) name) Q E s := by
  obtain ⟨c, dct, dat, sl⟩ := o
  simp only at hc hdat hd
  subst hc hdat hd
  obtain ⟨hp, g, d, tk, os⟩ := s
  have hT : ∀ tk', (⟨hp, g, d, tk', os⟩ : Shared).TypeIs (.ref a) "tuple" := fun _ => ⟨_, hx, rfl⟩
  have f1 := sub_AttributeError
  have f3 := F.slot_tuple_getattribute.lookup
  have f4 := F.slot_tuple_getattribute.bind (.ref a)
  have f5 := am_tuple_getattr_none
  unfold getAttr? getAttrBy? getAttrBy
  repeat (any_goals (first | assumption | exact hT _ | ((with_reducible show wpAny _ _ (call (Value.builtin "tuple.__getattribute__") _ _) _ _ _); refine call_meets F.slot_tuple_getattribute (hT _) am_entry_tuple_getattribute (F.args_tuple_getattribute_2 _ _) (meets_getattribute_miss_tuple a xs k sl name _ hmiss hname hsz) ⟨hx, hA, fun h' tk' e hx' => ?_⟩) | wp_step))
  obtain ⟨t', u', he⟩ := hx'.there
  show wpAny _ _ (getattributeRaised _ _ _ _ _ _ _) _ _ _
  unfold getattributeRaised
  repeat (any_goals (first | assumption | wp_step))
  exact h _ _ _ hx'.of

theorem entry_upd : entryFor table "dict.update.loop" = some Builtin.«dict.update.loop» := entryFor_of_fast (by kernel_rfl)
theorem plain_upd : plainId "dict.update.loop" = true := by decide +kernel
section
variable {prog : Program} {w : World} {K : Type} [DecidableEq K] {knd : PySem.KeyKind prog w K} {A : Around} {R : Result → Shared → Prop}
/-- an item that is a pair -/
def PairAt (knd : PySem.KeyKind prog w K) (h : Heap) (I d : Addr) (v : Value) (p : K × Value) : Prop :=
  ∃ t key n, v = .ref t ∧ t ≠ I ∧ t ≠ d ∧ IsT h t #[key, p.2] n ∧ knd.is p.1 key = true
theorem upd_loop {I ax d : Addr} {vs : Array Value} (hh : A.handled = none) (hIa : ax ≠ I) (hdI : d ≠ I) (hda : ax ≠ d) (prs : List (K × Value)) (hlen : prs.length = vs.size) (hsz : prs.length ≤ 1000) :
    ∀ (m i : Nat) (s : Shared), i + m = vs.size → s.heap.IsTupleIter I ax i → s.heap.IsTuple ax vs → (∀ (j : Nat) (v : Value) (p : K × Value), vs[j]? = some v → prs[j]? = some p → PairAt knd s.heap I d v p) →
      s.heap.DictOf knd d (merged [] (prs.take i)) →
      (∀ h' tk, h'.DictOf knd d (merged [] prs) → (∀ b o, b ≠ I → b ≠ d → s.heap.get? b = some o → h'.get? b = some o) → R (.ok (.ret .none)) { s with heap := h', toks := tk }) →
      codeAny (model prog w) A (.builtin "dict.update.loop" ⟨[.ref d, .ref I, rawInt i, .none], []⟩) R s := by
  intro m
  induction m with
  | zero =>
    intro i s him hit hax hp hd hR
    refine codeAny_builtin entry_upd ?_
    rw [Around.under_plainId plain_upd]
    unfold Builtin.«dict.update.loop»
    have hi : i = vs.size := by omega
    refine wpAny_bind ((Walks.tuple (prog := prog) (w := w) (A := A.in1) hh I ax hIa vs).done s _ _ ⟨hi ▸ hit, hax⟩ fun h' tk kp => ?_)
    have hd' : h'.DictOf knd d (merged [] prs) := by
      have : prs.take i = prs := by rw [hi, ← hlen]; simp
      rw [this] at hd
      obtain ⟨o, es, ep, ho, r⟩ := hd
      exact ⟨o, es, ep, kp d o (by simpa using hdI) ho, r⟩
    exact wpAny_bind (wpAny_pure (wpAny_pure (hR h' tk hd' fun b o hb _ e => kp b o (by simpa using hb) e)))
  | succ m ih =>
    intro i s him hit hax hp hd hR
    have hi : i < vs.size := by omega
    refine codeAny_builtin entry_upd ?_
    rw [Around.under_plainId plain_upd]
    unfold Builtin.«dict.update.loop»
    refine wpAny_bind ((Walks.tuple (prog := prog) (w := w) (A := A.in1) hh I ax hIa vs).item i s _ _ hi ⟨hit, hax⟩ fun v h' tk hv hst kp => ?_)
    have hip : i < prs.length := by omega
    have ep : prs[i]? = some prs[i] := List.getElem?_eq_getElem hip
    obtain ⟨t, key, n, rfl, htI, htd, ht, hkey⟩ := hp i v prs[i] hv ep
    have ht' : IsT h' t #[key, prs[i].2] n := kp t _ (by simpa using htI) ht
    have hd' : h'.DictOf knd d (merged [] (prs.take i)) := by
      obtain ⟨o, es, ep, ho, r⟩ := hd
      exact ⟨o, es, ep, kp d o (by simpa using hdI) ho, r⟩
    dsimp only
    refine wpAny_bind (wpAny_holding ?_)
    refine wpAny_bind (wpAny_tryCatch ?_)
    unfold Builtin.Dict.pairItems
    refine wpAny_bind (wpAny_typeOf (s := { s with heap := h', toks := tk }) ⟨_, ht', rfl⟩ ?_)
    rw [if_pos (by decide)]
    refine wpAny_bind (wpAny_seqItems ht' rfl (wpAny_pure ?_))
    show wpAny _ _ (holding [key, prs[i].2] (dictSet d key prs[i].2)) _ _ _
    have hml : (merged [] (prs.take i)).length ≤ sizeLine := by
      have h1 : ∀ (l acc : List (K × Value)), (merged acc l).length ≤ acc.length + l.length := by
        intro l
        induction l with
        | nil => intro acc; simp [merged]
        | cons p l ih2 =>
          intro acc
          have h2 := ih2 (stored acc p.1 p.2)
          have h3 := stored_length_le acc p.1 p.2
          have h4 : merged acc (p :: l) = merged (stored acc p.1 p.2) l := rfl
          rw [h4, List.length_cons]; omega
      have := h1 (prs.take i) []
      have h5 : 1000000 ≤ sizeLine := by rw [sizeLine_eq]; decide
      rw [List.length_take] at this; simp at this; omega
    refine wpAny_holding (wpAny_dictSet_pairs (s := { s with heap := h', toks := tk }) hkey hd' (fun h'' hd'' hs'' => ?_) hml)
    refine wpAny_pure ⟨plainId_quiet plain_upd _, ih (i + 1) _ (by omega) ?_ ?_ (fun j v p hv hp' => ?_) ?_ fun h3 tk3 hd3 kp3 => ?_⟩
    · obtain ⟨o, e1, e2⟩ := hst.1; exact ⟨o, (hs''.2 I (Ne.symm hdI)).trans e1, e2⟩
    · obtain ⟨o, e1, e2⟩ := hst.2; exact ⟨o, (hs''.2 ax hda).trans e1, e2⟩
    · obtain ⟨t', key', n', e1, e2, e3, e4, e5⟩ := hp j v p hv hp'
      exact ⟨t', key', n', e1, e2, e3, (hs''.2 t' e3).trans (kp t' _ (by simpa using e2) e4), e5⟩
    · rw [merged_take_succ _ _ _ _ ep]; exact hd''
    · exact hR h3 tk3 hd3 fun b o hb hbd e => kp3 b o hb hbd ((hs''.2 b hbd).trans (kp b o (by simpa using hb) e))
end
end Mine
end PartQ1
noncomputable section PartQ2
open PySem PySem.W PyProof.Rows
set_option linter.all false
set_option maxRecDepth 20000
namespace Mine
theorem miss_keys : typeLookup (.type "tuple") ("keys" : Str) = pure none := by rw [typeLookup_type, builtinLookup_eq_fast]; kernel_rfl
section
variable {prog : Program} {w : World} {K : Type} [DecidableEq K] {knd : PySem.KeyKind prog w K} {A : Around} {E : Value → Shared → Prop} {s : Shared}
theorem dict_of_pairs {o : Addr} {vs : Array Value} {m : Nat} {Q : Value → Shared → Prop} (hh : A.handled = none) (ho : IsT s.heap o vs m) (prs : List (K × Value)) (hlen : prs.length = vs.size) (hsz : prs.length ≤ 1000) (hn : (prs.map (·.1)).Nodup)
    (hp : ∀ (j : Nat) (v : Value) (p : K × Value), vs[j]? = some v → prs[j]? = some p → ∃ t key n, v = .ref t ∧ IsT s.heap t #[key, p.2] n ∧ knd.is p.1 key = true)
    (h : ∀ h' tk, h'.DictOf knd s.heap.objs.size prs → (∀ b o, s.heap.get? b = some o → h'.get? b = some o) → Q (.ref s.heap.objs.size) { s with heap := h', toks := tk }) :
    wpAny (model prog w) A (call (.type "dict") [.ref o]) Q E s := by
  refine callType_codes (Q₁ := fun obj s₁ => obj = .ref s.heap.objs.size ∧ s₁ = { s with heap := s.heap.push { cls := .type "dict", data := .dict #[] } }) F.kt_called_dict (F.kt_typeCall_dict_1 _) F.entry_dict_init (kt_code_dict_new _ ⟨rfl, rfl⟩) ?_
  rintro obj s₁ ⟨rfl, rfl⟩
  have hnew : (s.heap.push { cls := .type "dict", data := .dict #[] }).DictOf knd s.heap.objs.size [] := Heap.DictOf.new s.heap
  have ho1 : IsT (s.heap.push { cls := .type "dict", data := .dict #[] }) o vs m := ho.push _
  have hlt : o < s.heap.objs.size := Heap.lt_size ho
  refine ⟨hnew.typeIs, F.args_dict_init_2 _ _, ?_⟩
  unfold Builtin.«dict.__init__»
  refine wpAny_bind ?_
  unfold Builtin.Dict.selfAndRest
  refine wpAny_bind (wpAny_notOrdered_dict hnew.typeIs ?_)
  show wpAny _ _ (pure (s.heap.objs.size, [Value.ref o])) _ _ _
  refine wpAny_pure ?_
  show wpAny _ _ (Builtin.Dict.updateFrom "dict.__init__" s.heap.objs.size (.ref o) [] .none) _ _ _
  unfold Builtin.Dict.updateFrom
  refine wpAny_bind (wpAny_typeOf (s := { s with heap := s.heap.push { cls := .type "dict", data := .dict #[] } }) (T := "tuple") ⟨_, ho1, rfl⟩ ?_)
  rw [if_pos (by decide)]
  refine wpAny_bind (getAttrq_miss (s := { s with heap := s.heap.push { cls := .type "dict", data := .dict #[] } }) ho1 rfl rfl rfl miss_keys (by decide) hh (fun h1 tk1 e he => ?_) (Nat.le_of_ble_eq_true rfl))
  rw [if_pos (by rfl)]
  refine wpAny_bind (wpAny_rule ?_)
  have ho2 : IsT h1 o vs m := he.keeps _ _ ho1
  refine wpAny_bind (wpAny_pyIter_tuple (s := { s with heap := h1, toks := tk1 }) ⟨_, ho2, rfl, m, rfl⟩ ?_)
  have hd1 : h1.DictOf knd s.heap.objs.size [] := hnew.keep he.keeps
  have hdlt : s.heap.objs.size < h1.objs.size := by
    obtain ⟨o', _, _, e1, _⟩ := hd1; exact Heap.lt_size e1
  have hI : (h1.push { cls := .type "tuple_iterator", data := .fields #[.ref o, .int 0 0] }).IsTupleIter h1.objs.size o 0 := ⟨_, Heap.get?_push_size _ rfl, rfl, rfl⟩
  have ho3 : (h1.push { cls := .type "tuple_iterator", data := .fields #[.ref o, .int 0 0] }).IsTuple o vs := ⟨_, ho2.push _, rfl, m, rfl⟩
  have hss : s.heap.objs.size ≠ h1.objs.size := Nat.ne_of_lt hdlt
  have all1 : ∀ b ob, s.heap.get? b = some ob → (h1.push { cls := .type "tuple_iterator", data := .fields #[.ref o, .int 0 0] }).get? b = some ob := fun b ob eb => Heap.get?_push_of_some _ (he.keeps _ _ (Heap.get?_push_of_some _ eb))
  have hlt1 : ∀ b ob, s.heap.get? b = some ob → b ≠ h1.objs.size ∧ b ≠ s.heap.objs.size := fun b ob eb => ⟨Nat.ne_of_lt (Nat.lt_trans (Heap.lt_size eb) hdlt), Nat.ne_of_lt (Heap.lt_size eb)⟩
  refine wpAny_pure ⟨plainId_quiet plain_upd _, upd_loop (A := A.in1) (knd := knd) (I := h1.objs.size) (ax := o) (d := s.heap.objs.size) (vs := vs) hh (hlt1 _ _ ho).1 hss (hlt1 _ _ ho).2 prs hlen hsz vs.size 0 { s with heap := h1.push { cls := .type "tuple_iterator", data := .fields #[.ref o, .int 0 0] }, toks := tk1 } (Nat.zero_add _) hI ho3 (fun j v p hv hp' => ?_) ?_ fun h' tk hd' kp => ?_⟩
  · obtain ⟨t, key, n, rfl, ht, hk⟩ := hp j v p hv hp'
    exact ⟨t, key, n, rfl, (hlt1 _ _ ht).1, (hlt1 _ _ ht).2, all1 _ _ ht, hk⟩
  · exact hd1.push _
  · rw [merged_nil_of_nodup prs hn] at hd'
    exact ⟨rfl, h h' tk hd' fun b ob eb => kp b ob (hlt1 _ _ eb).1 (hlt1 _ _ eb).2 (all1 _ _ eb)⟩
end
/-- the pairs of a table, as a tuple of pairs -/
def pairsD (prs : List (Str × PyData)) : List PyData := prs.map fun p => .tuple [.str p.1, p.2]
section
variable {g : G} {n : Nat} {σ : List Slot} {μ : List Addr} {h : Heap}
theorem pairs_of : ∀ {prs : List (Str × PyData)} {ws : List Value}, Rds μ h (pairsD prs) ws → ∃ ks : List (Str × Value), SPairs μ h (prs.map fun p => (p.1, V.dat p.2)) ks ∧ ks.length = ws.length ∧ ks.map (·.1) = prs.map (·.1) ∧
    ∀ (j : Nat) (v : Value) (p : Str × Value), ws[j]? = some v → ks[j]? = some p → ∃ t key n, v = .ref t ∧ IsT h t #[key, p.2] n ∧ (sK g).is p.1 key = true
  | [], ws, e => by
    rw [show pairsD [] = [] from rfl, rds_nil] at e; subst e
    exact ⟨[], .nil, rfl, rfl, fun j v p hv => by simp at hv⟩
  | q :: prs, ws, e => by
    obtain ⟨w, r, rfl, h1, h2⟩ := rds_cons.mp e
    obtain ⟨ks, k1, k2, k3, k4⟩ := pairs_of h2
    obtain ⟨a, vs, m, rfl, hn, ht, _, hr⟩ := rd_tuple.mp h1
    obtain ⟨w1, r1, e1, ha, hr⟩ := rds_cons.mp hr
    obtain ⟨w2, r2, rfl, hb, hr⟩ := rds_cons.mp hr
    rw [rds_nil] at hr; subst hr
    obtain ⟨t, rfl⟩ := rd_str.mp ha
    have hvs : vs = #[.str q.1 t, w2] := by apply Array.ext'; simpa using e1
    subst hvs
    refine ⟨(q.1, w2) :: ks, .cons hb k1, by simp [k2], by simp [k3], fun j v p hv hp => ?_⟩
    cases j with
    | zero => simp at hv hp; subst hv; subst hp; exact ⟨a, _, m, rfl, ht, str_key⟩
    | succ j => simp at hv hp; exact k4 j v p hv hp
theorem Mem.addSlot {s : Shared} {a : Addr} {sl : Slot} (M : Mem g μ σ s) (hn : a ∉ μ) (h0 : g.h₀.get? a = none) (hns : ∀ o, s.heap.get? a = some o → ∀ vs n, o.data ≠ .seq vs n) (hsl : SlotAt g (μ ++ [a]) s.heap a sl) : Mem g (μ ++ [a]) (σ ++ [sl]) s := by
  have L : Liv μ s.heap (μ ++ [a]) s.heap := ⟨⟨fun b o vs n hb e hd => ⟨fun hm => by
    rcases List.mem_append.mp hm with q | q
    · exact hb q
    · simp at q; subst q; exact hns o e vs n hd, e⟩⟩, fun i b e => by rw [List.getElem?_append_left (List.getElem?_eq_some_iff.mp e).1]; exact e⟩
  refine ⟨M.base, M.gens, M.os, by simp [M.len], ?_, fun b hb => ?_, fun i b sl' e1 e2 => ?_⟩
  · rw [List.nodup_append]; refine ⟨M.nd, by simp, fun b hb c hc => ?_⟩
    simp at hc; subst hc; rintro rfl; exact hn hb
  · rcases List.mem_append.mp hb with q | q
    · exact M.lo b q
    · simp at q; subst q; exact h0
  · by_cases hi : i < μ.length
    · rw [List.getElem?_append_left hi] at e1
      rw [List.getElem?_append_left (by rw [← M.len]; exact hi)] at e2
      exact (M.slots i b sl' e1 e2).liv L fun o e => e
    · rw [List.getElem?_append_right (by omega)] at e1
      rw [List.getElem?_append_right (by rw [← M.len]; omega), ← M.len] at e2
      have h0 : i - μ.length = 0 := by
        have := (List.getElem?_eq_some_iff.mp e1).1; simp at this; omega
      rw [h0] at e1 e2
      simp at e1 e2; subst e1; subst e2; exact hsl
theorem CA.dict_tup {prs : List (Str × PyData)} (hz : prs.length ≤ 1000) (hn : (prs.map (·.1)).Nodup) : CA g n (.type "dict") [.dat (.tuple (pairsD prs))] σ (.ref σ.length) (σ ++ [.sdict (prs.map fun p => (p.1, V.dat p.2))]) := fun A μ s ws Q E R M V hQ => by
  obtain ⟨w, rfl, h1⟩ := V.one
  obtain ⟨a, us, m1, rfl, na, ha, za, ra⟩ := rd_tuple.mp (vr_dat.mp h1)
  obtain ⟨ks, k1, k2, k3, k4⟩ := pairs_of (g := g) ra
  have hl1 : ks.length = prs.length := by have := k1.len; simpa using this.symm
  refine dict_of_pairs (knd := sK g) R.hnd ha ks (by rw [k2, Array.length_toList]) (by omega) (by rw [k3]; exact hn) (fun j v p hv hp => k4 j v p (by rw [Array.getElem?_toList]; exact hv) hp) fun h' tk hd kp => ?_
  have X0 : Ext μ s.heap μ h' := Ext.of_keep kp
  have M0 : Mem g μ σ { s with heap := h', toks := tk } := M.grow kp
  have hnm : s.heap.objs.size ∉ μ := M.fresh
  have x : Ext μ s.heap (μ ++ [s.heap.objs.size]) h' := ⟨⟨[_], rfl, fun b hb => by simp at hb; subst hb; exact ⟨hnm, size_none⟩⟩, fun b o _ e => kp b o e⟩
  refine hQ _ _ (μ ++ [s.heap.objs.size]) x ?_ ⟨_, rfl, by rw [← M.len]; simp⟩
  refine M0.addSlot hnm (M.lo_of size_none) (fun o e vs n hd' => ?_) ⟨M.notModules, ks, hd, k1.ext x⟩
  obtain ⟨o', es, ep, e', hc', hdd, _⟩ := hd
  rw [e] at e'; cases e'; rw [hd'] at hdd; cases hdd
end
end Mine
end PartQ2
noncomputable section PartQ3
open PySem PySem.W PyProof.Rows
set_option linter.all false
set_option maxRecDepth 20000
namespace Mine
theorem standIn_led (t : SetTable) (n : Nat) : (t.standIn n).led = t.led := rfl
theorem orStandIn_led (t : SetTable) (n : Nat) : (t.orStandIn n).led = t.led := by unfold SetTable.orStandIn; split <;> rfl
theorem layNew_led (t : SetTable) (es : Array (Int × Value)) (h : Int) (x : Value) : (layNew t es h x).2.1.led = t.led := by
  unfold layNew
  split
  · rename_i slot d e
    show ((t.put slot).1.orStandIn _).led = _
    rw [orStandIn_led]; rfl
  · rfl
theorem relayAll_led (t : SetTable) (es : Array (Int × Value)) (n : Nat) : (relayAll t es n).2.1.led = t.led := by
  unfold relayAll
  split
  · rename_i t' order e
    have hl : t'.led = t.led := by
      unfold SetTable.relaid SetTable.laid at e
      obtain ⟨owner, h1, h2⟩ := Option.bind_eq_some_iff.mp e
      cases h2; rfl
    dsimp only
    split
    · exact hl
    · rfl
  · rfl
theorem standIn_plain (t : SetTable) (n : Nat) : (t.standIn n).plain = false := rfl
theorem orStandIn_plain {t : SetTable} (h : t.plain = false) (n : Nat) : (t.orStandIn n).plain = false := by unfold SetTable.orStandIn; split; exact h; rfl
theorem layNew_plain {t : SetTable} (ht : t.plain = false) (es : Array (Int × Value)) (h : Int) (x : Value) : (layNew t es h x).2.1.plain = false := by
  unfold layNew
  split
  · rename_i slot d e
    show ((t.put slot).1.orStandIn _).plain = _
    exact orStandIn_plain (by exact ht) _
  · rfl
theorem relayAll_plain {t : SetTable} (ht : t.plain = false) (es : Array (Int × Value)) (n : Nat) : (relayAll t es n).2.1.plain = false := by
  unfold relayAll
  split
  · rename_i t' order e
    have hl : t'.plain = t.plain := by
      unfold SetTable.relaid SetTable.laid at e
      obtain ⟨owner, h1, h2⟩ := Option.bind_eq_some_iff.mp e
      cases h2; rfl
    dsimp only
    split
    · exact hl.trans ht
    · rfl
  · rfl
section
variable {prog : Program} {w : World} {K : Type} [DecidableEq K] {knd : PySem.KeyKind prog w K} {A : Around} {E : Value → Shared → Prop} {s : Shared}
/-- a set whose elements are l, in whatever order -/
def SetL (knd : PySem.KeyKind prog w K) (h : Heap) (a : Addr) (l : List (Int × Value)) (led : Bool) : Prop :=
  ∃ o es ep t, h.get? a = some o ∧ o.ExactSet ∧ o.data = .set es ep t ∧ ElemsOf knd es.toList ∧ es.toList.Perm l ∧ es.size < scanBound ∧ t.fits es.size = true ∧ t.led = led ∧ (l ≠ [] → t.plain = false)
theorem SetL_store {h : Heap} {a : Addr} {o : Obj} {es : Array (Int × Value)} {ep : Nat} {t : SetTable} (ho : h.get? a = some o) (hex : o.ExactSet) (hd : o.data = .set es ep t)
    {es' : Array (Int × Value)} {t' : SetTable} {l : List (Int × Value)} {led : Bool} (hel : ElemsOf knd es'.toList) (hp : es'.toList.Perm l) (hb : es'.size < scanBound) (hf : t'.fits es'.size = true) (hl : t'.led = led) (hpl : t'.plain = false) :
    (h.update a (Obj.putSet es' t')).get? a = some { o with data := .set es' (ep + 1) t' } ∧ SetL knd (h.update a (Obj.putSet es' t')) a l led := by
  have hg : (h.update a (Obj.putSet es' t')).get? a = some { o with data := .set es' (ep + 1) t' } := by
    have := Heap.get?_update_self (Obj.putSet es' t') ho (by rw [putSet_of es' t' hd]; rfl)
    rw [putSet_of es' t' hd] at this; exact this
  exact ⟨hg, _, es', ep + 1, t', hg, hex, rfl, hel, hp, hb, hf, hl, fun _ => hpl⟩
theorem addTail_L {g : Bool → Sem Unit} (hg : ∀ (b : Bool) (s₁ : Shared) (Q' : Unit → Shared → Prop), Q' () s₁ → wpAny (model prog w) A (g b) Q' E s₁)
    {a : Addr} {o : Obj} {es : Array (Int × Value)} {ep : Nat} {t : SetTable} (ho : s.heap.get? a = some o) (hex : o.ExactSet) (hd : o.data = .set es ep t)
    {es1 : Array (Int × Value)} {t2 : SetTable} {l : List (Int × Value)} {led : Bool} (hel1 : ElemsOf knd es1.toList) (hp1 : es1.toList.Perm l)
    (hb1 : es1.size < scanBound) (hf2 : t2.fits es1.size = true) (hl : t2.led = led) (hpl : t2.plain = false) {wasDummy : Bool} {R : Option Bool → Shared → Prop}
    (h : ∀ h', Heap.SameBut a s.heap h' → SetL knd h' a l led → R (some true) { s with heap := h' }) :
    wpAny (model prog w) A (do
        storeSet a es1 t2
        if (!wasDummy && t2.tooFull) = true then do
            g (relayAll t2 es1 (SetTable.grown es1.size)).2.2
            storeSet a (relayAll t2 es1 (SetTable.grown es1.size)).1 (relayAll t2 es1 (SetTable.grown es1.size)).2.1
            pure (some true)
          else pure (some true)) R E s := by
  refine wpAny_bind (wpAny_storeSet_of ho hd ?_ (fits_of_scanBound hb1))
  obtain ⟨ho1, hS1⟩ := SetL_store (knd := knd) ho hex hd hel1 hp1 hb1 hf2 hl hpl
  have hsb1 := Heap.SameBut.update s.heap a (Obj.putSet es1 t2)
  split
  · have hp := relayAll_perm t2 es1 (SetTable.grown es1.size)
    have hfr := relayAll_fits t2 es1 (SetTable.grown es1.size)
    have hlr := relayAll_led t2 es1 (SetTable.grown es1.size)
    have hpr := relayAll_plain hpl es1 (SetTable.grown es1.size)
    generalize hRl : relayAll t2 es1 (SetTable.grown es1.size) = Rl at hp hfr hlr hpr ⊢
    obtain ⟨es2, t3, gave2⟩ := Rl
    dsimp only at hp hfr hlr hpr ⊢
    have hsz : es2.size = es1.size := by rw [← Array.length_toList, hp.length_eq, Array.length_toList]
    have hb2 : es2.size < scanBound := by rw [hsz]; exact hb1
    refine wpAny_bind (hg _ _ _ ?_)
    refine wpAny_bind (wpAny_storeSet_of ho1 rfl ?_ (fits_of_scanBound hb2))
    obtain ⟨_, hS2⟩ := SetL_store (knd := knd) ho1 hex rfl (hel1.perm hp) (hp.trans hp1) hb2 hfr (hlr.trans hl) hpr
    exact wpAny_pure (h _ (hsb1.trans (Heap.SameBut.update _ a _)) hS2)
  · exact wpAny_pure (h _ hsb1 hS1)
theorem add_L {a : Addr} {l : List (Int × Value)} {led : Bool} {k : K} {x : Value} {Q : Bool → Shared → Prop} (hkey : knd.is k x = true) (hsc : x.scannable = true) (hpk : plainKind x = false) (hS : SetL knd s.heap a l led)
    (hroom : l.length + 1 < scanBound)
    (h : ∀ b h', Heap.SameBut a s.heap h' → SetL knd h' a (if l.any (fun e => knd.is k e.2) then l else l ++ [(knd.hash k, x)]) led → Q b { s with heap := h' }) :
    wpAny (model prog w) A (setAddHashed a x (knd.hash k)) Q E s := by
  obtain ⟨o, es, ep, t, ho, hex, hd, hel, hperm0, hb, hf, hled, hplain⟩ := hS
  have hn : es.size = l.length := by rw [← Array.length_toList, hperm0.length_eq]
  unfold setAddHashed setAddHashedIn
  refine wpAny_holding (wpAny_bind (wpAny_setState_of ho hd hf ?_))
  dsimp only
  rw [byScan_of hsc hb hel]
  simp only [↓reduceIte]
  unfold setAddByScan
  refine wpAny_bind ?_
  refine wpAny_bind (wpAny_rule ?_)
  refine wpAny_bind (wpAny_setScan_of hkey ho hd hf hel ?_)
  cases hr : List.findIdx? (fun e => knd.is k e.2) es.toList with
  | some j =>
    dsimp only
    obtain ⟨hj, hpj, _⟩ := List.findIdx?_eq_some_iff_getElem.mp hr
    have hany : l.any (fun e => knd.is k e.2) = true := List.any_eq_true.mpr ⟨es.toList[j], hperm0.mem_iff.mp (List.getElem_mem hj), hpj⟩
    rw [if_pos hany] at h
    refine wpAny_pure (wpAny_pure ?_)
    have e : s = { s with heap := s.heap } := by cases s; rfl
    rw [e]
    exact h false s.heap (Heap.SameBut.refl a s.heap) ⟨o, es, ep, t, ho, hex, hd, hel, hperm0, hb, hf, hled, hplain⟩
  | none =>
    dsimp only
    have hany : ¬ (l.any (fun e => knd.is k e.2) = true) := by
      intro ha
      obtain ⟨e, he, hp⟩ := List.any_eq_true.mp ha
      have := List.findIdx?_eq_none_iff.mp hr e (hperm0.mem_iff.mpr he); rw [hp] at this; exact Bool.noConfusion this
    rw [if_neg hany] at h
    have hgw : ∀ (b : Bool) {s₁ : Shared} {Q' : Unit → Shared → Prop}, Q' () s₁ → wpAny (model prog w) A (match b with | true => rule "set.scan.the-table-gave-way" | false => pure ()) Q' E s₁ :=
      fun b s₁ Q' hq => by cases b <;> first | exact wpAny_pure hq | exact wpAny_rule hq
    have hperm := layNew_perm t es (knd.hash k) x
    have hfits := layNew_fits t es (knd.hash k) x
    have hl1 := layNew_led t es (knd.hash k) x
    have hpl1 : t.plain = false → (layNew t es (knd.hash k) x).2.1.plain = false := fun h => layNew_plain h es (knd.hash k) x
    generalize hL : layNew t es (knd.hash k) x = L at hperm hfits hl1 hpl1 ⊢
    obtain ⟨es1, t1, wasDummy, gave⟩ := L
    dsimp only at hperm hfits hl1 hpl1 ⊢
    rw [Array.toList_push] at hperm
    have hel1 : ElemsOf knd es1.toList := (hel.push hkey hsc).perm hperm
    have hp1 : es1.toList.Perm (l ++ [(knd.hash k, x)]) := hperm.trans (hperm0.append_right _)
    have hb1' : es1.size < scanBound := by rw [← Array.length_toList, hp1.length_eq, List.length_append]; simpa using hroom
    refine wpAny_bind (hgw _ ?_)
    split
    · refine wpAny_bind ?_
      rw [hashByValue_scannable 8 hsc, hpk]
      refine wpAny_pure ?_
      refine addTail_L (knd := knd) (led := led) ?_ ho hex hd hel1 hp1 hb1' ?_ ?_ ?_ ?_
      · intro b s₁ Q' hq; cases b <;> first | exact wpAny_pure hq | exact wpAny_rule hq
      · split
        · exact hfits
        · exact SetTable.fits_plain_off hfits
      · split
        · exact hl1.trans hled
        · exact hl1.trans hled
      · rfl
      · intro h' hsb hS'; dsimp only; exact wpAny_pure (h true h' hsb hS')
    · rename_i hnp
      refine wpAny_bind (wpAny_pure ?_)
      simp only [↓reduceIte]
      refine addTail_L (knd := knd) (led := led) ?_ ho hex hd hel1 hp1 hb1' hfits (hl1.trans hled) (by simpa using hnp) ?_
      · intro b s₁ Q' hq; cases b <;> first | exact wpAny_pure hq | exact wpAny_rule hq
      · intro h' hsb hS'; dsimp only; exact wpAny_pure (h true h' hsb hS')
end
end Mine
end PartQ3
noncomputable section PartQ4
open PySem PySem.W PyProof.Rows
set_option linter.all false
set_option maxRecDepth 20000
namespace Mine
section
variable {prog : Program} {w : World} {K : Type} [DecidableEq K] {knd : PySem.KeyKind prog w K} {A : Around} {E : Value → Shared → Prop} {s : Shared} {R : Result → Shared → Prop}
def addL (knd : PySem.KeyKind prog w K) (l : List (Int × Value)) (xs : List (K × Value)) : List (Int × Value) :=
  xs.foldl (fun l p => if l.any (fun e => knd.is p.1 e.2) then l else l ++ [(knd.hash p.1, p.2)]) l
theorem addL_len (l : List (Int × Value)) (xs : List (K × Value)) : (addL knd l xs).length ≤ l.length + xs.length := by
  induction xs generalizing l with
  | nil => simp [addL]
  | cons p xs ih =>
    have h1 := ih (if l.any (fun e => knd.is p.1 e.2) then l else l ++ [(knd.hash p.1, p.2)])
    have h2 : (if l.any (fun e => knd.is p.1 e.2) then l else l ++ [(knd.hash p.1, p.2)]).length ≤ l.length + 1 := by split <;> simp
    show (addL knd (if l.any (fun e => knd.is p.1 e.2) then l else l ++ [(knd.hash p.1, p.2)]) xs).length ≤ _
    rw [List.length_cons]; omega
theorem entry_supd : entryFor table "set.update.loop" = some Builtin.«set.update.loop» := entryFor_of_fast (by kernel_rfl)
theorem set_upd_loop {I ax S : Addr} {vs : Array Value} {led : Bool} (hh : A.handled = none) (hIa : ax ≠ I) (hSI : S ≠ I) (hSa : ax ≠ S) (prs : List (K × Value)) (hlen : prs.length = vs.size) (hsz : prs.length ≤ 1000)
    (hp : ∀ (j : Nat) (v : Value) (p : K × Value), vs[j]? = some v → prs[j]? = some p → v = p.2 ∧ knd.is p.1 p.2 = true ∧ p.2.scannable = true ∧ plainKind p.2 = false) :
    ∀ (m i : Nat) (s : Shared), i + m = vs.size → s.heap.IsListIter I ax i → s.heap.IsList ax vs → SetL knd s.heap S (addL knd [] (prs.take i)) led →
      (∀ h' tk, SetL knd h' S (addL knd [] prs) led → (∀ b o, b ≠ I → b ≠ S → s.heap.get? b = some o → h'.get? b = some o) → R (.ok (.ret .none)) { s with heap := h', toks := tk }) →
      codeAny (model prog w) A (.builtin "set.update.loop" ⟨[.ref S, .ref I], []⟩) R s := by
  intro m
  induction m with
  | zero =>
    intro i s him hit hax hd hR
    refine codeAny_builtin entry_supd ?_
    rw [Around.under_plainId F.plain_set_update_loop]
    unfold Builtin.«set.update.loop»
    have hi : i = vs.size := by omega
    refine wpAny_bind ((Walks.list (prog := prog) (w := w) (A := A.in1) hh I ax hIa vs).done s _ _ ⟨hi ▸ hit, hax⟩ fun h' tk kp => ?_)
    have hd' : SetL knd h' S (addL knd [] prs) led := by
      have : prs.take i = prs := by rw [hi, ← hlen]; simp
      rw [this] at hd
      obtain ⟨o, es, ep, t, ho, r⟩ := hd
      exact ⟨o, es, ep, t, kp S o (by simpa using hSI) ho, r⟩
    exact wpAny_pure (hR h' tk hd' fun b o hb _ e => kp b o (by simpa using hb) e)
  | succ m ih =>
    intro i s him hit hax hd hR
    have hi : i < vs.size := by omega
    refine codeAny_builtin entry_supd ?_
    rw [Around.under_plainId F.plain_set_update_loop]
    unfold Builtin.«set.update.loop»
    refine wpAny_bind ((Walks.list (prog := prog) (w := w) (A := A.in1) hh I ax hIa vs).item i s _ _ hi ⟨hit, hax⟩ fun v h' tk hv hst kp => ?_)
    have hip : i < prs.length := by omega
    have ep : prs[i]? = some prs[i] := List.getElem?_eq_getElem hip
    obtain ⟨rfl, hkey, hsc, hpk⟩ := hp i v prs[i] hv ep
    have hd' : SetL knd h' S (addL knd [] (prs.take i)) led := by
      obtain ⟨o, es, ep, t, ho, r⟩ := hd
      exact ⟨o, es, ep, t, kp S o (by simpa using hSI) ho, r⟩
    show wpAny _ A.in1 (holding [prs[i].2] (setAdd S prs[i].2) >>= _) _ _ _
    refine wpAny_bind (wpAny_holding ?_)
    unfold setAdd
    refine wpAny_holding ?_
    refine wpAny_bind (knd.pyHash (k := prs[i].1) hkey ?_)
    have hroom : (addL knd [] (prs.take i)).length + 1 < scanBound := by
      have := addL_len (knd := knd) [] (prs.take i)
      have h2 : scanBound = 4096 := rfl
      rw [List.length_take] at this; simp at this; omega
    refine add_L (knd := knd) (led := led) hkey hsc hpk hd' hroom fun b h'' hsb hS2 => ?_
    refine wpAny_pure ⟨plainId_quiet F.plain_set_update_loop _, ih (i + 1) _ (by omega) ?_ ?_ ?_ fun h3 tk3 hd3 kp3 => ?_⟩
    · obtain ⟨o, e1, e2⟩ := hst.1; exact ⟨o, (hsb.2 I (Ne.symm hSI)).trans e1, e2⟩
    · obtain ⟨o, e1, e2⟩ := hst.2; exact ⟨o, (hsb.2 ax hSa).trans e1, e2⟩
    · have e : addL knd [] (prs.take (i + 1)) = if (addL knd [] (prs.take i)).any (fun e => knd.is prs[i].1 e.2) then addL knd [] (prs.take i) else addL knd [] (prs.take i) ++ [(knd.hash prs[i].1, prs[i].2)] := by
        rw [List.take_succ_eq_append_getElem hip]; unfold addL; rw [List.foldl_append]; rfl
      rw [e]; exact hS2
    · exact hR h3 tk3 hd3 fun b o hb hbd e => kp3 b o hb hbd ((hsb.2 b hbd).trans (kp b o (by simpa using hb) e))

theorem code_set_new_led (a : Value) {Q₁ : Value → Shared → Prop}
    (h : Q₁ (.ref s.heap.objs.size) { s with heap := s.heap.push { cls := .type "set", dict := none, data := .set #[] 0 (.fresh 0 0 (!w.params.followText "set-order")) } }) :
    codeAny (model prog w) A (.call (.builtin "set.__new__") ⟨[.type "set", a], []⟩) (wants Q₁ E) s := by
  refine codeAny_of_tree ?_
  show wpAny _ A.in1 (do checkBuiltinCall "set.__new__" ⟨[.type "set", a], []⟩; again (.builtin "set.__new__" ⟨[.type "set", a], []⟩)) _ _ s
  refine wpAny_bind (wpAny_of_eq (F.newCall_set_1 a) (wpAny_pure ⟨plainId_quiet F.plain_set_new _, codeAny_builtin F.entry_set_new ?_⟩))
  rw [Around.under_plainId F.plain_set_new _]
  unfold Builtin.«set.__new__» Builtin.Frozenset.newClass
  have hsub := sub_set_self
  obtain ⟨hp, g, d, tk, os⟩ := s
  dsimp only
  wp_walk
  refine wpAny_askSetting (wpAny_pure ?_)
  dsimp only
  simp only [newObj]
  refine wpAny_bind (wpAny_alloc (wpAny_pure ?_))
  exact wpAny_pure h

set_option maxRecDepth 100000 in
set_option maxHeartbeats 3200000 in
theorem set_of_list {l : Addr} {items : Array Value} {Q : Value → Shared → Prop} (hh : A.handled = none) (hl : s.heap.IsList l items) (prs : List (K × Value)) (hlen : prs.length = items.size) (hsz : prs.length ≤ 1000)
    (hp : ∀ (j : Nat) (v : Value) (p : K × Value), items[j]? = some v → prs[j]? = some p → v = p.2 ∧ knd.is p.1 p.2 = true ∧ p.2.scannable = true ∧ plainKind p.2 = false)
    (h : ∀ h' tk, SetL knd h' s.heap.objs.size (addL knd [] prs) (!w.params.followText "set-order") → (∀ b o, s.heap.get? b = some o → h'.get? b = some o) → Q (.ref s.heap.objs.size) { s with heap := h', toks := tk }) :
    wpAny (model prog w) A (call (.type "set") [.ref l]) Q E s := by
  obtain ⟨c, tl, hmro⟩ := F.called_set.mro
  have hmade := F.called_set.made
  have hsub := F.called_set.sub
  refine wpAny_call (codeAny_of_tree ?_)
  show wpAny _ _ (callAny (.type "set") _) _ _ _
  refine wpAny_pure ⟨Code.quiet_builtin _ (by decide +kernel), codeAny_builtin F.entry_type_call ?_⟩
  rw [Around.under_plain (weight_type_call_type "set" [.ref l] []) rfl]
  have h1 := F.called_set.notType
  have h2 := F.called_set.canCreate
  have hct := F.typeCall_set_1 (.ref l)
  repeat (any_goals (first | assumption | wp_step))
  generalize hled : (!w.params.followText "set-order") = led at h
  refine codeAny_mono (code_set_new_led (.ref l) (E := E) (Q₁ := fun obj s₁ => obj = .ref s.heap.objs.size ∧ s₁ = { s with heap := s.heap.push { cls := .type "set", dict := none, data := .set #[] 0 (.fresh 0 0 led) } }) ⟨rfl, by rw [hled]⟩) fun r s₁ hr => ?_
  cases r with
  | error e => exact hr
  | ok fl =>
    cases fl with
    | ret obj =>
      obtain ⟨rfl, rfl⟩ := hr
      have hS : (s.heap.push { cls := .type "set", dict := none, data := .set #[] 0 (.fresh 0 0 led) }).get? s.heap.objs.size = some { cls := .type "set", dict := none, data := .set #[] 0 (.fresh 0 0 led) } := Heap.get?_push_size _ rfl
      have hT : Shared.TypeIs { s with heap := s.heap.push { cls := .type "set", dict := none, data := .set #[] 0 (.fresh 0 0 led) } } (.ref s.heap.objs.size) "set" := ⟨_, hS, rfl⟩
      have hli := F.called_set.init.lookup
      have hbi := F.called_set.init.bind (.ref s.heap.objs.size)
      repeat (any_goals (first | assumption | wp_step))
      refine codeAny_mono (codeAny_call_builtin (R := wants (fun r s₂ => r = .none ∧ ∃ h' tk, s₂ = { s with heap := h', toks := tk } ∧
          SetL knd h' s.heap.objs.size (addL knd [] prs) led ∧ (∀ b o, s.heap.get? b = some o → h'.get? b = some o)) E) F.called_set.init.plain F.entry_set_init (check_set_init_1 hT ?_)) fun r₂ s₂ hr₂ => ?_
      · obtain ⟨ol, hol, hcl, nl, hdl⟩ := hl
        obtain ⟨ocls, odict, odata, oslots⟩ := ol
        simp only at hcl hdl
        subst hcl; subst hdl
        have hol' : (s.heap.push { cls := .type "set", dict := none, data := .set #[] 0 (.fresh 0 0 led) }).get? l = some { cls := .type "list", dict := odict, data := .seq items nl, slots := oslots } := Heap.get?_push_of_some _ hol
        have hsls := F.sub_list_set
        have hslf := F.sub_list_frozenset
        have hne : (Value.type "list" == Value.type "dict") = false := by decide
        have hl1 : (s.heap.push { cls := .type "set", dict := none, data := .set #[] 0 (.fresh 0 0 led) }).IsList l items := ⟨_, hol', rfl, nl, rfl⟩
        unfold Builtin.«set.__init__» noKeywords Builtin.Frozenset.updateFrom
        generalize hPI : pyIter = PI
        wp_walk
        subst hPI
        refine wpAny_pyIter_list hl1 ?_
        refine wpAny_bind (wpAny_runValue ?_)
        have hlS : l < s.heap.objs.size := Heap.lt_size hol
        have hI : (s.heap.push { cls := .type "set", dict := none, data := .set #[] 0 (.fresh 0 0 led) }).objs.size = s.heap.objs.size + 1 := Heap.size_push ..
        refine set_upd_loop (A := A.in1.in1) (knd := knd) (ax := l) (vs := items) (led := led) hh ?_ ?_ (Nat.ne_of_lt hlS) prs hlen hsz hp items.size 0 _ (Nat.zero_add _) ⟨_, Heap.get?_push_size _ rfl, rfl, rfl⟩ (hl1.push _) ?_ fun h' tk hL kp => ?_
        · rw [hI]; exact Nat.ne_of_lt (Nat.lt_succ_of_lt hlS)
        · rw [hI]; exact Nat.ne_of_lt (Nat.lt_succ_self _)
        · exact ⟨_, #[], 0, _, Heap.get?_push_of_some _ hS, ⟨rfl, rfl, rfl⟩, rfl, (fun e he => nomatch he), List.Perm.nil, (by decide), rfl, rfl, fun q => absurd rfl q⟩
        · refine wpAny_pure (wpAny_pure ⟨rfl, h', tk, rfl, hL, fun b o e => ?_⟩)
          have hb := Heap.lt_size e
          exact kp b o (by rw [hI]; exact Nat.ne_of_lt (Nat.lt_succ_of_lt hb)) (Nat.ne_of_lt hb) (Heap.get?_push_of_some _ (Heap.get?_push_of_some _ e))
      · cases r₂ with
        | error e => exact hr₂
        | ok fl₂ =>
          cases fl₂ with
          | ret r =>
            obtain ⟨rfl, h', tk, rfl, hS', hk'⟩ := hr₂
            repeat (any_goals (first | assumption | wp_step))
            exact h _ _ hS' hk'
          | _ => exact hr₂.elim
    | _ => exact hr.elim
end
end Mine
end PartQ4
noncomputable section PartQ5
open PySem PySem.W PyProof.Rows
set_option linter.all false
set_option maxRecDepth 20000
namespace Mine
theorem cons_erase {α : Type} : ∀ (l : List α) (i : Nat) (h : i < l.length), (l[i] :: l.eraseIdx i).Perm l
  | x :: l, 0, h => by simp
  | x :: l, i + 1, h => by
    have h' : i < l.length := by simpa using h
    have ih := cons_erase l i h'
    simp only [List.getElem_cons_succ, List.eraseIdx_cons_succ]
    exact (List.Perm.swap _ _ _).trans (ih.cons x)
theorem pick_go {α : Type} (next : Nat → Nat) : ∀ (fuel k : Nat) (left : List α) (out : Array α), fuel = left.length → ((pickOrder.go next fuel k left out).toList).Perm (out.toList ++ left) := by
  intro fuel
  induction fuel with
  | zero =>
    intro k left out h
    cases left with
    | nil => simp [pickOrder.go]
    | cons x l => simp at h
  | succ n ih =>
    intro k left out h
    have hlt : next k % left.length < left.length := Nat.mod_lt _ (by omega)
    unfold pickOrder.go
    rw [List.getElem?_eq_getElem hlt]
    dsimp only
    refine (ih (k + 1) _ _ (by rw [List.length_eraseIdx_of_lt hlt]; omega)).trans ?_
    rw [Array.toList_push, List.append_assoc]
    refine List.Perm.append_left _ ?_
    exact cons_erase _ _ hlt
theorem pick_perm {α : Type} (next : Nat → Nat) (xs : Array α) : (pickOrder next xs).toList.Perm xs.toList := by
  have := pick_go next xs.size 0 xs.toList #[] (by simp)
  simpa [pickOrder] using this
section
variable {prog : Program} {w : World} {A : Around} {E : Value → Shared → Prop} {s : Shared}
theorem wpAny_choose' {src : Source} {n : Nat} {Q : Nat → Shared → Prop} (hn : n ≠ 0) (h : ∀ i, i < n → Q i { s with drawn := s.drawn.bump src }) : wpAny (model prog w) A (choose src n) Q E s :=
  fun Γ p hΓ => ⟨hn, h _ (Nat.mod_lt _ (Nat.pos_of_ne_zero hn))⟩
theorem drawOrder_ {α : Type} : ∀ (n : Nat) (xs : List α) (s : Shared) (Q : List α → Shared → Prop), n = xs.length → (∀ ys d, ys.Perm xs → Q ys { s with drawn := d }) → wpAny (model prog w) A (drawOrder n xs) Q E s := by
  intro n
  induction n with
  | zero =>
    intro xs s Q h hQ
    cases xs with
    | nil => exact wpAny_pure (hQ [] s.drawn .nil)
    | cons x l => simp at h
  | succ n ih =>
    intro xs s Q h hQ
    cases xs with
    | nil => simp at h
    | cons x xs =>
      unfold drawOrder
      refine wpAny_bind (wpAny_choose' (by simp) fun i hi => ?_)
      rw [List.getElem?_eq_getElem hi]
      dsimp only
      refine wpAny_bind (ih _ _ _ (by rw [List.length_eraseIdx_of_lt hi]; simp at h ⊢; omega) fun ys d hy => wpAny_pure ?_)
      refine hQ _ d ?_
      exact (hy.cons _).trans (cons_erase _ _ hi)
end
end Mine
namespace Mine
theorem sl' : 1000000 ≤ sizeLine := by rw [sizeLine_eq]; decide
theorem entry_set_iter : entryFor table "set.__iter__" = some Builtin.«frozenset.__iter__» := entryFor_alias (id' := "frozenset.__iter__") (by kernel_rfl) (by decide +kernel) (by decide +kernel) (by kernel_rfl)
theorem slot_set_next : PySem.Slot "set_iterator" "__next__" "set_iterator.__next__" :=
  .of (owner := "set_iterator") (n := "__next__") (by rw [typeLookup_type, builtinLookup_eq_fast]; kernel_rfl) (by decide +kernel) (by decide +kernel) (by decide +kernel)
    (by first | exact .inl (by decide +kernel) | exact .inr (by decide +kernel)) (by rw [isSubtype_type]; kernel_rfl)
theorem entry_set_next : entryFor table "set_iterator.__next__" = some Builtin.«set_iterator.__next__» := entryFor_of_tree (by kernel_rfl)
theorem args_set_next (a : Value) : argsOk "set_iterator.__next__" ⟨[a], []⟩ := by unfold argsOk; kernel_rfl
abbrev itObj (first : Value) (i : Nat) (last : Value) (n ep : Nat) : Obj := { cls := .type "set_iterator", data := .fields #[first, rawInt i, last, rawInt n, rawInt ep] }
structure SetAt (h : Heap) (S : Addr) (es : Array (Int × Value)) (ep : Nat) (t : SetTable) : Prop where
  at_ : ∃ o, h.get? S = some o ∧ o.cls = .type "set" ∧ o.data = .set es ep t
  fits : t.fits es.size = true
section
variable {prog : Program} {w : World} {A : Around} {E : Value → Shared → Prop} {s : Shared} {S I : Addr} {es : Array (Int × Value)} {ep : Nat} {t : SetTable}
theorem SetAt.type (X : SetAt s.heap S es ep t) : s.TypeIs (.ref S) "set" := let ⟨o, h1, h2, _⟩ := X.at_; ⟨o, h1, h2⟩
theorem iter_set {Q : Value → Shared → Prop} (X : SetAt s.heap S es ep t)
    (h1 : (w.params.followText "set-order" = true ∨ t.plain = true ∨ es.size ≤ 1) → Q (.ref s.heap.objs.size) { s with heap := s.heap.push (itObj (rawInt 0) 0 (.ref S) es.size ep) })
    (h2 : ∀ (ps : List Nat) d, ps.Perm (List.range es.size) → Q (.ref (s.heap.objs.size + 1)) { s with heap := (s.heap.push { cls := .type "tuple", data := .seq (ps.map fun (i : Nat) => rawInt i).toArray }).push (itObj (.ref s.heap.objs.size) 0 (.ref S) es.size ep), drawn := d })
    (hz : es.size ≤ 1000) :
    wpAny (model prog w) A (pyIter (.ref S)) Q E s := by
  refine wpAny_pyIter_slot X.type F.slot_set_iter (wpAny_call_entry F.slot_set_iter X.type entry_set_iter ?_ (F.args_set_iter_1 _))
  obtain ⟨o, ho, hc, hd⟩ := X.at_
  unfold Builtin.«frozenset.__iter__»
  show wpAny _ _ (Builtin.Frozenset.sizeOf S >>= _) _ _ s
  unfold Builtin.Frozenset.sizeOf setEntries
  refine wpAny_bind (wpAny_bind (wpAny_bind (wpAny_setState_of ho hd X.fits (wpAny_pure (wpAny_pure ?_)))))
  have fin : ∀ (first : Value) (s' : Shared), s'.heap.get? S = some o → Q (.ref s'.heap.objs.size) { s' with heap := s'.heap.push (itObj first 0 (.ref S) es.size ep) } →
      wpAny (model prog w) A.in1 (do
        let __do_lift ← setEpoch S
        let __do_lift ← newFields "set_iterator" [first, rawInt 0, Value.ref S, rawInt ↑(es, ep, t).fst.size, rawInt ↑__do_lift]
        ret __do_lift) (fun fin s' => ∃ v, fin = Fin.done (Flow.ret v) ∧ ∃ T' r, s'.TypeIs v T' ∧ typeLookup (Value.type T') (Str.ofString "__next__") = pure (some r) ∧ Q v s') E s' := fun first s' ho' hq =>
    wpAny_bind (wpAny_setEpoch_of ho' hd X.fits (wpAny_bind (wpAny_newObj_type (wpAny_pure ⟨_, rfl, "set_iterator", _, ⟨_, Heap.get?_push_size _ rfl, rfl⟩, slot_set_next.lookup, hq⟩))))
  unfold setDrawn setsByText
  refine wpAny_bind (wpAny_bind (wpAny_setState_of ho hd X.fits (wpAny_bind (wpAny_bind (wpAny_askSetting (wpAny_pure (wpAny_pure ?_)))))))
  show wpAny _ _ (if (!w.params.followText "set-order" && (!t.plain && decide (es.size > 1))) = true then _ else _) _ _ s
  split
  · rename_i hc
    simp only [Bool.and_eq_true, Bool.not_eq_true', decide_eq_true_eq] at hc
    refine wpAny_bind (drawOrder_ _ _ _ _ (by simp) fun ys d hy => ?_)
    refine wpAny_bind (wpAny_newTuple ?_ ?_)
    · have := h2 ys d hy
      refine fin _ _ (Heap.get?_push_of_some _ ho) ?_
      rw [Heap.size_push]; exact this
    · have := hy.length_eq; simp at this ⊢; have := sl'; omega
  · rename_i hc
    refine wpAny_bind (wpAny_pure (fin _ s ho (h1 ?_)))
    simp only [Bool.and_eq_true, Bool.not_eq_true', decide_eq_true_eq, not_and] at hc
    cases hf : w.params.followText "set-order" with
    | true => exact .inl rfl
    | false =>
      cases hp : t.plain with
      | true => exact .inr (.inl rfl)
      | false => exact .inr (.inr (by have := hc hf hp; omega))
end
end Mine
end PartQ5
noncomputable section PartQ6
open PySem PySem.W PyProof.Rows
set_option linter.all false
set_option maxRecDepth 20000
namespace Mine
theorem slot_set_self : PySem.Slot "set_iterator" "__iter__" "set_iterator.__iter__" :=
  .of (owner := "set_iterator") (n := "__iter__") (by rw [typeLookup_type, builtinLookup_eq_fast]; kernel_rfl) (by decide +kernel) (by decide +kernel) (by decide +kernel)
    (by first | exact .inl (by decide +kernel) | exact .inr (by decide +kernel)) (by rw [isSubtype_type]; kernel_rfl)
theorem entry_set_self : entryFor table "set_iterator.__iter__" = some Builtin.«dict_keyiterator.__iter__» := entryFor_alias (id' := "dict_keyiterator.__iter__") (by kernel_rfl) (by decide +kernel) (by decide +kernel) (by kernel_rfl)
theorem args_set_self (a : Value) : argsOk "set_iterator.__iter__" ⟨[a], []⟩ := by unfold argsOk; kernel_rfl
theorem self_set {prog : Program} {w : World} {A : Around} {E : Value → Shared → Prop} {s : Shared} {I : Addr} {vs : Array Value} {Q : Value → Shared → Prop} (hI : s.heap.get? I = some { cls := .type "set_iterator", data := .fields vs }) (h : Q (.ref I) s) :
    wpAny (model prog w) A (pyIter (.ref I)) Q E s := by
  have hT : s.TypeIs (.ref I) "set_iterator" := ⟨_, hI, rfl⟩
  refine wpAny_pyIter_slot hT slot_set_self (wpAny_call_entry slot_set_self hT entry_set_self ?_ (args_set_self _))
  show wpAny _ _ (ret (.ref I)) _ _ s
  exact wpAny_pure ⟨_, rfl, "set_iterator", _, hT, slot_set_next.lookup, h⟩
section
variable {prog : Program} {w : World} {A : Around} {E : Value → Shared → Prop} {s : Shared} {S I : Addr} {es : Array (Int × Value)} {ep : Nat} {t : SetTable} {i sl sl' : Nat} {x : Value}
theorem it_upd {h : Heap} {vs : Array Value} {k : Nat} {v : Value} {c : Value} (hI : h.get? I = some { cls := c, data := .fields vs }) : (h.update I (Obj.mapFields (·.setIfInBounds k v))).get? I = some { cls := c, data := .fields (vs.setIfInBounds k v) } := by
  exact Heap.get?_update_self _ hI rfl
theorem snext_item {Q : Option Value → Shared → Prop} (hI : s.heap.get? I = some (itObj (rawInt sl) i (.ref S) es.size ep)) (X : SetAt s.heap S es ep t)
    (hN : ∀ (A : Around) (E : Value → Shared → Prop) (Q : Option (Value × Nat) → Shared → Prop), Q (some (x, sl')) s → wpAny (model prog w) A (setNext S sl i ep) Q E s)
    (hQ : ∀ h', h'.get? I = some (itObj (rawInt sl') (i + 1) (.ref S) es.size ep) → Heap.SameBut I s.heap h' → Q (some x) { s with heap := h' }) :
    wpAny (model prog w) A (pyNext (.ref I)) Q E s := by
  have hT : s.TypeIs (.ref I) "set_iterator" := ⟨_, hI, rfl⟩
  obtain ⟨o, ho, hc, hd⟩ := X.at_
  unfold pyNext
  refine wpAny_bind (wpAny_attempt (wpAny_callSpecial?_slot (name := Str.ofString "__next__") hT slot_set_next
    (wpAny_call_entry slot_set_next hT entry_set_next ?_ (args_set_next _))))
  show wpAny _ _ (fieldsOf (.ref I) >>= _) _ _ s
  refine wpAny_bind (wpAny_fieldsOf hI rfl ?_)
  show wpAny _ _ (setEntries S >>= _) _ _ s
  refine wpAny_bind (m := setEntries S) ?_
  unfold setEntries
  refine wpAny_bind (wpAny_setState_of ho hd X.fits (wpAny_pure ?_))
  show wpAny _ _ (if ((es.size : Int) != (es.size : Int)) = true then _ else _) _ _ s
  rw [if_neg (by simp)]
  show wpAny _ _ (setNext S sl i ep >>= _) _ _ s
  refine wpAny_bind (hN _ _ _ ?_)
  dsimp only
  refine wpAny_bind (wpAny_setField hI rfl (by simp) ?_)
  have h1 := it_upd (k := 0) (v := rawInt sl') hI
  refine wpAny_bind (wpAny_setField (s := { s with heap := s.heap.update I (Obj.mapFields (·.setIfInBounds 0 (rawInt sl'))) }) h1 rfl (by simp) ?_)
  have h2 := it_upd (k := 1) (v := rawInt (i + 1)) h1
  exact wpAny_pure ⟨x, rfl, wpAny_pure (hQ _ h2 ((Heap.SameBut.update ..).trans (Heap.SameBut.update ..)))⟩
theorem stop_it {Q : Option Value → Shared → Prop} (hh : A.handled = none) {h₁ : Heap} (hx : Heap.SameBut I s.heap h₁) (hQ : ∀ h', Heap.ExtBut I s.heap h' → Q none { s with heap := h' }) :
    wpAny (model prog w) A.in1 (newExc (.type "StopIteration") [] >>= fun e => raiseNew e) (fun (fin : PySem.Fin) s' => ∃ v, fin = Fin.done (Flow.ret v) ∧ Q (some v) s')
      (fun e s' => wpAny (model prog w) A (isInstance e (.type "StopIteration")) (fun b s'' => b = true ∧ Q none s'') E s') { s with heap := h₁ } := by
  refine wpAny_bind ?_
  simp only [newExc, newTuple]
  refine wpAny_bind (wpAny_newObj_type ?_ (by size_fits))
  refine wpAny_bind (m := firstArgMember _ _) (wpAny_of_eq (a := Value.none) (by first | rfl | (simp only [firstArgMember]; rfl)) ?_)
  refine wpAny_newObj_type ?_ (by size_fits)
  simp only [raiseNew]
  refine wpAny_bind (wpAny_handled ?_)
  rw [show A.in1.handled = none from hh]
  refine wpAny_bind (wpAny_pure (wpAny_throw ?_))
  refine wpAny_isInstance (T := "StopIteration") (b := true) ⟨_, Heap.get?_push_size _ rfl, rfl⟩ isSubtype_stop ?_
  exact ⟨rfl, hQ _ ((hx.extBut.push _).push _)⟩
theorem snext_end {Q : Option Value → Shared → Prop} (hh : A.handled = none) (hI : s.heap.get? I = some (itObj (rawInt sl) i (.ref S) es.size ep)) (X : SetAt s.heap S es ep t)
    (hN : ∀ (A : Around) (E : Value → Shared → Prop) (Q : Option (Value × Nat) → Shared → Prop), Q none s → wpAny (model prog w) A (setNext S sl i ep) Q E s)
    (hQ : ∀ h', Heap.ExtBut I s.heap h' → Q none { s with heap := h' }) :
    wpAny (model prog w) A (pyNext (.ref I)) Q E s := by
  have hT : s.TypeIs (.ref I) "set_iterator" := ⟨_, hI, rfl⟩
  obtain ⟨o, ho, hc, hd⟩ := X.at_
  unfold pyNext
  refine wpAny_bind (wpAny_attempt (wpAny_callSpecial?_slot (name := Str.ofString "__next__") hT slot_set_next
    (wpAny_call_entry slot_set_next hT entry_set_next ?_ (args_set_next _))))
  show wpAny _ _ (fieldsOf (.ref I) >>= _) _ _ s
  refine wpAny_bind (wpAny_fieldsOf hI rfl ?_)
  show wpAny _ _ (setEntries S >>= _) _ _ s
  refine wpAny_bind (m := setEntries S) ?_
  unfold setEntries
  refine wpAny_bind (wpAny_setState_of ho hd X.fits (wpAny_pure ?_))
  show wpAny _ _ (if ((es.size : Int) != (es.size : Int)) = true then _ else _) _ _ s
  rw [if_neg (by simp)]
  show wpAny _ _ (setNext S sl i ep >>= _) _ _ s
  refine wpAny_bind (hN _ _ _ ?_)
  dsimp only
  refine wpAny_bind (wpAny_setField hI rfl (by simp) ?_)
  refine wpAny_mono (stop_it (Q := Q) (E := E) hh (Heap.SameBut.update ..) hQ) (fun fin s' h => ?_) (fun e s' h => ?_)
  · obtain ⟨v, rfl, h⟩ := h; exact ⟨v, rfl, wpAny_pure h⟩
  · refine wpAny_bind (wpAny_mono h (fun b s'' hb => ?_) fun _ _ e => e)
    obtain ⟨rfl, hb⟩ := hb
    exact wpAny_pure hb
theorem dnext_item {P : Addr} {ps : List Nat} {m p : Nat} {hsh : Int} {Q : Option Value → Shared → Prop} (hI : s.heap.get? I = some (itObj (.ref P) i (.ref S) es.size ep)) (X : SetAt s.heap S es ep t)
    (hP : IsT s.heap P (ps.map fun (i : Nat) => rawInt i).toArray m) (hp : ps[i]? = some p) (hx : es[p]? = some (hsh, x))
    (hQ : ∀ h', h'.get? I = some (itObj (.ref P) (i + 1) (.ref S) es.size ep) → Heap.SameBut I s.heap h' → Q (some x) { s with heap := h' }) :
    wpAny (model prog w) A (pyNext (.ref I)) Q E s := by
  have hT : s.TypeIs (.ref I) "set_iterator" := ⟨_, hI, rfl⟩
  obtain ⟨o, ho, hc, hd⟩ := X.at_
  unfold pyNext
  refine wpAny_bind (wpAny_attempt (wpAny_callSpecial?_slot (name := Str.ofString "__next__") hT slot_set_next
    (wpAny_call_entry slot_set_next hT entry_set_next ?_ (args_set_next _))))
  show wpAny _ _ (fieldsOf (.ref I) >>= _) _ _ s
  refine wpAny_bind (wpAny_fieldsOf hI rfl ?_)
  show wpAny _ _ (setEntries S >>= _) _ _ s
  refine wpAny_bind (m := setEntries S) ?_
  unfold setEntries
  refine wpAny_bind (wpAny_setState_of ho hd X.fits (wpAny_pure ?_))
  show wpAny _ _ (if ((es.size : Int) != (es.size : Int)) = true then _ else _) _ _ s
  rw [if_neg (by simp)]
  show wpAny _ _ (seqItems? (.ref P) >>= _) _ _ s
  refine wpAny_bind (wpAny_seqItems hP rfl ?_)
  have e : ((ps.map fun (i : Nat) => rawInt i).toArray)[i]? = some (rawInt p) := by simp [hp]
  dsimp only
  simp only [Int.toNat_natCast, e]
  show wpAny _ _ (setNextDrawn S p ep >>= _) _ _ s
  unfold setNextDrawn
  refine wpAny_bind (wpAny_bind (wpAny_setState_of ho hd X.fits ?_))
  dsimp only
  rw [if_neg (by simp)]
  simp only [hx]
  refine wpAny_pure (wpAny_bind (wpAny_setField hI rfl (by simp) ?_))
  have h2 := it_upd (k := 1) (v := rawInt (i + 1)) hI
  exact wpAny_pure ⟨x, rfl, wpAny_pure (hQ _ h2 (Heap.SameBut.update ..))⟩
theorem dnext_end {P : Addr} {ps : List Nat} {m : Nat} {Q : Option Value → Shared → Prop} (hh : A.handled = none) (hI : s.heap.get? I = some (itObj (.ref P) i (.ref S) es.size ep)) (X : SetAt s.heap S es ep t)
    (hP : IsT s.heap P (ps.map fun (i : Nat) => rawInt i).toArray m) (hp : ps[i]? = none)
    (hQ : ∀ h', Heap.ExtBut I s.heap h' → Q none { s with heap := h' }) :
    wpAny (model prog w) A (pyNext (.ref I)) Q E s := by
  have hT : s.TypeIs (.ref I) "set_iterator" := ⟨_, hI, rfl⟩
  obtain ⟨o, ho, hc, hd⟩ := X.at_
  unfold pyNext
  refine wpAny_bind (wpAny_attempt (wpAny_callSpecial?_slot (name := Str.ofString "__next__") hT slot_set_next
    (wpAny_call_entry slot_set_next hT entry_set_next ?_ (args_set_next _))))
  show wpAny _ _ (fieldsOf (.ref I) >>= _) _ _ s
  refine wpAny_bind (wpAny_fieldsOf hI rfl ?_)
  show wpAny _ _ (setEntries S >>= _) _ _ s
  refine wpAny_bind (m := setEntries S) ?_
  unfold setEntries
  refine wpAny_bind (wpAny_setState_of ho hd X.fits (wpAny_pure ?_))
  show wpAny _ _ (if ((es.size : Int) != (es.size : Int)) = true then _ else _) _ _ s
  rw [if_neg (by simp)]
  show wpAny _ _ (seqItems? (.ref P) >>= _) _ _ s
  refine wpAny_bind (wpAny_seqItems hP rfl ?_)
  have e : ((ps.map fun (i : Nat) => rawInt i).toArray)[i]? = none := by simpa using hp
  dsimp only
  simp only [Int.toNat_natCast, e]
  refine wpAny_bind (wpAny_setField hI rfl (by simp) ?_)
  have h1 := it_upd (k := 0) (v := rawInt 0) hI
  refine wpAny_bind (wpAny_setField (s := { s with heap := s.heap.update I (Obj.mapFields (·.setIfInBounds 0 (rawInt 0))) }) h1 rfl (by simp) ?_)
  refine wpAny_mono (stop_it (s := s) (Q := Q) (E := E) hh ((Heap.SameBut.update ..).trans (Heap.SameBut.update ..)) hQ) (fun fin s' h => ?_) (fun e s' h => ?_)
  · obtain ⟨v, rfl, h⟩ := h; exact ⟨v, rfl, wpAny_pure h⟩
  · refine wpAny_bind (wpAny_mono h (fun b s'' hb => ?_) fun _ _ e => e)
    obtain ⟨rfl, hb⟩ := hb
    exact wpAny_pure hb

/-- what the slots give, one behind the other -/
def slotsOk (prog : Program) (w : World) (S : Addr) (es : Array (Int × Value)) (ep : Nat) (t : SetTable) (X : List Value) (sl : Nat → Nat) : Prop :=
  ∀ i, i ≤ X.length → ∀ (A : Around) (E : Value → Shared → Prop) (s : Shared) (Q : Option (Value × Nat) → Shared → Prop), SetAt s.heap S es ep t → Q ((X[i]?).map fun x => (x, sl (i + 1))) s → wpAny (model prog w) A (setNext S (sl i) i ep) Q E s
theorem setAt_keep {h h' : Heap} (X : SetAt h S es ep t) (k : ∀ o, h.get? S = some o → h'.get? S = some o) : SetAt h' S es ep t := ⟨let ⟨o, h1, h2⟩ := X.at_; ⟨o, k o h1, h2⟩, X.fits⟩
theorem walk_slots {X : List Value} {sl : Nat → Nat} (hh : A.handled = none) (hne : S ≠ I) (ok : slotsOk prog w S es ep t X sl) :
    Walks prog w A I [I, S] [I] X.length (fun i v => X[i]? = some v) (fun i h => h.get? I = some (itObj (rawInt (sl i)) i (.ref S) es.size ep) ∧ SetAt h S es ep t) where
  sub := fun b hb => by simp at hb; simp [hb]
  frame := fun i h h' st k => ⟨k I (by simp) _ st.1, setAt_keep st.2 (k S (by simp))⟩
  item := fun i s Q E hi st hQ => by
    refine snext_item (sl' := sl (i + 1)) (x := X[i]) st.1 st.2 (fun A E Q hq => ok i (Nat.le_of_lt hi) A E s Q st.2 (by rw [List.getElem?_eq_getElem hi]; exact hq)) fun h' hI' hs' => ?_
    exact hQ _ h' s.toks (List.getElem?_eq_getElem hi) ⟨hI', setAt_keep st.2 fun o e => (hs'.2 S hne).trans e⟩ fun b o hb e => (hs'.2 b (by simpa using hb)).trans e
  done := fun s Q E st hQ => snext_end hh st.1 st.2 (fun A E Q hq => ok X.length (Nat.le_refl _) A E s Q st.2 (by rw [List.getElem?_eq_none (Nat.le_refl _)]; exact hq)) fun h' hx => hQ h' s.toks fun b o hb e => hx b o (by simpa using hb) e
  self := fun i s Q E st hQ => self_set st.1 hQ
theorem walk_drawn {P : Addr} {ps : List Nat} {m : Nat} (hh : A.handled = none) (hne : S ≠ I) (hPI : P ≠ I) (hps : ∀ p ∈ ps, p < es.size) :
    Walks prog w A I [I, S, P] [I] ps.length (fun i v => (ps.map fun p => (es.getD p (0, .none)).2)[i]? = some v) (fun i h => h.get? I = some (itObj (.ref P) i (.ref S) es.size ep) ∧ SetAt h S es ep t ∧ IsT h P (ps.map fun (i : Nat) => rawInt i).toArray m) where
  sub := fun b hb => by simp at hb; simp [hb]
  frame := fun i h h' st k => ⟨k I (by simp) _ st.1, setAt_keep st.2.1 (k S (by simp)), k P (by simp) _ st.2.2⟩
  item := fun i s Q E hi st hQ => by
    have e1 : ps[i]? = some ps[i] := List.getElem?_eq_getElem hi
    have hp := hps ps[i] (List.getElem_mem hi)
    have e2 : es[ps[i]]? = some (es[ps[i]].1, es[ps[i]].2) := by rw [Array.getElem?_eq_getElem hp]
    refine dnext_item st.1 st.2.1 st.2.2 e1 e2 fun h' hI' hs' => ?_
    refine hQ _ h' s.toks ?_ ⟨hI', setAt_keep st.2.1 fun o e => (hs'.2 S hne).trans e, (hs'.2 P hPI).trans st.2.2⟩ fun b o hb e => (hs'.2 b (by simpa using hb)).trans e
    rw [List.getElem?_map, e1]
    simp [Array.getD, hp]
  done := fun s Q E st hQ => dnext_end hh st.1 st.2.1 st.2.2 (by simp) fun h' hx => hQ h' s.toks fun b o hb e => hx b o (by simpa using hb) e
  self := fun i s Q E st hQ => self_set st.1 hQ
end
end Mine
end PartQ6
noncomputable section PartQ7
open PySem PySem.W PyProof.Rows
set_option linter.all false
set_option maxRecDepth 20000
namespace Mine
section
variable {prog : Program} {w : World} {K : Type} [DecidableEq K] {knd : PySem.KeyKind prog w K} {A : Around} {E : Value → Shared → Prop} {s : Shared} {S : Addr} {l : List (Int × Value)}
theorem arr_one {α : Type} {a : Array α} (h : a.size = 1) : ∃ e, a = #[e] := by
  obtain ⟨l⟩ := a
  match l, h with
  | [e], _ => exact ⟨e, rfl⟩
theorem slots_byText {es : Array (Int × Value)} {ep : Nat} {t : SetTable} (hb : w.params.followText "set-order" = true) : slotsOk prog w S es ep t ((pickOrder (w.params.setOrder S ep) es).toList.map (·.2)) (fun _ => 0) := by
  intro i hi A E s Q X hq
  obtain ⟨o, ho, hc, hd⟩ := X.at_
  unfold setNext
  refine wpAny_bind (wpAny_setState_of ho hd X.fits ?_)
  dsimp only
  unfold setsByText
  refine wpAny_bind (wpAny_bind (wpAny_askSetting (wpAny_pure ?_)))
  show wpAny _ _ (if (w.params.followText "set-order") = true then _ else _) _ _ s
  rw [if_pos hb]
  rw [if_neg (by simp)]
  refine wpAny_bind ?_
  unfold setWalk
  refine wpAny_bind (wpAny_setState_of ho hd X.fits ?_)
  dsimp only
  unfold setsByText
  refine wpAny_bind (wpAny_bind (wpAny_askSetting (wpAny_pure ?_)))
  show wpAny _ _ (if (w.params.followText "set-order") = true then _ else _) _ _ s
  rw [if_pos hb]
  refine wpAny_bind (wpAny_askSetting (wpAny_pure (wpAny_pure ?_)))
  refine Eq.mp ?_ hq
  congr 1
  show _ = ((pickOrder (w.params.setOrder S ep) es)[i]?).map _
  rw [List.getElem?_map, Array.getElem?_toList]
  cases (pickOrder (w.params.setOrder S ep) es)[i]? <;> rfl
theorem slots_few {es : Array (Int × Value)} {ep : Nat} {t : SetTable} (hb : w.params.followText "set-order" = false) (hn : es.size ≤ 1) (hl : t.led = true) (hf : t.fits es.size = true) :
    slotsOk prog w S es ep t (es.toList.map (·.2)) (fun i => if i = 0 then 0 else t.place.getD 0 0 + 1) := by
  have hps : t.place.size = es.size := by simp only [SetTable.fits, Bool.and_eq_true, beq_iff_eq] at hf; exact hf.1
  intro i hi A E s Q X hq
  obtain ⟨o, ho, hc, hd⟩ := X.at_
  unfold setNext
  refine wpAny_bind (wpAny_setState_of ho hd X.fits ?_)
  dsimp only
  unfold setsByText
  refine wpAny_bind (wpAny_bind (wpAny_askSetting (wpAny_pure ?_)))
  show wpAny _ _ (if (w.params.followText "set-order") = true then _ else _) _ _ s
  rw [if_neg (by simp [hb])]
  show wpAny _ _ (if (!t.plain && decide (es.size > 1)) = true then _ else _) _ _ s
  rw [if_neg (by simp; omega)]
  show wpAny _ _ ((if (!t.led && !es.isEmpty) = true then _ else pure ()) >>= _) _ _ s
  rw [if_neg (by simp [hl])]
  refine wpAny_bind (wpAny_pure (wpAny_pure ?_))
  refine Eq.mp ?_ hq
  congr 1
  rw [List.length_map, Array.length_toList] at hi
  have hcase : es.size = 0 ∨ es.size = 1 := by omega
  rcases hcase with h0 | h1
  · have : i = 0 := by omega
    subst this
    have e1 : es = #[] := Array.size_eq_zero_iff.mp h0
    subst e1
    have e2 : t.place = #[] := Array.size_eq_zero_iff.mp hps
    rw [e2]; rfl
  · obtain ⟨e, rfl⟩ := arr_one h1
    obtain ⟨p, hp⟩ := arr_one (a := t.place) hps
    rw [hp]
    have : i = 0 ∨ i = 1 := by omega
    rcases this with rfl | rfl
    · have : SetTable.below #[p] 0 = 0 := by simp [SetTable.below, SetTable.below.go]
      rw [if_pos rfl, this]; rfl
    · have : SetTable.below #[p] (p + 1) = 1 := by simp [SetTable.below, SetTable.below.go]
      show _ = (match (#[e])[SetTable.below #[p] (p + 1)]?, (#[p])[SetTable.below #[p] (p + 1)]? with | some (_, x), some j => some (x, j + 1) | _, _ => none)
      rw [this]; rfl
theorem hint_set {r : Addr} {Q : Bool → Shared → Prop} (hT : s.TypeIs (.ref r) "set") (h : Q false s) : wpAny (model prog w) A (Builtin.List.listLengthHint (.ref r)) Q E s := by
  unfold Builtin.List.listLengthHint
  refine wpAny_bind (wpAny_specialOf hT PySem.F.slot_set_len.lookup ?_)
  generalize hid : ("set.__len__" : String) = id0
  wp_delta
  rw [show splitId id0 = some ("set", "__len__") from by subst hid; decide +kernel]
  subst hid
  refine wpAny_bind (wpAny_isInstance (T := "set") (b := true) hT (by rw [isSubtype_type]; kernel_rfl) ?_)
  refine wpAny_ite_split (fun hab => absurd hab (by decide)) (fun _ => ?_)
  refine wpAny_ite_split (fun _ => ?_) (fun hab => absurd (by decide +kernel) hab)
  refine wpAny_bind (wpAny_typeOf hT ?_)
  exact wpAny_pure h
theorem iter_walks {Q : Value → Shared → Prop} (hS : SetL knd s.heap S l (!w.params.followText "set-order")) (hl : l.length ≤ 1000)
    (h : ∀ (h' : Heap) d (I : Addr) (fp : List Addr) (St : Nat → Heap → Prop) (X : List Value) (n : Nat), X.length = n → (∀ b o, s.heap.get? b = some o → h'.get? b = some o) → X.Perm (l.map (·.2)) →
      (∀ A : Around, A.handled = none → Walks prog w A I fp [I] n (fun i v => X[i]? = some v) St) → St 0 h' → (∀ b ∈ fp, b = S ∨ s.heap.get? b = none) → s.heap.get? I = none → Q (.ref I) { s with heap := h', drawn := d }) :
    wpAny (model prog w) A (pyIter (.ref S)) Q E s := by
  obtain ⟨o, es, ep, t, ho, hex, hd, hel, hp, hb, hf, hled, hpl⟩ := hS
  have hn : es.size = l.length := by rw [← Array.length_toList, hp.length_eq]
  have Xat : SetAt s.heap S es ep t := ⟨⟨o, ho, hex.1, hd⟩, hf⟩
  have hSn : S ≠ s.heap.objs.size := Nat.ne_of_lt (Heap.lt_size ho)
  have hSn1 : S ≠ s.heap.objs.size + 1 := Nat.ne_of_lt (Nat.lt_succ_of_lt (Heap.lt_size ho))
  have n0 : ∀ a, s.heap.objs.size ≤ a → s.heap.get? a = none := fun a ha => by
    cases q : s.heap.get? a with
    | none => rfl
    | some o => exact absurd (Heap.lt_size q) (Nat.not_lt.mpr ha)
  refine iter_set Xat (fun hc => ?_) (fun ps d hps => ?_) (by omega)
  · have k1 : ∀ b o, s.heap.get? b = some o → (s.heap.push (itObj (rawInt 0) 0 (.ref S) es.size ep)).get? b = some o := fun b o e => Heap.get?_push_of_some _ e
    cases hbt : w.params.followText "set-order" with
    | true =>
      refine h _ s.drawn s.heap.objs.size [s.heap.objs.size, S] _ _ _ rfl k1 (((pick_perm _ es).map _).trans (hp.map _)) (fun A hh => walk_slots (t := t) (ep := ep) (es := es) hh hSn (slots_byText hbt)) ⟨Heap.get?_push_size _ rfl, setAt_keep Xat fun o e => k1 _ _ e⟩ (fun b hb => ?_) (n0 _ (Nat.le_refl _))
      simp at hb; rcases hb with rfl | rfl
      · exact .inr (n0 _ (Nat.le_refl _))
      · exact .inl rfl
    | false =>
      have h1 : es.size ≤ 1 := by
        rcases hc with q | q | q
        · rw [hbt] at q; cases q
        · by_cases hl0 : l = []
          · rw [hn, hl0]; exact Nat.zero_le _
          · rw [hpl hl0] at q; cases q
        · exact q
      have hl' : t.led = true := by rw [hled, hbt]; rfl
      refine h _ s.drawn s.heap.objs.size [s.heap.objs.size, S] _ _ _ rfl k1 (hp.map _) (fun A hh => walk_slots (t := t) (ep := ep) (es := es) hh hSn (slots_few hbt h1 hl' hf)) ⟨Heap.get?_push_size _ rfl, setAt_keep Xat fun o e => k1 _ _ e⟩ (fun b hb => ?_) (n0 _ (Nat.le_refl _))
      simp at hb; rcases hb with rfl | rfl
      · exact .inr (n0 _ (Nat.le_refl _))
      · exact .inl rfl
  · have k1 : ∀ b o, s.heap.get? b = some o → ((s.heap.push { cls := .type "tuple", data := .seq (ps.map fun (i : Nat) => rawInt i).toArray }).push (itObj (.ref s.heap.objs.size) 0 (.ref S) es.size ep)).get? b = some o := fun b o e => Heap.get?_push_of_some _ (Heap.get?_push_of_some _ e)
    have hsz : (s.heap.push { cls := .type "tuple", data := .seq (ps.map fun (i : Nat) => rawInt i).toArray }).objs.size = s.heap.objs.size + 1 := Heap.size_push ..
    have hI : ((s.heap.push { cls := .type "tuple", data := .seq (ps.map fun (i : Nat) => rawInt i).toArray }).push (itObj (.ref s.heap.objs.size) 0 (.ref S) es.size ep)).get? (s.heap.objs.size + 1) = some (itObj (.ref s.heap.objs.size) 0 (.ref S) es.size ep) := by
      have := Heap.get?_push_size (s.heap.push { cls := .type "tuple", data := .seq (ps.map fun (i : Nat) => rawInt i).toArray }) (o := itObj (.ref s.heap.objs.size) 0 (.ref S) es.size ep) rfl
      rw [hsz] at this; exact this
    have hlt : ∀ p ∈ ps, p < es.size := fun p hp' => by simpa using hps.mem_iff.mp hp'
    have hperm : (ps.map fun p => (es.getD p (0, .none)).2).Perm (l.map (·.2)) := by
      refine (hps.map _).trans ?_
      refine List.Perm.trans (List.Perm.of_eq ?_) (hp.map _)
      apply List.ext_getElem?
      intro i
      have e9 : es.toList[i]? = es[i]? := Array.getElem?_toList
      rw [List.getElem?_map, List.getElem?_map, e9]
      by_cases hi : i < es.size
      · rw [List.getElem?_range hi, Array.getElem?_eq_getElem hi]; simp [Array.getD, hi]
      · rw [List.getElem?_eq_none (by simpa using hi), Array.getElem?_eq_none (by omega)]; rfl
    have hlen : (ps.map fun p => (es.getD p (0, .none)).2).length = ps.length := by simp
    refine h _ d (s.heap.objs.size + 1) [s.heap.objs.size + 1, S, s.heap.objs.size] _ _ _ hlen k1 hperm (fun A hh => walk_drawn (m := 0) (t := t) (ep := ep) (es := es) hh hSn1 (Nat.ne_of_lt (Nat.lt_succ_self _)) hlt) ⟨hI, setAt_keep Xat fun o e => k1 _ _ e, Heap.get?_push_of_some _ (Heap.get?_push_size _ rfl)⟩ (fun b hb => ?_) (n0 _ (Nat.le_succ _))
    simp at hb; rcases hb with rfl | rfl | rfl
    · exact .inr (n0 _ (Nat.le_succ _))
    · exact .inl rfl
    · exact .inr (n0 _ (Nat.le_refl _))
end
end Mine
end PartQ7
noncomputable section PartQ8
open PySem PySem.W PyProof.Rows PySem.Calls
set_option linter.all false
set_option maxRecDepth 20000
namespace Mine
section
variable {prog : Program} {w : World} {K : Type} [DecidableEq K] {knd : PySem.KeyKind prog w K} {A : Around} {E : Value → Shared → Prop} {s : Shared} {S : Addr} {l : List (Int × Value)}
theorem items_eq {X : List Value} {acc : Array Value} {n : Nat} (hn : X.length = n) (h : ItemsOf (fun i v => X[i]? = some v) acc n) : acc = X.toArray := by
  apply Array.ext
  · rw [h.1]; simp [hn]
  · intro i h1 h2
    have e1 : X[i]? = some acc[i] := h.2 i acc[i] (Array.getElem?_eq_getElem h1)
    have h3 : i < X.length := by simpa using h2
    rw [List.getElem?_eq_getElem h3] at e1
    simpa using (Option.some.inj e1).symm
theorem setL_type (hS : SetL knd s.heap S l (!w.params.followText "set-order")) : s.TypeIs (.ref S) "set" := by
  obtain ⟨o, es, ep, t, ho, hex, _⟩ := hS
  exact ⟨o, ho, hex.1⟩
theorem set_extend {R : Result → Shared → Prop} (hS : SetL knd s.heap S l (!w.params.followText "set-order")) (hl : l.length ≤ 1000) (hh : A.handled = none) (L : Addr) (hLS : L ≠ S) (res : Value) (c₀ : Nat)
    (hL : s.heap.get? L = some { cls := .type "list", data := .seq #[] c₀ })
    (hR : ∀ h' tk d (X : List Value) c', (∀ b o, b ≠ L → s.heap.get? b = some o → h'.get? b = some o) → X.Perm (l.map (·.2)) → h'.get? L = some { cls := .type "list", dict := none, data := .seq X.toArray c', slots := #[] } → R (.ok (.ret res)) { s with heap := h', toks := tk, drawn := d }) :
    wpAny (model prog w) A.in1 (Builtin.List.listExtendWith (.ref L) (.ref S) res)
      (fun fin s' => match fin with | .done f => R (.ok f) s' | .again c' => c'.quiet = true ∧ codeAny (model prog w) A c' R s') (fun e s' => R (.error e) s') s := by
  have ht := setL_type hS
  unfold Builtin.List.listExtendWith
  refine wpAny_bind (wpAny_typeOf (T := "set") ht ?_)
  have h1 : Builtin.List.listSameRef (.ref L) (.ref S) = false := by simp [Builtin.List.listSameRef, hLS]
  have h2 : (Value.type "set" == Value.type "list") = false := by decide +kernel
  have h3 : (Value.type "set" == Value.type "tuple") = false := by decide +kernel
  simp only [h1, h2, h3, Bool.or_false, Bool.false_eq_true, if_false]
  refine wpAny_bind (iter_walks hS hl fun h' d I fp St X n hn kp hX W st hfp hI => ?_)
  have hLf : L ∉ fp := fun hm => by
    rcases hfp L hm with e | e
    · exact hLS e
    · rw [hL] at e; cases e
  have hS₁ := kp L _ hL
  have W1 := (W A.in1 hh).toS
  have nI : ∀ b o, s.heap.get? b = some o → b ≠ I := fun b o e q => by rw [q, hI] at e; cases e
  have hn1 : n ≤ sizeLine := by rw [← hn, hX.length_eq, List.length_map]; exact Nat.le_trans hl (by decide +kernel)
  have key : ∀ (h : Heap) (c₁ tk : Nat), St 0 h → (∀ b o, b ≠ L → s.heap.get? b = some o → h.get? b = some o) →
      h.get? L = some { cls := .type "list", data := .seq #[] c₁ } → codeAny (model prog w) A (.builtin "list.extend.loop" ⟨[.ref L, .ref I, res], []⟩) R { s with heap := h, toks := tk, drawn := d } := by
    intro h c₁ tk hst hk hL₁
    refine codeAny_extend_loopS W1 hn1 L hLf res n 0 _ #[] c₁ rfl (Nat.zero_le _) hst hL₁ (ItemsOf.nil _) fun s' acc' c' hm hS' hacc => ?_
    rw [Moved.eq_with hm]
    rw [items_eq hn hacc] at hS'
    refine hR s'.heap s'.toks d X c' (fun b o hb e => hm.heap b o (fun hmem => ?_) (hk b o hb e)) hX hS'
    rcases List.mem_cons.mp hmem with e' | hmem
    · exact hb e'
    · exact nI b o e (List.mem_singleton.mp hmem)
  have ht' : Shared.TypeIs { s with heap := h', drawn := d } (.ref S) "set" := by
    obtain ⟨o, ho, hc⟩ := ht
    exact ⟨o, kp _ _ ho, hc⟩
  refine wpAny_bind (wpAny_holding (hint_set ht' ?_))
  refine wpAny_ite_split (fun _ => ?_) (fun _ => wpAny_pure ⟨plainId_quiet PySem.F.plain_extend_loop _, key _ c₀ _ st (fun b o _ e => kp _ _ e) hS₁⟩)
  refine wpAny_bind (wpAny_rule ?_)
  refine wpAny_bind ?_
  show wpAny _ _ (updateSeq L (·.push .none) >>= fun _ => updateSeq L (·.pop)) _ _ _
  refine wpAny_bind (wpAny_updateSeq hS₁ rfl ?_)
  have hS₂ := Heap.get?_update_self (Obj.mapSeq (·.push Value.none)) hS₁ rfl
  refine wpAny_updateSeq (hz := by seq_fits) hS₂ rfl ?_
  have hS₃ := Heap.get?_update_self (Obj.mapSeq (·.pop)) hS₂ rfl
  refine wpAny_pure ⟨plainId_quiet PySem.F.plain_extend_loop _, key _ _ _ ?_ (fun b o hb e => ?_) hS₃⟩
  · refine (W A hh).frame 0 _ _ st fun b hb o e => ?_
    have hbS : b ≠ L := fun h => hLf (h ▸ hb)
    exact (Heap.get?_update_other _ _ (Ne.symm hbS)).trans ((Heap.get?_update_other _ _ (Ne.symm hbS)).trans e)
  · exact (Heap.get?_update_other _ _ (Ne.symm hb)).trans ((Heap.get?_update_other _ _ (Ne.symm hb)).trans (kp _ _ e))
theorem set_collect {R : List Value → Shared → Prop} (hS : SetL knd s.heap S l (!w.params.followText "set-order")) (hl : l.length ≤ 1000) (hh : A.handled = none)
    (h : ∀ (h' : Heap) tk d (X : List Value), (∀ b o, s.heap.get? b = some o → h'.get? b = some o) → X.Perm (l.map (·.2)) → R X { s with heap := h', toks := tk, drawn := d }) :
    wpAny (model prog w) A (collect (.ref S)) R E s := by
  unfold collect
  refine wpAny_bind (wpAny_runValue (codeAny_builtin entry_proto_collect' ?_))
  rw [Around.under_plainId PySem.F.plain_proto_collect _]
  show wpAny _ A.in1 (newList [] >>= fun l => again (.builtin "list.__iadd__" ⟨[l, .ref S], []⟩)) _ _ s
  refine wpAny_bind (wpAny_newObj_type ?_)
  refine wpAny_pure ⟨plainId_quiet PySem.F.plain_list_iadd _, codeAny_builtin entry_list_iadd' ?_⟩
  rw [Around.under_plainId PySem.F.plain_list_iadd _]
  have hS₁ : (s.heap.push { cls := .type "list", data := .seq ([] : List Value).toArray }).get? s.heap.objs.size = some { cls := .type "list", data := .seq #[] } := Heap.get?_push_size _ rfl
  have hS' : SetL knd (s.heap.push { cls := .type "list", data := .seq ([] : List Value).toArray }) S l (!w.params.followText "set-order") := by
    obtain ⟨o, es, ep, t, ho, r⟩ := hS
    exact ⟨o, es, ep, t, Heap.get?_push_of_some _ ho, r⟩
  have hne : s.heap.objs.size ≠ S := by
    obtain ⟨o, es, ep, t, ho, r⟩ := hS
    exact Nat.ne_of_gt (Heap.lt_size ho)
  show wpAny _ A.in1 (Builtin.List.listExtendWith (.ref s.heap.objs.size) (.ref S) (.ref s.heap.objs.size)) _ _ _
  have key := set_extend (A := A) (s := { s with heap := s.heap.push { cls := .type "list", data := .seq ([] : List Value).toArray } })
    (R := fun (q : Result) (s' : Shared) => ∃ (h' : Heap) (tk : Nat) (d : Drawn) (X : List Value) (c' : Nat), q = .ok (.ret (.ref s.heap.objs.size)) ∧ s' = { s with heap := h', toks := tk, drawn := d } ∧
      (∀ b o, s.heap.get? b = some o → h'.get? b = some o) ∧ X.Perm (l.map (·.2)) ∧ h'.get? s.heap.objs.size = some { cls := .type "list", dict := none, data := .seq X.toArray c', slots := #[] })
    hS' hl hh s.heap.objs.size hne (.ref s.heap.objs.size) 0 hS₁
    (fun h' tk d X c' hk hX hg => ⟨h', tk, d, X, c', rfl, rfl, fun b o e => hk b o (Nat.ne_of_lt (Heap.lt_size e)) (Heap.get?_push_of_some _ e), hX, hg⟩)
  refine wpAny_mono key (fun fin s' x => ?_) fun e s' x => ?_
  · cases fin with
    | done f =>
      obtain ⟨h', tk, d, X, c', e, rfl, hk, hX, hg⟩ := x
      cases e
      show wpAny _ A (load s.heap.objs.size >>= _) _ _ _
      refine wpAny_bind (wpAny_load hg ?_)
      exact wpAny_pure (h h' tk d X hk hX)
    | again c₁ =>
      refine ⟨x.1, codeAny_mono x.2 fun q s₂ y => ?_⟩
      obtain ⟨h', tk, d, X, c', rfl, rfl, hk, hX, hg⟩ := y
      show wpAny _ A (load s.heap.objs.size >>= _) _ _ _
      refine wpAny_bind (wpAny_load hg ?_)
      exact wpAny_pure (h h' tk d X hk hX)
  · obtain ⟨_, _, _, _, _, e', _⟩ := x
    cases e'
theorem StrsAre_perm {vs us : List Value} {ss : List Str} (h : vs.Perm us) (hs : StrsAre us ss) : ∃ ss', StrsAre vs ss' ∧ ss'.Perm ss := by
  refine ⟨vs.map strOf, strsAre_map vs fun v hv => hs.all v (h.mem_iff.mp hv), ?_⟩
  have := h.map strOf
  rwa [hs.strs] at this
theorem set_sorted {ss : List Str} {Q : Value → Shared → Prop} (hS : SetL knd s.heap S l (!w.params.followText "set-order")) (hl : l.length < 64) (hh : A.handled = none) (hs : StrsAre (l.map (·.2)) ss)
    (h : ∀ (D : Addr) (h' : Heap) tk d (X : Array Value) ss' c, (∀ b o, s.heap.get? b = some o → h'.get? b = some o) → s.heap.get? D = none → h'.get? D = some (seqObj "list" X c) → StrsAre X.toList ss' → ss'.Perm ss → sortedS ss' = true → Q (.ref D) { s with heap := h', toks := tk, drawn := d }) :
    wpAny (model prog w) A (call (.builtin "sorted") [.ref S]) Q E s := by
  refine Calls.call_function_entry kind_sorted plain_sorted entry_sorted (args_sorted1 _) ?_
  unfold Builtin.«sorted»
  refine wpAny_bind (m := checkCount "sorted" 1 1 _) (wpAny_pure ?_)
  refine wpAny_bind (set_collect (A := A.in1) hS (by omega) hh fun h' tk d X kp hX => ?_)
  obtain ⟨sX, hsX, hpX⟩ := StrsAre_perm hX hs
  have hlX : X.length < 64 := by rw [hX.length_eq, List.length_map]; exact hl
  refine wpAny_bind (wpAny_newList ?_ (Nat.le_trans (Nat.le_of_lt hlX) (by decide +kernel)))
  have hD : (h'.push (seqObj "list" X.toArray 0)).get? h'.objs.size = some (seqObj "list" X.toArray 0) := Heap.get?_push_size _ rfl
  have hDn : s.heap.get? h'.objs.size = none := by
    cases q : s.heap.get? h'.objs.size with
    | none => rfl
    | some o => exact absurd (Heap.lt_size (kp _ _ q)) (Nat.lt_irrefl _)
  refine wpAny_bind (wpAny_holding (wpAny_call_entry slot_list_sort ⟨_, hD, rfl⟩ entry_list_sort (list_sort_treeK strKind_oneLt hD hsX.keysOf (fun v₁ v₂ rest e => keyKind_strs (by rw [← e]; exact hsX)) hlX fun st' hp hso => ⟨_, rfl, ?_⟩) (args_list_sort _)))
  obtain ⟨ss', h1, h2, h3⟩ := sorted_out_str hsX hp hso
  obtain ⟨c, hc⟩ := sortedHeap_at (out := (arrOf st').map (·.2)) hD
  refine wpAny_pure ⟨_, rfl, h h'.objs.size _ tk d _ ss' c (fun b o e => ?_) hDn hc h1 (h2.trans hpX) h3⟩
  have hlt := Heap.lt_size (kp _ _ e)
  rw [sortedHeap_old (Nat.ne_of_lt hlt) (by rw [size_push']; exact Nat.lt_succ_of_lt hlt)]
  exact Heap.get?_push_of_some _ (kp _ _ e)
end
end Mine
end PartQ8
noncomputable section PartQ9
open PySem PySem.W PyProof.Rows
set_option linter.all false
set_option maxRecDepth 20000
namespace Mine
def ddup : List Str → List Str → List Str
  | ds, [] => ds
  | ds, x :: xs => ddup (if ds.any (fun y => y == x) then ds else ds ++ [x]) xs
section
variable {g : G} {n : Nat} {sc : Scope} {ρ ρ' : List (Str × V)} {σ σ₁ σ₂ σ₃ σ₄ : List Slot} {pos pos2 apos p p2 pt : Pos} {v v₁ v₂ v₃ : V} {A : Around} {env : Env} {μ μ₀ μ₁ : List Addr} {s s₁ : Shared} {E : Value → Shared → Prop} {h h' : Heap}
def keyed : List Str → List Value → List (Str × Value) := List.zip
theorem strsAre_of_rds : ∀ {ss : List Str} {vs : List Value}, Rds μ h (ss.map .str) vs → StrsAre vs ss
  | [], vs, e => by rw [List.map_nil, rds_nil] at e; subst e; exact .nil
  | x :: ss, vs, e => by
    rw [List.map_cons] at e
    obtain ⟨w, r, rfl, e1, e2⟩ := rds_cons.mp e
    obtain ⟨t, rfl⟩ := rd_str.mp e1
    exact .cons x t (strsAre_of_rds e2)
theorem rds_of_strsAre : ∀ {ss : List Str} {vs : List Value}, StrsAre vs ss → Rds μ h (ss.map .str) vs
  | _, _, .nil => rds_nil.mpr rfl
  | _, _, .cons x t e => rds_cons.mpr ⟨_, _, rfl, rd_str.mpr ⟨t, rfl⟩, rds_of_strsAre e⟩
theorem strsAre_len : ∀ {ss : List Str} {vs : List Value}, StrsAre vs ss → vs.length = ss.length
  | _, _, .nil => rfl
  | _, _, .cons x t e => by simp [strsAre_len e]
theorem strsAre_append : ∀ {ss ss' : List Str} {vs vs' : List Value}, StrsAre vs ss → StrsAre vs' ss' → StrsAre (vs ++ vs') (ss ++ ss')
  | _, _, _, _, .nil, e' => e'
  | _, _, _, _, .cons x t e, e' => .cons x t (strsAre_append e e')
theorem any_strs {x : Str} : ∀ {ds : List Str} {l : List (Int × Value)}, StrsAre (l.map (·.2)) ds → l.any (fun e => (sK g).is x e.2) = ds.any (fun y => y == x)
  | ds, [], e => by cases e; rfl
  | ds, q :: l, e => by
    rw [List.map_cons] at e
    generalize hq : q.2 = qv at e
    cases e with
    | cons y t e => simp only [List.any_cons]; rw [any_strs e, hq]; rfl
theorem addL_strs : ∀ {ss : List Str} {vs : List Value} {ds : List Str} {l : List (Int × Value)}, StrsAre vs ss → StrsAre (l.map (·.2)) ds → StrsAre ((addL (sK g) l (ss.zip vs)).map (·.2)) (ddup ds ss)
  | _, _, ds, l, .nil, e => e
  | _, _, ds, l, .cons x t e', e => by
    rename_i vs ss
    show StrsAre ((addL (sK g) (if l.any (fun e => (sK g).is x e.2) then l else l ++ [((sK g).hash x, .str x t)]) (ss.zip vs)).map (·.2)) (ddup (if ds.any (fun y => y == x) then ds else ds ++ [x]) ss)
    rw [any_strs e]
    refine addL_strs e' ?_
    split
    · exact e
    · rw [List.map_append]; exact strsAre_append e (.cons x t .nil)
theorem Mem.drawn {σ : List Slot} {s : Shared} (m : Mem g μ σ s) {d : Drawn} : Mem g μ σ { s with drawn := d } := ⟨m.base, m.gens, m.os, m.len, m.nd, m.lo, m.slots⟩
theorem zip_get : ∀ {ss : List Str} {vs : List Value}, StrsAre vs ss → ∀ (j : Nat) (v : Value) (q : Str × Value), vs.toArray[j]? = some v → (ss.zip vs)[j]? = some q → v = q.2 ∧ (sK g).is q.1 q.2 = true ∧ q.2.scannable = true ∧ plainKind q.2 = false := by
  intro ss vs e
  induction e with
  | nil => intro j v q h1 h2; simp at h2
  | cons x t e ih =>
    intro j v q h1 h2
    cases j with
    | zero => simp at h1 h2; subst h1 h2; exact ⟨rfl, str_key, rfl, rfl⟩
    | succ j => exact ih j v q (by simpa using h1) (by simpa using h2)
theorem EV.sorted_set {e : Expr} {ss out : List Str} (hi : sc.names.lookup ("sorted" : Str) = some NameKind.globalImplicit) (hx : sc.names.lookup ("set" : Str) = some NameKind.globalImplicit)
    (hKi : nsIn g.K mainGlobals ("sorted" : Str) = some Option.none) (hKx : nsIn g.K mainGlobals ("set" : Str) = some Option.none)
    (he : EV g n sc e ρ σ (.dat (.list (ss.map .str))) σ₁) (hlen : ss.length < 64) (hout : ∀ zs, zs.Perm (ddup [] ss) → sortedS zs = true → zs = out)
    (hst : ∀ env, starEach [e] env = [(false, eval e env)] := by intro _; rfl) :
    EV g n sc (.Call (.Name "sorted" p) [.Call (.Name "set" p2) [e] [] pos2] [] pos) ρ σ (.dat (.list (out.map .str))) σ₁ := fun A env μ s Q E R F M hQ => by
  have hst' : starEach [Expr.Call (.Name "set" p2) [e] [] pos2] env = (false, eval (Expr.Call (.Name "set" p2) [e] [] pos2) env) :: starEach [] env := rfl
  refine Call_ (name_builtin (f := .builtin "sorted") hi hKi (by decide +kernel) (by decide) F M (PyProof.Rows.callWith_builtin1 ?_ hst' rfl) (by decide))
  refine args_cons ?_ hst'
  refine Call_ (name_builtin (f := .type "set") hx hKx (by decide +kernel) (by decide) F M (PyProof.Rows.callWith_type1 ?_ (hst env) rfl) (by decide))
  refine args_cons (he A env μ s _ E R F M fun w s₁ μ₁ x₁ M₁ V₁ => args_nil ?_) (hst env)
  obtain ⟨a, us, m1, rfl, na, ha, za, ra⟩ := rd_list.mp (vr_dat.mp V₁)
  have hS := strsAre_of_rds ra
  have hl := strsAre_len hS
  have hlz : (ss.zip us.toList).length = us.size := by rw [List.length_zip, ← Array.length_toList]; omega
  refine set_of_list (knd := sK g) R.hnd ⟨_, ha, rfl, _, rfl⟩ (ss.zip us.toList) hlz (by rw [hlz, ← Array.length_toList]; omega) (fun j v q h1 h2 => zip_get hS j v q (by simpa using h1) h2) fun h' tk hSet kp => ?_
  refine args_nil ?_
  have x2 : Ext μ₁ s₁.heap μ₁ h' := Ext.of_keep kp
  have hadd := addL_strs (g := g) (l := []) (ds := []) hS .nil
  refine set_sorted (s := { s₁ with heap := h', toks := tk }) hSet ?_ R.hnd hadd fun D h'' tk' d X ss' c kp' hD hX hsX hp hso => ?_
  · refine Nat.lt_of_le_of_lt (addL_len _ _) ?_
    rw [hlz, List.length_nil, Nat.zero_add, ← Array.length_toList, hl]; exact hlen
  · have e := hout ss' hp hso
    subst e
    have M2 : Mem g μ₁ σ₁ { s₁ with heap := h', toks := tk } := M₁.grow kp
    have M3 : Mem g μ₁ σ₁ { s₁ with heap := h'', toks := tk', drawn := d } := (M2.grow (k := tk') kp').drawn
    have hsz : X.size ≤ sizeLine := by
      have := strsAre_len hsX
      rw [Array.length_toList] at this
      have h2 := hp.length_eq
      have h3 := strsAre_len hadd
      have h4 := addL_len (knd := sK g) [] (ss.zip us.toList)
      rw [List.length_map] at h3
      rw [hlz] at h4
      rw [Array.length_toList] at hl
      simp only [List.length_nil, Nat.zero_add] at h4
      exact Nat.le_trans (by omega : X.size ≤ 64) (by decide +kernel)
    exact hQ (.ref D) _ μ₁ ((x₁.trans x2).trans (Ext.of_keep kp')) M3 (rd_list.mpr ⟨D, X, c, rfl, M2.fresh_of hD, hX, hsz, rds_of_strsAre hsX⟩)
end
end Mine
end PartQ9
noncomputable section PartP0
open PySem PySem.W PyProof.Rows
set_option linter.all false
set_option maxRecDepth 20000
namespace Mine

def stm (k : Nat) : Stmt := PySem.Challenge.pw_pq0055_02.main.body.getD k (.Pass default)
def bodyOf : Stmt → List Stmt
  | .FunctionDef _ _ b _ _ _ _ _ _ _ => b
  | .ClassDef _ _ _ b _ _ _ _ _ _ _ => b
  | _ => []
def scopeOf : Stmt → Scope
  | .FunctionDef _ _ _ _ _ _ s _ _ _ => s
  | .ClassDef _ _ _ _ _ _ s _ _ _ _ => s
  | _ => default
def mth (k j : Nat) : Stmt := (bodyOf (stm k)).getD j (.Pass default)

structure FnIs (K : Frag) (fa : Addr) (ps : List Str) (sc : Scope) (body : List Stmt) : Prop where
  ex : ∃ oc od fd osl, K.lookup fa = some ⟨oc, od, .func fd, osl⟩ ∧ fd.body = .stmts body ∧ fd.scope = sc ∧ fd.globals = mainGlobals ∧ fd.closure = [] ∧ fd.builtins = builtinsNs ∧ codeIn K fd.code fd.qualname = true ∧
    ∀ ws : List Value, ws.length = ps.length → bindArgs fd ⟨ws, []⟩ = pure (ps.zip ws)
def okSc (sc : Scope) (ps : List Str) : Bool :=
  !sc.isCoroutine && !sc.isGenerator && sc.kind == .function && decide ps.Nodup && ps.all (fun x => sc.names.lookup x == some .local || sc.names.lookup x == some .cell) && decide ((cellsFrom 0 sc.names []).map (·.1)).Nodup
section
variable {g : G} {n : Nat} {sc : Scope} {σ σ' τ : List Slot} {v : V}
theorem FnIs.fnc {fa : Addr} {ps : List Str} {body : List Stmt} {args : List V} {o : Outc} (I : FnIs g.K fa ps sc body) (hs : okSc sc ps = true) (hlen : args.length = ps.length)
    (h : EL g n sc body (ps.zip args) σ o) (he : Ends σ'.length σ' τ o v) (hl : σ.length ≤ σ'.length) (hc : Closed σ → Closed σ') : FNc g (n + 1) (.ref fa) args σ v σ' := by
  obtain ⟨oc, od, fd, osl, h1, h2, h3, h4, h5, h6, h7, h8⟩ := I.ex
  simp only [okSc, Bool.and_eq_true, Bool.not_eq_true', beq_iff_eq, decide_eq_true_eq, List.all_eq_true, Bool.or_eq_true] at hs
  obtain ⟨⟨⟨⟨⟨c1, c2⟩, c3⟩, c4⟩, c5⟩, c6⟩ := hs
  exact FNc_core h1 h2 h3 h4 h5 h6 h7 c1 c2 c3 c4 hlen h8 c5 c6 h he hl hc
end
set_option genInjectivity false in
set_option genSizeOf false in
set_option genSizeOfSpec false in
structure Has (g : G) where
  b_len : nsIn g.K mainGlobals ("len" : Str) = some Option.none
  b_sorted : nsIn g.K mainGlobals ("sorted" : Str) = some Option.none
  b_set : nsIn g.K mainGlobals ("set" : Str) = some Option.none
  b_tuple : nsIn g.K mainGlobals ("tuple" : Str) = some Option.none
  b_list : nsIn g.K mainGlobals ("list" : Str) = some Option.none
  b_isinstance : nsIn g.K mainGlobals ("isinstance" : Str) = some Option.none
  b_str : nsIn g.K mainGlobals ("str" : Str) = some Option.none
  b_enumerate : nsIn g.K mainGlobals ("enumerate" : Str) = some Option.none
  b_reversed : nsIn g.K mainGlobals ("reversed" : Str) = some Option.none
  b_range : nsIn g.K mainGlobals ("range" : Str) = some Option.none
  b_dict : nsIn g.K mainGlobals ("dict" : Str) = some Option.none
  a_is_variable : Addr
  n_is_variable : nsIn g.K mainGlobals ("is_variable" : Str) = some (some (.ref a_is_variable))
  k_is_variable : keepIn g.K (.ref a_is_variable) = true
  f_is_variable : FnIs g.K a_is_variable [("t" : Str)] (scopeOf (stm 7)) (bodyOf (stm 7))
  a_variables : Addr
  n_variables : nsIn g.K mainGlobals ("variables" : Str) = some (some (.ref a_variables))
  k_variables : keepIn g.K (.ref a_variables) = true
  f_variables : FnIs g.K a_variables [("t" : Str)] (scopeOf (stm 8)) (bodyOf (stm 8))
  a_placed : Addr
  n_placed : nsIn g.K mainGlobals ("placed" : Str) = some (some (.ref a_placed))
  k_placed : keepIn g.K (.ref a_placed) = true
  f_placed : FnIs g.K a_placed [("pattern" : Str), ("table" : Str)] (scopeOf (stm 9)) (bodyOf (stm 9))
  a_parts : Addr
  n_parts : nsIn g.K mainGlobals ("parts" : Str) = some (some (.ref a_parts))
  k_parts : keepIn g.K (.ref a_parts) = true
  f_parts : FnIs g.K a_parts [("t" : Str)] (scopeOf (stm 10)) (bodyOf (stm 10))
  a_part_at : Addr
  n_part_at : nsIn g.K mainGlobals ("part_at" : Str) = some (some (.ref a_part_at))
  k_part_at : keepIn g.K (.ref a_part_at) = true
  f_part_at : FnIs g.K a_part_at [("t" : Str), ("path" : Str)] (scopeOf (stm 11)) (bodyOf (stm 11))
  a_replaced : Addr
  n_replaced : nsIn g.K mainGlobals ("replaced" : Str) = some (some (.ref a_replaced))
  k_replaced : keepIn g.K (.ref a_replaced) = true
  f_replaced : FnIs g.K a_replaced [("t" : Str), ("path" : Str), ("u" : Str)] (scopeOf (stm 12)) (bodyOf (stm 12))
  a_parts_of : Addr
  n_parts_of : nsIn g.K mainGlobals ("parts_of" : Str) = some (some (.ref a_parts_of))
  k_parts_of : keepIn g.K (.ref a_parts_of) = true
  f_parts_of : FnIs g.K a_parts_of [("paper" : Str)] (scopeOf (stm 14)) (bodyOf (stm 14))
  a_is_plain_term : Addr
  n_is_plain_term : nsIn g.K mainGlobals ("is_plain_term" : Str) = some (some (.ref a_is_plain_term))
  k_is_plain_term : keepIn g.K (.ref a_is_plain_term) = true
  f_is_plain_term : FnIs g.K a_is_plain_term [("thing" : Str)] (scopeOf (stm 15)) (bodyOf (stm 15))
  a_are_places : Addr
  n_are_places : nsIn g.K mainGlobals ("are_places" : Str) = some (some (.ref a_are_places))
  k_are_places : keepIn g.K (.ref a_are_places) = true
  f_are_places : FnIs g.K a_are_places [("thing" : Str)] (scopeOf (stm 16)) (bodyOf (stm 16))
  a_has_form : Addr
  n_has_form : nsIn g.K mainGlobals ("has_form" : Str) = some (some (.ref a_has_form))
  k_has_form : keepIn g.K (.ref a_has_form) = true
  f_has_form : FnIs g.K a_has_form [("thing" : Str)] (scopeOf (stm 17)) (bodyOf (stm 17))
  a_in_order : Addr
  n_in_order : nsIn g.K mainGlobals ("in_order" : Str) = some (some (.ref a_in_order))
  k_in_order : keepIn g.K (.ref a_in_order) = true
  f_in_order : FnIs g.K a_in_order [("paper" : Str)] (scopeOf (stm 18)) (bodyOf (stm 18))
  a_want_form : Addr
  n_want_form : nsIn g.K mainGlobals ("want_form" : Str) = some (some (.ref a_want_form))
  k_want_form : keepIn g.K (.ref a_want_form) = true
  f_want_form : FnIs g.K a_want_form [("paper" : Str), ("path" : Str)] (scopeOf (stm 19)) (bodyOf (stm 19))
  a_turned_step : Addr
  n_turned_step : nsIn g.K mainGlobals ("turned_step" : Str) = some (some (.ref a_turned_step))
  k_turned_step : keepIn g.K (.ref a_turned_step) = true
  f_turned_step : FnIs g.K a_turned_step [("step" : Str)] (scopeOf (stm 21)) (bodyOf (stm 21))
  a_deeper : Addr
  n_deeper : nsIn g.K mainGlobals ("deeper" : Str) = some (some (.ref a_deeper))
  k_deeper : keepIn g.K (.ref a_deeper) = true
  f_deeper : FnIs g.K a_deeper [("step" : Str), ("k" : Str)] (scopeOf (stm 22)) (bodyOf (stm 22))
  a_law_draw : Addr
  n_law_draw : nsIn g.K mainGlobals ("_law_draw" : Str) = some (some (.ref a_law_draw))
  k_law_draw : keepIn g.K (.ref a_law_draw) = true
  f_law_draw : FnIs g.K a_law_draw [("feed" : Str), ("wide" : Str)] (scopeOf (stm 27)) (bodyOf (stm 27))
  a_law_tree : Addr
  n_law_tree : nsIn g.K mainGlobals ("_law_tree" : Str) = some (some (.ref a_law_tree))
  k_law_tree : keepIn g.K (.ref a_law_tree) = true
  f_law_tree : FnIs g.K a_law_tree [("feed" : Str), ("deep" : Str)] (scopeOf (stm 28)) (bodyOf (stm 28))
  a_law_told : Addr
  n_law_told : nsIn g.K mainGlobals ("_law_told" : Str) = some (some (.ref a_law_told))
  k_law_told : keepIn g.K (.ref a_law_told) = true
  f_law_told : FnIs g.K a_law_told [("feed" : Str), ("known" : Str), ("tree" : Str), ("is_back" : Str)] (scopeOf (stm 29)) (bodyOf (stm 29))
  a_law_ruled : Addr
  n_law_ruled : nsIn g.K mainGlobals ("_law_ruled" : Str) = some (some (.ref a_law_ruled))
  k_law_ruled : keepIn g.K (.ref a_law_ruled) = true
  f_law_ruled : FnIs g.K a_law_ruled [("feed" : Str), ("known" : Str), ("tree" : Str)] (scopeOf (stm 30)) (bodyOf (stm 30))
  a_law_paper : Addr
  n_law_paper : nsIn g.K mainGlobals ("_law_paper" : Str) = some (some (.ref a_law_paper))
  k_law_paper : keepIn g.K (.ref a_law_paper) = true
  f_law_paper : FnIs g.K a_law_paper [("feed" : Str), ("known" : Str), ("tree" : Str), ("deep" : Str)] (scopeOf (stm 31)) (bodyOf (stm 31))
  a_law_put_at : Addr
  n_law_put_at : nsIn g.K mainGlobals ("_law_put_at" : Str) = some (some (.ref a_law_put_at))
  k_law_put_at : keepIn g.K (.ref a_law_put_at) = true
  f_law_put_at : FnIs g.K a_law_put_at [("tree" : Str), ("path" : Str), ("other" : Str)] (scopeOf (stm 32)) (bodyOf (stm 32))
  a_law_comes : Addr
  n_law_comes : nsIn g.K mainGlobals ("_law_comes" : Str) = some (some (.ref a_law_comes))
  k_law_comes : keepIn g.K (.ref a_law_comes) = true
  f_law_comes : FnIs g.K a_law_comes [("row" : Str), ("known" : Str)] (scopeOf (stm 33)) (bodyOf (stm 33))
  c_Judge : Addr
  n_Judge : nsIn g.K mainGlobals ("Judge" : Str) = some (some (.ref c_Judge))
  k_Judge : keepIn g.K (.ref c_Judge) = true
  a_Judge_init : Addr
  f_Judge_init : FnIs g.K a_Judge_init [("self" : Str), ("rules" : Str), ("told" : Str)] (scopeOf (mth 20 0)) (bodyOf (mth 20 0))
  a_Judge_told_sides : Addr
  f_Judge_told_sides : FnIs g.K a_Judge_told_sides [("self" : Str), ("label" : Str), ("place" : Str)] (scopeOf (mth 20 1)) (bodyOf (mth 20 1))
  m_Judge_told_sides : Meth g.K c_Judge "told_sides" a_Judge_told_sides
  a_Judge_rule_sides : Addr
  f_Judge_rule_sides : FnIs g.K a_Judge_rule_sides [("self" : Str), ("name" : Str), ("places" : Str), ("place" : Str)] (scopeOf (mth 20 2)) (bodyOf (mth 20 2))
  m_Judge_rule_sides : Meth g.K c_Judge "rule_sides" a_Judge_rule_sides
  a_Judge_sides_of : Addr
  f_Judge_sides_of : FnIs g.K a_Judge_sides_of [("self" : Str), ("paper" : Str), ("path" : Str), ("sides" : Str)] (scopeOf (mth 20 3)) (bodyOf (mth 20 3))
  m_Judge_sides_of : Meth g.K c_Judge "sides_of" a_Judge_sides_of
  a_Judge_sides : Addr
  f_Judge_sides : FnIs g.K a_Judge_sides [("self" : Str), ("paper" : Str)] (scopeOf (mth 20 4)) (bodyOf (mth 20 4))
  m_Judge_sides : Meth g.K c_Judge "sides" a_Judge_sides
  mk_Judge : Maker g.K c_Judge a_Judge_init
  p_Judge_rules : Plain g.K c_Judge "rules"
  s_Judge_rules : Setter g.K c_Judge "rules"
  p_Judge_told : Plain g.K c_Judge "told"
  s_Judge_told : Setter g.K c_Judge "told"
  c_Steps : Addr
  n_Steps : nsIn g.K mainGlobals ("Steps" : Str) = some (some (.ref c_Steps))
  k_Steps : keepIn g.K (.ref c_Steps) = true
  a_Steps_init : Addr
  f_Steps_init : FnIs g.K a_Steps_init [("self" : Str), ("judge" : Str)] (scopeOf (mth 23 0)) (bodyOf (mth 23 0))
  a_Steps_of_paper : Addr
  f_Steps_of_paper : FnIs g.K a_Steps_of_paper [("self" : Str), ("paper" : Str)] (scopeOf (mth 23 1)) (bodyOf (mth 23 1))
  m_Steps_of_paper : Meth g.K c_Steps "of_paper" a_Steps_of_paper
  a_Steps_sides : Addr
  f_Steps_sides : FnIs g.K a_Steps_sides [("self" : Str), ("step" : Str), ("number" : Str)] (scopeOf (mth 23 2)) (bodyOf (mth 23 2))
  m_Steps_sides : Meth g.K c_Steps "sides" a_Steps_sides
  a_Steps_stepped : Addr
  f_Steps_stepped : FnIs g.K a_Steps_stepped [("self" : Str), ("term" : Str), ("step" : Str), ("number" : Str)] (scopeOf (mth 23 3)) (bodyOf (mth 23 3))
  m_Steps_stepped : Meth g.K c_Steps "stepped" a_Steps_stepped
  a_Steps_walk : Addr
  f_Steps_walk : FnIs g.K a_Steps_walk [("self" : Str), ("term" : Str), ("steps" : Str)] (scopeOf (mth 23 4)) (bodyOf (mth 23 4))
  m_Steps_walk : Meth g.K c_Steps "walk" a_Steps_walk
  mk_Steps : Maker g.K c_Steps a_Steps_init
  p_Steps_judge : Plain g.K c_Steps "judge"
  s_Steps_judge : Setter g.K c_Steps "judge"
  c_Rule : Addr
  n_Rule : nsIn g.K mainGlobals ("Rule" : Str) = some (some (.ref c_Rule))
  k_Rule : keepIn g.K (.ref c_Rule) = true
  a_Rule_init : Addr
  f_Rule_init : FnIs g.K a_Rule_init [("self" : Str), ("name" : Str), ("left" : Str), ("right" : Str), ("needs" : Str)] (scopeOf (mth 25 0)) (bodyOf (mth 25 0))
  mk_Rule : Maker g.K c_Rule a_Rule_init
  p_Rule_name : Plain g.K c_Rule "name"
  s_Rule_name : Setter g.K c_Rule "name"
  p_Rule_left : Plain g.K c_Rule "left"
  s_Rule_left : Setter g.K c_Rule "left"
  p_Rule_right : Plain g.K c_Rule "right"
  s_Rule_right : Setter g.K c_Rule "right"
  p_Rule_needs : Plain g.K c_Rule "needs"
  s_Rule_needs : Setter g.K c_Rule "needs"
theorem ok_is_variable : okSc (scopeOf (stm 7)) [("t" : Str)] = true := by decide +kernel
theorem ok_variables : okSc (scopeOf (stm 8)) [("t" : Str)] = true := by decide +kernel
theorem ok_placed : okSc (scopeOf (stm 9)) [("pattern" : Str), ("table" : Str)] = true := by decide +kernel
theorem ok_parts : okSc (scopeOf (stm 10)) [("t" : Str)] = true := by decide +kernel
theorem ok_part_at : okSc (scopeOf (stm 11)) [("t" : Str), ("path" : Str)] = true := by decide +kernel
theorem ok_replaced : okSc (scopeOf (stm 12)) [("t" : Str), ("path" : Str), ("u" : Str)] = true := by decide +kernel
theorem ok_parts_of : okSc (scopeOf (stm 14)) [("paper" : Str)] = true := by decide +kernel
theorem ok_is_plain_term : okSc (scopeOf (stm 15)) [("thing" : Str)] = true := by decide +kernel
theorem ok_are_places : okSc (scopeOf (stm 16)) [("thing" : Str)] = true := by decide +kernel
theorem ok_has_form : okSc (scopeOf (stm 17)) [("thing" : Str)] = true := by decide +kernel
theorem ok_in_order : okSc (scopeOf (stm 18)) [("paper" : Str)] = true := by decide +kernel
theorem ok_want_form : okSc (scopeOf (stm 19)) [("paper" : Str), ("path" : Str)] = true := by decide +kernel
theorem ok_turned_step : okSc (scopeOf (stm 21)) [("step" : Str)] = true := by decide +kernel
theorem ok_deeper : okSc (scopeOf (stm 22)) [("step" : Str), ("k" : Str)] = true := by decide +kernel
theorem ok_law_draw : okSc (scopeOf (stm 27)) [("feed" : Str), ("wide" : Str)] = true := by decide +kernel
theorem ok_law_tree : okSc (scopeOf (stm 28)) [("feed" : Str), ("deep" : Str)] = true := by decide +kernel
theorem ok_law_told : okSc (scopeOf (stm 29)) [("feed" : Str), ("known" : Str), ("tree" : Str), ("is_back" : Str)] = true := by decide +kernel
theorem ok_law_ruled : okSc (scopeOf (stm 30)) [("feed" : Str), ("known" : Str), ("tree" : Str)] = true := by decide +kernel
theorem ok_law_paper : okSc (scopeOf (stm 31)) [("feed" : Str), ("known" : Str), ("tree" : Str), ("deep" : Str)] = true := by decide +kernel
theorem ok_law_put_at : okSc (scopeOf (stm 32)) [("tree" : Str), ("path" : Str), ("other" : Str)] = true := by decide +kernel
theorem ok_law_comes : okSc (scopeOf (stm 33)) [("row" : Str), ("known" : Str)] = true := by decide +kernel
theorem ok_Judge_init : okSc (scopeOf (mth 20 0)) [("self" : Str), ("rules" : Str), ("told" : Str)] = true := by decide +kernel
theorem ok_Judge_told_sides : okSc (scopeOf (mth 20 1)) [("self" : Str), ("label" : Str), ("place" : Str)] = true := by decide +kernel
theorem ok_Judge_rule_sides : okSc (scopeOf (mth 20 2)) [("self" : Str), ("name" : Str), ("places" : Str), ("place" : Str)] = true := by decide +kernel
theorem ok_Judge_sides_of : okSc (scopeOf (mth 20 3)) [("self" : Str), ("paper" : Str), ("path" : Str), ("sides" : Str)] = true := by decide +kernel
theorem ok_Judge_sides : okSc (scopeOf (mth 20 4)) [("self" : Str), ("paper" : Str)] = true := by decide +kernel
theorem ok_Steps_init : okSc (scopeOf (mth 23 0)) [("self" : Str), ("judge" : Str)] = true := by decide +kernel
theorem ok_Steps_of_paper : okSc (scopeOf (mth 23 1)) [("self" : Str), ("paper" : Str)] = true := by decide +kernel
theorem ok_Steps_sides : okSc (scopeOf (mth 23 2)) [("self" : Str), ("step" : Str), ("number" : Str)] = true := by decide +kernel
theorem ok_Steps_stepped : okSc (scopeOf (mth 23 3)) [("self" : Str), ("term" : Str), ("step" : Str), ("number" : Str)] = true := by decide +kernel
theorem ok_Steps_walk : okSc (scopeOf (mth 23 4)) [("self" : Str), ("term" : Str), ("steps" : Str)] = true := by decide +kernel
theorem ok_Rule_init : okSc (scopeOf (mth 25 0)) [("self" : Str), ("name" : Str), ("left" : Str), ("right" : Str), ("needs" : Str)] = true := by decide +kernel
theorem bb_len : bootBuiltins ("len" : Str) = some (.builtin "len") := by decide +kernel
theorem bb_sorted : bootBuiltins ("sorted" : Str) = some (.builtin "sorted") := by decide +kernel
theorem bb_set : bootBuiltins ("set" : Str) = some (.type "set") := by decide +kernel
theorem bb_tuple : bootBuiltins ("tuple" : Str) = some (.type "tuple") := by decide +kernel
theorem bb_list : bootBuiltins ("list" : Str) = some (.type "list") := by decide +kernel
theorem bb_isinstance : bootBuiltins ("isinstance" : Str) = some (.builtin "isinstance") := by decide +kernel
theorem bb_str : bootBuiltins ("str" : Str) = some (.type "str") := by decide +kernel
theorem bb_enumerate : bootBuiltins ("enumerate" : Str) = some (.type "enumerate") := by decide +kernel
theorem bb_reversed : bootBuiltins ("reversed" : Str) = some (.type "reversed") := by decide +kernel
theorem bb_range : bootBuiltins ("range" : Str) = some (.type "range") := by decide +kernel
theorem bb_dict : bootBuiltins ("dict" : Str) = some (.type "dict") := by decide +kernel

end Mine
end PartP0
noncomputable section PartP1
open PySem PySem.W PyProof.Rows
set_option linter.all false
set_option maxRecDepth 20000
namespace Mine
theorem seqIndex_nat {k len : Nat} (h : k < len) : seqIndex? (k : Int) len = some k := by
  unfold seqIndex?
  have h1 : ¬ ((k : Int) < 0) := by omega
  have h2 : (0 : Int) ≤ (k : Int) := by omega
  have h3 : (k : Int) < (len : Int) := by omega
  simp [h1, h2, h3]
section
variable {g : G} {n : Nat} {sc : Scope} {ρ : List (Str × V)} {σ σ₁ σ₂ σ₃ : List Slot} {pos apos p p2 pt : Pos} {v v' v₁ v₂ v₃ : V} {value slice : Expr} {a b c d e : PyData} {ds : List PyData}
theorem OP.cast {f : List Value → Sem Value} {args : List V} (h : OP g n f args σ v σ₁) (e : v = v') : OP g n f args σ v' σ₁ := e ▸ h
theorem EV.cast {e : Expr} (h : EV g n sc e ρ σ v σ₁) (q : v = v') : EV g n sc e ρ σ v' σ₁ := q ▸ h
theorem TV.cast {e : Expr} {b b' : Bool} (h : TV g n sc e ρ σ b σ₁) (q : b = b') : TV g n sc e ρ σ b' σ₁ := q ▸ h
theorem EV.castb {e : Expr} {b b' : Bool} (h : EV g n sc e ρ σ (.dat (.bool b)) σ₁) (q : b = b') : EV g n sc e ρ σ (.dat (.bool b')) σ₁ := q ▸ h
theorem OP.castb {f : List Value → Sem Value} {args : List V} {b b' : Bool} (h : OP g n f args σ (.dat (.bool b)) σ₁) (e : b = b') : OP g n f args σ (.dat (.bool b')) σ₁ := e ▸ h
theorem OP.itemN {xs : List PyData} {k : Nat} (hd : xs[k]? = some d) (hk : k < 2 ^ 60)
    (hs : ∀ o i, subscripted slice false o i = operate [o, i] (getItem o i) := by intro _ _; rfl) :
    OP g n (op2 (subscriptTail value slice)) [.dat (.tuple xs), .dat (.int (k : Int))] σ (.dat d) σ :=
  OP.item_tup (j := k) (seqIndex_nat (List.getElem?_eq_some_iff.mp hd).1) hd (by omega) (by omega) hs
theorem OP.item0 (hs : ∀ o i, subscripted slice false o i = operate [o, i] (getItem o i) := by intro _ _; rfl) :
    OP g n (op2 (subscriptTail value slice)) [.dat (.tuple (d :: ds)), .dat (.int 0)] σ (.dat d) σ := OP.itemN (k := 0) rfl (by decide) hs
theorem OP.item1 (hs : ∀ o i, subscripted slice false o i = operate [o, i] (getItem o i) := by intro _ _; rfl) :
    OP g n (op2 (subscriptTail value slice)) [.dat (.tuple (a :: d :: ds)), .dat (.int 1)] σ (.dat d) σ := OP.itemN (k := 1) rfl (by decide) hs
theorem OP.item2 (hs : ∀ o i, subscripted slice false o i = operate [o, i] (getItem o i) := by intro _ _; rfl) :
    OP g n (op2 (subscriptTail value slice)) [.dat (.tuple (a :: b :: d :: ds)), .dat (.int 2)] σ (.dat d) σ := OP.itemN (k := 2) rfl (by decide) hs
theorem OP.item3 (hs : ∀ o i, subscripted slice false o i = operate [o, i] (getItem o i) := by intro _ _; rfl) :
    OP g n (op2 (subscriptTail value slice)) [.dat (.tuple (a :: b :: c :: d :: ds)), .dat (.int 3)] σ (.dat d) σ := OP.itemN (k := 3) rfl (by decide) hs
theorem OP.item4 (hs : ∀ o i, subscripted slice false o i = operate [o, i] (getItem o i) := by intro _ _; rfl) :
    OP g n (op2 (subscriptTail value slice)) [.dat (.tuple (a :: b :: c :: e :: d :: ds)), .dat (.int 4)] σ (.dat d) σ := OP.itemN (k := 4) rfl (by decide) hs
theorem OP.litem0 (hs : ∀ o i, subscripted slice false o i = operate [o, i] (getItem o i) := by intro _ _; rfl) :
    OP g n (op2 (subscriptTail value slice)) [.dat (.list (d :: ds)), .dat (.int 0)] σ (.dat d) σ := OP.item_lst (by decide) rfl (by decide) hs
theorem OP.litem1 (hs : ∀ o i, subscripted slice false o i = operate [o, i] (getItem o i) := by intro _ _; rfl) :
    OP g n (op2 (subscriptTail value slice)) [.dat (.list (a :: d :: ds)), .dat (.int 1)] σ (.dat d) σ := OP.item_lst (by decide) rfl (by decide) hs
theorem OP.litem2 (hs : ∀ o i, subscripted slice false o i = operate [o, i] (getItem o i) := by intro _ _; rfl) :
    OP g n (op2 (subscriptTail value slice)) [.dat (.list (a :: b :: d :: ds)), .dat (.int 2)] σ (.dat d) σ := OP.item_lst (by decide) rfl (by decide) hs

/-- slices of tuples and texts, ready -/
theorem EV.tdrop {l : Expr} {xs : List PyData} {k : Nat} (hv : EV g n sc value ρ σ (.dat (.tuple xs)) σ₁) (hl : EV g n sc l ρ σ₁ (.dat (.int (k : Int))) σ₁) (h1 : 1 ≤ k) (h2 : k ≤ xs.length) :
    EV g n sc (.Subscript value (.Slice (some l) Option.none Option.none p) pos) ρ σ (.dat (.tuple (xs.drop k))) σ₁ := EV.slice hv (PV.some hl) PV.none PV.none (tup_from h1 h2)
theorem EV.tdrop1 {k : Nat} (hv : EV g n sc value ρ σ (.dat (.tuple (d :: ds))) σ₁) :
    EV g n sc (.Subscript value (.Slice (some (.Constant (.int 1) k pt)) Option.none Option.none p) pos) ρ σ (.dat (.tuple ds)) σ₁ := EV.tdrop (k := 1) hv EV.int (by decide) (by simp)
theorem EV.ttake {u : Expr} {xs : List PyData} {k : Nat} (hv : EV g n sc value ρ σ (.dat (.tuple xs)) σ₁) (hl : EV g n sc u ρ σ₁ (.dat (.int (k : Int))) σ₁) :
    EV g n sc (.Subscript value (.Slice Option.none (some u) Option.none p) pos) ρ σ (.dat (.tuple (xs.take k))) σ₁ := EV.slice hv PV.none (PV.some hl) PV.none tup_upto
theorem EV.ttake1 {k : Nat} (hv : EV g n sc value ρ σ (.dat (.tuple (d :: ds))) σ₁) :
    EV g n sc (.Subscript value (.Slice Option.none (some (.Constant (.int 1) k pt)) Option.none p) pos) ρ σ (.dat (.tuple [d])) σ₁ := EV.ttake (k := 1) hv EV.int
theorem EV.ttake4 {k : Nat} (hv : EV g n sc value ρ σ (.dat (.tuple (a :: b :: c :: d :: ds))) σ₁) :
    EV g n sc (.Subscript value (.Slice Option.none (some (.Constant (.int 4) k pt)) Option.none p) pos) ρ σ (.dat (.tuple [a, b, c, d])) σ₁ := EV.ttake (k := 4) hv EV.int
def fst (x : Str) : Str := Txt.slice x Option.none (some 1)
theorem EV.sfst {x : Str} {k : Nat} (hv : EV g n sc value ρ σ (.dat (.str x)) σ₁) (hz : x.length ≤ 1000) :
    EV g n sc (.Subscript value (.Slice Option.none (some (.Constant (.int 1) k pt)) Option.none p) pos) ρ σ (.dat (.str (fst x))) σ₁ :=
  EV.slice hv PV.none (PV.some EV.int) PV.none (str_upto (Nat.le_trans hz (Nat.le_of_ble_eq_true rfl)) fun _ _ => ⟨_, rfl⟩)
theorem EV.lrev {k : Nat} {xs : List PyData} (hv : EV g n sc value ρ σ v₁ σ₁) (c1 : cont σ₁ v₁ = some (.list xs)) :
    EV g n sc (.Subscript value (.Slice Option.none Option.none (some (.UnaryOp .USub (.Constant (.int 1) k pt) p2)) p) pos) ρ σ (.dat (.list xs.reverse)) σ₁ :=
  EV.slice hv PV.none PV.none (PV.some (EV.un EV.int OP.neg)) (lst_rev c1)

theorem BO.andT {e e'} {es : List Expr} {b : Bool} (h : EV g n sc e ρ σ (.dat (.bool b)) σ₁) (q : b = true) (h2 : BO g n sc .And (e' :: es) ρ σ₁ v σ₂) : BO g n sc .And (e :: e' :: es) ρ σ v σ₂ := by
  subst q; exact BO.and_go h h2
theorem BO.andF {e e'} {es : List Expr} {b : Bool} (h : EV g n sc e ρ σ (.dat (.bool b)) σ₁) (q : b = false) : BO g n sc .And (e :: e' :: es) ρ σ (.dat (.bool false)) σ₁ := by
  subst q; exact BO.and_stop h
theorem BO.orT {e e'} {es : List Expr} {b : Bool} (h : EV g n sc e ρ σ (.dat (.bool b)) σ₁) (q : b = true) : BO g n sc .Or (e :: e' :: es) ρ σ (.dat (.bool true)) σ₁ := by
  subst q; exact BO.or_stop h
theorem BO.orF {e e'} {es : List Expr} {b : Bool} (h : EV g n sc e ρ σ (.dat (.bool b)) σ₁) (q : b = false) (h2 : BO g n sc .Or (e' :: es) ρ σ₁ v σ₂) : BO g n sc .Or (e :: e' :: es) ρ σ v σ₂ := by
  subst q; exact BO.or_go h h2
theorem AT.andT {e} {es : List Expr} {b c : Bool} (h : TV g n sc e ρ σ b σ₁) (q : b = true) (h2 : AT g n sc .And es ρ σ₁ c σ₂) : AT g n sc .And (e :: es) ρ σ c σ₂ := by
  subst q; exact AT.and_go h h2
theorem AT.andF {e} {es : List Expr} {b : Bool} (h : TV g n sc e ρ σ b σ₁) (q : b = false) : AT g n sc .And (e :: es) ρ σ false σ₁ := by
  subst q; exact AT.and_stop h
theorem AT.orT {e} {es : List Expr} {b : Bool} (h : TV g n sc e ρ σ b σ₁) (q : b = true) : AT g n sc .Or (e :: es) ρ σ true σ₁ := by
  subst q; exact AT.or_stop h
theorem AT.orF {e} {es : List Expr} {b c : Bool} (h : TV g n sc e ρ σ b σ₁) (q : b = false) (h2 : AT g n sc .Or es ρ σ₁ c σ₂) : AT g n sc .Or (e :: es) ρ σ c σ₂ := by
  subst q; exact AT.or_go h h2
theorem AT.orNil : AT g n sc .Or [] ρ σ false σ := AT.nil
theorem AT.andNil : AT g n sc .And [] ρ σ true σ := AT.nil
theorem ES.ifT {e} {body orelse : List Stmt} {o : Outc} {b : Bool} (h : TV g n sc e ρ σ b σ₁) (q : b = true) (h2 : EL g n sc body ρ σ₁ o) : ES g n sc (.If e body orelse pos) ρ σ o := by subst q; exact ES.if_true h h2
theorem ES.ifF {e} {body orelse : List Stmt} {o : Outc} {b : Bool} (h : TV g n sc e ρ σ b σ₁) (q : b = false) (h2 : EL g n sc orelse ρ σ₁ o) : ES g n sc (.If e body orelse pos) ρ σ o := by subst q; exact ES.if_false h h2
theorem ES.ifF0 {e} {body : List Stmt} {b : Bool} (h : TV g n sc e ρ σ b σ₁) (q : b = false) : ES g n sc (.If e body [] pos) ρ σ (.next ρ σ₁) := ES.ifF h q EL.nil
theorem EV.ifT {t x y : Expr} {b : Bool} (h : TV g n sc t ρ σ b σ₁) (q : b = true) (h2 : EV g n sc x ρ σ₁ v σ₂) : EV g n sc (.IfExp t x y pos) ρ σ v σ₂ := by subst q; exact EV.ifexp_true h h2
theorem EV.ifF {t x y : Expr} {b : Bool} (h : TV g n sc t ρ σ b σ₁) (q : b = false) (h2 : EV g n sc y ρ σ₁ v σ₂) : EV g n sc (.IfExp t x y pos) ρ σ v σ₂ := by subst q; exact EV.ifexp_false h h2
section
variable {x : Expr}
theorem EV.len (H : Has g) (hx : sc.names.lookup ("len" : Str) = some NameKind.globalImplicit) (ha : EVs g n sc [x] ρ σ [v₁] σ₁) (hf : CA g n (.builtin "len") [v₁] σ₁ v σ₁) (he : ∀ env, starEach [x] env = (false, eval x env) :: starEach [] env := by intro _; rfl) :
    EV g n sc (.Call (.Name "len" p) [x] [] pos) ρ σ v σ₁ := EV.call_bi hx H.b_len bb_len ha hf he
theorem EV.tuple_ (H : Has g) (hx : sc.names.lookup ("tuple" : Str) = some NameKind.globalImplicit) {xs : List PyData} (ha : EVs g n sc [x] ρ σ [.dat (.list xs)] σ₁) (he : ∀ env, starEach [x] env = (false, eval x env) :: starEach [] env := by intro _; rfl) :
    EV g n sc (.Call (.Name "tuple" p) [x] [] pos) ρ σ (.dat (.tuple xs)) σ₁ := EV.call_ty hx H.b_tuple bb_tuple ha CA.tuple_lst he
theorem EV.list_ (H : Has g) (hx : sc.names.lookup ("list" : Str) = some NameKind.globalImplicit) (ha : EVs g n sc [x] ρ σ [v₁] σ₁) (hf : CA g n (.type "list") [v₁] σ₁ v σ₁) (he : ∀ env, starEach [x] env = (false, eval x env) :: starEach [] env := by intro _; rfl) :
    EV g n sc (.Call (.Name "list" p) [x] [] pos) ρ σ v σ₁ := EV.call_ty hx H.b_list bb_list ha hf he
theorem EV.str_ (H : Has g) (hx : sc.names.lookup ("str" : Str) = some NameKind.globalImplicit) (ha : EVs g n sc [x] ρ σ [v₁] σ₁) (hf : CA g n (.type "str") [v₁] σ₁ v σ₁) (he : ∀ env, starEach [x] env = (false, eval x env) :: starEach [] env := by intro _; rfl) :
    EV g n sc (.Call (.Name "str" p) [x] [] pos) ρ σ v σ₁ := EV.call_ty hx H.b_str bb_str ha hf he
end
end

/-- terms -/
inductive T where
  | a | b | x | y
  | f (t : T)
  | g (t u : T)
  deriving DecidableEq
namespace T
def nm : T → Str
  | a => "a" | b => "b" | x => "?x" | y => "?y" | f _ => "f" | g _ _ => "g"
def kids : T → List T
  | f t => [t] | g t u => [t, u] | _ => []
def d : T → PyData
  | a => .tuple [.str "a"] | b => .tuple [.str "b"] | x => .tuple [.str "?x"] | y => .tuple [.str "?y"]
  | f t => .tuple [.str "f", t.d] | g t u => .tuple [.str "g", t.d, u.d]
def ds (t : T) : List PyData := .str t.nm :: t.kids.map d
theorem d_eq (t : T) : t.d = .tuple t.ds := by cases t <;> rfl
def isVar : T → Bool
  | x | y => true
  | _ => false
def depth : T → Nat
  | f t => t.depth + 1 | g t u => max t.depth u.depth + 1 | _ => 0
def size : T → Nat
  | f t => t.size + 1 | g t u => t.size + u.size + 1 | _ => 1
end T
end Mine
end PartP1
noncomputable section PartP2
open PySem PySem.W PyProof.Rows
set_option linter.all false
set_option maxRecDepth 20000
namespace Mine
section
variable {g : G} {n : Nat} {sc : Scope} {σ σ' τ : List Slot} {v : V} {fa : Addr} {ps : List Str} {body : List Stmt} {args : List V} {d : PyData}
theorem FnIs.pure (I : FnIs g.K fa ps sc body) (hs : okSc sc ps = true) (hn : 1 ≤ n) (τ : List Slot) (h : EL g (n - 1) sc body (ps.zip args) σ (.ret (.dat d) (σ ++ τ))) (hlen : args.length = ps.length := by rfl) : FNc g n (.ref fa) args σ (.dat d) σ := by
  obtain ⟨n, rfl⟩ : ∃ m, n = m + 1 := ⟨n - 1, by omega⟩
  exact I.fnc hs hlen h (.ret (.dat _)) (Nat.le_refl _) id
theorem FnIs.plain (I : FnIs g.K fa ps sc body) (hs : okSc sc ps = true) (hn : 1 ≤ n) (h : EL g (n - 1) sc body (ps.zip args) σ (.ret (.dat d) σ)) (hlen : args.length = ps.length := by rfl) : FNc g n (.ref fa) args σ (.dat d) σ :=
  I.pure hs hn [] (by simpa using h) hlen
theorem FnIs.lst (I : FnIs g.K fa ps sc body) (hs : okSc sc ps = true) (hn : 1 ≤ n) (τ : List Slot) {i j : Nat} {xs : List PyData} (h : EL g (n - 1) sc body (ps.zip args) σ (.ret (.ref i) (σ ++ τ))) (hi : i = σ.length + j) (hj : τ[j]? = some (.list xs))
    (hlen : args.length = ps.length := by rfl) : FNc g n (.ref fa) args σ (.dat (.list xs)) σ := by
  obtain ⟨n, rfl⟩ : ∃ m, n = m + 1 := ⟨n - 1, by omega⟩
  subst hi
  exact I.fnc hs hlen h (.ret (.list hj)) (Nat.le_refl _) id
end
section
variable {g : G} {n : Nat} {σ σ' τ : List Slot} {v : V}
theorem c_is_variable (H : Has g) (t : T) (hn : 1 ≤ n) : FNc g n (.ref H.a_is_variable) [.dat t.d] σ (.dat (.bool t.isVar)) σ := by
  refine H.f_is_variable.plain ok_is_variable hn ?_
  refine EL.ret (ES.return (EV.boolop ?_))
  cases t <;> first
    | exact BO.andT (EV.cmp1 (EV.len H rfl (EVs.cons (EV.name rfl) EVs.nil) (by first | exact CA.len_tup | exact CA.len_cont rfl | exact CA.len_cont cont_e0 | exact CA.len_cont cont_e1 | exact CA.len_cont (by assumption))) EV.int (by first | exact OP.eq_int | exact OP.eq_str)) rfl (BO.last (EV.castb (EV.cmp1 (EV.sfst (EV.sub (EV.name rfl) EV.int (by first | exact OP.item0 | exact OP.litem0)) (by first | assumption | exact Nat.le_of_ble_eq_true rfl)) EV.str (by first | exact OP.eq_int | exact OP.eq_str)) (by decide +kernel)))
    | exact BO.andF (EV.cmp1 (EV.len H rfl (EVs.cons (EV.name rfl) EVs.nil) (by first | exact CA.len_tup | exact CA.len_cont rfl | exact CA.len_cont cont_e0 | exact CA.len_cont cont_e1 | exact CA.len_cont (by assumption))) EV.int (by first | exact OP.eq_int | exact OP.eq_str)) rfl
end
end Mine
end PartP2
noncomputable section PartP3
open PySem PySem.W PyProof.Rows
set_option linter.all false
set_option maxRecDepth 20000
namespace Mine
def scopedB (sc scope : Scope) (ks : List Str) : Bool :=
  scope.kind == .function && scope.names.all (fun y => y.2 != .cell) && scope.names.all (fun y => y.2 != .local || scope.names.lookup y.1 == some .local) &&
    scope.names.all (fun y => y.2 != .free || sc.names.lookup y.1 == some .cell) &&
    ks.all fun k => decide ((k, NameKind.free) ∈ scope.names) && ((relab scope sc).names.lookup k == some .cell || (relab scope sc).names.lookup k == some .free)
section
variable {g : G} {n : Nat} {sc scope : Scope} {ρ ρ' caps : List (Str × V)} {σ σ₁ σ₂ : List Slot} {pos : Pos} {v : V} {elt target iter c : Expr} {ds : List PyData} {out : Nat → PyData → PyData} {tg : Expr → Prop}
theorem Scoped.of (ks : List Str) (hb : scopedB sc scope ks = true) (hks : caps.map (·.1) = ks) (hc : ∀ q ∈ caps, ρ.lookup q.1 = some q.2) : Scoped sc scope ρ caps := by
  subst hks
  simp only [scopedB, Bool.and_eq_true, List.all_eq_true, Bool.or_eq_true, beq_iff_eq, bne_iff_ne, ne_eq, decide_eq_true_eq, List.mem_map, forall_exists_index, and_imp, forall_apply_eq_imp_iff₂] at hb
  obtain ⟨⟨⟨⟨h1, h2⟩, h3⟩, h4⟩, h5⟩ := hb
  exact ⟨h1, h2, fun y hy hk => (h3 y hy).resolve_left (fun q => q hk), fun y hy hk => (h4 y hy).resolve_left (fun q => q hk), fun q hq => ⟨hc q hq, (h5 q hq).1, (h5 q hq).2⟩⟩
theorem slot_end {x : Slot} : (σ ++ [x])[σ.length]? = some x := by simp
theorem set_end {ys zs : List PyData} : (σ ++ [Slot.list ys]).set σ.length (.list zs) = σ ++ [.list zs] := by rw [List.set_append_right _ _ (Nat.le_refl _)]; simp
theorem EL.done (e : σ = σ₁) : EL g n sc [] ρ σ (.next ρ σ₁) := e ▸ EL.nil
/-- a comprehension of one generator whose turns leave the store as it is -/
theorem EV.comp1 (S : Scoped sc scope ρ caps) (hi : ITR g n sc iter ρ σ ds out tg σ₁) (ht : tg target) (ys : List PyData) (hl : ys.length = ds.length) (hz : ys.length ≤ 1000000)
    (step : ∀ i d y, ds[i]? = some d → ys[i]? = some y → ∃ ρ₁, AL g (relab scope sc) target (out i d) caps ρ₁ ∧ Sub caps ρ₁ ∧ ∀ zs, EV g n (relab scope sc) elt ρ₁ (σ₁ ++ [.list zs]) (.dat y) (σ₁ ++ [.list zs]))
    (hs : ∀ x env, foldedSetIterable iter env x = pure x := by intro _ _; rfl) :
    EV g n sc (.ListComp elt [⟨target, iter, [], 0⟩] scope pos) ρ σ (.dat (.list ys)) σ₁ := by
  have h := EV.comp (tail := ifsT g [] (emitT g elt)) (elt := elt) (pos := pos) S hi ht (fun _ => σ₁) (fun i => ys.take i) rfl (by simp) (fun _ _ => rfl) id (fun A it D cenv s Q E' h => turn1 h) (fun i d hd => by
    have hi : i < ys.length := by rw [hl]; exact (List.getElem?_eq_some_iff.mp hd).1
    obtain ⟨ρ₁, h1, h2, h3⟩ := step i d ys[i] hd (List.getElem?_eq_getElem hi)
    refine ⟨ρ₁, h1, h2, TN.ifs_nil ?_⟩
    show TN g n (relab scope sc) (emitT g elt) ρ₁ σ₁ (ys.take i) σ₁ (ys.take (i + 1))
    rw [List.take_succ_eq_append_getElem hi]
    refine TN.emit (h3 _) rfl ?_
    have := sizeLine_eq
    rw [List.length_take]; omega) hs
  have e : ys.take ds.length = ys := by rw [← hl]; simp
  simp only [e] at h
  exact h
/-- the same with a test, its outcome known item by item -/
theorem EV.comp1t (S : Scoped sc scope ρ caps) (hi : ITR g n sc iter ρ σ ds out tg σ₁) (ht : tg target) (f : Nat → Option PyData) (hz : ds.length ≤ 1000000)
    (step : ∀ i d, ds[i]? = some d → ∃ ρ₁, AL g (relab scope sc) target (out i d) caps ρ₁ ∧ Sub caps ρ₁ ∧ ∀ zs, TV g n (relab scope sc) c ρ₁ (σ₁ ++ [.list zs]) (f i).isSome (σ₁ ++ [.list zs]) ∧
      ∀ y, f i = some y → EV g n (relab scope sc) elt ρ₁ (σ₁ ++ [.list zs]) (.dat y) (σ₁ ++ [.list zs]))
    (hs : ∀ x env, foldedSetIterable iter env x = pure x := by intro _ _; rfl) :
    EV g n sc (.ListComp elt [⟨target, iter, [c], 0⟩] scope pos) ρ σ (.dat (.list ((List.range ds.length).filterMap f))) σ₁ :=
  EV.comp (tail := ifsT g [c] (emitT g elt)) (elt := elt) (pos := pos) S hi ht (fun _ => σ₁) (fun i => (List.range i).filterMap f) rfl (by simp) (fun _ _ => rfl) id (fun A it D cenv s Q E' h => turn1 h) (fun i d hd => by
    have hi : i < ds.length := (List.getElem?_eq_some_iff.mp hd).1
    obtain ⟨ρ₁, h1, h2, h3⟩ := step i d hd
    refine ⟨ρ₁, h1, h2, ?_⟩
    show TN g n (relab scope sc) (ifsT g [c] (emitT g elt)) ρ₁ σ₁ ((List.range i).filterMap f) σ₁ ((List.range (i + 1)).filterMap f)
    obtain ⟨h4, h5⟩ := h3 ((List.range i).filterMap f)
    rw [List.range_succ, List.filterMap_append]
    have hlen : ((List.range i).filterMap f).length ≤ i := by have := List.length_filterMap_le f (List.range i); simpa using this
    have := sizeLine_eq
    cases hf : f i with
    | none =>
      rw [hf] at h4
      have : List.filterMap f [i] = [] := by simp [hf]
      rw [this, List.append_nil]
      exact TN.if_false h4
    | some y =>
      rw [hf] at h4
      have : List.filterMap f [i] = [y] := by simp [hf]
      rw [this]
      exact TN.if_true h4 rfl (TN.emit (h5 y hf) rfl (by omega))) hs
end
namespace T
/-- what parts() gives -/
def pts : T → List (List Int × T)
  | f t => ([], f t) :: t.pts.map fun q => (0 :: q.1, q.2)
  | g t u => ([], g t u) :: ((t.pts.map fun q => (0 :: q.1, q.2)) ++ u.pts.map fun q => (1 :: q.1, q.2))
  | t => [([], t)]
def subs (k : Nat) (t : T) : List (List Int × T) := t.pts.map fun q => ((k : Int) :: q.1, q.2)
/-- the parts below the first i kids -/
def upto (t : T) (i : Nat) : List (List Int × T) := ([], t) :: ((t.kids.zipIdx.take i).flatMap fun q => q.1.subs q.2)
theorem pts_eq (t : T) : t.upto t.kids.length = t.pts := by cases t <;> simp [upto, kids, pts, subs]
theorem kid_depth {t u : T} {i : Nat} (h : t.kids[i]? = some u) : u.depth < t.depth := by
  cases t <;> simp [kids] at h
  · cases i <;> simp at h; subst h; simp [depth]
  · rcases i with _ | _ | i <;> simp at h <;> (subst h; simp [depth] <;> omega)
theorem kid_size {t u : T} {i : Nat} (h : t.kids[i]? = some u) : u.size < t.size := by
  cases t <;> simp [kids] at h
  · cases i <;> simp at h; subst h; simp only [size]; omega
  · rcases i with _ | _ | i <;> simp at h <;> (subst h; simp only [size]; omega)
theorem pts_len : ∀ t : T, t.pts.length = t.size
  | a | b | x | y => rfl
  | f t => by simp [pts, size, pts_len t]
  | g t u => by simp [pts, size, pts_len t, pts_len u]
theorem upto_len (t : T) (i : Nat) : (t.upto i).length ≤ t.size := by
  have h1 := fun t => pts_len t
  cases t <;> simp [upto, kids, size, List.zipIdx_cons, subs]
  all_goals first
    | (rcases i with _ | i <;> simp [h1]; done)
    | (rcases i with _ | _ | i <;> (try simp [h1]) <;> (try omega))
theorem depth_size : ∀ t : T, t.depth < t.size
  | a | b | x | y => by decide
  | f t => by have := depth_size t; simp only [depth, size]; omega
  | g t u => by have := depth_size t; have := depth_size u; simp only [depth, size]; omega
theorem pts_path : ∀ (t : T) (q : List Int × T), q ∈ t.pts → q.1.length ≤ t.depth
  | a, q, h | b, q, h | x, q, h | y, q, h => by simp [pts] at h; subst h; simp
  | f t, q, h => by
    rcases List.mem_cons.mp h with rfl | h
    · simp
    · obtain ⟨r, hr, rfl⟩ := List.mem_map.mp h; have := pts_path t r hr; simp only [depth, List.length_cons]; omega
  | g t u, q, h => by
    rcases List.mem_cons.mp h with rfl | h
    · simp
    · rcases List.mem_append.mp h with h | h
      · obtain ⟨r, hr, rfl⟩ := List.mem_map.mp h; have := pts_path t r hr; simp only [depth, List.length_cons]; omega
      · obtain ⟨r, hr, rfl⟩ := List.mem_map.mp h; have := pts_path u r hr; simp only [depth, List.length_cons]; omega
theorem upto_succ {t u : T} {i : Nat} (h : t.kids[i]? = some u) : t.upto (i + 1) = t.upto i ++ u.subs i := by
  have e : t.kids.zipIdx[i]? = some (u, i) := by simp [h]
  simp only [upto, List.take_add_one, e, List.flatMap_append]
  simp
theorem kids_le (t : T) : t.kids.length ≤ 2 := by cases t <;> simp [kids]
end T
theorem sl : 1000000 ≤ sizeLine := by rw [sizeLine_eq]; decide
def pp (q : List Int × T) : PyData := .tuple [.tuple (intD q.1), q.2.d]
theorem intD_cons {k : Int} {p : List Int} : intD (k :: p) = .int k :: intD p := rfl
section
variable {g : G} {n : Nat} {σ σ' τ : List Slot} {v : V}
theorem c_parts (H : Has g) : ∀ (t : T) {n : Nat} {σ : List Slot}, t.depth + 1 ≤ n → t.size ≤ 100000 → FNc g n (.ref H.a_parts) [.dat t.d] σ (.dat (.list (t.pts.map pp))) σ := by
  intro t
  induction hd : t.depth using Nat.strongRecOn generalizing t with
  | ind D ih =>
    intro n σ hn hz
    subst hd
    refine H.f_parts.lst ok_parts (by omega) [.list ((t.upto t.kids.length).map pp)] (i := σ.length) (j := 0) ?_ rfl (by rw [T.pts_eq]; rfl)
    rw [T.d_eq, T.ds]
    refine EL.cons (ES.assign (.inl rfl) (v := .ref σ.length) (EV.list_new (EVs.cons (EV.tuple (EVs.cons (EV.tuple EVs.nil rfl) (EVs.cons (EV.name rfl) EVs.nil)) rfl) EVs.nil) rfl)) ?_
    refine EL.cons (ES.for (ITR.enumT rfl H.b_enumerate (EV.tdrop1 (EV.name rfl))) (by trivial) (fun i => ([("found", .ref σ.length), ("t", .dat (.tuple t.ds))], σ ++ [.list ((t.upto i).map pp)])) ?_ ?_ ?_) ?_
    · exact Sub.of_all (by intro q hq; simp at hq; rcases hq with rfl | rfl <;> rfl)
    · simp only [T.upto, List.take_zero, List.flatMap_nil, List.map_cons, List.map_nil, pp, T.d_eq]; rfl
    · intro i d hd
      obtain ⟨u, hu, rfl⟩ : ∃ u, t.kids[i]? = some u ∧ u.d = d := by simpa using hd
      have h1 := T.kid_depth hu
      have h2 := T.kid_size hu
      refine ⟨_, _, AS.tup2 (by right; rfl) (by left; rfl), EL.cons (ES.expr (EV.extend (xs := (t.upto i).map pp) (ys := (u.subs i).map pp) (EV.name rfl) slot_end (EV.comp1 (caps := [("k", .dat (.int i))]) ?S (ITR.lst (EV.call rfl H.n_parts H.k_parts (EVs.cons (EV.name rfl) EVs.nil) (FNc.fn (ih _ h1 u rfl (by omega) (by omega))))) (by trivial) _ ?hl ?hz ?step) slot_end ?hz2)) (EL.done ?fin), ?_⟩
      case fin => rw [set_end, T.upto_succ hu, List.map_append]
      case S => exact Scoped.of ["k"] (by decide +kernel) rfl (by intro q hq; simp at hq; subst hq; rfl)
      case hl => simp [T.subs]
      case hz => have := T.pts_len u; simp [T.subs]; omega
      case hz2 => have := T.pts_len u; have := T.upto_len t i; have := sl; simp [T.subs]; omega
      case step => 
        intro j d y hd hy
        obtain ⟨q, hq, rfl⟩ : ∃ q, u.pts[j]? = some q ∧ pp q = d := by simpa using hd
        obtain rfl : pp ((i : Int) :: q.1, q.2) = y := by simpa [T.subs, hq] using hy
        refine ⟨_, AL.tup2 rfl rfl, Sub.of_all (by intro q hq; simp at hq; subst hq; rfl), fun zs => ?_⟩
        have h3 := T.pts_path u q (List.mem_of_getElem? hq)
        have h4 := T.depth_size u
        exact (EV.tuple (EVs.cons (EV.bin (EV.tuple (EVs.cons (EV.name rfl) EVs.nil) rfl) (EV.name rfl) (OP.add_tup (Nat.le_trans (by simp [intD]; omega) sl))) (EVs.cons (EV.name rfl) EVs.nil)) rfl)
      · exact Sub.of_all (by intro q hq; simp at hq; rcases hq with rfl | rfl <;> rfl)
    · rw [List.length_map]
      exact EL.ret (ES.return (EV.name rfl))
end
end Mine
end PartP3
noncomputable section PartP4
open PySem PySem.W PyProof.Rows
set_option linter.all false
set_option maxRecDepth 20000
namespace Mine
def ip (p : List Nat) : List Int := p.map fun (k : Nat) => (k : Int)
def pathD (p : List Nat) : PyData := .tuple (intD (ip p))
namespace T
def at? : T → List Nat → Option T
  | t, [] => some t
  | t, k :: p => (t.kids[k]?).bind fun u => at? u p
def setKid : T → Nat → T → T
  | f _, 0, u => f u
  | g _ s, 0, u => g u s
  | g t _, 1, u => g t u
  | t, _, _ => t
/-- the term with u at the path -/
def put : T → List Nat → T → T
  | _, [], u => u
  | t, k :: p, u => match t.kids[k]? with
    | some s => t.setKid k (s.put p u)
    | none => t
theorem put_nil (t u : T) : t.put [] u = u := by cases t <;> rfl
theorem put_cons {t s : T} {k : Nat} {p : List Nat} {u : T} (h : t.kids[k]? = some s) : t.put (k :: p) u = t.setKid k (s.put p u) := by
  cases t <;> simp [put, h]
theorem at_nil (t : T) : t.at? [] = some t := by cases t <;> rfl
theorem at_cons {t : T} {k : Nat} {p : List Nat} : t.at? (k :: p) = (t.kids[k]?).bind fun u => u.at? p := by cases t <;> rfl
theorem at_append {t : T} {p q : List Nat} : t.at? (p ++ q) = (t.at? p).bind fun u => u.at? q := by
  induction p generalizing t with
  | nil => simp [at_nil]
  | cons k p ih =>
    rw [List.cons_append, at_cons, at_cons]
    cases h : t.kids[k]? with
    | none => rfl
    | some u => simp only [Option.bind_some]; exact ih
theorem setKid_ds {t s u : T} {k : Nat} (h : t.kids[k]? = some s) : (t.setKid k u).ds = t.ds.take (k + 1) ++ [u.d] ++ t.ds.drop (k + 2) := by
  cases t <;> simp [kids] at h
  · cases k <;> simp at h; rfl
  · rcases k with _ | _ | k <;> simp at h <;> rfl
theorem kids_lt {t s : T} {k : Nat} (h : t.kids[k]? = some s) : k < t.kids.length := (List.getElem?_eq_some_iff.mp h).1
theorem ds_len (t : T) : t.ds.length = t.kids.length + 1 := by simp [ds]
theorem ds_kid {t s : T} {k : Nat} (h : t.kids[k]? = some s) : t.ds[k + 1]? = some s.d := by simp [ds, h]
theorem path_le : ∀ {p : List Nat} {t u : T}, t.at? p = some u → p.length ≤ t.depth
  | [], _, _, _ => Nat.zero_le _
  | k :: p, t, u, h => by
    rw [at_cons] at h
    obtain ⟨s, h1, h2⟩ := Option.bind_eq_some_iff.mp h
    have := path_le h2; have := kid_depth h1; simp only [List.length_cons]; omega
theorem lay (t : T) : t.d.canLay0 = true := by
  induction t with
  | a | b | x | y => decide +kernel
  | f t ih => simp only [d, PyData.canLay0, PyData.canLayAll0, ih]; decide +kernel
  | g t u ih1 ih2 => simp only [d, PyData.canLay0, PyData.canLayAll0, ih1, ih2]; decide +kernel
theorem ddepth (t : T) : t.d.depth ≤ t.depth + 1 := by
  induction t with
  | a | b | x | y => decide +kernel
  | f t ih => simp only [d, depth, PyData.depth, PyData.depthAll]; omega
  | g t u ih1 ih2 => simp only [d, depth, PyData.depth, PyData.depthAll]; omega
theorem fine {t : T} (h : t.depth ≤ 1000) : Fine t.d := ⟨t.lay, by have := t.ddepth; omega⟩
theorem eqv_d : ∀ t u : T, PyData.eqv t.d u.d = decide (t = u) := by
  intro t
  induction t with
  | a | b | x | y => intro u; cases u <;> first | decide +kernel | (simp only [d, PyData.eqv, PyData.eqvAll]; first | rfl | simp)
  | f t ih => intro u; cases u <;> simp only [d, PyData.eqv, PyData.eqvAll, ih] <;> first | simp | (simp; done)
  | g t s ih1 ih2 => intro u; cases u <;> simp only [d, PyData.eqv, PyData.eqvAll, ih1, ih2] <;> simp
end T
theorem eqv_path (p : List Nat) : PyData.eqv (pathD p) (.tuple []) = decide (p = []) := by
  cases p <;> simp [pathD, ip, intD, PyData.eqv, PyData.eqvAll]
theorem intD_lay (p : List Int) : PyData.canLayAll0 (intD p) = true := by
  induction p with
  | nil => rfl
  | cons k p ih => simp only [intD, List.map_cons, PyData.canLayAll0, PyData.canLay0, Bool.true_and]; exact ih
theorem intD_depth (p : List Int) : PyData.depthAll (intD p) = 0 := by
  induction p with
  | nil => rfl
  | cons k p ih =>
    have ih' : PyData.depthAll (p.map .int) = 0 := ih
    simp only [intD, List.map_cons, PyData.depthAll, PyData.depth, ih', Nat.max_self]
theorem path_fine (p : List Nat) : Fine (pathD p) := ⟨intD_lay _, by simp only [pathD, PyData.depth, intD_depth]; omega⟩
theorem nil_fine : Fine (.tuple []) := ⟨rfl, by decide⟩
section
variable {g : G} {n : Nat} {σ σ' τ : List Slot} {v : V}
theorem c_part_at (H : Has g) {t u : T} {p : List Nat} (h : t.at? p = some u) (hz : t.depth ≤ 1000) (hn : 1 ≤ n) : FNc g n (.ref H.a_part_at) [.dat t.d, .dat (pathD p)] σ (.dat u.d) σ := by
  refine H.f_part_at.plain ok_part_at hn ?_
  have hp := T.path_le h
  refine EL.cons (ES.for (ITR.tup (EV.name rfl)) (by trivial) (fun i => ([("t", .dat ((t.at? (p.take i)).getD t).d)], σ)) ?_ rfl ?_) ?_
  · simp only [List.take_zero, T.at_nil, Option.getD_some]; exact Sub.of_all (by intro q hq; simp at hq; subst hq; rfl)
  · intro i d hd
    obtain ⟨k, hk, rfl⟩ : ∃ k, p[i]? = some k ∧ PyData.int (k : Int) = d := by simpa [ip, intD] using hd
    obtain ⟨s, r, h1, h2, h3⟩ : ∃ s r, t.at? (p.take i) = some s ∧ s.kids[k]? = some r ∧ t.at? (p.take (i + 1)) = some r := by
      have e : p = p.take i ++ k :: p.drop (i + 1) := by
        have hi := (List.getElem?_eq_some_iff.mp hk)
        rw [← hi.2, List.getElem_cons_drop, List.take_append_drop]
      rw [e, T.at_append] at h
      obtain ⟨s, h1, h2⟩ := Option.bind_eq_some_iff.mp h
      rw [T.at_cons] at h2
      obtain ⟨r, h2, h3⟩ := Option.bind_eq_some_iff.mp h2
      refine ⟨s, r, h1, h2, ?_⟩
      rw [List.take_add_one, hk, T.at_append, h1]
      simp [T.at_cons, h2, T.at_nil]
    have hlt := T.kids_lt h2
    have h4 := T.kids_le s
    simp only [h1, h3, Option.getD_some]
    rw [T.d_eq s]
    refine ⟨_, _, AS.name (by left; rfl), EL.cons (ES.ifF0 (TV.not (TV.chain EV.int (EV.name rfl) (OP.castb OP.le_int (by simp)) (EV.bin (EV.len H rfl (EVs.cons (EV.name rfl) EVs.nil) (by first | exact CA.len_tup | exact CA.len_cont rfl | exact CA.len_cont cont_e0 | exact CA.len_cont cont_e1 | exact CA.len_cont (by assumption))) EV.int OP.sub_int) OP.lt_int)) ?_) (EL.cons (ES.assign (by left; rfl) (EV.sub (EV.name rfl) (EV.bin (EV.name rfl) EV.int OP.add_int) (OP.itemN (k := k + 1) (T.ds_kid h2) (by omega)))) EL.nil), ?_⟩
    · rw [T.ds_len]; simp; omega
    · exact Sub.of_all (by intro q hq; simp at hq; subst hq; rfl)
  · have e : (intD (ip p)).length = p.length := by simp [ip, intD]
    rw [e, List.take_length, h]
    exact EL.ret (ES.return (EV.name rfl))
end
end Mine
end PartP4
noncomputable section PartP5
open PySem PySem.W PyProof.Rows
set_option linter.all false
set_option maxRecDepth 20000
namespace Mine
namespace T
/-- x, y as X, Y -/
def sub (t X Y : T) : T := match t with
  | x => X | y => Y | f t => f (t.sub X Y) | g t u => g (t.sub X Y) (u.sub X Y) | a => a | b => b
def okIn (t : T) (kvs : List (Str × V)) (X Y : T) : Prop := match t with
  | x => kvs.lookup ("?x" : Str) = some (.dat X.d) | y => kvs.lookup ("?y" : Str) = some (.dat Y.d) | f t => t.okIn kvs X Y | g t u => t.okIn kvs X Y ∧ u.okIn kvs X Y | _ => True
theorem okIn_kid {kvs : List (Str × V)} {X Y t u : T} {i : Nat} (h : t.okIn kvs X Y) (hu : t.kids[i]? = some u) : u.okIn kvs X Y := by
  cases t <;> simp [kids] at hu
  · cases i <;> simp at hu; subst hu; exact h
  · rcases i with _ | _ | i <;> simp at hu <;> subst hu; exact h.1; exact h.2
theorem sub_ds {X Y t : T} (h : t.isVar = false) : (t.sub X Y).ds = .str t.nm :: t.kids.map fun u => (u.sub X Y).d := by cases t <;> first | rfl | cases h
end T
section
variable {g : G} {n : Nat} {σ σ' τ : List Slot} {v : V}
theorem c_replaced (H : Has g) {u : T} : ∀ {p : List Nat} {t s : T} {n : Nat}, t.at? p = some s → t.depth ≤ 1000 → p.length + 2 ≤ n → FNc g n (.ref H.a_replaced) [.dat t.d, .dat (pathD p), .dat u.d] σ (.dat (t.put p u).d) σ
  | [], t, s, n, h, hz, hn => by
    refine H.f_replaced.plain ok_replaced (by omega) ?_
    rw [T.put_nil]
    exact EL.ret (ES.ifT (TV.cmp1 (EV.name rfl) (EV.tuple EVs.nil rfl) (OP.eq rfl rfl (path_fine _) nil_fine)) (by rw [eqv_path]; rfl) (EL.ret (ES.return (EV.name rfl))))
  | k :: p, t, s, n, h, hz, hn => by
    refine H.f_replaced.plain ok_replaced (by omega) ?_
    rw [T.at_cons] at h
    obtain ⟨r, h1, h2⟩ := Option.bind_eq_some_iff.mp h
    have h3 := T.kid_depth h1
    have h4 := T.kids_lt h1
    have h5 := T.kids_le t
    simp only [List.length_cons] at hn
    rw [T.put_cons h1, T.d_eq (t.setKid k (r.put p u)), T.setKid_ds h1]
    have e1 : t.at? [k] = some r := by rw [T.at_cons, h1]; simp [T.at_nil]
    refine EL.cons (ES.ifF0 (TV.cmp1 (EV.name rfl) (EV.tuple EVs.nil rfl) (OP.eq rfl rfl (path_fine _) nil_fine)) (by rw [eqv_path]; rfl)) ?_
    refine EL.cons (ES.assign (by left; rfl) (EV.call rfl H.n_part_at H.k_part_at (EVs.cons (EV.name rfl) (EVs.cons (EV.ttake1 (EV.name rfl)) EVs.nil)) (FNc.fn (c_part_at H e1 hz (by omega))))) ?_
    have hl := T.ds_len t
    have ht : (t.ds.take (k + 1)).length ≤ 10 := by rw [List.length_take]; omega
    have ht2 : (t.ds.drop (k + 2)).length ≤ 10 := by rw [List.length_drop]; omega
    have IH := c_replaced H (u := u) h2 (by omega : r.depth ≤ 1000) (by omega : p.length + 2 ≤ n - 1)
    rw [T.d_eq t]
    exact EL.ret (ES.return (EV.bin (EV.bin (EV.ttake (EV.name rfl) (EV.cast (EV.bin (EV.sub (EV.name rfl) EV.int (by first | exact OP.item0 | exact OP.litem0)) EV.int OP.add_int) (by rfl : _ = V.dat (.int ((k + 1 : Nat) : Int))))) (EV.tuple (EVs.cons (EV.call rfl H.n_replaced H.k_replaced (EVs.cons (EV.name rfl) (EVs.cons (EV.tdrop1 (EV.name rfl)) (EVs.cons (EV.name rfl) EVs.nil))) (FNc.fn (IH))) EVs.nil) rfl) (OP.add_tup (Nat.le_trans (by simp; omega) sl)))
      (EV.tdrop (EV.name rfl) (EV.cast (EV.bin (EV.sub (EV.name rfl) EV.int (by first | exact OP.item0 | exact OP.litem0)) EV.int OP.add_int) (by rfl : _ = V.dat (.int ((k + 2 : Nat) : Int)))) (by omega) (by omega)) (OP.add_tup (Nat.le_trans (by simp; omega) sl))))
theorem c_placed (H : Has g) {X Y : T} {kvs : List (Str × V)} {i : Nat} : ∀ (p : T) {n : Nat} {σ : List Slot}, p.okIn kvs X Y → σ[i]? = some (.sdict kvs) → p.depth + 2 ≤ n → FNc g n (.ref H.a_placed) [.dat p.d, .ref i] σ (.dat (p.sub X Y).d) σ := by
  intro p
  induction hd : p.depth using Nat.strongRecOn generalizing p with
  | ind D ih =>
    intro n σ hok hi hn
    subst hd
    refine H.f_placed.plain ok_placed (by omega) ?_
    cases hv : p.isVar with
    | false =>
      have hk := T.kids_le p
      rw [T.d_eq (p.sub X Y), T.sub_ds hv]
      refine EL.ret (ES.ifT (TV.not (TV.val (EV.call rfl H.n_is_variable H.k_is_variable (EVs.cons (EV.name rfl) EVs.nil) (FNc.fn (c_is_variable H p (by omega)))))) (by rw [hv]; rfl) (EL.ret (ES.return ?_)))
      rw [T.d_eq p]
      refine EV.bin (EV.tuple (EVs.cons (EV.sub (EV.name rfl) EV.int (by first | exact OP.item0 | exact OP.litem0)) EVs.nil) rfl) (EV.tuple_ H rfl (EVs.cons (EV.comp1 (caps := [("table", .ref i)]) ?S (ITR.tup (EV.tdrop1 (EV.name rfl))) (by trivial) (p.kids.map fun u => (u.sub X Y).d) ?hl ?hz ?step) EVs.nil)) (OP.add_tup ?ha)
      case S => exact Scoped.of ["table"] (by decide +kernel) rfl (by intro q hq; simp at hq; subst hq; rfl)
      case hl => simp
      case hz => simp; omega
      case ha => exact Nat.le_trans (by simp; omega) sl
      case step =>
        intro j d y hd hy
        obtain ⟨u, hu, rfl⟩ : ∃ u, p.kids[j]? = some u ∧ u.d = d := by simpa using hd
        obtain rfl : (u.sub X Y).d = y := by simpa [hu] using hy
        have h1 := T.kid_depth hu
        refine ⟨_, AL.name rfl, Sub.of_all (by intro q hq; simp at hq; subst hq; rfl), fun zs => ?_⟩
        have hi' : (σ ++ [Slot.list zs])[i]? = some (.sdict kvs) := by rw [List.getElem?_append_left (List.getElem?_eq_some_iff.mp hi).1]; exact hi
        exact (EV.call rfl H.n_placed H.k_placed (EVs.cons (EV.name rfl) (EVs.cons (EV.name rfl) EVs.nil)) (FNc.fn (ih _ h1 u rfl (T.okIn_kid hok hu) hi' (by omega))))
    | true => 
      have hl : kvs.lookup p.nm = some (.dat (p.sub X Y).d) := by cases p <;> first | exact hok | cases hv
      refine EL.cons (ES.ifF0 (TV.not (TV.val (EV.call rfl H.n_is_variable H.k_is_variable (EVs.cons (EV.name rfl) EVs.nil) (FNc.fn (c_is_variable H p (by omega)))))) (by rw [hv]; rfl)) ?_
      rw [T.d_eq p]
      refine EL.cons (ES.ifF0 (TV.cmp1 (EV.sub (EV.name rfl) EV.int (by first | exact OP.item0 | exact OP.litem0)) (EV.name rfl) (OP.snotin hi)) (by rw [hl]; rfl)) ?_
      exact EL.ret (ES.return (EV.sub (EV.name rfl) (EV.sub (EV.name rfl) EV.int (by first | exact OP.item0 | exact OP.litem0)) (OP.sget hi hl)))
end
end Mine
end PartP5
noncomputable section PartP6
open PySem PySem.W PyProof.Rows
set_option linter.all false
set_option maxRecDepth 20000
namespace Mine
section
variable {g : G} {n : Nat} {sc scope : Scope} {ρ ρ' ρ₀ : List (Str × V)} {σ σ₁ σ₂ : List Slot} {pos : Pos} {v : V} {e test : Expr} {body : List Stmt}
theorem EV.castS (h : EV g n sc e ρ σ v σ₁) (q : σ₁ = σ₂) : EV g n sc e ρ σ v σ₂ := q ▸ h
theorem slot_e0 {x : Slot} {τ : List Slot} : (σ ++ (x :: τ))[σ.length]? = some x := by simp
theorem slot_e1 {x y : Slot} {τ : List Slot} : (σ ++ (x :: y :: τ))[σ.length + 1]? = some y := by rw [List.getElem?_append_right (by omega)]; simp
theorem set_e0 {x x' : Slot} {τ : List Slot} : (σ ++ (x :: τ)).set σ.length x' = σ ++ (x' :: τ) := by rw [List.set_append_right _ _ (Nat.le_refl _)]; simp
theorem set_e1 {x y y' : Slot} {τ : List Slot} : (σ ++ (x :: y :: τ)).set (σ.length + 1) y' = σ ++ (x :: y' :: τ) := by rw [List.set_append_right _ _ (by omega)]; simp
theorem cont_e0 {xs : List PyData} {τ : List Slot} : cont (σ ++ (Slot.list xs :: τ)) (.ref σ.length) = some (.list xs) := by simp [cont]
theorem cont_e1 {x : Slot} {xs : List PyData} {τ : List Slot} : cont (σ ++ (x :: Slot.list xs :: τ)) (.ref (σ.length + 1)) = some (.list xs) := by simp [cont, slot_e1]
def runN {α : Type} (step : α → α) : Nat → α → α
  | 0, a => a
  | k + 1, a => step (runN step k a)
theorem EL.while_run {α : Type} (step : α → α) (inv : α → Nat → Prop) (sf : α → List Slot) (ρ₀ : List (Str × V)) (a₀ : α) (N : Nat) (hρ : Sub ρ₀ ρ) (hi : inv a₀ N)
    (go : ∀ a k, inv a (k + 1) → inv (step a) k ∧ TV g n sc test ρ₀ (sf a) true (sf a) ∧ ∃ ρ₂, EL g n sc body ρ₀ (sf a) (.next ρ₂ (sf (step a))) ∧ Sub ρ₀ ρ₂)
    (stop : ∀ a, inv a 0 → TV g n sc test ρ₀ (sf a) false (sf a)) {rest : List Stmt} {o : Outc} (fin : ∀ a, inv a 0 → EL g n sc rest ρ₀ (sf a) o) : EL g n sc (.While test body [] pos :: rest) ρ (sf a₀) o := by
  have key : ∀ i, i ≤ N → inv (runN step i a₀) (N - i) := by
    intro i
    induction i with
    | zero => intro _; exact hi
    | succ i ih =>
      intro h
      have h1 := ih (by omega)
      rw [show N - i = (N - (i + 1)) + 1 by omega] at h1
      exact (go _ _ h1).1
  have hN := key N (Nat.le_refl _)
  rw [Nat.sub_self] at hN
  refine EL.cons (ES.while (fun i => (ρ₀, sf (runN step i a₀))) N hρ rfl (fun i h => ?_) (stop _ hN)) (fin _ hN)
  have h1 := key i (by omega)
  rw [show N - i = (N - (i + 1)) + 1 by omega] at h1
  exact (go _ _ h1).2
end
def okNm (s : Str) : Bool := (decide (s.length ≤ 1000) && PyData.strOk (fst s)) && !([PyData.str "", .str "?"].any fun y => PyData.eqv y (.str (fst s)))
/-- plain terms on a stack, with the count of their nodes -/
inductive Pls : List PyData → Nat → Prop
  | nil : Pls [] 0
  | cons {s : Str} {ds r : List PyData} {k m : Nat} : okNm s = true → Pls ds k → Pls r m → Pls (.tuple (.str s :: ds) :: r) (k + m + 1)
theorem Pls.len {l : List PyData} {m : Nat} (h : Pls l m) : l.length ≤ m := by
  induction h with
  | nil => exact Nat.le_refl _
  | cons _ _ _ _ ih => simp only [List.length_cons]; omega
theorem Pls.append {l l' : List PyData} {m m' : Nat} (h : Pls l m) (h' : Pls l' m') : Pls (l ++ l') (m + m') := by
  induction h with
  | nil => simpa using h'
  | @cons s ds r k m a b c _ ih =>
    have := Pls.cons a b ih
    rw [show k + m + 1 + m' = k + (m + m') + 1 by omega]; exact this
theorem Pls.last {l : List PyData} {m : Nat} (h : Pls l (m + 1)) : ∃ s ds r k j, l = r ++ [.tuple (.str s :: ds)] ∧ okNm s = true ∧ Pls ds k ∧ Pls r j ∧ m = j + k := by
  generalize hm : m + 1 = M at h
  induction h generalizing m with
  | nil => omega
  | @cons s ds r k j a b c _ ih =>
    cases j with
    | zero =>
      have e : r = [] := List.length_eq_zero_iff.mp (by have := c.len; omega)
      subst e
      exact ⟨s, ds, [], k, 0, rfl, a, b, .nil, by omega⟩
    | succ j =>
      obtain ⟨s', ds', r', k', j', rfl, a', b', c', hj⟩ := ih rfl
      exact ⟨s', ds', _ :: r', k', _, rfl, a', b', .cons a b c', by omega⟩
theorem Pls.zero {l : List PyData} (h : Pls l 0) : l = [] := List.length_eq_zero_iff.mp (by have := h.len; omega)
def popK (l : List PyData) : List PyData := match l.getLast? with
  | some (.tuple (_ :: ds)) => l.dropLast ++ ds
  | _ => []
theorem popK_eq {r ds : List PyData} {x : PyData} : popK (r ++ [.tuple (x :: ds)]) = r ++ ds := by simp [popK]
namespace T
/-- no variables -/
def gr : T → Bool
  | x | y => false
  | a | b => true
  | f t => t.gr
  | g t u => t.gr && u.gr
theorem pls : ∀ (t : T), t.gr = true → ∀ (r : List PyData) (m : Nat), Pls r m → Pls (t.d :: r) (t.size + m)
  | a, _, r, m, h => by have := Pls.cons (s := "a") (by decide +kernel) Pls.nil h; rw [show a.size + m = 0 + m + 1 by simp [size]; omega]; exact this
  | b, _, r, m, h => by have := Pls.cons (s := "b") (by decide +kernel) Pls.nil h; rw [show b.size + m = 0 + m + 1 by simp [size]; omega]; exact this
  | f t, e, r, m, h => by
    have h1 := pls t e _ _ .nil
    have := Pls.cons (s := "f") (by decide +kernel) h1 h
    rw [show (f t).size + m = t.size + 0 + m + 1 by simp only [size]; omega]; exact this
  | g t u, e, r, m, h => by
    simp only [gr, Bool.and_eq_true] at e
    have h1 := pls t e.1 _ _ (pls u e.2 _ _ .nil)
    have := Pls.cons (s := "g") (by decide +kernel) h1 h
    rw [show (g t u).size + m = t.size + (u.size + 0) + m + 1 by simp only [size]; omega]; exact this
/-- the names that variables() sees -/
def vs (t : T) : List Str := t.pts.filterMap fun q => if q.2.isVar then some q.2.nm else none
end T
section
variable {g : G} {n : Nat} {σ σ' τ : List Slot} {v : V}
theorem fm_range {α β γ : Type} (h : α → β) (fn : β → Option γ) : ∀ l : List α, (List.range l.length).filterMap (fun i => (l[i]?).bind fun q => fn (h q)) = l.filterMap (fun q => fn (h q)) := by
  intro l
  have key : ∀ k, k ≤ l.length → (List.range k).filterMap (fun i => (l[i]?).bind fun q => fn (h q)) = (l.take k).filterMap (fun q => fn (h q)) := by
    intro k
    induction k with
    | zero => intro _; simp
    | succ k ih =>
      intro hk
      rw [List.range_succ, List.filterMap_append, ih (by omega), List.take_succ_eq_append_getElem (by omega), List.filterMap_append]
      simp [List.filterMap_cons, List.getElem?_eq_getElem (show k < l.length by omega)]
  have := key l.length (Nat.le_refl _)
  rwa [List.take_length] at this
theorem c_variables (H : Has g) (t : T) {out : List Str} (hout : ∀ zs, zs.Perm (ddup [] t.vs) → sortedS zs = true → zs = out) (hz : t.size < 64) (hn : t.depth + 2 ≤ n) : FNc g n (.ref H.a_variables) [.dat t.d] σ (.dat (.list (out.map .str))) σ := by
  refine H.f_variables.plain ok_variables (by omega) ?_
  refine EL.ret (ES.return (EV.sorted_set (ss := t.vs) rfl rfl H.b_sorted H.b_set ?_ ?_ hout))
  · refine EV.cast (EV.comp1t (caps := []) ?S (ITR.lst (EV.call rfl H.n_parts H.k_parts (EVs.cons (EV.name rfl) EVs.nil) (FNc.fn (c_parts H t (by omega) (by omega))))) (by trivial) (fun i => (t.pts[i]?).bind fun q => if q.2.isVar then some (PyData.str q.2.nm) else none) ?hz ?step) ?he
    case S => exact Scoped.of [] (by decide +kernel) rfl (by intro q hq; cases hq)
    case hz => have := T.pts_len t; simp; omega
    case step =>
      intro i d hd
      obtain ⟨q, hq, rfl⟩ : ∃ q, t.pts[i]? = some q ∧ pp q = d := by simpa using hd
      refine ⟨_, AL.tup2 rfl rfl, Sub.of_all (by intro q hq; cases hq), fun zs => ⟨?_, ?_⟩⟩
      · have e : ((t.pts[i]?).bind fun q => if q.2.isVar then some (PyData.str q.2.nm) else none).isSome = q.2.isVar := by rw [hq]; simp only [Option.bind_some]; cases q.2.isVar <;> rfl
        rw [e]
        exact TV.val (EV.call rfl H.n_is_variable H.k_is_variable (EVs.cons (EV.name rfl) EVs.nil) (FNc.fn (c_is_variable H q.2 (by omega))))
      · intro y hy
        rw [hq] at hy
        simp only [Option.bind_some] at hy
        cases hv : q.2.isVar with
        | false => rw [hv] at hy; cases hy
        | true =>
          rw [hv] at hy
          obtain rfl := Option.some.inj hy
          rw [T.d_eq]
          exact (EV.sub (EV.name rfl) EV.int (by first | exact OP.item0 | exact OP.litem0))
    have e := fm_range (fun q : List Int × T => q) (fun q => if q.2.isVar then some (PyData.str q.2.nm) else none) t.pts
    have e2 : t.vs.map PyData.str = t.pts.filterMap fun q => if q.2.isVar then some (PyData.str q.2.nm) else none := by
      rw [T.vs, List.map_filterMap]
      congr 1; funext q
      cases q.2.isVar <;> rfl
    rw [List.length_map, e2, ← e]
  · have := List.length_filterMap_le (fun q : List Int × T => if q.2.isVar then some q.2.nm else none) t.pts
    have h2 := T.pts_len t
    show t.vs.length < 64
    rw [T.vs]; omega
theorem len_ne0 {x : PyData} {l : List PyData} : ((((x :: l).length : Nat) : Int) == 0) = false := by
  simp only [List.length_cons, beq_eq_false_iff_ne, ne_eq]; omega
theorem fine_str {x : Str} (h : PyData.strOk x = true) : Fine (.str x) := ⟨by simpa [PyData.canLay0] using h, Nat.le_of_ble_eq_true rfl⟩
theorem c_is_plain_term (H : Has g) {d : PyData} {N : Nat} (hp : Pls [d] N) (hN : N ≤ 1000000) (hn : 1 ≤ n) : FNc g n (.ref H.a_is_plain_term) [.dat d] σ (.dat (.bool true)) σ := by
  refine H.f_is_plain_term.pure ok_is_plain_term hn [.list []] ?_
  refine EL.cons (ES.assign (.inl rfl) (v := .ref σ.length) (EV.list_new (EVs.cons (EV.name rfl) EVs.nil) rfl)) ?_
  refine EL.while_run popK (fun a k => Pls a k ∧ k ≤ 1000000) (fun a => σ ++ [.list a]) [("waiting", .ref σ.length)] [d] N ?hρ ⟨hp, hN⟩ ?go ?stop ?fin
  case hρ => exact Sub.of_all (by intro q hq; simp at hq; subst hq; rfl)
  case go =>
    rintro a k ⟨h1, h2⟩
    obtain ⟨s, ds, r, k1, j, rfl, hs, hds, hr, rfl⟩ := h1.last
    have hs' := hs
    simp only [okNm, Bool.and_eq_true, decide_eq_true_eq, Bool.not_eq_true'] at hs'
    have hs1 : s.length ≤ 1000 := hs'.1.1
    rw [popK_eq]
    have hl1 := hds.len
    have hl2 := hr.len
    have := sl
    refine ⟨⟨hr.append hds, by omega⟩, ?_, ?_⟩
    · exact TV.cast (TV.cmp1 (EV.len H rfl (EVs.cons (EV.name rfl) EVs.nil) (by first | exact CA.len_tup | exact CA.len_cont rfl | exact CA.len_cont cont_e0 | exact CA.len_cont cont_e1 | exact CA.len_cont (by assumption))) EV.int (by exact OP.gt_int)) (by simp)
    · refine ⟨_, EL.cons (ES.assign (.inl rfl) (EV.castS (EV.pop (EV.name rfl) slot_end) set_end)) (EL.cons (ES.ifF0 (TV.boolop (AT.orF (TV.not (TV.val (EV.isi_tup rfl rfl H.b_isinstance H.b_tuple (EV.name rfl)))) rfl (AT.orF (TV.cmp1 (EV.len H rfl (EVs.cons (EV.name rfl) EVs.nil) (by first | exact CA.len_tup | exact CA.len_cont rfl | exact CA.len_cont cont_e0 | exact CA.len_cont cont_e1 | exact CA.len_cont (by assumption))) EV.int (by first | exact OP.eq_int | exact OP.eq_str)) len_ne0 (AT.orF (TV.not (TV.val (EV.isi_str rfl rfl H.b_isinstance H.b_str (EV.sub (EV.name rfl) EV.int (by first | exact OP.item0 | exact OP.litem0))))) rfl (AT.orF (TV.cmp1 (EV.sfst (EV.sub (EV.name rfl) EV.int (by first | exact OP.item0 | exact OP.litem0)) (by first | assumption | exact Nat.le_of_ble_eq_true rfl)) (EV.tuple (EVs.cons EV.str (EVs.cons EV.str EVs.nil)) rfl) (OP.in_tup ?_ (fine_str hs'.1.2))) hs'.2 AT.orNil))))) rfl) (EL.cons (ES.expr (EV.castS (EV.extend_tup (xs := r) (ys := ds) (EV.name rfl) slot_end (EV.tdrop1 (EV.name rfl)) slot_end ?_) set_end)) EL.nil)), ?_⟩
      · exact ⟨by decide +kernel, Nat.le_of_ble_eq_true rfl⟩
      · omega
      · exact Sub.of_all (by intro q hq; simp at hq; subst hq; rfl)
  case stop =>
    rintro a ⟨h1, h2⟩
    obtain rfl := h1.zero
    exact TV.cast (TV.cmp1 (EV.len H rfl (EVs.cons (EV.name rfl) EVs.nil) (by first | exact CA.len_tup | exact CA.len_cont rfl | exact CA.len_cont cont_e0 | exact CA.len_cont cont_e1 | exact CA.len_cont (by assumption))) EV.int (by exact OP.gt_int)) (by simp)
  case fin =>
    rintro a ⟨h1, h2⟩
    obtain rfl := h1.zero
    exact EL.ret (ES.return EV.bool)
end
end Mine
end PartP6
noncomputable section PartP7
open PySem PySem.W PyProof.Rows
set_option linter.all false
set_option maxRecDepth 20000
namespace Mine
section
variable {g : G} {n : Nat} {sc scope : Scope} {ρ ρ' caps : List (Str × V)} {σ σ₁ σ₂ : List Slot} {pos : Pos} {v : V} {elt target iter c : Expr} {ds : List PyData} {out : Nat → PyData → PyData} {tg : Expr → Prop}
theorem ES.assign_comp1 {y : Str} {py spos : Pos} (hy : sc.names.lookup y = some .local) (hline : (py.line == pos.line) = true) (hno : (scope.names.any fun (n, k) => n == y && (k == .local || k == .cell)) = false)
    (S : Scoped sc scope ρ caps) (hi : ITR g n sc iter ρ σ ds out tg σ₁) (ht : tg target) (ys : List PyData) (hl : ys.length = ds.length) (hz : ys.length ≤ 1000000)
    (step : ∀ i d y, ds[i]? = some d → ys[i]? = some y → ∃ ρ₁, AL g (relab scope sc) target (out i d) caps ρ₁ ∧ Sub caps ρ₁ ∧ ∀ zs, EV g n (relab scope sc) elt ρ₁ (σ₁ ++ [.list zs]) (.dat y) (σ₁ ++ [.list zs]))
    (hs : ∀ x env, foldedSetIterable iter env x = pure x := by intro _ _; rfl) :
    ES g n sc (.Assign [.Name y py] (.ListComp elt [⟨target, iter, [], 0⟩] scope pos) spos) ρ σ (.next ((y, .dat (.list ys)) :: ρ) σ₁) := by
  have h := ES.assign_comp (tail := ifsT g [] (emitT g elt)) (elt := elt) (pos := pos) (spos := spos) hy hline hno S hi ht (fun _ => σ₁) (fun i => ys.take i) rfl (by simp) (fun _ _ => rfl) id (fun A it D cenv s Q E' h => turn1 h) (fun i d hd => by
    have hi : i < ys.length := by rw [hl]; exact (List.getElem?_eq_some_iff.mp hd).1
    obtain ⟨ρ₁, h1, h2, h3⟩ := step i d ys[i] hd (List.getElem?_eq_getElem hi)
    refine ⟨ρ₁, h1, h2, TN.ifs_nil ?_⟩
    show TN g n (relab scope sc) (emitT g elt) ρ₁ σ₁ (ys.take i) σ₁ (ys.take (i + 1))
    rw [List.take_succ_eq_append_getElem hi]
    refine TN.emit (h3 _) rfl ?_
    have := sizeLine_eq
    rw [List.length_take]; omega) hs
  have e : ys.take ds.length = ys := by rw [← hl]; simp
  simp only [e] at h
  exact h
/-- a comprehension whose test is never passed -/
theorem EV.comp0 (S : Scoped sc scope ρ caps) (hi : ITR g n sc iter ρ σ ds out tg σ₁) (ht : tg target) (hz : ds.length ≤ 1000000)
    (step : ∀ i d, ds[i]? = some d → ∃ ρ₁, AL g (relab scope sc) target (out i d) caps ρ₁ ∧ Sub caps ρ₁ ∧ ∀ zs, TV g n (relab scope sc) c ρ₁ (σ₁ ++ [.list zs]) false (σ₁ ++ [.list zs]))
    (hs : ∀ x env, foldedSetIterable iter env x = pure x := by intro _ _; rfl) :
    EV g n sc (.ListComp elt [⟨target, iter, [c], 0⟩] scope pos) ρ σ (.dat (.list [])) σ₁ := by
  have h := EV.comp1t (elt := elt) (pos := pos) S hi ht (fun _ => Option.none) hz (fun i d hd => by
    obtain ⟨ρ₁, h1, h2, h3⟩ := step i d hd
    exact ⟨ρ₁, h1, h2, fun zs => ⟨h3 zs, fun y hy => by cases hy⟩⟩) hs
  have e : (List.range ds.length).filterMap (fun _ => (Option.none : Option PyData)) = [] := by simp
  rw [e] at h; exact h
end
def plD (pl : List (Str × T)) : PyData := .tuple (pl.map fun q => .tuple [.str q.1, q.2.d])
/-- papers -/
inductive P where
  | same (t : T)
  | told (k : Nat)
  | dup (t : T)
  | swap (t u : T)
  | turn (p : P)
  | join (p q : P)
  | under1 (p : P)
  | under2 (p q : P)
def lab (k : Nat) : Str := ("t" : Str) ++ Str.ofString (toString (k : Int))
namespace P
def d : P → PyData
  | same t => .tuple [.str "same", t.d]
  | told k => .tuple [.str "told", .str (lab k)]
  | dup t => .tuple [.str "rule", .str "dup", plD [("?x", t)]]
  | swap t u => .tuple [.str "rule", .str "swap", plD [("?x", t), ("?y", u)]]
  | turn p => .tuple [.str "turn", p.d]
  | join p q => .tuple [.str "join", p.d, q.d]
  | under1 p => .tuple [.str "under", .str "f", .tuple [p.d]]
  | under2 p q => .tuple [.str "under", .str "g", .tuple [p.d, q.d]]
def kids : P → List P
  | turn p => [p] | join p q => [p, q] | under1 p => [p] | under2 p q => [p, q] | _ => []
def cnt : P → Nat
  | turn p => p.cnt + 1 | join p q => p.cnt + q.cnt + 1 | under1 p => p.cnt + 1 | under2 p q => p.cnt + q.cnt + 1 | _ => 1
def ok (M : Nat) : P → Prop
  | same t => t.gr = true ∧ t.size ≤ M
  | told _ => True
  | dup t => t.gr = true ∧ t.size ≤ M
  | swap t u => (t.gr = true ∧ t.size ≤ M) ∧ u.gr = true ∧ u.size ≤ M
  | turn p => p.ok M | join p q => p.ok M ∧ q.ok M | under1 p => p.ok M | under2 p q => p.ok M ∧ q.ok M
theorem ok_kid {M : Nat} {p c : P} {k : Nat} (h : p.ok M) (hk : p.kids[k]? = some c) : c.ok M := by
  cases p <;> simp [kids] at hk
  · cases k <;> simp at hk; subst hk; exact h
  · rcases k with _ | _ | k <;> simp at hk
    · subst hk; exact h.1
    · subst hk; exact h.2
  · cases k <;> simp at hk; subst hk; exact h
  · rcases k with _ | _ | k <;> simp at hk
    · subst hk; exact h.1
    · subst hk; exact h.2
theorem kid_cnt {p c : P} {k : Nat} (hk : p.kids[k]? = some c) : c.cnt < p.cnt := by
  cases p <;> simp [kids] at hk
  · cases k <;> simp at hk; subst hk; simp only [cnt]; omega
  · rcases k with _ | _ | k <;> simp at hk <;> (subst hk; simp only [cnt]; omega)
  · cases k <;> simp at hk; subst hk; simp only [cnt]; omega
  · rcases k with _ | _ | k <;> simp at hk <;> (subst hk; simp only [cnt]; omega)
theorem kids_le (p : P) : p.kids.length ≤ 2 := by cases p <;> simp [kids]
end P
section
variable {g : G} {n : Nat} {σ σ' τ : List Slot} {v : V}
theorem c_parts_of (H : Has g) (p : P) (hn : 1 ≤ n) : FNc g n (.ref H.a_parts_of) [.dat p.d] σ (.dat (.tuple (p.kids.map P.d))) σ := by
  refine H.f_parts_of.plain ok_parts_of hn ?_
  cases p with
  | turn p => exact EL.ret (ES.ifT (TV.cmp1 (EV.sub (EV.name rfl) EV.int (by first | exact OP.item0 | exact OP.litem0)) (EV.tuple (EVs.cons EV.str (EVs.cons EV.str EVs.nil)) rfl) (OP.in_tup ⟨by decide +kernel, Nat.le_of_ble_eq_true rfl⟩ (fine_str (by decide +kernel)))) (by decide +kernel) (EL.ret (ES.return (EV.tdrop1 (EV.name rfl)))))
  | join p q => exact EL.ret (ES.ifT (TV.cmp1 (EV.sub (EV.name rfl) EV.int (by first | exact OP.item0 | exact OP.litem0)) (EV.tuple (EVs.cons EV.str (EVs.cons EV.str EVs.nil)) rfl) (OP.in_tup ⟨by decide +kernel, Nat.le_of_ble_eq_true rfl⟩ (fine_str (by decide +kernel)))) (by decide +kernel) (EL.ret (ES.return (EV.tdrop1 (EV.name rfl)))))
  | under1 p | under2 p q => exact EL.cons (ES.ifF0 (TV.cmp1 (EV.sub (EV.name rfl) EV.int (by first | exact OP.item0 | exact OP.litem0)) (EV.tuple (EVs.cons EV.str (EVs.cons EV.str EVs.nil)) rfl) (OP.in_tup ⟨by decide +kernel, Nat.le_of_ble_eq_true rfl⟩ (fine_str (by decide +kernel)))) (by decide +kernel)) (EL.ret (ES.return (EV.ifT (TV.cmp1 (EV.sub (EV.name rfl) EV.int (by first | exact OP.item0 | exact OP.litem0)) EV.str (by first | exact OP.eq_int | exact OP.eq_str)) (by decide +kernel) (EV.sub (EV.name rfl) EV.int (by first | exact OP.item2 | exact OP.litem2)))))
  | _ => exact EL.cons (ES.ifF0 (TV.cmp1 (EV.sub (EV.name rfl) EV.int (by first | exact OP.item0 | exact OP.litem0)) (EV.tuple (EVs.cons EV.str (EVs.cons EV.str EVs.nil)) rfl) (OP.in_tup ⟨by decide +kernel, Nat.le_of_ble_eq_true rfl⟩ (fine_str (by decide +kernel)))) (by decide +kernel)) (EL.ret (ES.return (EV.ifF (TV.cmp1 (EV.sub (EV.name rfl) EV.int (by first | exact OP.item0 | exact OP.litem0)) EV.str (by first | exact OP.eq_int | exact OP.eq_str)) (by decide +kernel) (EV.tuple EVs.nil rfl))))
theorem fine_nil : Fine (.list []) := ⟨by decide +kernel, Nat.le_of_ble_eq_true rfl⟩
theorem c_are_places (H : Has g) {pl : List (Str × T)} (hout : ∀ zs, zs.Perm (ddup [] (pl.map (·.1))) → sortedS zs = true → zs = pl.map (·.1)) (hq : ∀ q ∈ pl, q.1.length ≤ 1000 ∧ decide (fst q.1 = "?") = true)
    (hg : ∀ q ∈ pl, q.2.gr = true ∧ q.2.size ≤ 1000000) (hf : Fine (.list ((pl.map (·.1)).map .str))) (hl : pl.length < 64) (hn : 2 ≤ n) : FNc g n (.ref H.a_are_places) [.dat (plD pl)] σ (.dat (.bool true)) σ := by
  refine H.f_are_places.plain ok_are_places (by omega) ?_
  refine EL.cons (ES.ifF0 (TV.boolop (AT.orF (TV.not (TV.val (EV.isi_tup rfl rfl H.b_isinstance H.b_tuple (EV.name rfl)))) rfl (AT.orF (TV.cmp1 (EV.comp0 (caps := []) ?S0 (ITR.tup (EV.name rfl)) (by trivial) ?hz0 ?step0) (EV.list EVs.nil rfl) (OP.ne rfl rfl fine_nil fine_nil)) (by decide +kernel) AT.orNil))) rfl) ?_
  case S0 => exact Scoped.of [] (by decide +kernel) rfl (by intro q hq; cases hq)
  case hz0 => simp; omega
  case step0 =>
    intro i d hd
    obtain ⟨q, hq, rfl⟩ : ∃ q, pl[i]? = some q ∧ PyData.tuple [.str q.1, q.2.d] = d := by simpa using hd
    exact ⟨_, AL.name rfl, Sub.of_all (by intro q hq; cases hq), fun zs => TV.boolop (AT.orF (TV.not (TV.val (EV.isi_tup rfl rfl H.b_isinstance H.b_tuple (EV.name rfl)))) rfl (AT.orF (TV.cmp1 (EV.len H rfl (EVs.cons (EV.name rfl) EVs.nil) (by first | exact CA.len_tup | exact CA.len_cont rfl | exact CA.len_cont cont_e0 | exact CA.len_cont cont_e1 | exact CA.len_cont (by assumption))) EV.int (by first | exact OP.ne_int | exact OP.ne_str)) rfl AT.orNil))⟩
  refine EL.cons (ES.assign_comp1 (caps := []) rfl rfl (by decide +kernel) ?S1 (ITR.tup (EV.name rfl)) (by trivial) ((pl.map (·.1)).map .str) ?hl1 ?hz1 ?step1) ?_
  case S1 => exact Scoped.of [] (by decide +kernel) rfl (by intro q hq; cases hq)
  case hl1 => simp
  case hz1 => simp; omega
  case step1 =>
    intro i d y hd hy
    obtain ⟨q, hq, rfl⟩ : ∃ q, pl[i]? = some q ∧ PyData.tuple [.str q.1, q.2.d] = d := by simpa using hd
    obtain rfl : PyData.str q.1 = y := by simpa [hq] using hy
    exact ⟨_, AL.name rfl, Sub.of_all (by intro q hq; cases hq), fun zs => (EV.sub (EV.name rfl) EV.int (by first | exact OP.item0 | exact OP.litem0))⟩
  refine EL.cons (ES.ifF0 (TV.cmp1 (EV.comp0 (caps := []) ?S2 (ITR.lst (EV.name rfl)) (by trivial) ?hz2 ?step2) (EV.list EVs.nil rfl) (OP.ne rfl rfl fine_nil fine_nil)) (by decide +kernel)) ?_
  case S2 => exact Scoped.of [] (by decide +kernel) rfl (by intro q hq; cases hq)
  case hz2 => simp; omega
  case step2 =>
    intro i d hd
    obtain ⟨q, hi, rfl⟩ : ∃ q, pl[i]? = some q ∧ PyData.str q.1 = d := by simpa using hd
    obtain ⟨h1, h2⟩ := hq q (List.mem_of_getElem? hi)
    exact ⟨_, AL.name rfl, Sub.of_all (by intro q hq; cases hq), fun zs => TV.boolop (AT.orF (TV.not (TV.val (EV.isi_str rfl rfl H.b_isinstance H.b_str (EV.name rfl)))) rfl (AT.orF (TV.cmp1 (EV.sfst (EV.name rfl) (by first | assumption | exact Nat.le_of_ble_eq_true rfl)) EV.str (by first | exact OP.ne_int | exact OP.ne_str)) (by rw [h2]; rfl) AT.orNil))⟩
  refine EL.ret (ES.return (EV.boolop (BO.andT (EV.cmp1 (EV.name rfl) (EV.sorted_set (ss := pl.map (·.1)) rfl rfl H.b_sorted H.b_set (EV.name rfl) ?_ hout) (OP.eq rfl rfl hf hf)) (PySem.SeqAt.eqv_refl _ hf.1) (BO.last (EV.castb (EV.cmp1 (EV.comp0 (caps := []) ?S3 (ITR.tup (EV.name rfl)) (by trivial) ?hz3 ?step3) (EV.list EVs.nil rfl) (OP.eq rfl rfl fine_nil fine_nil)) (by decide +kernel))))))
  · simpa using hl
  case S3 => exact Scoped.of [] (by decide +kernel) rfl (by intro q hq; cases hq)
  case hz3 => simp; omega
  case step3 =>
    intro i d hd
    obtain ⟨q, hi, rfl⟩ : ∃ q, pl[i]? = some q ∧ PyData.tuple [.str q.1, q.2.d] = d := by simpa using hd
    obtain ⟨h1, h2⟩ := hg q (List.mem_of_getElem? hi)
    exact ⟨_, AL.name rfl, Sub.of_all (by intro q hq; cases hq), fun zs => TV.not (TV.val (EV.call rfl H.n_is_plain_term H.k_is_plain_term (EVs.cons (EV.sub (EV.name rfl) EV.int (by first | exact OP.item1 | exact OP.litem1)) EVs.nil) (FNc.fn (c_is_plain_term H (T.pls q.2 h1 [] 0 .nil) (by omega) (by omega)))))⟩
end
end Mine
end PartP7
noncomputable section PartP8
open PySem PySem.W PyProof.Rows
set_option linter.all false
set_option maxRecDepth 20000
namespace Mine
section
variable {g : G} {n : Nat} {σ σ' τ : List Slot} {v : V}
theorem places1 : ∀ zs : List Str, zs.Perm (ddup [] [("?x" : Str)]) → sortedS zs = true → zs = [("?x" : Str)] := by
  intro zs h _
  have e : ddup [] [("?x" : Str)] = [("?x" : Str)] := by decide +kernel
  rw [e] at h
  exact List.perm_singleton.mp h
theorem perm_two {α : Type} {a b : α} {l : List α} (h : l.Perm [a, b]) : l = [a, b] ∨ l = [b, a] := by
  match l, h.length_eq with
  | [c, d], _ =>
    have hc : c ∈ [a, b] := h.mem_iff.mp (by simp)
    simp only [List.mem_cons, List.not_mem_nil, or_false] at hc
    rcases hc with rfl | rfl
    · have h2 := (List.perm_cons c).mp h
      rw [List.perm_singleton] at h2
      simp only [List.cons.injEq, and_true] at h2
      subst h2; exact .inl rfl
    · have h2 := (List.perm_cons c).mp (h.trans (List.Perm.swap c a []))
      rw [List.perm_singleton] at h2
      simp only [List.cons.injEq, and_true] at h2
      subst h2; exact .inr rfl
theorem places2 : ∀ zs : List Str, zs.Perm (ddup [] [("?x" : Str), "?y"]) → sortedS zs = true → zs = [("?x" : Str), "?y"] := by
  intro zs h hs
  have e : ddup [] [("?x" : Str), "?y"] = [("?x" : Str), "?y"] := by decide +kernel
  rw [e] at h
  rcases perm_two h with rfl | rfl
  · rfl
  · exact absurd hs (by decide +kernel)
theorem fine_x : Fine (.list [.str "?x"]) := ⟨by decide +kernel, Nat.le_of_ble_eq_true rfl⟩
theorem fine_xy : Fine (.list [.str "?x", .str "?y"]) := ⟨by decide +kernel, Nat.le_of_ble_eq_true rfl⟩
theorem c_places1 (H : Has g) {t : T} (ht : t.gr = true ∧ t.size ≤ 1000000) (hn : 2 ≤ n) : FNc g n (.ref H.a_are_places) [.dat (plD [("?x", t)])] σ (.dat (.bool true)) σ :=
  c_are_places H places1 (by intro q hq; simp at hq; subst hq; exact ⟨(by decide +kernel : ("?x" : Str).length ≤ 1000), (by decide +kernel : decide (fst ("?x" : Str) = "?") = true)⟩) (by intro q hq; simp at hq; subst hq; exact ht) fine_x (by simp) hn
theorem c_places2 (H : Has g) {t u : T} (ht : t.gr = true ∧ t.size ≤ 1000000) (hu : u.gr = true ∧ u.size ≤ 1000000) (hn : 2 ≤ n) : FNc g n (.ref H.a_are_places) [.dat (plD [("?x", t), ("?y", u)])] σ (.dat (.bool true)) σ :=
  c_are_places H places2 (by intro q hq; simp at hq; rcases hq with rfl | rfl; exact ⟨(by decide +kernel : ("?x" : Str).length ≤ 1000), (by decide +kernel : decide (fst ("?x" : Str) = "?") = true)⟩; exact ⟨(by decide +kernel : ("?y" : Str).length ≤ 1000), (by decide +kernel : decide (fst ("?y" : Str) = "?") = true)⟩) (by intro q hq; simp at hq; rcases hq with rfl | rfl; exact ht; exact hu) fine_xy (by simp) hn
theorem pls_f : Pls [.tuple [.str "f"]] 1 := Pls.cons (by decide +kernel) .nil .nil
theorem pls_g : Pls [.tuple [.str "g"]] 1 := Pls.cons (by decide +kernel) .nil .nil
theorem c_has_form (H : Has g) {M : Nat} (p : P) (hp : p.ok M) (hM : M ≤ 1000000) (hn : 3 ≤ n) : FNc g n (.ref H.a_has_form) [.dat p.d] σ (.dat (.bool true)) σ := by
  refine H.f_has_form.plain ok_has_form (by omega) ?_
  cases p with
  | same t =>
    refine EL.cons (ES.ifF0 (TV.boolop (AT.orF (TV.not (TV.val (EV.isi_tup rfl rfl H.b_isinstance H.b_tuple (EV.name rfl)))) rfl (AT.orF (TV.cmp1 (EV.len H rfl (EVs.cons (EV.name rfl) EVs.nil) (by first | exact CA.len_tup | exact CA.len_cont rfl | exact CA.len_cont cont_e0 | exact CA.len_cont cont_e1 | exact CA.len_cont (by assumption))) EV.int (by exact OP.lt_int)) rfl (AT.orF (TV.not (TV.val (EV.isi_str rfl rfl H.b_isinstance H.b_str (EV.sub (EV.name rfl) EV.int (by first | exact OP.item0 | exact OP.litem0))))) rfl AT.orNil)))) rfl) ?_
    refine EL.cons (ES.swap2 rfl rfl (EVs.cons (EV.sub (EV.name rfl) EV.int (by first | exact OP.item0 | exact OP.litem0)) (EVs.cons (EV.len H rfl (EVs.cons (EV.name rfl) EVs.nil) (by first | exact CA.len_tup | exact CA.len_cont rfl | exact CA.len_cont cont_e0 | exact CA.len_cont cont_e1 | exact CA.len_cont (by assumption))) EVs.nil)) (fun env h => by cases env; cases h; rfl)) ?_
    exact EL.ret (ES.ifT (TV.cmp1 (EV.name rfl) EV.str (by first | exact OP.eq_int | exact OP.eq_str)) (by decide +kernel) (EL.ret (ES.return (EV.boolop (BO.andT (EV.cmp1 (EV.name rfl) EV.int (by first | exact OP.eq_int | exact OP.eq_str)) rfl (BO.last (EV.call rfl H.n_is_plain_term H.k_is_plain_term (EVs.cons (EV.sub (EV.name rfl) EV.int (by first | exact OP.item1 | exact OP.litem1)) EVs.nil) (FNc.fn (c_is_plain_term H (T.pls t hp.1 [] 0 .nil) (by have := hp.2; omega) (by omega))))))))))
  | told k =>
    refine EL.cons (ES.ifF0 (TV.boolop (AT.orF (TV.not (TV.val (EV.isi_tup rfl rfl H.b_isinstance H.b_tuple (EV.name rfl)))) rfl (AT.orF (TV.cmp1 (EV.len H rfl (EVs.cons (EV.name rfl) EVs.nil) (by first | exact CA.len_tup | exact CA.len_cont rfl | exact CA.len_cont cont_e0 | exact CA.len_cont cont_e1 | exact CA.len_cont (by assumption))) EV.int (by exact OP.lt_int)) rfl (AT.orF (TV.not (TV.val (EV.isi_str rfl rfl H.b_isinstance H.b_str (EV.sub (EV.name rfl) EV.int (by first | exact OP.item0 | exact OP.litem0))))) rfl AT.orNil)))) rfl) ?_
    refine EL.cons (ES.swap2 rfl rfl (EVs.cons (EV.sub (EV.name rfl) EV.int (by first | exact OP.item0 | exact OP.litem0)) (EVs.cons (EV.len H rfl (EVs.cons (EV.name rfl) EVs.nil) (by first | exact CA.len_tup | exact CA.len_cont rfl | exact CA.len_cont cont_e0 | exact CA.len_cont cont_e1 | exact CA.len_cont (by assumption))) EVs.nil)) (fun env h => by cases env; cases h; rfl)) ?_
    exact EL.cons (ES.ifF0 (TV.cmp1 (EV.name rfl) EV.str (by first | exact OP.eq_int | exact OP.eq_str)) (by decide +kernel)) (EL.ret (ES.ifT (TV.cmp1 (EV.name rfl) EV.str (by first | exact OP.eq_int | exact OP.eq_str)) (by decide +kernel) (EL.ret (ES.return (EV.boolop (BO.andT (EV.cmp1 (EV.name rfl) EV.int (by first | exact OP.eq_int | exact OP.eq_str)) rfl (BO.last (EV.isi_str rfl rfl H.b_isinstance H.b_str (EV.sub (EV.name rfl) EV.int (by first | exact OP.item1 | exact OP.litem1))))))))))
  | dup t =>
    refine EL.cons (ES.ifF0 (TV.boolop (AT.orF (TV.not (TV.val (EV.isi_tup rfl rfl H.b_isinstance H.b_tuple (EV.name rfl)))) rfl (AT.orF (TV.cmp1 (EV.len H rfl (EVs.cons (EV.name rfl) EVs.nil) (by first | exact CA.len_tup | exact CA.len_cont rfl | exact CA.len_cont cont_e0 | exact CA.len_cont cont_e1 | exact CA.len_cont (by assumption))) EV.int (by exact OP.lt_int)) rfl (AT.orF (TV.not (TV.val (EV.isi_str rfl rfl H.b_isinstance H.b_str (EV.sub (EV.name rfl) EV.int (by first | exact OP.item0 | exact OP.litem0))))) rfl AT.orNil)))) rfl) ?_
    refine EL.cons (ES.swap2 rfl rfl (EVs.cons (EV.sub (EV.name rfl) EV.int (by first | exact OP.item0 | exact OP.litem0)) (EVs.cons (EV.len H rfl (EVs.cons (EV.name rfl) EVs.nil) (by first | exact CA.len_tup | exact CA.len_cont rfl | exact CA.len_cont cont_e0 | exact CA.len_cont cont_e1 | exact CA.len_cont (by assumption))) EVs.nil)) (fun env h => by cases env; cases h; rfl)) ?_
    exact EL.cons (ES.ifF0 (TV.cmp1 (EV.name rfl) EV.str (by first | exact OP.eq_int | exact OP.eq_str)) (by decide +kernel)) (EL.cons (ES.ifF0 (TV.cmp1 (EV.name rfl) EV.str (by first | exact OP.eq_int | exact OP.eq_str)) (by decide +kernel)) (EL.ret (ES.ifT (TV.cmp1 (EV.name rfl) EV.str (by first | exact OP.eq_int | exact OP.eq_str)) (by decide +kernel) (EL.ret (ES.return (EV.boolop (BO.andT (EV.cmp1 (EV.name rfl) EV.int (by first | exact OP.eq_int | exact OP.eq_str)) rfl (BO.andT (EV.isi_str rfl rfl H.b_isinstance H.b_str (EV.sub (EV.name rfl) EV.int (by first | exact OP.item1 | exact OP.litem1))) rfl (BO.last (EV.call rfl H.n_are_places H.k_are_places (EVs.cons (EV.sub (EV.name rfl) EV.int (by first | exact OP.item2 | exact OP.litem2)) EVs.nil) (FNc.fn (c_places1 H ⟨hp.1, Nat.le_trans hp.2 hM⟩ (by omega)))))))))))))
  | swap t u =>
    refine EL.cons (ES.ifF0 (TV.boolop (AT.orF (TV.not (TV.val (EV.isi_tup rfl rfl H.b_isinstance H.b_tuple (EV.name rfl)))) rfl (AT.orF (TV.cmp1 (EV.len H rfl (EVs.cons (EV.name rfl) EVs.nil) (by first | exact CA.len_tup | exact CA.len_cont rfl | exact CA.len_cont cont_e0 | exact CA.len_cont cont_e1 | exact CA.len_cont (by assumption))) EV.int (by exact OP.lt_int)) rfl (AT.orF (TV.not (TV.val (EV.isi_str rfl rfl H.b_isinstance H.b_str (EV.sub (EV.name rfl) EV.int (by first | exact OP.item0 | exact OP.litem0))))) rfl AT.orNil)))) rfl) ?_
    refine EL.cons (ES.swap2 rfl rfl (EVs.cons (EV.sub (EV.name rfl) EV.int (by first | exact OP.item0 | exact OP.litem0)) (EVs.cons (EV.len H rfl (EVs.cons (EV.name rfl) EVs.nil) (by first | exact CA.len_tup | exact CA.len_cont rfl | exact CA.len_cont cont_e0 | exact CA.len_cont cont_e1 | exact CA.len_cont (by assumption))) EVs.nil)) (fun env h => by cases env; cases h; rfl)) ?_
    exact EL.cons (ES.ifF0 (TV.cmp1 (EV.name rfl) EV.str (by first | exact OP.eq_int | exact OP.eq_str)) (by decide +kernel)) (EL.cons (ES.ifF0 (TV.cmp1 (EV.name rfl) EV.str (by first | exact OP.eq_int | exact OP.eq_str)) (by decide +kernel)) (EL.ret (ES.ifT (TV.cmp1 (EV.name rfl) EV.str (by first | exact OP.eq_int | exact OP.eq_str)) (by decide +kernel) (EL.ret (ES.return (EV.boolop (BO.andT (EV.cmp1 (EV.name rfl) EV.int (by first | exact OP.eq_int | exact OP.eq_str)) rfl (BO.andT (EV.isi_str rfl rfl H.b_isinstance H.b_str (EV.sub (EV.name rfl) EV.int (by first | exact OP.item1 | exact OP.litem1))) rfl (BO.last (EV.call rfl H.n_are_places H.k_are_places (EVs.cons (EV.sub (EV.name rfl) EV.int (by first | exact OP.item2 | exact OP.litem2)) EVs.nil) (FNc.fn (c_places2 H ⟨hp.1.1, Nat.le_trans hp.1.2 hM⟩ ⟨hp.2.1, Nat.le_trans hp.2.2 hM⟩ (by omega)))))))))))))
  | turn p =>
    refine EL.cons (ES.ifF0 (TV.boolop (AT.orF (TV.not (TV.val (EV.isi_tup rfl rfl H.b_isinstance H.b_tuple (EV.name rfl)))) rfl (AT.orF (TV.cmp1 (EV.len H rfl (EVs.cons (EV.name rfl) EVs.nil) (by first | exact CA.len_tup | exact CA.len_cont rfl | exact CA.len_cont cont_e0 | exact CA.len_cont cont_e1 | exact CA.len_cont (by assumption))) EV.int (by exact OP.lt_int)) rfl (AT.orF (TV.not (TV.val (EV.isi_str rfl rfl H.b_isinstance H.b_str (EV.sub (EV.name rfl) EV.int (by first | exact OP.item0 | exact OP.litem0))))) rfl AT.orNil)))) rfl) ?_
    refine EL.cons (ES.swap2 rfl rfl (EVs.cons (EV.sub (EV.name rfl) EV.int (by first | exact OP.item0 | exact OP.litem0)) (EVs.cons (EV.len H rfl (EVs.cons (EV.name rfl) EVs.nil) (by first | exact CA.len_tup | exact CA.len_cont rfl | exact CA.len_cont cont_e0 | exact CA.len_cont cont_e1 | exact CA.len_cont (by assumption))) EVs.nil)) (fun env h => by cases env; cases h; rfl)) ?_
    exact EL.cons (ES.ifF0 (TV.cmp1 (EV.name rfl) EV.str (by first | exact OP.eq_int | exact OP.eq_str)) (by decide +kernel)) (EL.cons (ES.ifF0 (TV.cmp1 (EV.name rfl) EV.str (by first | exact OP.eq_int | exact OP.eq_str)) (by decide +kernel)) (EL.cons (ES.ifF0 (TV.cmp1 (EV.name rfl) EV.str (by first | exact OP.eq_int | exact OP.eq_str)) (by decide +kernel)) (EL.cons (ES.ifF0 (TV.cmp1 (EV.name rfl) EV.str (by first | exact OP.eq_int | exact OP.eq_str)) (by decide +kernel))
      (EL.ret (ES.return (EV.boolop (BO.orT (EV.boolop (BO.andT (EV.cmp1 (EV.name rfl) EV.str (by first | exact OP.eq_int | exact OP.eq_str)) (by decide +kernel) (BO.last (EV.castb (EV.cmp1 (EV.name rfl) EV.int (by first | exact OP.eq_int | exact OP.eq_str)) rfl)))) rfl)))))))
  | join p q =>
    refine EL.cons (ES.ifF0 (TV.boolop (AT.orF (TV.not (TV.val (EV.isi_tup rfl rfl H.b_isinstance H.b_tuple (EV.name rfl)))) rfl (AT.orF (TV.cmp1 (EV.len H rfl (EVs.cons (EV.name rfl) EVs.nil) (by first | exact CA.len_tup | exact CA.len_cont rfl | exact CA.len_cont cont_e0 | exact CA.len_cont cont_e1 | exact CA.len_cont (by assumption))) EV.int (by exact OP.lt_int)) rfl (AT.orF (TV.not (TV.val (EV.isi_str rfl rfl H.b_isinstance H.b_str (EV.sub (EV.name rfl) EV.int (by first | exact OP.item0 | exact OP.litem0))))) rfl AT.orNil)))) rfl) ?_
    refine EL.cons (ES.swap2 rfl rfl (EVs.cons (EV.sub (EV.name rfl) EV.int (by first | exact OP.item0 | exact OP.litem0)) (EVs.cons (EV.len H rfl (EVs.cons (EV.name rfl) EVs.nil) (by first | exact CA.len_tup | exact CA.len_cont rfl | exact CA.len_cont cont_e0 | exact CA.len_cont cont_e1 | exact CA.len_cont (by assumption))) EVs.nil)) (fun env h => by cases env; cases h; rfl)) ?_
    exact EL.cons (ES.ifF0 (TV.cmp1 (EV.name rfl) EV.str (by first | exact OP.eq_int | exact OP.eq_str)) (by decide +kernel)) (EL.cons (ES.ifF0 (TV.cmp1 (EV.name rfl) EV.str (by first | exact OP.eq_int | exact OP.eq_str)) (by decide +kernel)) (EL.cons (ES.ifF0 (TV.cmp1 (EV.name rfl) EV.str (by first | exact OP.eq_int | exact OP.eq_str)) (by decide +kernel)) (EL.cons (ES.ifF0 (TV.cmp1 (EV.name rfl) EV.str (by first | exact OP.eq_int | exact OP.eq_str)) (by decide +kernel))
      (EL.ret (ES.return (EV.boolop (BO.orF (EV.boolop (BO.andF (EV.cmp1 (EV.name rfl) EV.str (by first | exact OP.eq_int | exact OP.eq_str)) (by decide +kernel))) rfl (BO.last (EV.boolop (BO.andT (EV.cmp1 (EV.name rfl) EV.str (by first | exact OP.eq_int | exact OP.eq_str)) (by decide +kernel) (BO.last (EV.castb (EV.cmp1 (EV.name rfl) EV.int (by first | exact OP.eq_int | exact OP.eq_str)) rfl))))))))))))
  | under1 p =>
    refine EL.cons (ES.ifF0 (TV.boolop (AT.orF (TV.not (TV.val (EV.isi_tup rfl rfl H.b_isinstance H.b_tuple (EV.name rfl)))) rfl (AT.orF (TV.cmp1 (EV.len H rfl (EVs.cons (EV.name rfl) EVs.nil) (by first | exact CA.len_tup | exact CA.len_cont rfl | exact CA.len_cont cont_e0 | exact CA.len_cont cont_e1 | exact CA.len_cont (by assumption))) EV.int (by exact OP.lt_int)) rfl (AT.orF (TV.not (TV.val (EV.isi_str rfl rfl H.b_isinstance H.b_str (EV.sub (EV.name rfl) EV.int (by first | exact OP.item0 | exact OP.litem0))))) rfl AT.orNil)))) rfl) ?_
    refine EL.cons (ES.swap2 rfl rfl (EVs.cons (EV.sub (EV.name rfl) EV.int (by first | exact OP.item0 | exact OP.litem0)) (EVs.cons (EV.len H rfl (EVs.cons (EV.name rfl) EVs.nil) (by first | exact CA.len_tup | exact CA.len_cont rfl | exact CA.len_cont cont_e0 | exact CA.len_cont cont_e1 | exact CA.len_cont (by assumption))) EVs.nil)) (fun env h => by cases env; cases h; rfl)) ?_
    exact EL.cons (ES.ifF0 (TV.cmp1 (EV.name rfl) EV.str (by first | exact OP.eq_int | exact OP.eq_str)) (by decide +kernel)) (EL.cons (ES.ifF0 (TV.cmp1 (EV.name rfl) EV.str (by first | exact OP.eq_int | exact OP.eq_str)) (by decide +kernel)) (EL.cons (ES.ifF0 (TV.cmp1 (EV.name rfl) EV.str (by first | exact OP.eq_int | exact OP.eq_str)) (by decide +kernel)) (EL.ret (ES.ifT (TV.cmp1 (EV.name rfl) EV.str (by first | exact OP.eq_int | exact OP.eq_str)) (by decide +kernel) (EL.ret (ES.return (EV.boolop (BO.andT (EV.cmp1 (EV.name rfl) EV.int (by first | exact OP.eq_int | exact OP.eq_str)) rfl (BO.andT (EV.call rfl H.n_is_plain_term H.k_is_plain_term (EVs.cons (EV.tuple (EVs.cons (EV.sub (EV.name rfl) EV.int (by first | exact OP.item1 | exact OP.litem1)) EVs.nil) rfl) EVs.nil) (FNc.fn (c_is_plain_term H pls_f (by omega) (by omega)))) rfl (BO.last (EV.isi_tup rfl rfl H.b_isinstance H.b_tuple (EV.sub (EV.name rfl) EV.int (by first | exact OP.item2 | exact OP.litem2)))))))))))))
  | under2 p q =>
    refine EL.cons (ES.ifF0 (TV.boolop (AT.orF (TV.not (TV.val (EV.isi_tup rfl rfl H.b_isinstance H.b_tuple (EV.name rfl)))) rfl (AT.orF (TV.cmp1 (EV.len H rfl (EVs.cons (EV.name rfl) EVs.nil) (by first | exact CA.len_tup | exact CA.len_cont rfl | exact CA.len_cont cont_e0 | exact CA.len_cont cont_e1 | exact CA.len_cont (by assumption))) EV.int (by exact OP.lt_int)) rfl (AT.orF (TV.not (TV.val (EV.isi_str rfl rfl H.b_isinstance H.b_str (EV.sub (EV.name rfl) EV.int (by first | exact OP.item0 | exact OP.litem0))))) rfl AT.orNil)))) rfl) ?_
    refine EL.cons (ES.swap2 rfl rfl (EVs.cons (EV.sub (EV.name rfl) EV.int (by first | exact OP.item0 | exact OP.litem0)) (EVs.cons (EV.len H rfl (EVs.cons (EV.name rfl) EVs.nil) (by first | exact CA.len_tup | exact CA.len_cont rfl | exact CA.len_cont cont_e0 | exact CA.len_cont cont_e1 | exact CA.len_cont (by assumption))) EVs.nil)) (fun env h => by cases env; cases h; rfl)) ?_
    exact EL.cons (ES.ifF0 (TV.cmp1 (EV.name rfl) EV.str (by first | exact OP.eq_int | exact OP.eq_str)) (by decide +kernel)) (EL.cons (ES.ifF0 (TV.cmp1 (EV.name rfl) EV.str (by first | exact OP.eq_int | exact OP.eq_str)) (by decide +kernel)) (EL.cons (ES.ifF0 (TV.cmp1 (EV.name rfl) EV.str (by first | exact OP.eq_int | exact OP.eq_str)) (by decide +kernel)) (EL.ret (ES.ifT (TV.cmp1 (EV.name rfl) EV.str (by first | exact OP.eq_int | exact OP.eq_str)) (by decide +kernel) (EL.ret (ES.return (EV.boolop (BO.andT (EV.cmp1 (EV.name rfl) EV.int (by first | exact OP.eq_int | exact OP.eq_str)) rfl (BO.andT (EV.call rfl H.n_is_plain_term H.k_is_plain_term (EVs.cons (EV.tuple (EVs.cons (EV.sub (EV.name rfl) EV.int (by first | exact OP.item1 | exact OP.litem1)) EVs.nil) rfl) EVs.nil) (FNc.fn (c_is_plain_term H pls_g (by omega) (by omega)))) rfl (BO.last (EV.isi_tup rfl rfl H.b_isinstance H.b_tuple (EV.sub (EV.name rfl) EV.int (by first | exact OP.item2 | exact OP.litem2)))))))))))))
theorem FnIs.fall {fa : Addr} {sc : Scope} {ps : List Str} {body : List Stmt} {args : List V} {ρ' : List (Str × V)} (I : FnIs g.K fa ps sc body) (hs : okSc sc ps = true) (hn : 1 ≤ n) (h : EL g (n - 1) sc body (ps.zip args) σ (.next ρ' σ')) (hl : σ.length ≤ σ'.length) (hc : Closed σ → Closed σ') (hlen : args.length = ps.length := by rfl) : FNc g n (.ref fa) args σ (.dat .none) σ' := by
  obtain ⟨n, rfl⟩ : ∃ m, n = m + 1 := ⟨n - 1, by omega⟩
  exact I.fnc (τ := []) (o := .next ρ' σ') hs hlen h (by have := Ends.fall (k := σ'.length) (σ' := σ') (τ := []) (ρ := ρ'); rwa [List.append_nil] at this) hl hc
theorem c_want_form (H : Has g) {M : Nat} (p : P) (d : PyData) (hp : p.ok M) (hM : M ≤ 1000000) (hn : 4 ≤ n) : FNc g n (.ref H.a_want_form) [.dat p.d, .dat d] σ (.dat .none) σ := by
  refine H.f_want_form.fall (ρ' := [("paper", .dat p.d), ("path", .dat d)]) ok_want_form (by omega) ?_ (Nat.le_refl _) id
  exact EL.cons (ES.ifF0 (TV.not (TV.val (EV.call rfl H.n_has_form H.k_has_form (EVs.cons (EV.name rfl) EVs.nil) (FNc.fn (c_has_form H p hp hM (by omega)))))) rfl) EL.nil
end
end Mine
end PartP8
noncomputable section PartP9
open PySem PySem.W PyProof.Rows
set_option linter.all false
set_option maxRecDepth 20000
namespace Mine
abbrev Q := List Nat × P
def qD (q : Q) : PyData := .tuple [pathD q.1, q.2.d]
/-- the parts of a paper, each after its own parts -/
def post : List Nat → P → List Q
  | path, .turn p => post (path ++ [0]) p ++ [(path, .turn p)]
  | path, .join p q => post (path ++ [0]) p ++ post (path ++ [1]) q ++ [(path, .join p q)]
  | path, .under1 p => post (path ++ [0]) p ++ [(path, .under1 p)]
  | path, .under2 p q => post (path ++ [0]) p ++ post (path ++ [1]) q ++ [(path, .under2 p q)]
  | path, p => [(path, p)]
def kidsQ (q : Q) : List Q := q.2.kids.zipIdx.map fun c => (q.1 ++ [c.2], c.1)
theorem post_eq (path : List Nat) (p : P) : post path p = (kidsQ (path, p)).flatMap (fun q => post q.1 q.2) ++ [(path, p)] := by
  cases p <;> simp [post, kidsQ, P.kids]
theorem kidsQ_get {path : List Nat} {p : P} {k : Nat} : (kidsQ (path, p))[k]? = (p.kids[k]?).map fun c => (path ++ [k], c) := by
  simp [kidsQ]; rfl
theorem kidsQ_len {q : Q} : (kidsQ q).length = q.2.kids.length := by simp [kidsQ]
def rpo (q : Q) : List Q := (post q.1 q.2).reverse
theorem rpo_eq (q : Q) : rpo q = q :: (kidsQ q).reverse.flatMap rpo := by
  obtain ⟨path, p⟩ := q
  rw [rpo, post_eq, List.reverse_append, List.reverse_flatMap]; rfl
def cnts (l : List Q) : Nat := (l.map fun q => q.2.cnt).sum
theorem cnts_append (l l' : List Q) : cnts (l ++ l') = cnts l + cnts l' := by simp [cnts]
theorem cnts_kids (q : Q) : cnts (kidsQ q) + 1 = q.2.cnt := by
  obtain ⟨path, p⟩ := q
  cases p <;> simp [cnts, kidsQ, P.kids, P.cnt]
theorem cnts_le (l : List Q) : l.length ≤ cnts l := by
  induction l with
  | nil => exact Nat.le_refl _
  | cons q l ih =>
    have := cnts_kids q
    have e : cnts (q :: l) = q.2.cnt + cnts l := by simp [cnts]
    rw [e, List.length_cons]; omega
theorem cnts_mem {l : List Q} {q : Q} (h : q ∈ l) : q.2.cnt ≤ cnts l := by
  obtain ⟨a, b, rfl⟩ := List.append_of_mem h
  have e : cnts (q :: b) = q.2.cnt + cnts b := by simp [cnts]
  rw [cnts_append, e]; omega
theorem post_len : ∀ (p : P) (path : List Nat), (post path p).length = p.cnt
  | .turn p, path => by simp [post, P.cnt, post_len p]
  | .join p q, path => by simp [post, P.cnt, post_len p, post_len q]; omega
  | .under1 p, path => by simp [post, P.cnt, post_len p]
  | .under2 p q, path => by simp [post, P.cnt, post_len p, post_len q]; omega
  | .same _, _ | .told _, _ | .dup _, _ | .swap _ _, _ => rfl
def stepQ (a : List Q × List Q) : List Q × List Q := match a.2.getLast? with
  | some q => (a.1 ++ [q], a.2.dropLast ++ kidsQ q)
  | none => a
theorem stepQ_eq {f r : List Q} {q : Q} : stepQ (f, r ++ [q]) = (f ++ [q], r ++ kidsQ q) := by simp [stepQ]
structure InvQ (M C : Nat) (L : List Q) (a : List Q × List Q) (k : Nat) : Prop where
  all : a.1 ++ a.2.reverse.flatMap rpo = L
  cnt : cnts a.2 = k
  tot : a.1.length + k = C
  good : ∀ q ∈ a.2, q.2.ok M ∧ q.1.length + q.2.cnt ≤ C
theorem kidsQ_mem {q c : Q} (h : c ∈ kidsQ q) : ∃ k, q.2.kids[k]? = some c.2 ∧ c.1 = q.1 ++ [k] := by
  obtain ⟨k, hk⟩ := List.mem_iff_getElem?.mp h
  rw [show q = (q.1, q.2) from rfl, kidsQ_get] at hk
  obtain ⟨c', h1, rfl⟩ := Option.map_eq_some_iff.mp hk
  exact ⟨k, h1, rfl⟩
theorem InvQ.next {M C : Nat} {L f r : List Q} {q : Q} {k : Nat} (h : InvQ M C L (f, r ++ [q]) (k + 1)) : InvQ M C L (f ++ [q], r ++ kidsQ q) k := by
  have h1 := h.all; have h2 := h.cnt; have h3 := h.tot; have h4 := h.good
  have hc := cnts_kids q
  have e : cnts [q] = q.2.cnt := by simp [cnts]
  simp only [cnts_append, e] at h2
  refine ⟨?_, ?_, ?_, ?_⟩
  · rw [← h1]
    simp only [List.reverse_append, List.reverse_cons, List.reverse_nil, List.nil_append, List.flatMap_append, List.flatMap_cons, List.flatMap_nil, List.append_nil]
    rw [rpo_eq q]; simp
  · rw [cnts_append]; omega
  · simp only [List.length_append, List.length_singleton] at h3 ⊢; omega
  · intro c hc'
    rcases List.mem_append.mp hc' with hm | hm
    · exact h4 c (List.mem_append_left _ hm)
    · obtain ⟨g1, g2⟩ := h4 q (List.mem_append_right _ (List.mem_singleton_self q))
      obtain ⟨k, hk, he⟩ := kidsQ_mem hm
      have := P.kid_cnt hk
      refine ⟨P.ok_kid g1 hk, ?_⟩
      rw [he, List.length_append, List.length_singleton]; omega
section
variable {g : G} {n : Nat} {σ σ' τ : List Slot} {v : V}
theorem ip_snoc (p : List Nat) (k : Nat) : intD (ip (p ++ [k])) = intD (ip p) ++ [.int k] := by simp [ip, intD]
theorem pathD_len (p : List Nat) : (intD (ip p)).length = p.length := by simp [ip, intD]
def inEnv (σ : List Slot) : List (Str × V) := [("found", .ref σ.length), ("waiting", .ref (σ.length + 1))]
theorem c_in_order (H : Has g) {M : Nat} (p : P) (hp : p.ok M) (hM : M ≤ 1000000) (hc : p.cnt ≤ 1000) (hn : 4 ≤ n) : FNc g n (.ref H.a_in_order) [.dat p.d] σ (.dat (.list ((post [] p).map qD))) σ := by
  refine H.f_in_order.lst ok_in_order (by omega) [.list ((post [] p).map qD), .list []] (i := σ.length) (j := 0) ?_ rfl rfl
  refine EL.cons (ρ' := (inEnv σ ++ [(("paper" : Str), V.dat p.d)] : List (Str × V))) (σ₁ := σ ++ [.list [], .list [qD ([], p)]]) ?aa ?rest
  case aa =>
    refine ES.swap2 (v₁ := .ref σ.length) (v₂ := .ref (σ.length + 1)) rfl rfl ?evs ?hw
    case hw => exact fun env h => by cases env; cases h; rfl
    case evs =>
      refine EVs.cons (EV.list_new EVs.nil rfl) ?_
      refine EVs.cons (EV.cast (EV.castS (EV.list_new (ds := [qD ([], p)]) (EVs.cons (EV.tuple (EVs.cons (EV.tuple EVs.nil rfl) (EVs.cons (EV.name rfl) EVs.nil)) rfl) EVs.nil) ?hd) ?e1) ?e2) EVs.nil
      case hd => rfl
      case e1 => simp
      case e2 => simp
  refine EL.while_run (α := List Q × List Q) stepQ (InvQ M p.cnt (rpo ([], p))) (fun a => σ ++ [.list (a.1.map qD), .list (a.2.map qD)]) (inEnv σ) ([], [([], p)]) p.cnt ?hρ ?inv ?go ?stop ?fin
  case hρ => exact Sub.of_all (by intro q hq; simp [inEnv] at hq; rcases hq with rfl | rfl <;> rfl)
  case inv => exact ⟨by simp, by simp [cnts], by simp, by intro q hq; simp at hq; subst hq; exact ⟨hp, by simp⟩⟩
  case stop =>
    rintro ⟨f, r⟩ h
    have e : r = [] := List.length_eq_zero_iff.mp (by have := cnts_le r; have := h.cnt; simp only at this; omega)
    subst e
    exact TV.cast (TV.cmp1 (EV.len H rfl (EVs.cons (EV.name rfl) EVs.nil) (by first | exact CA.len_tup | exact CA.len_cont rfl | exact CA.len_cont cont_e0 | exact CA.len_cont cont_e1 | exact CA.len_cont (by assumption))) EV.int (by exact OP.gt_int)) (by simp)
  case fin =>
    rintro ⟨f, r⟩ h
    have e : r = [] := List.length_eq_zero_iff.mp (by have := cnts_le r; have := h.cnt; simp only at this; omega)
    subst e
    have e : f = rpo ([], p) := by have := h.all; simpa using this
    subst e
    refine EL.cons (ES.expr (EV.castS (EV.reverse (EV.name rfl) slot_e0) set_e0)) (EL.ret (ES.return (EV.castS (EV.name rfl) ?_)))
    rw [rpo, List.map_reverse, List.reverse_reverse]; rfl
  case go =>
    rintro ⟨f, r'⟩ k h
    obtain ⟨r, q, rfl⟩ : ∃ r q, r' = r ++ [q] := by
      have h2 := h.cnt
      simp only at h2
      have : r' ≠ [] := by intro e; subst e; simp [cnts] at h2
      exact ⟨_, _, (List.dropLast_concat_getLast this).symm⟩
    rw [stepQ_eq]
    have hgood := h.good q (by simp)
    have htot := h.tot
    have hcnt := h.cnt
    simp only [cnts_append] at htot hcnt
    have hl := cnts_le r
    have hs := sl
    have hk2 := P.kids_le q.2
    have hk3 := @kidsQ_len q
    obtain ⟨path, one⟩ := q
    refine ⟨h.next, ?_, ?_⟩
    · exact TV.cast (TV.cmp1 (EV.len H rfl (EVs.cons (EV.name rfl) EVs.nil) (by first | exact CA.len_tup | exact CA.len_cont rfl | exact CA.len_cont cont_e0 | exact CA.len_cont cont_e1 | exact CA.len_cont (by assumption))) EV.int (by exact OP.gt_int)) (by simp)
    · simp only [List.map_append, List.map_cons, List.map_nil]
      refine ⟨("one", .dat one.d) :: ("path", .dat (pathD path)) :: inEnv σ, ?body, ?sub⟩
      refine EL.cons (ES.unpack (EV.castS (EV.pop (EV.name rfl) slot_e1) set_e1) (AS.tup2 (by right; rfl) (by left; rfl))) ?_
      refine EL.cons (ES.expr (EV.castS (EV.append (EV.name rfl) slot_e0 (EV.tuple (EVs.cons (EV.name rfl) (EVs.cons (EV.name rfl) EVs.nil)) rfl) slot_e0 ?hz1) set_e0)) ?_
      rotate_left
      refine EL.cons (ES.ifT (TV.val (EV.call rfl H.n_has_form H.k_has_form (EVs.cons (EV.name rfl) EVs.nil) (FNc.fn (c_has_form H one hgood.1 hM (by omega))))) rfl (EL.cons (ES.expr (v := .dat .none) ?ext) EL.nil)) EL.nil
      case ext =>
        refine EV.castS (EV.extend (EV.name rfl) slot_e1 (EV.comp1 (caps := [("path", .dat (pathD path))]) ?S (ITR.enumT rfl H.b_enumerate (EV.call rfl H.n_parts_of H.k_parts_of (EVs.cons (EV.name rfl) EVs.nil) (FNc.fn (c_parts_of H one (by omega))))) (by trivial) ((kidsQ (path, one)).map qD) ?hl ?hz ?step) slot_e1 ?hz2) set_e1
        case hz2 => simp only at htot hk3 hk2; simp [hk3]; omega
        case S => exact Scoped.of ["path"] (by decide +kernel) rfl (by intro q hq; simp at hq; subst hq; rfl)
        case hl => simp [hk3]
        case hz => simp [hk3]; simp only at hk2; omega
        case step =>
          intro j d y hd hy
          obtain ⟨c, hc, rfl⟩ : ∃ c, one.kids[j]? = some c ∧ c.d = d := by simpa using hd
          obtain rfl : qD (path ++ [j], c) = y := by
            rw [List.getElem?_map, kidsQ_get, hc] at hy; simpa using hy
          refine ⟨_, AL.tup2 rfl rfl, Sub.of_all (by intro q hq; simp at hq; subst hq; rfl), fun zs => ?_⟩
          have e : qD (path ++ [j], c) = .tuple [.tuple (intD (ip path) ++ [.int j]), c.d] := by
            show PyData.tuple [.tuple (intD (ip (path ++ [j]))), c.d] = _
            rw [ip_snoc]
          rw [e]
          have h5 := hgood.2
          simp only at h5
          exact (EV.tuple (EVs.cons (EV.bin (EV.name rfl) (EV.tuple (EVs.cons (EV.name rfl) EVs.nil) rfl) (OP.add_tup (Nat.le_trans (by simp [pathD_len]; omega) sl))) (EVs.cons (EV.name rfl) EVs.nil)) rfl)
      case sub => exact Sub.of_all (by intro q hq; simp [inEnv] at hq; rcases hq with rfl | rfl <;> rfl)
      case hz1 => rw [List.length_map]; omega
end
end Mine
end PartP9
noncomputable section PartP10
open PySem PySem.W PyProof.Rows
set_option linter.all false
set_option maxRecDepth 20000
namespace Mine
theorem post_pre : ∀ (p : P) (path : List Nat) (q : Q), q ∈ post path p → path <+: q.1
  | .same _, path, q, h | .told _, path, q, h | .dup _, path, q, h | .swap _ _, path, q, h => by
    simp [post] at h; subst h; exact List.prefix_refl _
  | .turn p, path, q, h => by
    simp only [post, List.mem_append, List.mem_singleton] at h
    rcases h with h | rfl
    · exact (List.prefix_append _ _).trans (post_pre p _ q h)
    · exact List.prefix_refl _
  | .under1 p, path, q, h => by
    simp only [post, List.mem_append, List.mem_singleton] at h
    rcases h with h | rfl
    · exact (List.prefix_append _ _).trans (post_pre p _ q h)
    · exact List.prefix_refl _
  | .join p p', path, q, h => by
    simp only [post, List.mem_append, List.mem_singleton] at h
    rcases h with (h | h) | rfl
    · exact (List.prefix_append _ _).trans (post_pre p _ q h)
    · exact (List.prefix_append _ _).trans (post_pre p' _ q h)
    · exact List.prefix_refl _
  | .under2 p p', path, q, h => by
    simp only [post, List.mem_append, List.mem_singleton] at h
    rcases h with (h | h) | rfl
    · exact (List.prefix_append _ _).trans (post_pre p _ q h)
    · exact (List.prefix_append _ _).trans (post_pre p' _ q h)
    · exact List.prefix_refl _
theorem not_snoc {path : List Nat} {k : Nat} {x : List Nat} (h : path ++ [k] <+: x) : x ≠ path := by
  rintro rfl
  have := h.length_le
  simp at this; omega
theorem snoc_apart {path x : List Nat} (h : path ++ [0] <+: x) (h' : path ++ [1] <+: x) : False := by
  obtain ⟨a, rfl⟩ := h
  obtain ⟨b, hb⟩ := h'
  simp only [List.append_assoc, List.append_cancel_left_eq] at hb
  simp at hb
theorem post_nodup : ∀ (p : P) (path : List Nat), ((post path p).map (·.1)).Nodup
  | .same _, path | .told _, path | .dup _, path | .swap _ _, path => by simp [post]
  | .turn p, path => by
    simp only [post, List.map_append, List.map_cons, List.map_nil, List.nodup_append, List.nodup_cons, List.not_mem_nil, not_false_iff, List.nodup_nil, and_true, true_and]
    refine ⟨post_nodup p _, fun a ha b hb => ?_⟩
    obtain ⟨q, hq, rfl⟩ := List.mem_map.mp ha
    rw [List.mem_singleton.mp hb]; exact not_snoc (post_pre p _ q hq)
  | .under1 p, path => by
    simp only [post, List.map_append, List.map_cons, List.map_nil, List.nodup_append, List.nodup_cons, List.not_mem_nil, not_false_iff, List.nodup_nil, and_true, true_and]
    refine ⟨post_nodup p _, fun a ha b hb => ?_⟩
    obtain ⟨q, hq, rfl⟩ := List.mem_map.mp ha
    rw [List.mem_singleton.mp hb]; exact not_snoc (post_pre p _ q hq)
  | .join p p', path => by
    simp only [post, List.map_append, List.map_cons, List.map_nil, List.nodup_append, List.nodup_cons, List.not_mem_nil, not_false_iff, List.nodup_nil, and_true, true_and]
    refine ⟨⟨post_nodup p _, post_nodup p' _, fun a ha b hb e => ?_⟩, fun a ha b hb => ?_⟩
    · obtain ⟨q, hq, rfl⟩ := List.mem_map.mp ha
      obtain ⟨q', hq', rfl⟩ := List.mem_map.mp hb
      exact snoc_apart (post_pre p _ q hq) (e ▸ post_pre p' _ q' hq')
    · rw [List.mem_singleton.mp hb]
      rcases List.mem_append.mp ha with ha | ha
      · obtain ⟨q, hq, rfl⟩ := List.mem_map.mp ha; exact not_snoc (post_pre p _ q hq)
      · obtain ⟨q, hq, rfl⟩ := List.mem_map.mp ha; exact not_snoc (post_pre p' _ q hq)
  | .under2 p p', path => by
    simp only [post, List.map_append, List.map_cons, List.map_nil, List.nodup_append, List.nodup_cons, List.not_mem_nil, not_false_iff, List.nodup_nil, and_true, true_and]
    refine ⟨⟨post_nodup p _, post_nodup p' _, fun a ha b hb e => ?_⟩, fun a ha b hb => ?_⟩
    · obtain ⟨q, hq, rfl⟩ := List.mem_map.mp ha
      obtain ⟨q', hq', rfl⟩ := List.mem_map.mp hb
      exact snoc_apart (post_pre p _ q hq) (e ▸ post_pre p' _ q' hq')
    · rw [List.mem_singleton.mp hb]
      rcases List.mem_append.mp ha with ha | ha
      · obtain ⟨q, hq, rfl⟩ := List.mem_map.mp ha; exact not_snoc (post_pre p _ q hq)
      · obtain ⟨q, hq, rfl⟩ := List.mem_map.mp ha; exact not_snoc (post_pre p' _ q hq)
theorem post_last (p : P) (path : List Nat) : (path, p) ∈ post path p := by rw [post_eq]; simp
/-- every item comes after its kids -/
def Kidly (L : List Q) : Prop := ∀ i q, L[i]? = some q → ∀ k c, q.2.kids[k]? = some c → (q.1 ++ [k], c) ∈ L.take i
theorem Kidly.append {L L' : List Q} (h : Kidly L) (h' : Kidly L') : Kidly (L ++ L') := by
  intro i q hi k c hk
  rw [List.take_append]
  by_cases hl : i < L.length
  · rw [List.getElem?_append_left hl] at hi
    exact List.mem_append_left _ (h i q hi k c hk)
  · rw [List.getElem?_append_right (by omega)] at hi
    exact List.mem_append_right _ (h' _ q hi k c hk)
theorem Kidly.snoc {L : List Q} {q : Q} (h : Kidly L) (hq : ∀ k c, q.2.kids[k]? = some c → (q.1 ++ [k], c) ∈ L) : Kidly (L ++ [q]) := by
  intro i q' hi k c hk
  by_cases hl : i < L.length
  · rw [List.getElem?_append_left hl] at hi
    rw [List.take_append]
    exact List.mem_append_left _ (h i q' hi k c hk)
  · rw [List.getElem?_append_right (by omega)] at hi
    have h0 : i - L.length = 0 := by
      rcases Nat.eq_zero_or_pos (i - L.length) with e | e
      · exact e
      · rw [List.getElem?_eq_none (by simp; omega)] at hi; cases hi
    have : i = L.length := by omega
    subst this
    simp at hi
    subst hi
    rw [List.take_left]
    exact hq k c hk
theorem Kidly.nil : Kidly [] := by intro i q h; simp at h
theorem post_kidly : ∀ (p : P) (path : List Nat), Kidly (post path p)
  | .same _, path | .told _, path | .dup _, path | .swap _ _, path => by
    show Kidly ([] ++ [_])
    exact Kidly.nil.snoc fun k c h => by simp [P.kids] at h
  | .turn p, path => by
    refine (post_kidly p _).snoc fun k c h => ?_
    cases k <;> simp [P.kids] at h; subst h; exact post_last _ _
  | .under1 p, path => by
    refine (post_kidly p _).snoc fun k c h => ?_
    cases k <;> simp [P.kids] at h; subst h; exact post_last _ _
  | .join p p', path => by
    refine ((post_kidly p _).append (post_kidly p' _)).snoc fun k c h => ?_
    rcases k with _ | _ | k <;> simp [P.kids] at h <;> subst h
    · exact List.mem_append_left _ (post_last _ _)
    · exact List.mem_append_right _ (post_last _ _)
  | .under2 p p', path => by
    refine ((post_kidly p _).append (post_kidly p' _)).snoc fun k c h => ?_
    rcases k with _ | _ | k <;> simp [P.kids] at h <;> subst h
    · exact List.mem_append_left _ (post_last _ _)
    · exact List.mem_append_right _ (post_last _ _)
theorem ip_inj {a b : List Nat} (h : ip a = ip b) : a = b := by
  exact (List.map_inj_right (fun x y e => Int.ofNat.inj e)).mp h
/-- a table by paths -/
def tab (F : P → V) (L : List Q) : List (List Int × V) := L.map fun q => (ip q.1, F q.2)
theorem tab_none {F : P → V} : ∀ {L : List Q} {x : List Nat}, x ∉ L.map (·.1) → (tab F L).lookup (ip x) = none
  | [], x, _ => rfl
  | q :: L, x, h => by
    simp only [List.map_cons, List.mem_cons, not_or] at h
    show ((ip q.1, F q.2) :: tab F L).lookup (ip x) = none
    have : (ip x == ip q.1) = false := by simpa using fun e => h.1 (ip_inj e)
    rw [List.lookup_cons, this]
    exact tab_none h.2
theorem tab_some {F : P → V} : ∀ {L : List Q} {q : Q}, (L.map (·.1)).Nodup → q ∈ L → (tab F L).lookup (ip q.1) = some (F q.2)
  | q' :: L, q, hn, h => by
    show ((ip q'.1, F q'.2) :: tab F L).lookup (ip q.1) = _
    simp only [List.map_cons, List.nodup_cons] at hn
    rcases List.mem_cons.mp h with rfl | h
    · simp [List.lookup_cons]
    · have : (ip q.1 == ip q'.1) = false := by
        have hne : q.1 ≠ q'.1 := fun e => hn.1 (e ▸ List.mem_map_of_mem h)
        simpa using fun e => hne (ip_inj e)
      rw [List.lookup_cons, this]
      exact tab_some hn.2 h
theorem tab_fresh {F : P → V} {p : P} {path : List Nat} {i : Nat} {q : Q} (h : (post path p)[i]? = some q) : (tab F ((post path p).take i)).lookup (ip q.1) = none := by
  refine tab_none fun hm => ?_
  obtain ⟨q', hq', e⟩ := List.mem_map.mp hm
  obtain ⟨j, hj⟩ := List.mem_iff_getElem?.mp hq'
  have hji : j < i := by
    have := (List.getElem?_eq_some_iff.mp hj).1
    rw [List.length_take] at this; omega
  rw [List.getElem?_take_of_lt hji] at hj
  have hn := post_nodup p path
  have h1 : ((post path p).map (·.1))[j]? = some q'.1 := by rw [List.getElem?_map, hj]; rfl
  have h2 : ((post path p).map (·.1))[i]? = some q.1 := by rw [List.getElem?_map, h]; rfl
  have hij : j = i := (List.getElem?_inj (List.getElem?_eq_some_iff.mp h1).1 hn).mp (by rw [h1, h2, e])
  omega
theorem tab_kid {F : P → V} {p : P} {path : List Nat} {i k : Nat} {q : Q} {c : P} (h : (post path p)[i]? = some q) (hk : q.2.kids[k]? = some c) : (tab F ((post path p).take i)).lookup (ip (q.1 ++ [k])) = some (F c) := by
  have hm := post_kidly p path i q h k c hk
  have hn : (((post path p).take i).map (·.1)).Nodup := by
    rw [List.map_take]; exact (post_nodup p path).sublist (List.take_sublist _ _)
  exact tab_some hn hm
theorem tab_root {F : P → V} {p : P} {path : List Nat} : (tab F (post path p)).lookup (ip path) = some (F p) := tab_some (post_nodup p path) (post_last p path)
theorem tab_succ {F : P → V} {L : List Q} {i : Nat} {q : Q} (h : L[i]? = some q) : tab F (L.take (i + 1)) = tab F (L.take i) ++ [(ip q.1, F q.2)] := by
  have hi := (List.getElem?_eq_some_iff.mp h).1
  rw [List.take_succ_eq_append_getElem hi]
  have : L[i] = q := (List.getElem?_eq_some_iff.mp h).2
  simp [tab, this]
theorem post_ok {M : Nat} : ∀ (p : P) (path : List Nat), p.ok M → ∀ q ∈ post path p, q.2.ok M
  | .same _, path, h, q, hq | .told _, path, h, q, hq | .dup _, path, h, q, hq | .swap _ _, path, h, q, hq => by simp [post] at hq; subst hq; exact h
  | .turn p, path, h, q, hq => by
    simp only [post, List.mem_append, List.mem_singleton] at hq
    rcases hq with hq | rfl
    · exact post_ok p _ h q hq
    · exact h
  | .under1 p, path, h, q, hq => by
    simp only [post, List.mem_append, List.mem_singleton] at hq
    rcases hq with hq | rfl
    · exact post_ok p _ h q hq
    · exact h
  | .join p p', path, h, q, hq => by
    simp only [post, List.mem_append, List.mem_singleton] at hq
    rcases hq with (hq | hq) | rfl
    · exact post_ok p _ h.1 q hq
    · exact post_ok p' _ h.2 q hq
    · exact h
  | .under2 p p', path, h, q, hq => by
    simp only [post, List.mem_append, List.mem_singleton] at hq
    rcases hq with (hq | hq) | rfl
    · exact post_ok p _ h.1 q hq
    · exact post_ok p' _ h.2 q hq
    · exact h
end Mine
end PartP10
noncomputable section PartP11
open PySem PySem.W PyProof.Rows
set_option linter.all false
set_option maxRecDepth 20000
namespace Mine
def pairD (q : T × T) : PyData := .tuple [q.1.d, q.2.d]
def knL (K : List (T × T)) : List (Str × V) := K.zipIdx.map fun q => (lab q.2, .dat (pairD q.1))
theorem lab_inj0 : ∀ i j : Fin 40, lab i.val = lab j.val → i = j := by decide +kernel
theorem lab_inj {i j : Nat} (hi : i < 40) (hj : j < 40) (h : lab i = lab j) : i = j := by
  have := lab_inj0 ⟨i, hi⟩ ⟨j, hj⟩ h
  simpa using this
theorem knL_get' : ∀ (K : List (T × T)) (m k : Nat) (q : T × T), K[k]? = some q → m + K.length ≤ 40 → ((K.zipIdx m).map fun q => (lab q.2, V.dat (pairD q.1))).lookup (lab (m + k)) = some (.dat (pairD q))
  | x :: K, m, 0, q, h, hl => by
    simp only [List.getElem?_cons_zero, Option.some.injEq] at h; subst h
    rw [List.zipIdx_cons, List.map_cons, List.lookup_cons]; simp
  | x :: K, m, k + 1, q, h, hl => by
    have hk : k < K.length := by simpa using (List.getElem?_eq_some_iff.mp h).1
    simp only [List.length_cons] at hl
    rw [List.zipIdx_cons, List.map_cons, List.lookup_cons]
    have : (lab (m + (k + 1)) == lab m) = false := by
      simp only [beq_eq_false_iff_ne, ne_eq]; intro e
      have := lab_inj (by omega) (by omega) e; omega
    simp only [this]
    have := knL_get' K (m + 1) k q (by simpa using h) (by omega)
    rwa [show m + 1 + k = m + (k + 1) by omega] at this
theorem knL_get {K : List (T × T)} {k : Nat} {q : T × T} (h : K[k]? = some q) (hl : K.length ≤ 40) : (knL K).lookup (lab k) = some (.dat (pairD q)) := by
  have := knL_get' K 0 k q h (by omega)
  simpa [knL] using this
theorem knL_none' : ∀ (K : List (T × T)) (m k : Nat), m + K.length ≤ k → k < 40 → ((K.zipIdx m).map fun q => (lab q.2, V.dat (pairD q.1))).lookup (lab k) = none
  | [], m, k, _, _ => rfl
  | x :: K, m, k, hl, hk => by
    simp only [List.length_cons] at hl
    rw [List.zipIdx_cons, List.map_cons, List.lookup_cons]
    have : (lab k == lab m) = false := by
      simp only [beq_eq_false_iff_ne, ne_eq]; intro e
      have := lab_inj (by omega) (by omega) e; omega
    simp only [this]
    exact knL_none' K (m + 1) k (by omega) hk
theorem knL_none {K : List (T × T)} {k : Nat} (h : K.length ≤ k) (hk : k < 40) : (knL K).lookup (lab k) = none := knL_none' K 0 k (by omega) hk
namespace P
/-- both sides -/
def lr (K : List (T × T)) : P → T × T
  | same t => (t, t)
  | told k => K.getD k (.a, .a)
  | dup t => (.f t, .g t t)
  | swap t u => (.g t u, .g u t)
  | turn p => ((p.lr K).2, (p.lr K).1)
  | join p q => ((p.lr K).1, (q.lr K).2)
  | under1 p => (.f (p.lr K).1, .f (p.lr K).2)
  | under2 p q => (.g (p.lr K).1 (q.lr K).1, .g (p.lr K).2 (q.lr K).2)
def loc (K : List (T × T)) (D : Nat) (p : P) : Prop := ((p.lr K).1.depth ≤ D ∧ (p.lr K).2.depth ≤ D) ∧ match p with
  | told k => k < K.length
  | join p q => (p.lr K).2 = (q.lr K).1
  | _ => True
def good (K : List (T × T)) (D : Nat) (p : P) : Prop := p.loc K D ∧ match p with
  | turn p => p.good K D
  | join p q => p.good K D ∧ q.good K D
  | under1 p => p.good K D
  | under2 p q => p.good K D ∧ q.good K D
  | _ => True
end P
theorem post_good {K : List (T × T)} {D : Nat} : ∀ (p : P) (path : List Nat), p.good K D → ∀ q ∈ post path p, q.2.loc K D
  | .same _, path, h, q, hq | .told _, path, h, q, hq | .dup _, path, h, q, hq | .swap _ _, path, h, q, hq => by simp [post] at hq; subst hq; exact h.1
  | .turn p, path, h, q, hq => by
    simp only [post, List.mem_append, List.mem_singleton] at hq
    rcases hq with hq | rfl
    · exact post_good p _ h.2 q hq
    · exact h.1
  | .under1 p, path, h, q, hq => by
    simp only [post, List.mem_append, List.mem_singleton] at hq
    rcases hq with hq | rfl
    · exact post_good p _ h.2 q hq
    · exact h.1
  | .join p p', path, h, q, hq => by
    simp only [post, List.mem_append, List.mem_singleton] at hq
    rcases hq with (hq | hq) | rfl
    · exact post_good p _ h.2.1 q hq
    · exact post_good p' _ h.2.2 q hq
    · exact h.1
  | .under2 p p', path, h, q, hq => by
    simp only [post, List.mem_append, List.mem_singleton] at hq
    rcases hq with (hq | hq) | rfl
    · exact post_good p _ h.2.1 q hq
    · exact post_good p' _ h.2.2 q hq
    · exact h.1
def ruleA (n : Str) (l r : T) : List (Str × V) := [("name", .dat (.str n)), ("left", .dat l.d), ("right", .dat r.d), ("needs", .dat (.tuple []))]
section
variable {g : G} {n : Nat} {σ σ' τ : List Slot} {v : V}
theorem Ins.app {i : Nat} {C : Addr} {as : List (Str × V)} (h : Ins σ i C as) : Ins (σ ++ τ) i C as := by
  obtain ⟨j, h1, h2⟩ := h.out
  exact ⟨j, by rw [List.getElem?_append_left (List.getElem?_eq_some_iff.mp h1).1]; exact h1, by rw [List.getElem?_append_left (List.getElem?_eq_some_iff.mp h2).1]; exact h2⟩
theorem get_app {i : Nat} {x : Slot} (h : σ[i]? = some x) : (σ ++ τ)[i]? = some x := by rw [List.getElem?_append_left (List.getElem?_eq_some_iff.mp h).1]; exact h
structure JO (H : Has g) (K : List (T × T)) (σ : List Slot) (j : Nat) : Prop where
  ex : ∃ ri d s, Ins σ j H.c_Judge [("rules", .ref ri), ("told", .ref 1)] ∧ σ[ri]? = some (.sdict [("dup", .ref d), ("swap", .ref s)]) ∧ Ins σ d H.c_Rule (ruleA "dup" (.f .x) (.g .x .x)) ∧ Ins σ s H.c_Rule (ruleA "swap" (.g .x .y) (.g .y .x))
  kn : σ[1]? = some (.sdict (knL K))
  len : K.length ≤ 40
theorem JO.app {H : Has g} {K : List (T × T)} {j : Nat} (J : JO H K σ j) : JO H K (σ ++ τ) j := by
  obtain ⟨ri, d, s, h1, h2, h3, h4⟩ := J.ex
  exact ⟨⟨ri, d, s, h1.app, get_app h2, h3.app, h4.app⟩, get_app J.kn, J.len⟩
theorem c_told_sides (H : Has g) {K : List (T × T)} {j k : Nat} {q : T × T} (J : JO H K σ j) (hk : K[k]? = some q) (place : PyData) (hn : 1 ≤ n) : FNc g n (.ref H.a_Judge_told_sides) [.ref j, .dat (.str (lab k)), .dat place] σ (.dat (pairD q)) σ := by
  obtain ⟨ri, d, s, h1, h2, h3, h4⟩ := J.ex
  refine H.f_Judge_told_sides.plain ok_Judge_told_sides hn ?_
  refine EL.cons (ES.ifF0 (TV.cmp1 (EV.name rfl) (EV.attr H.p_Judge_told (EV.name rfl) h1 rfl) (OP.snotin J.kn)) (by rw [knL_get hk J.len]; rfl)) ?_
  exact EL.ret (ES.return (EV.sub (EV.attr H.p_Judge_told (EV.name rfl) h1 rfl) (EV.name rfl) (OP.sget J.kn (knL_get hk J.len))))
theorem c_rule_dup (H : Has g) {K : List (T × T)} {j : Nat} {t : T} (J : JO H K σ j) (place : PyData) (hn : 6 ≤ n) : FNc g n (.ref H.a_Judge_rule_sides) [.ref j, .dat (.str "dup"), .dat (plD [("?x", t)]), .dat place] σ (.dat (pairD (.f t, .g t t))) σ := by
  obtain ⟨ri, d, s, h1, h2, h3, h4⟩ := J.ex
  refine H.f_Judge_rule_sides.pure ok_Judge_rule_sides (by omega) [.sdict [("?x", .dat t.d)], .sdict [("?x", .dat t.d)]] ?_
  refine EL.cons (ES.ifF0 (TV.cmp1 (EV.name rfl) (EV.attr H.p_Judge_rules (EV.name rfl) h1 rfl) (OP.snotin h2)) rfl) ?_
  refine EL.cons (ES.assign (.inl rfl) (EV.sub (EV.attr H.p_Judge_rules (EV.name rfl) h1 rfl) (EV.name rfl) (OP.sget h2 rfl))) ?_
  refine EL.cons (ES.ifF0 (TV.cmp1 (EV.comp1 (caps := []) ?S (ITR.tup (EV.name rfl)) (by trivial) [.str "?x"] ?hl (by decide) ?step) (EV.call rfl H.n_variables H.k_variables (EVs.cons (EV.attr H.p_Rule_left (EV.name rfl) h3 rfl) EVs.nil) (FNc.fn (c_variables H (.f .x) (out := ["?x"]) places1 (by decide) (by simp only [T.depth]; omega)))) (OP.ne rfl rfl fine_x fine_x)) (by decide +kernel)) ?_
  case S => exact Scoped.of [] (by decide +kernel) rfl (by intro q hq; cases hq)
  case hl => rfl
  case step =>
    intro i d y hd hy
    cases i <;> simp at hd hy
    subst hd hy
    exact ⟨_, AL.tup2 rfl rfl, Sub.of_all (by intro q hq; cases hq), fun zs => EV.name rfl⟩
  have e1 : (T.sub (.f .x) t t) = .f t := rfl
  refine EL.ret (ES.try_ret (EL.ret (ES.return (EV.castS (EV.tuple (EVs.cons (EV.call rfl H.n_placed H.k_placed (EVs.cons (EV.attr H.p_Rule_left (EV.name rfl) h3 rfl) (EVs.cons (EV.call_ty rfl H.b_dict bb_dict (EVs.cons (EV.name rfl) EVs.nil) (CA.dict_tup (prs := [("?x", t.d)]) (by simp) (by simp))) EVs.nil)) (FNc.fn (c_placed H (X := t) (Y := t) (.f .x) (by rfl) slot_end (by simp only [T.depth]; omega))))
    (EVs.cons (EV.call rfl H.n_placed H.k_placed (EVs.cons (EV.attr H.p_Rule_right (EV.name rfl) h3.app rfl) (EVs.cons (EV.call_ty rfl H.b_dict bb_dict (EVs.cons (EV.name rfl) EVs.nil) (CA.dict_tup (prs := [("?x", t.d)]) (by simp) (by simp))) EVs.nil)) (FNc.fn (c_placed H (X := t) (Y := t) (.g .x .x) ⟨by rfl, by rfl⟩ slot_end (by simp only [T.depth]; omega)))) EVs.nil)) rfl) ?_))))
  simp
end
end Mine
end PartP11
noncomputable section PartP12
open PySem PySem.W PyProof.Rows
set_option linter.all false
set_option maxRecDepth 20000
namespace Mine
section
variable {g : G} {n : Nat} {σ σ' τ : List Slot} {v : V}
theorem c_rule_swap (H : Has g) {K : List (T × T)} {j : Nat} {t u : T} (J : JO H K σ j) (place : PyData) (hn : 6 ≤ n) : FNc g n (.ref H.a_Judge_rule_sides) [.ref j, .dat (.str "swap"), .dat (plD [("?x", t), ("?y", u)]), .dat place] σ (.dat (pairD (.g t u, .g u t))) σ := by
  obtain ⟨ri, d, s, h1, h2, h3, h4⟩ := J.ex
  refine H.f_Judge_rule_sides.pure ok_Judge_rule_sides (by omega) [.sdict [("?x", .dat t.d), ("?y", .dat u.d)], .sdict [("?x", .dat t.d), ("?y", .dat u.d)]] ?_
  refine EL.cons (ES.ifF0 (TV.cmp1 (EV.name rfl) (EV.attr H.p_Judge_rules (EV.name rfl) h1 rfl) (OP.snotin h2)) rfl) ?_
  refine EL.cons (ES.assign (.inl rfl) (EV.sub (EV.attr H.p_Judge_rules (EV.name rfl) h1 rfl) (EV.name rfl) (OP.sget h2 rfl))) ?_
  refine EL.cons (ES.ifF0 (TV.cmp1 (EV.comp1 (caps := []) ?S (ITR.tup (EV.name rfl)) (by trivial) [.str "?x", .str "?y"] ?hl (by decide) ?step) (EV.call rfl H.n_variables H.k_variables (EVs.cons (EV.attr H.p_Rule_left (EV.name rfl) h4 rfl) EVs.nil) (FNc.fn (c_variables H (.g .x .y) (out := ["?x", "?y"]) places2 (by decide) (by simp only [T.depth]; omega)))) (OP.ne rfl rfl fine_xy fine_xy)) (by decide +kernel)) ?_
  case S => exact Scoped.of [] (by decide +kernel) rfl (by intro q hq; cases hq)
  case hl => rfl
  case step =>
    intro i d y hd hy
    rcases i with _ | _ | i <;> simp at hd hy <;> (subst hd hy; exact ⟨_, AL.tup2 rfl rfl, Sub.of_all (by intro q hq; cases hq), fun zs => EV.name rfl⟩)
  refine EL.ret (ES.try_ret (EL.ret (ES.return (EV.castS (EV.tuple (EVs.cons (EV.call rfl H.n_placed H.k_placed (EVs.cons (EV.attr H.p_Rule_left (EV.name rfl) h4 rfl) (EVs.cons (EV.call_ty rfl H.b_dict bb_dict (EVs.cons (EV.name rfl) EVs.nil) (CA.dict_tup (prs := [("?x", t.d), ("?y", u.d)]) (by simp) (by simp only [List.map_cons, List.map_nil]; decide +kernel))) EVs.nil)) (FNc.fn (c_placed H (X := t) (Y := u) (.g .x .y) ⟨by rfl, by rfl⟩ slot_end (by simp only [T.depth]; omega))))
    (EVs.cons (EV.call rfl H.n_placed H.k_placed (EVs.cons (EV.attr H.p_Rule_right (EV.name rfl) h4.app rfl) (EVs.cons (EV.call_ty rfl H.b_dict bb_dict (EVs.cons (EV.name rfl) EVs.nil) (CA.dict_tup (prs := [("?x", t.d), ("?y", u.d)]) (by simp) (by simp only [List.map_cons, List.map_nil]; decide +kernel))) EVs.nil)) (FNc.fn (c_placed H (X := t) (Y := u) (.g .y .x) ⟨by rfl, by rfl⟩ slot_end (by simp only [T.depth]; omega)))) EVs.nil)) rfl) ?_))))
  simp
theorem map_get {α β : Type} {f : α → β} {l : List α} {i : Nat} {d : β} (h : (l.map f)[i]? = some d) : ∃ c, l[i]? = some c ∧ f c = d := by simpa using h
theorem getD_get {K : List (T × T)} {k : Nat} (h : k < K.length) : K[k]? = some (K.getD k (.a, .a)) := by
  rw [List.getD_eq_getElem?_getD, List.getElem?_eq_getElem h]; rfl
theorem c_sides_of (H : Has g) {K : List (T × T)} {D j : Nat} (J : JO H K σ j) (p : P) (hp : p.loc K D) (hkd : ∀ c ∈ p.kids, c.loc K D) (hD : D ≤ 1000) (place : PyData) (hn : 8 ≤ n) :
    FNc g n (.ref H.a_Judge_sides_of) [.ref j, .dat p.d, .dat place, .dat (.list (p.kids.map fun c => pairD (c.lr K)))] σ (.dat (pairD (p.lr K))) σ := by
  obtain ⟨ri, d, s, h1, h2, h3, h4⟩ := J.ex
  refine H.f_Judge_sides_of.plain ok_Judge_sides_of (by omega) ?_
  cases p with
  | same t =>
    refine EL.cons (ES.assign (.inl rfl) (EV.sub (EV.name rfl) EV.int (by first | exact OP.item0 | exact OP.litem0))) ?_
    exact EL.ret (ES.ifT (TV.cmp1 (EV.name rfl) EV.str (by first | exact OP.eq_int | exact OP.eq_str)) (by decide +kernel) (EL.ret (ES.return (EV.tuple (EVs.cons (EV.sub (EV.name rfl) EV.int (by first | exact OP.item1 | exact OP.litem1)) (EVs.cons (EV.sub (EV.name rfl) EV.int (by first | exact OP.item1 | exact OP.litem1)) EVs.nil)) rfl))))
  | told k =>
    refine EL.cons (ES.assign (.inl rfl) (EV.sub (EV.name rfl) EV.int (by first | exact OP.item0 | exact OP.litem0))) ?_
    refine EL.cons (ES.ifF0 (TV.cmp1 (EV.name rfl) EV.str (by first | exact OP.eq_int | exact OP.eq_str)) (by decide +kernel)) ?_
    exact EL.ret (ES.ifT (TV.cmp1 (EV.name rfl) EV.str (by first | exact OP.eq_int | exact OP.eq_str)) (by decide +kernel) (EL.ret (ES.return (EV.method H.m_Judge_told_sides (EV.name rfl) h1 rfl (EVs.cons (EV.sub (EV.name rfl) EV.int (by first | exact OP.item1 | exact OP.litem1)) (EVs.cons (EV.name rfl) EVs.nil)) (FNc.fn (c_told_sides H J (getD_get hp.2) place (by omega))) (by intro _; with_unfolding_all rfl)))))
  | dup t =>
    refine EL.cons (ES.assign (.inl rfl) (EV.sub (EV.name rfl) EV.int (by first | exact OP.item0 | exact OP.litem0))) ?_
    refine EL.cons (ES.ifF0 (TV.cmp1 (EV.name rfl) EV.str (by first | exact OP.eq_int | exact OP.eq_str)) (by decide +kernel)) ?_
    refine EL.cons (ES.ifF0 (TV.cmp1 (EV.name rfl) EV.str (by first | exact OP.eq_int | exact OP.eq_str)) (by decide +kernel)) ?_
    exact EL.ret (ES.ifT (TV.cmp1 (EV.name rfl) EV.str (by first | exact OP.eq_int | exact OP.eq_str)) (by decide +kernel) (EL.ret (ES.return (EV.method H.m_Judge_rule_sides (EV.name rfl) h1 rfl (EVs.cons (EV.sub (EV.name rfl) EV.int (by first | exact OP.item1 | exact OP.litem1)) (EVs.cons (EV.sub (EV.name rfl) EV.int (by first | exact OP.item2 | exact OP.litem2)) (EVs.cons (EV.name rfl) EVs.nil))) (FNc.fn (c_rule_dup H J place (by omega))) (by intro _; with_unfolding_all rfl)))))
  | swap t u =>
    refine EL.cons (ES.assign (.inl rfl) (EV.sub (EV.name rfl) EV.int (by first | exact OP.item0 | exact OP.litem0))) ?_
    refine EL.cons (ES.ifF0 (TV.cmp1 (EV.name rfl) EV.str (by first | exact OP.eq_int | exact OP.eq_str)) (by decide +kernel)) ?_
    refine EL.cons (ES.ifF0 (TV.cmp1 (EV.name rfl) EV.str (by first | exact OP.eq_int | exact OP.eq_str)) (by decide +kernel)) ?_
    exact EL.ret (ES.ifT (TV.cmp1 (EV.name rfl) EV.str (by first | exact OP.eq_int | exact OP.eq_str)) (by decide +kernel) (EL.ret (ES.return (EV.method H.m_Judge_rule_sides (EV.name rfl) h1 rfl (EVs.cons (EV.sub (EV.name rfl) EV.int (by first | exact OP.item1 | exact OP.litem1)) (EVs.cons (EV.sub (EV.name rfl) EV.int (by first | exact OP.item2 | exact OP.litem2)) (EVs.cons (EV.name rfl) EVs.nil))) (FNc.fn (c_rule_swap H J place (by omega))) (by intro _; with_unfolding_all rfl)))))
  | turn p =>
    refine EL.cons (ES.assign (.inl rfl) (EV.sub (EV.name rfl) EV.int (by first | exact OP.item0 | exact OP.litem0))) ?_
    refine EL.cons (ES.ifF0 (TV.cmp1 (EV.name rfl) EV.str (by first | exact OP.eq_int | exact OP.eq_str)) (by decide +kernel)) ?_
    refine EL.cons (ES.ifF0 (TV.cmp1 (EV.name rfl) EV.str (by first | exact OP.eq_int | exact OP.eq_str)) (by decide +kernel)) ?_
    refine EL.cons (ES.ifF0 (TV.cmp1 (EV.name rfl) EV.str (by first | exact OP.eq_int | exact OP.eq_str)) (by decide +kernel)) ?_
    exact EL.ret (ES.ifT (TV.cmp1 (EV.name rfl) EV.str (by first | exact OP.eq_int | exact OP.eq_str)) (by decide +kernel) (EL.ret (ES.return (EV.tuple (EVs.cons (EV.sub (EV.sub (EV.name rfl) EV.int (by first | exact OP.item0 | exact OP.litem0)) EV.int (by first | exact OP.item1 | exact OP.litem1)) (EVs.cons (EV.sub (EV.sub (EV.name rfl) EV.int (by first | exact OP.item0 | exact OP.litem0)) EV.int (by first | exact OP.item0 | exact OP.litem0)) EVs.nil)) rfl))))
  | join p q =>
    refine EL.cons (ES.assign (.inl rfl) (EV.sub (EV.name rfl) EV.int (by first | exact OP.item0 | exact OP.litem0))) ?_
    refine EL.cons (ES.ifF0 (TV.cmp1 (EV.name rfl) EV.str (by first | exact OP.eq_int | exact OP.eq_str)) (by decide +kernel)) ?_
    refine EL.cons (ES.ifF0 (TV.cmp1 (EV.name rfl) EV.str (by first | exact OP.eq_int | exact OP.eq_str)) (by decide +kernel)) ?_
    refine EL.cons (ES.ifF0 (TV.cmp1 (EV.name rfl) EV.str (by first | exact OP.eq_int | exact OP.eq_str)) (by decide +kernel)) ?_
    refine EL.cons (ES.ifF0 (TV.cmp1 (EV.name rfl) EV.str (by first | exact OP.eq_int | exact OP.eq_str)) (by decide +kernel)) ?_
    refine EL.ret (ES.ifT (TV.cmp1 (EV.name rfl) EV.str (by first | exact OP.eq_int | exact OP.eq_str)) (by decide +kernel) (EL.cons (ES.ifF0 (TV.cmp1 (EV.sub (EV.sub (EV.name rfl) EV.int (by first | exact OP.item0 | exact OP.litem0)) EV.int (by first | exact OP.item1 | exact OP.litem1)) (EV.sub (EV.sub (EV.name rfl) EV.int (by first | exact OP.item1 | exact OP.litem1)) EV.int (by first | exact OP.item0 | exact OP.litem0)) (OP.ne rfl rfl (T.fine ?f1) (T.fine ?f2))) ?q) (EL.ret (ES.return (EV.tuple (EVs.cons (EV.sub (EV.sub (EV.name rfl) EV.int (by first | exact OP.item0 | exact OP.litem0)) EV.int (by first | exact OP.item0 | exact OP.litem0)) (EVs.cons (EV.sub (EV.sub (EV.name rfl) EV.int (by first | exact OP.item1 | exact OP.litem1)) EV.int (by first | exact OP.item1 | exact OP.litem1)) EVs.nil)) rfl)))))
    case q => rw [T.eqv_d, hp.2]; simp
    case f1 => exact Nat.le_trans (hkd p (by simp [P.kids])).1.2 hD
    case f2 => exact Nat.le_trans (hkd q (by simp [P.kids])).1.1 hD
  | under1 p =>
    refine EL.cons (ES.assign (.inl rfl) (EV.sub (EV.name rfl) EV.int (by first | exact OP.item0 | exact OP.litem0))) ?_
    refine EL.cons (ES.ifF0 (TV.cmp1 (EV.name rfl) EV.str (by first | exact OP.eq_int | exact OP.eq_str)) (by decide +kernel)) ?_
    refine EL.cons (ES.ifF0 (TV.cmp1 (EV.name rfl) EV.str (by first | exact OP.eq_int | exact OP.eq_str)) (by decide +kernel)) ?_
    refine EL.cons (ES.ifF0 (TV.cmp1 (EV.name rfl) EV.str (by first | exact OP.eq_int | exact OP.eq_str)) (by decide +kernel)) ?_
    refine EL.cons (ES.ifF0 (TV.cmp1 (EV.name rfl) EV.str (by first | exact OP.eq_int | exact OP.eq_str)) (by decide +kernel)) ?_
    refine EL.cons (ES.ifF0 (TV.cmp1 (EV.name rfl) EV.str (by first | exact OP.eq_int | exact OP.eq_str)) (by decide +kernel)) ?_
    refine EL.ret (ES.return (EV.tuple (EVs.cons (EV.bin (EV.tuple (EVs.cons (EV.sub (EV.name rfl) EV.int (by first | exact OP.item1 | exact OP.litem1)) EVs.nil) rfl) (EV.tuple_ H rfl (EVs.cons (EV.comp1 (caps := []) ?S0 (ITR.lst (EV.name rfl)) (by trivial) (([p]).map fun c => (c.lr K).1.d) ?hl0 ?hz0 ?step0) EVs.nil)) (OP.add_tup (by exact Nat.le_of_ble_eq_true rfl))) (EVs.cons (EV.bin (EV.tuple (EVs.cons (EV.sub (EV.name rfl) EV.int (by first | exact OP.item1 | exact OP.litem1)) EVs.nil) rfl) (EV.tuple_ H rfl (EVs.cons (EV.comp1 (caps := []) ?S1 (ITR.lst (EV.name rfl)) (by trivial) (([p]).map fun c => (c.lr K).2.d) ?hl1 ?hz1 ?step1) EVs.nil)) (OP.add_tup (by exact Nat.le_of_ble_eq_true rfl))) EVs.nil)) rfl))
    case S0 => exact Scoped.of [] (by decide +kernel) rfl (by intro q hq; cases hq)
    case S1 => exact Scoped.of [] (by decide +kernel) rfl (by intro q hq; cases hq)
    case hl0 => rfl
    case hl1 => rfl
    case hz0 => exact Nat.le_of_ble_eq_true rfl
    case hz1 => exact Nat.le_of_ble_eq_true rfl
    case step0 =>
      intro i d y hd hy
      obtain ⟨c, hc, rfl⟩ : ∃ c, ([p])[i]? = some c ∧ pairD (c.lr K) = d := map_get (l := [p]) (f := fun c => pairD (c.lr K)) hd
      obtain rfl : (c.lr K).1.d = y := by rw [List.getElem?_map, hc] at hy; simpa using hy
      exact ⟨_, AL.name rfl, Sub.of_all (by intro q hq; cases hq), fun zs => (EV.sub (EV.name rfl) EV.int (by first | exact OP.item0 | exact OP.litem0))⟩
    case step1 =>
      intro i d y hd hy
      obtain ⟨c, hc, rfl⟩ : ∃ c, ([p])[i]? = some c ∧ pairD (c.lr K) = d := map_get (l := [p]) (f := fun c => pairD (c.lr K)) hd
      obtain rfl : (c.lr K).2.d = y := by rw [List.getElem?_map, hc] at hy; simpa using hy
      exact ⟨_, AL.name rfl, Sub.of_all (by intro q hq; cases hq), fun zs => (EV.sub (EV.name rfl) EV.int (by first | exact OP.item1 | exact OP.litem1))⟩
  | under2 p q =>
    refine EL.cons (ES.assign (.inl rfl) (EV.sub (EV.name rfl) EV.int (by first | exact OP.item0 | exact OP.litem0))) ?_
    refine EL.cons (ES.ifF0 (TV.cmp1 (EV.name rfl) EV.str (by first | exact OP.eq_int | exact OP.eq_str)) (by decide +kernel)) ?_
    refine EL.cons (ES.ifF0 (TV.cmp1 (EV.name rfl) EV.str (by first | exact OP.eq_int | exact OP.eq_str)) (by decide +kernel)) ?_
    refine EL.cons (ES.ifF0 (TV.cmp1 (EV.name rfl) EV.str (by first | exact OP.eq_int | exact OP.eq_str)) (by decide +kernel)) ?_
    refine EL.cons (ES.ifF0 (TV.cmp1 (EV.name rfl) EV.str (by first | exact OP.eq_int | exact OP.eq_str)) (by decide +kernel)) ?_
    refine EL.cons (ES.ifF0 (TV.cmp1 (EV.name rfl) EV.str (by first | exact OP.eq_int | exact OP.eq_str)) (by decide +kernel)) ?_
    refine EL.ret (ES.return (EV.tuple (EVs.cons (EV.bin (EV.tuple (EVs.cons (EV.sub (EV.name rfl) EV.int (by first | exact OP.item1 | exact OP.litem1)) EVs.nil) rfl) (EV.tuple_ H rfl (EVs.cons (EV.comp1 (caps := []) ?S0 (ITR.lst (EV.name rfl)) (by trivial) (([p, q]).map fun c => (c.lr K).1.d) ?hl0 ?hz0 ?step0) EVs.nil)) (OP.add_tup (by exact Nat.le_of_ble_eq_true rfl))) (EVs.cons (EV.bin (EV.tuple (EVs.cons (EV.sub (EV.name rfl) EV.int (by first | exact OP.item1 | exact OP.litem1)) EVs.nil) rfl) (EV.tuple_ H rfl (EVs.cons (EV.comp1 (caps := []) ?S1 (ITR.lst (EV.name rfl)) (by trivial) (([p, q]).map fun c => (c.lr K).2.d) ?hl1 ?hz1 ?step1) EVs.nil)) (OP.add_tup (by exact Nat.le_of_ble_eq_true rfl))) EVs.nil)) rfl))
    case S0 => exact Scoped.of [] (by decide +kernel) rfl (by intro q hq; cases hq)
    case S1 => exact Scoped.of [] (by decide +kernel) rfl (by intro q hq; cases hq)
    case hl0 => rfl
    case hl1 => rfl
    case hz0 => exact Nat.le_of_ble_eq_true rfl
    case hz1 => exact Nat.le_of_ble_eq_true rfl
    case step0 =>
      intro i d y hd hy
      obtain ⟨c, hc, rfl⟩ : ∃ c, ([p, q])[i]? = some c ∧ pairD (c.lr K) = d := map_get (l := [p, q]) (f := fun c => pairD (c.lr K)) hd
      obtain rfl : (c.lr K).1.d = y := by rw [List.getElem?_map, hc] at hy; simpa using hy
      exact ⟨_, AL.name rfl, Sub.of_all (by intro q hq; cases hq), fun zs => (EV.sub (EV.name rfl) EV.int (by first | exact OP.item0 | exact OP.litem0))⟩
    case step1 =>
      intro i d y hd hy
      obtain ⟨c, hc, rfl⟩ : ∃ c, ([p, q])[i]? = some c ∧ pairD (c.lr K) = d := map_get (l := [p, q]) (f := fun c => pairD (c.lr K)) hd
      obtain rfl : (c.lr K).2.d = y := by rw [List.getElem?_map, hc] at hy; simpa using hy
      exact ⟨_, AL.name rfl, Sub.of_all (by intro q hq; cases hq), fun zs => (EV.sub (EV.name rfl) EV.int (by first | exact OP.item1 | exact OP.litem1))⟩
end
end Mine
end PartP12
noncomputable section PartP13
open PySem PySem.W PyProof.Rows
set_option linter.all false
set_option maxRecDepth 20000
namespace Mine
theorem upInts_get {N i : Nat} {d : PyData} (h : (upInts N)[i]? = some d) : i < N ∧ d = .int i := by
  have hi : i < N := by have := (List.getElem?_eq_some_iff.mp h).1; simpa [upInts] using this
  simp only [upInts, List.getElem?_map, List.getElem?_range hi, Option.map_some, Option.some.injEq] at h
  exact ⟨hi, h.symm⟩
theorem upInts_len {N : Nat} : (upInts N).length = N := by simp [upInts]
section
variable {g : G} {n : Nat} {σ σ' τ : List Slot} {v : V}
def sideV (K : List (T × T)) (c : P) : V := .dat (pairD (c.lr K))
theorem post_kids_loc {K : List (T × T)} {D : Nat} {p : P} {path : List Nat} (hg : p.good K D) {i : Nat} {q : Q} (h : (post path p)[i]? = some q) : ∀ c ∈ q.2.kids, c.loc K D := by
  intro c hc
  obtain ⟨k, hk⟩ := List.mem_iff_getElem?.mp hc
  have := List.mem_of_mem_take (post_kidly p path i q h k c hk)
  exact post_good p path hg _ this
theorem post_path : ∀ (p : P) (path : List Nat) (q : Q), q ∈ post path p → q.1.length + q.2.cnt ≤ path.length + p.cnt
  | .same _, path, q, h | .told _, path, q, h | .dup _, path, q, h | .swap _ _, path, q, h => by simp [post] at h; subst h; exact Nat.le_refl _
  | .turn p, path, q, h => by
    simp only [post, List.mem_append, List.mem_singleton] at h
    rcases h with h | rfl
    · have := post_path p _ q h; simp only [List.length_append, List.length_singleton] at this; simp only [P.cnt]; omega
    · exact Nat.le_refl _
  | .under1 p, path, q, h => by
    simp only [post, List.mem_append, List.mem_singleton] at h
    rcases h with h | rfl
    · have := post_path p _ q h; simp only [List.length_append, List.length_singleton] at this; simp only [P.cnt]; omega
    · exact Nat.le_refl _
  | .join p p', path, q, h => by
    simp only [post, List.mem_append, List.mem_singleton] at h
    rcases h with (h | h) | rfl
    · have := post_path p _ q h; simp only [List.length_append, List.length_singleton] at this; simp only [P.cnt]; omega
    · have := post_path p' _ q h; simp only [List.length_append, List.length_singleton] at this; simp only [P.cnt]; omega
    · exact Nat.le_refl _
  | .under2 p p', path, q, h => by
    simp only [post, List.mem_append, List.mem_singleton] at h
    rcases h with (h | h) | rfl
    · have := post_path p _ q h; simp only [List.length_append, List.length_singleton] at this; simp only [P.cnt]; omega
    · have := post_path p' _ q h; simp only [List.length_append, List.length_singleton] at this; simp only [P.cnt]; omega
    · exact Nat.le_refl _
theorem c_sides (H : Has g) {K : List (T × T)} {D j M : Nat} (J : JO H K σ j) (p : P) (hok : p.ok M) (hM : M ≤ 1000000) (hg : p.good K D) (hD : D ≤ 1000) (hc : p.cnt ≤ 1000) (hn : 12 ≤ n) :
    FNc g n (.ref H.a_Judge_sides) [.ref j, .dat p.d] σ (.dat (pairD (p.lr K))) σ := by
  obtain ⟨ri, d, s, h1, h2, h3, h4⟩ := J.ex
  refine H.f_Judge_sides.pure ok_Judge_sides (by omega) [.tdict (tab (sideV K) (post [] p))] ?_
  refine EL.cons (ES.assign (by right; rfl) EV.dict0t) ?_
  refine EL.cons (ES.for (ITR.lst (EV.call rfl H.n_in_order H.k_in_order (EVs.cons (EV.name rfl) EVs.nil) (FNc.fn (c_in_order H p hok hM hc (by omega))))) (by trivial) (fun i => ([("known", .ref σ.length), ("self", .ref j)], σ ++ [.tdict (tab (sideV K) ((post [] p).take i))])) ?h0 ?h1 ?step) ?rest
  case h0 => exact Sub.of_all (by intro q hq; simp at hq; rcases hq with rfl | rfl <;> rfl)
  case h1 => simp [tab]
  case rest =>
    rw [List.length_map, List.take_length]
    exact EL.ret (ES.return (EV.sub (EV.name rfl) (EV.tuple EVs.nil rfl) (OP.tget (ks := []) slot_e0 (tab_root (F := sideV K) (p := p) (path := [])))))
  case step =>
    intro i d hd
    obtain ⟨q, hq, rfl⟩ := map_get hd
    have hm := List.mem_of_getElem? hq
    have hpl := post_path p [] q hm
    have hlen := post_len p []
    simp only [List.length_nil, Nat.zero_add] at hpl
    have hkl := P.kids_le q.2
    refine ⟨("one", .dat q.2.d) :: ("path", .dat (pathD q.1)) :: [("known", .ref σ.length), ("self", .ref j)], _, AS.tup2 (by right; rfl) (by left; rfl), EL.cons (ES.expr (EV.call rfl H.n_want_form H.k_want_form (EVs.cons (EV.name rfl) (EVs.cons (EV.name rfl) EVs.nil)) (FNc.fn (c_want_form H q.2 (pathD q.1) (post_ok p [] hok q hm) hM (by omega))))) (EL.cons (ES.store (v := sideV K q.2) ?he (EV.name rfl) (EV.name rfl) (ST.tup (slot_e0 (τ := [])) (tab_fresh (F := sideV K) hq) ?hz)) (EL.done ?fin)), ?sub⟩
    case hz => simp [tab]; have := sl; omega
    case fin => rw [set_e0, tab_succ hq]
    case sub => exact Sub.of_all (by intro q hq; simp at hq; rcases hq with rfl | rfl <;> rfl)
    case he =>
      refine EV.method H.m_Judge_sides_of (EV.name rfl) h1.app rfl (EVs.cons (EV.name rfl) (EVs.cons (EV.name rfl) (EVs.cons ?comp EVs.nil))) (FNc.fn (c_sides_of H J.app q.2 (post_good p [] hg q hm) (post_kids_loc hg hq) hD (pathD q.1) (by omega))) (by intro _; with_unfolding_all rfl)
      case comp =>
        refine EV.comp1 (caps := [("known", .ref σ.length), ("path", .dat (pathD q.1))]) ?S (ITR.range rfl H.b_range (EV.len H rfl (EVs.cons (EV.call rfl H.n_parts_of H.k_parts_of (EVs.cons (EV.name rfl) EVs.nil) (FNc.fn (c_parts_of H q.2 (by omega)))) EVs.nil) (by first | exact CA.len_tup | exact CA.len_cont rfl | exact CA.len_cont cont_e0 | exact CA.len_cont cont_e1 | exact CA.len_cont (by assumption))) ?hN) (by trivial) (List.map (fun c : P => pairD (P.lr K c)) q.2.kids) ?hl ?hz2 ?stepc
        case S => exact Scoped.of ["known", "path"] (by decide +kernel) rfl (by intro q hq; simp at hq; rcases hq with rfl | rfl <;> rfl)
        case hN => simp; have := sl; omega
        case hl => simp [upInts_len]
        case hz2 => simp; omega
        case stepc =>
          intro k d y hd hy
          obtain ⟨hk, rfl⟩ := upInts_get hd
          obtain ⟨c, hc', rfl⟩ := map_get hy
          refine ⟨_, AL.name rfl, Sub.of_all (by intro q hq; simp at hq; rcases hq with rfl | rfl <;> rfl), fun zs => ?_⟩
          exact (EV.sub (EV.name rfl) (EV.cast (EV.bin (EV.name rfl) (EV.tuple (EVs.cons (EV.name rfl) EVs.nil) rfl) (OP.add_tup (Nat.le_trans (by simp [pathD_len]; omega) sl))) (show _ = V.dat (.tuple (intD (ip (q.1 ++ [k])))) by rw [ip_snoc])) (OP.tget (get_app slot_e0) (tab_kid (F := sideV K) hq hc')))
end
end Mine
end PartP13
noncomputable section PartP14
open PySem PySem.W PyProof.Rows
set_option linter.all false
set_option maxRecDepth 20000
namespace Mine
theorem flat_take_succ {α : Type} {l : List (List α)} {i : Nat} {x : List α} (h : l[i]? = some x) : (l.take (i + 1)).flatten = (l.take i).flatten ++ x := by
  have hi := (List.getElem?_eq_some_iff.mp h).1
  rw [List.take_succ_eq_append_getElem hi]
  have : l[i] = x := (List.getElem?_eq_some_iff.mp h).2
  simp [this]
section
variable {g : G} {n : Nat} {sc scope : Scope} {ρ ρ' caps : List (Str × V)} {σ σ₁ σ₂ : List Slot} {pos : Pos} {v : V} {elt target iter t2 i2 c : Expr} {ds : List PyData} {out : Nat → PyData → PyData} {tg : Expr → Prop}
theorem comp2_turn (yss : List (List PyData)) (hz : yss.flatten.length ≤ 1000000) {i : Nat} {ys : List PyData} (hy : yss[i]? = some ys) {ρ₁ : List (Str × V)}
    (h : ∃ ds2 out2 tg2, (∀ zs, ITR g n (relab scope sc) i2 ρ₁ (σ₁ ++ [.list zs]) ds2 out2 tg2 (σ₁ ++ [.list zs])) ∧ tg2 t2 ∧ ys.length = ds2.length ∧ ∀ j d2 y, ds2[j]? = some d2 → ys[j]? = some y →
      ∃ ρ₂, AL g (relab scope sc) t2 (out2 j d2) ρ₁ ρ₂ ∧ Sub ρ₁ ρ₂ ∧ ∀ zs, EV g n (relab scope sc) elt ρ₂ (σ₁ ++ [.list zs]) (.dat y) (σ₁ ++ [.list zs])) :
    TN g n (relab scope sc) (ifsT g [] (innerT g i2 (.ListComp elt [⟨target, iter, [], 0⟩, ⟨t2, i2, [], 0⟩] scope pos))) ρ₁ σ₁ (yss.take i).flatten σ₁ (yss.take (i + 1)).flatten := by
  obtain ⟨ds2, out2, tg2, h1, h2, h3, h4⟩ := h
  have hlen : (yss.take (i + 1)).flatten.length ≤ 1000000 := by
    have e : yss.flatten = (yss.take (i + 1)).flatten ++ (yss.drop (i + 1)).flatten := by rw [← List.flatten_append, List.take_append_drop]
    rw [e, List.length_append] at hz; omega
  rw [flat_take_succ hy, List.length_append] at hlen
  refine TN.ifs_nil ?_
  have h := TN.inner (elt := elt) (t1 := target) (i1 := iter) (f1 := []) (f2 := []) (scope := scope) (pos := pos) (h1 (yss.take i).flatten) h2 (fun _ => σ₁) (fun j => (yss.take i).flatten ++ ys.take j) rfl (by simp) (fun _ _ => rfl) (fun j d2 hd => by
    have hj : j < ys.length := by rw [h3]; exact (List.getElem?_eq_some_iff.mp hd).1
    obtain ⟨ρ₂, k1, k2, k3⟩ := h4 j d2 ys[j] hd (List.getElem?_eq_getElem hj)
    refine ⟨ρ₂, k1, k2, TN.ifs_nil ?_⟩
    show TN g n (relab scope sc) (emitT g elt) ρ₂ σ₁ ((yss.take i).flatten ++ ys.take j) σ₁ ((yss.take i).flatten ++ ys.take (j + 1))
    rw [List.take_succ_eq_append_getElem hj, ← List.append_assoc]
    refine TN.emit (k3 _) rfl ?_
    have := sizeLine_eq
    rw [List.length_append, List.length_take]; omega)
  have e : (yss.take i).flatten ++ ys.take ds2.length = (yss.take (i + 1)).flatten := by rw [← h3, List.take_length, flat_take_succ hy]
  simp only [e] at h
  exact h
theorem EV.comp2 (S : Scoped sc scope ρ caps) (hi : ITR g n sc iter ρ σ ds out tg σ₁) (ht : tg target) (yss : List (List PyData)) (hl : yss.length = ds.length) (hz : yss.flatten.length ≤ 1000000)
    (step : ∀ i d ys, ds[i]? = some d → yss[i]? = some ys → ∃ ρ₁, AL g (relab scope sc) target (out i d) caps ρ₁ ∧ Sub caps ρ₁ ∧
      ∃ ds2 out2 tg2, (∀ zs, ITR g n (relab scope sc) i2 ρ₁ (σ₁ ++ [.list zs]) ds2 out2 tg2 (σ₁ ++ [.list zs])) ∧ tg2 t2 ∧ ys.length = ds2.length ∧ ∀ j d2 y, ds2[j]? = some d2 → ys[j]? = some y →
      ∃ ρ₂, AL g (relab scope sc) t2 (out2 j d2) ρ₁ ρ₂ ∧ Sub ρ₁ ρ₂ ∧ ∀ zs, EV g n (relab scope sc) elt ρ₂ (σ₁ ++ [.list zs]) (.dat y) (σ₁ ++ [.list zs]))
    (hs : ∀ x env, foldedSetIterable iter env x = pure x := by intro _ _; rfl) (hs2 : ∀ x env, foldedSetIterable i2 env x = pure x := by intro _ _; rfl) :
    EV g n sc (.ListComp elt [⟨target, iter, [], 0⟩, ⟨t2, i2, [], 0⟩] scope pos) ρ σ (.dat (.list yss.flatten)) σ₁ := by
  have h := EV.comp (tail := ifsT g [] (innerT g i2 (.ListComp elt [⟨target, iter, [], 0⟩, ⟨t2, i2, [], 0⟩] scope pos))) (elt := elt) (pos := pos) S hi ht (fun _ => σ₁) (fun i => (yss.take i).flatten) rfl (by simp) (fun _ _ => rfl) id (fun A it D cenv s Q E' h => turn20 hs2 h) (fun i d hd => by
    have hi : i < yss.length := by rw [hl]; exact (List.getElem?_eq_some_iff.mp hd).1
    obtain ⟨ρ₁, h1, h2, h3⟩ := step i d yss[i] hd (List.getElem?_eq_getElem hi)
    exact ⟨ρ₁, h1, h2, comp2_turn yss hz (List.getElem?_eq_getElem hi) h3⟩) hs
  have e : yss.take ds.length = yss := by rw [← hl]; simp
  simp only [e] at h
  exact h
theorem ES.assign_comp2 {y : Str} {py spos : Pos} (hy : sc.names.lookup y = some .local) (hline : (py.line == pos.line) = true) (hno : (scope.names.any fun (n, k) => n == y && (k == .local || k == .cell)) = false)
    (S : Scoped sc scope ρ caps) (hi : ITR g n sc iter ρ σ ds out tg σ₁) (ht : tg target) (yss : List (List PyData)) (hl : yss.length = ds.length) (hz : yss.flatten.length ≤ 1000000)
    (step : ∀ i d ys, ds[i]? = some d → yss[i]? = some ys → ∃ ρ₁, AL g (relab scope sc) target (out i d) caps ρ₁ ∧ Sub caps ρ₁ ∧
      ∃ ds2 out2 tg2, (∀ zs, ITR g n (relab scope sc) i2 ρ₁ (σ₁ ++ [.list zs]) ds2 out2 tg2 (σ₁ ++ [.list zs])) ∧ tg2 t2 ∧ ys.length = ds2.length ∧ ∀ j d2 y, ds2[j]? = some d2 → ys[j]? = some y →
      ∃ ρ₂, AL g (relab scope sc) t2 (out2 j d2) ρ₁ ρ₂ ∧ Sub ρ₁ ρ₂ ∧ ∀ zs, EV g n (relab scope sc) elt ρ₂ (σ₁ ++ [.list zs]) (.dat y) (σ₁ ++ [.list zs]))
    (hs : ∀ x env, foldedSetIterable iter env x = pure x := by intro _ _; rfl) (hs2 : ∀ x env, foldedSetIterable i2 env x = pure x := by intro _ _; rfl) :
    ES g n sc (.Assign [.Name y py] (.ListComp elt [⟨target, iter, [], 0⟩, ⟨t2, i2, [], 0⟩] scope pos) spos) ρ σ (.next ((y, .dat (.list yss.flatten)) :: ρ) σ₁) := by
  have h := ES.assign_comp (tail := ifsT g [] (innerT g i2 (.ListComp elt [⟨target, iter, [], 0⟩, ⟨t2, i2, [], 0⟩] scope pos))) (elt := elt) (pos := pos) (spos := spos) hy hline hno S hi ht (fun _ => σ₁) (fun i => (yss.take i).flatten) rfl (by simp) (fun _ _ => rfl) id (fun A it D cenv s Q E' h => turn20 hs2 h) (fun i d hd => by
    have hi : i < yss.length := by rw [hl]; exact (List.getElem?_eq_some_iff.mp hd).1
    obtain ⟨ρ₁, h1, h2, h3⟩ := step i d yss[i] hd (List.getElem?_eq_getElem hi)
    exact ⟨ρ₁, h1, h2, comp2_turn yss hz (List.getElem?_eq_getElem hi) h3⟩) hs
  have e : yss.take ds.length = yss := by rw [← hl]; simp
  simp only [e] at h
  exact h
end
/-- steps -/
inductive RK where
  | told (k : Nat) | dup (t : T) | swap (t u : T)
def RK.a : RK → Str
  | told _ => "told" | _ => "rule"
def RK.b : RK → Str
  | told k => lab k | dup _ => "dup" | swap _ _ => "swap"
def RK.c : RK → PyData
  | told _ => .tuple [] | dup t => plD [("?x", t)] | swap t u => plD [("?x", t), ("?y", u)]
structure Row where
  path : List Nat
  kind : RK
  back : Bool
namespace Row
def d (r : Row) : PyData := .tuple [pathD r.path, .str r.kind.a, .str r.kind.b, r.kind.c, .bool r.back]
def turned (r : Row) : Row := ⟨r.path, r.kind, !r.back⟩
def deep (k : Nat) (r : Row) : Row := ⟨k :: r.path, r.kind, r.back⟩
end Row
def P.steps : P → List Row
  | same _ => [] | told k => [⟨[], .told k, false⟩] | dup t => [⟨[], .dup t, false⟩] | swap t u => [⟨[], .swap t u, false⟩]
  | turn p => p.steps.reverse.map Row.turned
  | join p q => p.steps ++ q.steps
  | under1 p => p.steps.map (Row.deep 0)
  | under2 p q => p.steps.map (Row.deep 0) ++ q.steps.map (Row.deep 1)
theorem P.steps_len : ∀ p : P, p.steps.length ≤ p.cnt
  | same _ => by simp [steps] | told k => by simp [steps, cnt] | dup t => by simp [steps, cnt] | swap t u => by simp [steps, cnt]
  | turn p => by have := p.steps_len; simp [steps, cnt]; omega
  | join p q => by have := p.steps_len; have := q.steps_len; simp [steps, cnt]; omega
  | under1 p => by have := p.steps_len; simp [steps, cnt]; omega
  | under2 p q => by have := p.steps_len; have := q.steps_len; simp [steps, cnt]; omega
def rowsD (rs : List Row) : PyData := .list (rs.map Row.d)
section
variable {g : G} {n : Nat} {σ σ' τ : List Slot} {v : V}
theorem pathD_cons (k : Nat) (p : List Nat) : pathD (k :: p) = .tuple (.int k :: intD (ip p)) := rfl
theorem c_turned (H : Has g) (r : Row) (hn : 1 ≤ n) : FNc g n (.ref H.a_turned_step) [.dat r.d] σ (.dat r.turned.d) σ := by
  refine H.f_turned_step.plain ok_turned_step hn ?_
  exact EL.ret (ES.return (EV.bin (EV.ttake4 (EV.name rfl)) (EV.tuple (EVs.cons (EV.un (EV.sub (EV.name rfl) EV.int (by exact OP.item4)) OP.not) EVs.nil) rfl) (OP.add_tup (by exact Nat.le_of_ble_eq_true rfl))))
theorem c_deeper (H : Has g) (r : Row) (k : Nat) (hz : r.path.length ≤ 1000) (hn : 1 ≤ n) : FNc g n (.ref H.a_deeper) [.dat r.d, .dat (.int k)] σ (.dat (r.deep k).d) σ := by
  refine H.f_deeper.plain ok_deeper hn ?_
  exact EL.ret (ES.return (EV.bin (EV.tuple (EVs.cons (EV.bin (EV.tuple (EVs.cons (EV.name rfl) EVs.nil) rfl) (EV.sub (EV.name rfl) EV.int (by first | exact OP.item0 | exact OP.litem0)) (OP.add_tup (Nat.le_trans (by simp [pathD_len]; omega) sl))) EVs.nil) rfl) (EV.tdrop1 (EV.name rfl)) (OP.add_tup (by exact Nat.le_of_ble_eq_true rfl))))
end
end Mine
end PartP14
noncomputable section PartP15
open PySem PySem.W PyProof.Rows
set_option linter.all false
set_option maxRecDepth 20000
namespace Mine
theorem P.steps_path : ∀ (p : P) (r : Row), r ∈ p.steps → r.path.length ≤ p.cnt
  | .same _, r, h => by simp [P.steps] at h
  | .told _, r, h | .dup _, r, h | .swap _ _, r, h => by simp [P.steps] at h; subst h; simp
  | .turn p, r, h => by
    simp only [P.steps, List.mem_map, List.mem_reverse] at h
    obtain ⟨q, hq, rfl⟩ := h
    have := steps_path p q hq; simp only [P.cnt, Row.turned]; omega
  | .join p p', r, h => by
    simp only [P.steps, List.mem_append] at h
    rcases h with h | h
    · have := steps_path p r h; simp only [P.cnt]; omega
    · have := steps_path p' r h; simp only [P.cnt]; omega
  | .under1 p, r, h => by
    simp only [P.steps, List.mem_map] at h
    obtain ⟨q, hq, rfl⟩ := h
    have := steps_path p q hq; simp only [P.cnt, Row.deep, List.length_cons]; omega
  | .under2 p p', r, h => by
    simp only [P.steps, List.mem_append, List.mem_map] at h
    rcases h with ⟨q, hq, rfl⟩ | ⟨q, hq, rfl⟩
    · have := steps_path p q hq; simp only [P.cnt, Row.deep, List.length_cons]; omega
    · have := steps_path p' q hq; simp only [P.cnt, Row.deep, List.length_cons]; omega
theorem zip_at {l : List P} {i : Nat} {c : P} (h : l[i]? = some c) : l.zipIdx[i]? = some (c, i) := by simp [h]
theorem post_cnt : ∀ (p : P) (path : List Nat) (q : Q), q ∈ post path p → q.2.cnt ≤ p.cnt := fun p path q h => by
  have := post_path p path q h
  have h2 := (post_pre p path q h).length_le
  omega
section
variable {g : G} {n : Nat} {σ σ' τ : List Slot} {v : V}
structure SO (H : Has g) (K : List (T × T)) (σ : List Slot) (w : Nat) : Prop where
  ex : ∃ j, Ins σ w H.c_Steps [("judge", .ref j)] ∧ JO H K σ j
theorem SO.app {H : Has g} {K : List (T × T)} {w : Nat} (S : SO H K σ w) : SO H K (σ ++ τ) w := by
  obtain ⟨j, h1, h2⟩ := S.ex
  exact ⟨j, h1.app, h2.app⟩
def stepV (c : P) : V := .dat (rowsD c.steps)
set_option maxHeartbeats 4000000 in
theorem c_of_paper (H : Has g) {K : List (T × T)} {D w M : Nat} (S : SO H K σ w) (p : P) (hok : p.ok M) (hM : M ≤ 1000000) (hg : p.good K D) (hD : D ≤ 1000) (hc : p.cnt ≤ 900) (hn : 15 ≤ n) :
    FNc g n (.ref H.a_Steps_of_paper) [.ref w, .dat p.d] σ (.dat (rowsD p.steps)) σ := by
  obtain ⟨j, hw, J⟩ := S.ex
  obtain ⟨ri, d0, s0, h1, h2, h3, h4⟩ := J.ex
  refine H.f_Steps_of_paper.pure ok_Steps_of_paper (by omega) [.tdict (tab stepV (post [] p))] ?_
  refine EL.cons (ES.expr (EV.method H.m_Judge_sides (EV.attr H.p_Steps_judge (EV.name rfl) hw rfl) h1 rfl (EVs.cons (EV.name rfl) EVs.nil) (FNc.fn (c_sides H J p hok hM hg hD (by omega) (by omega))) (by intro _; with_unfolding_all rfl))) ?_
  refine EL.cons (ES.assign (by right; rfl) EV.dict0t) ?_
  refine EL.cons (ES.for (ITR.lst (EV.call rfl H.n_in_order H.k_in_order (EVs.cons (EV.name rfl) EVs.nil) (FNc.fn (c_in_order H p hok hM (by omega) (by omega))))) (by trivial) (fun i => ([("known", .ref σ.length)], σ ++ [.tdict (tab stepV ((post [] p).take i))])) ?h0 ?h1 ?step) ?rest
  case h0 => exact Sub.of_all (by intro q hq; simp at hq; subst hq; rfl)
  case h1 => simp [tab]
  case rest =>
    rw [List.length_map, List.take_length]
    exact EL.ret (ES.return (EV.sub (EV.name rfl) (EV.tuple EVs.nil rfl) (OP.tget (ks := []) slot_e0 (tab_root (F := stepV) (p := p) (path := [])))))
  case step =>
    intro i d hd
    obtain ⟨q, hq, rfl⟩ := map_get hd
    have hm := List.mem_of_getElem? hq
    have hpl := post_path p [] q hm
    have hqc := post_cnt p [] q hm
    have hlen := post_len p []
    simp only [List.length_nil, Nat.zero_add] at hpl
    have hkl := P.kids_le q.2
    obtain ⟨path, one⟩ := q
    simp only at hpl hqc hkl
    have hz : (tab stepV ((post [] p).take i)).length ≤ sizeLine := by simp [tab]; have := sl; omega
    have fin : (σ ++ [Slot.tdict (tab stepV ((post [] p).take i))]).set σ.length (.tdict (tab stepV ((post [] p).take i) ++ [(ip path, stepV one)])) = σ ++ [.tdict (tab stepV ((post [] p).take (i + 1)))] := by
      rw [set_e0, tab_succ hq]
    have go : ∀ {e o k : Expr} {ps p2 : Pos} {sc : Scope} {ρ : List (Str × V)}, EV g (n - 1) sc e ρ (σ ++ [.tdict (tab stepV ((post [] p).take i))]) (stepV one) (σ ++ [.tdict (tab stepV ((post [] p).take i))]) →
        EV g (n - 1) sc o ρ (σ ++ [.tdict (tab stepV ((post [] p).take i))]) (.ref σ.length) (σ ++ [.tdict (tab stepV ((post [] p).take i))]) →
        EV g (n - 1) sc k ρ (σ ++ [.tdict (tab stepV ((post [] p).take i))]) (.dat (pathD path)) (σ ++ [.tdict (tab stepV ((post [] p).take i))]) →
        (∀ env, swapsWith e (some (.Subscript o k p2)) ps.line env = pure false) →
        EL g (n - 1) sc [.Assign [.Subscript o k p2] e ps] ρ (σ ++ [.tdict (tab stepV ((post [] p).take i))]) (.next ρ (σ ++ [.tdict (tab stepV ((post [] p).take (i + 1)))])) := fun he ho hk hs =>
      EL.cons (ES.store (v := stepV one) he ho hk (ST.tup (slot_e0 (τ := [])) (tab_fresh (F := stepV) hq) hz) hs) (EL.done fin)
    refine ⟨("one", .dat one.d) :: ("path", .dat (pathD path)) :: [("known", .ref σ.length)], ("parts", .dat (.list (one.kids.map fun c => rowsD c.steps))) :: ("one", .dat one.d) :: ("path", .dat (pathD path)) :: [("known", .ref σ.length)], AS.tup2 (by right; rfl) (by left; rfl), ?body, ?sub⟩
    case sub => exact Sub.of_all (by intro q hq; simp at hq; subst hq; rfl)
    case body =>
      refine EL.cons (ES.assign_comp1 (caps := [("known", .ref σ.length), ("path", .dat (pathD path))]) rfl rfl (by decide +kernel) ?S (ITR.range rfl H.b_range (EV.len H rfl (EVs.cons (EV.call rfl H.n_parts_of H.k_parts_of (EVs.cons (EV.name rfl) EVs.nil) (FNc.fn (c_parts_of H one (by omega)))) EVs.nil) (by first | exact CA.len_tup | exact CA.len_cont rfl | exact CA.len_cont cont_e0 | exact CA.len_cont cont_e1 | exact CA.len_cont (by assumption))) ?hN) (by trivial) (List.map (fun c : P => rowsD (P.steps c)) one.kids) ?hl ?hz2 ?stepc) ?bod2
      case S => exact Scoped.of ["known", "path"] (by decide +kernel) rfl (by intro q hq; simp at hq; rcases hq with rfl | rfl <;> rfl)
      case hN => simp; have := sl; omega
      case hl => simp [upInts_len]
      case hz2 => simp; omega
      case stepc =>
        intro k d y hd hy
        obtain ⟨hk, rfl⟩ := upInts_get hd
        obtain ⟨c, hc', rfl⟩ := map_get hy
        refine ⟨_, AL.name rfl, Sub.of_all (by intro q hq; simp at hq; rcases hq with rfl | rfl <;> rfl), fun zs => ?_⟩
        exact (EV.sub (EV.name rfl) (EV.cast (EV.bin (EV.name rfl) (EV.tuple (EVs.cons (EV.name rfl) EVs.nil) rfl) (OP.add_tup (Nat.le_trans (by simp [pathD_len]; omega) sl))) (show _ = V.dat (.tuple (intD (ip (path ++ [k])))) by rw [ip_snoc])) (OP.tget (get_app slot_e0) (tab_kid (F := stepV) hq hc')))
      case bod2 =>
        cases one with
        | told k => exact EL.cons (ES.ifT (TV.cmp1 (EV.sub (EV.name rfl) EV.int (by first | exact OP.item0 | exact OP.litem0)) EV.str (by first | exact OP.eq_int | exact OP.eq_str)) (by decide +kernel) (go (EV.list (EVs.cons (EV.tuple (EVs.cons (EV.tuple EVs.nil rfl) (EVs.cons EV.str (EVs.cons (EV.sub (EV.name rfl) EV.int (by first | exact OP.item1 | exact OP.litem1)) (EVs.cons (EV.tuple EVs.nil rfl) (EVs.cons EV.bool EVs.nil))))) rfl) EVs.nil) rfl) (EV.name rfl) (EV.name rfl) (fun _ => rfl))) EL.nil
        | dup t => exact EL.cons (ES.ifF (TV.cmp1 (EV.sub (EV.name rfl) EV.int (by first | exact OP.item0 | exact OP.litem0)) EV.str (by first | exact OP.eq_int | exact OP.eq_str)) (by decide +kernel) (EL.cons (ES.ifT (TV.cmp1 (EV.sub (EV.name rfl) EV.int (by first | exact OP.item0 | exact OP.litem0)) EV.str (by first | exact OP.eq_int | exact OP.eq_str)) (by decide +kernel) (go (EV.list (EVs.cons (EV.tuple (EVs.cons (EV.tuple EVs.nil rfl) (EVs.cons EV.str (EVs.cons (EV.sub (EV.name rfl) EV.int (by first | exact OP.item1 | exact OP.litem1)) (EVs.cons (EV.sub (EV.name rfl) EV.int (by first | exact OP.item2 | exact OP.litem2)) (EVs.cons EV.bool EVs.nil))))) rfl) EVs.nil) rfl) (EV.name rfl) (EV.name rfl) (fun _ => rfl))) EL.nil)) EL.nil
        | swap t u => exact EL.cons (ES.ifF (TV.cmp1 (EV.sub (EV.name rfl) EV.int (by first | exact OP.item0 | exact OP.litem0)) EV.str (by first | exact OP.eq_int | exact OP.eq_str)) (by decide +kernel) (EL.cons (ES.ifT (TV.cmp1 (EV.sub (EV.name rfl) EV.int (by first | exact OP.item0 | exact OP.litem0)) EV.str (by first | exact OP.eq_int | exact OP.eq_str)) (by decide +kernel) (go (EV.list (EVs.cons (EV.tuple (EVs.cons (EV.tuple EVs.nil rfl) (EVs.cons EV.str (EVs.cons (EV.sub (EV.name rfl) EV.int (by first | exact OP.item1 | exact OP.litem1)) (EVs.cons (EV.sub (EV.name rfl) EV.int (by first | exact OP.item2 | exact OP.litem2)) (EVs.cons EV.bool EVs.nil))))) rfl) EVs.nil) rfl) (EV.name rfl) (EV.name rfl) (fun _ => rfl))) EL.nil)) EL.nil
        | turn p1 =>
          refine EL.cons (ES.ifF (TV.cmp1 (EV.sub (EV.name rfl) EV.int (by first | exact OP.item0 | exact OP.litem0)) EV.str (by first | exact OP.eq_int | exact OP.eq_str)) (by decide +kernel) (EL.cons (ES.ifF (TV.cmp1 (EV.sub (EV.name rfl) EV.int (by first | exact OP.item0 | exact OP.litem0)) EV.str (by first | exact OP.eq_int | exact OP.eq_str)) (by decide +kernel) (EL.cons (ES.ifT (TV.cmp1 (EV.sub (EV.name rfl) EV.int (by first | exact OP.item0 | exact OP.litem0)) EV.str (by first | exact OP.eq_int | exact OP.eq_str)) (by decide +kernel) (go (EV.comp1 (caps := []) ?S3 (ITR.rev rfl H.b_reversed (EV.sub (EV.name rfl) EV.int (by first | exact OP.item0 | exact OP.litem0))) (by trivial) ((p1.steps.reverse.map Row.turned).map Row.d) ?hl3 ?hz3 ?step3) (EV.name rfl) (EV.name rfl) (fun _ => rfl))) EL.nil)) EL.nil)) EL.nil
          case S3 => exact Scoped.of [] (by decide +kernel) rfl (by intro q hq; cases hq)
          case hl3 => simp
          case hz3 => have := P.steps_len p1; simp [P.cnt] at hqc ⊢; omega
          case step3 =>
            intro i d y hd hy
            rw [← List.map_reverse] at hd
            obtain ⟨r, hr, rfl⟩ := map_get hd
            obtain rfl : r.turned.d = y := by
              rw [List.getElem?_map, List.getElem?_map, hr] at hy; simpa using hy
            exact ⟨_, AL.name rfl, Sub.of_all (by intro q hq; cases hq), fun zs => (EV.call rfl H.n_turned_step H.k_turned_step (EVs.cons (EV.name rfl) EVs.nil) (FNc.fn (c_turned H r (by omega))))⟩
        | under1 p1 =>
          refine EL.cons (ES.ifF (TV.cmp1 (EV.sub (EV.name rfl) EV.int (by first | exact OP.item0 | exact OP.litem0)) EV.str (by first | exact OP.eq_int | exact OP.eq_str)) (by decide +kernel) (EL.cons (ES.ifF (TV.cmp1 (EV.sub (EV.name rfl) EV.int (by first | exact OP.item0 | exact OP.litem0)) EV.str (by first | exact OP.eq_int | exact OP.eq_str)) (by decide +kernel) (EL.cons (ES.ifF (TV.cmp1 (EV.sub (EV.name rfl) EV.int (by first | exact OP.item0 | exact OP.litem0)) EV.str (by first | exact OP.eq_int | exact OP.eq_str)) (by decide +kernel) (EL.cons (ES.ifT (TV.cmp1 (EV.sub (EV.name rfl) EV.int (by first | exact OP.item0 | exact OP.litem0)) EV.str (by first | exact OP.eq_int | exact OP.eq_str)) (by decide +kernel) (go (EV.cast (EV.comp2 (caps := []) ?S3 (ITR.enumL rfl H.b_enumerate (EV.name rfl)) (by trivial) (List.map (fun c : P × Nat => (c.1.steps.map (Row.deep c.2)).map Row.d) ([p1]).zipIdx) ?hl3 ?hz3 ?step3) ?val) (EV.name rfl) (EV.name rfl) (fun _ => rfl))) EL.nil)) EL.nil)) EL.nil)) EL.nil
          case S3 => exact Scoped.of [] (by decide +kernel) rfl (by intro q hq; cases hq)
          case hl3 => rfl
          case hz3 => have := P.steps_len p1; simp [P.cnt] at hqc ⊢; omega
          case val => simp [stepV, rowsD, P.steps]
          case step3 =>
            intro i d ys hd hy
            obtain ⟨c, hc1, rfl⟩ := map_get (f := fun c : P => rowsD c.steps) (l := [p1]) hd
            obtain ⟨c', hc2, rfl⟩ := map_get hy
            obtain rfl : (c, i) = c' := by rw [zip_at hc1] at hc2; exact Option.some.inj hc2
            have hcc := P.kid_cnt (p := .under1 p1) (c := c) hc1
            refine ⟨_, AL.tup2 rfl rfl, Sub.of_all (by intro q hq; cases hq), _, _, fun _ => True, fun zs => ITR.lst (EV.name rfl), True.intro, by simp, fun j d2 y hd2 hy2 => ?_⟩
            obtain ⟨r, hr, rfl⟩ := map_get hd2
            obtain rfl : (r.deep i).d = y := by simpa [hr] using hy2
            have hrp := P.steps_path c r (List.mem_of_getElem? hr)
            exact ⟨_, AL.name rfl, Sub.of_all (by intro q hq; simp at hq; rcases hq with rfl | rfl <;> rfl), fun zs => (EV.call rfl H.n_deeper H.k_deeper (EVs.cons (EV.name rfl) (EVs.cons (EV.name rfl) EVs.nil)) (FNc.fn (c_deeper H r i (by omega) (by omega))))⟩
        | under2 p1 p2 =>
          refine EL.cons (ES.ifF (TV.cmp1 (EV.sub (EV.name rfl) EV.int (by first | exact OP.item0 | exact OP.litem0)) EV.str (by first | exact OP.eq_int | exact OP.eq_str)) (by decide +kernel) (EL.cons (ES.ifF (TV.cmp1 (EV.sub (EV.name rfl) EV.int (by first | exact OP.item0 | exact OP.litem0)) EV.str (by first | exact OP.eq_int | exact OP.eq_str)) (by decide +kernel) (EL.cons (ES.ifF (TV.cmp1 (EV.sub (EV.name rfl) EV.int (by first | exact OP.item0 | exact OP.litem0)) EV.str (by first | exact OP.eq_int | exact OP.eq_str)) (by decide +kernel) (EL.cons (ES.ifT (TV.cmp1 (EV.sub (EV.name rfl) EV.int (by first | exact OP.item0 | exact OP.litem0)) EV.str (by first | exact OP.eq_int | exact OP.eq_str)) (by decide +kernel) (go (EV.cast (EV.comp2 (caps := []) ?S3 (ITR.enumL rfl H.b_enumerate (EV.name rfl)) (by trivial) (List.map (fun c : P × Nat => (c.1.steps.map (Row.deep c.2)).map Row.d) ([p1, p2]).zipIdx) ?hl3 ?hz3 ?step3) ?val) (EV.name rfl) (EV.name rfl) (fun _ => rfl))) EL.nil)) EL.nil)) EL.nil)) EL.nil
          case S3 => exact Scoped.of [] (by decide +kernel) rfl (by intro q hq; cases hq)
          case hl3 => rfl
          case hz3 => have := P.steps_len p1; have := P.steps_len p2; simp [P.cnt] at hqc ⊢; omega
          case val => simp [stepV, rowsD, P.steps]
          case step3 =>
            intro i d ys hd hy
            obtain ⟨c, hc1, rfl⟩ := map_get (f := fun c : P => rowsD c.steps) (l := [p1, p2]) hd
            obtain ⟨c', hc2, rfl⟩ := map_get hy
            obtain rfl : (c, i) = c' := by rw [zip_at hc1] at hc2; exact Option.some.inj hc2
            have hcc := P.kid_cnt (p := .under2 p1 p2) (c := c) hc1
            refine ⟨_, AL.tup2 rfl rfl, Sub.of_all (by intro q hq; cases hq), _, _, fun _ => True, fun zs => ITR.lst (EV.name rfl), True.intro, by simp, fun j d2 y hd2 hy2 => ?_⟩
            obtain ⟨r, hr, rfl⟩ := map_get hd2
            obtain rfl : (r.deep i).d = y := by simpa [hr] using hy2
            have hrp := P.steps_path c r (List.mem_of_getElem? hr)
            exact ⟨_, AL.name rfl, Sub.of_all (by intro q hq; simp at hq; rcases hq with rfl | rfl <;> rfl), fun zs => (EV.call rfl H.n_deeper H.k_deeper (EVs.cons (EV.name rfl) (EVs.cons (EV.name rfl) EVs.nil)) (FNc.fn (c_deeper H r i (by omega) (by omega))))⟩
        | join p1 p2 =>
          refine EL.cons (ES.ifF (TV.cmp1 (EV.sub (EV.name rfl) EV.int (by first | exact OP.item0 | exact OP.litem0)) EV.str (by first | exact OP.eq_int | exact OP.eq_str)) (by decide +kernel) (EL.cons (ES.ifF (TV.cmp1 (EV.sub (EV.name rfl) EV.int (by first | exact OP.item0 | exact OP.litem0)) EV.str (by first | exact OP.eq_int | exact OP.eq_str)) (by decide +kernel) (EL.cons (ES.ifF (TV.cmp1 (EV.sub (EV.name rfl) EV.int (by first | exact OP.item0 | exact OP.litem0)) EV.str (by first | exact OP.eq_int | exact OP.eq_str)) (by decide +kernel) (EL.cons (ES.ifF (TV.cmp1 (EV.sub (EV.name rfl) EV.int (by first | exact OP.item0 | exact OP.litem0)) EV.str (by first | exact OP.eq_int | exact OP.eq_str)) (by decide +kernel) (go (EV.cast (EV.comp2 (caps := []) ?S3 (ITR.lst (EV.name rfl)) (by trivial) (List.map (fun c : P => c.steps.map Row.d) ([p1, p2])) ?hl3 ?hz3 ?step3) ?val) (EV.name rfl) (EV.name rfl) (fun _ => rfl))) EL.nil)) EL.nil)) EL.nil)) EL.nil
          case S3 => exact Scoped.of [] (by decide +kernel) rfl (by intro q hq; cases hq)
          case hl3 => rfl
          case hz3 => have := P.steps_len p1; have := P.steps_len p2; simp [P.cnt] at hqc ⊢; try omega
          case val => simp [stepV, rowsD, P.steps]
          case step3 =>
            intro i d ys hd hy
            obtain ⟨c, hc1, rfl⟩ := map_get (f := fun c : P => rowsD c.steps) (l := [p1, p2]) hd
            obtain ⟨c', hc2, rfl⟩ := map_get hy
            obtain rfl : c = c' := by rw [hc1] at hc2; exact Option.some.inj hc2
            refine ⟨_, AL.name rfl, Sub.of_all (by intro q hq; cases hq), _, _, fun _ => True, fun zs => ITR.lst (EV.name rfl), True.intro, rfl, fun j d2 y hd2 hy2 => ?_⟩
            obtain rfl : d2 = y := by rw [hd2] at hy2; exact Option.some.inj hy2
            exact ⟨_, AL.name rfl, Sub.of_all (by intro q hq; simp at hq; subst hq; rfl), fun zs => (EV.name rfl)⟩
        | same t =>
          refine EL.cons (ES.ifF (TV.cmp1 (EV.sub (EV.name rfl) EV.int (by first | exact OP.item0 | exact OP.litem0)) EV.str (by first | exact OP.eq_int | exact OP.eq_str)) (by decide +kernel) (EL.cons (ES.ifF (TV.cmp1 (EV.sub (EV.name rfl) EV.int (by first | exact OP.item0 | exact OP.litem0)) EV.str (by first | exact OP.eq_int | exact OP.eq_str)) (by decide +kernel) (EL.cons (ES.ifF (TV.cmp1 (EV.sub (EV.name rfl) EV.int (by first | exact OP.item0 | exact OP.litem0)) EV.str (by first | exact OP.eq_int | exact OP.eq_str)) (by decide +kernel) (EL.cons (ES.ifF (TV.cmp1 (EV.sub (EV.name rfl) EV.int (by first | exact OP.item0 | exact OP.litem0)) EV.str (by first | exact OP.eq_int | exact OP.eq_str)) (by decide +kernel) (go (EV.cast (EV.comp2 (caps := []) ?S3 (ITR.lst (EV.name rfl)) (by trivial) (List.map (fun c : P => c.steps.map Row.d) (([] : List P))) ?hl3 ?hz3 ?step3) ?val) (EV.name rfl) (EV.name rfl) (fun _ => rfl))) EL.nil)) EL.nil)) EL.nil)) EL.nil
          case S3 => exact Scoped.of [] (by decide +kernel) rfl (by intro q hq; cases hq)
          case hl3 => rfl
          case hz3 => skip; simp [P.cnt] at hqc ⊢; try omega
          case val => simp [stepV, rowsD, P.steps]
          case step3 =>
            intro i d ys hd hy
            obtain ⟨c, hc1, rfl⟩ := map_get (f := fun c : P => rowsD c.steps) (l := ([] : List P)) hd
            obtain ⟨c', hc2, rfl⟩ := map_get hy
            obtain rfl : c = c' := by rw [hc1] at hc2; exact Option.some.inj hc2
            refine ⟨_, AL.name rfl, Sub.of_all (by intro q hq; cases hq), _, _, fun _ => True, fun zs => ITR.lst (EV.name rfl), True.intro, rfl, fun j d2 y hd2 hy2 => ?_⟩
            obtain rfl : d2 = y := by rw [hd2] at hy2; exact Option.some.inj hy2
            exact ⟨_, AL.name rfl, Sub.of_all (by intro q hq; simp at hq; subst hq; rfl), fun zs => (EV.name rfl)⟩
end
end Mine
end PartP15
noncomputable section PartP16
open PySem PySem.W PyProof.Rows
set_option linter.all false
set_option maxRecDepth 20000
namespace Mine
namespace Row
def base (K : List (T × T)) (r : Row) : T × T := match r.kind with
  | .told k => K.getD k (.a, .a)
  | .dup t => (.f t, .g t t)
  | .swap t u => (.g t u, .g u t)
def lr (K : List (T × T)) (r : Row) : T × T := if r.back then ((r.base K).2, (r.base K).1) else r.base K
def fit (K : List (T × T)) (r : Row) : Prop := match r.kind with
  | .told k => k < K.length
  | _ => True
end Row
/-- the terms on the way -/
def run (K : List (T × T)) : T → List Row → List T
  | t, [] => [t]
  | t, r :: rs => t :: run K (t.put r.path (r.lr K).2) rs
def Valid (K : List (T × T)) (D : Nat) : T → List Row → Prop
  | t, [] => t.depth ≤ D
  | t, r :: rs => t.depth ≤ D ∧ r.fit K ∧ (r.lr K).1.depth ≤ D ∧ t.at? r.path = some (r.lr K).1 ∧ Valid K D (t.put r.path (r.lr K).2) rs
theorem run_len {K : List (T × T)} : ∀ (rs : List Row) (t : T), (run K t rs).length = rs.length + 1
  | [], t => rfl
  | r :: rs, t => by simp [run, run_len rs]
theorem run_zero {K : List (T × T)} (rs : List Row) (t : T) : (run K t rs)[0]? = some t := by cases rs <;> rfl
theorem run_step {K : List (T × T)} {D : Nat} : ∀ (rs : List Row) (t : T) (i : Nat) (r : Row), Valid K D t rs → rs[i]? = some r →
    ∃ u, (run K t rs)[i]? = some u ∧ (run K t rs)[i + 1]? = some (u.put r.path (r.lr K).2) ∧ u.depth ≤ D ∧ r.fit K ∧ (r.lr K).1.depth ≤ D ∧ u.at? r.path = some (r.lr K).1
  | r' :: rs, t, 0, r, h, hr => by
    simp only [List.getElem?_cons_zero, Option.some.injEq] at hr; subst hr
    obtain ⟨h1, h2, h3, h4, h5⟩ := h
    exact ⟨t, rfl, by simp [run, run_zero], h1, h2, h3, h4⟩
  | r' :: rs, t, i + 1, r, h, hr => by
    obtain ⟨u, k⟩ := run_step rs _ i r h.2.2.2.2 (by simpa using hr)
    exact ⟨u, by simpa [run] using k⟩
section
variable {g : G} {n : Nat} {σ σ' τ : List Slot} {v : V}
theorem fine_nilT : Fine (.tuple []) := ⟨by decide +kernel, Nat.le_of_ble_eq_true rfl⟩
theorem c_step_sides (H : Has g) {K : List (T × T)} {w : Nat} (S : SO H K σ w) (r : Row) (hr : r.fit K) (num : PyData) (hn : 8 ≤ n) :
    FNc g n (.ref H.a_Steps_sides) [.ref w, .dat r.d, .dat num] σ (.dat (pairD (r.lr K))) σ := by
  obtain ⟨j, hw, J⟩ := S.ex
  obtain ⟨ri, d0, s0, h1, h2, h3, h4⟩ := J.ex
  refine H.f_Steps_sides.plain ok_Steps_sides (by omega) ?_
  obtain ⟨path, kind, back⟩ := r
  have fin : ∀ {q : T × T} {ρ : List (Str × V)} {body : List Stmt}, True := fun {_ _ _} => trivial
  cases kind with
  | told k =>
    refine EL.cons (ES.ifT (TV.boolop (AT.andT (TV.cmp1 (EV.sub (EV.name rfl) EV.int (by first | exact OP.item1 | exact OP.litem1)) EV.str (by first | exact OP.eq_int | exact OP.eq_str)) (by show decide (("told" : Str) = "told") = true; decide +kernel) (AT.andT (TV.cmp1 (EV.sub (EV.name rfl) EV.int (by exact OP.item3)) (EV.tuple EVs.nil rfl) (OP.eq rfl rfl fine_nilT fine_nilT)) (by decide +kernel) AT.andNil))) rfl (EL.cons (ES.assign (.inl rfl) (EV.method H.m_Judge_told_sides (EV.attr H.p_Steps_judge (EV.name rfl) hw rfl) h1 rfl (EVs.cons (EV.sub (EV.name rfl) EV.int (by first | exact OP.item2 | exact OP.litem2)) (EVs.cons (EV.name rfl) EVs.nil)) (FNc.fn (c_told_sides H J (getD_get hr) num (by omega))) (by intro _; with_unfolding_all rfl))) EL.nil)) ?_
    cases back with
    | true => exact EL.ret (ES.return (EV.ifT (TV.val (EV.sub (EV.name rfl) EV.int (by exact OP.item4))) rfl (EV.tuple (EVs.cons (EV.sub (EV.name rfl) EV.int (by first | exact OP.item1 | exact OP.litem1)) (EVs.cons (EV.sub (EV.name rfl) EV.int (by first | exact OP.item0 | exact OP.litem0)) EVs.nil)) rfl)))
    | false => exact EL.ret (ES.return (EV.ifF (TV.val (EV.sub (EV.name rfl) EV.int (by exact OP.item4))) rfl (EV.name rfl)))
  | dup t =>
    refine EL.cons (ES.ifF (TV.boolop (AT.andF (TV.cmp1 (EV.sub (EV.name rfl) EV.int (by first | exact OP.item1 | exact OP.litem1)) EV.str (by first | exact OP.eq_int | exact OP.eq_str)) (by show decide (("rule" : Str) = "told") = false; decide +kernel))) rfl (EL.cons (ES.ifT (TV.cmp1 (EV.sub (EV.name rfl) EV.int (by first | exact OP.item1 | exact OP.litem1)) EV.str (by first | exact OP.eq_int | exact OP.eq_str)) (by show decide (("rule" : Str) = "rule") = true; decide +kernel) (EL.cons (ES.assign (.inl rfl) (EV.method H.m_Judge_rule_sides (EV.attr H.p_Steps_judge (EV.name rfl) hw rfl) h1 rfl (EVs.cons (EV.sub (EV.name rfl) EV.int (by first | exact OP.item2 | exact OP.litem2)) (EVs.cons (EV.sub (EV.name rfl) EV.int (by exact OP.item3)) (EVs.cons (EV.name rfl) EVs.nil))) (FNc.fn (c_rule_dup H J num (by omega))) (by intro _; with_unfolding_all rfl))) EL.nil)) EL.nil)) ?_
    cases back with
    | true => exact EL.ret (ES.return (EV.ifT (TV.val (EV.sub (EV.name rfl) EV.int (by exact OP.item4))) rfl (EV.tuple (EVs.cons (EV.sub (EV.name rfl) EV.int (by first | exact OP.item1 | exact OP.litem1)) (EVs.cons (EV.sub (EV.name rfl) EV.int (by first | exact OP.item0 | exact OP.litem0)) EVs.nil)) rfl)))
    | false => exact EL.ret (ES.return (EV.ifF (TV.val (EV.sub (EV.name rfl) EV.int (by exact OP.item4))) rfl (EV.name rfl)))
  | swap t u =>
    refine EL.cons (ES.ifF (TV.boolop (AT.andF (TV.cmp1 (EV.sub (EV.name rfl) EV.int (by first | exact OP.item1 | exact OP.litem1)) EV.str (by first | exact OP.eq_int | exact OP.eq_str)) (by show decide (("rule" : Str) = "told") = false; decide +kernel))) rfl (EL.cons (ES.ifT (TV.cmp1 (EV.sub (EV.name rfl) EV.int (by first | exact OP.item1 | exact OP.litem1)) EV.str (by first | exact OP.eq_int | exact OP.eq_str)) (by show decide (("rule" : Str) = "rule") = true; decide +kernel) (EL.cons (ES.assign (.inl rfl) (EV.method H.m_Judge_rule_sides (EV.attr H.p_Steps_judge (EV.name rfl) hw rfl) h1 rfl (EVs.cons (EV.sub (EV.name rfl) EV.int (by first | exact OP.item2 | exact OP.litem2)) (EVs.cons (EV.sub (EV.name rfl) EV.int (by exact OP.item3)) (EVs.cons (EV.name rfl) EVs.nil))) (FNc.fn (c_rule_swap H J num (by omega))) (by intro _; with_unfolding_all rfl))) EL.nil)) EL.nil)) ?_
    cases back with
    | true => exact EL.ret (ES.return (EV.ifT (TV.val (EV.sub (EV.name rfl) EV.int (by exact OP.item4))) rfl (EV.tuple (EVs.cons (EV.sub (EV.name rfl) EV.int (by first | exact OP.item1 | exact OP.litem1)) (EVs.cons (EV.sub (EV.name rfl) EV.int (by first | exact OP.item0 | exact OP.litem0)) EVs.nil)) rfl)))
    | false => exact EL.ret (ES.return (EV.ifF (TV.val (EV.sub (EV.name rfl) EV.int (by exact OP.item4))) rfl (EV.name rfl)))
theorem c_stepped (H : Has g) {K : List (T × T)} {D w : Nat} (S : SO H K σ w) (r : Row) (hr : r.fit K) {t : T} (ht : t.depth ≤ D) (hl : (r.lr K).1.depth ≤ D) (hD : D ≤ 200) (ha : t.at? r.path = some (r.lr K).1) (num : PyData) (hn : D + 10 ≤ n) :
    FNc g n (.ref H.a_Steps_stepped) [.ref w, .dat t.d, .dat r.d, .dat num] σ (.dat (t.put r.path (r.lr K).2).d) σ := by
  obtain ⟨j, hw, J⟩ := S.ex
  have hp := T.path_le ha
  refine H.f_Steps_stepped.plain ok_Steps_stepped (by omega) ?_
  refine EL.cons (ES.unpack (EV.method H.m_Steps_sides (EV.name rfl) hw rfl (EVs.cons (EV.name rfl) (EVs.cons (EV.name rfl) EVs.nil)) (FNc.fn (c_step_sides H S r hr num (by omega))) (by intro _; with_unfolding_all rfl)) (AS.tup2 (.inl rfl) (.inl rfl))) ?_
  refine EL.ret (ES.try_ret (EL.cons (ES.ifF0 (TV.cmp1 (EV.call rfl H.n_part_at H.k_part_at (EVs.cons (EV.name rfl) (EVs.cons (EV.sub (EV.name rfl) EV.int (by first | exact OP.item0 | exact OP.litem0)) EVs.nil)) (FNc.fn (c_part_at H ha (by omega) (by omega)))) (EV.name rfl) (OP.ne rfl rfl (T.fine (by omega)) (T.fine (by omega)))) ?q) (EL.ret (ES.return (EV.call rfl H.n_replaced H.k_replaced (EVs.cons (EV.name rfl) (EVs.cons (EV.sub (EV.name rfl) EV.int (by first | exact OP.item0 | exact OP.litem0)) (EVs.cons (EV.name rfl) EVs.nil))) (FNc.fn (c_replaced H ha (by omega) (by omega))))))))
  case q => rw [T.eqv_d]; simp
theorem c_walk (H : Has g) {K : List (T × T)} {D w : Nat} (S : SO H K σ w) (rs : List Row) {t : T} (hv : Valid K D t rs) (hD : D ≤ 200) (hz : rs.length ≤ 1000) (hn : D + 12 ≤ n) :
    FNc g n (.ref H.a_Steps_walk) [.ref w, .dat t.d, .dat (rowsD rs)] σ (.dat (.list ((run K t rs).map T.d))) σ := by
  obtain ⟨j, hw, J⟩ := S.ex
  refine H.f_Steps_walk.lst ok_Steps_walk (by omega) [.list ((run K t rs).map T.d)] (i := σ.length) (j := 0) ?_ rfl rfl
  refine EL.cons (ES.assign (.inl rfl) (v := .ref σ.length) (EV.list_new (EVs.cons (EV.name rfl) EVs.nil) rfl)) ?_
  refine EL.cons (ES.for (ITR.enumL rfl H.b_enumerate (EV.name rfl)) (by trivial) (fun i => ([("found", .ref σ.length), ("self", .ref w)], σ ++ [.list (((run K t rs).take (i + 1)).map T.d)])) ?h0 ?h1 ?step) ?rest
  case h0 => exact Sub.of_all (by intro q hq; simp at hq; rcases hq with rfl | rfl <;> rfl)
  case h1 => cases rs <;> rfl
  case rest =>
    rw [List.length_map, ← run_len (K := K) rs t, List.take_length]
    exact EL.ret (ES.return (EV.name rfl))
  case step =>
    intro i d hd
    obtain ⟨r, hr, rfl⟩ := map_get hd
    obtain ⟨u, k1, k2, k3, k4, k5, k6⟩ := run_step rs t i r hv hr
    have hi := (List.getElem?_eq_some_iff.mp hr).1
    have hlast : (((run K t rs).take (i + 1)).map T.d).getLast? = some u.d := by
      rw [List.take_succ_eq_append_getElem (List.getElem?_eq_some_iff.mp k1).1, (List.getElem?_eq_some_iff.mp k1).2]; simp
    have hlen : (((run K t rs).take (i + 1)).map T.d).length ≤ sizeLine - 1 := by
      have := sl; simp only [List.length_map, List.length_take]; omega
    have hfin : ((run K t rs).take (i + 1)).map T.d ++ [(u.put r.path (r.lr K).2).d] = ((run K t rs).take (i + 1 + 1)).map T.d := by
      rw [List.take_succ_eq_append_getElem (List.getElem?_eq_some_iff.mp k2).1, (List.getElem?_eq_some_iff.mp k2).2]; simp
    refine ⟨_, _, AS.tup2 (.inl rfl) (.inl rfl), EL.cons (ES.expr (v := .dat .none) (EV.castS (EV.append (EV.name rfl) slot_e0 (EV.method H.m_Steps_stepped (EV.name rfl) hw.app rfl (EVs.cons (EV.sub (EV.name rfl) (EV.un EV.int OP.neg) (OP.item_slot_last slot_e0 hlast)) (EVs.cons (EV.name rfl) (EVs.cons (EV.name rfl) EVs.nil))) (FNc.fn (c_stepped H S.app r k4 k3 k5 hD k6 (.int i) (by omega))) (by intro _; with_unfolding_all rfl)) slot_e0 hlen) ?fin)) EL.nil, ?sub⟩
    case fin => rw [set_e0, hfin]
    case sub => exact Sub.of_all (by intro q hq; simp at hq; rcases hq with rfl | rfl <;> rfl)
end
end Mine
end PartP16
noncomputable section PartP17
open PySem PySem.W PyProof.Rows
set_option linter.all false
set_option maxRecDepth 20000
namespace Mine
section
variable {g : G} {n : Nat} {sc scope : Scope} {ρ ρ' caps : List (Str × V)} {σ σ₁ σ₂ : List Slot} {pos p : Pos} {v : V} {elt target iter c x : Expr} {ds : List PyData} {out : Nat → PyData → PyData} {tg : Expr → Prop} {st : Stmt}
theorem CA.tuple_tup {xs : List PyData} : CA g n (.type "tuple") [.dat (.tuple xs)] σ (.dat (.tuple xs)) σ := fun A μ s ws Q E R M V hQ => by
  obtain ⟨w, rfl, h1⟩ := V.one
  obtain ⟨a, us, m1, rfl, na, ha, za, ra⟩ := rd_tuple.mp (vr_dat.mp h1)
  exact call_tuple_same (isTup ha) (hQ _ _ μ .refl M (rd_tuple.mpr ⟨a, us, m1, rfl, na, ha, za, ra⟩))
theorem ES.castN (h : ES g n sc st ρ σ (.next ρ' σ₁)) (q : σ₁ = σ₂) : ES g n sc st ρ σ (.next ρ' σ₂) := q ▸ h
theorem ES.assign_comp0 {y : Str} {py spos : Pos} (hy : sc.names.lookup y = some .local) (hline : (py.line == pos.line) = true) (hno : (scope.names.any fun (n, k) => n == y && (k == .local || k == .cell)) = false)
    (S : Scoped sc scope ρ caps) (hi : ITR g n sc iter ρ σ ds out tg σ₁) (ht : tg target)
    (step : ∀ i d, ds[i]? = some d → ∃ ρ₁, AL g (relab scope sc) target (out i d) caps ρ₁ ∧ Sub caps ρ₁ ∧ ∀ zs, TV g n (relab scope sc) c ρ₁ (σ₁ ++ [.list zs]) false (σ₁ ++ [.list zs]))
    (hs : ∀ x env, foldedSetIterable iter env x = pure x := by intro _ _; rfl) :
    ES g n sc (.Assign [.Name y py] (.ListComp elt [⟨target, iter, [c], 0⟩] scope pos) spos) ρ σ (.next ((y, .dat (.list [])) :: ρ) σ₁) :=
  ES.assign_comp (tail := ifsT g [c] (emitT g elt)) (elt := elt) (pos := pos) (spos := spos) hy hline hno S hi ht (fun _ => σ₁) (fun i => []) rfl rfl (fun _ _ => rfl) id (fun A it D cenv s Q E' h => turn1 h) (fun i d hd => by
    obtain ⟨ρ₁, h1, h2, h3⟩ := step i d hd
    exact ⟨ρ₁, h1, h2, TN.if_false (h3 [])⟩) hs
theorem closed_obj {σ : List Slot} {as as' : List (Str × V)} {x : Slot} (h : Closed (σ ++ [.odict as, x])) (ha : ∀ i ∈ as'.flatMap fun p => vrefs p.2, i < σ.length + 2) : Closed (σ ++ [.odict as', x]) := by
  intro sl hsl i hi
  have e : (σ ++ [Slot.odict as', x]).length = (σ ++ [Slot.odict as, x]).length := by simp
  rw [e]
  rcases List.mem_append.mp hsl with hm | hm
  · exact h sl (List.mem_append_left _ hm) i hi
  · simp only [List.mem_cons, List.not_mem_nil, or_false] at hm
    rcases hm with rfl | rfl
    · have := ha i hi; simpa using this
    · exact h _ (List.mem_append_right _ (by simp)) i hi
end
section
variable {g : G} {n : Nat} {σ σ' τ : List Slot} {v : V}
theorem any_self {ks : List Str} {s : Str} (h : s ∈ ks) (hs : PyData.strOk s = true) : ((ks.map PyData.str).any fun y => PyData.eqv y (.str s)) = true := by
  rw [List.any_eq_true]
  exact ⟨.str s, List.mem_map_of_mem h, PySem.SeqAt.eqv_refl _ (fine_str hs).1⟩
theorem c_rule_init (H : Has g) {nm : Str} {l r : T} {ks : List Str} {C : Addr} (hv : l.isVar = false) (hl : ∀ zs, zs.Perm (ddup [] l.vs) → sortedS zs = true → zs = ks) (hr : ∀ zs, zs.Perm (ddup [] r.vs) → sortedS zs = true → zs = ks)
    (hz : l.size < 64 ∧ r.size < 64) (hd : l.depth ≤ 5 ∧ r.depth ≤ 5) (hf : Fine (.list (ks.map .str))) (hok : ∀ s ∈ ks, PyData.strOk s = true) (hk : ks.length ≤ 10) (hC : C = H.c_Rule) (hn : 10 ≤ n) :
    FNc g n (.ref H.a_Rule_init) [.ref (σ.length + 1), .dat (.str nm), .dat l.d, .dat r.d, .dat (.tuple [])] (σ ++ [.odict [], .inst C σ.length]) (.dat .none) (σ ++ [.odict (ruleA nm l r), .inst C σ.length]) := by
  subst hC
  refine H.f_Rule_init.fall (ρ' := ?ρ) ok_Rule_init (by omega) ?_ (by simp) (fun h => closed_obj h (by simp [ruleA, vrefs]))
  rotate_left
  refine EL.cons (ES.ifF0 (TV.val (EV.call rfl H.n_is_variable H.k_is_variable (EVs.cons (EV.name rfl) EVs.nil) (FNc.fn (c_is_variable H l (by omega))))) hv) ?_
  refine EL.cons (ES.assign (by right; rfl) (EV.call rfl H.n_variables H.k_variables (EVs.cons (EV.name rfl) EVs.nil) (FNc.fn (c_variables H l hl hz.1 (by omega))))) ?_
  refine EL.cons (ES.assign (.inl rfl) (EV.bin (EV.list (EVs.cons (EV.tuple (EVs.cons EV.str (EVs.cons (EV.name rfl) (EVs.cons (EV.name rfl) EVs.nil))) rfl) EVs.nil) rfl) (EV.list_ H rfl (EVs.cons (EV.name rfl) EVs.nil) (by first | exact CA.list_lst | exact CA.list_tup)) (OP.add_lst (by exact Nat.le_of_ble_eq_true rfl)))) ?_
  refine EL.cons (ES.for (ITR.lst (EV.name rfl)) (by trivial) (fun i => ([("known", .dat (.list (ks.map .str))), ("self", .ref (σ.length + 1)), ("name", .dat (.str nm)), ("left", .dat l.d), ("right", .dat r.d), ("needs", .dat (.tuple []))], σ ++ [.odict [], .inst H.c_Rule σ.length])) ?h0 rfl ?step) ?rest
  case h0 => exact Sub.of_all (by intro q hq; simp at hq; rcases hq with rfl | rfl | rfl | rfl | rfl | rfl <;> rfl)
  case step =>
    intro i d hd'
    have hi : i = 0 := by
      have := (List.getElem?_eq_some_iff.mp hd').1; simp at this; exact this
    subst hi
    obtain rfl := Option.some.inj hd'
    refine ⟨_, ("lost", .dat (.list [])) :: ("other", .dat r.d) :: ("one", .dat r.d) :: ("kind", .dat (.str "alike")) :: [("known", .dat (.list (ks.map .str))), ("self", .ref (σ.length + 1)), ("name", .dat (.str nm)), ("left", .dat l.d), ("right", .dat r.d), ("needs", .dat (.tuple []))], AS.tup3 (.inl rfl) (.inl rfl) (.inl rfl), ?body, ?sub⟩
    case sub => exact Sub.of_all (by intro q hq; simp at hq; rcases hq with rfl | rfl | rfl | rfl | rfl | rfl <;> rfl)
    case body =>
      refine EL.cons (ES.ifF0 (TV.cmp1 (EV.name rfl) (EV.tuple (EVs.cons EV.str (EVs.cons EV.str EVs.nil)) rfl) (OP.notIn_tup ⟨by decide +kernel, Nat.le_of_ble_eq_true rfl⟩ (fine_str (by decide +kernel)))) (by decide +kernel)) ?_
      refine EL.cons (ES.assign_comp0 (caps := [("known", .dat (.list (ks.map .str)))]) rfl rfl (by decide +kernel) ?S (ITR.lst (EV.bin (EV.call rfl H.n_variables H.k_variables (EVs.cons (EV.name rfl) EVs.nil) (FNc.fn (c_variables H r hr hz.2 (by omega)))) (EV.call rfl H.n_variables H.k_variables (EVs.cons (EV.name rfl) EVs.nil) (FNc.fn (c_variables H r hr hz.2 (by omega)))) (OP.add_lst ?ha))) (by trivial) ?stepc) ?_
      case S => exact Scoped.of ["known"] (by decide +kernel) rfl (by intro q hq; simp at hq; subst hq; rfl)
      case ha => exact Nat.le_trans (by simp; omega) sl
      case stepc =>
        intro j d hj
        rw [← List.map_append] at hj
        obtain ⟨s, hs, rfl⟩ := map_get hj
        have hm : s ∈ ks := by
          have := List.mem_of_getElem? hs
          simpa using this
        refine ⟨_, AL.name rfl, Sub.of_all (by intro q hq; simp at hq; subst hq; rfl), fun zs => ?_⟩
        exact TV.cast (TV.cmp1 (EV.name rfl) (EV.name rfl) (OP.notIn_lst hf (fine_str (hok s hm)))) (by rw [any_self hm (hok s hm)]; rfl)
      exact EL.cons (ES.ifF0 (TV.cmp1 (EV.name rfl) (EV.list EVs.nil rfl) (OP.ne rfl rfl fine_nil fine_nil)) (by decide +kernel)) EL.nil
  case rest =>
    refine EL.cons (ES.castN (ES.setattr H.s_Rule_name (EV.name rfl) (EV.name rfl) slot_e1 slot_e0 rfl (Nat.le_of_ble_eq_true rfl)) set_e0) ?_
    refine EL.cons (ES.castN (ES.setattr H.s_Rule_left (EV.name rfl) (EV.name rfl) slot_e1 slot_e0 rfl (Nat.le_of_ble_eq_true rfl)) set_e0) ?_
    refine EL.cons (ES.castN (ES.setattr H.s_Rule_right (EV.name rfl) (EV.name rfl) slot_e1 slot_e0 rfl (Nat.le_of_ble_eq_true rfl)) set_e0) ?_
    refine EL.cons (ES.castN (ES.setattr H.s_Rule_needs (EV.call_ty rfl H.b_tuple bb_tuple (EVs.cons (EV.name rfl) EVs.nil) CA.tuple_tup) (EV.name rfl) slot_e1 slot_e0 rfl (Nat.le_of_ble_eq_true rfl)) set_e0) ?_
    exact EL.nil
theorem c_judge_init (H : Has g) {ri ti : Nat} {C : Addr} (h1 : ri < σ.length) (h2 : ti < σ.length) (hC : C = H.c_Judge) (hn : 2 ≤ n) :
    FNc g n (.ref H.a_Judge_init) [.ref (σ.length + 1), .ref ri, .ref ti] (σ ++ [.odict [], .inst C σ.length]) (.dat .none) (σ ++ [.odict [("rules", .ref ri), ("told", .ref ti)], .inst C σ.length]) := by
  subst hC
  refine H.f_Judge_init.fall (ρ' := ?ρ) ok_Judge_init (by omega) ?_ (by simp) (fun h => closed_obj h (by simp [vrefs]; omega))
  rotate_left
  refine EL.cons (ES.castN (ES.setattr H.s_Judge_rules (EV.name rfl) (EV.name rfl) slot_e1 slot_e0 rfl (Nat.le_of_ble_eq_true rfl)) set_e0) ?_
  refine EL.cons (ES.castN (ES.setattr H.s_Judge_told (EV.name rfl) (EV.name rfl) slot_e1 slot_e0 rfl (Nat.le_of_ble_eq_true rfl)) set_e0) ?_
  exact EL.nil
theorem c_steps_init (H : Has g) {j : Nat} {C : Addr} (h1 : j < σ.length) (hC : C = H.c_Steps) (hn : 2 ≤ n) :
    FNc g n (.ref H.a_Steps_init) [.ref (σ.length + 1), .ref j] (σ ++ [.odict [], .inst C σ.length]) (.dat .none) (σ ++ [.odict [("judge", .ref j)], .inst C σ.length]) := by
  subst hC
  refine H.f_Steps_init.fall (ρ' := ?ρ) ok_Steps_init (by omega) ?_ (by simp) (fun h => closed_obj h (by simp [vrefs]; omega))
  rotate_left
  refine EL.cons (ES.castN (ES.setattr H.s_Steps_judge (EV.name rfl) (EV.name rfl) slot_e1 slot_e0 rfl (Nat.le_of_ble_eq_true rfl)) set_e0) ?_
  exact EL.nil
end
end Mine
end PartP17
noncomputable section PartP18
open PySem PySem.W PyProof.Rows
set_option linter.all false
set_option maxRecDepth 20000
namespace Mine
section
variable {g : G} {n : Nat} {sc scope : Scope} {ρ ρ' caps : List (Str × V)} {σ σ' σ₁ σ₂ : List Slot} {pos p : Pos} {v : V} {elt target iter c x : Expr} {ds : List PyData} {out : Nat → PyData → PyData} {tg : Expr → Prop} {st : Stmt}
theorem FnIs.upd {fa : Addr} {ps : List Str} {body : List Stmt} {args : List V} {d : PyData} (I : FnIs g.K fa ps sc body) (hs : okSc sc ps = true) (hn : 1 ≤ n) (h : EL g (n - 1) sc body (ps.zip args) σ (.ret (.dat d) σ')) (hl : σ.length ≤ σ'.length) (hc : Closed σ → Closed σ') (hlen : args.length = ps.length := by rfl) : FNc g n (.ref fa) args σ (.dat d) σ' := by
  obtain ⟨n, rfl⟩ : ∃ m, n = m + 1 := ⟨n - 1, by omega⟩
  exact I.fnc (τ := []) (o := .ret (.dat d) σ') hs hlen h (by have := Ends.ret (k := σ'.length) (σ' := σ') (τ := []) (Fz.dat d); rwa [List.append_nil] at this) hl hc
theorem EV.compS (S : Scoped sc scope ρ caps) (hi : ITR g n sc iter ρ σ ds out tg σ₁) (ht : tg target) (st : Nat → List Slot) (ys : List PyData) (h0 : st 0 = σ₁) (hl : ys.length = ds.length) (hz : ys.length ≤ 1000000)
    (hlen : ∀ i, (st i).length = σ₁.length) (hc : ∀ i, Closed σ₁ → Closed (st i))
    (step : ∀ i d y, ds[i]? = some d → ys[i]? = some y → ∃ ρ₁, AL g (relab scope sc) target (out i d) caps ρ₁ ∧ Sub caps ρ₁ ∧ ∀ zs, EV g n (relab scope sc) elt ρ₁ (st i ++ [.list zs]) (.dat y) (st (i + 1) ++ [.list zs]))
    (hs : ∀ x env, foldedSetIterable iter env x = pure x := by intro _ _; rfl) :
    EV g n sc (.ListComp elt [⟨target, iter, [], 0⟩] scope pos) ρ σ (.dat (.list ys)) (st ds.length) := by
  have h := EV.comp (tail := ifsT g [] (emitT g elt)) (elt := elt) (pos := pos) S hi ht st (fun i => ys.take i) h0 (by simp) (fun i _ => hlen i) (hc _) (fun A it D cenv s Q E' h => turn1 h) (fun i d hd => by
    have hi : i < ys.length := by rw [hl]; exact (List.getElem?_eq_some_iff.mp hd).1
    obtain ⟨ρ₁, h1, h2, h3⟩ := step i d ys[i] hd (List.getElem?_eq_getElem hi)
    refine ⟨ρ₁, h1, h2, TN.ifs_nil ?_⟩
    show TN g n (relab scope sc) (emitT g elt) ρ₁ (st i) (ys.take i) (st (i + 1)) (ys.take (i + 1))
    rw [List.take_succ_eq_append_getElem hi]
    refine TN.emit (h3 _) (by rw [hlen, hlen]) ?_
    have := sizeLine_eq
    rw [List.length_take]; omega) hs
  have e : ys.take ds.length = ys := by rw [← hl]; simp
  simp only [e] at h
  exact h
theorem closed_head {a a' : Slot} {τ : List Slot} (ha : a'.refs = []) (h : Closed (a :: τ)) : Closed (a' :: τ) := by
  intro sl hsl i hi
  rcases List.mem_cons.mp hsl with rfl | hm
  · rw [ha] at hi; cases hi
  · exact h sl (List.mem_cons_of_mem _ hm) i hi
theorem closed_two {a b a' b' : Slot} {τ : List Slot} (ha : a'.refs = []) (hb : b'.refs = []) (h : Closed (a :: b :: τ)) : Closed (a' :: b' :: τ) := by
  intro sl hsl i hi
  rcases List.mem_cons.mp hsl with rfl | hm
  · rw [ha] at hi; cases hi
  · rcases List.mem_cons.mp hm with rfl | hm
    · rw [hb] at hi; cases hi
    · exact h sl (List.mem_cons_of_mem _ (List.mem_cons_of_mem _ hm)) i hi
end
def feedS (cells : List Int) (k : Nat) : Slot := .sdict [("cells", .dat (.list (cells.map .int))), ("at", .dat (.int k))]
theorem feedS_refs (cells : List Int) (k : Nat) : (feedS cells k).refs = [] := rfl
section
variable {g : G} {n : Nat} {σ σ' τ : List Slot} {v : V}
theorem feed_at {cells : List Int} {k : Nat} : ([(("cells" : Str), V.dat (.list (cells.map .int))), (("at" : Str), V.dat (.int (k : Int)))] : List (Str × V)).lookup ("at" : Str) = some (.dat (.int k)) := by rfl
theorem feed_cells {cells : List Int} {k : Nat} : ([(("cells" : Str), V.dat (.list (cells.map .int))), (("at" : Str), V.dat (.int (k : Int)))] : List (Str × V)).lookup ("cells" : Str) = some (.dat (.list (cells.map .int))) := by rfl
theorem feed_put {cells : List Int} {k : Nat} : Slot.sdict (sput [(("cells" : Str), V.dat (.list (cells.map .int))), (("at" : Str), V.dat (.int (k : Int)))] ("at" : Str) (.dat (.int ((k : Int) + 1)))) = feedS cells (k + 1) := by
  simp only [feedS, sput]; rfl
theorem draw_of {a : Int} {w : Nat} (hw : 0 < w) : ∃ r : Nat, r < w ∧ a.fmod w = r := by
  have h1 : 0 ≤ a.fmod (w : Int) := Int.fmod_nonneg_of_pos _ (by omega)
  have h2 : a.fmod (w : Int) < w := Int.fmod_lt_of_pos _ (by omega)
  exact ⟨(a.fmod w).toNat, by omega, by omega⟩
theorem c_law_draw (H : Has g) {cells : List Int} (hc : cells.length ≤ 60) {k w : Nat} (hk : k ≤ 1000) (hw : 0 < w) :
    ∃ r : Nat, r < w ∧ ∀ (n : Nat) (τ : List Slot), 2 ≤ n → FNc g n (.ref H.a_law_draw) [.ref 0, .dat (.int w)] (feedS cells k :: τ) (.dat (.int r)) (feedS cells (k + 1) :: τ) := by
  by_cases hlt : k < cells.length
  · obtain ⟨r, hr, e⟩ := draw_of (a := cells[k]) hw
    refine ⟨r, hr, fun n τ hn => ?_⟩
    refine H.f_law_draw.upd ok_law_draw (by omega) ?_ (by simp) (closed_head (feedS_refs _ _))
    refine EL.cons (ES.assign (.inl rfl) (EV.sub (EV.name rfl) EV.str (OP.sget rfl feed_at))) ?_
    refine EL.cons (ES.castN (ES.store (EV.bin (EV.name rfl) EV.int OP.add_int) (EV.name rfl) EV.str (ST.str rfl (Nat.le_trans (by simp) sl))) (σ₂ := feedS cells (k + 1) :: τ) ?e1) ?_
    case e1 => rw [feed_put]; rfl
    have hd : (cells.map PyData.int)[(k : Int).toNat]? = some (.int cells[k]) := by
      rw [List.getElem?_map, show (k : Int).toNat = k from rfl, List.getElem?_eq_getElem hlt]; rfl
    exact EL.ret (ES.ifT (TV.cmp1 (EV.name rfl) (EV.len H rfl (EVs.cons (EV.sub (EV.name rfl) EV.str (OP.sget rfl feed_cells)) EVs.nil) (by first | exact CA.len_tup | exact CA.len_cont rfl | exact CA.len_cont cont_e0 | exact CA.len_cont cont_e1 | exact CA.len_cont (by assumption))) OP.lt_int) (by simp; omega) (EL.ret (ES.return (EV.cast (EV.bin (EV.sub (EV.sub (EV.name rfl) EV.str (OP.sget rfl feed_cells)) (EV.name rfl) (OP.item_lst (by omega) hd (by omega))) (EV.name rfl) (OP.mod_int (by omega))) (by rw [e])))))
  · obtain ⟨r, hr, e⟩ := draw_of (a := (13 * (k : Int) * k + 7 * k + 3 * (cells.length : Int) + 3).fmod 107) hw
    refine ⟨r, hr, fun n τ hn => ?_⟩
    refine H.f_law_draw.upd ok_law_draw (by omega) ?_ (by simp) (closed_head (feedS_refs _ _))
    refine EL.cons (ES.assign (.inl rfl) (EV.sub (EV.name rfl) EV.str (OP.sget rfl feed_at))) ?_
    refine EL.cons (ES.castN (ES.store (EV.bin (EV.name rfl) EV.int OP.add_int) (EV.name rfl) EV.str (ST.str rfl (Nat.le_trans (by simp) sl))) (σ₂ := feedS cells (k + 1) :: τ) ?e1) ?_
    case e1 => rw [feed_put]; rfl
    refine EL.cons (ES.ifF0 (TV.cmp1 (EV.name rfl) (EV.len H rfl (EVs.cons (EV.sub (EV.name rfl) EV.str (OP.sget rfl feed_cells)) EVs.nil) (by first | exact CA.len_tup | exact CA.len_cont rfl | exact CA.len_cont cont_e0 | exact CA.len_cont cont_e1 | exact CA.len_cont (by assumption))) OP.lt_int) (by simp; omega)) ?_
    refine EL.ret (ES.return (EV.cast (EV.bin (EV.bin (EV.bin (EV.bin (EV.bin (EV.bin (EV.bin EV.int (EV.name rfl) (OP.mul_int (IntMulOk.of_left (by decide)))) (EV.name rfl) (OP.mul_int (IntMulOk.of_right (intBits_le_64 (by omega) (by omega))))) (EV.bin EV.int (EV.name rfl) (OP.mul_int (IntMulOk.of_left (by decide)))) OP.add_int) (EV.bin EV.int (EV.len H rfl (EVs.cons (EV.sub (EV.name rfl) EV.str (OP.sget rfl feed_cells)) EVs.nil) (by first | exact CA.len_tup | exact CA.len_cont rfl | exact CA.len_cont cont_e0 | exact CA.len_cont cont_e1 | exact CA.len_cont (by assumption))) (OP.mul_int (IntMulOk.of_left (by decide)))) OP.add_int) EV.int OP.add_int) EV.int (OP.mod_int (by decide))) (EV.name rfl) (OP.mod_int (by omega))) ?_))
    rw [← e, List.length_map]
end
end Mine
end PartP18
noncomputable section PartP19
open PySem PySem.W PyProof.Rows
set_option linter.all false
set_option maxRecDepth 20000
namespace Mine
def tc : Nat → Nat
  | 0 => 1
  | d + 1 => 2 * tc d + 1
section
variable {g : G} {n : Nat} {σ σ' τ : List Slot} {v : V}
theorem feed_closed {cells : List Int} {k k' : Nat} {τ : List Slot} (h : Closed (feedS cells k :: τ)) : Closed (feedS cells k' :: τ) := closed_head (feedS_refs _ _) h
set_option maxHeartbeats 1000000 in
theorem c_law_tree (H : Has g) {cells : List Int} (hc : cells.length ≤ 60) : ∀ (d k : Nat), k + tc d ≤ 1000 → d ≤ 100 →
    ∃ (t : T) (k' : Nat), t.gr = true ∧ t.depth ≤ d ∧ k' ≤ k + tc d ∧ ∀ (n : Nat) (τ : List Slot), d + 4 ≤ n → FNc g n (.ref H.a_law_tree) [.ref 0, .dat (.int d)] (feedS cells k :: τ) (.dat t.d) (feedS cells k' :: τ) := by
  intro d
  induction d with
  | zero =>
    intro k hk hd
    simp only [tc] at hk
    obtain ⟨r, hr, hf⟩ := c_law_draw H hc (k := k) (w := 2) (by omega) (by omega)
    have hr' : r = 0 ∨ r = 1 := by omega
    refine ⟨if r = 0 then .a else .b, k + 1, by split <;> rfl, by split <;> exact Nat.le_refl _, by simp only [tc]; omega, fun n τ hn => ?_⟩
    refine H.f_law_tree.upd ok_law_tree (by omega) ?_ (by simp) feed_closed
    refine EL.cons (ES.assign (.inl rfl) (EV.ifF (TV.cmp1 (EV.name rfl) EV.int OP.gt_int) rfl (EV.call rfl H.n_law_draw H.k_law_draw (EVs.cons (EV.name rfl) (EVs.cons EV.int EVs.nil)) (FNc.fn (hf _ _ (by omega)))))) ?_
    rcases hr' with rfl | rfl
    · exact EL.ret (ES.ifT (TV.cmp1 (EV.name rfl) EV.int (by exact OP.lt_int)) (by decide) (EL.ret (ES.return (EV.tuple (EVs.cons (EV.sub (EV.list (EVs.cons EV.str (EVs.cons EV.str EVs.nil)) rfl) (EV.name rfl) (OP.item_lst (by decide) rfl (by decide))) EVs.nil) rfl))))
    · exact EL.ret (ES.ifT (TV.cmp1 (EV.name rfl) EV.int (by exact OP.lt_int)) (by decide) (EL.ret (ES.return (EV.tuple (EVs.cons (EV.sub (EV.list (EVs.cons EV.str (EVs.cons EV.str EVs.nil)) rfl) (EV.name rfl) (OP.item_lst (by decide) rfl (by decide))) EVs.nil) rfl))))
  | succ d ih =>
    intro k hk hd
    simp only [tc] at hk
    obtain ⟨r, hr, hf⟩ := c_law_draw H hc (k := k) (w := 4) (by omega) (by omega)
    have gt : ((d + 1 : Nat) : Int) > 0 := by omega
    have hr' : r = 0 ∨ r = 1 ∨ r = 2 ∨ r = 3 := by omega
    have e1 : ((d + 1 : Nat) : Int) - 1 = (d : Int) := by omega
    rcases hr' with rfl | rfl | rfl | rfl
    · refine ⟨.a, k + 1, rfl, Nat.zero_le _, by simp only [tc]; omega, fun n τ hn => ?_⟩
      refine H.f_law_tree.upd ok_law_tree (by omega) ?_ (by simp) feed_closed
      refine EL.cons (ES.assign (.inl rfl) (EV.ifT (TV.cmp1 (EV.name rfl) EV.int OP.gt_int) (decide_eq_true gt) (EV.call rfl H.n_law_draw H.k_law_draw (EVs.cons (EV.name rfl) (EVs.cons EV.int EVs.nil)) (FNc.fn (hf _ _ (by omega)))))) ?_
      exact EL.ret (ES.ifT (TV.cmp1 (EV.name rfl) EV.int (by exact OP.lt_int)) (by decide) (EL.ret (ES.return (EV.tuple (EVs.cons (EV.sub (EV.list (EVs.cons EV.str (EVs.cons EV.str EVs.nil)) rfl) (EV.name rfl) (OP.item_lst (by decide) rfl (by decide))) EVs.nil) rfl))))
    · refine ⟨.b, k + 1, rfl, Nat.zero_le _, by simp only [tc]; omega, fun n τ hn => ?_⟩
      refine H.f_law_tree.upd ok_law_tree (by omega) ?_ (by simp) feed_closed
      refine EL.cons (ES.assign (.inl rfl) (EV.ifT (TV.cmp1 (EV.name rfl) EV.int OP.gt_int) (decide_eq_true gt) (EV.call rfl H.n_law_draw H.k_law_draw (EVs.cons (EV.name rfl) (EVs.cons EV.int EVs.nil)) (FNc.fn (hf _ _ (by omega)))))) ?_
      exact EL.ret (ES.ifT (TV.cmp1 (EV.name rfl) EV.int (by exact OP.lt_int)) (by decide) (EL.ret (ES.return (EV.tuple (EVs.cons (EV.sub (EV.list (EVs.cons EV.str (EVs.cons EV.str EVs.nil)) rfl) (EV.name rfl) (OP.item_lst (by decide) rfl (by decide))) EVs.nil) rfl))))
    · obtain ⟨t0, k1, g0, d0, b0, f0⟩ := ih (k + 1) (by omega) (by omega)
      refine ⟨.f t0, k1, g0, by simp only [T.depth]; omega, by simp only [tc]; omega, fun n τ hn => ?_⟩
      refine H.f_law_tree.upd ok_law_tree (by omega) ?_ (by simp) feed_closed
      refine EL.cons (ES.assign (.inl rfl) (EV.ifT (TV.cmp1 (EV.name rfl) EV.int OP.gt_int) (decide_eq_true gt) (EV.call rfl H.n_law_draw H.k_law_draw (EVs.cons (EV.name rfl) (EVs.cons EV.int EVs.nil)) (FNc.fn (hf _ _ (by omega)))))) ?_
      refine EL.cons (ES.ifF0 (TV.cmp1 (EV.name rfl) EV.int (by exact OP.lt_int)) (by decide)) ?_
      refine EL.ret (ES.return (EV.bin (EV.tuple (EVs.cons (EV.sub (EV.list (EVs.cons EV.str (EVs.cons EV.str EVs.nil)) rfl) (EV.bin (EV.name rfl) EV.int OP.sub_int) (OP.item_lst (by decide) rfl (by decide))) EVs.nil) rfl) (EV.tuple_ H rfl (EVs.cons ?comp EVs.nil)) (OP.add_tup (xs := [.str "f"]) (ys := [t0.d]) (Nat.le_of_ble_eq_true rfl))))
      case comp =>
        refine EV.compS (caps := [("feed", .ref 0), ("deep", .dat (.int ((d + 1 : Nat) : Int)))]) ?S (ITR.range (N := 1) rfl H.b_range (EV.bin (EV.name rfl) EV.int OP.sub_int) (Nat.le_of_ble_eq_true rfl)) (by trivial) (fun i => (if i = 0 then feedS cells (k + 1) else feedS cells k1) :: τ) [t0.d] rfl rfl (Nat.le_of_ble_eq_true rfl) (fun i => rfl) (fun i h => ?hcl) ?step
        case S => exact Scoped.of ["feed", "deep"] (by decide +kernel) rfl (by intro q hq; simp at hq; rcases hq with rfl | rfl <;> rfl)
        case hcl => split <;> exact feed_closed h
        case step =>
          intro i e y he hy
          rcases i with _ | i <;> simp at hy
          subst hy
          refine ⟨_, AL.name rfl, Sub.of_all (by intro q hq; simp at hq; rcases hq with rfl | rfl <;> rfl), fun zs => ?_⟩
          exact (EV.call rfl H.n_law_tree H.k_law_tree (EVs.cons (EV.name rfl) (EVs.cons (EV.cast (EV.bin (EV.name rfl) EV.int OP.sub_int) (show V.dat (.int (((d + 1 : Nat) : Int) - 1)) = V.dat (.int (d : Int)) by rw [e1])) EVs.nil)) (FNc.fn (f0 _ _ (by omega))))
    · obtain ⟨t0, k1, g0, d0, b0, f0⟩ := ih (k + 1) (by omega) (by omega)
      obtain ⟨t1, k2, g1, d1, b1, f1⟩ := ih k1 (by omega) (by omega)
      refine ⟨.g t0 t1, k2, by simp only [T.gr, g0, g1]; rfl, by simp only [T.depth]; omega, by simp only [tc]; omega, fun n τ hn => ?_⟩
      refine H.f_law_tree.upd ok_law_tree (by omega) ?_ (by simp) feed_closed
      refine EL.cons (ES.assign (.inl rfl) (EV.ifT (TV.cmp1 (EV.name rfl) EV.int OP.gt_int) (decide_eq_true gt) (EV.call rfl H.n_law_draw H.k_law_draw (EVs.cons (EV.name rfl) (EVs.cons EV.int EVs.nil)) (FNc.fn (hf _ _ (by omega)))))) ?_
      refine EL.cons (ES.ifF0 (TV.cmp1 (EV.name rfl) EV.int (by exact OP.lt_int)) (by decide)) ?_
      refine EL.ret (ES.return (EV.bin (EV.tuple (EVs.cons (EV.sub (EV.list (EVs.cons EV.str (EVs.cons EV.str EVs.nil)) rfl) (EV.bin (EV.name rfl) EV.int OP.sub_int) (OP.item_lst (by decide) rfl (by decide))) EVs.nil) rfl) (EV.tuple_ H rfl (EVs.cons ?comp EVs.nil)) (OP.add_tup (xs := [.str "g"]) (ys := [t0.d, t1.d]) (Nat.le_of_ble_eq_true rfl))))
      case comp =>
        refine EV.compS (caps := [("feed", .ref 0), ("deep", .dat (.int ((d + 1 : Nat) : Int)))]) ?S (ITR.range (N := 2) rfl H.b_range (EV.bin (EV.name rfl) EV.int OP.sub_int) (Nat.le_of_ble_eq_true rfl)) (by trivial) (fun i => (if i = 0 then feedS cells (k + 1) else if i = 1 then feedS cells k1 else feedS cells k2) :: τ) [t0.d, t1.d] rfl rfl (Nat.le_of_ble_eq_true rfl) (fun i => rfl) (fun i h => ?hcl) ?step
        case S => exact Scoped.of ["feed", "deep"] (by decide +kernel) rfl (by intro q hq; simp at hq; rcases hq with rfl | rfl <;> rfl)
        case hcl => split <;> (try split) <;> exact feed_closed h
        case step =>
          intro i e y he hy
          rcases i with _ | _ | i <;> simp at hy
          · subst hy
            refine ⟨_, AL.name rfl, Sub.of_all (by intro q hq; simp at hq; rcases hq with rfl | rfl <;> rfl), fun zs => ?_⟩
            exact (EV.call rfl H.n_law_tree H.k_law_tree (EVs.cons (EV.name rfl) (EVs.cons (EV.cast (EV.bin (EV.name rfl) EV.int OP.sub_int) (show V.dat (.int (((d + 1 : Nat) : Int) - 1)) = V.dat (.int (d : Int)) by rw [e1])) EVs.nil)) (FNc.fn (f0 _ _ (by omega))))
          · subst hy
            refine ⟨_, AL.name rfl, Sub.of_all (by intro q hq; simp at hq; rcases hq with rfl | rfl <;> rfl), fun zs => ?_⟩
            exact (EV.call rfl H.n_law_tree H.k_law_tree (EVs.cons (EV.name rfl) (EVs.cons (EV.cast (EV.bin (EV.name rfl) EV.int OP.sub_int) (show V.dat (.int (((d + 1 : Nat) : Int) - 1)) = V.dat (.int (d : Int)) by rw [e1])) EVs.nil)) (FNc.fn (f1 _ _ (by omega))))
end
end Mine
end PartP19
noncomputable section PartP20
open PySem PySem.W PyProof.Rows
set_option linter.all false
set_option maxRecDepth 20000
namespace Mine
theorem T.size_lt : ∀ t : T, t.size < 2 ^ (t.depth + 1)
  | .a | .b | .x | .y => by decide
  | .f t => by
    have := T.size_lt t
    simp only [T.size, T.depth, Nat.pow_succ] at *; omega
  | .g t u => by
    have h1 := T.size_lt t
    have h2 := T.size_lt u
    have h3 : 2 ^ (t.depth + 1) ≤ 2 ^ (max t.depth u.depth + 1) := Nat.pow_le_pow_right (by omega) (by omega)
    have h4 : 2 ^ (u.depth + 1) ≤ 2 ^ (max t.depth u.depth + 1) := Nat.pow_le_pow_right (by omega) (by omega)
    simp only [T.size, T.depth]
    rw [Nat.pow_succ]; omega
theorem T.size_of {t : T} (h : t.depth ≤ 15) : t.size ≤ 65536 := by
  have h1 := T.size_lt t
  have h2 : 2 ^ (t.depth + 1) ≤ 2 ^ 16 := Nat.pow_le_pow_right (by omega) (by omega)
  have h3 : 2 ^ 16 = 65536 := by decide
  omega
namespace P
theorem good_app {K X : List (T × T)} {D : Nat} : ∀ p : P, p.good K D → p.good (K ++ X) D ∧ p.lr (K ++ X) = p.lr K
  | same t, h => ⟨h, rfl⟩
  | told k, h => by
    have hk : k < K.length := h.1.2
    have e : (told k).lr (K ++ X) = (told k).lr K := by
      show (K ++ X).getD k _ = K.getD k _
      rw [List.getD_eq_getElem?_getD, List.getD_eq_getElem?_getD, List.getElem?_append_left hk]
    refine ⟨⟨⟨?_, ?_⟩, trivial⟩, e⟩
    · rw [e]; exact h.1.1
    · show k < (K ++ X).length
      rw [List.length_append]; omega
  | dup t, h => ⟨h, rfl⟩
  | swap t u, h => ⟨h, rfl⟩
  | turn p, h => by
    obtain ⟨a, b⟩ := good_app (X := X) p h.2
    have e : (turn p).lr (K ++ X) = (turn p).lr K := by simp only [lr, b]
    exact ⟨⟨⟨by rw [e]; exact h.1.1, trivial⟩, a⟩, e⟩
  | under1 p, h => by
    obtain ⟨a, b⟩ := good_app (X := X) p h.2
    have e : (under1 p).lr (K ++ X) = (under1 p).lr K := by simp only [lr, b]
    exact ⟨⟨⟨by rw [e]; exact h.1.1, trivial⟩, a⟩, e⟩
  | join p q, h => by
    obtain ⟨a, b⟩ := good_app (X := X) p h.2.1
    obtain ⟨a', b'⟩ := good_app (X := X) q h.2.2
    have e : (join p q).lr (K ++ X) = (join p q).lr K := by simp only [lr, b, b']
    exact ⟨⟨⟨by rw [e]; exact h.1.1, by show (p.lr (K ++ X)).2 = (q.lr (K ++ X)).1; rw [b, b']; exact h.1.2⟩, a, a'⟩, e⟩
  | under2 p q, h => by
    obtain ⟨a, b⟩ := good_app (X := X) p h.2.1
    obtain ⟨a', b'⟩ := good_app (X := X) q h.2.2
    have e : (under2 p q).lr (K ++ X) = (under2 p q).lr K := by simp only [lr, b, b']
    exact ⟨⟨⟨by rw [e]; exact h.1.1, trivial⟩, a, a'⟩, e⟩
end P
theorem knL_snoc (K : List (T × T)) (q : T × T) : knL (K ++ [q]) = knL K ++ [(lab K.length, .dat (pairD q))] := by
  simp [knL, List.zipIdx_append]
theorem knL_len (K : List (T × T)) : (knL K).length = K.length := by simp [knL]
theorem sput_new {kvs : List (Str × V)} {k : Str} {v : V} (h : kvs.lookup k = none) : sput kvs k v = kvs ++ [(k, v)] := by
  have : kvs.any (fun kv => decide (kv.1 = k)) = false := by
    rw [Bool.eq_false_iff]
    intro hm
    rw [List.any_eq_true] at hm
    obtain ⟨kv, h1, h2⟩ := hm
    have e := of_decide_eq_true h2
    rw [List.lookup_eq_none_iff] at h
    have := h kv h1
    rw [e] at this
    simp at this
  simp only [sput, this]; rfl
def knS (K : List (T × T)) : Slot := .sdict (knL K)
theorem knS_refs (K : List (T × T)) : (knS K).refs = [] := by
  show ((knL K).flatMap fun p => vrefs p.2) = []
  rw [knL, List.flatMap_map]
  rw [List.flatMap_eq_nil_iff]
  intro q _; rfl
theorem lab_ok0 : ∀ k : Fin 40, (Str.ofString (toString ((k.val : Nat) : Int))).length ≠ 0 ∧ (("t" : Str) ++ Str.ofString (toString ((k.val : Nat) : Int))).length ≤ 1000 := by decide +kernel
def resD (p : P) (t : T) (rows : List Row) : PyData := .list [p.d, t.d, rowsD rows]
section
variable {g : G} {n : Nat} {σ σ' τ : List Slot} {v : V}
theorem kn_closed {cells : List Int} {k k' : Nat} {K K' : List (T × T)} {τ : List Slot} (h : Closed (feedS cells k :: knS K :: τ)) : Closed (feedS cells k' :: knS K' :: τ) := closed_two (feedS_refs _ _) (knS_refs _) h
def toldP (k : Nat) (b : Bool) : P := if b then .turn (.told k) else .told k
def toldQ (t u : T) (b : Bool) : T × T := if b then (u, t) else (t, u)
theorem c_law_told (H : Has g) {cells : List Int} (hc : cells.length ≤ 60) {k : Nat} {K : List (T × T)} (t : T) (b : Bool) (hk : k + 3 ≤ 1000) (hK : K.length < 40) :
    ∃ (u : T) (k' : Nat), u.gr = true ∧ u.depth ≤ 1 ∧ k' ≤ k + 3 ∧ ∀ (n : Nat) (τ : List Slot), 7 ≤ n →
      FNc g n (.ref H.a_law_told) [.ref 0, .ref 1, .dat t.d, .dat (.bool b)] (feedS cells k :: knS K :: τ) (.dat (resD (toldP K.length b) u [⟨[], .told K.length, b⟩])) (feedS cells k' :: knS (K ++ [toldQ t u b]) :: τ) := by
  obtain ⟨u, k', h1, h2, h3, hf⟩ := c_law_tree H hc 1 k (by simp only [tc]; omega) (by omega)
  refine ⟨u, k', h1, h2, by simp only [tc] at h3; omega, fun n τ hn => ?_⟩
  refine H.f_law_told.upd ok_law_told (by omega) ?_ (by simp) kn_closed
  have hlab := lab_ok0 ⟨K.length, hK⟩
  refine EL.cons (ES.swap2 (v₁ := .dat (.str (lab K.length))) (v₂ := .dat u.d) (σ₁ := feedS cells k' :: knS K :: τ) rfl rfl ?evs (fun env h => by cases env; cases h; rfl)) ?_
  case evs =>
    refine EVs.cons (EV.bin EV.str (EV.str_ H rfl (EVs.cons (EV.cast (EV.len H rfl (EVs.cons (EV.name rfl) EVs.nil) (CA.len_sdict (kvs := knL K) rfl ?hz)) (show _ = V.dat (.int ((K.length : Nat) : Int)) by rw [knL_len])) EVs.nil) (CA.str_int ?hi)) (OP.add_str (by decide +kernel) hlab.1 (Nat.le_trans hlab.2 (Nat.le_trans (by omega) sl)))) (EVs.cons (EV.call rfl H.n_law_tree H.k_law_tree (EVs.cons (EV.name rfl) (EVs.cons EV.int EVs.nil)) (FNc.fn (hf _ _ (by omega)))) EVs.nil)
    case hz => rw [knL_len]; have := sl; omega
    case hi => have : (2 : Nat) ^ 60 = 1152921504606846976 := by decide
               omega
  have hnone := knL_none (K := K) (Nat.le_refl _) hK
  have hst : ∀ q : T × T, ((feedS cells k' :: knS K :: τ).set 1 (.sdict (sput (knL K) (lab K.length) (.dat (pairD q))))) = feedS cells k' :: knS (K ++ [q]) :: τ := by
    intro q; rw [sput_new hnone, ← knL_snoc]; rfl
  have hz : (knL K).length ≤ sizeLine := by rw [knL_len]; have := sl; omega
  cases b with
  | true =>
    refine EL.cons (ES.castN (ES.store (v := .dat (pairD (u, t))) (EV.ifT (TV.val (EV.name rfl)) rfl (EV.tuple (EVs.cons (EV.name rfl) (EVs.cons (EV.name rfl) EVs.nil)) rfl)) (EV.name rfl) (EV.name rfl) (ST.str (kvs := knL K) rfl hz)) (hst _)) ?_
    refine EL.cons (ES.assign (.inl rfl) (EV.ifT (TV.val (EV.name rfl)) rfl (EV.tuple (EVs.cons EV.str (EVs.cons (EV.tuple (EVs.cons EV.str (EVs.cons (EV.name rfl) EVs.nil)) rfl) EVs.nil)) rfl))) ?_
    exact EL.ret (ES.return (EV.list (EVs.cons (EV.name rfl) (EVs.cons (EV.name rfl) (EVs.cons (EV.list (EVs.cons (EV.tuple (EVs.cons (EV.tuple EVs.nil rfl) (EVs.cons EV.str (EVs.cons (EV.name rfl) (EVs.cons (EV.tuple EVs.nil rfl) (EVs.cons (EV.name rfl) EVs.nil))))) rfl) EVs.nil) rfl) EVs.nil))) rfl))
  | false =>
    refine EL.cons (ES.castN (ES.store (v := .dat (pairD (t, u))) (EV.ifF (TV.val (EV.name rfl)) rfl (EV.tuple (EVs.cons (EV.name rfl) (EVs.cons (EV.name rfl) EVs.nil)) rfl)) (EV.name rfl) (EV.name rfl) (ST.str (kvs := knL K) rfl hz)) (hst _)) ?_
    refine EL.cons (ES.assign (.inl rfl) (EV.ifF (TV.val (EV.name rfl)) rfl (EV.tuple (EVs.cons EV.str (EVs.cons (EV.name rfl) EVs.nil)) rfl))) ?_
    exact EL.ret (ES.return (EV.list (EVs.cons (EV.name rfl) (EVs.cons (EV.name rfl) (EVs.cons (EV.list (EVs.cons (EV.tuple (EVs.cons (EV.tuple EVs.nil rfl) (EVs.cons EV.str (EVs.cons (EV.name rfl) (EVs.cons (EV.tuple EVs.nil rfl) (EVs.cons (EV.name rfl) EVs.nil))))) rfl) EVs.nil) rfl) EVs.nil))) rfl))
end
end Mine
end PartP20
noncomputable section PartP21
open PySem PySem.W PyProof.Rows
set_option linter.all false
set_option maxRecDepth 20000
namespace Mine
/-- no swap is taken backwards -/
def Row.fwd (r : Row) : Bool := match r.kind with
  | .swap _ _ => !r.back
  | _ => true
structure Out (K : List (T × T)) (t : T) (e c : Nat) (p : P) (u : T) (X : List (T × T)) : Prop where
  lr : p.lr (K ++ X) = (t, u)
  good : p.good (K ++ X) 15
  ok : p.ok 65536
  gr : u.gr = true
  dep : u.depth ≤ max t.depth 1 + e
  cnt : p.cnt ≤ c
  nb : ∀ r ∈ p.steps, r.fwd = true
theorem toldP_steps (k : Nat) (b : Bool) : (toldP k b).steps = [⟨[], .told k, b⟩] := by cases b <;> rfl
theorem toldP_cnt (k : Nat) (b : Bool) : (toldP k b).cnt ≤ 2 := by cases b <;> simp [toldP, P.cnt]
theorem out_told {K : List (T × T)} {t u : T} (b : Bool) {e c : Nat} (ht : t.depth ≤ 15) (hg : u.gr = true) (hu : u.depth ≤ 1) (hc : 2 ≤ c) : Out K t e c (toldP K.length b) u [toldQ t u b] := by
  have e1 : (K ++ [toldQ t u b]).getD K.length (.a, .a) = toldQ t u b := by simp [List.getD_eq_getElem?_getD]
  have e2 : (P.told K.length).lr (K ++ [toldQ t u b]) = toldQ t u b := e1
  have l1 : K.length < (K ++ [toldQ t u b]).length := by simp
  have g1 : (P.told K.length).good (K ++ [toldQ t u b]) 15 := by
    refine ⟨⟨?_, l1⟩, trivial⟩
    rw [e2]; cases b <;> exact ⟨by simp only [toldQ]; first | exact ht | exact Nat.le_trans hu (by omega), by simp only [toldQ]; first | exact ht | exact Nat.le_trans hu (by omega)⟩
  cases b with
  | false => exact ⟨e2, g1, trivial, hg, by omega, Nat.le_trans (toldP_cnt _ _) hc, by intro r hr; rw [toldP_steps] at hr; simp at hr; subst hr; rfl⟩
  | true =>
    have e3 : (P.turn (.told K.length)).lr (K ++ [toldQ t u true]) = (t, u) := by simp only [P.lr] at e2 ⊢; rw [e2]; rfl
    refine ⟨e3, ⟨⟨?_, trivial⟩, g1⟩, trivial, hg, by omega, Nat.le_trans (toldP_cnt _ _) hc, by intro r hr; rw [toldP_steps] at hr; simp at hr; subst hr; rfl⟩
    have e4 : (toldP K.length true).lr (K ++ [toldQ t u true]) = (t, u) := e3
    rw [e4]; exact ⟨ht, by have := hu; show u.depth ≤ 15; omega⟩
section
variable {g : G} {n : Nat} {σ σ' τ : List Slot} {v : V}
set_option maxHeartbeats 2000000 in
theorem c_law_ruled (H : Has g) {cells : List Int} (hc : cells.length ≤ 60) {k : Nat} {K : List (T × T)} (t : T) (hg : t.gr = true) (ht : t.depth ≤ 15) (hk : k + 3 ≤ 1000) (hK : K.length < 40) :
    ∃ (p : P) (u : T) (k' : Nat) (X : List (T × T)), Out K t 0 2 p u X ∧ X.length ≤ 1 ∧ k' ≤ k + 3 ∧ ∀ (n : Nat) (τ : List Slot), 9 ≤ n →
      FNc g n (.ref H.a_law_ruled) [.ref 0, .ref 1, .dat t.d] (feedS cells k :: knS K :: τ) (.dat (resD p u p.steps)) (feedS cells k' :: knS (K ++ X) :: τ) := by
  by_cases hv : ∃ s r, t = .f s ∨ t = .g s r
  · obtain ⟨s, r, rfl | rfl⟩ := hv
    · have hd : (T.f s).depth ≤ 15 := ht
      refine ⟨.dup s, .g s s, k, [], ⟨rfl, ⟨⟨⟨ht, by simp only [P.lr, T.depth] at *; omega⟩, trivial⟩, trivial⟩, ⟨hg, T.size_of (by simp only [T.depth] at ht; omega)⟩, by simp only [T.gr] at *; rw [hg]; rfl, by simp only [T.depth]; omega, by simp only [P.cnt]; omega, by intro q hq; simp [P.steps] at hq; subst hq; rfl⟩, by simp, by omega, fun n τ hn => ?_⟩
      rw [List.append_nil]
      refine H.f_law_ruled.upd ok_law_ruled (by omega) ?_ (by simp) kn_closed
      exact EL.ret (ES.ifT (TV.cmp1 (EV.len H rfl (EVs.cons (EV.name rfl) EVs.nil) (by first | exact CA.len_tup | exact CA.len_cont rfl | exact CA.len_cont cont_e0 | exact CA.len_cont cont_e1 | exact CA.len_cont (by assumption))) EV.int (by first | exact OP.eq_int | exact OP.eq_str)) rfl (EL.cons (ES.assign (.inl rfl) (EV.tuple (EVs.cons (EV.tuple (EVs.cons EV.str (EVs.cons (EV.sub (EV.name rfl) EV.int (by first | exact OP.item1 | exact OP.litem1)) EVs.nil)) rfl) EVs.nil) rfl)) (EL.ret (ES.return (EV.list (EVs.cons (EV.tuple (EVs.cons EV.str (EVs.cons EV.str (EVs.cons (EV.name rfl) EVs.nil))) rfl) (EVs.cons (EV.tuple (EVs.cons EV.str (EVs.cons (EV.sub (EV.name rfl) EV.int (by first | exact OP.item1 | exact OP.litem1)) (EVs.cons (EV.sub (EV.name rfl) EV.int (by first | exact OP.item1 | exact OP.litem1)) EVs.nil))) rfl) (EVs.cons (EV.list (EVs.cons (EV.tuple (EVs.cons (EV.tuple EVs.nil rfl) (EVs.cons EV.str (EVs.cons EV.str (EVs.cons (EV.name rfl) (EVs.cons EV.bool EVs.nil))))) rfl) EVs.nil) rfl) EVs.nil))) rfl)))))
    · simp only [T.gr, Bool.and_eq_true] at hg
      have hd := ht
      simp only [T.depth] at hd
      by_cases hsr : s = r
      · subst hsr
        refine ⟨.turn (.dup s), .f s, k, [], ⟨rfl, ⟨⟨⟨ht, by simp only [P.lr, T.depth] at *; omega⟩, trivial⟩, ⟨⟨by simp only [P.lr, T.depth] at *; omega, by simp only [P.lr, T.depth] at *; omega⟩, trivial⟩, trivial⟩, ⟨hg.1, T.size_of (by omega)⟩, hg.1, by simp only [T.depth]; omega, by simp only [P.cnt]; omega, by intro q hq; simp [P.steps] at hq; subst hq; rfl⟩, by simp, by omega, fun n τ hn => ?_⟩
        rw [List.append_nil]
        refine H.f_law_ruled.upd ok_law_ruled (by omega) ?_ (by simp) kn_closed
        refine EL.cons (ES.ifF0 (TV.cmp1 (EV.len H rfl (EVs.cons (EV.name rfl) EVs.nil) (by first | exact CA.len_tup | exact CA.len_cont rfl | exact CA.len_cont cont_e0 | exact CA.len_cont cont_e1 | exact CA.len_cont (by assumption))) EV.int (by first | exact OP.eq_int | exact OP.eq_str)) rfl) ?_
        exact EL.ret (ES.ifT (TV.boolop (AT.andT (TV.cmp1 (EV.len H rfl (EVs.cons (EV.name rfl) EVs.nil) (by first | exact CA.len_tup | exact CA.len_cont rfl | exact CA.len_cont cont_e0 | exact CA.len_cont cont_e1 | exact CA.len_cont (by assumption))) EV.int (by first | exact OP.eq_int | exact OP.eq_str)) rfl (AT.andT (TV.cmp1 (EV.sub (EV.name rfl) EV.int (by first | exact OP.item1 | exact OP.litem1)) (EV.sub (EV.name rfl) EV.int (by first | exact OP.item2 | exact OP.litem2)) (OP.eq rfl rfl (T.fine (by omega)) (T.fine (by omega)))) (by rw [T.eqv_d]; simp) AT.andNil))) rfl (EL.cons (ES.assign (.inl rfl) (EV.tuple (EVs.cons (EV.tuple (EVs.cons EV.str (EVs.cons (EV.sub (EV.name rfl) EV.int (by first | exact OP.item1 | exact OP.litem1)) EVs.nil)) rfl) EVs.nil) rfl)) (EL.ret (ES.return (EV.list (EVs.cons (EV.tuple (EVs.cons EV.str (EVs.cons (EV.tuple (EVs.cons EV.str (EVs.cons EV.str (EVs.cons (EV.name rfl) EVs.nil))) rfl) EVs.nil)) rfl) (EVs.cons (EV.tuple (EVs.cons EV.str (EVs.cons (EV.sub (EV.name rfl) EV.int (by first | exact OP.item1 | exact OP.litem1)) EVs.nil)) rfl) (EVs.cons (EV.list (EVs.cons (EV.tuple (EVs.cons (EV.tuple EVs.nil rfl) (EVs.cons EV.str (EVs.cons EV.str (EVs.cons (EV.name rfl) (EVs.cons EV.bool EVs.nil))))) rfl) EVs.nil) rfl) EVs.nil))) rfl)))))
      · refine ⟨.swap s r, .g r s, k, [], ⟨rfl, ⟨⟨⟨ht, by simp only [P.lr, T.depth] at *; omega⟩, trivial⟩, trivial⟩, ⟨⟨hg.1, T.size_of (by omega)⟩, hg.2, T.size_of (by omega)⟩, by simp only [T.gr, hg.1, hg.2]; rfl, by simp only [T.depth]; omega, by simp only [P.cnt]; omega, by intro q hq; simp [P.steps] at hq; subst hq; rfl⟩, by simp, by omega, fun n τ hn => ?_⟩
        rw [List.append_nil]
        refine H.f_law_ruled.upd ok_law_ruled (by omega) ?_ (by simp) kn_closed
        refine EL.cons (ES.ifF0 (TV.cmp1 (EV.len H rfl (EVs.cons (EV.name rfl) EVs.nil) (by first | exact CA.len_tup | exact CA.len_cont rfl | exact CA.len_cont cont_e0 | exact CA.len_cont cont_e1 | exact CA.len_cont (by assumption))) EV.int (by first | exact OP.eq_int | exact OP.eq_str)) rfl) ?_
        refine EL.cons (ES.ifF0 (TV.boolop (AT.andT (TV.cmp1 (EV.len H rfl (EVs.cons (EV.name rfl) EVs.nil) (by first | exact CA.len_tup | exact CA.len_cont rfl | exact CA.len_cont cont_e0 | exact CA.len_cont cont_e1 | exact CA.len_cont (by assumption))) EV.int (by first | exact OP.eq_int | exact OP.eq_str)) rfl (AT.andF (TV.cmp1 (EV.sub (EV.name rfl) EV.int (by first | exact OP.item1 | exact OP.litem1)) (EV.sub (EV.name rfl) EV.int (by first | exact OP.item2 | exact OP.litem2)) (OP.eq rfl rfl (T.fine (by omega)) (T.fine (by omega)))) (by rw [T.eqv_d]; simp [hsr])))) rfl) ?_
        exact EL.ret (ES.ifT (TV.cmp1 (EV.len H rfl (EVs.cons (EV.name rfl) EVs.nil) (by first | exact CA.len_tup | exact CA.len_cont rfl | exact CA.len_cont cont_e0 | exact CA.len_cont cont_e1 | exact CA.len_cont (by assumption))) EV.int (by first | exact OP.eq_int | exact OP.eq_str)) rfl (EL.cons (ES.assign (.inl rfl) (EV.tuple (EVs.cons (EV.tuple (EVs.cons EV.str (EVs.cons (EV.sub (EV.name rfl) EV.int (by first | exact OP.item1 | exact OP.litem1)) EVs.nil)) rfl) (EVs.cons (EV.tuple (EVs.cons EV.str (EVs.cons (EV.sub (EV.name rfl) EV.int (by first | exact OP.item2 | exact OP.litem2)) EVs.nil)) rfl) EVs.nil)) rfl)) (EL.ret (ES.return (EV.list (EVs.cons (EV.tuple (EVs.cons EV.str (EVs.cons EV.str (EVs.cons (EV.name rfl) EVs.nil))) rfl) (EVs.cons (EV.tuple (EVs.cons EV.str (EVs.cons (EV.sub (EV.name rfl) EV.int (by first | exact OP.item2 | exact OP.litem2)) (EVs.cons (EV.sub (EV.name rfl) EV.int (by first | exact OP.item1 | exact OP.litem1)) EVs.nil))) rfl) (EVs.cons (EV.list (EVs.cons (EV.tuple (EVs.cons (EV.tuple EVs.nil rfl) (EVs.cons EV.str (EVs.cons EV.str (EVs.cons (EV.name rfl) (EVs.cons EV.bool EVs.nil))))) rfl) EVs.nil) rfl) EVs.nil))) rfl)))))
  · obtain ⟨u, k', h1, h2, h3, hf⟩ := c_law_told H hc (K := K) t false hk hK
    refine ⟨toldP K.length false, u, k', [toldQ t u false], out_told false ht h1 h2 (Nat.le_refl _), by simp, h3, fun n τ hn => ?_⟩
    rw [toldP_steps]
    refine H.f_law_ruled.upd ok_law_ruled (by omega) ?_ (by simp) kn_closed
    have hlen : t.ds.length = 1 := by
      cases t <;> first | rfl | exact absurd ⟨_, .a, .inl rfl⟩ hv | exact absurd ⟨_, _, .inr rfl⟩ hv
    have e2 : ((t.ds.length : Nat) : Int) = 1 := by omega
    have ht' : ∀ {n : Nat} {τ : List Slot}, _ := fun {n τ} => hf n τ
    rw [T.d_eq t] at ht' ⊢
    refine EL.cons (ES.ifF0 (TV.cmp1 (EV.len H rfl (EVs.cons (EV.name rfl) EVs.nil) (by first | exact CA.len_tup | exact CA.len_cont rfl | exact CA.len_cont cont_e0 | exact CA.len_cont cont_e1 | exact CA.len_cont (by assumption))) EV.int (by first | exact OP.eq_int | exact OP.eq_str)) (by rw [e2]; decide)) ?_
    refine EL.cons (ES.ifF0 (TV.boolop (AT.andF (TV.cmp1 (EV.len H rfl (EVs.cons (EV.name rfl) EVs.nil) (by first | exact CA.len_tup | exact CA.len_cont rfl | exact CA.len_cont cont_e0 | exact CA.len_cont cont_e1 | exact CA.len_cont (by assumption))) EV.int (by first | exact OP.eq_int | exact OP.eq_str)) (by rw [e2]; decide))) rfl) ?_
    refine EL.cons (ES.ifF0 (TV.cmp1 (EV.len H rfl (EVs.cons (EV.name rfl) EVs.nil) (by first | exact CA.len_tup | exact CA.len_cont rfl | exact CA.len_cont cont_e0 | exact CA.len_cont cont_e1 | exact CA.len_cont (by assumption))) EV.int (by first | exact OP.eq_int | exact OP.eq_str)) (by rw [e2]; decide)) ?_
    exact EL.ret (ES.return (EV.call rfl H.n_law_told H.k_law_told (EVs.cons (EV.name rfl) (EVs.cons (EV.name rfl) (EVs.cons (EV.name rfl) (EVs.cons EV.bool EVs.nil)))) (FNc.fn (ht' (by omega)))))
end
end Mine
end PartP21
noncomputable section PartP22
open PySem PySem.W PyProof.Rows
set_option linter.all false
set_option maxRecDepth 20000
namespace Mine
section
variable {g : G} {n : Nat} {sc scope : Scope} {ρ ρ' caps : List (Str × V)} {σ σ' σ₁ σ₂ : List Slot} {pos p : Pos} {v : V} {elt target iter c x : Expr} {ds : List PyData} {out : Nat → PyData → PyData} {tg : Expr → Prop} {st : Stmt}
theorem ES.assign_compS {y : Str} {py spos : Pos} (hy : sc.names.lookup y = some .local) (hline : (py.line == pos.line) = true) (hno : (scope.names.any fun (n, k) => n == y && (k == .local || k == .cell)) = false)
    (S : Scoped sc scope ρ caps) (hi : ITR g n sc iter ρ σ ds out tg σ₁) (ht : tg target) (st : Nat → List Slot) (ys : List PyData) (h0 : st 0 = σ₁) (hl : ys.length = ds.length) (hz : ys.length ≤ 1000000)
    (hlen : ∀ i, (st i).length = σ₁.length) (hc : ∀ i, Closed σ₁ → Closed (st i))
    (step : ∀ i d y, ds[i]? = some d → ys[i]? = some y → ∃ ρ₁, AL g (relab scope sc) target (out i d) caps ρ₁ ∧ Sub caps ρ₁ ∧ ∀ zs, EV g n (relab scope sc) elt ρ₁ (st i ++ [.list zs]) (.dat y) (st (i + 1) ++ [.list zs]))
    (hs : ∀ x env, foldedSetIterable iter env x = pure x := by intro _ _; rfl) :
    ES g n sc (.Assign [.Name y py] (.ListComp elt [⟨target, iter, [], 0⟩] scope pos) spos) ρ σ (.next ((y, .dat (.list ys)) :: ρ) (st ds.length)) := by
  have h := ES.assign_comp (tail := ifsT g [] (emitT g elt)) (elt := elt) (pos := pos) (spos := spos) hy hline hno S hi ht st (fun i => ys.take i) h0 (by simp) (fun i _ => hlen i) (hc _) (fun A it D cenv s Q E' h => turn1 h) (fun i d hd => by
    have hi : i < ys.length := by rw [hl]; exact (List.getElem?_eq_some_iff.mp hd).1
    obtain ⟨ρ₁, h1, h2, h3⟩ := step i d ys[i] hd (List.getElem?_eq_getElem hi)
    refine ⟨ρ₁, h1, h2, TN.ifs_nil ?_⟩
    show TN g n (relab scope sc) (emitT g elt) ρ₁ (st i) (ys.take i) (st (i + 1)) (ys.take (i + 1))
    rw [List.take_succ_eq_append_getElem hi]
    refine TN.emit (h3 _) (by rw [hlen, hlen]) ?_
    have := sizeLine_eq
    rw [List.length_take]; omega) hs
  have e : ys.take ds.length = ys := by rw [← hl]; simp
  simp only [e] at h
  exact h
end
def eB : Nat → Nat
  | 0 => 0
  | d + 1 => 2 * eB d + 1
def cB : Nat → Nat
  | 0 => 2
  | d + 1 => 2 * cB d + 2
def yB : Nat → Nat
  | 0 => 4
  | d + 1 => 2 * yB d + 1
def xB : Nat → Nat
  | 0 => 1
  | d + 1 => 2 * xB d
theorem yB_pos : ∀ d, 4 ≤ yB d
  | 0 => by decide
  | d + 1 => by have := yB_pos d; simp only [yB]; omega
theorem xB_pos : ∀ d, 1 ≤ xB d
  | 0 => by decide
  | d + 1 => by have := xB_pos d; simp only [xB]; omega
theorem cB_pos : ∀ d, 2 ≤ cB d
  | 0 => by decide
  | d + 1 => by have := cB_pos d; simp only [cB]; omega
theorem Out.mono {K X : List (T × T)} {t u : T} {e c e' c' : Nat} {p : P} (h : Out K t e c p u X) (he : e ≤ e') (hc : c ≤ c') : Out K t e' c' p u X := ⟨h.lr, h.good, h.ok, h.gr, by have := h.dep; omega, Nat.le_trans h.cnt hc, h.nb⟩
theorem out_same {K : List (T × T)} {t : T} {e c : Nat} (hg : t.gr = true) (ht : t.depth ≤ 15) (hc : 2 ≤ c) : Out K t e c (.same t) t [] :=
  ⟨rfl, ⟨⟨⟨ht, ht⟩, trivial⟩, trivial⟩, ⟨hg, T.size_of ht⟩, hg, by omega, by simp only [P.cnt]; omega, by intro r hr; simp [P.steps] at hr⟩
theorem out_join {K X1 X2 : List (T × T)} {t u1 u2 : T} {e c : Nat} {p q : P} (h1 : Out K t e c p u1 X1) (h2 : Out (K ++ X1) u1 e c q u2 X2) (ht : max t.depth 1 + (2 * e + 1) ≤ 15) : Out K t (2 * e + 1) (2 * c + 2) (.join p q) u2 (X1 ++ X2) := by
  obtain ⟨a, b⟩ := P.good_app (X := X2) p h1.good
  have e1 : p.lr (K ++ X1 ++ X2) = (t, u1) := by rw [b, h1.lr]
  have e2 := h2.lr
  have d1 := h1.dep
  have d2 := h2.dep
  have e3 : (P.join p q).lr (K ++ (X1 ++ X2)) = (t, u2) := by
    rw [← List.append_assoc]; simp only [P.lr, e1, e2]
  refine ⟨e3, ?_, ⟨h1.ok, h2.ok⟩, h2.gr, by omega, by have := h1.cnt; have := h2.cnt; simp only [P.cnt]; omega, by intro r hr; simp only [P.steps, List.mem_append] at hr; rcases hr with hr | hr; exact h1.nb r hr; exact h2.nb r hr⟩
  refine ⟨⟨by rw [e3]; exact ⟨by show t.depth ≤ 15; omega, by show u2.depth ≤ 15; omega⟩, ?_⟩, ?_, ?_⟩
  · show (p.lr (K ++ (X1 ++ X2))).2 = (q.lr (K ++ (X1 ++ X2))).1
    rw [← List.append_assoc, e1, e2]
  · rw [← List.append_assoc]; exact a
  · rw [← List.append_assoc]; exact h2.good
theorem turned_turned (r : Row) : r.turned.turned = r := by cases r; simp [Row.turned]
theorem steps_turn2 (p : P) : (P.turn (.turn p)).steps = p.steps := by
  simp only [P.steps, ← List.map_reverse, List.reverse_reverse, List.map_map]
  have : Row.turned ∘ Row.turned = id := by funext r; exact turned_turned r
  rw [this, List.map_id]
theorem out_turn2 {K X : List (T × T)} {t u : T} {e c e' c' : Nat} {p : P} (h : Out K t e c p u X) (he : e ≤ e') (hc : c + 2 ≤ c') (ht : max t.depth 1 + e' ≤ 15) : Out K t e' c' (.turn (.turn p)) u X := by
  have d := h.dep
  have e1 : (P.turn p).lr (K ++ X) = (u, t) := by simp only [P.lr, h.lr]
  have e2 : (P.turn (.turn p)).lr (K ++ X) = (t, u) := by simp only [P.lr, h.lr]
  refine ⟨e2, ⟨⟨by rw [e2]; exact ⟨by show t.depth ≤ 15; omega, by show u.depth ≤ 15; omega⟩, trivial⟩, ⟨by rw [e1]; exact ⟨by show u.depth ≤ 15; omega, by show t.depth ≤ 15; omega⟩, trivial⟩, h.good⟩, h.ok, h.gr, by omega, by have := h.cnt; simp only [P.cnt]; omega, by rw [steps_turn2]; exact h.nb⟩
theorem out_under1 {K X : List (T × T)} {t u : T} {e c : Nat} {p : P} (h : Out K t e c p u X) (ht : max (T.f t).depth 1 + (2 * e + 1) ≤ 15) : Out K (.f t) (2 * e + 1) (2 * c + 2) (.under1 p) (.f u) X := by
  have d := h.dep
  simp only [T.depth] at ht
  have e1 : (P.under1 p).lr (K ++ X) = (.f t, .f u) := by simp only [P.lr, h.lr]
  refine ⟨e1, ⟨⟨by rw [e1]; exact ⟨by simp only [T.depth]; omega, by simp only [T.depth]; omega⟩, trivial⟩, h.good⟩, h.ok, h.gr, by simp only [T.depth]; omega, by have := h.cnt; simp only [P.cnt]; omega, by intro r hr; simp only [P.steps, List.mem_map] at hr; obtain ⟨q, hq, rfl⟩ := hr; exact h.nb q hq⟩
theorem out_under2 {K X1 X2 : List (T × T)} {t1 u1 t2 u2 : T} {e c : Nat} {p q : P} (h1 : Out K t1 e c p u1 X1) (h2 : Out (K ++ X1) t2 e c q u2 X2) (ht : max (T.g t1 t2).depth 1 + (2 * e + 1) ≤ 15) : Out K (.g t1 t2) (2 * e + 1) (2 * c + 2) (.under2 p q) (.g u1 u2) (X1 ++ X2) := by
  obtain ⟨a, b⟩ := P.good_app (X := X2) p h1.good
  have e1 : p.lr (K ++ X1 ++ X2) = (t1, u1) := by rw [b, h1.lr]
  have e2 := h2.lr
  have d1 := h1.dep
  have d2 := h2.dep
  simp only [T.depth] at ht
  have e3 : (P.under2 p q).lr (K ++ (X1 ++ X2)) = (.g t1 t2, .g u1 u2) := by
    rw [← List.append_assoc]; simp only [P.lr, e1, e2]
  refine ⟨e3, ?_, ⟨h1.ok, h2.ok⟩, by simp only [T.gr, h1.gr, h2.gr]; rfl, by simp only [T.depth]; omega, by have := h1.cnt; have := h2.cnt; simp only [P.cnt]; omega, by intro r hr; simp only [P.steps, List.mem_append, List.mem_map] at hr; rcases hr with ⟨q, hq, rfl⟩ | ⟨q, hq, rfl⟩; exact h1.nb q hq; exact h2.nb q hq⟩
  refine ⟨⟨by rw [e3]; exact ⟨by simp only [T.depth]; omega, by simp only [T.depth]; omega⟩, trivial⟩, ?_, ?_⟩
  · rw [← List.append_assoc]; exact a
  · rw [← List.append_assoc]; exact h2.good
theorem zip_at' {α : Type} {l : List α} {i : Nat} {c : α} (h : l[i]? = some c) : l.zipIdx[i]? = some (c, i) := by simp [h]
section
variable {g : G} {n : Nat} {σ σ' τ : List Slot} {v : V}
def paEnv (r : Nat) (t : T) (d : Nat) : List (Str × V) := [("way", .dat (.int r)), ("feed", .ref 0), ("known", .ref 1), ("tree", .dat t.d), ("deep", .dat (.int d))]
def paRest : List Stmt := (bodyOf (stm 31)).tail
theorem fine_45 : Fine (.tuple [.int 4, .int 5]) := ⟨by decide +kernel, Nat.le_of_ble_eq_true rfl⟩
theorem fine_i (k : Nat) : Fine (.int k) := ⟨by simp [PyData.canLay0], Nat.le_of_ble_eq_true rfl⟩
theorem pa_same (H : Has g) {t : T} {d : Nat} : EL g n (scopeOf (stm 31)) paRest (paEnv 0 t d) σ (.ret (.dat (resD (.same t) t [])) σ) :=
  EL.ret (ES.ifT (TV.cmp1 (EV.name rfl) EV.int (by first | exact OP.eq_int | exact OP.eq_str)) (by decide) (EL.ret (ES.return (EV.list (EVs.cons (EV.tuple (EVs.cons EV.str (EVs.cons (EV.name rfl) EVs.nil)) rfl) (EVs.cons (EV.name rfl) (EVs.cons (EV.list EVs.nil rfl) EVs.nil))) rfl))))
theorem pa_told (H : Has g) {t u : T} {d r : Nat} (hr : r = 1 ∨ r = 2 ∨ ((r = 4 ∨ r = 5) ∧ t.ds.length = 1)) {R : PyData} (hf : FNc g n (.ref H.a_law_told) [.ref 0, .ref 1, .dat t.d, .dat (.bool (decide (r = 2)))] σ (.dat R) σ') :
    EL g n (scopeOf (stm 31)) paRest (paEnv r t d) σ (.ret (.dat R) σ') := by
  rcases hr with rfl | rfl | ⟨rfl | rfl, hl⟩
  · refine EL.cons (ES.ifF0 (TV.cmp1 (EV.name rfl) EV.int (by first | exact OP.eq_int | exact OP.eq_str)) (by decide)) (EL.cons (ES.ifF0 (TV.cmp1 (EV.name rfl) EV.int (by first | exact OP.eq_int | exact OP.eq_str)) (by decide)) (EL.cons (ES.ifF0 (TV.boolop (AT.andF (TV.cmp1 (EV.name rfl) (EV.tuple (EVs.cons EV.int (EVs.cons EV.int EVs.nil)) rfl) (OP.in_tup fine_45 (fine_i _))) (by decide +kernel))) rfl) (EL.cons (ES.ifF0 (TV.cmp1 (EV.name rfl) EV.int (by first | exact OP.eq_int | exact OP.eq_str)) (by decide)) (EL.cons (ES.ifF0 (TV.cmp1 (EV.name rfl) EV.int (by first | exact OP.eq_int | exact OP.eq_str)) (by decide)) (EL.ret (ES.return (EV.call rfl H.n_law_told H.k_law_told (EVs.cons (EV.name rfl) (EVs.cons (EV.name rfl) (EVs.cons (EV.name rfl) (EVs.cons (EV.cmp1 (EV.name rfl) EV.int (OP.castb OP.eq_int (by decide))) EVs.nil)))) (FNc.fn (hf)))))))))
  · refine EL.cons (ES.ifF0 (TV.cmp1 (EV.name rfl) EV.int (by first | exact OP.eq_int | exact OP.eq_str)) (by decide)) (EL.cons (ES.ifF0 (TV.cmp1 (EV.name rfl) EV.int (by first | exact OP.eq_int | exact OP.eq_str)) (by decide)) (EL.cons (ES.ifF0 (TV.boolop (AT.andF (TV.cmp1 (EV.name rfl) (EV.tuple (EVs.cons EV.int (EVs.cons EV.int EVs.nil)) rfl) (OP.in_tup fine_45 (fine_i _))) (by decide +kernel))) rfl) (EL.cons (ES.ifF0 (TV.cmp1 (EV.name rfl) EV.int (by first | exact OP.eq_int | exact OP.eq_str)) (by decide)) (EL.cons (ES.ifF0 (TV.cmp1 (EV.name rfl) EV.int (by first | exact OP.eq_int | exact OP.eq_str)) (by decide)) (EL.ret (ES.return (EV.call rfl H.n_law_told H.k_law_told (EVs.cons (EV.name rfl) (EVs.cons (EV.name rfl) (EVs.cons (EV.name rfl) (EVs.cons (EV.cmp1 (EV.name rfl) EV.int (OP.castb OP.eq_int (by decide))) EVs.nil)))) (FNc.fn (hf)))))))))
  all_goals
    have e2 : ((t.ds.length : Nat) : Int) = 1 := by omega
    rw [T.d_eq t] at hf
    simp only [paEnv]
    rw [T.d_eq t]
    exact EL.cons (ES.ifF0 (TV.cmp1 (EV.name rfl) EV.int (by first | exact OP.eq_int | exact OP.eq_str)) (by decide)) (EL.cons (ES.ifF0 (TV.cmp1 (EV.name rfl) EV.int (by first | exact OP.eq_int | exact OP.eq_str)) (by decide)) (EL.cons (ES.ifF0 (TV.boolop (AT.andT (TV.cmp1 (EV.name rfl) (EV.tuple (EVs.cons EV.int (EVs.cons EV.int EVs.nil)) rfl) (OP.in_tup fine_45 (fine_i _))) (by decide +kernel) (AT.andF (TV.cmp1 (EV.len H rfl (EVs.cons (EV.name rfl) EVs.nil) (by first | exact CA.len_tup | exact CA.len_cont rfl | exact CA.len_cont cont_e0 | exact CA.len_cont cont_e1 | exact CA.len_cont (by assumption))) EV.int (by exact OP.gt_int)) (by rw [e2]; decide)))) rfl) (EL.cons (ES.ifF0 (TV.cmp1 (EV.name rfl) EV.int (by first | exact OP.eq_int | exact OP.eq_str)) (by decide)) (EL.cons (ES.ifF0 (TV.cmp1 (EV.name rfl) EV.int (by first | exact OP.eq_int | exact OP.eq_str)) (by decide)) (EL.ret (ES.return (EV.call rfl H.n_law_told H.k_law_told (EVs.cons (EV.name rfl) (EVs.cons (EV.name rfl) (EVs.cons (EV.name rfl) (EVs.cons (EV.cmp1 (EV.name rfl) EV.int (OP.castb OP.eq_int (by decide))) EVs.nil)))) (FNc.fn (hf)))))))))
theorem pa_ruled (H : Has g) {t u : T} {d : Nat} {R : PyData} (hf : FNc g n (.ref H.a_law_ruled) [.ref 0, .ref 1, .dat t.d] σ (.dat R) σ') :
    EL g n (scopeOf (stm 31)) paRest (paEnv 3 t d) σ (.ret (.dat R) σ') :=
  EL.cons (ES.ifF0 (TV.cmp1 (EV.name rfl) EV.int (by first | exact OP.eq_int | exact OP.eq_str)) (by decide)) (EL.ret (ES.ifT (TV.cmp1 (EV.name rfl) EV.int (by first | exact OP.eq_int | exact OP.eq_str)) (by decide) (EL.ret (ES.return (EV.call rfl H.n_law_ruled H.k_law_ruled (EVs.cons (EV.name rfl) (EVs.cons (EV.name rfl) (EVs.cons (EV.name rfl) EVs.nil))) (FNc.fn (hf)))))))
theorem pa_join (H : Has g) {t u1 u2 : T} {d : Nat} {p q : P} {σ₁ : List Slot} (hf1 : FNc g n (.ref H.a_law_paper) [.ref 0, .ref 1, .dat t.d, .dat (.int d)] σ (.dat (resD p u1 p.steps)) σ₁)
    (hf2 : FNc g n (.ref H.a_law_paper) [.ref 0, .ref 1, .dat u1.d, .dat (.int d)] σ₁ (.dat (resD q u2 q.steps)) σ') (h1 : p.cnt ≤ 1000) (h2 : q.cnt ≤ 1000) :
    EL g n (scopeOf (stm 31)) paRest (paEnv 6 t (d + 1)) σ (.ret (.dat (resD (.join p q) u2 (P.join p q).steps)) σ') := by
  have e1 : ((d + 1 : Nat) : Int) - 1 = (d : Int) := by omega
  refine EL.cons (ES.ifF0 (TV.cmp1 (EV.name rfl) EV.int (by first | exact OP.eq_int | exact OP.eq_str)) (by decide)) (EL.cons (ES.ifF0 (TV.cmp1 (EV.name rfl) EV.int (by first | exact OP.eq_int | exact OP.eq_str)) (by decide)) (EL.cons (ES.ifF0 (TV.boolop (AT.andF (TV.cmp1 (EV.name rfl) (EV.tuple (EVs.cons EV.int (EVs.cons EV.int EVs.nil)) rfl) (OP.in_tup fine_45 (fine_i _))) (by decide +kernel))) rfl) (EL.ret (ES.ifT (TV.cmp1 (EV.name rfl) EV.int (by first | exact OP.eq_int | exact OP.eq_str)) (by decide) ?_))))
  refine EL.cons (ES.assign (.inl rfl) (EV.call rfl H.n_law_paper H.k_law_paper (EVs.cons (EV.name rfl) (EVs.cons (EV.name rfl) (EVs.cons (EV.name rfl) (EVs.cons (EV.cast (EV.bin (EV.name rfl) EV.int OP.sub_int) (show V.dat (.int (((d + 1 : Nat) : Int) - 1)) = V.dat (.int (d : Int)) by rw [e1])) EVs.nil)))) (FNc.fn (hf1)))) ?_
  refine EL.cons (ES.assign (.inl rfl) (EV.call rfl H.n_law_paper H.k_law_paper (EVs.cons (EV.name rfl) (EVs.cons (EV.name rfl) (EVs.cons (EV.sub (EV.name rfl) EV.int (by first | exact OP.item1 | exact OP.litem1)) (EVs.cons (EV.cast (EV.bin (EV.name rfl) EV.int OP.sub_int) (show V.dat (.int (((d + 1 : Nat) : Int) - 1)) = V.dat (.int (d : Int)) by rw [e1])) EVs.nil)))) (FNc.fn (hf2)))) ?_
  have l1 := P.steps_len p
  have l2 := P.steps_len q
  exact EL.ret (ES.return (EV.cast (EV.list (EVs.cons (EV.tuple (EVs.cons EV.str (EVs.cons (EV.sub (EV.name rfl) EV.int (by first | exact OP.item0 | exact OP.litem0)) (EVs.cons (EV.sub (EV.name rfl) EV.int (by first | exact OP.item0 | exact OP.litem0)) EVs.nil))) rfl) (EVs.cons (EV.sub (EV.name rfl) EV.int (by first | exact OP.item1 | exact OP.litem1)) (EVs.cons (EV.bin (EV.sub (EV.name rfl) EV.int (by first | exact OP.item2 | exact OP.litem2)) (EV.sub (EV.name rfl) EV.int (by first | exact OP.item2 | exact OP.litem2)) (OP.add_lst (Nat.le_trans (by simp; omega) sl))) EVs.nil))) rfl) (by simp [resD, rowsD, P.steps, P.d])))
theorem pa_turn (H : Has g) {t u : T} {d : Nat} {p : P} (hf : FNc g n (.ref H.a_law_paper) [.ref 0, .ref 1, .dat t.d, .dat (.int d)] σ (.dat (resD p u p.steps)) σ') :
    EL g n (scopeOf (stm 31)) paRest (paEnv 7 t (d + 1)) σ (.ret (.dat (resD (.turn (.turn p)) u (P.turn (.turn p)).steps)) σ') := by
  have e1 : ((d + 1 : Nat) : Int) - 1 = (d : Int) := by omega
  rw [steps_turn2]
  refine EL.cons (ES.ifF0 (TV.cmp1 (EV.name rfl) EV.int (by first | exact OP.eq_int | exact OP.eq_str)) (by decide)) (EL.cons (ES.ifF0 (TV.cmp1 (EV.name rfl) EV.int (by first | exact OP.eq_int | exact OP.eq_str)) (by decide)) (EL.cons (ES.ifF0 (TV.boolop (AT.andF (TV.cmp1 (EV.name rfl) (EV.tuple (EVs.cons EV.int (EVs.cons EV.int EVs.nil)) rfl) (OP.in_tup fine_45 (fine_i _))) (by decide +kernel))) rfl) (EL.cons (ES.ifF0 (TV.cmp1 (EV.name rfl) EV.int (by first | exact OP.eq_int | exact OP.eq_str)) (by decide)) (EL.ret (ES.ifT (TV.cmp1 (EV.name rfl) EV.int (by first | exact OP.eq_int | exact OP.eq_str)) (by decide) ?_)))))
  refine EL.cons (ES.assign (.inl rfl) (EV.call rfl H.n_law_paper H.k_law_paper (EVs.cons (EV.name rfl) (EVs.cons (EV.name rfl) (EVs.cons (EV.name rfl) (EVs.cons (EV.cast (EV.bin (EV.name rfl) EV.int OP.sub_int) (show V.dat (.int (((d + 1 : Nat) : Int) - 1)) = V.dat (.int (d : Int)) by rw [e1])) EVs.nil)))) (FNc.fn (hf)))) ?_
  exact EL.ret (ES.return (EV.list (EVs.cons (EV.tuple (EVs.cons EV.str (EVs.cons (EV.tuple (EVs.cons EV.str (EVs.cons (EV.sub (EV.name rfl) EV.int (by first | exact OP.item0 | exact OP.litem0)) EVs.nil)) rfl) EVs.nil)) rfl) (EVs.cons (EV.sub (EV.name rfl) EV.int (by first | exact OP.item1 | exact OP.litem1)) (EVs.cons (EV.sub (EV.name rfl) EV.int (by first | exact OP.item2 | exact OP.litem2)) EVs.nil))) rfl))
set_option maxHeartbeats 2000000 in
theorem pa_under1 (H : Has g) {d r : Nat} (hr : r = 4 ∨ r = 5) {t u : T} {p : P} (hl : σ'.length = σ.length) (hcl : Closed σ → Closed σ') (hf : ∀ zs, FNc g n (.ref H.a_law_paper) [.ref 0, .ref 1, .dat t.d, .dat (.int d)] (σ ++ [.list zs]) (.dat (resD p u p.steps)) (σ' ++ [.list zs])) (hp1 : p.cnt ≤ 1000) :
    EL g n (scopeOf (stm 31)) paRest (paEnv r (.f t) (d + 1)) σ (.ret (.dat (resD (.under1 p) (.f u) (P.steps (.under1 p)))) σ') := by
  have e1 : ((d + 1 : Nat) : Int) - 1 = (d : Int) := by omega
  have hin : (([PyData.int 4, .int 5]).any fun y => PyData.eqv y (.int (r : Int))) = true := by rcases hr with rfl | rfl <;> decide +kernel
  have h0 : ((r : Int) == 0) = false := by rcases hr with rfl | rfl <;> decide
  have h3 : ((r : Int) == 3) = false := by rcases hr with rfl | rfl <;> decide
  have l1 := P.steps_len p
  refine EL.cons (ES.ifF0 (TV.cmp1 (EV.name rfl) EV.int (by first | exact OP.eq_int | exact OP.eq_str)) h0) (EL.cons (ES.ifF0 (TV.cmp1 (EV.name rfl) EV.int (by first | exact OP.eq_int | exact OP.eq_str)) h3) (EL.ret (ES.ifT (TV.boolop (AT.andT (TV.cmp1 (EV.name rfl) (EV.tuple (EVs.cons EV.int (EVs.cons EV.int EVs.nil)) rfl) (OP.in_tup fine_45 (fine_i _))) hin (AT.andT (TV.cmp1 (EV.len H rfl (EVs.cons (EV.name rfl) EVs.nil) (by first | exact CA.len_tup | exact CA.len_cont rfl | exact CA.len_cont cont_e0 | exact CA.len_cont cont_e1 | exact CA.len_cont (by assumption))) EV.int (by exact OP.gt_int)) (by rfl) AT.andNil))) rfl ?_)))
  refine EL.cons (ES.castN (ES.assign_compS (caps := [("feed", .ref 0), ("known", .ref 1), ("deep", .dat (.int ((d + 1 : Nat) : Int)))]) rfl rfl (by decide +kernel) ?S (ITR.tup (EV.tdrop1 (EV.name rfl))) (by trivial) (fun i => if i = 0 then σ else σ') (List.map (fun q : P × T => resD q.1 q.2 (P.steps q.1)) [(p, u)]) rfl ?hl5 (Nat.le_of_ble_eq_true rfl) ?hlen ?hcl ?step) (σ₂ := σ') rfl) ?_
  case hl5 => rfl
  case S => exact Scoped.of ["feed", "known", "deep"] (by decide +kernel) rfl (by intro q hq; simp at hq; rcases hq with rfl | rfl | rfl <;> rfl)
  case hlen => intro i; split; rfl; exact hl
  case hcl => intro i h; split; exact h; exact hcl h
  case step =>
    intro i e y he hy
    rcases i with _ | i <;> simp at he hy
    subst he hy
    exact ⟨_, AL.name rfl, Sub.of_all (by intro q hq; simp at hq; rcases hq with rfl | rfl | rfl <;> rfl), fun zs => (EV.call rfl H.n_law_paper H.k_law_paper (EVs.cons (EV.name rfl) (EVs.cons (EV.name rfl) (EVs.cons (EV.name rfl) (EVs.cons (EV.cast (EV.bin (EV.name rfl) EV.int OP.sub_int) (show V.dat (.int (((d + 1 : Nat) : Int) - 1)) = V.dat (.int (d : Int)) by rw [e1])) EVs.nil)))) (FNc.fn (hf zs)))⟩
  refine EL.cons (ES.assign_comp2 (caps := []) rfl rfl (by decide +kernel) ?S2 (ITR.enumL rfl H.b_enumerate (EV.name rfl)) (by trivial) (List.map (fun c : (P × T) × Nat => (c.1.1.steps.map (Row.deep c.2)).map Row.d) ([(p, u)]).zipIdx) ?hl6 ?hz2 ?step2) ?_
  case hl6 => rfl
  case S2 => exact Scoped.of [] (by decide +kernel) rfl (by intro q hq; cases hq)
  case hz2 => simp; omega
  case step2 =>
    intro i e ys he hy
    obtain ⟨c, hc1, rfl⟩ := map_get (f := fun q : P × T => resD q.1 q.2 (P.steps q.1)) (l := [(p, u)]) he
    obtain ⟨c', hc2, rfl⟩ := map_get hy
    obtain rfl : (c, i) = c' := by rw [zip_at' hc1] at hc2; exact Option.some.inj hc2
    refine ⟨_, AL.tup2 rfl rfl, Sub.of_all (by intro q hq; cases hq), _, _, fun _ => True, fun zs => ITR.lst (EV.sub (EV.name rfl) EV.int (by first | exact OP.item2 | exact OP.litem2)), True.intro, by simp, fun j d2 y hd2 hy2 => ?_⟩
    obtain ⟨rw', hrw, rfl⟩ := map_get hd2
    obtain rfl : (rw'.deep i).d = y := by simpa [hrw] using hy2
    have hcp : c.1.cnt ≤ 1000 := by
      have hm := List.mem_of_getElem? hc1
      simp only [List.mem_cons, List.not_mem_nil, or_false] at hm
      subst hm; exact hp1
    have hrp := P.steps_path c.1 rw' (List.mem_of_getElem? hrw)
    exact ⟨_, AL.name rfl, Sub.of_all (by intro q hq; simp at hq; rcases hq with rfl | rfl <;> rfl), fun zs => (EV.bin (EV.tuple (EVs.cons (EV.bin (EV.tuple (EVs.cons (EV.name rfl) EVs.nil) rfl) (EV.sub (EV.name rfl) EV.int (by first | exact OP.item0 | exact OP.litem0)) (OP.add_tup (Nat.le_trans (by simp [pathD_len]; omega) sl))) EVs.nil) rfl) (EV.tdrop1 (EV.name rfl)) (OP.add_tup (by exact Nat.le_of_ble_eq_true rfl)))⟩
  refine EL.ret (ES.return (EV.cast (EV.list (EVs.cons (EV.tuple (EVs.cons EV.str (EVs.cons (EV.sub (EV.name rfl) EV.int (by first | exact OP.item0 | exact OP.litem0)) (EVs.cons (EV.tuple_ H rfl (EVs.cons (EV.comp1 (caps := []) ?S3 (ITR.lst (EV.name rfl)) (by trivial) (List.map (fun q : P × T => P.d q.1) [(p, u)]) ?hl7 (Nat.le_of_ble_eq_true rfl) ?step3) EVs.nil)) EVs.nil))) rfl)
    (EVs.cons (EV.bin (EV.tuple (EVs.cons (EV.sub (EV.name rfl) EV.int (by first | exact OP.item0 | exact OP.litem0)) EVs.nil) rfl) (EV.tuple_ H rfl (EVs.cons (EV.comp1 (caps := []) ?S4 (ITR.lst (EV.name rfl)) (by trivial) (List.map (fun q : P × T => T.d q.2) [(p, u)]) ?hl8 (Nat.le_of_ble_eq_true rfl) ?step4) EVs.nil)) (OP.add_tup (Nat.le_of_ble_eq_true rfl))) (EVs.cons (EV.name rfl) EVs.nil))) rfl) ?_))
  case hl7 => rfl
  case hl8 => rfl
  case S3 => exact Scoped.of [] (by decide +kernel) rfl (by intro q hq; cases hq)
  case S4 => exact Scoped.of [] (by decide +kernel) rfl (by intro q hq; cases hq)
  case step3 =>
    intro i e y he hy
    obtain ⟨c, hc1, rfl⟩ := map_get (f := fun q : P × T => resD q.1 q.2 (P.steps q.1)) (l := [(p, u)]) he
    obtain ⟨c', hc2, rfl⟩ := map_get hy
    obtain rfl : c = c' := by rw [hc1] at hc2; exact Option.some.inj hc2
    exact ⟨_, AL.name rfl, Sub.of_all (by intro q hq; cases hq), fun zs => (EV.sub (EV.name rfl) EV.int (by first | exact OP.item0 | exact OP.litem0))⟩
  case step4 =>
    intro i e y he hy
    obtain ⟨c, hc1, rfl⟩ := map_get (f := fun q : P × T => resD q.1 q.2 (P.steps q.1)) (l := [(p, u)]) he
    obtain ⟨c', hc2, rfl⟩ := map_get hy
    obtain rfl : c = c' := by rw [hc1] at hc2; exact Option.some.inj hc2
    exact ⟨_, AL.name rfl, Sub.of_all (by intro q hq; cases hq), fun zs => (EV.sub (EV.name rfl) EV.int (by first | exact OP.item1 | exact OP.litem1))⟩
  simp [resD, rowsD, P.steps, P.d, T.d]
set_option maxHeartbeats 2000000 in
theorem pa_under2 (H : Has g) {d r : Nat} (hr : r = 4 ∨ r = 5) {t1 t2 u1 u2 : T} {p q : P} {σ₁ : List Slot} (hl1 : σ₁.length = σ.length) (hl : σ'.length = σ.length) (hcl1 : Closed σ → Closed σ₁) (hcl : Closed σ → Closed σ') (hf1 : ∀ zs, FNc g n (.ref H.a_law_paper) [.ref 0, .ref 1, .dat t1.d, .dat (.int d)] (σ ++ [.list zs]) (.dat (resD p u1 p.steps)) (σ₁ ++ [.list zs])) (hf2 : ∀ zs, FNc g n (.ref H.a_law_paper) [.ref 0, .ref 1, .dat t2.d, .dat (.int d)] (σ₁ ++ [.list zs]) (.dat (resD q u2 q.steps)) (σ' ++ [.list zs])) (hp1 : p.cnt ≤ 1000) (hp2 : q.cnt ≤ 1000) :
    EL g n (scopeOf (stm 31)) paRest (paEnv r (.g t1 t2) (d + 1)) σ (.ret (.dat (resD (.under2 p q) (.g u1 u2) (P.steps (.under2 p q)))) σ') := by
  have e1 : ((d + 1 : Nat) : Int) - 1 = (d : Int) := by omega
  have hin : (([PyData.int 4, .int 5]).any fun y => PyData.eqv y (.int (r : Int))) = true := by rcases hr with rfl | rfl <;> decide +kernel
  have h0 : ((r : Int) == 0) = false := by rcases hr with rfl | rfl <;> decide
  have h3 : ((r : Int) == 3) = false := by rcases hr with rfl | rfl <;> decide
  have l1 := P.steps_len p
  have l2 := P.steps_len q
  refine EL.cons (ES.ifF0 (TV.cmp1 (EV.name rfl) EV.int (by first | exact OP.eq_int | exact OP.eq_str)) h0) (EL.cons (ES.ifF0 (TV.cmp1 (EV.name rfl) EV.int (by first | exact OP.eq_int | exact OP.eq_str)) h3) (EL.ret (ES.ifT (TV.boolop (AT.andT (TV.cmp1 (EV.name rfl) (EV.tuple (EVs.cons EV.int (EVs.cons EV.int EVs.nil)) rfl) (OP.in_tup fine_45 (fine_i _))) hin (AT.andT (TV.cmp1 (EV.len H rfl (EVs.cons (EV.name rfl) EVs.nil) (by first | exact CA.len_tup | exact CA.len_cont rfl | exact CA.len_cont cont_e0 | exact CA.len_cont cont_e1 | exact CA.len_cont (by assumption))) EV.int (by exact OP.gt_int)) (by rfl) AT.andNil))) rfl ?_)))
  refine EL.cons (ES.castN (ES.assign_compS (caps := [("feed", .ref 0), ("known", .ref 1), ("deep", .dat (.int ((d + 1 : Nat) : Int)))]) rfl rfl (by decide +kernel) ?S (ITR.tup (EV.tdrop1 (EV.name rfl))) (by trivial) (fun i => if i = 0 then σ else if i = 1 then σ₁ else σ') (List.map (fun q : P × T => resD q.1 q.2 (P.steps q.1)) [(p, u1), (q, u2)]) rfl ?hl5 (Nat.le_of_ble_eq_true rfl) ?hlen ?hcl ?step) (σ₂ := σ') rfl) ?_
  case hl5 => rfl
  case S => exact Scoped.of ["feed", "known", "deep"] (by decide +kernel) rfl (by intro q hq; simp at hq; rcases hq with rfl | rfl | rfl <;> rfl)
  case hlen => intro i; split; rfl; split; exact hl1; exact hl
  case hcl => intro i h; split; exact h; split; exact hcl1 h; exact hcl h
  case step =>
    intro i e y he hy
    rcases i with _ | _ | i <;> simp at he hy
    · subst he hy
      exact ⟨_, AL.name rfl, Sub.of_all (by intro q hq; simp at hq; rcases hq with rfl | rfl | rfl <;> rfl), fun zs => (EV.call rfl H.n_law_paper H.k_law_paper (EVs.cons (EV.name rfl) (EVs.cons (EV.name rfl) (EVs.cons (EV.name rfl) (EVs.cons (EV.cast (EV.bin (EV.name rfl) EV.int OP.sub_int) (show V.dat (.int (((d + 1 : Nat) : Int) - 1)) = V.dat (.int (d : Int)) by rw [e1])) EVs.nil)))) (FNc.fn (hf1 zs)))⟩
    · subst he hy
      exact ⟨_, AL.name rfl, Sub.of_all (by intro q hq; simp at hq; rcases hq with rfl | rfl | rfl <;> rfl), fun zs => (EV.call rfl H.n_law_paper H.k_law_paper (EVs.cons (EV.name rfl) (EVs.cons (EV.name rfl) (EVs.cons (EV.name rfl) (EVs.cons (EV.cast (EV.bin (EV.name rfl) EV.int OP.sub_int) (show V.dat (.int (((d + 1 : Nat) : Int) - 1)) = V.dat (.int (d : Int)) by rw [e1])) EVs.nil)))) (FNc.fn (hf2 zs)))⟩
  refine EL.cons (ES.assign_comp2 (caps := []) rfl rfl (by decide +kernel) ?S2 (ITR.enumL rfl H.b_enumerate (EV.name rfl)) (by trivial) (List.map (fun c : (P × T) × Nat => (c.1.1.steps.map (Row.deep c.2)).map Row.d) ([(p, u1), (q, u2)]).zipIdx) ?hl6 ?hz2 ?step2) ?_
  case hl6 => rfl
  case S2 => exact Scoped.of [] (by decide +kernel) rfl (by intro q hq; cases hq)
  case hz2 => simp; omega
  case step2 =>
    intro i e ys he hy
    obtain ⟨c, hc1, rfl⟩ := map_get (f := fun q : P × T => resD q.1 q.2 (P.steps q.1)) (l := [(p, u1), (q, u2)]) he
    obtain ⟨c', hc2, rfl⟩ := map_get hy
    obtain rfl : (c, i) = c' := by rw [zip_at' hc1] at hc2; exact Option.some.inj hc2
    refine ⟨_, AL.tup2 rfl rfl, Sub.of_all (by intro q hq; cases hq), _, _, fun _ => True, fun zs => ITR.lst (EV.sub (EV.name rfl) EV.int (by first | exact OP.item2 | exact OP.litem2)), True.intro, by simp, fun j d2 y hd2 hy2 => ?_⟩
    obtain ⟨rw', hrw, rfl⟩ := map_get hd2
    obtain rfl : (rw'.deep i).d = y := by simpa [hrw] using hy2
    have hcp : c.1.cnt ≤ 1000 := by
      have hm := List.mem_of_getElem? hc1
      simp only [List.mem_cons, List.not_mem_nil, or_false] at hm
      rcases hm with rfl | rfl; exact hp1; exact hp2
    have hrp := P.steps_path c.1 rw' (List.mem_of_getElem? hrw)
    exact ⟨_, AL.name rfl, Sub.of_all (by intro q hq; simp at hq; rcases hq with rfl | rfl <;> rfl), fun zs => (EV.bin (EV.tuple (EVs.cons (EV.bin (EV.tuple (EVs.cons (EV.name rfl) EVs.nil) rfl) (EV.sub (EV.name rfl) EV.int (by first | exact OP.item0 | exact OP.litem0)) (OP.add_tup (Nat.le_trans (by simp [pathD_len]; omega) sl))) EVs.nil) rfl) (EV.tdrop1 (EV.name rfl)) (OP.add_tup (by exact Nat.le_of_ble_eq_true rfl)))⟩
  refine EL.ret (ES.return (EV.cast (EV.list (EVs.cons (EV.tuple (EVs.cons EV.str (EVs.cons (EV.sub (EV.name rfl) EV.int (by first | exact OP.item0 | exact OP.litem0)) (EVs.cons (EV.tuple_ H rfl (EVs.cons (EV.comp1 (caps := []) ?S3 (ITR.lst (EV.name rfl)) (by trivial) (List.map (fun q : P × T => P.d q.1) [(p, u1), (q, u2)]) ?hl7 (Nat.le_of_ble_eq_true rfl) ?step3) EVs.nil)) EVs.nil))) rfl)
    (EVs.cons (EV.bin (EV.tuple (EVs.cons (EV.sub (EV.name rfl) EV.int (by first | exact OP.item0 | exact OP.litem0)) EVs.nil) rfl) (EV.tuple_ H rfl (EVs.cons (EV.comp1 (caps := []) ?S4 (ITR.lst (EV.name rfl)) (by trivial) (List.map (fun q : P × T => T.d q.2) [(p, u1), (q, u2)]) ?hl8 (Nat.le_of_ble_eq_true rfl) ?step4) EVs.nil)) (OP.add_tup (Nat.le_of_ble_eq_true rfl))) (EVs.cons (EV.name rfl) EVs.nil))) rfl) ?_))
  case hl7 => rfl
  case hl8 => rfl
  case S3 => exact Scoped.of [] (by decide +kernel) rfl (by intro q hq; cases hq)
  case S4 => exact Scoped.of [] (by decide +kernel) rfl (by intro q hq; cases hq)
  case step3 =>
    intro i e y he hy
    obtain ⟨c, hc1, rfl⟩ := map_get (f := fun q : P × T => resD q.1 q.2 (P.steps q.1)) (l := [(p, u1), (q, u2)]) he
    obtain ⟨c', hc2, rfl⟩ := map_get hy
    obtain rfl : c = c' := by rw [hc1] at hc2; exact Option.some.inj hc2
    exact ⟨_, AL.name rfl, Sub.of_all (by intro q hq; cases hq), fun zs => (EV.sub (EV.name rfl) EV.int (by first | exact OP.item0 | exact OP.litem0))⟩
  case step4 =>
    intro i e y he hy
    obtain ⟨c, hc1, rfl⟩ := map_get (f := fun q : P × T => resD q.1 q.2 (P.steps q.1)) (l := [(p, u1), (q, u2)]) he
    obtain ⟨c', hc2, rfl⟩ := map_get hy
    obtain rfl : c = c' := by rw [hc1] at hc2; exact Option.some.inj hc2
    exact ⟨_, AL.name rfl, Sub.of_all (by intro q hq; cases hq), fun zs => (EV.sub (EV.name rfl) EV.int (by first | exact OP.item1 | exact OP.litem1))⟩
  simp [resD, rowsD, P.steps, P.d, T.d]
end
end Mine
end PartP22
noncomputable section PartP23
open PySem PySem.W PyProof.Rows
set_option linter.all false
set_option maxRecDepth 20000
namespace Mine
section
variable {g : G} {n : Nat} {σ σ' τ : List Slot} {v : V}
theorem pa_go0 (H : Has g) {r : Nat} {t : T} {R : PyData} {σ₁ σ₂ : List Slot} (hn : 1 ≤ n) (hf : FNc g (n - 1) (.ref H.a_law_draw) [.ref 0, .dat (.int 3)] σ (.dat (.int r)) σ₁) (hr : EL g (n - 1) (scopeOf (stm 31)) paRest (paEnv r t 0) σ₁ (.ret (.dat R) σ₂)) (hl : σ.length ≤ σ₂.length) (hc : Closed σ → Closed σ₂) :
    FNc g n (.ref H.a_law_paper) [.ref 0, .ref 1, .dat t.d, .dat (.int (0 : Nat))] σ (.dat R) σ₂ := by
  refine H.f_law_paper.upd ok_law_paper hn ?_ hl hc
  exact EL.cons (ES.assign (.inl rfl) (EV.ifF (TV.cmp1 (EV.name rfl) EV.int OP.gt_int) rfl (EV.call rfl H.n_law_draw H.k_law_draw (EVs.cons (EV.name rfl) (EVs.cons EV.int EVs.nil)) (FNc.fn (hf))))) hr
theorem pa_go1 (H : Has g) {r d : Nat} {t : T} {R : PyData} {σ₁ σ₂ : List Slot} (hn : 1 ≤ n) (hf : FNc g (n - 1) (.ref H.a_law_draw) [.ref 0, .dat (.int 8)] σ (.dat (.int r)) σ₁) (hr : EL g (n - 1) (scopeOf (stm 31)) paRest (paEnv r t (d + 1)) σ₁ (.ret (.dat R) σ₂)) (hl : σ.length ≤ σ₂.length) (hc : Closed σ → Closed σ₂) :
    FNc g n (.ref H.a_law_paper) [.ref 0, .ref 1, .dat t.d, .dat (.int (d + 1 : Nat))] σ (.dat R) σ₂ := by
  refine H.f_law_paper.upd ok_law_paper hn ?_ hl hc
  have gt : ((d + 1 : Nat) : Int) > 0 := by omega
  exact EL.cons (ES.assign (.inl rfl) (EV.ifT (TV.cmp1 (EV.name rfl) EV.int OP.gt_int) (decide_eq_true gt) (EV.call rfl H.n_law_draw H.k_law_draw (EVs.cons (EV.name rfl) (EVs.cons EV.int EVs.nil)) (FNc.fn (hf))))) hr
def PaperOk (H : Has g) (cells : List Int) (d k : Nat) (K : List (T × T)) (t : T) : Prop :=
  ∃ (p : P) (u : T) (k' : Nat) (X : List (T × T)), Out K t (eB d) (cB d) p u X ∧ X.length ≤ xB d ∧ k' ≤ k + yB d ∧ ∀ (n : Nat) (τ : List Slot), d + 12 ≤ n →
    FNc g n (.ref H.a_law_paper) [.ref 0, .ref 1, .dat t.d, .dat (.int d)] (feedS cells k :: knS K :: τ) (.dat (resD p u p.steps)) (feedS cells k' :: knS (K ++ X) :: τ)
theorem leaf_ds {t : T} (h : ¬ ∃ s r, t = .f s ∨ t = .g s r) : t.ds.length = 1 := by
  cases t <;> first | rfl | exact absurd ⟨_, .a, .inl rfl⟩ h | exact absurd ⟨_, _, .inr rfl⟩ h
theorem c_law_paper (H : Has g) {cells : List Int} (hc : cells.length ≤ 60) : ∀ (d k : Nat) (K : List (T × T)) (t : T), t.gr = true → max t.depth 1 + eB d ≤ 15 → k + yB d ≤ 1000 → K.length + xB d ≤ 40 → cB d ≤ 1000 → PaperOk H cells d k K t := by
  intro d
  induction d with
  | zero =>
    intro k K t hg ht hk hK hcb
    simp only [eB, yB, xB] at ht hk hK
    obtain ⟨r, hr, hf⟩ := c_law_draw H hc (k := k) (w := 3) (by omega) (by omega)
    have hr' : r = 0 ∨ r = 1 ∨ r = 2 := by omega
    rcases hr' with rfl | hr'
    · refine ⟨.same t, t, k + 1, [], out_same hg (by omega) (cB_pos _), by simp, by simp only [yB]; omega, fun n τ hn => ?_⟩
      rw [List.append_nil]
      exact pa_go0 H (by omega) (hf _ _ (by omega)) (pa_same H) (by simp) kn_closed
    · obtain ⟨u, k', h1, h2, h3, hf2⟩ := c_law_told H hc (k := k + 1) (K := K) t (decide (r = 2)) (by omega) (by omega)
      refine ⟨toldP K.length (decide (r = 2)), u, k', [toldQ t u (decide (r = 2))], out_told _ (by omega) h1 h2 (cB_pos _), by simp [xB], by simp only [yB]; omega, fun n τ hn => ?_⟩
      rw [toldP_steps]
      exact pa_go0 H (by omega) (hf _ _ (by omega)) (pa_told (u := u) H (hr'.imp_right .inl) (hf2 _ _ (by omega))) (by simp) kn_closed
  | succ d ih =>
    intro k K t hg ht hk hK hcb
    have yp := yB_pos d
    have xp := xB_pos d
    have cp := cB_pos d
    simp only [eB, yB, xB, cB] at ht hk hK hcb
    have told : ∀ r : Nat, (r = 1 ∨ r = 2 ∨ ((r = 4 ∨ r = 5) ∧ t.ds.length = 1)) → (∀ (n : Nat) (τ : List Slot), 2 ≤ n → FNc g n (.ref H.a_law_draw) [.ref 0, .dat (.int 8)] (feedS cells k :: τ) (.dat (.int r)) (feedS cells (k + 1) :: τ)) → PaperOk H cells (d + 1) k K t := by
      intro r hr hf
      obtain ⟨u, k', h1, h2, h3, hf2⟩ := c_law_told H hc (k := k + 1) (K := K) t (decide (r = 2)) (by omega) (by omega)
      refine ⟨toldP K.length (decide (r = 2)), u, k', [toldQ t u (decide (r = 2))], out_told _ (by omega) h1 h2 (cB_pos _), by simp only [xB, List.length_singleton]; omega, by simp only [yB]; omega, fun n τ hn => ?_⟩
      rw [toldP_steps]
      exact pa_go1 H (by omega) (hf _ _ (by omega)) (pa_told (u := u) H hr (hf2 _ _ (by omega))) (by simp) kn_closed
    obtain ⟨r, hr, hf⟩ := c_law_draw H hc (k := k) (w := 8) (by omega) (by omega)
    have hr' : r = 0 ∨ r = 1 ∨ r = 2 ∨ r = 3 ∨ (r = 4 ∨ r = 5) ∨ r = 6 ∨ r = 7 := by omega
    rcases hr' with rfl | rfl | rfl | rfl | hr45 | rfl | rfl
    · refine ⟨.same t, t, k + 1, [], out_same hg (by omega) (cB_pos _), by simp, by simp only [yB]; omega, fun n τ hn => ?_⟩
      rw [List.append_nil]
      exact pa_go1 H (by omega) (hf _ _ (by omega)) (pa_same H) (by simp) kn_closed
    · exact told 1 (.inl rfl) hf
    · exact told 2 (.inr (.inl rfl)) hf
    · obtain ⟨p, u, k', X, o, hX, h3, hf2⟩ := c_law_ruled H hc (k := k + 1) (K := K) t hg (by omega) (by omega) (by omega)
      refine ⟨p, u, k', X, o.mono (Nat.zero_le _) (cB_pos _), by simp only [xB]; omega, by simp only [yB]; omega, fun n τ hn => ?_⟩
      exact pa_go1 H (by omega) (hf _ _ (by omega)) (pa_ruled (u := u) H (hf2 _ _ (by omega))) (by simp) kn_closed
    · by_cases hv : ∃ s r, t = .f s ∨ t = .g s r
      · obtain ⟨s, s2, rfl | rfl⟩ := hv
        · have ht1 := ht
          simp only [T.depth] at ht1
          obtain ⟨p, u, k', X, o, hX, h3, hf2⟩ := ih (k + 1) K s hg (by omega) (by omega) (by omega) (by omega)
          refine ⟨.under1 p, .f u, k', X, out_under1 o (by omega), by simp only [xB]; omega, by simp only [yB]; omega, fun n τ hn => ?_⟩
          exact pa_go1 H (by omega) (hf _ _ (by omega)) (pa_under1 H hr45 (by simp) kn_closed (fun zs => hf2 _ (τ ++ [.list zs]) (by omega)) (by have := o.cnt; omega)) (by simp) kn_closed
        · have ht1 := ht
          simp only [T.depth] at ht1
          simp only [T.gr, Bool.and_eq_true] at hg
          obtain ⟨p, u, k', X, o, hX, h3, hf2⟩ := ih (k + 1) K s hg.1 (by omega) (by omega) (by omega) (by omega)
          obtain ⟨q, u2, k2, X2, o2, hX2, h4, hf3⟩ := ih k' (K ++ X) s2 hg.2 (by omega) (by omega) (by rw [List.length_append]; omega) (by omega)
          refine ⟨.under2 p q, .g u u2, k2, X ++ X2, out_under2 o o2 (by omega), by simp only [xB, List.length_append]; omega, by simp only [yB]; omega, fun n τ hn => ?_⟩
          rw [← List.append_assoc]
          exact pa_go1 H (by omega) (hf _ _ (by omega)) (pa_under2 H hr45 (σ₁ := feedS cells k' :: knS (K ++ X) :: τ) (by simp) (by simp) kn_closed kn_closed (fun zs => hf2 _ (τ ++ [.list zs]) (by omega)) (fun zs => hf3 _ (τ ++ [.list zs]) (by omega)) (by have := o.cnt; omega) (by have := o2.cnt; omega)) (by simp) kn_closed
      · exact told r (.inr (.inr ⟨hr45, leaf_ds hv⟩)) hf
    · obtain ⟨p, u, k', X, o, hX, h3, hf2⟩ := ih (k + 1) K t hg (by omega) (by omega) (by omega) (by omega)
      have d1 := o.dep
      obtain ⟨q, u2, k2, X2, o2, hX2, h4, hf3⟩ := ih k' (K ++ X) u o.gr (by omega) (by omega) (by rw [List.length_append]; omega) (by omega)
      refine ⟨.join p q, u2, k2, X ++ X2, out_join o o2 (by omega), by simp only [xB, List.length_append]; omega, by simp only [yB]; omega, fun n τ hn => ?_⟩
      rw [← List.append_assoc]
      exact pa_go1 H (by omega) (hf _ _ (by omega)) (pa_join H (hf2 _ _ (by omega)) (hf3 _ _ (by omega)) (by have := o.cnt; omega) (by have := o2.cnt; omega)) (by simp) kn_closed
    · obtain ⟨p, u, k', X, o, hX, h3, hf2⟩ := ih (k + 1) K t hg (by omega) (by omega) (by omega) (by omega)
      refine ⟨.turn (.turn p), u, k', X, out_turn2 o (by simp only [eB]; omega) (by simp only [cB]; omega) (by simp only [eB]; omega), by simp only [xB]; omega, by simp only [yB]; omega, fun n τ hn => ?_⟩
      exact pa_go1 H (by omega) (hf _ _ (by omega)) (pa_turn H (hf2 _ _ (by omega))) (by simp) kn_closed
end
end Mine
end PartP23
noncomputable section PartP24
open PySem PySem.W PyProof.Rows
set_option linter.all false
set_option maxRecDepth 20000
namespace Mine
theorem T.ds_setKid {t s v : T} {k i : Nat} {d y : PyData} (h : t.kids[k]? = some s) (hd : t.ds[i]? = some d) (hy : (t.setKid k v).ds[i]? = some y) : (i = k + 1 → y = v.d ∧ d = s.d) ∧ (i ≠ k + 1 → y = d) := by
  cases t <;> simp [T.kids] at h
  · cases k <;> simp at h
    subst h
    rcases i with _ | _ | i <;> simp [T.ds, T.kids, T.setKid, T.nm] at hd hy <;> simp_all
  · rcases k with _ | _ | k <;> simp at h <;> subst h
    · rcases i with _ | _ | _ | i <;> simp [T.ds, T.kids, T.setKid, T.nm] at hd hy <;> simp_all
    · rcases i with _ | _ | _ | i <;> simp [T.ds, T.kids, T.setKid, T.nm] at hd hy <;> simp_all
theorem T.setKid_len {t v : T} {k : Nat} : (t.setKid k v).ds.length = t.ds.length := by
  cases t <;> first | rfl | (rcases k with _ | k <;> rfl) | (rcases k with _ | _ | k <;> rfl)
section
variable {g : G} {n : Nat} {σ' τ : List Slot} {v : V}
theorem c_put_at (H : Has g) {u : T} : ∀ {p : List Nat} {t s : T} {n : Nat} {σ : List Slot}, t.at? p = some s → t.depth ≤ 1000 → p.length + 2 ≤ n → FNc g n (.ref H.a_law_put_at) [.dat t.d, .dat (pathD p), .dat u.d] σ (.dat (t.put p u).d) σ
  | [], t, s, n, σ, h, hz, hn => by
    refine H.f_law_put_at.plain ok_law_put_at (by omega) ?_
    rw [T.put_nil]
    exact EL.ret (ES.ifT (TV.cmp1 (EV.name rfl) (EV.tuple EVs.nil rfl) (OP.eq rfl rfl (path_fine _) nil_fine)) (by rw [eqv_path]; rfl) (EL.ret (ES.return (EV.name rfl))))
  | k :: p, t, s, n, σ, h, hz, hn => by
    refine H.f_law_put_at.plain ok_law_put_at (by omega) ?_
    rw [T.at_cons] at h
    obtain ⟨r, h1, h2⟩ := Option.bind_eq_some_iff.mp h
    have h3 := T.kid_depth h1
    simp only [List.length_cons] at hn
    have IH := fun σ => c_put_at H (u := u) (σ := σ) h2 (by omega : r.depth ≤ 1000) (by omega : p.length + 2 ≤ n - 1)
    have hle := T.kids_le t
    have hlen := T.ds_len t
    rw [T.put_cons h1, T.d_eq (t.setKid k (r.put p u)), T.d_eq t]
    refine EL.cons (ES.ifF0 (TV.cmp1 (EV.name rfl) (EV.tuple EVs.nil rfl) (OP.eq rfl rfl (path_fine _) nil_fine)) (by rw [eqv_path]; rfl)) ?_
    refine EL.ret (ES.return (EV.tuple_ H rfl (EVs.cons (EV.comp1 (caps := [("path", .dat (pathD (k :: p))), ("other", .dat u.d)]) ?S (ITR.enumT rfl H.b_enumerate (EV.name rfl)) (by trivial) (t.setKid k (r.put p u)).ds ?hl ?hz ?step) EVs.nil)))
    case S => exact Scoped.of ["path", "other"] (by decide +kernel) rfl (by intro q hq; simp at hq; rcases hq with rfl | rfl <;> rfl)
    case hl => exact T.setKid_len
    case hz => rw [T.setKid_len]; omega
    case step =>
      intro i d y hd hy
      obtain ⟨k1, k2⟩ := T.ds_setKid h1 hd hy
      refine ⟨_, AL.tup2 rfl rfl, Sub.of_all (by intro q hq; simp at hq; rcases hq with rfl | rfl <;> rfl), fun zs => ?_⟩
      by_cases hi : i = k + 1
      · obtain ⟨rfl, rfl⟩ := k1 hi
        exact EV.ifT (TV.cmp1 (EV.name rfl) (EV.bin (EV.sub (EV.name rfl) EV.int (by first | exact OP.item0 | exact OP.litem0)) EV.int OP.add_int) OP.eq_int) (by simp; omega) (EV.call rfl H.n_law_put_at H.k_law_put_at (EVs.cons (EV.name rfl) (EVs.cons (EV.tdrop1 (EV.name rfl)) (EVs.cons (EV.name rfl) EVs.nil))) (FNc.fn (IH _)))
      · obtain rfl := k2 hi
        exact EV.ifF (TV.cmp1 (EV.name rfl) (EV.bin (EV.sub (EV.name rfl) EV.int (by first | exact OP.item0 | exact OP.litem0)) EV.int OP.add_int) OP.eq_int) (by simp; omega) (EV.name rfl)
theorem c_law_comes (H : Has g) {K : List (T × T)} {σ : List Slot} (hk : σ[1]? = some (knS K)) (hK : K.length ≤ 40) (r : Row) (hr : r.fit K) (hf : r.fwd = true) (hn : 2 ≤ n) : FNc g n (.ref H.a_law_comes) [.dat r.d, .ref 1] σ (.dat (r.lr K).2.d) σ := by
  obtain ⟨path, kind, back⟩ := r
  cases kind with
  | told k =>
    refine H.f_law_comes.plain ok_law_comes (by omega) ?_
    have hg := knL_get (getD_get hr) hK
    cases back with
    | true => exact EL.ret (ES.ifT (TV.cmp1 (EV.sub (EV.name rfl) EV.int (by first | exact OP.item1 | exact OP.litem1)) EV.str (by first | exact OP.eq_int | exact OP.eq_str)) (by show decide (("told" : Str) = "told") = true; decide +kernel) (EL.ret (ES.return (EV.sub (EV.sub (EV.name rfl) (EV.sub (EV.name rfl) EV.int (by first | exact OP.item2 | exact OP.litem2)) (OP.sget hk hg)) (EV.ifT (TV.val (EV.sub (EV.name rfl) EV.int (by exact OP.item4))) rfl EV.int) (OP.item0)))))
    | false => exact EL.ret (ES.ifT (TV.cmp1 (EV.sub (EV.name rfl) EV.int (by first | exact OP.item1 | exact OP.litem1)) EV.str (by first | exact OP.eq_int | exact OP.eq_str)) (by show decide (("told" : Str) = "told") = true; decide +kernel) (EL.ret (ES.return (EV.sub (EV.sub (EV.name rfl) (EV.sub (EV.name rfl) EV.int (by first | exact OP.item2 | exact OP.litem2)) (OP.sget hk hg)) (EV.ifF (TV.val (EV.sub (EV.name rfl) EV.int (by exact OP.item4))) rfl EV.int) (OP.item1)))))
  | dup t =>
    refine H.f_law_comes.pure ok_law_comes (by omega) [.sdict [("?x", .dat t.d)]] ?_
    refine EL.cons (ES.ifF0 (TV.cmp1 (EV.sub (EV.name rfl) EV.int (by first | exact OP.item1 | exact OP.litem1)) EV.str (by first | exact OP.eq_int | exact OP.eq_str)) (by show decide (("rule" : Str) = "told") = false; decide +kernel)) ?_
    refine EL.cons (ES.assign (.inl rfl) (EV.call_ty rfl H.b_dict bb_dict (EVs.cons (EV.sub (EV.name rfl) EV.int (by exact OP.item3)) EVs.nil) (CA.dict_tup (prs := [("?x", t.d)]) (by simp) (by simp)))) ?_
    refine EL.cons (ES.ifF0 (TV.cmp1 (EV.sub (EV.name rfl) EV.int (by first | exact OP.item2 | exact OP.litem2)) EV.str (by first | exact OP.eq_int | exact OP.eq_str)) (by show decide (("dup" : Str) = "swap") = false; decide +kernel)) ?_
    cases back with
    | true => exact EL.ret (ES.return (EV.ifT (TV.val (EV.sub (EV.name rfl) EV.int (by exact OP.item4))) rfl (EV.tuple (EVs.cons EV.str (EVs.cons (EV.sub (EV.name rfl) EV.str (OP.sget slot_end rfl)) EVs.nil)) rfl)))
    | false => exact EL.ret (ES.return (EV.ifF (TV.val (EV.sub (EV.name rfl) EV.int (by exact OP.item4))) rfl (EV.tuple (EVs.cons EV.str (EVs.cons (EV.sub (EV.name rfl) EV.str (OP.sget slot_end rfl)) (EVs.cons (EV.sub (EV.name rfl) EV.str (OP.sget slot_end rfl)) EVs.nil))) rfl)))
  | swap t u =>
    obtain rfl : back = false := by cases back; rfl; cases hf
    refine H.f_law_comes.pure ok_law_comes (by omega) [.sdict [("?x", .dat t.d), ("?y", .dat u.d)]] ?_
    refine EL.cons (ES.ifF0 (TV.cmp1 (EV.sub (EV.name rfl) EV.int (by first | exact OP.item1 | exact OP.litem1)) EV.str (by first | exact OP.eq_int | exact OP.eq_str)) (by show decide (("rule" : Str) = "told") = false; decide +kernel)) ?_
    refine EL.cons (ES.assign (.inl rfl) (EV.call_ty rfl H.b_dict bb_dict (EVs.cons (EV.sub (EV.name rfl) EV.int (by exact OP.item3)) EVs.nil) (CA.dict_tup (prs := [("?x", t.d), ("?y", u.d)]) (by simp) (by simp only [List.map_cons, List.map_nil]; decide +kernel)))) ?_
    exact EL.ret (ES.ifT (TV.cmp1 (EV.sub (EV.name rfl) EV.int (by first | exact OP.item2 | exact OP.litem2)) EV.str (by first | exact OP.eq_int | exact OP.eq_str)) (by show decide (("swap" : Str) = "swap") = true; decide +kernel) (EL.ret (ES.return (EV.tuple (EVs.cons EV.str (EVs.cons (EV.sub (EV.name rfl) EV.str (OP.sget slot_end rfl)) (EVs.cons (EV.sub (EV.name rfl) EV.str (OP.sget slot_end rfl)) EVs.nil))) rfl))))
end
end Mine
end PartP24
noncomputable section PartP25
open PySem PySem.W PyProof.Rows
set_option linter.all false
set_option maxRecDepth 20000
namespace Mine
namespace T
theorem kids_setKid {t s v : T} {k : Nat} (h : t.kids[k]? = some s) : (t.setKid k v).kids[k]? = some v := by
  cases t <;> simp [kids] at h
  · cases k <;> simp at h; rfl
  · rcases k with _ | _ | k <;> simp at h <;> rfl
theorem setKid_setKid {t s v : T} {k : Nat} (h : t.kids[k]? = some s) : (t.setKid k v).setKid k s = t := by
  cases t <;> simp [kids] at h
  · cases k <;> simp at h; subst h; rfl
  · rcases k with _ | _ | k <;> simp at h <;> subst h <;> rfl
theorem at_put {e : T} : ∀ {p : List Nat} {t c : T}, t.at? p = some c → (t.put p e).at? p = some e
  | [], t, c, h => by rw [put_nil, at_nil]
  | k :: p, t, c, h => by
    rw [at_cons] at h
    obtain ⟨s, h1, h2⟩ := Option.bind_eq_some_iff.mp h
    rw [put_cons h1, at_cons, kids_setKid h1]
    exact at_put h2
theorem put_put {e : T} : ∀ {p : List Nat} {t c : T}, t.at? p = some c → (t.put p e).put p c = t
  | [], t, c, h => by rw [put_nil]; rw [at_nil] at h; exact (Option.some.inj h).symm
  | k :: p, t, c, h => by
    rw [at_cons] at h
    obtain ⟨s, h1, h2⟩ := Option.bind_eq_some_iff.mp h
    rw [put_cons h1, put_cons (kids_setKid h1), put_put h2]
    have := setKid_setKid (v := s.put p e) h1
    cases t <;> simp [kids] at h1
    · cases k <;> simp at h1; subst h1; rfl
    · rcases k with _ | _ | k <;> simp at h1 <;> subst h1 <;> rfl
end T
theorem lr_turned (K : List (T × T)) (r : Row) : (r.turned.lr K) = ((r.lr K).2, (r.lr K).1) := by
  obtain ⟨p, k, b⟩ := r
  cases b <;> rfl
theorem lr_deep (K : List (T × T)) (r : Row) (k : Nat) : (r.deep k).lr K = r.lr K := rfl
/-- a way from a term to a term -/
inductive Way (K : List (T × T)) (D : Nat) : T → List Row → List T → T → Prop
  | nil {t} : t.depth ≤ D → Way K D t [] [t] t
  | cons {t r v rs L u} : t.depth ≤ D → r.fit K → (r.lr K).1.depth ≤ D → (r.lr K).2.depth ≤ D → t.at? r.path = some (r.lr K).1 → v = t.put r.path (r.lr K).2 → Way K D v rs L u → Way K D t (r :: rs) (t :: L) u
namespace Way
variable {K : List (T × T)} {D : Nat} {t u u' : T} {rs rs' : List Row} {L L' : List T}
theorem valid (w : Way K D t rs L u) : run K t rs = L ∧ Valid K D t rs ∧ L.getLast? = some u ∧ L[0]? = some t := by
  induction w with
  | nil h => exact ⟨rfl, h, rfl, rfl⟩
  | cons h1 h2 h3 h4 h5 h6 w ih =>
    subst h6
    obtain ⟨a, b, c, d⟩ := ih
    refine ⟨by rw [run, a], ⟨h1, h2, h3, h5, b⟩, ?_, rfl⟩
    rw [List.getLast?_cons, c]; rfl
theorem mono {D' : Nat} (w : Way K D t rs L u) (h : D ≤ D') : Way K D' t rs L u := by
  induction w with
  | nil a => exact .nil (by omega)
  | cons h1 h2 h3 h4 h5 h6 w ih => exact .cons (by omega) h2 (by omega) (by omega) h5 h6 ih
theorem append (w : Way K D t rs L u) (w' : Way K D u rs' L' u') : ∃ M, Way K D t (rs ++ rs') M u' := by
  induction w with
  | nil a => exact ⟨_, w'⟩
  | cons h1 h2 h3 h4 h5 h6 w ih =>
    obtain ⟨M, hM⟩ := ih w'
    exact ⟨_, .cons h1 h2 h3 h4 h5 h6 hM⟩
theorem snoc {r : Row} (w : Way K D t rs L u) (h1 : u'.depth ≤ D) (h2 : r.fit K) (h3 : (r.lr K).1.depth ≤ D) (h4 : (r.lr K).2.depth ≤ D) (h5 : u.at? r.path = some (r.lr K).1) (h6 : u' = u.put r.path (r.lr K).2) : Way K D t (rs ++ [r]) (L ++ [u']) u' := by
  induction w with
  | nil a => exact .cons a h2 h3 h4 h5 h6 (.nil h1)
  | cons a1 a2 a3 a4 a5 a6 w ih => exact .cons a1 a2 a3 a4 a5 a6 (ih h5 h6)
theorem rev (w : Way K D t rs L u) : Way K D u (rs.reverse.map Row.turned) L.reverse t := by
  induction w with
  | nil a => exact .nil a
  | @cons t r v rs L u h1 h2 h3 h4 h5 h6 w ih =>
    rw [List.reverse_cons, List.reverse_cons, List.map_append]
    refine ih.snoc h1 h2 (by rw [lr_turned]; exact h4) (by rw [lr_turned]; exact h3) ?_ ?_
    · rw [lr_turned, h6]; exact T.at_put h5
    · rw [lr_turned, h6]; exact (T.put_put h5).symm
theorem deep1 (w : Way K D t rs L u) : Way K (D + 1) (.f t) (rs.map (Row.deep 0)) (L.map .f) (.f u) := by
  induction w with
  | nil a => exact .nil (by simp only [T.depth]; omega)
  | @cons t r v rs L u h1 h2 h3 h4 h5 h6 w ih =>
    refine .cons (by simp only [T.depth]; omega) h2 (by rw [lr_deep]; omega) (by rw [lr_deep]; omega) ?_ ?_ ih
    · show (T.f t).at? (0 :: r.path) = _
      rw [T.at_cons]; exact h5
    · show _ = (T.f t).put (0 :: r.path) _
      rw [T.put_cons (s := t) rfl, lr_deep, h6]; rfl
theorem deepL {s : T} (hs : s.depth ≤ D) (w : Way K D t rs L u) : Way K (D + 1) (.g t s) (rs.map (Row.deep 0)) (L.map fun t => .g t s) (.g u s) := by
  induction w with
  | nil a => exact .nil (by simp only [T.depth]; omega)
  | @cons t r v rs L u h1 h2 h3 h4 h5 h6 w ih =>
    refine .cons (by simp only [T.depth]; omega) h2 (by rw [lr_deep]; omega) (by rw [lr_deep]; omega) ?_ ?_ ih
    · show (T.g t s).at? (0 :: r.path) = _
      rw [T.at_cons]; exact h5
    · show _ = (T.g t s).put (0 :: r.path) _
      rw [T.put_cons (s := t) rfl, lr_deep, h6]; rfl
theorem deepR {s : T} (hs : s.depth ≤ D) (w : Way K D t rs L u) : Way K (D + 1) (.g s t) (rs.map (Row.deep 1)) (L.map fun t => .g s t) (.g s u) := by
  induction w with
  | nil a => exact .nil (by simp only [T.depth]; omega)
  | @cons t r v rs L u h1 h2 h3 h4 h5 h6 w ih =>
    refine .cons (by simp only [T.depth]; omega) h2 (by rw [lr_deep]; omega) (by rw [lr_deep]; omega) ?_ ?_ ih
    · show (T.g s t).at? (1 :: r.path) = _
      rw [T.at_cons]; exact h5
    · show _ = (T.g s t).put (1 :: r.path) _
      rw [T.put_cons (s := t) rfl, lr_deep, h6]; rfl
end Way
theorem way_leaf {K : List (T × T)} {D : Nat} {r : Row} {t u : T} (hp : r.path = []) (hf : r.fit K) (hl : r.lr K = (t, u)) (ht : t.depth ≤ D) (hu : u.depth ≤ D) : Way K D t [r] [t, u] u :=
  .cons ht hf (by rw [hl]; exact ht) (by rw [hl]; exact hu) (by rw [hp, T.at_nil, hl]) (by rw [hp, T.put_nil, hl]) (.nil hu)
theorem way_of {K : List (T × T)} : ∀ p : P, p.good K 15 → ∃ L, Way K (15 + p.cnt) (p.lr K).1 p.steps L (p.lr K).2
  | .same t, h => ⟨_, .nil (by have := h.1.1.1; simp only [P.lr] at *; omega)⟩
  | .told k, h => ⟨_, way_leaf rfl h.1.2 rfl (by have := h.1.1.1; omega) (by have := h.1.1.2; omega)⟩
  | .dup t, h => ⟨_, way_leaf rfl trivial rfl (by have := h.1.1.1; omega) (by have := h.1.1.2; omega)⟩
  | .swap t u, h => ⟨_, way_leaf rfl trivial rfl (by have := h.1.1.1; omega) (by have := h.1.1.2; omega)⟩
  | .turn p, h => by
    obtain ⟨L, w⟩ := way_of p h.2
    exact ⟨_, w.rev.mono (by simp only [P.cnt]; omega)⟩
  | .join p q, h => by
    obtain ⟨L, w⟩ := way_of p h.2.1
    obtain ⟨L', w'⟩ := way_of q h.2.2
    have e : (p.lr K).2 = (q.lr K).1 := h.1.2
    rw [← e] at w'
    exact (w.mono (D' := 15 + (P.join p q).cnt) (by simp only [P.cnt]; omega)).append (w'.mono (by simp only [P.cnt]; omega))
  | .under1 p, h => by
    obtain ⟨L, w⟩ := way_of p h.2
    exact ⟨_, w.deep1.mono (by simp only [P.cnt]; omega)⟩
  | .under2 p q, h => by
    obtain ⟨L, w⟩ := way_of p h.2.1
    obtain ⟨L', w'⟩ := way_of q h.2.2
    have hq : (q.lr K).1.depth ≤ 15 + p.cnt := by
      have : q.loc K 15 := post_good q [] h.2.2 _ (post_last q [])
      have := this.1.1; omega
    have hp : (p.lr K).2.depth ≤ 15 + q.cnt := by
      have : p.loc K 15 := post_good p [] h.2.1 _ (post_last p [])
      have := this.1.2; omega
    exact ((w.deepL hq).mono (D' := 15 + (P.under2 p q).cnt) (by simp only [P.cnt]; omega)).append ((w'.deepR hp).mono (by simp only [P.cnt]; omega))
end Mine
end PartP25
noncomputable section PartP26
open PySem PySem.W PyProof.Rows
set_option linter.all false
set_option maxRecDepth 20000
namespace Mine
theorem Way.rows {K : List (T × T)} {D : Nat} {t u : T} {rs : List Row} {L : List T} (w : Way K D t rs L u) : ∀ r ∈ rs, r.fit K ∧ (r.lr K).1.depth ≤ D ∧ (r.lr K).2.depth ≤ D := by
  induction w with
  | nil a => intro r hr; cases hr
  | cons h1 h2 h3 h4 h5 h6 w ih =>
    intro r hr
    rcases List.mem_cons.mp hr with rfl | hr
    · exact ⟨h2, h3, h4⟩
    · exact ih r hr
theorem Way.terms {K : List (T × T)} {D : Nat} {t u : T} {rs : List Row} {L : List T} (w : Way K D t rs L u) : ∀ x ∈ L, x.depth ≤ D := by
  induction w with
  | nil a => intro r hr; simp at hr; subst hr; exact a
  | cons h1 h2 h3 h4 h5 h6 w ih =>
    intro r hr
    rcases List.mem_cons.mp hr with rfl | hr
    · exact h1
    · exact ih r hr
theorem layAll {ds : List PyData} (h : ∀ d ∈ ds, d.canLay0 = true) : PyData.canLayAll0 ds = true := by
  induction ds with
  | nil => simp [PyData.canLayAll0]
  | cons d ds ih => simp only [PyData.canLayAll0, h d (List.mem_cons_self), ih fun x hx => h x (List.mem_cons_of_mem _ hx), Bool.and_self]
theorem depAll {ds : List PyData} {n : Nat} (h : ∀ d ∈ ds, d.depth ≤ n) : PyData.depthAll ds ≤ n := by
  induction ds with
  | nil => simp [PyData.depthAll]
  | cons d ds ih =>
    have h1 := h d (List.mem_cons_self)
    have h2 := ih fun x hx => h x (List.mem_cons_of_mem _ hx)
    simp only [PyData.depthAll]; omega
theorem lst_fine {ds : List PyData} (h : ∀ d ∈ ds, d.canLay0 = true ∧ d.depth ≤ 2000) : Fine (.list ds) := by
  have h2 := depAll fun d hd => (h d hd).2
  exact ⟨by simp only [PyData.canLay0]; exact layAll fun d hd => (h d hd).1, by simp only [PyData.depth]; omega⟩
theorem lab_fine0 : ∀ k : Fin 40, PyData.strOk (lab k.val) = true := by decide +kernel
def LD (n : Nat) (d : PyData) : Prop := d.canLay0 = true ∧ d.depth ≤ n
theorem LD.tup {n : Nat} {ds : List PyData} (h : ∀ d ∈ ds, LD n d) : LD (n + 1) (.tuple ds) :=
  ⟨by simp only [PyData.canLay0]; exact layAll fun d hd => (h d hd).1, by simp only [PyData.depth]; exact Nat.add_le_add_right (depAll fun d hd => (h d hd).2) 1⟩
theorem LD.str {n : Nat} {x : Str} (h : PyData.strOk x = true) : LD n (.str x) := ⟨by simpa only [PyData.canLay0] using h, by simp only [PyData.depth]; exact Nat.zero_le _⟩
theorem LD.bool {n : Nat} {b : Bool} : LD n (.bool b) := ⟨by simp only [PyData.canLay0], by simp only [PyData.depth]; exact Nat.zero_le _⟩
theorem LD.T {n : Nat} {t : T} (h : t.depth ≤ 200) (hn : 600 ≤ n) : LD n t.d := ⟨t.lay, by have := t.ddepth; omega⟩
theorem LD.nil {n : Nat} : ∀ d ∈ ([] : List PyData), LD n d := fun _ h => nomatch h
theorem LD.cons {n : Nat} {d : PyData} {ds : List PyData} (h1 : LD n d) (h2 : ∀ d ∈ ds, LD n d) : ∀ e ∈ d :: ds, LD n e := by
  intro e he
  rcases List.mem_cons.mp he with rfl | he
  · exact h1
  · exact h2 e he
theorem LD.path (path : List Nat) : LD 1000 (pathD path) := ⟨(path_fine path).lay, by simp only [pathD, PyData.depth, intD_depth]; exact Nat.le_of_ble_eq_true rfl⟩
theorem dup_dep {t : T} {back : Bool} {K : List (T × T)} {path : List Nat} (hd : ((⟨path, .dup t, back⟩ : Row).lr K).1.depth ≤ 200 ∧ ((⟨path, .dup t, back⟩ : Row).lr K).2.depth ≤ 200) : t.depth ≤ 200 := by
  cases back <;> simp only [Row.lr, Row.base, T.depth] at hd <;> simp [T.depth] at hd <;> omega
theorem swap_dep {t u : T} {back : Bool} {K : List (T × T)} {path : List Nat} (hd : ((⟨path, .swap t u, back⟩ : Row).lr K).1.depth ≤ 200 ∧ ((⟨path, .swap t u, back⟩ : Row).lr K).2.depth ≤ 200) : t.depth ≤ 200 ∧ u.depth ≤ 200 := by
  cases back <;> simp only [Row.lr, Row.base, T.depth] at hd <;> simp [T.depth] at hd <;> omega
theorem row_ld {path : List Nat} {back : Bool} {a b c : PyData} (h1 : LD 1000 a) (h2 : LD 1000 b) (h3 : LD 1000 c) : LD 2000 (.tuple [pathD path, a, b, c, .bool back]) :=
  have h := LD.tup (LD.cons (LD.path path) (LD.cons h1 (LD.cons h2 (LD.cons h3 (LD.cons (LD.bool (b := back)) LD.nil)))))
  ⟨h.1, Nat.le_trans h.2 (Nat.le_of_ble_eq_true rfl)⟩
theorem okx : PyData.strOk ("?x" : Str) = true := by decide +kernel
theorem oky : PyData.strOk ("?y" : Str) = true := by decide +kernel
theorem oktold : PyData.strOk ("told" : Str) = true := by decide +kernel
theorem okrule : PyData.strOk ("rule" : Str) = true := by decide +kernel
theorem okdup : PyData.strOk ("dup" : Str) = true := by decide +kernel
theorem okswap : PyData.strOk ("swap" : Str) = true := by decide +kernel
theorem row_fine {K : List (T × T)} {r : Row} (hf : r.fit K) (hK : K.length ≤ 40) (hd : (r.lr K).1.depth ≤ 200 ∧ (r.lr K).2.depth ≤ 200) : r.d.canLay0 = true ∧ r.d.depth ≤ 2000 := by
  obtain ⟨path, kind, back⟩ := r
  cases kind with
  | told k =>
    have hk : k < K.length := hf
    exact row_ld (LD.str oktold) (LD.str (lab_fine0 ⟨k, by omega⟩)) (LD.tup LD.nil)
  | dup t => exact row_ld (LD.str okrule) (LD.str okdup) (LD.tup (n := 999) (LD.cons (LD.tup (n := 998) (LD.cons (LD.str okx) (LD.cons (LD.T (dup_dep hd) (Nat.le_of_ble_eq_true rfl)) LD.nil))) LD.nil))
  | swap t u => exact row_ld (LD.str okrule) (LD.str okswap) (LD.tup (n := 999) (LD.cons (LD.tup (n := 998) (LD.cons (LD.str okx) (LD.cons (LD.T (swap_dep hd).1 (Nat.le_of_ble_eq_true rfl)) LD.nil))) (LD.cons (LD.tup (n := 998) (LD.cons (LD.str oky) (LD.cons (LD.T (swap_dep hd).2 (Nat.le_of_ble_eq_true rfl)) LD.nil))) LD.nil)))
theorem rows_fine {K : List (T × T)} {D : Nat} {t u : T} {rs : List Row} {L : List T} (w : Way K D t rs L u) (hD : D ≤ 200) (hK : K.length ≤ 40) : Fine (rowsD rs) := by
  refine lst_fine fun d hd => ?_
  obtain ⟨r, hr, rfl⟩ := List.mem_map.mp hd
  obtain ⟨h1, h2, h3⟩ := w.rows r hr
  exact row_fine h1 hK ⟨by omega, by omega⟩
theorem terms_fine {K : List (T × T)} {D : Nat} {t u : T} {rs : List Row} {L : List T} (w : Way K D t rs L u) (hD : D ≤ 200) : Fine (.list (L.map T.d)) := by
  refine lst_fine fun d hd => ?_
  obtain ⟨x, hx, rfl⟩ := List.mem_map.mp hd
  have := w.terms x hx
  have h2 := x.ddepth
  exact ⟨x.lay, by omega⟩
section
variable {g : G} {n : Nat} {σ' τ : List Slot} {v : V}
def ruleS (H : Has g) (n : Str) (l r : T) (k : Nat) : List Slot := [.odict (ruleA n l r), .inst H.c_Rule k]
/-- the store of law -/
def lawS (H : Has g) (cells : List Int) (k : Nat) (K : List (T × T)) : List Slot :=
  [feedS cells k, knS K, .sdict [("dup", .ref 4), ("swap", .ref 6)], .odict (ruleA "dup" (.f .x) (.g .x .x)), .inst H.c_Rule 3, .odict (ruleA "swap" (.g .x .y) (.g .y .x)), .inst H.c_Rule 5,
    .odict [("rules", .ref 2), ("told", .ref 1)], .inst H.c_Judge 7, .odict [("judge", .ref 8)], .inst H.c_Steps 9]
theorem law_SO (H : Has g) {cells : List Int} {k : Nat} {K : List (T × T)} (hK : K.length ≤ 40) : SO H K (lawS H cells k K) 10 :=
  ⟨⟨8, ⟨9, rfl, rfl⟩, ⟨⟨2, 4, 6, ⟨7, rfl, rfl⟩, rfl, ⟨3, rfl, rfl⟩, ⟨5, rfl, rfl⟩⟩, rfl, hK⟩⟩⟩
end
end Mine
end PartP26
noncomputable section PartP27
open PySem PySem.W PyProof.Rows
set_option linter.all false
set_option maxRecDepth 20000
namespace Mine
section
variable {g : G} {σ' τ : List Slot} {v : V}
def lEnv (scr : PyData) (t u : T) (p : P) : List (Str × V) := [("walker_now", .ref 10), ("judge", .ref 8), ("rules", .ref 2), ("other", .dat T.y.d), ("one", .dat T.x.d), ("rows", .dat (rowsD p.steps)), ("right", .dat u.d), ("paper", .dat p.d), ("tree", .dat t.d), ("feed", .ref 0), ("known", .ref 1), ("script", .dat scr)]
/-- the rest of law, once walker_now stands -/
def lRest (k : Nat) : List Stmt := (bodyOf (stm 34)).drop k
set_option maxHeartbeats 4000000 in
theorem law_end (H : Has g) {cells : List Int} {k : Nat} {K : List (T × T)} {t u : T} {p : P} {L : List T} (scr : PyData) (hK : K.length ≤ 40) (hlr : p.lr K = (t, u)) (hg : p.good K 15) (hok : p.ok 65536) (hc : p.cnt ≤ 100) (hnb : ∀ r ∈ p.steps, r.fwd = true)
    (w : Way K (15 + p.cnt) t p.steps L u) :
    EL g 290 (scopeOf (stm 34)) (lRest 7) (lEnv scr t u p) (lawS H cells k K) (.ret (.dat (.bool true)) (lawS H cells k K ++ [.list (L.map T.d)])) := by
  have S := law_SO H (cells := cells) (k := k) hK
  obtain ⟨v1, v2, v3, v4⟩ := w.valid
  obtain ⟨y1, y2, y3, y4⟩ := w.rev.valid
  have sl1 := P.steps_len p
  have hLlen : L.length = p.steps.length + 1 := by rw [← v1, run_len]
  have gT : (P.turn p).good K 15 := by
    have h0 : p.loc K 15 := post_good p [] hg _ (post_last p [])
    exact ⟨⟨⟨by show (p.lr K).2.depth ≤ 15; exact h0.1.2, by show (p.lr K).1.depth ≤ 15; exact h0.1.1⟩, trivial⟩, hg⟩
  have fr := rows_fine w (by omega) hK
  have fb : Fine (rowsD (P.turn p).steps) := rows_fine w.rev (by omega) hK
  have fL := terms_fine w (by omega)
  have fLr := terms_fine w.rev (by omega)
  have hLu : (L.map T.d).getLast? = some u.d := by rw [List.getLast?_map, v3]; rfl
  have hu : u.depth ≤ 200 := by have := w.terms u (List.mem_of_getLast? v3); omega
  have hw : Ins (lawS H cells k K) 10 H.c_Steps [("judge", .ref 8)] := ⟨9, rfl, rfl⟩
  refine EL.cons (ES.assign (.inl rfl) (v := .ref 11) (EV.list_new (ds := [t.d]) (EVs.cons (EV.name rfl) EVs.nil) rfl)) ?_
  refine EL.cons (ES.for (ITR.lst (EV.name rfl)) (by trivial) (fun i => (("due", .ref 11) :: lEnv scr t u p, lawS H cells k K ++ [.list ((L.take (i + 1)).map T.d)])) ?h0 ?h1 ?step) ?rest
  case h0 => exact Sub.refl
  case h1 =>
    have : L.take 1 = [t] := by
      cases L with
      | nil => simp at v4
      | cons x L => simp at v4; subst v4; rfl
    simp only [this]; rfl
  case step =>
    intro i d hd
    obtain ⟨r, hr, rfl⟩ := map_get hd
    obtain ⟨x, k1, k2, k3, k4, k5, k6⟩ := run_step p.steps t i r v2 hr
    rw [v1] at k1 k2
    have hi := (List.getElem?_eq_some_iff.mp hr).1
    have hp := T.path_le k6
    have hlast : ((L.take (i + 1)).map T.d).getLast? = some x.d := by
      rw [List.take_succ_eq_append_getElem (List.getElem?_eq_some_iff.mp k1).1, (List.getElem?_eq_some_iff.mp k1).2]; simp
    have hlen : ((L.take (i + 1)).map T.d).length ≤ sizeLine - 1 := by
      have := sl; simp only [List.length_map, List.length_take]; omega
    have hfin : (L.take (i + 1)).map T.d ++ [(x.put r.path (r.lr K).2).d] = (L.take (i + 1 + 1)).map T.d := by
      rw [List.take_succ_eq_append_getElem (List.getElem?_eq_some_iff.mp k2).1, (List.getElem?_eq_some_iff.mp k2).2]; simp
    have hs0 : ∀ {y : Slot}, (lawS H cells k K ++ [y])[11]? = some y := rfl
    have hset : ∀ {y z : Slot}, (lawS H cells k K ++ [y]).set 11 z = lawS H cells k K ++ [z] := rfl
    refine ⟨_, _, AS.name (.inl rfl), EL.cons (ES.expr (v := .dat .none) (EV.castS (EV.append (EV.name rfl) hs0 (EV.call rfl H.n_law_put_at H.k_law_put_at (EVs.cons (EV.sub (EV.name rfl) (EV.un EV.int OP.neg) (OP.item_slot_last hs0 hlast)) (EVs.cons (EV.sub (EV.name rfl) EV.int (by first | exact OP.item0 | exact OP.litem0)) (EVs.cons (EV.call rfl H.n_law_comes H.k_law_comes (EVs.cons (EV.name rfl) (EVs.cons (EV.name rfl) EVs.nil)) (FNc.fn (c_law_comes H (σ := lawS H cells k K ++ [.list ((L.take (i + 1)).map T.d)]) rfl hK r k4 (hnb r (List.mem_of_getElem? hr)) (by omega)))) EVs.nil))) (FNc.fn (c_put_at H k6 (by omega) (by omega)))) hs0 hlen) ?fin)) EL.nil, ?sub⟩
    case fin => rw [hset, hfin]
    case sub => exact Sub.of_all (by intro q hq; simp [lEnv] at hq; rcases hq with rfl | rfl | rfl | rfl | rfl | rfl | rfl | rfl | rfl | rfl | rfl | rfl | rfl <;> rfl)
  case rest =>
    rw [List.length_map, ← hLlen, List.take_length]
    have hs0 : (lawS H cells k K ++ [Slot.list (L.map T.d)])[11]? = some (.list (L.map T.d)) := rfl
    have hcont : cont (lawS H cells k K ++ [Slot.list (L.map T.d)]) (.ref 11) = some (.list (L.map T.d)) := by simp only [cont, hs0]
    have S' := S.app (τ := [Slot.list (L.map T.d)])
    have hw' := hw.app (τ := [Slot.list (L.map T.d)])
    have cw := c_walk H (n := 290) S' p.steps v2 (by omega) (by omega) (by omega)
    rw [v1] at cw
    have cb := c_walk H (n := 290) S' (P.turn p).steps y2 (by omega) (by have := P.steps_len (P.turn p); simp only [P.cnt] at this; omega) (by omega)
    have y1' : run K u (P.turn p).steps = L.reverse := y1
    rw [y1'] at cb
    refine EL.cons (ES.ifF0 (TV.boolop (AT.orF (TV.cmp1 (EV.sub (EV.name rfl) (EV.un EV.int OP.neg) (OP.item_slot_last hs0 hLu)) (EV.name rfl) (OP.ne rfl rfl (T.fine (by omega)) (T.fine (by omega)))) (by rw [T.eqv_d]; simp) (AT.orF (TV.cmp1 (EV.method H.m_Steps_of_paper (EV.name rfl) hw' rfl (EVs.cons (EV.name rfl) EVs.nil) (FNc.fn (c_of_paper H S' p hok (by omega) hg (by omega) (by omega) (by omega))) (by intro _; with_unfolding_all rfl)) (EV.name rfl) (OP.ne rfl rfl fr fr)) (by rw [PySem.SeqAt.eqv_refl _ fr.1]; rfl) (AT.orF (TV.cmp1 (EV.method H.m_Steps_walk (EV.name rfl) hw' rfl (EVs.cons (EV.name rfl) (EVs.cons (EV.name rfl) EVs.nil)) (FNc.fn (cw)) (by intro _; with_unfolding_all rfl)) (EV.name rfl) (OP.ne rfl hcont fL fL)) (by rw [PySem.SeqAt.eqv_refl _ fL.1]; rfl) AT.orNil)))) rfl) ?_
    refine EL.cons (ES.assign_comp1 (caps := []) rfl rfl (by decide +kernel) ?S (ITR.lst (EV.lrev (EV.name rfl) (by rfl))) (by trivial) (List.map Row.d (P.turn p).steps) ?hl ?hz ?step2) ?_
    case S => exact Scoped.of [] (by decide +kernel) rfl (by intro q hq; cases hq)
    case hl => simp [P.steps]
    case hz => simp [P.steps]; omega
    case step2 =>
      intro i d y hd hy
      rw [← List.map_reverse] at hd
      obtain ⟨r, hr, rfl⟩ := map_get hd
      obtain rfl : r.turned.d = y := by
        simp only [P.steps] at hy
        rw [List.getElem?_map, List.getElem?_map, hr] at hy; simpa using hy
      exact ⟨_, AL.name rfl, Sub.of_all (by intro q hq; cases hq), fun zs => (EV.bin (EV.ttake4 (EV.name rfl)) (EV.tuple (EVs.cons (EV.un (EV.sub (EV.name rfl) EV.int (by exact OP.item4)) OP.not) EVs.nil) rfl) (OP.add_tup (by exact Nat.le_of_ble_eq_true rfl)))⟩
    refine EL.ret (ES.return (EV.boolop (BO.andT (EV.cmp1 (EV.method H.m_Steps_of_paper (EV.name rfl) hw' rfl (EVs.cons (EV.tuple (EVs.cons EV.str (EVs.cons (EV.name rfl) EVs.nil)) rfl) EVs.nil) (FNc.fn (c_of_paper H S' (P.turn p) hok (by omega) gT (by omega) (by simp only [P.cnt]; omega) (by omega))) (by intro _; with_unfolding_all rfl)) (EV.name rfl) (OP.eq rfl rfl fb fb)) (PySem.SeqAt.eqv_refl _ fb.1) (BO.last (EV.castb (EV.cmp1 (EV.method H.m_Steps_walk (EV.name rfl) hw' rfl (EVs.cons (EV.name rfl) (EVs.cons (EV.name rfl) EVs.nil)) (FNc.fn (cb)) (by intro _; with_unfolding_all rfl)) (EV.lrev (EV.name rfl) hcont) (OP.eq rfl rfl fLr ?f2)) ?q)))))
    case f2 => rw [← List.map_reverse]; exact fLr
    case q => rw [← List.map_reverse]; exact PySem.SeqAt.eqv_refl _ fLr.1
end
end Mine
end PartP27
noncomputable section PartP28
open PySem PySem.W PyProof.Rows
set_option linter.all false
set_option maxRecDepth 20000
namespace Mine
section
variable {g : G} {n : Nat} {sc : Scope} {ρ ρ' : List (Str × V)} {σ σ₁ : List Slot} {pos tpos : Pos}
theorem ES.unpackT {elts : List Expr} {k : Nat} {e : Expr} {d : PyData} (he : EV g n sc e ρ σ (.dat d) σ₁) (ha : AS g sc (.Tuple elts k tpos) d ρ ρ')
    (hw : ∀ env : Env, env.scope = sc → swappedStores [.Tuple elts k tpos] e env = pure Option.none)
    (hs : ∀ env, swapsWithSole [.Tuple elts k tpos] e pos.line env = pure false := by intro _; rfl) : ES g n sc (.Assign [.Tuple elts k tpos] e pos) ρ σ (.next ρ' σ₁) := fun A env μ s Q E R F M hQ =>
  Assign_Tuple (he A env μ s _ E R F M fun w s₁ μ₁ x M₁ V₁ => ha A env μ₁ σ₁ s₁ w _ E R.hnd (F.ext x) M₁ (vr_dat.mp V₁) fun s' X M' F' => hQ .next s' μ₁ (x.toS.trans X) ⟨rfl, M', F'⟩) (hs env) (hw env F.esc)
end
section
variable {g : G} {σ' τ : List Slot} {v : V}
theorem vs_fx : (T.f .x).vs = (["?x"] : List Str) := by decide +kernel
theorem vs_gxx : (T.g .x .x).vs = (["?x", "?x"] : List Str) := by decide +kernel
theorem vs_gxy : (T.g .x .y).vs = (["?x", "?y"] : List Str) := by decide +kernel
theorem vs_gyx : (T.g .y .x).vs = (["?y", "?x"] : List Str) := by decide +kernel
theorem out_gxx : ∀ zs, zs.Perm (ddup [] (T.g .x .x).vs) → sortedS zs = true → zs = [("?x" : Str)] := by
  intro zs h hs
  rw [vs_gxx] at h
  have e : ddup [] [("?x" : Str), "?x"] = [("?x" : Str)] := by decide +kernel
  rw [e] at h
  exact List.perm_singleton.mp h
theorem out_gyx : ∀ zs, zs.Perm (ddup [] (T.g .y .x).vs) → sortedS zs = true → zs = [("?x" : Str), "?y"] := by
  intro zs h hs
  rw [vs_gyx] at h
  have e : ddup [] [("?y" : Str), "?x"] = [("?y" : Str), "?x"] := by decide +kernel
  rw [e] at h
  exact places2 zs (by have e2 : ddup [] [("?x" : Str), "?y"] = [("?x" : Str), "?y"] := by decide +kernel
                       rw [e2]; exact h.trans (List.Perm.swap _ _ _)) hs
theorem out_fx : ∀ zs, zs.Perm (ddup [] (T.f .x).vs) → sortedS zs = true → zs = [("?x" : Str)] := by rw [vs_fx]; exact places1
theorem out_gxy : ∀ zs, zs.Perm (ddup [] (T.g .x .y).vs) → sortedS zs = true → zs = [("?x" : Str), "?y"] := by rw [vs_gxy]; exact places2
theorem init_dup (H : Has g) {σ : List Slot} : FNc g 289 (.ref H.a_Rule_init) [.ref (σ.length + 1), .dat (.str "dup"), .dat (T.f .x).d, .dat (T.g .x .x).d, .dat (.tuple [])] (σ ++ [.odict [], .inst H.c_Rule σ.length]) (.dat .none) (σ ++ [.odict (ruleA "dup" (.f .x) (.g .x .x)), .inst H.c_Rule σ.length]) :=
  c_rule_init H (ks := ["?x"]) rfl out_fx out_gxx (by decide) (by decide) fine_x (by decide +kernel) (by decide) rfl (by omega)
theorem init_swap (H : Has g) {σ : List Slot} : FNc g 289 (.ref H.a_Rule_init) [.ref (σ.length + 1), .dat (.str "swap"), .dat (T.g .x .y).d, .dat (T.g .y .x).d, .dat (.tuple [])] (σ ++ [.odict [], .inst H.c_Rule σ.length]) (.dat .none) (σ ++ [.odict (ruleA "swap" (.g .x .y) (.g .y .x)), .inst H.c_Rule σ.length]) :=
  c_rule_init H (ks := ["?x", "?y"]) rfl out_gxy out_gyx (by decide) (by decide) fine_xy (by decide +kernel) (by decide) rfl (by omega)
set_option maxHeartbeats 4000000 in
theorem law_holds (H : Has g) (ns : List Int) :
    ∃ σ', EL g 290 (scopeOf (stm 34)) (bodyOf (stm 34)) [("script", .dat (.list (ns.map .int)))] [] (.ret (.dat (.bool true)) σ') := by
  have hc : (ns.take 60).length ≤ 60 := by simp; omega
  obtain ⟨t, k1, ht1, ht2, ht3, hf1⟩ := c_law_tree H hc 2 0 (by simp only [tc]; omega) (by omega)
  simp only [tc] at ht3
  obtain ⟨p, u, k2, X, o, hX, hk2, hf2⟩ := c_law_paper H hc 3 k1 [] t ht1 (by simp only [eB]; omega) (by simp only [yB]; omega) (by simp only [xB, List.length_nil]; omega) (by simp only [cB]; omega)
  simp only [xB] at hX
  have hlr := o.lr
  have hgood := o.good
  have hcnt := o.cnt
  simp only [cB] at hcnt
  rw [List.nil_append] at hlr hgood
  obtain ⟨L, w⟩ := way_of p hgood
  rw [hlr] at w
  have hend := law_end H (cells := ns.take 60) (k := k2) (K := X) (.list (ns.map .int)) (by omega) hlr hgood o.ok (by omega) o.nb w
  refine ⟨lawS H (ns.take 60) k2 X ++ [.list (L.map T.d)], ?_⟩
  refine EL.cons (ES.swap2 (v₁ := .ref 0) (v₂ := .ref 1) (σ₁ := [feedS (ns.take 60) 0, knS []]) rfl rfl ?evs (fun env h => by cases env; cases h; rfl)) ?_
  case evs =>
    refine EVs.cons (EV.castS (σ₁ := [Slot.sdict [("cells", .dat (.list ((ns.map PyData.int).take 60))), ("at", .dat (.int 0))]]) (EV.dict2 (by decide +kernel) (EV.list_ H rfl (EVs.cons (EV.slice (EV.name rfl) PV.none (PV.some EV.int) PV.none (lst_upto (b := 60) rfl)) EVs.nil) CA.list_lst) EV.int rfl) (by rw [← List.map_take])) (EVs.cons (EV.castS EV.dict0 rfl) EVs.nil)
  refine EL.cons (ES.assign (.inl rfl) (EV.castS (σ₁ := feedS (ns.take 60) k1 :: [knS []]) (EV.call rfl H.n_law_tree H.k_law_tree (EVs.cons (EV.name rfl) (EVs.cons EV.int EVs.nil)) (FNc.fn (hf1 _ _ (by omega)))) rfl)) ?_
  refine EL.cons (ES.unpack (EV.call rfl H.n_law_paper H.k_law_paper (EVs.cons (EV.name rfl) (EVs.cons (EV.name rfl) (EVs.cons (EV.name rfl) (EVs.cons EV.int EVs.nil)))) (FNc.fn (hf2 _ [] (by omega)))) (AS.lst3 (.inl rfl) (.inl rfl) (.inl rfl))) ?_
  refine EL.cons (ES.unpackT (d := .tuple [T.x.d, T.y.d]) (EV.tuple (EVs.cons (EV.tuple (EVs.cons EV.str EVs.nil) rfl) (EVs.cons (EV.tuple (EVs.cons EV.str EVs.nil) rfl) EVs.nil)) rfl) (AS.tup2 (.inl rfl) (.inl rfl)) (fun env h => by cases env; cases h; rfl)) ?_
  refine EL.cons (ES.assign (.inl rfl) (v := .ref 2) (σ₁ := (lawS H (ns.take 60) k2 X).take 7) ?rules) ?_
  case rules =>
    refine EV.castS (EV.dict2 (σ := [feedS (ns.take 60) k2, knS X]) (by decide +kernel) (EV.call rfl H.n_Rule H.k_Rule (EVs.cons EV.str (EVs.cons (EV.tuple (EVs.cons EV.str (EVs.cons (EV.name rfl) EVs.nil)) rfl) (EVs.cons (EV.tuple (EVs.cons EV.str (EVs.cons (EV.name rfl) (EVs.cons (EV.name rfl) EVs.nil))) rfl) (EVs.cons (EV.tuple EVs.nil rfl) EVs.nil)))) (CA.make H.mk_Rule (init_dup H)))
      (EV.call rfl H.n_Rule H.k_Rule (EVs.cons EV.str (EVs.cons (EV.tuple (EVs.cons EV.str (EVs.cons (EV.name rfl) (EVs.cons (EV.name rfl) EVs.nil))) rfl) (EVs.cons (EV.tuple (EVs.cons EV.str (EVs.cons (EV.name rfl) (EVs.cons (EV.name rfl) EVs.nil))) rfl) (EVs.cons (EV.tuple EVs.nil rfl) EVs.nil)))) (CA.make H.mk_Rule (init_swap H))) rfl) rfl
  refine EL.cons (ES.assign (.inl rfl) (v := .ref 8) (σ₁ := (lawS H (ns.take 60) k2 X).take 9) ?judge) ?_
  case judge =>
    exact EV.castS (EV.call rfl H.n_Judge H.k_Judge (EVs.cons (EV.name rfl) (EVs.cons (EV.name rfl) EVs.nil)) (CA.make H.mk_Judge (c_judge_init H (Nat.le_of_ble_eq_true rfl) (Nat.le_of_ble_eq_true rfl) rfl (by omega)))) rfl
  refine EL.cons (ES.assign (.inl rfl) (v := .ref 10) (σ₁ := lawS H (ns.take 60) k2 X) ?steps) ?_
  case steps =>
    exact EV.castS (EV.call rfl H.n_Steps H.k_Steps (EVs.cons (EV.name rfl) EVs.nil) (CA.make H.mk_Steps (c_steps_init H (Nat.le_of_ble_eq_true rfl) rfl (by omega)))) rfl
  exact hend
end
end Mine
end PartP28
noncomputable section PartP29b
open PySem PySem.W PyProof.Rows
set_option linter.all false
set_option maxRecDepth 100000
namespace Mine
def ad (K : Frag) (x : Str) : Addr := match nsIn K mainGlobals x with | some (some (.ref a)) => a | _ => 0
def md (K : Frag) (c : Addr) (x : Str) : Addr := match findIn K (.ref c) x with | some (some (.ref a)) => a | _ => 0
def fdOf (K : Frag) (a : Addr) : FuncData := match K.lookup a with | some ⟨_, _, .func fd, _⟩ => fd | _ => { name := "", qualname := "", params := default, body := .stmts [], scope := default, globals := 0, closure := [], defaults := .none, kwdefaults := .none, doc := .none, pyModule := .none, annotations := none, code := .none, closureTuple := .none, builtins := 0 }
def ocOf (K : Frag) (a : Addr) : Value := match K.lookup a with | some ⟨c, _, _, _⟩ => c | _ => .none
def odOf (K : Frag) (a : Addr) : Option Addr := match K.lookup a with | some ⟨_, d, _, _⟩ => d | _ => Option.none
def osOf (K : Frag) (a : Addr) : Array (Option Value) := match K.lookup a with | some ⟨_, _, _, s⟩ => s | _ => #[]
theorem fnIs_of {K : Frag} {a : Addr} {ps : List Str} {sc : Scope} {body : List Stmt} (h1 : K.lookup a = some ⟨ocOf K a, odOf K a, .func (fdOf K a), osOf K a⟩) (h2 : (fdOf K a).body = .stmts body) (h3 : (fdOf K a).scope = sc) (h4 : (fdOf K a).globals = mainGlobals) (h5 : (fdOf K a).closure = []) (h6 : (fdOf K a).builtins = builtinsNs) (h7 : codeIn K (fdOf K a).code (fdOf K a).qualname = true)
    (h8 : ∀ ws : List Value, ws.length = ps.length → bindArgs (fdOf K a) ⟨ws, []⟩ = pure (ps.zip ws)) : FnIs K a ps sc body := ⟨_, _, _, _, h1, h2, h3, h4, h5, h6, h7, h8⟩
theorem len0 {F : List Value → Prop} (h : F []) : ∀ ws : List Value, ws.length = 0 → F ws := fun ws hw => by cases ws with | nil => exact h | cons x r => cases hw
theorem lenS {F : List Value → Prop} {n : Nat} (h : ∀ (x : Value) (ws : List Value), ws.length = n → F (x :: ws)) : ∀ ws : List Value, ws.length = n + 1 → F ws := fun ws hw => by cases ws with | nil => cases hw | cons x r => exact h x r (Nat.succ.inj hw)
set_option genInjectivity false in
structure Facts (K : Frag) : Prop where
  b_len : nsIn K mainGlobals ("len" : Str) = some none
  b_sorted : nsIn K mainGlobals ("sorted" : Str) = some none
  b_set : nsIn K mainGlobals ("set" : Str) = some none
  b_tuple : nsIn K mainGlobals ("tuple" : Str) = some none
  b_list : nsIn K mainGlobals ("list" : Str) = some none
  b_isinstance : nsIn K mainGlobals ("isinstance" : Str) = some none
  b_str : nsIn K mainGlobals ("str" : Str) = some none
  b_enumerate : nsIn K mainGlobals ("enumerate" : Str) = some none
  b_reversed : nsIn K mainGlobals ("reversed" : Str) = some none
  b_range : nsIn K mainGlobals ("range" : Str) = some none
  b_dict : nsIn K mainGlobals ("dict" : Str) = some none
  n_is_variable : nsIn K mainGlobals ("is_variable" : Str) = some (some (.ref (ad K "is_variable")))
  k_is_variable : keepIn K (.ref (ad K "is_variable")) = true
  f_is_variable : FnIs K (ad K "is_variable") [("t" : Str)] (scopeOf (stm 7)) (bodyOf (stm 7))
  n_variables : nsIn K mainGlobals ("variables" : Str) = some (some (.ref (ad K "variables")))
  k_variables : keepIn K (.ref (ad K "variables")) = true
  f_variables : FnIs K (ad K "variables") [("t" : Str)] (scopeOf (stm 8)) (bodyOf (stm 8))
  n_placed : nsIn K mainGlobals ("placed" : Str) = some (some (.ref (ad K "placed")))
  k_placed : keepIn K (.ref (ad K "placed")) = true
  f_placed : FnIs K (ad K "placed") [("pattern" : Str), ("table" : Str)] (scopeOf (stm 9)) (bodyOf (stm 9))
  n_parts : nsIn K mainGlobals ("parts" : Str) = some (some (.ref (ad K "parts")))
  k_parts : keepIn K (.ref (ad K "parts")) = true
  f_parts : FnIs K (ad K "parts") [("t" : Str)] (scopeOf (stm 10)) (bodyOf (stm 10))
  n_part_at : nsIn K mainGlobals ("part_at" : Str) = some (some (.ref (ad K "part_at")))
  k_part_at : keepIn K (.ref (ad K "part_at")) = true
  f_part_at : FnIs K (ad K "part_at") [("t" : Str), ("path" : Str)] (scopeOf (stm 11)) (bodyOf (stm 11))
  n_replaced : nsIn K mainGlobals ("replaced" : Str) = some (some (.ref (ad K "replaced")))
  k_replaced : keepIn K (.ref (ad K "replaced")) = true
  f_replaced : FnIs K (ad K "replaced") [("t" : Str), ("path" : Str), ("u" : Str)] (scopeOf (stm 12)) (bodyOf (stm 12))
  n_parts_of : nsIn K mainGlobals ("parts_of" : Str) = some (some (.ref (ad K "parts_of")))
  k_parts_of : keepIn K (.ref (ad K "parts_of")) = true
  f_parts_of : FnIs K (ad K "parts_of") [("paper" : Str)] (scopeOf (stm 14)) (bodyOf (stm 14))
  n_is_plain_term : nsIn K mainGlobals ("is_plain_term" : Str) = some (some (.ref (ad K "is_plain_term")))
  k_is_plain_term : keepIn K (.ref (ad K "is_plain_term")) = true
  f_is_plain_term : FnIs K (ad K "is_plain_term") [("thing" : Str)] (scopeOf (stm 15)) (bodyOf (stm 15))
  n_are_places : nsIn K mainGlobals ("are_places" : Str) = some (some (.ref (ad K "are_places")))
  k_are_places : keepIn K (.ref (ad K "are_places")) = true
  f_are_places : FnIs K (ad K "are_places") [("thing" : Str)] (scopeOf (stm 16)) (bodyOf (stm 16))
  n_has_form : nsIn K mainGlobals ("has_form" : Str) = some (some (.ref (ad K "has_form")))
  k_has_form : keepIn K (.ref (ad K "has_form")) = true
  f_has_form : FnIs K (ad K "has_form") [("thing" : Str)] (scopeOf (stm 17)) (bodyOf (stm 17))
  n_in_order : nsIn K mainGlobals ("in_order" : Str) = some (some (.ref (ad K "in_order")))
  k_in_order : keepIn K (.ref (ad K "in_order")) = true
  f_in_order : FnIs K (ad K "in_order") [("paper" : Str)] (scopeOf (stm 18)) (bodyOf (stm 18))
  n_want_form : nsIn K mainGlobals ("want_form" : Str) = some (some (.ref (ad K "want_form")))
  k_want_form : keepIn K (.ref (ad K "want_form")) = true
  f_want_form : FnIs K (ad K "want_form") [("paper" : Str), ("path" : Str)] (scopeOf (stm 19)) (bodyOf (stm 19))
  n_turned_step : nsIn K mainGlobals ("turned_step" : Str) = some (some (.ref (ad K "turned_step")))
  k_turned_step : keepIn K (.ref (ad K "turned_step")) = true
  f_turned_step : FnIs K (ad K "turned_step") [("step" : Str)] (scopeOf (stm 21)) (bodyOf (stm 21))
  n_deeper : nsIn K mainGlobals ("deeper" : Str) = some (some (.ref (ad K "deeper")))
  k_deeper : keepIn K (.ref (ad K "deeper")) = true
  f_deeper : FnIs K (ad K "deeper") [("step" : Str), ("k" : Str)] (scopeOf (stm 22)) (bodyOf (stm 22))
  n_law_draw : nsIn K mainGlobals ("_law_draw" : Str) = some (some (.ref (ad K "_law_draw")))
  k_law_draw : keepIn K (.ref (ad K "_law_draw")) = true
  f_law_draw : FnIs K (ad K "_law_draw") [("feed" : Str), ("wide" : Str)] (scopeOf (stm 27)) (bodyOf (stm 27))
  n_law_tree : nsIn K mainGlobals ("_law_tree" : Str) = some (some (.ref (ad K "_law_tree")))
  k_law_tree : keepIn K (.ref (ad K "_law_tree")) = true
  f_law_tree : FnIs K (ad K "_law_tree") [("feed" : Str), ("deep" : Str)] (scopeOf (stm 28)) (bodyOf (stm 28))
  n_law_told : nsIn K mainGlobals ("_law_told" : Str) = some (some (.ref (ad K "_law_told")))
  k_law_told : keepIn K (.ref (ad K "_law_told")) = true
  f_law_told : FnIs K (ad K "_law_told") [("feed" : Str), ("known" : Str), ("tree" : Str), ("is_back" : Str)] (scopeOf (stm 29)) (bodyOf (stm 29))
  n_law_ruled : nsIn K mainGlobals ("_law_ruled" : Str) = some (some (.ref (ad K "_law_ruled")))
  k_law_ruled : keepIn K (.ref (ad K "_law_ruled")) = true
  f_law_ruled : FnIs K (ad K "_law_ruled") [("feed" : Str), ("known" : Str), ("tree" : Str)] (scopeOf (stm 30)) (bodyOf (stm 30))
  n_law_paper : nsIn K mainGlobals ("_law_paper" : Str) = some (some (.ref (ad K "_law_paper")))
  k_law_paper : keepIn K (.ref (ad K "_law_paper")) = true
  f_law_paper : FnIs K (ad K "_law_paper") [("feed" : Str), ("known" : Str), ("tree" : Str), ("deep" : Str)] (scopeOf (stm 31)) (bodyOf (stm 31))
  n_law_put_at : nsIn K mainGlobals ("_law_put_at" : Str) = some (some (.ref (ad K "_law_put_at")))
  k_law_put_at : keepIn K (.ref (ad K "_law_put_at")) = true
  f_law_put_at : FnIs K (ad K "_law_put_at") [("tree" : Str), ("path" : Str), ("other" : Str)] (scopeOf (stm 32)) (bodyOf (stm 32))
  n_law_comes : nsIn K mainGlobals ("_law_comes" : Str) = some (some (.ref (ad K "_law_comes")))
  k_law_comes : keepIn K (.ref (ad K "_law_comes")) = true
  f_law_comes : FnIs K (ad K "_law_comes") [("row" : Str), ("known" : Str)] (scopeOf (stm 33)) (bodyOf (stm 33))
  n_Judge : nsIn K mainGlobals ("Judge" : Str) = some (some (.ref (ad K "Judge")))
  k_Judge : keepIn K (.ref (ad K "Judge")) = true
  f_Judge_init : FnIs K (md K (ad K "Judge") "__init__") [("self" : Str), ("rules" : Str), ("told" : Str)] (scopeOf (mth 20 0)) (bodyOf (mth 20 0))
  f_Judge_told_sides : FnIs K (md K (ad K "Judge") "told_sides") [("self" : Str), ("label" : Str), ("place" : Str)] (scopeOf (mth 20 1)) (bodyOf (mth 20 1))
  m_Judge_told_sides : Meth K (ad K "Judge") "told_sides" (md K (ad K "Judge") "told_sides")
  f_Judge_rule_sides : FnIs K (md K (ad K "Judge") "rule_sides") [("self" : Str), ("name" : Str), ("places" : Str), ("place" : Str)] (scopeOf (mth 20 2)) (bodyOf (mth 20 2))
  m_Judge_rule_sides : Meth K (ad K "Judge") "rule_sides" (md K (ad K "Judge") "rule_sides")
  f_Judge_sides_of : FnIs K (md K (ad K "Judge") "sides_of") [("self" : Str), ("paper" : Str), ("path" : Str), ("sides" : Str)] (scopeOf (mth 20 3)) (bodyOf (mth 20 3))
  m_Judge_sides_of : Meth K (ad K "Judge") "sides_of" (md K (ad K "Judge") "sides_of")
  f_Judge_sides : FnIs K (md K (ad K "Judge") "sides") [("self" : Str), ("paper" : Str)] (scopeOf (mth 20 4)) (bodyOf (mth 20 4))
  m_Judge_sides : Meth K (ad K "Judge") "sides" (md K (ad K "Judge") "sides")
  mk_Judge : Maker K (ad K "Judge") (md K (ad K "Judge") "__init__")
  p_Judge_rules : Plain K (ad K "Judge") "rules"
  s_Judge_rules : Setter K (ad K "Judge") "rules"
  p_Judge_told : Plain K (ad K "Judge") "told"
  s_Judge_told : Setter K (ad K "Judge") "told"
  n_Steps : nsIn K mainGlobals ("Steps" : Str) = some (some (.ref (ad K "Steps")))
  k_Steps : keepIn K (.ref (ad K "Steps")) = true
  f_Steps_init : FnIs K (md K (ad K "Steps") "__init__") [("self" : Str), ("judge" : Str)] (scopeOf (mth 23 0)) (bodyOf (mth 23 0))
  f_Steps_of_paper : FnIs K (md K (ad K "Steps") "of_paper") [("self" : Str), ("paper" : Str)] (scopeOf (mth 23 1)) (bodyOf (mth 23 1))
  m_Steps_of_paper : Meth K (ad K "Steps") "of_paper" (md K (ad K "Steps") "of_paper")
  f_Steps_sides : FnIs K (md K (ad K "Steps") "sides") [("self" : Str), ("step" : Str), ("number" : Str)] (scopeOf (mth 23 2)) (bodyOf (mth 23 2))
  m_Steps_sides : Meth K (ad K "Steps") "sides" (md K (ad K "Steps") "sides")
  f_Steps_stepped : FnIs K (md K (ad K "Steps") "stepped") [("self" : Str), ("term" : Str), ("step" : Str), ("number" : Str)] (scopeOf (mth 23 3)) (bodyOf (mth 23 3))
  m_Steps_stepped : Meth K (ad K "Steps") "stepped" (md K (ad K "Steps") "stepped")
  f_Steps_walk : FnIs K (md K (ad K "Steps") "walk") [("self" : Str), ("term" : Str), ("steps" : Str)] (scopeOf (mth 23 4)) (bodyOf (mth 23 4))
  m_Steps_walk : Meth K (ad K "Steps") "walk" (md K (ad K "Steps") "walk")
  mk_Steps : Maker K (ad K "Steps") (md K (ad K "Steps") "__init__")
  p_Steps_judge : Plain K (ad K "Steps") "judge"
  s_Steps_judge : Setter K (ad K "Steps") "judge"
  n_Rule : nsIn K mainGlobals ("Rule" : Str) = some (some (.ref (ad K "Rule")))
  k_Rule : keepIn K (.ref (ad K "Rule")) = true
  f_Rule_init : FnIs K (md K (ad K "Rule") "__init__") [("self" : Str), ("name" : Str), ("left" : Str), ("right" : Str), ("needs" : Str)] (scopeOf (mth 25 0)) (bodyOf (mth 25 0))
  mk_Rule : Maker K (ad K "Rule") (md K (ad K "Rule") "__init__")
  p_Rule_name : Plain K (ad K "Rule") "name"
  s_Rule_name : Setter K (ad K "Rule") "name"
  p_Rule_left : Plain K (ad K "Rule") "left"
  s_Rule_left : Setter K (ad K "Rule") "left"
  p_Rule_right : Plain K (ad K "Rule") "right"
  s_Rule_right : Setter K (ad K "Rule") "right"
  p_Rule_needs : Plain K (ad K "Rule") "needs"
  s_Rule_needs : Setter K (ad K "Rule") "needs"
theorem hasOf {g : G} (F : Facts g.K) : Nonempty (Has g) := ⟨{
  b_len := F.b_len
  b_sorted := F.b_sorted
  b_set := F.b_set
  b_tuple := F.b_tuple
  b_list := F.b_list
  b_isinstance := F.b_isinstance
  b_str := F.b_str
  b_enumerate := F.b_enumerate
  b_reversed := F.b_reversed
  b_range := F.b_range
  b_dict := F.b_dict
  a_is_variable := ad g.K "is_variable"
  n_is_variable := F.n_is_variable
  k_is_variable := F.k_is_variable
  f_is_variable := F.f_is_variable
  a_variables := ad g.K "variables"
  n_variables := F.n_variables
  k_variables := F.k_variables
  f_variables := F.f_variables
  a_placed := ad g.K "placed"
  n_placed := F.n_placed
  k_placed := F.k_placed
  f_placed := F.f_placed
  a_parts := ad g.K "parts"
  n_parts := F.n_parts
  k_parts := F.k_parts
  f_parts := F.f_parts
  a_part_at := ad g.K "part_at"
  n_part_at := F.n_part_at
  k_part_at := F.k_part_at
  f_part_at := F.f_part_at
  a_replaced := ad g.K "replaced"
  n_replaced := F.n_replaced
  k_replaced := F.k_replaced
  f_replaced := F.f_replaced
  a_parts_of := ad g.K "parts_of"
  n_parts_of := F.n_parts_of
  k_parts_of := F.k_parts_of
  f_parts_of := F.f_parts_of
  a_is_plain_term := ad g.K "is_plain_term"
  n_is_plain_term := F.n_is_plain_term
  k_is_plain_term := F.k_is_plain_term
  f_is_plain_term := F.f_is_plain_term
  a_are_places := ad g.K "are_places"
  n_are_places := F.n_are_places
  k_are_places := F.k_are_places
  f_are_places := F.f_are_places
  a_has_form := ad g.K "has_form"
  n_has_form := F.n_has_form
  k_has_form := F.k_has_form
  f_has_form := F.f_has_form
  a_in_order := ad g.K "in_order"
  n_in_order := F.n_in_order
  k_in_order := F.k_in_order
  f_in_order := F.f_in_order
  a_want_form := ad g.K "want_form"
  n_want_form := F.n_want_form
  k_want_form := F.k_want_form
  f_want_form := F.f_want_form
  a_turned_step := ad g.K "turned_step"
  n_turned_step := F.n_turned_step
  k_turned_step := F.k_turned_step
  f_turned_step := F.f_turned_step
  a_deeper := ad g.K "deeper"
  n_deeper := F.n_deeper
  k_deeper := F.k_deeper
  f_deeper := F.f_deeper
  a_law_draw := ad g.K "_law_draw"
  n_law_draw := F.n_law_draw
  k_law_draw := F.k_law_draw
  f_law_draw := F.f_law_draw
  a_law_tree := ad g.K "_law_tree"
  n_law_tree := F.n_law_tree
  k_law_tree := F.k_law_tree
  f_law_tree := F.f_law_tree
  a_law_told := ad g.K "_law_told"
  n_law_told := F.n_law_told
  k_law_told := F.k_law_told
  f_law_told := F.f_law_told
  a_law_ruled := ad g.K "_law_ruled"
  n_law_ruled := F.n_law_ruled
  k_law_ruled := F.k_law_ruled
  f_law_ruled := F.f_law_ruled
  a_law_paper := ad g.K "_law_paper"
  n_law_paper := F.n_law_paper
  k_law_paper := F.k_law_paper
  f_law_paper := F.f_law_paper
  a_law_put_at := ad g.K "_law_put_at"
  n_law_put_at := F.n_law_put_at
  k_law_put_at := F.k_law_put_at
  f_law_put_at := F.f_law_put_at
  a_law_comes := ad g.K "_law_comes"
  n_law_comes := F.n_law_comes
  k_law_comes := F.k_law_comes
  f_law_comes := F.f_law_comes
  c_Judge := ad g.K "Judge"
  n_Judge := F.n_Judge
  k_Judge := F.k_Judge
  a_Judge_init := md g.K (ad g.K "Judge") "__init__"
  f_Judge_init := F.f_Judge_init
  a_Judge_told_sides := md g.K (ad g.K "Judge") "told_sides"
  f_Judge_told_sides := F.f_Judge_told_sides
  m_Judge_told_sides := F.m_Judge_told_sides
  a_Judge_rule_sides := md g.K (ad g.K "Judge") "rule_sides"
  f_Judge_rule_sides := F.f_Judge_rule_sides
  m_Judge_rule_sides := F.m_Judge_rule_sides
  a_Judge_sides_of := md g.K (ad g.K "Judge") "sides_of"
  f_Judge_sides_of := F.f_Judge_sides_of
  m_Judge_sides_of := F.m_Judge_sides_of
  a_Judge_sides := md g.K (ad g.K "Judge") "sides"
  f_Judge_sides := F.f_Judge_sides
  m_Judge_sides := F.m_Judge_sides
  mk_Judge := F.mk_Judge
  p_Judge_rules := F.p_Judge_rules
  s_Judge_rules := F.s_Judge_rules
  p_Judge_told := F.p_Judge_told
  s_Judge_told := F.s_Judge_told
  c_Steps := ad g.K "Steps"
  n_Steps := F.n_Steps
  k_Steps := F.k_Steps
  a_Steps_init := md g.K (ad g.K "Steps") "__init__"
  f_Steps_init := F.f_Steps_init
  a_Steps_of_paper := md g.K (ad g.K "Steps") "of_paper"
  f_Steps_of_paper := F.f_Steps_of_paper
  m_Steps_of_paper := F.m_Steps_of_paper
  a_Steps_sides := md g.K (ad g.K "Steps") "sides"
  f_Steps_sides := F.f_Steps_sides
  m_Steps_sides := F.m_Steps_sides
  a_Steps_stepped := md g.K (ad g.K "Steps") "stepped"
  f_Steps_stepped := F.f_Steps_stepped
  m_Steps_stepped := F.m_Steps_stepped
  a_Steps_walk := md g.K (ad g.K "Steps") "walk"
  f_Steps_walk := F.f_Steps_walk
  m_Steps_walk := F.m_Steps_walk
  mk_Steps := F.mk_Steps
  p_Steps_judge := F.p_Steps_judge
  s_Steps_judge := F.s_Steps_judge
  c_Rule := ad g.K "Rule"
  n_Rule := F.n_Rule
  k_Rule := F.k_Rule
  a_Rule_init := md g.K (ad g.K "Rule") "__init__"
  f_Rule_init := F.f_Rule_init
  mk_Rule := F.mk_Rule
  p_Rule_name := F.p_Rule_name
  s_Rule_name := F.s_Rule_name
  p_Rule_left := F.p_Rule_left
  s_Rule_left := F.s_Rule_left
  p_Rule_right := F.p_Rule_right
  s_Rule_right := F.s_Rule_right
  p_Rule_needs := F.p_Rule_needs
  s_Rule_needs := F.s_Rule_needs
  }⟩
end Mine
end PartP29b
noncomputable section PartP30b
open PySem PySem.W PyProof.Rows
set_option linter.all false
set_option maxRecDepth 100000
set_option maxHeartbeats 8000000
namespace Mine
theorem EL.use {g : G} {n : Nat} {sc : Scope} {ss : List Stmt} {ρ : List (Str × V)} {σ : List Slot} {o : Outc} (h : EL g n sc ss ρ σ o) {A : Around} {env : Env} {s : Shared} {Q : Flow → Shared → Prop} {E : Value → Shared → Prop} (μ : List Addr)
    (r : Room n A) (f : Frm g env sc μ ρ s.heap) (m : Mem g μ σ s) (k : ∀ f s' μ', ExtS env μ s.heap μ' s'.heap → OutcAt g env sc μ' s' o f → Q f s') : wpAny g.M A (execs ss env) Q E s := h A env μ s Q E r f m k
theorem rds_of_ints {h : Heap} : ∀ {vs : List Value} {ns : List Int}, IntsAre vs ns → Rds [] h (ns.map .int) vs
  | _, _, .nil => rds_nil.mpr rfl
  | _, _, .cons n t e => rds_cons.mpr ⟨_, _, rfl, rd_int.mpr ⟨t, rfl⟩, rds_of_ints e⟩
theorem ints_len : ∀ {vs : List Value} {ns : List Int}, IntsAre vs ns → vs.length = ns.length
  | _, _, .nil => rfl
  | _, _, .cons n t e => by simp [ints_len e]
theorem lawScope_nocell : ∀ (x : Str), (scopeOf (stm 34)).names.lookup x ≠ some NameKind.cell := by
  have h0 : ((scopeOf (stm 34)).names.all fun y => y.2 != .cell) = true := by decide +kernel
  intro x e
  have key : ∀ l : List (Str × NameKind), (l.all fun y => y.2 != .cell) = true → l.lookup x ≠ some NameKind.cell := by
    intro l
    induction l with
    | nil => intro _ h; cases h
    | cons y l ih =>
      intro h1 h2
      simp only [List.all_cons, Bool.and_eq_true, bne_iff_ne, ne_eq] at h1
      rw [List.lookup_cons] at h2
      split at h2
      · exact h1.1 (Option.some.inj h2)
      · exact ih h1.2 h2
  exact key _ h0 e
theorem lawScope_local : (scopeOf (stm 34)).names.lookup ("script" : Str) = some NameKind.local := by decide +kernel
theorem lawScope_kind : (scopeOf (stm 34)).kind = ScopeKind.function := by decide +kernel
theorem law_fin {prog : Program} {w : World} {s₁ : Shared} {h₁ : Heap} {p : Program} {loose : List Str} {mean : ExcName → Option Value} {mg mb : Str → Option Value} {m : Str → Option Value} {l fa : Addr} {cd : Value} {name : Str} {ns : List Int} {vs : List Value} {tk : Nat} {Kf : Params → Frag} {Q : Flow → Shared → Prop} {E : Value → Shared → Prop}
    (FK : Facts (Kf w.params)) (KX : (Kf w.params).In s₁.heap) (T : Top p loose mean mg mb s₁.heap) (hg : s₁.gens = #[]) (F : Fr s₁.heap s₁.heap.objs.size h₁ m) (hm : m "script" = some (.ref l)) (W : Well w.params s₁.heap (.ref l) (ofPy (PyData.list (ns.map .int))))
    (hL : s₁.heap.IsList l vs.toArray) (hI : IntsAre vs ns) (hlen : ns.length ≤ 63)
    (hQ : ∀ s', (∀ b o, s₁.heap.get? b = some o → s'.heap.get? b = some o) → s'.os = s₁.os → s'.gens = #[] → Q (.ret (.bool true)) s') :
    wpAny (model prog w) (callerA.deeper (envOf name (scopeOf (stm 34)) s₁.heap.objs.size fa cd)) (execs (bodyOf (stm 34)) (envOf name (scopeOf (stm 34)) s₁.heap.objs.size fa cd)) Q E { heap := h₁, gens := s₁.gens, drawn := s₁.drawn, toks := tk, os := s₁.os } := by
  let g : G := ⟨prog, w, Kf w.params, s₁.heap, s₁.os, p, loose, mean, mg, mb, KX, T⟩
  obtain ⟨H⟩ := hasOf (g := g) FK
  obtain ⟨σ', hEL⟩ := law_holds H ns
  have hnone : s₁.heap.get? s₁.heap.objs.size = none := size_none
  have hl : IsL s₁.heap l vs.toArray 0 := by
    simp only [ofPy] at W
    cases W with
    | list h _ =>
      obtain ⟨o, ho, hc, n, hd⟩ := hL
      rw [h] at ho
      obtain rfl := Option.some.inj ho
      simp only [Data.seq.injEq] at hd
      rw [← hd.1]; exact h
  with_reducible refine EL.use (g := g) hEL [] ?_ ?_ ?_ ?_
  refine ⟨rfl, ?_, ?_⟩
  · show 1 + 300 + 1 + 290 ≤ 600; omega
  · show 4 + 3 + 10 * 290 ≤ 6000; omega
  · refine ⟨rfl, lawScope_kind, rfl, rfl, hnone, by simp, ?_, ?_, ?_, m, F.ns, ?_⟩
    · intro x c h; cases h
    · intro x y c h; cases h
    · intro x h; exact absurd h (lawScope_nocell x)
    · intro x v hx
      rw [List.lookup_cons] at hx
      split at hx
      · rename_i hxs
        have hxs' : x = "script" := by simpa using hxs
        obtain rfl := Option.some.inj hx
        subst hxs'
        refine ⟨.ref l, ?_, .inl ⟨lawScope_local, hm⟩⟩
        refine rd_list.mpr ⟨l, vs.toArray, 0, rfl, by simp, F.keep _ _ hl, ?_, by simpa using rds_of_ints hI⟩
        have := ints_len hI
        have := sl
        simp; omega
      · cases hx
  · exact ⟨fun b o e => F.keep b o e, hg, rfl, rfl, List.nodup_nil, by simp, by intro i a x h; simp at h⟩
  · rintro f s' μ' X ⟨w', rfl, M', V'⟩
    obtain rfl : w' = .bool true := rd_bool.mp (vr_dat.mp V')
    exact hQ s' M'.base M'.os M'.gens
end Mine
end PartP30b
noncomputable section PartP31b
open PySem PySem.W PyProof.Rows
set_option maxRecDepth 100000
set_option maxHeartbeats 8000000
namespace Mine
theorem law_good {cl : Str → Option Addr} {mean : ExcName → Option Value} {args : List WData} {s₁ s' : Shared} (k1 : ∀ b o, s₁.heap.get? b = some o → s'.heap.get? b = some o) (k2 : s'.os = s₁.os) (k3 : s'.gens = #[]) :
    GoodW PySem.Challenge.rw_pq0055_02.row.claim cl mean args s₁ (.ok (.ret (.bool true))) s' := by
  refine ⟨.inl ⟨.bool true, .bool true, [], rfl, fun cls => ?_, ?_, ?_, ?_⟩, k1, k2, k3⟩
  · rfl
  · exact .bool true
  · kernel_rfl
  · intro _; exact ⟨List.nodup_nil, by simp⟩
theorem tt.tw17932892889936090294 : True := trivial
theorem tt.tw10266107322730264069 : True := trivial
theorem tt.tw9029294000210967315 : True := trivial
theorem tt.tw16565447491512849941 : True := trivial
theorem tt.tw6705571973224083141 : True := trivial
theorem tt.tw9530719706240925352 : True := trivial
theorem tt.tw11764890367905361934 : True := trivial
theorem tt.tw13980387081761228961 : True := trivial
theorem tt.tw3484813844017618180 : True := trivial
theorem tt.tw11057095172107862993 : True := trivial
theorem tt.tw1828467150682550377 : True := trivial
theorem tt.tw12928519215755168004 : True := trivial
theorem tt.tw12729229886796242478 : True := trivial
theorem tt.tw2708168263139212844 : True := trivial
theorem tt.tw2723313050393894602 : True := trivial
theorem tt.tw12437060140455700750 : True := trivial
theorem tt.tw17709456397888057165 : True := trivial
theorem tt.tw13385165270425039802 : True := trivial
theorem tt.tw44640388258848065 : True := trivial
theorem tt.tw205319402512255483 : True := trivial
theorem tt.tw12942090739961453499 : True := trivial
theorem tt.tw14671002741414715385 : True := trivial
theorem tt.tw4102262332599350234 : True := trivial
theorem tt.tw12013761102778122552 : True := trivial
theorem tt.tw16564550525883027280 : True := trivial
theorem tt.tw17881977236224200368 : True := trivial
theorem tt.tw9822388987417049877 : True := trivial
theorem tt.tw9667849692600609869 : True := trivial
theorem tt.tw17457729540164062097 : True := trivial
theorem tt.tw16641435261581664037 : True := trivial
theorem tt.tw3328598821780065165 : True := trivial
theorem tt.tw16861292110034229834 : True := trivial
theorem tt.tw4461007205715639879 : True := trivial
theorem tt.tw6520727084414002827 : True := trivial
theorem tt.tw17680596047155830574 : True := trivial
theorem tt.tw8156863900221373583 : True := trivial
theorem tt.tw14709218066395561808 : True := trivial
theorem tt.tw10459745526921146660 : True := trivial
theorem tt.tw6985590810900254973 : True := trivial
theorem tt.tw13793238257053813494 : True := trivial
theorem tt.tw9133568230962416603 : True := trivial
theorem tt.tw8573076195340232911 : True := trivial
theorem tt.tw11801343915815075210 : True := trivial
theorem tt.tw14330534386520923528 : True := trivial
theorem tt.tw4958134643662795121 : True := trivial
theorem tt.tw7199286336744299796 : True := trivial
theorem tt.tw13849509896240428146 : True := trivial
theorem tt.tw3616677228440079585 : True := trivial
theorem tt.tw15216141249059217130 : True := trivial
theorem tt.tw15938801205111150908 : True := trivial
theorem tt.tw2689844803657660607 : True := trivial
theorem tt.tw10053489838484807077 : True := trivial
theorem tt.tw9308087255799817895 : True := trivial
theorem tt.tw3863134570233288364 : True := trivial
theorem tt.tw14586828215054993387 : True := trivial
theorem tt.tw14030953181914710835 : True := trivial
theorem tt.tw11506024719845776510 : True := trivial
theorem tt.tw9862334231172404068 : True := trivial
theorem tt.tw13573520533207658561 : True := trivial
theorem tt.tw10086359938272142751 : True := trivial
theorem tt.tw16039069859189290004 : True := trivial
theorem tt.tw15989378713386335163 : True := trivial
theorem tt.tw7385405900594588585 : True := trivial
theorem tt.tw3211136681117122064 : True := trivial
theorem tt.tw585127770826099818 : True := trivial
theorem tt.tw1615929970851352217 : True := trivial
theorem tt.tw10701759736366944138 : True := trivial
theorem tt.tw10777209115471975251 : True := trivial
theorem tt.tw15222517830676758323 : True := trivial
theorem tt.tw7727279649056094764 : True := trivial
theorem tt.tw11121865131217135005 : True := trivial
theorem tt.tw17489044758822260144 : True := trivial
theorem tt.tw1539639394724877141 : True := trivial
theorem tt.tw10143959824290413508 : True := trivial
theorem tt.tw4480137390502541955 : True := trivial
theorem tt.tw10454472638777327160 : True := trivial
theorem tt.tw16564296207161793061 : True := trivial
theorem tt.tw12849781785518897757 : True := trivial
theorem tt.tw8451912328782275924 : True := trivial
theorem tt.tw9270887557601313043 : True := trivial
theorem tt.tw18236181584517155826 : True := trivial
theorem tt.tw4766227094069981178 : True := trivial
theorem tt.tw15522084042314810309 : True := trivial
theorem tt.tw2489788169309172581 : True := trivial
theorem tt.tw12896134098843945685 : True := trivial
theorem tt.tw12208993961652306275 : True := trivial
theorem tt.tw6207121497745694490 : True := trivial
theorem tt.tw11610981549366223591 : True := trivial
theorem tt.tw4728024636517787884 : True := trivial
theorem tt.tw2682455053756777066 : True := trivial
theorem tt.tw18323846132004334846 : True := trivial
theorem tt.tw13604954742667153120 : True := trivial
theorem tt.tw7390803972589154826 : True := trivial
theorem tt.tw2818027444032698068 : True := trivial
theorem tt.tw14603171885384744289 : True := trivial
theorem tt.tw6739346166584876319 : True := trivial
theorem tt.tw13516407644856037998 : True := trivial
theorem tt.tw3149215934262255841 : True := trivial
theorem tt.tw5016470080598756948 : True := trivial
theorem tt.tw9155218051627095959 : True := trivial
theorem tt.tw4253106939551658057 : True := trivial
theorem tt.tw6688100710974509039 : True := trivial
theorem tt.tw2132299564134377363 : True := trivial
theorem tt.tw15577260874676890658 : True := trivial
set_option Elab.async true in
theorem tt : PySem.Challenge.rw_pq0055_02.Holds := by
  w_on; o_law; k_head; (case hw => w_witness2); w_strict (k_go0; refine law_fin ?hF (by assumption) (by assumption) (by assumption) (by assumption) ?hm (by assumption) (by assumption) (by assumption) ?hlen ?hQ; (case hm => rfl); (case hlen => omega); (case hQ => exact fun s' k1 k2 k3 => law_good k1 k2 k3); (case hF => exact {
    b_len := by kernel_rfl
    b_sorted := by kernel_rfl
    b_set := by kernel_rfl
    b_tuple := by kernel_rfl
    b_list := by kernel_rfl
    b_isinstance := by kernel_rfl
    b_str := by kernel_rfl
    b_enumerate := by kernel_rfl
    b_reversed := by kernel_rfl
    b_range := by kernel_rfl
    b_dict := by kernel_rfl
    n_is_variable := by kernel_rfl
    k_is_variable := by kernel_rfl
    f_is_variable := fnIs_of (by kernel_rfl) (by kernel_rfl) (by kernel_rfl) (by kernel_rfl) (by kernel_rfl) (by kernel_rfl) (by kernel_rfl) (lenS fun x0 => len0 (by kernel_rfl))
    n_variables := by kernel_rfl
    k_variables := by kernel_rfl
    f_variables := fnIs_of (by kernel_rfl) (by kernel_rfl) (by kernel_rfl) (by kernel_rfl) (by kernel_rfl) (by kernel_rfl) (by kernel_rfl) (lenS fun x0 => len0 (by kernel_rfl))
    n_placed := by kernel_rfl
    k_placed := by kernel_rfl
    f_placed := fnIs_of (by kernel_rfl) (by kernel_rfl) (by kernel_rfl) (by kernel_rfl) (by kernel_rfl) (by kernel_rfl) (by kernel_rfl) (lenS fun x0 => lenS fun x1 => len0 (by kernel_rfl))
    n_parts := by kernel_rfl
    k_parts := by kernel_rfl
    f_parts := fnIs_of (by kernel_rfl) (by kernel_rfl) (by kernel_rfl) (by kernel_rfl) (by kernel_rfl) (by kernel_rfl) (by kernel_rfl) (lenS fun x0 => len0 (by kernel_rfl))
    n_part_at := by kernel_rfl
    k_part_at := by kernel_rfl
    f_part_at := fnIs_of (by kernel_rfl) (by kernel_rfl) (by kernel_rfl) (by kernel_rfl) (by kernel_rfl) (by kernel_rfl) (by kernel_rfl) (lenS fun x0 => lenS fun x1 => len0 (by kernel_rfl))
    n_replaced := by kernel_rfl
    k_replaced := by kernel_rfl
    f_replaced := fnIs_of (by kernel_rfl) (by kernel_rfl) (by kernel_rfl) (by kernel_rfl) (by kernel_rfl) (by kernel_rfl) (by kernel_rfl) (lenS fun x0 => lenS fun x1 => lenS fun x2 => len0 (by kernel_rfl))
    n_parts_of := by kernel_rfl
    k_parts_of := by kernel_rfl
    f_parts_of := fnIs_of (by kernel_rfl) (by kernel_rfl) (by kernel_rfl) (by kernel_rfl) (by kernel_rfl) (by kernel_rfl) (by kernel_rfl) (lenS fun x0 => len0 (by kernel_rfl))
    n_is_plain_term := by kernel_rfl
    k_is_plain_term := by kernel_rfl
    f_is_plain_term := fnIs_of (by kernel_rfl) (by kernel_rfl) (by kernel_rfl) (by kernel_rfl) (by kernel_rfl) (by kernel_rfl) (by kernel_rfl) (lenS fun x0 => len0 (by kernel_rfl))
    n_are_places := by kernel_rfl
    k_are_places := by kernel_rfl
    f_are_places := fnIs_of (by kernel_rfl) (by kernel_rfl) (by kernel_rfl) (by kernel_rfl) (by kernel_rfl) (by kernel_rfl) (by kernel_rfl) (lenS fun x0 => len0 (by kernel_rfl))
    n_has_form := by kernel_rfl
    k_has_form := by kernel_rfl
    f_has_form := fnIs_of (by kernel_rfl) (by kernel_rfl) (by kernel_rfl) (by kernel_rfl) (by kernel_rfl) (by kernel_rfl) (by kernel_rfl) (lenS fun x0 => len0 (by kernel_rfl))
    n_in_order := by kernel_rfl
    k_in_order := by kernel_rfl
    f_in_order := fnIs_of (by kernel_rfl) (by kernel_rfl) (by kernel_rfl) (by kernel_rfl) (by kernel_rfl) (by kernel_rfl) (by kernel_rfl) (lenS fun x0 => len0 (by kernel_rfl))
    n_want_form := by kernel_rfl
    k_want_form := by kernel_rfl
    f_want_form := fnIs_of (by kernel_rfl) (by kernel_rfl) (by kernel_rfl) (by kernel_rfl) (by kernel_rfl) (by kernel_rfl) (by kernel_rfl) (lenS fun x0 => lenS fun x1 => len0 (by kernel_rfl))
    n_turned_step := by kernel_rfl
    k_turned_step := by kernel_rfl
    f_turned_step := fnIs_of (by kernel_rfl) (by kernel_rfl) (by kernel_rfl) (by kernel_rfl) (by kernel_rfl) (by kernel_rfl) (by kernel_rfl) (lenS fun x0 => len0 (by kernel_rfl))
    n_deeper := by kernel_rfl
    k_deeper := by kernel_rfl
    f_deeper := fnIs_of (by kernel_rfl) (by kernel_rfl) (by kernel_rfl) (by kernel_rfl) (by kernel_rfl) (by kernel_rfl) (by kernel_rfl) (lenS fun x0 => lenS fun x1 => len0 (by kernel_rfl))
    n_law_draw := by kernel_rfl
    k_law_draw := by kernel_rfl
    f_law_draw := fnIs_of (by kernel_rfl) (by kernel_rfl) (by kernel_rfl) (by kernel_rfl) (by kernel_rfl) (by kernel_rfl) (by kernel_rfl) (lenS fun x0 => lenS fun x1 => len0 (by kernel_rfl))
    n_law_tree := by kernel_rfl
    k_law_tree := by kernel_rfl
    f_law_tree := fnIs_of (by kernel_rfl) (by kernel_rfl) (by kernel_rfl) (by kernel_rfl) (by kernel_rfl) (by kernel_rfl) (by kernel_rfl) (lenS fun x0 => lenS fun x1 => len0 (by kernel_rfl))
    n_law_told := by kernel_rfl
    k_law_told := by kernel_rfl
    f_law_told := fnIs_of (by kernel_rfl) (by kernel_rfl) (by kernel_rfl) (by kernel_rfl) (by kernel_rfl) (by kernel_rfl) (by kernel_rfl) (lenS fun x0 => lenS fun x1 => lenS fun x2 => lenS fun x3 => len0 (by kernel_rfl))
    n_law_ruled := by kernel_rfl
    k_law_ruled := by kernel_rfl
    f_law_ruled := fnIs_of (by kernel_rfl) (by kernel_rfl) (by kernel_rfl) (by kernel_rfl) (by kernel_rfl) (by kernel_rfl) (by kernel_rfl) (lenS fun x0 => lenS fun x1 => lenS fun x2 => len0 (by kernel_rfl))
    n_law_paper := by kernel_rfl
    k_law_paper := by kernel_rfl
    f_law_paper := fnIs_of (by kernel_rfl) (by kernel_rfl) (by kernel_rfl) (by kernel_rfl) (by kernel_rfl) (by kernel_rfl) (by kernel_rfl) (lenS fun x0 => lenS fun x1 => lenS fun x2 => lenS fun x3 => len0 (by kernel_rfl))
    n_law_put_at := by kernel_rfl
    k_law_put_at := by kernel_rfl
    f_law_put_at := fnIs_of (by kernel_rfl) (by kernel_rfl) (by kernel_rfl) (by kernel_rfl) (by kernel_rfl) (by kernel_rfl) (by kernel_rfl) (lenS fun x0 => lenS fun x1 => lenS fun x2 => len0 (by kernel_rfl))
    n_law_comes := by kernel_rfl
    k_law_comes := by kernel_rfl
    f_law_comes := fnIs_of (by kernel_rfl) (by kernel_rfl) (by kernel_rfl) (by kernel_rfl) (by kernel_rfl) (by kernel_rfl) (by kernel_rfl) (lenS fun x0 => lenS fun x1 => len0 (by kernel_rfl))
    n_Judge := by kernel_rfl
    k_Judge := by kernel_rfl
    f_Judge_init := fnIs_of (by kernel_rfl) (by kernel_rfl) (by kernel_rfl) (by kernel_rfl) (by kernel_rfl) (by kernel_rfl) (by kernel_rfl) (lenS fun x0 => lenS fun x1 => lenS fun x2 => len0 (by kernel_rfl))
    f_Judge_told_sides := fnIs_of (by kernel_rfl) (by kernel_rfl) (by kernel_rfl) (by kernel_rfl) (by kernel_rfl) (by kernel_rfl) (by kernel_rfl) (lenS fun x0 => lenS fun x1 => lenS fun x2 => len0 (by kernel_rfl))
    m_Judge_told_sides := ⟨by kernel_rfl, by kernel_rfl, by kernel_rfl, by kernel_rfl⟩
    f_Judge_rule_sides := fnIs_of (by kernel_rfl) (by kernel_rfl) (by kernel_rfl) (by kernel_rfl) (by kernel_rfl) (by kernel_rfl) (by kernel_rfl) (lenS fun x0 => lenS fun x1 => lenS fun x2 => lenS fun x3 => len0 (by kernel_rfl))
    m_Judge_rule_sides := ⟨by kernel_rfl, by kernel_rfl, by kernel_rfl, by kernel_rfl⟩
    f_Judge_sides_of := fnIs_of (by kernel_rfl) (by kernel_rfl) (by kernel_rfl) (by kernel_rfl) (by kernel_rfl) (by kernel_rfl) (by kernel_rfl) (lenS fun x0 => lenS fun x1 => lenS fun x2 => lenS fun x3 => len0 (by kernel_rfl))
    m_Judge_sides_of := ⟨by kernel_rfl, by kernel_rfl, by kernel_rfl, by kernel_rfl⟩
    f_Judge_sides := fnIs_of (by kernel_rfl) (by kernel_rfl) (by kernel_rfl) (by kernel_rfl) (by kernel_rfl) (by kernel_rfl) (by kernel_rfl) (lenS fun x0 => lenS fun x1 => len0 (by kernel_rfl))
    m_Judge_sides := ⟨by kernel_rfl, by kernel_rfl, by kernel_rfl, by kernel_rfl⟩
    mk_Judge := ⟨by kernel_rfl, by kernel_rfl, by kernel_rfl⟩
    p_Judge_rules := ⟨by kernel_rfl, by kernel_rfl, none, by kernel_rfl, by kernel_rfl⟩
    s_Judge_rules := ⟨by kernel_rfl, by kernel_rfl, by kernel_rfl, by kernel_rfl⟩
    p_Judge_told := ⟨by kernel_rfl, by kernel_rfl, none, by kernel_rfl, by kernel_rfl⟩
    s_Judge_told := ⟨by kernel_rfl, by kernel_rfl, by kernel_rfl, by kernel_rfl⟩
    n_Steps := by kernel_rfl
    k_Steps := by kernel_rfl
    f_Steps_init := fnIs_of (by kernel_rfl) (by kernel_rfl) (by kernel_rfl) (by kernel_rfl) (by kernel_rfl) (by kernel_rfl) (by kernel_rfl) (lenS fun x0 => lenS fun x1 => len0 (by kernel_rfl))
    f_Steps_of_paper := fnIs_of (by kernel_rfl) (by kernel_rfl) (by kernel_rfl) (by kernel_rfl) (by kernel_rfl) (by kernel_rfl) (by kernel_rfl) (lenS fun x0 => lenS fun x1 => len0 (by kernel_rfl))
    m_Steps_of_paper := ⟨by kernel_rfl, by kernel_rfl, by kernel_rfl, by kernel_rfl⟩
    f_Steps_sides := fnIs_of (by kernel_rfl) (by kernel_rfl) (by kernel_rfl) (by kernel_rfl) (by kernel_rfl) (by kernel_rfl) (by kernel_rfl) (lenS fun x0 => lenS fun x1 => lenS fun x2 => len0 (by kernel_rfl))
    m_Steps_sides := ⟨by kernel_rfl, by kernel_rfl, by kernel_rfl, by kernel_rfl⟩
    f_Steps_stepped := fnIs_of (by kernel_rfl) (by kernel_rfl) (by kernel_rfl) (by kernel_rfl) (by kernel_rfl) (by kernel_rfl) (by kernel_rfl) (lenS fun x0 => lenS fun x1 => lenS fun x2 => lenS fun x3 => len0 (by kernel_rfl))
    m_Steps_stepped := ⟨by kernel_rfl, by kernel_rfl, by kernel_rfl, by kernel_rfl⟩
    f_Steps_walk := fnIs_of (by kernel_rfl) (by kernel_rfl) (by kernel_rfl) (by kernel_rfl) (by kernel_rfl) (by kernel_rfl) (by kernel_rfl) (lenS fun x0 => lenS fun x1 => lenS fun x2 => len0 (by kernel_rfl))
    m_Steps_walk := ⟨by kernel_rfl, by kernel_rfl, by kernel_rfl, by kernel_rfl⟩
    mk_Steps := ⟨by kernel_rfl, by kernel_rfl, by kernel_rfl⟩
    p_Steps_judge := ⟨by kernel_rfl, by kernel_rfl, none, by kernel_rfl, by kernel_rfl⟩
    s_Steps_judge := ⟨by kernel_rfl, by kernel_rfl, by kernel_rfl, by kernel_rfl⟩
    n_Rule := by kernel_rfl
    k_Rule := by kernel_rfl
    f_Rule_init := fnIs_of (by kernel_rfl) (by kernel_rfl) (by kernel_rfl) (by kernel_rfl) (by kernel_rfl) (by kernel_rfl) (by kernel_rfl) (lenS fun x0 => lenS fun x1 => lenS fun x2 => lenS fun x3 => lenS fun x4 => len0 (by kernel_rfl))
    mk_Rule := ⟨by kernel_rfl, by kernel_rfl, by kernel_rfl⟩
    p_Rule_name := ⟨by kernel_rfl, by kernel_rfl, none, by kernel_rfl, by kernel_rfl⟩
    s_Rule_name := ⟨by kernel_rfl, by kernel_rfl, by kernel_rfl, by kernel_rfl⟩
    p_Rule_left := ⟨by kernel_rfl, by kernel_rfl, none, by kernel_rfl, by kernel_rfl⟩
    s_Rule_left := ⟨by kernel_rfl, by kernel_rfl, by kernel_rfl, by kernel_rfl⟩
    p_Rule_right := ⟨by kernel_rfl, by kernel_rfl, none, by kernel_rfl, by kernel_rfl⟩
    s_Rule_right := ⟨by kernel_rfl, by kernel_rfl, by kernel_rfl, by kernel_rfl⟩
    p_Rule_needs := ⟨by kernel_rfl, by kernel_rfl, none, by kernel_rfl, by kernel_rfl⟩
    s_Rule_needs := ⟨by kernel_rfl, by kernel_rfl, by kernel_rfl, by kernel_rfl⟩ }))
end Mine
end PartP31b
theorem PySem.Challenge.cw_pq0055_02_holds : PySem.Challenge.rw_pq0055_02.Holds :=
  Mine.tt
