import PyProof.Rows.All
import Wide.All
import OpenK.AllK
import Wide.FinOn
import Lean
import PySem.Challenge.RW_rh0198_01
open PySem PySem.W PyProof.Rows
set_option Elab.async false
set_option linter.unusedVariables false
set_option linter.unusedSimpArgs false
namespace Mine

/-! ## data and what of it lies in a heap -/

inductive D where
  | none
  | bool (b : Bool)
  | int (i : Int)
  | str (x : Str)
  | tup (xs : List D)
  | list (xs : List D)
  | sdict (ks : List Str) (vs : List D)
  | loc (a : Addr)
  | rng (a b c : Int)
  | idict (ks : List Int)
  | tdict (n : Nat)

section
variable (prog : Program) (w : World)
mutual
def R (h : Heap) : Value → D → Prop
  | v, .none => v = .none
  | v, .bool b => v = .bool b
  | v, .int i => ∃ t, v = .int i t
  | v, .str x => ∃ t, v = .str x t
  | v, .tup ds => ∃ a vs n, v = .ref a ∧ IsT h a vs n ∧ RL h vs.toList ds
  | v, .list ds => ∃ a vs n, v = .ref a ∧ IsL h a vs n ∧ RL h vs.toList ds
  | v, .sdict ks ds => ∃ a kvs, v = .ref a ∧ (a == sysModules) = false ∧ h.DictOf (strKind prog w) a kvs ∧ kvs.map (·.1) = ks ∧ RL h (kvs.map (·.2)) ds
  | v, .loc a => v = .ref a
  | v, .rng a b c => ∃ x t u q, v = .ref x ∧ IsRange h x a b c t u q
  | v, .idict ks => ∃ a, v = .ref a ∧ (a == sysModules) = false ∧ h.DictOf (intKind prog w) a (ks.map fun k => (k, Value.bool true))
  | v, .tdict n => ∃ a o es ep, v = .ref a ∧ (a == sysModules) = false ∧ h.get? a = some o ∧ o.ExactDict ∧ o.data = .dict es ep ∧ es.size = n
def RL (h : Heap) : List Value → List D → Prop
  | vs, [] => vs = []
  | vs, d :: ds => ∃ v r, vs = v :: r ∧ R h v d ∧ RL h r ds
end
end

def Sub (h h' : Heap) : Prop := ∀ b o, h.get? b = some o → h'.get? b = some o
theorem Sub.refl (h : Heap) : Sub h h := fun _ _ e => e
theorem Sub.trans {a b c : Heap} (x : Sub a b) (y : Sub b c) : Sub a c := fun _ _ e => y _ _ (x _ _ e)

section
variable {prog : Program} {w : World}
theorem dictOf_sub {K : Type} [DecidableEq K] {knd : KeyKind prog w K} {h h' : Heap} {a : Addr} {kvs : List (K × Value)} (x : h.DictOf knd a kvs) (e : ∀ o, h.get? a = some o → h'.get? a = some o) : h'.DictOf knd a kvs := by
  obtain ⟨o, es, ep, ho, r⟩ := x
  exact ⟨o, es, ep, e o ho, r⟩
mutual
theorem R.mono {h h' : Heap} (hs : Sub h h') : ∀ {d : D} {v : Value}, R prog w h v d → R prog w h' v d
  | .none, _, x => by simpa only [R] using x
  | .bool _, _, x => by simpa only [R] using x
  | .int _, _, x => by simpa only [R] using x
  | .str _, _, x => by simpa only [R] using x
  | .tup ds, _, x => by
    simp only [R] at x ⊢
    obtain ⟨a, vs, n, rfl, ht, hr⟩ := x
    exact ⟨a, vs, n, rfl, hs _ _ ht, RL.mono hs hr⟩
  | .list ds, _, x => by
    simp only [R] at x ⊢
    obtain ⟨a, vs, n, rfl, ht, hr⟩ := x
    exact ⟨a, vs, n, rfl, hs _ _ ht, RL.mono hs hr⟩
  | .sdict ks ds, _, x => by
    simp only [R] at x ⊢
    obtain ⟨a, kvs, rfl, hy, hd, hk, hr⟩ := x
    exact ⟨a, kvs, rfl, hy, dictOf_sub hd (fun o => hs _ o), hk, RL.mono hs hr⟩
  | .loc _, _, x => by simpa only [R] using x
  | .rng _ _ _, _, x => by
    simp only [R] at x ⊢
    obtain ⟨x, t, u, q, rfl, hr⟩ := x
    exact ⟨x, t, u, q, rfl, hs _ _ hr⟩
  | .idict ks, _, x => by
    simp only [R] at x ⊢
    obtain ⟨a, rfl, hy, hd⟩ := x
    exact ⟨a, rfl, hy, dictOf_sub hd (fun o => hs _ o)⟩
  | .tdict n, _, x => by
    simp only [R] at x ⊢
    obtain ⟨a, o, es, ep, rfl, hy, ho, r⟩ := x
    exact ⟨a, o, es, ep, rfl, hy, hs _ _ ho, r⟩
theorem RL.mono {h h' : Heap} (hs : Sub h h') : ∀ {ds : List D} {vs : List Value}, RL prog w h vs ds → RL prog w h' vs ds
  | [], _, x => by simpa only [RL] using x
  | d :: ds, _, x => by
    simp only [RL] at x ⊢
    obtain ⟨v, r, rfl, h1, h2⟩ := x
    exact ⟨v, r, rfl, R.mono hs h1, RL.mono hs h2⟩
end
theorem RL.nil {h : Heap} : RL prog w h [] [] := by simp only [RL]
theorem RL.cons {h : Heap} {v : Value} {vs : List Value} {d : D} {ds : List D} (x : R prog w h v d) (y : RL prog w h vs ds) : RL prog w h (v :: vs) (d :: ds) := by
  simp only [RL]; exact ⟨v, vs, rfl, x, y⟩
theorem RL.length {h : Heap} : ∀ {ds : List D} {vs : List Value}, RL prog w h vs ds → vs.length = ds.length
  | [], _, x => by simp only [RL] at x; subst x; rfl
  | d :: ds, _, x => by
    simp only [RL] at x
    obtain ⟨v, r, rfl, _, h2⟩ := x
    simp [RL.length h2]
theorem RL.append {h : Heap} {es : List D} {ws : List Value} (y : RL prog w h ws es) : ∀ {ds : List D} {vs : List Value}, RL prog w h vs ds → RL prog w h (vs ++ ws) (ds ++ es)
  | [], _, x => by simp only [RL] at x; subst x; exact y
  | d :: ds, _, x => by
    simp only [RL] at x
    obtain ⟨v, r, rfl, h1, h2⟩ := x
    exact RL.cons h1 (RL.append y h2)
theorem RL.get {h : Heap} : ∀ {ds : List D} {vs : List Value} {i : Nat} {d : D}, RL prog w h vs ds → ds[i]? = some d → ∃ v, vs[i]? = some v ∧ R prog w h v d
  | [], _, _, _, _, e => by simp at e
  | d :: ds, _, i, _, x, e => by
    simp only [RL] at x
    obtain ⟨v, r, rfl, h1, h2⟩ := x
    cases i with
    | zero => simp at e; subst e; exact ⟨v, by simp, h1⟩
    | succ i => simp at e; obtain ⟨v', e1, e2⟩ := RL.get h2 e; exact ⟨v', by simpa using e1, e2⟩
theorem RL.take {h : Heap} : ∀ {ds : List D} {vs : List Value} (n : Nat), RL prog w h vs ds → RL prog w h (vs.take n) (ds.take n)
  | [], _, _, x => by simp only [RL] at x; subst x; simp [RL]
  | d :: ds, _, n, x => by
    simp only [RL] at x
    obtain ⟨v, r, rfl, h1, h2⟩ := x
    cases n with
    | zero => simp [RL]
    | succ n => simp only [List.take_succ_cons]; exact RL.cons h1 (RL.take n h2)
theorem RL.drop {h : Heap} : ∀ {ds : List D} {vs : List Value} (n : Nat), RL prog w h vs ds → RL prog w h (vs.drop n) (ds.drop n)
  | [], _, _, x => by simp only [RL] at x; subst x; simp [RL]
  | d :: ds, _, n, x => by
    cases n with
    | zero => exact x
    | succ n =>
      simp only [RL] at x
      obtain ⟨v, r, rfl, h1, h2⟩ := x
      simp only [List.drop_succ_cons]; exact RL.drop n h2
theorem RL.one {h : Heap} {v : Value} {d : D} (x : R prog w h v d) : RL prog w h [v] [d] := RL.cons x RL.nil
theorem RL.reverse {h : Heap} : ∀ {ds : List D} {vs : List Value}, RL prog w h vs ds → RL prog w h vs.reverse ds.reverse
  | [], _, x => by simp only [RL] at x; subst x; simp [RL]
  | d :: ds, _, x => by
    simp only [RL] at x
    obtain ⟨v, r, rfl, h1, h2⟩ := x
    simp only [List.reverse_cons]
    exact RL.append (RL.one h1) (RL.reverse h2)
theorem RL.replicate {h : Heap} {v : Value} {d : D} (x : R prog w h v d) : ∀ n, RL prog w h (List.replicate n v) (List.replicate n d)
  | 0 => by simp [RL]
  | n + 1 => by simp only [List.replicate_succ]; exact RL.cons x (RL.replicate x n)
theorem R.int {h : Heap} {i : Int} {t : Tok} : R prog w h (.int i t) (.int i) := by simp only [R]; exact ⟨t, rfl⟩
theorem R.str {h : Heap} {i : Str} {t : Tok} : R prog w h (.str i t) (.str i) := by simp only [R]; exact ⟨t, rfl⟩
theorem R.bool {h : Heap} {b : Bool} : R prog w h (.bool b) (.bool b) := by simp only [R]
theorem R.none {h : Heap} : R prog w h .none .none := by simp only [R]
theorem R.loc {h : Heap} {a : Addr} : R prog w h (.ref a) (.loc a) := by simp only [R]
theorem R.tup {h : Heap} {a : Addr} {vs : Array Value} {n : Nat} {ds : List D} (x : IsT h a vs n) (y : RL prog w h vs.toList ds) : R prog w h (.ref a) (.tup ds) := by
  simp only [R]; exact ⟨a, vs, n, rfl, x, y⟩
theorem R.list {h : Heap} {a : Addr} {vs : Array Value} {n : Nat} {ds : List D} (x : IsL h a vs n) (y : RL prog w h vs.toList ds) : R prog w h (.ref a) (.list ds) := by
  simp only [R]; exact ⟨a, vs, n, rfl, x, y⟩

/-! hidden addresses -/
theorem hide_sub {h : Heap} {M : List Addr} : Sub (hideAll h M) h := fun _ _ e => of_hideAll _ e
theorem hide_mono {h h' : Heap} {M M' : List Addr} (hk : ∀ b o, b ∉ M → h.get? b = some o → h'.get? b = some o) (hM : ∀ b ∈ M', (∃ o, h.get? b = some o) → b ∈ M) : Sub (hideAll h M) (hideAll h' M') := by
  intro b o e
  have e1 := of_hideAll _ e
  have n : b ∉ M := fun q => by rw [hideAll_none _ q] at e; cases e
  exact hideAll_get _ (hk b o n e1) (fun q => n (hM b q ⟨o, e1⟩))
theorem hide_get {h : Heap} {M : List Addr} {b : Addr} {o : Obj} (e : (hideAll h M).get? b = some o) : h.get? b = some o ∧ b ∉ M :=
  ⟨of_hideAll _ e, fun q => by rw [hideAll_none _ q] at e; cases e⟩
end
end Mine
namespace Mine

inductive MO where
  | list (ds : List D)
  | idict (ks : List Int)
  | sdict (ks : List Str) (ds : List D)

structure FC where
  env : Env
  A : Around
  /-- mutable objects that an expression may write -/
  S : List Addr
  /-- other hidden addresses: locals, cells, the callers' -/
  N : List Addr
  W : List Addr
  /-- the callers' hidden addresses -/
  M0 : List Addr
  g : Heap

def FC.M (F : FC) : List Addr := F.S ++ F.N

structure BS where
  hb : Heap
  mg : Str → Option Value
  mb : Str → Option Value
  g : hb.Ns mainGlobals mg
  b : hb.Ns builtinsNs mb
  lim : hb.NoLimit
  bi : ∀ x : Str, x ≠ "__name__" → mb x = bootBuiltins x
  free : ∀ x ∈ (["len", "min", "max", "abs", "range", "list", "tuple", "sorted", "dict"] : List Str), mg x = none

/-- room for k frames more -/
def Room (A : Around) (k : Nat) : Prop := A.depth + k < recursionLimit ∧ A.units + 8 * k + 300 < cLine

structure FC.Ok (F : FC) : Prop where
  locM : F.env.locals ∈ F.N
  locS : F.env.locals ∉ F.S
  locG : F.g.objs.size ≤ F.env.locals
  cellM : ∀ x c, F.env.cells.lookup x = some c → c ∈ F.N ∧ c ∉ F.S ∧ F.g.objs.size ≤ c ∧ c ≠ F.env.locals
  apart : ∀ x y c, F.env.cells.lookup x = some c → F.env.cells.lookup y = some c → x = y
  kind : F.env.scope.kind = .function
  M0M : ∀ a ∈ F.M0, a ∈ F.M
  M0g : ∀ a ∈ F.M0, a < F.g.objs.size
  glob : F.env.globals = mainGlobals
  blt : F.env.builtins = builtinsNs
  hand : F.A.handled = none
  un : F.A.units + 300 < cLine
  big : sysModules < F.g.objs.size

section
variable (prog : Program) (w : World)
def MO.Is (H h : Heap) (a : Addr) : MO → Prop
  | .list ds => ∃ vs n, IsL h a vs n ∧ RL prog w H vs.toList ds
  | .idict ks => (a == sysModules) = false ∧ h.DictOf (intKind prog w) a (ks.map fun k => (k, Value.bool true))
  | .sdict ks ds => (a == sysModules) = false ∧ ∃ kvs, h.DictOf (strKind prog w) a kvs ∧ kvs.map (·.1) = ks ∧ RL prog w H (kvs.map (·.2)) ds

def VarIs (H h : Heap) (env : Env) (m : Str → Option Value) (x : Str) (d : D) : Prop :=
  ∃ v, R prog w H v d ∧ ((env.kindOf x = some .local ∧ m x = some v) ∨ (env.kindOf x = some .cell ∧ ∃ c, env.cells.lookup x = some c ∧ h.IsCell c (some v)))

structure Holds (B : BS) (F : FC) (ρ : List (Str × D)) (σ : List (Addr × MO)) (h : Heap) : Prop where
  ok : F.Ok
  sub : Sub B.hb (hideAll h F.M)
  keep : ∀ b o, b ∉ F.W → F.g.get? b = some o → h.get? b = some o
  ex : ∀ b ∈ F.M, ∃ o, h.get? b = some o
  vars : ∃ m, h.Ns F.env.locals m ∧ ∀ x d, ρ.lookup x = some d → VarIs prog w (hideAll h F.M) h F.env m x d
  cells : ∀ x c, F.env.cells.lookup x = some c → ∃ v, h.IsCell c v
  stIn : ∀ a o, σ.lookup a = some o → a ∈ F.S ∧ (a ∈ F.W ∨ F.g.objs.size ≤ a)
  store : ∀ a o, σ.lookup a = some o → o.Is prog w (hideAll h F.M) h a

def Ext (F : FC) (h h' : Heap) : Prop := ∀ b o, b ∉ F.S → h.get? b = some o → h'.get? b = some o

def Post (B : BS) (F : FC) (ρ : List (Str × D)) (σ' : List (Addr × MO)) (d : D) (s : Shared) (v : Value) (s' : Shared) : Prop :=
  ∃ h' tk, s' = { s with heap := h', toks := tk } ∧ Ext F s.heap h' ∧ Holds prog w B F ρ σ' h' ∧ R prog w (hideAll h' F.M) v d

def nofail : Value → Shared → Prop := fun _ _ => False

/-- the expression e gives d -/
def Ev (B : BS) (F : FC) (ρ : List (Str × D)) (σ : List (Addr × MO)) (e : Expr) (d : D) (σ' : List (Addr × MO)) : Prop :=
  ∀ s : Shared, Holds prog w B F ρ σ s.heap → wpAny (model prog w) F.A (eval e F.env) (Post prog w B F ρ σ' d s) nofail s

/-- the tree t gives d from s -/
def Giv (B : BS) (F : FC) (ρ : List (Str × D)) (σ : List (Addr × MO)) (t : Sem Value) (d : D) (s : Shared) : Prop :=
  wpAny (model prog w) F.A t (Post prog w B F ρ σ d s) nofail s
end

section
variable {prog : Program} {w : World} {B : BS} {F : FC} {ρ : List (Str × D)} {σ σ' σ₁ σ₂ : List (Addr × MO)} {h h' : Heap} {s : Shared}

theorem Ext.refl (F : FC) (h : Heap) : Ext F h h := fun _ _ _ e => e
theorem Ext.trans {a b c : Heap} (x : Ext F a b) (y : Ext F b c) : Ext F a c := fun k o n e => y k o n (x k o n e)
theorem Ext.of_sub (x : Sub h h') : Ext F h h' := fun b o _ e => x b o e
theorem FC.notS {b : Addr} (n : b ∉ F.M) : b ∉ F.S := fun q => n (List.mem_append_left _ q)
theorem FC.inM {b : Addr} (n : b ∈ F.S) : b ∈ F.M := List.mem_append_left _ n
theorem FC.inN {b : Addr} (n : b ∈ F.N) : b ∈ F.M := List.mem_append_right _ n
theorem Ext.hide (x : Ext F h h') : Sub (hideAll h F.M) (hideAll h' F.M) := hide_mono (fun b o n e => x b o (FC.notS n) e) fun _ hb _ => hb

theorem isCell_sub {c : Addr} {v : Option Value} (x : h.IsCell c v) (hs : Sub h h') : h'.IsCell c v := x.keeps hs
theorem VarIs.mono {H H' : Heap} {env : Env} {m : Str → Option Value} {x : Str} {d : D} (v : VarIs prog w H h env m x d) (hH : Sub H H') (hc : ∀ c u, h.IsCell c u → h'.IsCell c u) : VarIs prog w H' h' env m x d := by
  obtain ⟨u, hu, q⟩ := v
  exact ⟨u, R.mono hH hu, q.imp id fun ⟨k, c, e, hcell⟩ => ⟨k, c, e, hc _ _ hcell⟩⟩
theorem MO.Is.mono {H H' : Heap} {a : Addr} {o : MO} (x : o.Is prog w H h a) (hH : Sub H H') (ha : ∀ q, h.get? a = some q → h'.get? a = some q) : o.Is prog w H' h' a := by
  cases o with
  | list ds => obtain ⟨vs, n, hl, hr⟩ := x; exact ⟨vs, n, ha _ hl, RL.mono hH hr⟩
  | idict ks => exact ⟨x.1, dictOf_sub x.2 ha⟩
  | sdict ks ds => obtain ⟨hy, kvs, hd, hk, hr⟩ := x; exact ⟨hy, kvs, dictOf_sub hd ha, hk, RL.mono hH hr⟩

theorem Holds.grow (H : Holds prog w B F ρ σ h) (hs : Sub h h') : Holds prog w B F ρ σ h' := by
  have hh : Sub (hideAll h F.M) (hideAll h' F.M) := (Ext.of_sub hs).hide
  obtain ⟨m, hn, hv⟩ := H.vars
  exact ⟨H.ok, H.sub.trans hh, fun b o n e => hs _ _ (H.keep b o n e), fun b hb => let ⟨o, e⟩ := H.ex b hb; ⟨o, hs _ _ e⟩,
    ⟨m, hn.keeps hs, fun x d e => (hv x d e).mono hh fun _ _ c => isCell_sub c hs⟩, fun x c e => let ⟨v, hv⟩ := H.cells x c e; ⟨v, isCell_sub hv hs⟩, H.stIn, fun a o e => (H.store a o e).mono hh fun q => hs _ q⟩
theorem Holds.push (H : Holds prog w B F ρ σ h) (o : Obj) : Holds prog w B F ρ σ (h.push o) := H.grow fun _ _ e => Heap.get?_push_of_some _ e
theorem sub_push (h : Heap) (o : Obj) : Sub h (h.push o) := fun _ _ e => Heap.get?_push_of_some _ e

theorem Holds.freshM (H : Holds prog w B F ρ σ h) : h.objs.size ∉ F.M := fun q => let ⟨_, e⟩ := H.ex _ q; absurd (Heap.lt_size e) (Nat.lt_irrefl _)
theorem Holds.hide_push (H : Holds prog w B F ρ σ h) (o : Obj) (hf : o.isFreed = false) : (hideAll (h.push o) F.M).get? h.objs.size = some o :=
  hideAll_get _ (Heap.get?_push_size _ hf) H.freshM

theorem Holds.notSys (H : Holds prog w B F ρ σ h) : (h.objs.size == sysModules) = false := by
  obtain ⟨o, e⟩ := H.ex _ (FC.inN H.ok.locM)
  have h1 := Heap.lt_size e
  have h2 := H.ok.locG
  have h3 := H.ok.big
  rw [beq_eq_false_iff_ne]
  intro q
  exact absurd (Nat.lt_of_lt_of_le h3 (Nat.le_of_lt (Nat.lt_of_le_of_lt h2 h1))) (by rw [q]; exact Nat.lt_irrefl _)

/-- no change at all -/
theorem Post.here {d : D} {v : Value} {tk : Nat} (H : Holds prog w B F ρ σ s.heap) (r : R prog w (hideAll s.heap F.M) v d) : Post prog w B F ρ σ d s v { s with toks := tk } :=
  ⟨s.heap, tk, rfl, Ext.refl _ _, H, r⟩
theorem Post.grown {d : D} {v : Value} {tk : Nat} (H : Holds prog w B F ρ σ s.heap) (hs : Sub s.heap h') (r : R prog w (hideAll h' F.M) v d) : Post prog w B F ρ σ d s v { s with heap := h', toks := tk } :=
  ⟨h', tk, rfl, Ext.of_sub hs, H.grow hs, r⟩
theorem Post.after {d : D} {v : Value} {tk : Nat} {s' : Shared} (x : Ext F s.heap h') (p : Post prog w B F ρ σ d { s with heap := h', toks := tk } v s') : Post prog w B F ρ σ d s v s' := by
  obtain ⟨h2, t2, rfl, e, H, r⟩ := p
  exact ⟨h2, t2, rfl, x.trans e, H, r⟩

theorem Ev.use {e : Expr} {d : D} {Q : Value → Shared → Prop} {E : Value → Shared → Prop} (x : Ev prog w B F ρ σ e d σ') (H : Holds prog w B F ρ σ s.heap)
    (k : ∀ v h' tk, Ext F s.heap h' → Holds prog w B F ρ σ' h' → R prog w (hideAll h' F.M) v d → Q v { s with heap := h', toks := tk }) : wpAny (model prog w) F.A (eval e F.env) Q E s :=
  wpAny_mono (x s H) (fun v _ ⟨h', tk, e, he, hh, hr⟩ => e ▸ k v h' tk he hh hr) fun _ _ f => f.elim
theorem Ev.cast {e : Expr} {d d' : D} (x : Ev prog w B F ρ σ e d σ') (h : d = d') : Ev prog w B F ρ σ e d' σ' := h ▸ x

/-! ### leaves -/
theorem Ev.cint {i : Int} {k : Nat} {pos : Pos} : Ev prog w B F ρ σ (.Constant (.int i) k pos) (.int i) σ := fun _ H => wpAny_Constant_int (Post.here H R.int)
theorem Ev.cbool {i : Bool} {k : Nat} {pos : Pos} : Ev prog w B F ρ σ (.Constant (.bool i) k pos) (.bool i) σ := fun _ H => wpAny_Constant_bool (Post.here H R.bool)
theorem Ev.cstr {i : Str} {k : Nat} {pos : Pos} : Ev prog w B F ρ σ (.Constant (.str i) k pos) (.str i) σ := fun _ H => wpAny_Constant_str (Post.here H R.str)
theorem Ev.cnone {k : Nat} {pos : Pos} : Ev prog w B F ρ σ (.Constant .none k pos) .none σ := fun _ H => wpAny_Constant_none (Post.here H R.none)

theorem Ev.name {x : Str} {pos : Pos} {d : D} (hx : ρ.lookup x = some d) (hd : (x == ("__debug__" : Str)) = false := by decide) : Ev prog w B F ρ σ (.Name x pos) d σ := fun s H => by
  obtain ⟨m, hn, hv⟩ := H.vars
  obtain ⟨v, hr, ⟨hk, hm⟩ | ⟨hk, c, hc, hcell⟩⟩ := hv x d hx
  · exact wpAny_Name (wpAny_loadName_local H.ok.kind hk hn hm (Post.here H hr)) hd
  · exact wpAny_Name (wpAny_loadName_cell H.ok.kind hk hc hcell (Post.here H hr)) hd

theorem Holds.ns (H : Holds prog w B F ρ σ h) : h.Ns F.env.globals B.mg := by rw [H.ok.glob]; exact B.g.keeps fun b o e => of_hideAll _ (H.sub b o e)
theorem Holds.nsb (H : Holds prog w B F ρ σ h) : h.Ns F.env.builtins B.mb := by rw [H.ok.blt]; exact B.b.keeps fun b o e => of_hideAll _ (H.sub b o e)

/-- a global of the text's own -/
theorem Ev.glob {x : Str} {pos : Pos} {d : D} {v : Value} (hk : F.env.kindOf x = some .globalImplicit) (hg : B.mg x = some v) (hr : R prog w B.hb v d) (hd : (x == ("__debug__" : Str)) = false := by decide) : Ev prog w B F ρ σ (.Name x pos) d σ := fun s H =>
  Calls.Name_function_global H.ok.kind hk (Calls.loadGlobal_global H.ns hg (Post.here H (R.mono H.sub hr))) hd
end
end Mine
namespace Mine
section
variable {prog : Program} {w : World} {B : BS} {F : FC} {ρ : List (Str × D)} {σ σ' σ₁ σ₂ : List (Addr × MO)} {h h' : Heap} {s : Shared}

theorem Post.weak {d : D} {v : Value} {s' : Shared} (p : Post prog w B F ρ σ d s v s') : p = p := rfl

theorem hR {v : Value} {d : D} (r : R prog w (hideAll h F.M) v d) : R prog w h v d := R.mono hide_sub r
theorem hRL {v : List Value} {d : List D} (r : RL prog w (hideAll h F.M) v d) : RL prog w h v d := RL.mono hide_sub r

/-- a fresh tuple or list -/
theorem Post.newTup {vs : List Value} {ds : List D} {tk : Nat} (H : Holds prog w B F ρ σ s.heap) (r : RL prog w (hideAll s.heap F.M) vs ds) :
    Post prog w B F ρ σ (.tup ds) s (.ref s.heap.objs.size) { s with heap := s.heap.push { cls := .type "tuple", data := .seq vs.toArray }, toks := tk } :=
  Post.grown H (sub_push _ _) (R.tup (n := 0) (H.hide_push _ rfl) (by simpa using RL.mono (Ext.of_sub (F := F) (sub_push _ _)).hide r))
theorem Post.newList {vs : List Value} {ds : List D} {tk : Nat} (H : Holds prog w B F ρ σ s.heap) (r : RL prog w (hideAll s.heap F.M) vs ds) :
    Post prog w B F ρ σ (.list ds) s (.ref s.heap.objs.size) { s with heap := s.heap.push { cls := .type "list", data := .seq vs.toArray }, toks := tk } :=
  Post.grown H (sub_push _ _) (R.list (n := 0) (H.hide_push _ rfl) (by simpa using RL.mono (Ext.of_sub (F := F) (sub_push _ _)).hide r))

theorem Holds.units (H : Holds prog w B F ρ σ h) : True := trivial

/-! ### two operands -/
theorem Ev.bin {op : Operator} {l r : Expr} {pos : Pos} {a b c : D} (x : Ev prog w B F ρ σ l a σ₁) (y : Ev prog w B F ρ σ₁ r b σ₂)
    (k : ∀ (s : Shared) va vb, Holds prog w B F ρ σ₂ s.heap → R prog w (hideAll s.heap F.M) va a → R prog w (hideAll s.heap F.M) vb b → Giv prog w B F ρ σ₂ (binaryOp op va vb) c s) :
    Ev prog w B F ρ σ (.BinOp l op r pos) c σ₂ := fun s H =>
  wpAny_BinOp (x.use H fun va h1 t1 e1 H1 r1 => y.use (s := { s with heap := h1, toks := t1 }) H1 fun vb h2 t2 e2 H2 r2 =>
    wpAny_mono (k { s with heap := h2, toks := t2 } va vb H2 (R.mono (Ext.hide e2) r1) r2) (fun v s' p => Post.after (e1.trans e2) p) fun _ _ f => f)

theorem Ev.cmp {op : CmpOp} {l r : Expr} {pos : Pos} {a b c : D} (x : Ev prog w B F ρ σ l a σ₁) (y : Ev prog w B F ρ σ₁ r b σ₂)
    (k : ∀ (s : Shared) va vb, Holds prog w B F ρ σ₂ s.heap → R prog w (hideAll s.heap F.M) va a → R prog w (hideAll s.heap F.M) vb b → Giv prog w B F ρ σ₂ (compareOp op va vb) c s)
    (hm : behindInMarks op r = false := by with_unfolding_all rfl) :
    Ev prog w B F ρ σ (.Compare l [op] [r] pos) c σ₂ := fun s H =>
  wpAny_Compare1 (x.use H fun va h1 t1 e1 H1 r1 => y.use (s := { s with heap := h1, toks := t1 }) H1 fun vb h2 t2 e2 H2 r2 =>
    wpAny_mono (k { s with heap := h2, toks := t2 } va vb H2 (R.mono (Ext.hide e2) r1) r2) (fun v s' p => Post.after (e1.trans e2) p) fun _ _ f => f) hm

section
variable {l r : Expr} {pos : Pos} {a b : Int}
theorem Ev.add (x : Ev prog w B F ρ σ l (.int a) σ₁) (y : Ev prog w B F ρ σ₁ r (.int b) σ₂) : Ev prog w B F ρ σ (.BinOp l .Add r pos) (.int (a + b)) σ₂ :=
  x.bin y fun s va vb H r1 r2 => by
    simp only [R] at r1 r2; obtain ⟨t, rfl⟩ := r1; obtain ⟨u, rfl⟩ := r2
    exact PyProof.Rows.add_int (Post.here H R.int)
theorem Ev.sub (x : Ev prog w B F ρ σ l (.int a) σ₁) (y : Ev prog w B F ρ σ₁ r (.int b) σ₂) : Ev prog w B F ρ σ (.BinOp l .Sub r pos) (.int (a - b)) σ₂ :=
  x.bin y fun s va vb H r1 r2 => by
    simp only [R] at r1 r2; obtain ⟨t, rfl⟩ := r1; obtain ⟨u, rfl⟩ := r2
    exact PyProof.Rows.sub_int (Post.here H R.int)
theorem Ev.mul (x : Ev prog w B F ρ σ l (.int a) σ₁) (y : Ev prog w B F ρ σ₁ r (.int b) σ₂) (hm : IntMulOk a b) : Ev prog w B F ρ σ (.BinOp l .Mult r pos) (.int (a * b)) σ₂ :=
  x.bin y fun s va vb H r1 r2 => by
    simp only [R] at r1 r2; obtain ⟨t, rfl⟩ := r1; obtain ⟨u, rfl⟩ := r2
    exact PyProof.Rows.mul_int (Post.here H R.int) hm
theorem Ev.mod (x : Ev prog w B F ρ σ l (.int a) σ₁) (y : Ev prog w B F ρ σ₁ r (.int b) σ₂) (hb : b ≠ 0) : Ev prog w B F ρ σ (.BinOp l .Mod r pos) (.int (a.fmod b)) σ₂ :=
  x.bin y fun s va vb H r1 r2 => by
    simp only [R] at r1 r2; obtain ⟨t, rfl⟩ := r1; obtain ⟨u, rfl⟩ := r2
    exact PyProof.Rows.mod_int' hb (Post.here H R.int)
theorem Ev.fdiv (x : Ev prog w B F ρ σ l (.int a) σ₁) (y : Ev prog w B F ρ σ₁ r (.int b) σ₂) (hb : b ≠ 0) (hp : Builtin.divisionGoesByPylong a b = false) : Ev prog w B F ρ σ (.BinOp l .FloorDiv r pos) (.int (a.fdiv b)) σ₂ :=
  x.bin y fun s va vb H r1 r2 => by
    simp only [R] at r1 r2; obtain ⟨t, rfl⟩ := r1; obtain ⟨u, rfl⟩ := r2
    exact PyProof.Rows.floordiv_int hb (Post.here H R.int) (.inl hp)
theorem Ev.eqI (x : Ev prog w B F ρ σ l (.int a) σ₁) (y : Ev prog w B F ρ σ₁ r (.int b) σ₂) (hm : behindInMarks .Eq r = false := by with_unfolding_all rfl) : Ev prog w B F ρ σ (.Compare l [.Eq] [r] pos) (.bool (a == b)) σ₂ :=
  x.cmp y (fun s va vb H r1 r2 => by
    simp only [R] at r1 r2; obtain ⟨t, rfl⟩ := r1; obtain ⟨u, rfl⟩ := r2
    exact PyProof.Rows.eq_int (Post.here H R.bool)) hm
theorem Ev.neI (x : Ev prog w B F ρ σ l (.int a) σ₁) (y : Ev prog w B F ρ σ₁ r (.int b) σ₂) (hm : behindInMarks .NotEq r = false := by with_unfolding_all rfl) : Ev prog w B F ρ σ (.Compare l [.NotEq] [r] pos) (.bool (a != b)) σ₂ :=
  x.cmp y (fun s va vb H r1 r2 => by
    simp only [R] at r1 r2; obtain ⟨t, rfl⟩ := r1; obtain ⟨u, rfl⟩ := r2
    exact PyProof.Rows.ne_int (Post.here H R.bool)) hm
theorem Ev.ltI (x : Ev prog w B F ρ σ l (.int a) σ₁) (y : Ev prog w B F ρ σ₁ r (.int b) σ₂) (hm : behindInMarks .Lt r = false := by with_unfolding_all rfl) : Ev prog w B F ρ σ (.Compare l [.Lt] [r] pos) (.bool (decide (a < b))) σ₂ :=
  x.cmp y (fun s va vb H r1 r2 => by
    simp only [R] at r1 r2; obtain ⟨t, rfl⟩ := r1; obtain ⟨u, rfl⟩ := r2
    exact PyProof.Rows.lt_int (Post.here H R.bool)) hm
theorem Ev.leI (x : Ev prog w B F ρ σ l (.int a) σ₁) (y : Ev prog w B F ρ σ₁ r (.int b) σ₂) (hm : behindInMarks .LtE r = false := by with_unfolding_all rfl) : Ev prog w B F ρ σ (.Compare l [.LtE] [r] pos) (.bool (decide (a ≤ b))) σ₂ :=
  x.cmp y (fun s va vb H r1 r2 => by
    simp only [R] at r1 r2; obtain ⟨t, rfl⟩ := r1; obtain ⟨u, rfl⟩ := r2
    exact PyProof.Rows.le_int (Post.here H R.bool)) hm
theorem Ev.gtI (x : Ev prog w B F ρ σ l (.int a) σ₁) (y : Ev prog w B F ρ σ₁ r (.int b) σ₂) (hm : behindInMarks .Gt r = false := by with_unfolding_all rfl) : Ev prog w B F ρ σ (.Compare l [.Gt] [r] pos) (.bool (decide (b < a))) σ₂ :=
  x.cmp y (fun s va vb H r1 r2 => by
    simp only [R] at r1 r2; obtain ⟨t, rfl⟩ := r1; obtain ⟨u, rfl⟩ := r2
    exact PyProof.Rows.gt_int (Post.here H R.bool)) hm
theorem Ev.isNotNone {v : D} (x : Ev prog w B F ρ σ l v σ₁) (hv : ∀ h u, R prog w h u v → u ≠ Value.none) (hm : behindInMarks .IsNot (.Constant .none 0 pos) = false := by with_unfolding_all rfl) {k : Nat} {p : Pos} : Ev prog w B F ρ σ (.Compare l [.IsNot] [.Constant .none k p] pos) (.bool true) σ₁ :=
  x.cmp Ev.cnone (fun s va vb H r1 r2 => by
    have hn := hv _ _ r1
    simp only [R] at r2; subst r2
    refine isNot_none ?_
    have : (!(va == Value.none)) = true := by simp [hn]
    rw [this]
    exact Post.here H R.bool) rfl

/-! sequences -/
variable {xs ys : List D}
theorem Ev.addL (x : Ev prog w B F ρ σ l (.list xs) σ₁) (y : Ev prog w B F ρ σ₁ r (.list ys) σ₂) (hsz : xs.length + ys.length ≤ sizeLine) : Ev prog w B F ρ σ (.BinOp l .Add r pos) (.list (xs ++ ys)) σ₂ :=
  x.bin y fun s va vb H r1 r2 => by
    simp only [R] at r1 r2
    obtain ⟨p, vs, n, rfl, h1, q1⟩ := r1
    obtain ⟨q, ws, m, rfl, h2, q2⟩ := r2
    have e1 := RL.length q1
    have e2 := RL.length q2
    simp only [Array.length_toList] at e1 e2
    refine P.add_list (of_hideAll _ h1) (of_hideAll _ h2) ?_ (by omega)
    have p := Post.newList (vs := vs.toList ++ ws.toList) (tk := s.toks) H (RL.append q2 q1)
    have e : (vs.toList ++ ws.toList).toArray = vs ++ ws := by simp
    rw [e] at p
    exact p
theorem empty_of {vs : Array Value} {H : Heap} (q : RL prog w H vs.toList xs) : vs.isEmpty = true ↔ xs = [] := by
  have e := RL.length q
  rw [← List.length_eq_zero_iff, ← e]
  simp
theorem Ev.addT (x : Ev prog w B F ρ σ l (.tup xs) σ₁) (y : Ev prog w B F ρ σ₁ r (.tup ys) σ₂) (hsz : xs.length + ys.length ≤ sizeLine) : Ev prog w B F ρ σ (.BinOp l .Add r pos) (.tup (xs ++ ys)) σ₂ :=
  x.bin y fun s va vb H r1 r2 => by
    have r1' := r1; have r2' := r2
    simp only [R] at r1 r2
    obtain ⟨p, vs, n, rfl, h1, q1⟩ := r1
    obtain ⟨q, ws, m, rfl, h2, q2⟩ := r2
    have e1 := RL.length q1
    have e2 := RL.length q2
    simp only [Array.length_toList] at e1 e2
    have g1 := of_hideAll _ h1
    have g2 := of_hideAll _ h2
    by_cases hv : vs.isEmpty = true
    · have hx := (empty_of q1).mp hv
      subst hx
      exact concat_meets ⟨_, g1, rfl⟩ ⟨_, g2, rfl⟩ noFill_tuple_add seq_tuple_add PySem.F.slot_tuple_add PySem.F.entry_tuple_add (PySem.F.args_tuple_add_2 _ _)
        (tuple_addW0 p q vs ws n m none none #[] #[] hv) ⟨g1, g2, by simpa using Post.here (tk := s.toks) H r2'⟩
    · by_cases hw : ws.isEmpty = true
      · have hx := (empty_of q2).mp hw
        subst hx
        exact concat_meets ⟨_, g1, rfl⟩ ⟨_, g2, rfl⟩ noFill_tuple_add seq_tuple_add PySem.F.slot_tuple_add PySem.F.entry_tuple_add (PySem.F.args_tuple_add_2 _ _)
          (tuple_addW1 p q vs ws n m none none #[] #[] hv hw) ⟨g1, g2, by simpa using Post.here (tk := s.toks) H r1'⟩
      · refine P.add_tuple g1 g2 hv hw ?_ (by omega)
        have p := Post.newTup (vs := vs.toList ++ ws.toList) (tk := s.toks) H (RL.append q2 q1)
        have e : (vs.toList ++ ws.toList).toArray = vs ++ ws := by simp
        rw [e] at p
        exact p
theorem foldl_rep (its : Array Value) : ∀ (n : Nat) (acc : Array Value), (List.foldl (fun x1 x2 => x1 ++ x2) acc (List.replicate n its)).toList = acc.toList ++ (List.replicate n its.toList).flatten
  | 0, acc => by simp
  | n + 1, acc => by rw [List.replicate_succ, List.foldl_cons, foldl_rep its n]; simp [List.replicate_succ]
set_option maxRecDepth 100000 in
/-- [x] * n -/
theorem Ev.rep1 {x : D} {n : Nat} (x' : Ev prog w B F ρ σ l (.list [x]) σ₁) (y : Ev prog w B F ρ σ₁ r (.int n) σ₂) (hn : n ≤ 2 ^ 24) : Ev prog w B F ρ σ (.BinOp l .Mult r pos) (.list (List.replicate n x)) σ₂ :=
  x'.bin y fun s va vb H r1 r2 => by
    simp only [R] at r1 r2
    obtain ⟨p, vs, k, rfl, h1, q1⟩ := r1
    obtain ⟨u, rfl⟩ := r2
    have hl := of_hideAll _ h1
    have e1 := RL.length q1
    simp only [Array.length_toList, List.length_cons, List.length_nil] at e1
    have h0 : ¬(!Builtin.List.listFitsIndex ((n : Nat) : Int)) = true := by simp [Builtin.List.listFitsIndex]; omega
    have h1' : ¬ vs.size * ((n : Nat) : Int).toNat > (2 ^ 63 - 1) / 8 := by rw [e1]; omega
    have h2' : ¬ Builtin.List.listTooLong (vs.size * ((n : Nat) : Int).toNat) = true := by rw [e1]; simp [Builtin.List.listTooLong, PySem.sizeLine_eq]; omega
    generalize hk : ((n : Nat) : Int) = z at h0 h1' h2' ⊢
    have mm := AutoListH.list___mul___list_int_3 p vs k z u h0 h1' h2'
    refine wpAny_binaryOp_repeat_ref (T := "list") (U := "int") (by decide) ⟨_, hl, rfl⟩ (fun s' => typeIs_int s' _ u) noFill_list_mul PySem.F.fills_int_mul PySem.F.slot_int_rmul repeat_list PySem.F.slot_int_index.lookup
      (call_meets PySem.F.slot_int_rmul (typeIs_int s _ u) PySem.F.entry_int_rmul (PySem.F.args_int_rmul_2 _ _) (int___rmul___int_list _ u p vs k)
        ⟨hl, rfl, ⟨_, hl, rfl⟩, call_meets PySem.F.slot_list_mul ⟨_, hl, rfl⟩ PySem.F.entry_list_mul (PySem.F.args_list_mul_2 _ _)
          mm
          ⟨hl, ?_⟩⟩)
    simp only [RL] at q1
    obtain ⟨v, r', e, hv, rfl⟩ := q1
    have pp := Post.newList (vs := List.replicate n v) (tk := s.toks) H (RL.replicate hv n)
    have ee : (List.replicate n v).toArray = List.foldl (fun x1 x2 => x1 ++ x2) #[] (List.replicate (if vs.isEmpty = true then 0 else z.toNat) vs) := by
      apply Array.ext'
      have : vs.isEmpty = false := by
        cases hq : vs.isEmpty with
        | false => rfl
        | true => rw [Array.isEmpty_iff_size_eq_zero] at hq; omega
      rw [this, foldl_rep, e, ← hk]
      simp
    rw [ee] at pp
    exact pp
end
end
end Mine
namespace Mine
mutual
def toPy : D → PyData
  | .none => .none
  | .bool b => .bool b
  | .int i => .int i
  | .str x => .str x
  | .tup xs => .tuple (toPyL xs)
  | .list xs => .list (toPyL xs)
  | .sdict _ _ | .loc _ | .rng _ _ _ | .idict _ | .tdict _ => .dict []
def toPyL : List D → List PyData
  | [] => []
  | d :: ds => toPy d :: toPyL ds
end
mutual
def pl : D → Bool
  | .none | .bool _ | .int _ => true
  | .tup xs | .list xs => plL xs
  | .str _ | .sdict _ _ | .loc _ | .rng _ _ _ | .idict _ | .tdict _ => false
def plL : List D → Bool
  | [] => true
  | d :: ds => pl d && plL ds
end
mutual
theorem canLay_pl : ∀ {d : D}, pl d = true → (toPy d).canLay0 = true
  | .none, _ => rfl
  | .bool _, _ => rfl
  | .int _, _ => rfl
  | .tup xs, h => by simp only [toPy, PyData.canLay0]; exact canLayAll_pl (by simpa only [pl] using h)
  | .list xs, h => by simp only [toPy, PyData.canLay0]; exact canLayAll_pl (by simpa only [pl] using h)
  | .str _, h => by simp [pl] at h
  | .sdict _ _, h => by simp [pl] at h
  | .loc _, h => by simp [pl] at h
  | .rng _ _ _, h => by simp [pl] at h
  | .idict _, h => by simp [pl] at h
  | .tdict _, h => by simp [pl] at h
theorem canLayAll_pl : ∀ {ds : List D}, plL ds = true → PyData.canLayAll0 (toPyL ds) = true
  | [], _ => rfl
  | d :: ds, h => by
    simp only [plL, Bool.and_eq_true] at h
    simp only [toPyL, PyData.canLayAll0, canLay_pl h.1, canLayAll_pl h.2, Bool.and_self]
end
section
variable {prog : Program} {w : World} {B : BS} {F : FC} {ρ : List (Str × D)} {σ σ' σ₁ σ₂ : List (Addr × MO)} {h h' : Heap} {s : Shared}
mutual
theorem R.reads : ∀ {d : D} {v : Value}, R prog w h v d → pl d = true → ∃ as, Reads h v (toPy d) as
  | .none, _, r, _ => by simp only [R] at r; subst r; exact ⟨_, .none⟩
  | .bool b, _, r, _ => by simp only [R] at r; subst r; exact ⟨_, .bool b⟩
  | .int i, _, r, _ => by simp only [R] at r; obtain ⟨t, rfl⟩ := r; exact ⟨_, .int i t⟩
  | .tup xs, _, r, hp => by
    simp only [R] at r
    obtain ⟨a, vs, n, rfl, ht, hr⟩ := r
    obtain ⟨as, ha⟩ := RL.reads hr (by simpa only [pl] using hp)
    exact ⟨_, .tuple ht rfl rfl ha⟩
  | .list xs, _, r, hp => by
    simp only [R] at r
    obtain ⟨a, vs, n, rfl, ht, hr⟩ := r
    obtain ⟨as, ha⟩ := RL.reads hr (by simpa only [pl] using hp)
    exact ⟨_, .list ht rfl rfl ha⟩
  | .str _, _, _, hp => by simp [pl] at hp
  | .sdict _ _, _, _, hp => by simp [pl] at hp
  | .loc _, _, _, hp => by simp [pl] at hp
  | .rng _ _ _, _, _, hp => by simp [pl] at hp
  | .idict _, _, _, hp => by simp [pl] at hp
  | .tdict _, _, _, hp => by simp [pl] at hp
theorem RL.reads : ∀ {ds : List D} {vs : List Value}, RL prog w h vs ds → plL ds = true → ∃ as, ReadsAll h vs (toPyL ds) as
  | [], _, r, _ => by simp only [RL] at r; subst r; exact ⟨_, .nil⟩
  | d :: ds, _, r, hp => by
    simp only [plL, Bool.and_eq_true] at hp
    simp only [RL] at r
    obtain ⟨v, q, rfl, h1, h2⟩ := r
    obtain ⟨as, ha⟩ := R.reads h1 hp.1
    obtain ⟨bs, hb⟩ := RL.reads h2 hp.2
    exact ⟨_, .cons ha hb⟩
end

/-- plain data of depth 64 at most -/
def Pl (d : D) : Prop := pl d = true ∧ (toPy d).depth ≤ 64
theorem Pl.shaped {d : D} (p : Pl d) : SeqAt.shaped (toPy d) = true := by simp [SeqAt.shaped, canLay_pl p.1, p.2]
theorem Pl.int {i : Int} : Pl (.int i) := ⟨rfl, by simp [toPy, PyData.depth]⟩

def eqD (a b : D) : Bool := PyData.eqv (toPy a) (toPy b)

section
variable {l r : Expr} {pos : Pos} {a b : D}
theorem Ev.eqD (x : Ev prog w B F ρ σ l a σ₁) (y : Ev prog w B F ρ σ₁ r b σ₂) (pa : Pl a) (pb : Pl b) (hm : behindInMarks .Eq r = false := by with_unfolding_all rfl) : Ev prog w B F ρ σ (.Compare l [.Eq] [r] pos) (.bool (Mine.eqD a b)) σ₂ :=
  x.cmp y (fun s va vb H r1 r2 => by
    obtain ⟨as, ra⟩ := R.reads (hR r1) pa.1
    obtain ⟨bs, rb⟩ := R.reads (hR r2) pb.1
    exact SeqAt.compareEq_shaped ra rb pa.shaped pb.shaped (by have := H.ok.un; omega) (Post.here (tk := s.toks) H R.bool)) hm
theorem Ev.neD (x : Ev prog w B F ρ σ l a σ₁) (y : Ev prog w B F ρ σ₁ r b σ₂) (pa : Pl a) (pb : Pl b) (hm : behindInMarks .NotEq r = false := by with_unfolding_all rfl) : Ev prog w B F ρ σ (.Compare l [.NotEq] [r] pos) (.bool (!Mine.eqD a b)) σ₂ :=
  x.cmp y (fun s va vb H r1 r2 => by
    obtain ⟨as, ra⟩ := R.reads (hR r1) pa.1
    obtain ⟨bs, rb⟩ := R.reads (hR r2) pb.1
    exact SeqAt.compareNe_shaped ra rb pa.shaped pb.shaped (by have := H.ok.un; omega) (Post.here (tk := s.toks) H R.bool)) hm

/-- ints -/
abbrev I (ns : List Int) : List D := ns.map D.int
theorem I_py : ∀ ns : List Int, toPyL (I ns) = ns.map PyData.int
  | [] => rfl
  | n :: ns => by simp only [I, List.map_cons, toPyL, toPy]; rw [show toPyL (List.map D.int ns) = _ from I_py ns]
theorem I_pl : ∀ ns : List Int, plL (I ns) = true
  | [] => rfl
  | n :: ns => by simp only [I, List.map_cons, plL, pl, Bool.true_and]; exact I_pl ns
theorem depth_ints : ∀ ns : List Int, PyData.depthAll (ns.map PyData.int) = 0
  | [] => rfl
  | n :: ns => by simp [PyData.depthAll, PyData.depth, depth_ints ns]
theorem any_ints (ns : List Int) (x : Int) : ((toPyL (I ns)).any fun y => PyData.eqv y (toPy (.int x))) = decide (x ∈ ns) := by
  rw [I_py]
  induction ns with
  | nil => rfl
  | cons n ns ih =>
    rw [List.map_cons, List.any_cons, ih]
    have : PyData.eqv (PyData.int n) (toPy (.int x)) = (n == x) := by simp [toPy, PyData.eqv]
    rw [this]
    by_cases hx : n = x
    · subst hx; simp
    · have hx' : ¬ x = n := fun e => hx e.symm
      simp [hx, hx']
theorem Ev.inT {x : Int} {ns : List Int} (p : Ev prog w B F ρ σ l (.int x) σ₁) (q : Ev prog w B F ρ σ₁ r (.tup (I ns)) σ₂) (hm : behindInMarks .In r = false := by with_unfolding_all rfl) : Ev prog w B F ρ σ (.Compare l [.In] [r] pos) (.bool (decide (x ∈ ns))) σ₂ :=
  p.cmp q (fun s va vb H r1 r2 => by
    obtain ⟨as, ra⟩ := R.reads (hR r1) rfl
    obtain ⟨bs, rb⟩ := R.reads (hR r2) (by simp only [pl]; exact I_pl ns)
    refine PySem.SeqAt.in_tuple_reads rb ra (canLayAll_pl (I_pl ns)) rfl (by have := H.ok.un; rw [I_py, depth_ints]; omega) ?_
    rw [any_ints]; exact Post.here (tk := s.toks) H R.bool) hm
theorem Ev.notInT {x : Int} {ns : List Int} (p : Ev prog w B F ρ σ l (.int x) σ₁) (q : Ev prog w B F ρ σ₁ r (.tup (I ns)) σ₂) (hm : behindInMarks .NotIn r = false := by with_unfolding_all rfl) : Ev prog w B F ρ σ (.Compare l [.NotIn] [r] pos) (.bool (!decide (x ∈ ns))) σ₂ :=
  p.cmp q (fun s va vb H r1 r2 => by
    obtain ⟨as, ra⟩ := R.reads (hR r1) rfl
    obtain ⟨bs, rb⟩ := R.reads (hR r2) (by simp only [pl]; exact I_pl ns)
    refine PySem.SeqAt.notIn_tuple_reads rb ra (canLayAll_pl (I_pl ns)) rfl (by have := H.ok.un; rw [I_py, depth_ints]; omega) ?_
    rw [any_ints]; exact Post.here (tk := s.toks) H R.bool) hm
theorem Ev.inL {x : Int} {ns : List Int} (p : Ev prog w B F ρ σ l (.int x) σ₁) (q : Ev prog w B F ρ σ₁ r (.list (I ns)) σ₂) (hm : behindInMarks .In r = false := by with_unfolding_all rfl) : Ev prog w B F ρ σ (.Compare l [.In] [r] pos) (.bool (decide (x ∈ ns))) σ₂ :=
  p.cmp q (fun s va vb H r1 r2 => by
    obtain ⟨as, ra⟩ := R.reads (hR r1) rfl
    obtain ⟨bs, rb⟩ := R.reads (hR r2) (by simp only [pl]; exact I_pl ns)
    refine PySem.SeqAt.in_list_reads rb ra (canLayAll_pl (I_pl ns)) rfl (by have := H.ok.un; rw [I_py, depth_ints]; omega) ?_
    rw [any_ints]; exact Post.here (tk := s.toks) H R.bool) hm
theorem Ev.notInL {x : Int} {ns : List Int} (p : Ev prog w B F ρ σ l (.int x) σ₁) (q : Ev prog w B F ρ σ₁ r (.list (I ns)) σ₂) (hm : behindInMarks .NotIn r = false := by with_unfolding_all rfl) : Ev prog w B F ρ σ (.Compare l [.NotIn] [r] pos) (.bool (!decide (x ∈ ns))) σ₂ :=
  p.cmp q (fun s va vb H r1 r2 => by
    obtain ⟨as, ra⟩ := R.reads (hR r1) rfl
    obtain ⟨bs, rb⟩ := R.reads (hR r2) (by simp only [pl]; exact I_pl ns)
    refine PySem.SeqAt.notIn_list_reads rb ra (canLayAll_pl (I_pl ns)) rfl (by have := H.ok.un; rw [I_py, depth_ints]; omega) ?_
    rw [any_ints]; exact Post.here (tk := s.toks) H R.bool) hm
end

/-! ### items and slices -/
theorem subTail {M : Model} {A : Around} {E : Value → Shared → Prop} {value slice : Expr} {o i : Value} {T id : String} {Q : Value → Shared → Prop} (hT : s.TypeIs o T)
    (hl : typeLookup (.type T) "__getitem__" = pure (some (.builtin id))) (h : wpAny (model prog w) A (getItem o i) Q E s)
    (hs : subscripted slice false o i = operate [o, i] (getItem o i) ∨ subscripted slice false o i = operate [i, o] (getItem o i)) :
    wpAny (model prog w) A (subscriptTail value slice o i) Q E s := by
  unfold subscriptTail
  refine wpAny_bind ?_
  rw [getitemInPython_of_ne hT.not_modules]
  refine wpAny_bind (wpAny_specialOf hT hl ?_)
  have fin : wpAny (model prog w) A (subscripted slice false o i) (fun r s₃ => wpAny (model prog w) A (letTemporaryGo value o r >>= fun _ => pure r) Q E s₃) E s := by
    rcases hs with hs | hs <;> rw [hs] <;> exact wpAny_operating (wpAny_mono h (fun r s₃ h₃ => wpAny_bind (wpAny_letTemporaryGo (wpAny_pure h₃))) fun _ _ x => x)
  first
    | exact wpAny_pure (wpAny_bind fin)
    | exact wpAny_bind (wpAny_pure (wpAny_bind fin))
    | exact wpAny_bind fin

/-- no slice -/
def noSlice : Expr → Bool
  | .Slice .. => false
  | _ => true
theorem subscripted_plain {slice : Expr} {o i : Value} (hn : noSlice slice = true) : subscripted slice false o i = operate [o, i] (getItem o i) := by
  cases slice <;> first | rfl | (simp [noSlice] at hn)
theorem subscripted_slice {lo hi st : Option Expr} {p : Pos} {o i : Value} : subscripted (.Slice lo hi st p) false o i = operate [o, i] (getItem o i) ∨ subscripted (.Slice lo hi st p) false o i = operate [i, o] (getItem o i) := by
  cases st with
  | none => exact .inr rfl
  | some _ => exact .inl rfl

section
variable {l r : Expr} {pos : Pos} {xs : List D} {d : D}
theorem Ev.itemT {k : Nat} (x : Ev prog w B F ρ σ l (.tup xs) σ₁) (y : Ev prog w B F ρ σ₁ r (.int k) σ₂) (hd : xs[k]? = some d) (hk : (k : Int) < 2 ^ 63) (hn : noSlice r = true := by rfl) : Ev prog w B F ρ σ (.Subscript l r pos) d σ₂ := fun s H =>
  Subscript_ (x.use H fun va h1 t1 e1 H1 r1 => y.use (s := { s with heap := h1, toks := t1 }) H1 fun vb h2 t2 e2 H2 r2 => by
    have r1' := R.mono (Ext.hide e2) r1
    simp only [R] at r1' r2
    obtain ⟨a, vs, n, rfl, ht, hr⟩ := r1'
    obtain ⟨t, rfl⟩ := r2
    obtain ⟨v, hv, rv⟩ := RL.get hr hd
    have hlt : k < vs.size := by have := (List.getElem?_eq_some_iff.mp hv).1; simpa using this
    refine subTail (M := model prog w) (T := "tuple") ⟨_, of_hideAll _ ht, rfl⟩ PySem.F.slot_tuple_getitem.lookup (PySem.P.getItem_tuple (k := k) (y := v) (of_hideAll _ ht) (by omega) hk ?_ (by simpa using hv) ?_) (.inl (subscripted_plain hn))
    · have h9 : ¬ ((k : Int) < 0) := by omega
      simp [seqIndex?, h9, hlt]
    · exact ⟨h2, t2, rfl, e1.trans e2, H2, rv⟩)
theorem Ev.itemL {k : Nat} (x : Ev prog w B F ρ σ l (.list xs) σ₁) (y : Ev prog w B F ρ σ₁ r (.int k) σ₂) (hd : xs[k]? = some d) (hk : (k : Int) < 2 ^ 63) (hn : noSlice r = true := by rfl) : Ev prog w B F ρ σ (.Subscript l r pos) d σ₂ := fun s H =>
  Subscript_ (x.use H fun va h1 t1 e1 H1 r1 => y.use (s := { s with heap := h1, toks := t1 }) H1 fun vb h2 t2 e2 H2 r2 => by
    have r1' := R.mono (Ext.hide e2) r1
    simp only [R] at r1' r2
    obtain ⟨a, vs, n, rfl, ht, hr⟩ := r1'
    obtain ⟨t, rfl⟩ := r2
    obtain ⟨v, hv, rv⟩ := RL.get hr hd
    refine subTail (M := model prog w) (T := "list") ⟨_, of_hideAll _ ht, rfl⟩ slot_list_getitem.lookup (wpAny_getItem_list (items := vs) ⟨_, of_hideAll _ ht, rfl, _, rfl⟩ (by omega) hk (by simpa using hv) ?_) (.inl (subscripted_plain hn))
    exact ⟨h2, t2, rfl, e1.trans e2, H2, rv⟩)
end
end
end Mine
namespace Mine
section
variable {prog : Program} {w : World} {B : BS} {F : FC} {ρ : List (Str × D)} {σ σ' σ₁ σ₂ σ₃ : List (Addr × MO)} {h h' : Heap} {s : Shared}

/-- a slice's part -/
inductive EvP (P : Program) (W : World) (B' : BS) (F' : FC) (ρ' : List (Str × D)) : List (Addr × MO) → Option Expr → Option Nat → List (Addr × MO) → Prop
  | none {σ0} : EvP P W B' F' ρ' σ0 Option.none Option.none σ0
  | some {σ0 σ0' e n} : Ev P W B' F' ρ' σ0 e (.int ((n : Nat) : Int)) σ0' → EvP P W B' F' ρ' σ0 (Option.some e) (Option.some n) σ0'

theorem EvP.use {x : Option Expr} {k : Option Nat} {Q : Value → Shared → Prop} {E : Value → Shared → Prop} (y : EvP prog w B F ρ σ x k σ') (H : Holds prog w B F ρ σ s.heap)
    (q : ∀ v h' tk, Ext F s.heap h' → Holds prog w B F ρ σ' h' → IsPart v (k.map fun n => (n : Int)) → Q v { s with heap := h', toks := tk }) : wpAny (model prog w) F.A (evalPart x F.env) Q E s := by
  cases y with
  | none => rw [evalPart_none]; exact wpAny_pure (q _ s.heap s.toks (Ext.refl _ _) H .none)
  | some y =>
    rw [evalPart_some]
    exact y.use H fun v h' tk e H' r => by
      simp only [R] at r
      obtain ⟨t, rfl⟩ := r
      exact q _ _ _ e H' (.int _ _)

def sl (xs : List D) (lo hi : Option Nat) : List D := ((xs.drop (lo.getD 0)).take (hi.getD xs.length - lo.getD 0))

theorem pick_nat (items : Array Value) (lo hi : Option Nat) : (slicePick items (lo.map fun n => (n : Int)) (hi.map fun n => (n : Int)) none).toList = (items.toList.drop (lo.getD 0)).take (hi.getD items.toList.length - lo.getD 0) := by
  rw [slicePick_plain]
  have key : ∀ (l : List Value) (a b : Nat), (l.drop (min a l.length)).take (min b l.length - min a l.length) = (l.drop a).take (b - a) := by
    intro l a b
    by_cases ha : a ≤ l.length
    · rw [Nat.min_eq_left ha]
      by_cases hb : b ≤ l.length
      · rw [Nat.min_eq_left hb]
      · rw [Nat.min_eq_right (by omega)]
        rw [List.take_of_length_le (by simp), List.take_of_length_le (by simp; omega)]
    · rw [Nat.min_eq_right (a := a) (by omega), List.drop_of_length_le (Nat.le_refl _), List.drop_of_length_le (by omega)]
      simp
  cases lo with
  | none => cases hi with
    | none => simp
    | some b =>
      have := key items.toList 0 b
      simpa [clipAt_nat] using this
  | some a => cases hi with
    | none =>
      have := key items.toList a items.toList.length
      simpa [clipAt_nat] using this
    | some b =>
      have := key items.toList a b
      simpa [clipAt_nat] using this

theorem RL.sl {H : Heap} {vs : List Value} {xs : List D} (r : RL prog w H vs xs) (lo hi : Option Nat) : RL prog w H ((vs.drop (lo.getD 0)).take (hi.getD vs.length - lo.getD 0)) (sl xs lo hi) := by
  unfold Mine.sl
  rw [← RL.length r]
  exact RL.take _ (RL.drop _ r)

theorem sizeOf_RL {H : Heap} {vs : Array Value} {xs : List D} (r : RL prog w H vs.toList xs) : vs.size = xs.length := by
  have := RL.length r
  simpa using this

/-- list[lo:hi] -/
theorem Ev.sliceL {l : Expr} {lo hi : Option Expr} {a b : Option Nat} {p pos : Pos} {xs : List D} (x : Ev prog w B F ρ σ l (.list xs) σ₁) (y : EvP prog w B F ρ σ₁ lo a σ₂) (z : EvP prog w B F ρ σ₂ hi b σ₃) (hsz : xs.length ≤ sizeLine) :
    Ev prog w B F ρ σ (.Subscript l (.Slice lo hi none p) pos) (.list (sl xs a b)) σ₃ := fun s H =>
  Subscript_ (x.use H fun va h1 t1 e1 H1 r1 => wpAny_Slice (y.use (s := { s with heap := h1, toks := t1 }) H1 fun vb h2 t2 e2 H2 pa => z.use (s := { s with heap := h2, toks := t2 }) H2 fun vc h3 t3 e3 H3 pb => by
    rw [evalPart_none]
    refine wpAny_pure ?_
    have r1' := R.mono ((Ext.hide e2).trans (Ext.hide e3)) r1
    simp only [R] at r1'
    obtain ⟨ad, vs, n, rfl, ht, hr⟩ := r1'
    have H4 := H3.push { cls := .type "slice", data := .fields #[vb, vc, .none] }
    have ht4 := sub_push h3 { cls := .type "slice", data := .fields #[vb, vc, .none] } _ _ (of_hideAll _ ht)
    have hsz' := sizeOf_RL hr
    refine subTail (M := model prog w) (T := "list") ⟨_, ht4, rfl⟩ slot_list_getitem.lookup (wpAny_getItem_list_slice (items := vs) ⟨_, ht4, rfl, _, rfl⟩ (Heap.IsSliceOf.new ..) pa pb .none (by simp) ?_ (by omega)) subscripted_slice
    have pp := Post.newList (s := { s with heap := h3.push { cls := .type "slice", data := .fields #[vb, vc, .none] }, toks := t3 }) (vs := (vs.toList.drop (a.getD 0)).take (b.getD vs.toList.length - a.getD 0)) (tk := t3) H4 (RL.mono (Ext.of_sub (F := F) (sub_push h3 _)).hide (hr.sl a b))
    rw [← pick_nat] at pp
    exact Post.after ((e1.trans e2).trans (e3.trans (Ext.of_sub (sub_push h3 _)))) (by simpa using pp)))

theorem krv {items : Array Value} : slicePick items none none (some (-1)) = items.toList.reverse.toArray := krv_pick items
/-- list[::-1] -/
theorem Ev.revL {l : Expr} {k : Nat} {p p1 p2 pos : Pos} {xs : List D} (x : Ev prog w B F ρ σ l (.list xs) σ₁) (hsz : xs.length ≤ sizeLine) :
    Ev prog w B F ρ σ (.Subscript l (.Slice none none (some (.UnaryOp .USub (.Constant (.int 1) k p1) p2)) p) pos) (.list xs.reverse) σ₁ := fun s H =>
  Subscript_ (x.use H fun va h1 t1 e1 H1 r1 => wpAny_Slice (by
    rw [evalPart_none, evalPart_some]
    refine wpAny_pure (wpAny_pure (wpAny_UnaryOp (wpAny_Constant_int ?_)))
    refine PySem.P.neg_int ?_
    simp only [R] at r1
    obtain ⟨ad, vs, n, rfl, ht, hr⟩ := r1
    refine subTail (M := model prog w) (T := "list") ⟨_, sub_push _ _ _ _ (of_hideAll _ ht), rfl⟩ slot_list_getitem.lookup (wpAny_getItem_list_slice (items := vs) ⟨_, sub_push _ _ _ _ (of_hideAll _ ht), rfl, _, rfl⟩ (Heap.IsSliceOf.new ..) .none .none (.int _ _) (by simp) ?_ (by have := sizeOf_RL hr; omega)) subscripted_slice
    rw [krv]
    exact Post.after (e1.trans (Ext.of_sub (sub_push h1 _))) (Post.newList (H1.push _) (RL.mono (Ext.of_sub (F := F) (sub_push h1 _)).hide hr.reverse))))
end
end Mine
namespace Mine
def noStar : Expr → Bool
  | .Starred .. => false
  | _ => true
theorem starEach_cons {e : Expr} {rest : List Expr} {env : Env} (h : noStar e = true) : starEach (e :: rest) env = (false, eval e env) :: starEach rest env := by
  cases e <;> first | rfl | (simp [noStar] at h)
theorem star_any {env : Env} {pos : Pos} : ∀ {es : List Expr}, es.all noStar = true → (backTo pos (starEach es env)).any (·.1) = false
  | [], _ => rfl
  | e :: es, h => by
    simp only [List.all_cons, Bool.and_eq_true] at h
    have ih := star_any (env := env) (pos := pos) h.2
    rw [starEach_cons h.1]
    simpa [backTo] using ih
section
variable {prog : Program} {w : World} {B : BS} {F : FC} {ρ : List (Str × D)} {σ σ' σ₁ σ₂ σ₃ : List (Addr × MO)} {h h' : Heap} {s : Shared}

def Evs (prog : Program) (w : World) (B : BS) (F : FC) (ρ : List (Str × D)) (σ : List (Addr × MO)) (es : List Expr) (ds : List D) (σ' : List (Addr × MO)) : Prop :=
  es.all noStar = true ∧ ∀ (s : Shared) (pos : Pos), Holds prog w B F ρ σ s.heap → wpAny (model prog w) F.A (spliced (backTo pos (starEach es F.env)))
    (fun vs s' => ∃ h' tk, s' = { s with heap := h', toks := tk } ∧ Ext F s.heap h' ∧ Holds prog w B F ρ σ' h' ∧ RL prog w (hideAll h' F.M) vs ds) nofail s
theorem Evs.nil : Evs prog w B F ρ σ [] [] σ := ⟨rfl, fun s pos H => Calls.spliced_nil ⟨s.heap, s.toks, rfl, Ext.refl _ _, H, RL.nil⟩⟩
theorem Evs.cons {e : Expr} {es : List Expr} {d : D} {ds : List D} (x : Ev prog w B F ρ σ e d σ₁) (y : Evs prog w B F ρ σ₁ es ds σ₂) (hn : noStar e = true := by rfl) : Evs prog w B F ρ σ (e :: es) (d :: ds) σ₂ :=
  ⟨by simp only [List.all_cons, hn, y.1, Bool.and_self], fun s pos H => wpAny_items_cons (x.use H fun v h1 t1 e1 H1 r1 => wpAny_mono (y.2 { s with heap := h1, toks := t1 } pos H1)
    (fun vs s' ⟨h2, t2, e, e2, H2, r2⟩ => ⟨h2, t2, e, e1.trans e2, H2, RL.cons (R.mono (Ext.hide e2) r1) r2⟩) fun _ _ f => f) (starEach_cons hn)⟩
theorem Evs.use {es : List Expr} {ds : List D} {pos : Pos} {Q : List Value → Shared → Prop} {E : Value → Shared → Prop} (y : Evs prog w B F ρ σ es ds σ') (H : Holds prog w B F ρ σ s.heap)
    (k : ∀ vs h' tk, Ext F s.heap h' → Holds prog w B F ρ σ' h' → RL prog w (hideAll h' F.M) vs ds → Q vs { s with heap := h', toks := tk }) : wpAny (model prog w) F.A (spliced (backTo pos (starEach es F.env))) Q E s :=
  wpAny_mono (y.2 s pos H) (fun vs _ ⟨h', tk, e, he, hh, hr⟩ => e ▸ k vs h' tk he hh hr) fun _ _ f => f.elim

/-! displays -/
theorem Ev.tuple {es : List Expr} {ds : List D} {k : Nat} {pos : Pos} (y : Evs prog w B F ρ σ es ds σ') (hsz : ds.length ≤ sizeLine) : Ev prog w B F ρ σ (.Tuple es k pos) (.tup ds) σ' := fun s H =>
  wpAny_Tuple (y.use H fun vs h1 t1 e1 H1 r1 => ⟨by rw [RL.length r1]; exact hsz, Post.after (tk := t1) e1 (Post.newTup (s := { s with heap := h1, toks := t1 }) H1 r1)⟩)
theorem Ev.listD {es : List Expr} {ds : List D} {pos : Pos} (y : Evs prog w B F ρ σ es ds σ') (hsz : ds.length ≤ sizeLine) : Ev prog w B F ρ σ (.List es pos) (.list ds) σ' := fun s H =>
  wpAny_List (y.use H fun vs h1 t1 e1 H1 r1 => ⟨by rw [RL.length r1]; exact hsz, Post.after (tk := t1) e1 (Post.newList (s := { s with heap := h1, toks := t1 }) H1 r1)⟩)

/-! tests -/
def Tst (prog : Program) (w : World) (B : BS) (F : FC) (ρ : List (Str × D)) (σ : List (Addr × MO)) (e : Expr) (b : Bool) (σ' : List (Addr × MO)) : Prop :=
  ∀ s : Shared, Holds prog w B F ρ σ s.heap → wpAny (model prog w) F.A (isTrue e F.env (eval e F.env)) (fun v s' => v = b ∧ ∃ h' tk, s' = { s with heap := h', toks := tk } ∧ Ext F s.heap h' ∧ Holds prog w B F ρ σ' h') nofail s
theorem Tst.use {e : Expr} {b : Bool} {Q : Bool → Shared → Prop} {E : Value → Shared → Prop} (x : Tst prog w B F ρ σ e b σ') (H : Holds prog w B F ρ σ s.heap)
    (k : ∀ h' tk, Ext F s.heap h' → Holds prog w B F ρ σ' h' → Q b { s with heap := h', toks := tk }) : wpAny (model prog w) F.A (isTrue e F.env (eval e F.env)) Q E s :=
  wpAny_mono (x s H) (fun v _ ⟨e1, h', tk, e, he, hh⟩ => by subst e1; exact e ▸ k h' tk he hh) fun _ _ f => f.elim
theorem Tst.cast {e : Expr} {b b' : Bool} (x : Tst prog w B F ρ σ e b σ') (h : b = b') : Tst prog w B F ρ σ e b' σ' := h ▸ x

/-- a plain value that is a bool (a name, a call ..) -/
def plainTest : Expr → Bool
  | .UnaryOp .. | .BoolOp .. | .IfExp .. | .Compare .. => false
  | _ => true
theorem isTrue_plain {e : Expr} {env : Env} {whole : Sem Value} (h : plainTest e = true) : isTrue e env whole = (do let v ← whole; standAt e.pos; holding [v] (truthy v)) := by
  cases e <;> first | rfl | (simp [plainTest] at h)
theorem Tst.val {e : Expr} {b : Bool} (x : Ev prog w B F ρ σ e (.bool b) σ') (hp : plainTest e = true := by rfl) : Tst prog w B F ρ σ e b σ' := fun s H => by
  rw [isTrue_plain hp]
  exact wpAny_bind (x.use H fun v h' tk e1 H1 r => by
    simp only [R] at r; subst r
    exact wpAny_bind (wpAny_standAt (wpAny_holding (wpAny_truthy_bool ⟨rfl, h', tk, rfl, e1, H1⟩))))
/-- one comparison -/
theorem Tst.cmp {l r : Expr} {op : CmpOp} {pos : Pos} {b : Bool} (x : Ev prog w B F ρ σ (.Compare l [op] [r] pos) (.bool b) σ') (hm : behindInMarks op r = false := by with_unfolding_all rfl) : Tst prog w B F ρ σ (.Compare l [op] [r] pos) b σ' := fun s H => by
  have z := x s H
  rw [eval_Compare1] at z
  rw [isTrue_Compare1]
  intro Γ p hΓ
  have z1 := z Γ p hΓ
  rw [Sem.wp_bind'] at z1 ⊢
  refine Sem.wp_mono _ Γ _ (fun a p1 s1 z2 => ?_) (fun _ _ _ f => f) p s z1
  rw [Sem.wp_bind'] at z2 ⊢
  refine Sem.wp_mono _ Γ _ (fun c p2 s2 z3 => ?_) (fun _ _ _ f => f) p1 s1 z2
  rw [Sem.wp_bind'] at z3 ⊢
  refine Sem.wp_mono _ Γ _ (fun _ p3 s3 z4 => ?_) (fun _ _ _ f => f) p2 s2 z3
  rw [Sem.wp_bind']
  refine Sem.wp_mono _ Γ _ (fun v p4 s4 z5 => ?_) (fun _ _ _ f => f) p3 s3 z4
  obtain ⟨h', tk, rfl, e1, H1, r1⟩ := z5
  simp only [R] at r1; subst r1
  exact (wpAny_holding (wpAny_truthy_bool ⟨rfl, h', tk, rfl, e1, H1⟩) : wpAny (model prog w) F.A _ _ nofail _) Γ p4 hΓ
theorem Tst.and1 {x y : Expr} {pos : Pos} (p : Tst prog w B F ρ σ x false σ') : Tst prog w B F ρ σ (.BoolOp .And [x, y] pos) false σ' := fun s H =>
  wpAny_isTrue_BoolOp (wpAny_allTrue_And_cons (p.use H fun h' tk e1 H1 => by
    show if false = true then _ else _
    rw [if_neg (by decide)]; exact ⟨rfl, h', tk, rfl, e1, H1⟩))
theorem Tst.and2 {x y : Expr} {pos : Pos} {b : Bool} (p : Tst prog w B F ρ σ x true σ₁) (q : Tst prog w B F ρ σ₁ y b σ₂) : Tst prog w B F ρ σ (.BoolOp .And [x, y] pos) b σ₂ := fun s H =>
  wpAny_isTrue_BoolOp (wpAny_allTrue_And_cons (p.use H fun h1 t1 e1 H1 => by
    show if true = true then _ else _
    rw [if_pos rfl]
    exact wpAny_allTrue_And_cons (q.use (s := { s with heap := h1, toks := t1 }) H1 fun h2 t2 e2 H2 => by
      cases b with
      | true => rw [if_pos rfl]; exact wpAny_allTrue_And_nil ⟨rfl, h2, t2, rfl, e1.trans e2, H2⟩
      | false => rw [if_neg (by decide)]; exact ⟨rfl, h2, t2, rfl, e1.trans e2, H2⟩)))
theorem Tst.or2 {x y : Expr} {pos : Pos} {b : Bool} (p : Tst prog w B F ρ σ x false σ₁) (q : Tst prog w B F ρ σ₁ y b σ₂) : Tst prog w B F ρ σ (.BoolOp .Or [x, y] pos) b σ₂ := fun s H =>
  wpAny_isTrue_BoolOp (wpAny_allTrue_Or_cons (p.use H fun h1 t1 e1 H1 => by
    show if false = true then _ else _
    rw [if_neg (by decide)]
    exact wpAny_allTrue_Or_cons (q.use (s := { s with heap := h1, toks := t1 }) H1 fun h2 t2 e2 H2 => by
      cases b with
      | true => rw [if_pos rfl]; exact ⟨rfl, h2, t2, rfl, e1.trans e2, H2⟩
      | false => rw [if_neg (by decide)]; exact wpAny_allTrue_Or_nil ⟨rfl, h2, t2, rfl, e1.trans e2, H2⟩)))
theorem Tst.or1 {x y : Expr} {pos : Pos} (p : Tst prog w B F ρ σ x true σ₁) : Tst prog w B F ρ σ (.BoolOp .Or [x, y] pos) true σ₁ := fun s H =>
  wpAny_isTrue_BoolOp (wpAny_allTrue_Or_cons (p.use H fun h1 t1 e1 H1 => by
    show if true = true then _ else _
    rw [if_pos rfl]; exact ⟨rfl, h1, t1, rfl, e1, H1⟩))
theorem Tst.or3 {x y z : Expr} {pos : Pos} {b : Bool} (p : Tst prog w B F ρ σ x false σ₁) (q : Tst prog w B F ρ σ₁ (.BoolOp .Or [y, z] pos) b σ₂) : Tst prog w B F ρ σ (.BoolOp .Or [x, y, z] pos) b σ₂ := fun s H =>
  wpAny_isTrue_BoolOp (wpAny_allTrue_Or_cons (p.use H fun h1 t1 e1 H1 => by
    show if false = true then _ else _
    rw [if_neg (by decide)]
    exact wpAny_mono (q { s with heap := h1, toks := t1 } H1) (fun v s' ⟨e, h2, t2, e', e2, H2⟩ => ⟨e, h2, t2, e', e1.trans e2, H2⟩) fun _ _ f => f))

theorem Ev.ifT {t b o : Expr} {pos : Pos} {d : D} (x : Tst prog w B F ρ σ t true σ₁) (y : Ev prog w B F ρ σ₁ b d σ₂) : Ev prog w B F ρ σ (.IfExp t b o pos) d σ₂ := fun s H =>
  wpAny_IfExp (x.use H fun h1 t1 e1 H1 => by
    rw [if_pos rfl]
    exact y.use (s := { s with heap := h1, toks := t1 }) H1 fun v h2 t2 e2 H2 r => ⟨h2, t2, rfl, e1.trans e2, H2, r⟩)
theorem Ev.ifF {t b o : Expr} {pos : Pos} {d : D} (x : Tst prog w B F ρ σ t false σ₁) (y : Ev prog w B F ρ σ₁ o d σ₂) : Ev prog w B F ρ σ (.IfExp t b o pos) d σ₂ := fun s H =>
  wpAny_IfExp (x.use H fun h1 t1 e1 H1 => by
    rw [if_neg (by decide)]
    exact y.use (s := { s with heap := h1, toks := t1 }) H1 fun v h2 t2 e2 H2 r => ⟨h2, t2, rfl, e1.trans e2, H2, r⟩)
/-- x and y, as a value, both bools -/
theorem Ev.and {x y : Expr} {pos : Pos} {a b : Bool} (p : Ev prog w B F ρ σ x (.bool a) σ) (q : a = true → Ev prog w B F ρ σ y (.bool b) σ) : Ev prog w B F ρ σ (.BoolOp .And [x, y] pos) (.bool (a && b)) σ := fun s H =>
  wpAny_And2 (p.use H fun v h1 t1 e1 H1 r => by
    simp only [R] at r; subst r
    refine wpAny_truthy_bool ?_
    cases a with
    | false => rw [if_neg (by decide)]; exact ⟨h1, t1, rfl, e1, H1, R.bool⟩
    | true =>
      rw [if_pos rfl]
      exact (q rfl).use (s := { s with heap := h1, toks := t1 }) H1 fun v h2 t2 e2 H2 r => ⟨h2, t2, rfl, e1.trans e2, H2, by simpa using r⟩)
end
end Mine
namespace Mine
section
variable {prog : Program} {w : World} {B : BS} {F : FC} {ρ : List (Str × D)} {σ σ' σ₁ σ₂ σ₃ : List (Addr × MO)} {h h' : Heap} {s : Shared}

def bltNames : List Str := ["len", "min", "max", "abs", "range", "list", "tuple", "sorted", "dict"]
theorem evalArgs_of {M : Model} {A : Around} {E : Value → Shared → Prop} {f : Value} {env : Env} {pos : Pos} {es : List Expr} {Q : Args → Shared → Prop} (hn : es.all noStar = true) (h0 : es ≠ [])
    (h : wpAny M A (spliced (backTo pos (starEach es env))) (fun vs s' => Q ⟨vs, []⟩ s') E s) : wpAny M A (evalArgs f true (backTo pos (starEach es env)) []) Q E s := by
  cases es with
  | nil => exact absurd rfl h0
  | cons e r =>
    simp only [List.all_cons, Bool.and_eq_true] at hn
    rw [starEach_cons hn.1] at h ⊢
    exact Calls.evalArgs_plain h

/-- a callee that a name of the built-ins gives -/
inductive BV : Value → Prop
  | fn (id : String) : BV (.builtin id)
  | ty (T : String) : BV (.type T)

theorem Ev.callB {x : Str} {px pos : Pos} {es : List Expr} {ds : List D} {d : D} {f : Value} (hk : F.env.kindOf x = some .globalImplicit) (hx : x ∈ bltNames) (hb : bootBuiltins x = some f) (hf : BV f)
    (y : Evs prog w B F ρ σ es ds σ') (h0 : es ≠ []) (k : ∀ (s : Shared) vs, Holds prog w B F ρ σ' s.heap → RL prog w (hideAll s.heap F.M) vs ds → Giv prog w B F ρ σ' (call f vs) d s) :
    Ev prog w B F ρ σ (.Call (.Name x px) es [] pos) d σ' := fun s H => by
  have hn : x ≠ "__name__" := by
    intro e; subst e; exact absurd hx (by decide)
  have hd : (x == ("__debug__" : Str)) = false := by
    cases hq : x == ("__debug__" : Str) with
    | false => rfl
    | true => rw [eq_of_beq hq] at hx; exact absurd hx (by decide)
  have hmb : B.mb x = some f := (B.bi x hn).trans hb
  have hmg : B.mg x = none := B.free x hx
  have tail : ∀ (s : Shared), Holds prog w B F ρ σ s.heap → wpAny (model prog w) F.A (callWith pos f [] (backTo pos (starEach es F.env)) []) (Post prog w B F ρ σ' d s) nofail s := by
    intro s H
    have args : wpAny (model prog w) F.A (evalArgs f true (backTo pos (starEach es F.env)) []) (fun a s₁ => wpAny (model prog w) F.A (call f ([] ++ a.pos) a.kw) (Post prog w B F ρ σ' d s) nofail s₁) nofail s :=
      evalArgs_of y.1 h0 (y.use H fun vs h1 t1 e1 H1 r1 => wpAny_mono (k { s with heap := h1, toks := t1 } vs H1 r1) (fun v s' p => Post.after e1 p) fun _ _ f => f)
    cases hf with
    | fn id => exact Calls.callWith_builtin (star_any y.1) args
    | ty T => exact PySem.callWith_type (star_any y.1) args
  show wpAny (model prog w) F.A (do let fv ← eval (.Name x px) F.env; callWith pos fv [] (backTo pos (starEach es F.env)) (backToKw pos (keywordEach [] F.env))) _ _ _
  refine wpAny_bind (Calls.Name_function_global H.ok.kind hk (Calls.loadGlobal_builtin H.ns hmg H.nsb hmb ?_) hd)
  exact tail s H

section
variable {x : Str} {px pos : Pos} {e e1 e2 e3 : Expr} {xs : List D}
theorem Post.int2 {i : Int} {v : Tok} {tk : Nat} (H : Holds prog w B F ρ σ s.heap) : Post prog w B F ρ σ (.int i) s (.int i v) { s with toks := tk } := Post.here H R.int
theorem sz63 {n : Nat} (h : n ≤ sizeLine) : (n : Int) < 2 ^ 63 := by rw [sizeLine_eq] at h; omega

theorem Ev.lenT (y : Ev prog w B F ρ σ e (.tup xs) σ') (hsz : xs.length ≤ sizeLine) (hk : F.env.kindOf "len" = some .globalImplicit) (hs : noStar e = true := by rfl) : Ev prog w B F ρ σ (.Call (.Name "len" px) [e] [] pos) (.int xs.length) σ' :=
  Ev.callB hk (by decide) boot_len (.fn _) (Evs.cons y Evs.nil hs) (by simp) fun s vs H r => by
    simp only [RL] at r
    obtain ⟨v, _, rfl, r1, rfl⟩ := r
    simp only [R] at r1
    obtain ⟨a, ws, n, rfl, ht, hr⟩ := r1
    have e := sizeOf_RL hr
    rw [← e]
    refine P.len_tuple (of_hideAll _ ht) ?_ (Post.here H R.int)
    have := sz63 hsz; rw [← e] at this; omega
theorem Ev.lenL (y : Ev prog w B F ρ σ e (.list xs) σ') (hsz : xs.length ≤ sizeLine) (hk : F.env.kindOf "len" = some .globalImplicit) (hs : noStar e = true := by rfl) : Ev prog w B F ρ σ (.Call (.Name "len" px) [e] [] pos) (.int xs.length) σ' :=
  Ev.callB hk (by decide) boot_len (.fn _) (Evs.cons y Evs.nil hs) (by simp) fun s vs H r => by
    simp only [RL] at r
    obtain ⟨v, _, rfl, r1, rfl⟩ := r
    simp only [R] at r1
    obtain ⟨a, ws, n, rfl, ht, hr⟩ := r1
    have e := sizeOf_RL hr
    rw [← e]
    refine PyProof.Rows.len_list ⟨_, of_hideAll _ ht, rfl, _, rfl⟩ ?_ (Post.here H R.int)
    have := sz63 hsz; rw [← e] at this; omega
theorem Ev.tupOfL (y : Ev prog w B F ρ σ e (.list xs) σ') (hsz : xs.length ≤ sizeLine) (hk : F.env.kindOf "tuple" = some .globalImplicit) (hs : noStar e = true := by rfl) : Ev prog w B F ρ σ (.Call (.Name "tuple" px) [e] [] pos) (.tup xs) σ' :=
  Ev.callB hk (by decide) boot_tuple (.ty _) (Evs.cons y Evs.nil hs) (by simp) fun s vs H r => by
    simp only [RL] at r
    obtain ⟨v, _, rfl, r1, rfl⟩ := r
    simp only [R] at r1
    obtain ⟨a, ws, n, rfl, ht, hr⟩ := r1
    have e := sizeOf_RL hr
    refine call_tuple_list (items := ws) ⟨_, of_hideAll _ ht, rfl, _, rfl⟩ (fun h' hk' => ?_) (by omega)
    have p := Post.newTup (s := { s with heap := h' }) (vs := ws.toList) (tk := s.toks) (H.grow hk') (RL.mono (Ext.of_sub (F := F) hk').hide hr)
    exact Post.after (tk := s.toks) (Ext.of_sub hk') (by simpa using p)
theorem Ev.listOfSeq {T : Bool} (y : Ev prog w B F ρ σ e (if T then .tup xs else .list xs) σ') (hsz : xs.length ≤ sizeLine) (hk : F.env.kindOf "list" = some .globalImplicit) (hs : noStar e = true := by rfl) : Ev prog w B F ρ σ (.Call (.Name "list" px) [e] [] pos) (.list xs) σ' :=
  Ev.callB hk (by decide) PyProof.Rows.boot_list (.ty _) (Evs.cons y Evs.nil hs) (by simp) fun s vs H r => by
    simp only [RL] at r
    obtain ⟨v, _, rfl, r1, rfl⟩ := r
    have key : ∃ a ws n T', v = .ref a ∧ (T' = "list" ∨ T' = "tuple") ∧ (hideAll s.heap F.M).get? a = some { cls := .type T', dict := none, data := .seq ws n, slots := #[] } ∧ RL prog w (hideAll s.heap F.M) ws.toList xs := by
      cases T with
      | true => simp only [if_true, R] at r1; obtain ⟨a, ws, n, rfl, ht, hr⟩ := r1; exact ⟨a, ws, n, "tuple", rfl, .inr rfl, ht, hr⟩
      | false => simp only [Bool.false_eq_true, if_false, R] at r1; obtain ⟨a, ws, n, rfl, ht, hr⟩ := r1; exact ⟨a, ws, n, "list", rfl, .inl rfl, ht, hr⟩
    obtain ⟨a, ws, n, T', rfl, hT, ht, hr⟩ := key
    have e := sizeOf_RL hr
    refine call_list_seq (items := ws) a hT (of_hideAll _ ht) rfl rfl (fun h' c' hk' ho' => ?_) (by omega)
    have H' := H.grow hk'
    exact Post.grown H hk' (R.list (hideAll_get _ ho' H.freshM) (RL.mono (Ext.of_sub (F := F) hk').hide hr))
theorem Ev.range1 {n : Int} (y : Ev prog w B F ρ σ e (.int n) σ') (hk : F.env.kindOf "range" = some .globalImplicit) (hs : noStar e = true := by rfl) : Ev prog w B F ρ σ (.Call (.Name "range" px) [e] [] pos) (.rng 0 n 1) σ' :=
  Ev.callB hk (by decide) boot_range (.ty _) (Evs.cons y Evs.nil hs) (by simp) fun s vs H r => by
    simp only [RL] at r
    obtain ⟨v, _, rfl, r1, rfl⟩ := r
    simp only [R] at r1
    obtain ⟨t, rfl⟩ := r1
    refine call_range_1 (Post.grown H (sub_push _ _) ?_)
    simp only [R]
    exact ⟨_, s.toks, t, _, rfl, H.hide_push _ rfl⟩
theorem Ev.range2 {a b : Int} (y : Ev prog w B F ρ σ e1 (.int a) σ₁) (z : Ev prog w B F ρ σ₁ e2 (.int b) σ') (hk : F.env.kindOf "range" = some .globalImplicit) (hs : noStar e1 = true := by rfl) (hs2 : noStar e2 = true := by rfl) : Ev prog w B F ρ σ (.Call (.Name "range" px) [e1, e2] [] pos) (.rng a b 1) σ' :=
  Ev.callB hk (by decide) boot_range (.ty _) (Evs.cons y (Evs.cons z Evs.nil hs2) hs) (by simp) fun s vs H r => by
    simp only [RL] at r
    obtain ⟨v, _, rfl, r1, v2, _, rfl, r2, rfl⟩ := r
    simp only [R] at r1 r2
    obtain ⟨t, rfl⟩ := r1
    obtain ⟨u, rfl⟩ := r2
    refine call_range_2 (Post.grown H (sub_push _ _) ?_)
    simp only [R]
    exact ⟨_, t, u, _, rfl, H.hide_push _ rfl⟩
theorem Ev.range3 {a b c : Int} (y : Ev prog w B F ρ σ e1 (.int a) σ₁) (z : Ev prog w B F ρ σ₁ e2 (.int b) σ₂) (z3 : Ev prog w B F ρ σ₂ e3 (.int c) σ') (hc : c ≠ 0) (hp : Builtin.divisionGoesByPylong (b - a) c = false) (hk : F.env.kindOf "range" = some .globalImplicit) (hs : noStar e1 = true := by rfl) (hs2 : noStar e2 = true := by rfl) (hs3 : noStar e3 = true := by rfl) : Ev prog w B F ρ σ (.Call (.Name "range" px) [e1, e2, e3] [] pos) (.rng a b c) σ' :=
  Ev.callB hk (by decide) boot_range (.ty _) (Evs.cons y (Evs.cons z (Evs.cons z3 Evs.nil hs3) hs2) hs) (by simp) fun s vs H r => by
    simp only [RL] at r
    obtain ⟨v, _, rfl, r1, v2, _, rfl, r2, v3, _, rfl, r3, rfl⟩ := r
    simp only [R] at r1 r2 r3
    obtain ⟨t, rfl⟩ := r1
    obtain ⟨u, rfl⟩ := r2
    obtain ⟨q, rfl⟩ := r3
    refine call_range_3 hc (Post.grown H (sub_push _ _) ?_) (.inl hp)
    simp only [R]
    exact ⟨_, t, u, q, rfl, H.hide_push _ rfl⟩
theorem Ev.abs {i : Int} (y : Ev prog w B F ρ σ e (.int i) σ') (hk : F.env.kindOf "abs" = some .globalImplicit) (hs : noStar e = true := by rfl) : Ev prog w B F ρ σ (.Call (.Name "abs" px) [e] [] pos) (.int (if i < 0 then -i else i)) σ' :=
  Ev.callB hk (by decide) boot_abs (.fn _) (Evs.cons y Evs.nil hs) (by simp) fun s vs H r => by
    simp only [RL] at r
    obtain ⟨v, _, rfl, r1, rfl⟩ := r
    simp only [R] at r1
    obtain ⟨t, rfl⟩ := r1
    exact call_abs_int fun u tk => Post.here H R.int
end
end
end Mine
namespace Mine
section
variable {prog : Program} {w : World} {B : BS} {F : FC} {ρ : List (Str × D)} {σ σ' σ₁ σ₂ σ₃ : List (Addr × MO)} {h h' : Heap} {s : Shared}

theorem RL.ints {H : Heap} : ∀ {ns : List Int} {vs : List Value}, RL prog w H vs (I ns) → IntsAre vs ns
  | [], _, r => by simp only [I, List.map_nil, RL] at r; subst r; exact .nil
  | n :: ns, _, r => by
    simp only [I, List.map_cons, RL] at r
    obtain ⟨v, q, rfl, r1, r2⟩ := r
    simp only [R] at r1
    obtain ⟨t, rfl⟩ := r1
    exact .cons n t (RL.ints r2)
theorem RL.of_ints {H : Heap} : ∀ {ns : List Int} {vs : List Value}, IntsAre vs ns → RL prog w H vs (I ns)
  | _, _, .nil => by simp [I, RL]
  | _, _, .cons n t r => by simp only [I, List.map_cons]; exact RL.cons R.int (RL.of_ints r)

section
variable {x : Str} {px pos : Pos} {e : Expr} {ns : List Int} {M : Int}
theorem Ev.min (y : Ev prog w B F ρ σ e (.list (I ns)) σ') (hM : M ∈ ns) (hle : ∀ a ∈ ns, M ≤ a) (hk : F.env.kindOf "min" = some .globalImplicit) (hs : noStar e = true := by rfl) : Ev prog w B F ρ σ (.Call (.Name "min" px) [e] [] pos) (.int M) σ' :=
  Ev.callB hk (by decide) boot_min (.fn _) (Evs.cons y Evs.nil hs) (by simp) fun s vs H r => by
    simp only [RL] at r
    obtain ⟨v, _, rfl, r1, rfl⟩ := r
    simp only [R] at r1
    obtain ⟨a, ws, n, rfl, ht, hr⟩ := r1
    have hi := RL.ints hr
    obtain ⟨xs, e⟩ := hi.allInts.items
    have hns : ns = xs.toList.map (·.1) := by rw [← hi.numsOf, ← nums_intItems, ← e]
    have hsz : 0 < xs.size := by
      have h3 := List.length_pos_of_mem hM
      rw [hns, List.length_map, Array.length_toList] at h3; exact h3
    have hl : s.heap.IsList a (intItems xs) := by
      rw [← e]
      refine ⟨_, of_hideAll _ ht, rfl, n, ?_⟩
      simp
    refine min_intList H.ok.hand hl hsz fun v h' tk hv hk => ?_
    obtain ⟨t, rfl⟩ := intItems_at hv
    obtain ⟨h1, h2⟩ := argBest_lt (numAt xs) (xs.size - 1)
    have hb : numAt xs (argBest (fun i j => decide (numAt xs i < numAt xs j)) (xs.size - 1)) = M := by
      refine Int.le_antisymm ?_ (hle _ ?_)
      · rw [hns] at hM
        obtain ⟨j, hj, rfl⟩ := mem_getD hM
        rw [List.length_map, Array.length_toList] at hj
        rw [← numAt_eq]; exact h2 j (by omega)
      · rw [hns, numAt_eq]; exact getD_mem (by rw [List.length_map, Array.length_toList]; omega)
    rw [hb]
    exact Post.grown H hk R.int
theorem Ev.max (y : Ev prog w B F ρ σ e (.list (I ns)) σ') (hM : M ∈ ns) (hle : ∀ a ∈ ns, a ≤ M) (hk : F.env.kindOf "max" = some .globalImplicit) (hs : noStar e = true := by rfl) : Ev prog w B F ρ σ (.Call (.Name "max" px) [e] [] pos) (.int M) σ' :=
  Ev.callB hk (by decide) boot_max (.fn _) (Evs.cons y Evs.nil hs) (by simp) fun s vs H r => by
    simp only [RL] at r
    obtain ⟨v, _, rfl, r1, rfl⟩ := r
    simp only [R] at r1
    obtain ⟨a, ws, n, rfl, ht, hr⟩ := r1
    have hi := RL.ints hr
    obtain ⟨xs, e⟩ := hi.allInts.items
    have hns : ns = xs.toList.map (·.1) := by rw [← hi.numsOf, ← nums_intItems, ← e]
    have hsz : 0 < xs.size := by
      have h3 := List.length_pos_of_mem hM
      rw [hns, List.length_map, Array.length_toList] at h3; exact h3
    have hl : s.heap.IsList a (intItems xs) := by
      rw [← e]
      refine ⟨_, of_hideAll _ ht, rfl, n, ?_⟩
      simp
    refine max_intList H.ok.hand hl hsz fun v h' tk hv hk => ?_
    obtain ⟨t, rfl⟩ := intItems_at hv
    obtain ⟨h1, h2⟩ := argBest_gt (numAt xs) (xs.size - 1)
    have hb : numAt xs (argBest (fun i j => decide (numAt xs i > numAt xs j)) (xs.size - 1)) = M := by
      refine Int.le_antisymm (hle _ ?_) ?_
      · rw [hns, numAt_eq]; exact getD_mem (by rw [List.length_map, Array.length_toList]; omega)
      · rw [hns] at hM
        obtain ⟨j, hj, rfl⟩ := mem_getD hM
        rw [List.length_map, Array.length_toList] at hj
        rw [← numAt_eq]; exact h2 j (by omega)
    rw [hb]
    exact Post.grown H hk R.int
end

/-! ### sorted of a dict of ints -/
theorem ints_of_items : ∀ (kvs : List (Int × Value)) (acc : Array Value), acc.size = kvs.length → (∀ (j : Nat) v, acc[j]? = some v → ∃ k x, kvs[j]? = some (k, x) ∧ (intKind prog w).is k v = true) → IntsAre acc.toList (kvs.map (·.1)) := by
  intro kvs acc hs hi
  obtain ⟨l⟩ := acc
  simp only [List.size_toArray, List.getElem?_toArray] at hs hi
  induction kvs generalizing l with
  | nil => cases l with
    | nil => exact .nil
    | cons v l => simp at hs
  | cons kv kvs ih =>
    cases l with
    | nil => simp at hs
    | cons v l =>
      obtain ⟨k, x, e1, e2⟩ := hi 0 v rfl
      simp at e1
      obtain ⟨t, rfl⟩ := Value.isInt_shape e2
      subst e1
      exact .cons _ t (ih l (by simpa using hs) fun j v' hj => hi (j + 1) v' (by simpa using hj))

theorem collect_dict {A : Around} {E : Value → Shared → Prop} {d : Addr} {kvs : List (Int × Value)} {Q : List Value → Shared → Prop} (hh : A.handled = none) (lo : (d == sysModules) = false) (hd : s.heap.DictOf (intKind prog w) d kvs) (hsz : kvs.length ≤ sizeLine)
    (h : ∀ vs h' tk, (∀ b o, s.heap.get? b = some o → h'.get? b = some o) → s.heap.objs.size ≤ h'.objs.size → IntsAre vs (kvs.map (·.1)) → Q vs { s with heap := h', toks := tk }) :
    wpAny (model prog w) A (collect (.ref d)) Q E s := by
  obtain ⟨ep, hat⟩ := hd.dictAt
  have hdlt := hat.lt_size
  unfold collect
  refine wpAny_bind (wpAny_runValue (codeAny_builtin entry_proto_collect' ?_))
  show wpAny _ _ (do again (.builtin "list.__iadd__" ⟨[← newList [], .ref d], []⟩)) _ _ s
  refine wpAny_bind (wpAny_newList (wpAny_pure ⟨Code.quiet_builtin _ (by decide +kernel), codeAny_builtin entry_list_iadd' ?_⟩))
  show wpAny _ _ (Builtin.List.listExtendWith (.ref s.heap.objs.size) (.ref d) (.ref s.heap.objs.size)) _ _ { s with heap := s.heap.push (seqObj "list" #[] 0) }
  rw [Around.under_plainId (by decide +kernel) _]
  refine kdl_extend (R := wants _ E) (s := { s with heap := s.heap.push (seqObj "list" #[] 0) }) (kdl_dict lo (knd := intKind prog w) (kvs := kvs) (ep := ep)) hh (hat.push _) s.heap.objs.size (Nat.ne_of_gt hdlt) (Nat.ne_of_gt hdlt) (.ref s.heap.objs.size) 0 (Heap.get?_push_size _ rfl) (fun h' tk acc' c' hk hS hI => ?_) hsz
  refine wpAny_bind (wpAny_load hS ?_)
  refine wpAny_pure (h _ _ _ (fun b o e => hk b o (Nat.ne_of_lt (Heap.lt_size e)) (Heap.get?_push_of_some _ e)) (Nat.le_of_lt (Heap.lt_size hS)) ?_)
  exact ints_of_items kvs acc' hI.1 hI.2
theorem sorted_dict {A : Around} {E : Value → Shared → Prop} {d : Addr} {kvs : List (Int × Value)} {Q : Value → Shared → Prop} (hh : A.handled = none) (lo : (d == sysModules) = false) (hd : s.heap.DictOf (intKind prog w) d kvs) (h64 : kvs.length < 64)
    (h : ∀ h' tk a vs e, (∀ b o, s.heap.get? b = some o → h'.get? b = some o) → s.heap.objs.size ≤ a → h'.get? a = some (seqObj "list" vs e) → IntsAre vs.toList ((kvs.map (·.1)).mergeSort (fun a b => decide (a ≤ b))) → Q (.ref a) { s with heap := h', toks := tk }) :
    wpAny (model prog w) A (call (.builtin "sorted") [.ref d]) Q E s := by
  refine Calls.call_function_entry kind_sorted plain_sorted entry_sorted (args_sorted1 _) ?_
  unfold Builtin.«sorted»
  refine wpAny_bind (m := checkCount "sorted" 1 1 _) (wpAny_pure ?_)
  refine wpAny_bind (collect_dict hh lo hd (by rw [sizeLine_eq]; omega) fun vs h1 tk1 hk1 hsz hI => ?_)
  refine wpAny_bind (wpAny_newList ?_ (by have := hI.length; rw [sizeLine_eq]; simp at this; omega))
  have hoL : (h1.push (seqObj "list" vs.toArray 0)).get? h1.objs.size = some (seqObj "list" vs.toArray 0) := Heap.get?_push_size _ rfl
  have h64' : vs.length < 64 := by have := hI.length; simp at this; omega
  show wpAny _ _ _ _ _ { s with heap := h1.push (seqObj "list" vs.toArray 0), toks := tk1 }
  refine wpAny_bind (wpAny_holding (wpAny_call_entry slot_list_sort ⟨_, hoL, rfl⟩ entry_list_sort (list_sort_tree hoL hI h64' fun out ns' a1 a2 a3 => ⟨_, rfl, ?_⟩) (args_list_sort _)))
  refine wpAny_pure ⟨_, rfl, ?_⟩
  obtain ⟨e, he⟩ := sortedHeap_at (vs := vs) (n := 0) (out := out) hoL
  have hold : ∀ b o, s.heap.get? b = some o → (sortedHeap (h1.push (seqObj "list" vs.toArray 0)) h1.objs.size vs out).get? b = some o := by
    intro b o eb
    have e1 := hk1 b o eb
    have lt1 := Heap.lt_size e1
    rw [sortedHeap_old (Nat.ne_of_lt lt1) (by rw [Heap.size_push]; exact Nat.lt_succ_of_lt lt1)]
    exact Heap.get?_push_of_some _ e1
  refine h _ _ _ _ e hold hsz he ?_
  have : ns' = (kvs.map (·.1)).mergeSort (fun a b => decide (a ≤ b)) := by
    refine ksm_same (a2.trans (List.mergeSort_perm _ _).symm) a3 ?_
    have := List.pairwise_mergeSort (le := fun (a b : Int) => decide (a ≤ b)) (by intro a b c; simp; omega) (by intro a b; simp; omega) (kvs.map (·.1))
    simpa using this
  rw [← this]; exact a1
end
end Mine
namespace Mine
theorem miss_keys : typeLookup (.type "list") "keys" = pure none := by rw [typeLookup_type, builtinLookup_eq_fast]; kernel_rfl
set_option maxRecDepth 8000 in
theorem getAttrQ_list {prog : Program} {w : World} {A : Around} {E : Value → Shared → Prop} {s : Shared} {a : Addr} {xs : Array Value} {k : Nat} {Q : Option Value → Shared → Prop}
    (hx : s.heap.get? a = some { cls := .type "list", dict := none, data := .seq xs k, slots := #[] }) (hA : A.handled = none)
    (h : ∀ h' tk, (∀ b o, s.heap.get? b = some o → h'.get? b = some o) → Q none { s with heap := h', toks := tk }) :
    wpAny (model prog w) A (getAttr? (.ref a) "keys") Q E s := by
  have hmiss := miss_keys
  have hname : (["__module__", "__name__", "__qualname__", "__doc__", "__annotations__"] : List Str).contains "keys" = false := by decide +kernel
  have hsz : Str.length "keys" + 100 ≤ sizeLine := by decide +kernel
  obtain ⟨hp, g, d, tk, os⟩ := s
  have hT : ∀ tk', (⟨hp, g, d, tk', os⟩ : Shared).TypeIs (.ref a) "list" := fun _ => ⟨_, hx, rfl⟩
  have f1 := sub_AttributeError
  have f3 := F.slot_list_getattribute.lookup
  have f4 := F.slot_list_getattribute.bind (.ref a)
  have f5 := am_list_getattr_none
  unfold getAttr? getAttrBy? getAttrBy
  repeat (any_goals (first | assumption | exact hT _ | ((with_reducible show wpAny _ _ (call (Value.builtin "list.__getattribute__") _ _) _ _ _); refine call_meets F.slot_list_getattribute (hT _) am_entry_list_getattribute (F.args_list_getattribute_2 _ _) (meets_getattribute_miss_list a xs k #[] "keys" _ hmiss hname hsz) ⟨hx, hA, fun h' tk' e hx' => ?_⟩) | wp_step))
  obtain ⟨t', u', he⟩ := hx'.there
  show wpAny _ _ (getattributeRaised _ _ _ _ _ _ _) _ _ _
  unfold getattributeRaised
  repeat (any_goals (first | assumption | wp_step))
  exact h _ _ hx'.keeps
end Mine
namespace Mine
section
variable {prog : Program} {w : World} {B : BS} {F : FC} {ρ : List (Str × D)} {σ σ' σ₁ σ₂ σ₃ : List (Addr × MO)} {h h' : Heap} {s : Shared}

/-- a key more, if it is new -/
def addK {K : Type} [DecidableEq K] (ks : List K) (k : K) : List K := if k ∈ ks then ks else ks ++ [k]
def addKs {K : Type} [DecidableEq K] (ks more : List K) : List K := more.foldl addK ks

theorem stored_true (ks : List Int) (k : Int) : stored (ks.map fun k => (k, Value.bool true)) k (Value.bool true) = (addK ks k).map fun k => (k, Value.bool true) := by
  unfold stored addK
  have e : ((ks.map fun k => (k, Value.bool true)).any fun kv => decide (kv.1 = k)) = decide (k ∈ ks) := by
    induction ks with
    | nil => rfl
    | cons n ns ih =>
      rw [List.map_cons, List.any_cons, ih]
      by_cases hx : n = k
      · subst hx; simp
      · have hx' : ¬ k = n := fun e => hx e.symm
        simp [hx, hx']
  rw [e]
  by_cases hk : k ∈ ks
  · simp only [hk, decide_true, if_true]
    rw [List.map_map]
    refine List.map_congr_left fun x _ => ?_
    simp only [Function.comp]
    split <;> rfl
  · simp [hk]

/-- items that are pairs (k, True), k int -/
def PairsAt (h : Heap) (vs : List Value) (ks : List Int) : Prop := ks.length = vs.length ∧ ∀ (i : Nat) (k : Int), ks[i]? = some k → ∃ p t n, vs[i]? = some (Value.ref p) ∧ IsT h p #[.int k t, .bool true] n

theorem entry_upd_loop : entryFor table "dict.update.loop" = some Builtin.«dict.update.loop» := entryFor_of_tree (by kernel_rfl)
theorem plain_upd_loop : plainId "dict.update.loop" = true := by decide +kernel

theorem upd_loop {A : Around} {R : Result → Shared → Prop} {I l d : Addr} {vs : Array Value} {nl : Nat} {ks : List Int} {result : Value} (hh : A.handled = none) (hIl : I ≠ l) (hId : I ≠ d) (hdl : d ≠ l)
    (hkp : ∀ (i : Nat) k, ks[i]? = some k → ∀ p, vs[i]? = some (Value.ref p) → p ≠ I ∧ p ≠ d) {N : Nat} (hsz : vs.size + N ≤ sizeLine) :
    ∀ (m i : Nat) (s : Shared) (ks₀ : List Int), vs.size - i = m → i ≤ vs.size → ks₀.length ≤ i + N → PairsAt s.heap vs.toList ks → s.heap.IsListIter I l i → s.heap.IsList l vs → s.heap.DictOf (intKind prog w) d (ks₀.map fun k => (k, Value.bool true)) →
      (∀ h' tk, (∀ b o, b ≠ I → b ≠ d → s.heap.get? b = some o → h'.get? b = some o) → h'.DictOf (intKind prog w) d ((addKs ks₀ (ks.drop i)).map fun k => (k, Value.bool true)) → R (.ok (.ret result)) { s with heap := h', toks := tk }) →
      codeAny (model prog w) A (.builtin "dict.update.loop" ⟨[.ref d, .ref I, rawInt i, result], []⟩) R s := by
  intro m
  induction m with
  | zero =>
    intro i s ks₀ hm hi hlen hP hit hl hd hR
    refine codeAny_builtin entry_upd_loop ?_
    rw [Around.under_plainId plain_upd_loop _]
    unfold Builtin.«dict.update.loop»
    show wpAny _ _ (pyNext (.ref I) >>= _) _ _ _
    refine wpAny_bind (wpAny_pyNext_list_end hh hit hl (by simp; omega) fun h' hx => ?_)
    show wpAny _ _ (Builtin.Dict.addKeywords d [] >>= _) _ _ _
    refine wpAny_bind (wpAny_pure (wpAny_pure ?_))
    refine hR h' s.toks (fun b o h1 h2 e => hx b o h1 e) ?_
    have : ks.drop i = [] := by rw [List.drop_eq_nil_iff, hP.1]; simp; omega
    rw [this]
    exact hd.extBut hx (Ne.symm hId)
  | succ m ih =>
    intro i s ks₀ hm hi hlen hP hit hl hd hR
    have hlt : i < vs.size := by omega
    have hik : i < ks.length := by rw [hP.1]; simpa using hlt
    obtain ⟨p, t, n, hv, hp⟩ := hP.2 i ks[i] (List.getElem?_eq_getElem hik)
    obtain ⟨hpI, hpd⟩ := hkp i ks[i] (List.getElem?_eq_getElem hik) p (by simpa using hv)
    refine codeAny_builtin entry_upd_loop ?_
    rw [Around.under_plainId plain_upd_loop _]
    unfold Builtin.«dict.update.loop»
    show wpAny _ _ (pyNext (.ref I) >>= _) _ _ _
    refine wpAny_bind (wpAny_pyNext_list_item hit hl (x := .ref p) (by simpa using hv) fun h1 hit1 hs1 => ?_)
    have hp1 : h1.get? p = some { cls := .type "tuple", dict := none, data := .seq #[.int ks[i] t, .bool true] n, slots := #[] } := (hs1.2 p hpI).trans hp
    have hl1 : h1.IsList l vs := by obtain ⟨o, ho, r⟩ := hl; exact ⟨o, (hs1.2 l (Ne.symm hIl)).trans ho, r⟩
    have hd1 := hd.sameBut hs1 (Ne.symm hId)
    refine wpAny_bind (wpAny_holding ?_)
    have hpair : ∀ {Q : List Value → Shared → Prop} {E : Value → Shared → Prop}, Q [.int ks[i] t, .bool true] { s with heap := h1 } → wpAny (model prog w) A.in1 (Builtin.Dict.pairItems (.ref p)) Q E { s with heap := h1 } := by
      intro Q E hq
      unfold Builtin.Dict.pairItems
      refine wpAny_bind (wpAny_typeOf (T := "tuple") ⟨_, hp1, rfl⟩ ?_)
      rw [if_pos (by decide)]
      exact wpAny_bind (wpAny_seqItems hp1 rfl (wpAny_pure hq))
    refine wpAny_bind (wpAny_tryCatch (hpair ?_))
    refine wpAny_holding (wpAny_dictSet_pairs (knd := intKind prog w) (k := ks[i]) (kvs := ks₀.map fun k => (k, Value.bool true)) (by simp [intKind, Value.isInt]) hd1 (fun h2 hd2 hs2 => ?_) (by rw [List.length_map]; omega))
    rw [stored_true] at hd2
    refine wpAny_pure ⟨plainId_quiet plain_upd_loop _, ?_⟩
    have haddlen : (addK ks₀ ks[i]).length ≤ (i + 1) + N := by
      unfold addK
      split
      · omega
      · rw [List.length_append, List.length_singleton]; omega
    have e : (rawInt (i : Int) : Value) = rawInt ((i : Nat) : Int) := rfl
    have nxt := ih (i + 1) { s with heap := h2, toks := s.toks + 1 } (addK ks₀ ks[i]) (by omega) hlt haddlen ?_ ?_ ?_ hd2 ?_
    · have e2 : rawInt (((i + 1 : Nat) : Int)) = rawInt ((i : Int) + 1) := by push_cast; rfl
      rw [e2] at nxt
      exact nxt
    · refine ⟨hP.1, fun j k hj => ?_⟩
      obtain ⟨p', t', n', hv', hp'⟩ := hP.2 j k hj
      obtain ⟨q1, q2⟩ := hkp j k hj p' (by simpa using hv')
      exact ⟨p', t', n', hv', (hs2.2 p' q2).trans ((hs1.2 p' q1).trans hp')⟩
    · obtain ⟨o, ho, r⟩ := hit1; exact ⟨o, (hs2.2 I hId).trans ho, r⟩
    · obtain ⟨o, ho, r⟩ := hl1; exact ⟨o, (hs2.2 l (Ne.symm hdl)).trans ho, r⟩
    · intro h' tk hk hd'
      have := hR h' tk (fun b o b1 b2 e => hk b o b1 b2 ((hs2.2 b b2).trans ((hs1.2 b b1).trans e))) ?_
      · exact this
      · rw [List.drop_eq_getElem_cons hik]
        exact hd'

theorem upd_from {A : Around} {R : Result → Shared → Prop} {id : String} {d l : Addr} {vs : Array Value} {nl : Nat} {ks ks₀ : List Int} (hh : A.handled = none)
    (hl : IsL s.heap l vs nl) (hP : PairsAt s.heap vs.toList ks) (hd : s.heap.DictOf (intKind prog w) d (ks₀.map fun k => (k, Value.bool true))) (hsz : vs.size + ks₀.length ≤ sizeLine)
    (hR : ∀ h' tk, (∀ b o, b ≠ d → s.heap.get? b = some o → h'.get? b = some o) → h'.DictOf (intKind prog w) d ((addKs ks₀ ks).map fun k => (k, Value.bool true)) → R (.ok (.ret .none)) { s with heap := h', toks := tk }) :
    wpAny (model prog w) A.in1 (Builtin.Dict.updateFrom id d (.ref l) [] .none) (fun fin s' => match fin with | .done f => R (.ok f) s' | .again c' => c'.quiet = true ∧ codeAny (model prog w) A c' R s') (fun e s' => R (.error e) s') s := by
  have hdl : d ≠ l := by
    rintro rfl
    obtain ⟨o, es, ep, ho, hc, hdat, _⟩ := hd
    have hl' : s.heap.get? d = _ := hl
    rw [ho] at hl'
    cases hl'
    cases hdat
  have hpd : ∀ p x n, IsT s.heap p x n → p ≠ d := by
    rintro p x n hp rfl
    obtain ⟨o, es, ep, ho, hc, hdat, _⟩ := hd
    have hp' : s.heap.get? p = _ := hp
    rw [ho] at hp'
    cases hp'
    cases hdat
  unfold Builtin.Dict.updateFrom
  refine wpAny_bind (wpAny_typeOf (T := "list") ⟨_, hl, rfl⟩ ?_)
  rw [if_pos (by decide)]
  refine wpAny_bind (getAttrQ_list hl hh fun h1 tk1 hk1 => ?_)
  simp only [Option.isNone_none, if_true]
  refine wpAny_bind (wpAny_rule (wpAny_bind (wpAny_pyIter_list (items := vs) ⟨_, hk1 _ _ hl, rfl, nl, rfl⟩ ?_)))
  refine wpAny_pure ⟨plainId_quiet plain_upd_loop _, ?_⟩
  have hl2 : (h1.push { cls := .type "list_iterator", data := .fields #[.ref l, .int 0 0] }).get? l = _ := Heap.get?_push_of_some _ (hk1 _ _ hl)
  have hIl : h1.objs.size ≠ l := fun e => absurd (Heap.lt_size (hk1 _ _ hl)) (by rw [e]; exact Nat.lt_irrefl _)
  have hd1 : h1.DictOf (intKind prog w) d _ := dictOf_sub hd (fun o => hk1 _ o)
  have hId : h1.objs.size ≠ d := by
    obtain ⟨o, es, ep, ho, _⟩ := hd1
    exact fun e => absurd (Heap.lt_size ho) (by rw [e]; exact Nat.lt_irrefl _)
  refine upd_loop (N := ks₀.length) (I := h1.objs.size) (l := l) (d := d) (vs := vs) (nl := nl) (ks := ks) hh hIl hId hdl ?_ hsz vs.size 0
    { s with heap := h1.push { cls := .type "list_iterator", data := .fields #[.ref l, .int 0 0] }, toks := tk1 } ks₀ (by omega) (Nat.zero_le _) (by omega) ?_ ?_ ?_ ?_ ?_
  · intro i k hi p hp
    obtain ⟨p', t, n, hv, hp'⟩ := hP.2 i k hi
    have : p' = p := by
      have hv' : vs[i]? = some (Value.ref p') := by simpa using hv
      rw [hp] at hv'; cases hv'; rfl
    subst this
    exact ⟨fun e => absurd (Heap.lt_size (hk1 _ _ hp')) (by rw [e]; exact Nat.lt_irrefl _), hpd _ _ _ hp'⟩
  · refine ⟨hP.1, fun i k hi => ?_⟩
    obtain ⟨p', t, n, hv, hp'⟩ := hP.2 i k hi
    exact ⟨p', t, n, hv, Heap.get?_push_of_some _ (hk1 _ _ hp')⟩
  · exact ⟨_, Heap.get?_push_size _ rfl, rfl, rfl⟩
  · exact ⟨_, hl2, rfl, nl, rfl⟩
  · exact dictOf_sub hd1 fun o e => Heap.get?_push_of_some _ e
  · intro h' tk hk hd'
    refine hR h' tk (fun b o hb e => hk b o (fun e' => ?_) hb (Heap.get?_push_of_some _ (hk1 _ _ e))) (by simpa using hd')
    exact absurd (Heap.lt_size (hk1 _ _ e)) (by rw [e']; exact Nat.lt_irrefl _)

theorem pairs_of {H : Heap} : ∀ {ks : List Int} {vs : List Value}, RL prog w H vs (ks.map fun k => D.tup [.int k, .bool true]) → PairsAt H vs ks := by
  intro ks
  induction ks with
  | nil => intro vs r; simp only [List.map_nil, RL] at r; subst r; exact ⟨rfl, fun i k h => by simp at h⟩
  | cons k ks ih =>
    intro vs r
    simp only [List.map_cons, RL] at r
    obtain ⟨v, q, rfl, r1, r2⟩ := r
    obtain ⟨h1, h2⟩ := ih r2
    refine ⟨by simp [h1], fun i k' hi => ?_⟩
    cases i with
    | succ i => simpa using h2 i k' (by simpa using hi)
    | zero =>
      simp at hi; subst hi
      simp only [R, RL] at r1
      obtain ⟨a, ws, n, rfl, ht, v1, _, e1, ⟨t, rfl⟩, v2, _, rfl, rfl, rfl⟩ := r1
      have : ws = #[.int k t, .bool true] := Array.ext' e1
      subst this
      exact ⟨a, t, n, rfl, ht⟩

/-- dict(list of pairs) -/
theorem Ev.dictOf {e : Expr} {px pos : Pos} {ks : List Int} (y : Ev prog w B F ρ σ e (.list (ks.map fun k => D.tup [.int k, .bool true])) σ') (hsz : ks.length ≤ sizeLine) (hk : F.env.kindOf "dict" = some .globalImplicit) (hs : noStar e = true := by rfl) :
    Ev prog w B F ρ σ (.Call (.Name "dict" px) [e] [] pos) (.idict (addKs [] ks)) σ' :=
  Ev.callB hk (by decide) PyProof.Rows.boot_dict (.ty _) (Evs.cons y Evs.nil hs) (by simp) fun s vs H r => by
    simp only [RL] at r
    obtain ⟨v, _, rfl, r1, rfl⟩ := r
    simp only [R] at r1
    obtain ⟨a, ws, n, rfl, ht, hr⟩ := r1
    have hl := of_hideAll _ ht
    have hP : PairsAt s.heap ws.toList ks := pairs_of (hRL hr)
    have e := sizeOf_RL hr
    rw [List.length_map] at e
    refine callType_codes (Q₁ := fun obj s₁ => obj = .ref s.heap.objs.size ∧ s₁ = { s with heap := s.heap.push { cls := .type "dict", data := .dict #[] } }) PySem.F.kt_called_dict (PySem.F.kt_typeCall_dict_1 _) PySem.F.entry_dict_init (kt_code_dict_new _ ⟨rfl, rfl⟩) ?_
    rintro obj s₁ ⟨rfl, rfl⟩
    have hnew : (s.heap.push { cls := .type "dict", data := .dict #[] }).DictOf (intKind prog w) s.heap.objs.size [] := Heap.DictOf.new s.heap
    refine ⟨hnew.typeIs, PySem.F.args_dict_init_2 _ _, ?_⟩
    unfold Builtin.«dict.__init__»
    refine wpAny_bind ?_
    unfold Builtin.Dict.selfAndRest
    refine wpAny_bind (wpAny_notOrdered_dict hnew.typeIs ?_)
    show wpAny _ _ (pure (s.heap.objs.size, [Value.ref a])) _ _ _
    refine wpAny_pure ?_
    show wpAny _ _ (Builtin.Dict.updateFrom "dict.__init__" s.heap.objs.size (.ref a) [] .none) _ _ _
    refine upd_from (s := { s with heap := s.heap.push { cls := .type "dict", data := .dict #[] } }) (A := F.A.in1) (ks := ks) (ks₀ := []) H.ok.hand (Heap.get?_push_of_some _ hl) ?_ hnew (by simp; omega) fun h' tk hk' hd' => ⟨rfl, ?_⟩
    · refine ⟨hP.1, fun i k hi => ?_⟩
      obtain ⟨p', t, n, hv, hp'⟩ := hP.2 i k hi
      exact ⟨p', t, n, hv, Heap.get?_push_of_some _ hp'⟩
    · have hsub : Sub s.heap h' := fun b o e => hk' b o (fun e' => absurd (Heap.lt_size e) (by rw [e']; exact Nat.lt_irrefl _)) (Heap.get?_push_of_some _ e)
      refine Post.grown H hsub ?_
      simp only [R]
      exact ⟨_, rfl, H.notSys, dictOf_sub hd' fun o e => hideAll_get _ e H.freshM⟩
end
end Mine
namespace Mine
section
variable {prog : Program} {w : World} {B : BS} {F : FC} {ρ ρ₁ ρ₂ : List (Str × D)} {σ σ' σ₁ σ₂ σ₃ : List (Addr × MO)} {h h' : Heap} {s : Shared}

/-- what a statement may write besides -/
def Ext' (F : FC) (h h' : Heap) : Prop := ∀ b o, b ∉ F.S → b ≠ F.env.locals → (∀ x, F.env.cells.lookup x ≠ some b) → h.get? b = some o → h'.get? b = some o
theorem Ext'.refl (F : FC) (h : Heap) : Ext' F h h := fun _ _ _ _ _ e => e
theorem Ext'.trans {a b c : Heap} (x : Ext' F a b) (y : Ext' F b c) : Ext' F a c := fun k o n n2 n3 e => y k o n n2 n3 (x k o n n2 n3 e)
theorem Ext.ext' (x : Ext F h h') : Ext' F h h' := fun b o n _ _ e => x b o n e
theorem Ext'.hide (x : Ext' F h h') (H : Holds prog w B F ρ σ h) : Sub (hideAll h F.M) (hideAll h' F.M) :=
  hide_mono (fun b o n e => x b o (FC.notS n) (fun q => n (q ▸ FC.inN H.ok.locM)) (fun y q => n (FC.inN (H.ok.cellM y b q).1)) e) fun _ hb _ => hb

theorem Holds.write (H : Holds prog w B F ρ σ h) {a : Addr} (ha : a ∈ F.M) (hg : a ∈ F.W ∨ F.g.objs.size ≤ a) (hx : ∀ b o, b ≠ a → h.get? b = some o → h'.get? b = some o) (hex : ∃ o, h'.get? a = some o) :
    Sub (hideAll h F.M) (hideAll h' F.M) ∧ Sub B.hb (hideAll h' F.M) ∧ (∀ b o, b ∉ F.W → F.g.get? b = some o → h'.get? b = some o) ∧ (∀ b ∈ F.M, ∃ o, h'.get? b = some o) := by
  have h1 : Sub (hideAll h F.M) (hideAll h' F.M) := hide_mono (fun b o n e => hx b o (fun q => n (q ▸ ha)) e) fun _ hb _ => hb
  refine ⟨h1, H.sub.trans h1, fun b o n e => hx b o (fun q => ?_) (H.keep b o n e), fun b hb => ?_⟩
  · subst q
    rcases hg with hg | hg
    · exact n hg
    · exact absurd (Heap.lt_size e) (Nat.not_lt.mpr hg)
  · by_cases q : b = a
    · subst q; exact hex
    · obtain ⟨o, e⟩ := H.ex b hb; exact ⟨o, hx b o q e⟩

theorem Holds.setL (H : Holds prog w B F ρ σ h) {x : Str} {v : Value} {d : D} {m : Str → Option Value} (hv : ∀ y e, ρ.lookup y = some e → VarIs prog w (hideAll h F.M) h F.env m y e) (hk : F.env.kindOf x = some .local)
    (hn : h'.Ns F.env.locals (fun y => if y = x then some v else m y)) (hs : Heap.SameBut F.env.locals h h') (hr : R prog w (hideAll h F.M) v d) : Holds prog w B F ((x, d) :: ρ) σ h' := by
  obtain ⟨h1, h2, h3, h4⟩ := H.write (h' := h') (FC.inN H.ok.locM) (.inr H.ok.locG) (fun b o n e => (hs.2 b n).trans e) (by obtain ⟨o, _, _, e, _⟩ := hn; exact ⟨o, e⟩)
  have hcell : ∀ y c u, F.env.cells.lookup y = some c → h.IsCell c u → h'.IsCell c u := fun y c u e q => q.sameBut hs (H.ok.cellM y c e).2.2.2
  refine ⟨H.ok, h2, h3, h4, ⟨_, hn, fun y e hy => ?_⟩, fun y c e => let ⟨u, hu⟩ := H.cells y c e; ⟨u, hcell y c u e hu⟩, H.stIn, fun a o e => (H.store a o e).mono h1 fun q hq => (hs.2 a (fun n => H.ok.locS (n ▸ (H.stIn a o e).1))).trans hq⟩
  simp only [List.lookup_cons] at hy
  by_cases q : y = x
  · subst q
    simp only [beq_self_eq_true, Option.some.injEq] at hy
    subst hy
    exact ⟨v, R.mono h1 hr, .inl ⟨hk, by simp⟩⟩
  · have q' : (y == x) = false := by simpa using q
    simp only [q'] at hy
    obtain ⟨u, hu, r⟩ := hv y e hy
    refine ⟨u, R.mono h1 hu, r.imp (fun ⟨k, z⟩ => ⟨k, by simp [q, z]⟩) fun ⟨k, c, z, hc⟩ => ⟨k, c, z, hcell y c _ z hc⟩⟩

theorem Holds.setC (H : Holds prog w B F ρ σ h) {x : Str} {c : Addr} {v : Value} {d : D} (hk : F.env.kindOf x = some .cell) (hc : F.env.cells.lookup x = some c)
    (hn : h'.IsCell c (some v)) (hs : Heap.SameBut c h h') (hr : R prog w (hideAll h F.M) v d) : Holds prog w B F ((x, d) :: ρ) σ h' := by
  obtain ⟨c1, c2, c3, c4⟩ := H.ok.cellM x c hc
  obtain ⟨h1, h2, h3, h4⟩ := H.write (h' := h') (FC.inN c1) (.inr c3) (fun b o n e => (hs.2 b n).trans e) (by obtain ⟨o, e, _⟩ := hn; exact ⟨o, e⟩)
  obtain ⟨m, hm, hv⟩ := H.vars
  have hcell : ∀ y c' u, y ≠ x → F.env.cells.lookup y = some c' → h.IsCell c' u → h'.IsCell c' u := fun y c' u ny e q => q.sameBut hs (fun z => ny (H.ok.apart y x c (z ▸ e) hc))
  refine ⟨H.ok, h2, h3, h4, ⟨m, hm.sameBut hs (Ne.symm c4), fun y e hy => ?_⟩, fun y c' e => ?_, H.stIn, fun a o e => (H.store a o e).mono h1 fun q hq => (hs.2 a (fun n => c2 (n ▸ (H.stIn a o e).1))).trans hq⟩
  · simp only [List.lookup_cons] at hy
    by_cases q : y = x
    · subst q
      simp only [beq_self_eq_true, Option.some.injEq] at hy
      subst hy
      exact ⟨v, R.mono h1 hr, .inr ⟨hk, c, hc, hn⟩⟩
    · have q' : (y == x) = false := by simpa using q
      simp only [q'] at hy
      obtain ⟨u, hu, r⟩ := hv y e hy
      exact ⟨u, R.mono h1 hu, r.imp (fun z => z) fun ⟨k, c', z, hc'⟩ => ⟨k, c', z, hcell y c' _ q z hc'⟩⟩
  · by_cases q : y = x
    · subst q; rw [hc] at e; cases e; exact ⟨_, hn⟩
    · obtain ⟨u, hu⟩ := H.cells y c' e; exact ⟨u, hcell y c' u q e hu⟩

def Stb (F : FC) (x : Str) : Prop := F.env.kindOf x = some .local ∨ (F.env.kindOf x = some .cell ∧ (F.env.cells.lookup x).isSome = true)

theorem store_name {x : Str} {v : Value} {d : D} {Q : Unit → Shared → Prop} {E : Value → Shared → Prop} (H : Holds prog w B F ρ σ s.heap) (hr : R prog w (hideAll s.heap F.M) v d) (hk : Stb F x)
    (k : ∀ h' tk, Ext' F s.heap h' → Holds prog w B F ((x, d) :: ρ) σ h' → Q () { s with heap := h', toks := tk }) : wpAny (model prog w) F.A (storeName F.env x v) Q E s := by
  rcases hk with hk | ⟨hk, hc⟩
  · obtain ⟨m, hm, hv⟩ := H.vars
    exact wpAny_storeName_local hk hm (fun h' hn hs => k h' _ (fun b o _ n _ e => (hs.2 b n).trans e) (H.setL hv hk hn hs hr)) (by rw [H.ok.kind]; rfl)
  · obtain ⟨c, hc⟩ := Option.isSome_iff_exists.mp hc
    obtain ⟨u, hu⟩ := H.cells x c hc
    exact wpAny_storeName_cell H.ok.kind hk hc hu fun h' hn hs => k h' _ (fun b o _ _ n e => (hs.2 b (fun q => n x (q ▸ hc))).trans e) (H.setC hk hc hn hs hr)

/-! ### statements -/
inductive Out where
  | next (ρ : List (Str × D)) (σ : List (Addr × MO))
  | brk (ρ : List (Str × D)) (σ : List (Addr × MO))
  | ret (d : D) (σ : List (Addr × MO))

def OutIs (prog : Program) (w : World) (B : BS) (F : FC) (out : Out) (fl : Flow) (h : Heap) : Prop :=
  match out with
  | .next ρ σ => fl = .next ∧ Holds prog w B F ρ σ h
  | .brk ρ σ => fl = .brk ∧ Holds prog w B F ρ σ h
  | .ret d σ => ∃ v, fl = .ret v ∧ R prog w (hideAll h F.M0) v d ∧ Holds prog w B F [] σ h

def Ex (prog : Program) (w : World) (B : BS) (F : FC) (ρ : List (Str × D)) (σ : List (Addr × MO)) (st : Stmt) (out : Out) : Prop :=
  ∀ s : Shared, Holds prog w B F ρ σ s.heap → wpAny (model prog w) F.A (exec st F.env) (fun fl s' => ∃ h' tk, s' = { s with heap := h', toks := tk } ∧ Ext' F s.heap h' ∧ OutIs prog w B F out fl h') nofail s
def Exs (prog : Program) (w : World) (B : BS) (F : FC) (ρ : List (Str × D)) (σ : List (Addr × MO)) (ss : List Stmt) (out : Out) : Prop :=
  ∀ s : Shared, Holds prog w B F ρ σ s.heap → wpAny (model prog w) F.A (execs ss F.env) (fun fl s' => ∃ h' tk, s' = { s with heap := h', toks := tk } ∧ Ext' F s.heap h' ∧ OutIs prog w B F out fl h') nofail s

theorem Holds.less (H : Holds prog w B F ρ σ h) (k : ∀ x d, ρ₁.lookup x = some d → ρ.lookup x = some d) : Holds prog w B F ρ₁ σ h :=
  let ⟨m, hm, hv⟩ := H.vars; ⟨H.ok, H.sub, H.keep, H.ex, ⟨m, hm, fun x d e => hv x d (k x d e)⟩, H.cells, H.stIn, H.store⟩

theorem Exs.nil : Exs prog w B F ρ σ [] (.next ρ σ) := fun s H => wpAny_execs_nil ⟨s.heap, s.toks, rfl, Ext'.refl _ _, rfl, H⟩
theorem Exs.cons {st : Stmt} {rest : List Stmt} {out : Out} (x : Ex prog w B F ρ σ st (.next ρ₁ σ₁)) (y : Exs prog w B F ρ₁ σ₁ rest out) : Exs prog w B F ρ σ (st :: rest) out := fun s H =>
  wpAny_execs_cons (wpAny_mono (x s H) (fun fl s' ⟨h1, t1, e, e1, q, H1⟩ => by
    subst q e
    exact wpAny_mono (y { s with heap := h1, toks := t1 } H1) (fun fl s' ⟨h2, t2, e, e2, o⟩ => ⟨h2, t2, e, e1.trans e2, o⟩) fun _ _ f => f) fun _ _ f => f)
theorem Exs.stop {st : Stmt} {rest : List Stmt} {out : Out} (x : Ex prog w B F ρ σ st out) (n : ∀ ρ σ, out ≠ .next ρ σ) : Exs prog w B F ρ σ (st :: rest) out := fun s H =>
  wpAny_execs_cons (wpAny_mono (x s H) (fun fl s' ⟨h1, t1, e, e1, q⟩ => by
    cases out with
    | next ρ σ => exact absurd rfl (n ρ σ)
    | brk ρ σ => obtain ⟨q1, q2⟩ := q; subst q1; exact ⟨h1, t1, e, e1, rfl, q2⟩
    | ret d σ => obtain ⟨v, q1, q2⟩ := q; subst q1; exact ⟨h1, t1, e, e1, v, rfl, q2⟩) fun _ _ f => f)
theorem Exs.weak {ss : List Stmt} (x : Exs prog w B F ρ σ ss (.next ρ₁ σ₁)) (k : ∀ x d, ρ₂.lookup x = some d → ρ₁.lookup x = some d) : Exs prog w B F ρ σ ss (.next ρ₂ σ₁) := fun s H =>
  wpAny_mono (x s H) (fun fl s' ⟨h1, t1, e, e1, q, q2⟩ => ⟨h1, t1, e, e1, q, q2.less k⟩) fun _ _ f => f
theorem Exs.cast {ss : List Stmt} {out out' : Out} (x : Exs prog w B F ρ σ ss out) (h : out = out') : Exs prog w B F ρ σ ss out' := h ▸ x
theorem Ex.cast {ss : Stmt} {out out' : Out} (x : Ex prog w B F ρ σ ss out) (h : out = out') : Ex prog w B F ρ σ ss out' := h ▸ x
theorem Exs.from {ss : List Stmt} {out : Out} (x : Exs prog w B F ρ₁ σ ss out) (k : ∀ x d, ρ₁.lookup x = some d → ρ.lookup x = some d) : Exs prog w B F ρ σ ss out := fun s H => x s (H.less k)
theorem Ex.from {ss : Stmt} {out : Out} (x : Ex prog w B F ρ₁ σ ss out) (k : ∀ x d, ρ₁.lookup x = some d → ρ.lookup x = some d) : Ex prog w B F ρ σ ss out := fun s H => x s (H.less k)
theorem Ev.from {ss : Expr} {d : D} (x : Ev prog w B F ρ₁ σ ss d σ') (hx : Ev prog w B F ρ₁ σ ss d σ' → Ev prog w B F ρ σ ss d σ') : Ev prog w B F ρ σ ss d σ' := hx x

theorem Ex.assign {x : Str} {e : Expr} {p pos : Pos} {d : D} (y : Ev prog w B F ρ σ e d σ₁) (hk : Stb F x) (hs : swapsWith e (some (.Name x p)) pos.line F.env = pure false := by rfl) :
    Ex prog w B F ρ σ (.Assign [.Name x p] e pos) (.next ((x, d) :: ρ) σ₁) := fun s H =>
  wpAny_Assign_Name (y.use H fun v h1 t1 e1 H1 r1 => store_name (s := { s with heap := h1, toks := t1 }) H1 r1 hk fun h2 t2 e2 H2 => ⟨h2, t2, rfl, e1.ext'.trans e2, rfl, H2⟩) hs

theorem Ex.ret {e : Expr} {pos : Pos} {d : D} (y : Ev prog w B F ρ σ e d σ₁) : Ex prog w B F ρ σ (.Return (some e) pos) (.ret d σ₁) := fun s H =>
  wpAny_Return_some (y.use H fun v h1 t1 e1 H1 r1 => ⟨h1, t1, rfl, e1.ext', v, rfl, R.mono (hide_mono (fun b o n e => e) fun b hb _ => H1.ok.M0M b hb) r1, H1.less fun x d e => by simp at e⟩)
/-- a mutable local goes out, and is one no more -/
theorem Ex.retL {x : Str} {p pos : Pos} {a : Addr} {xs : List D} (hx : ρ.lookup x = some (.loc a)) (hσ : σ.lookup a = some (.list xs)) (hW : F.W = [] := by rfl) (hd : (x == ("__debug__" : Str)) = false := by decide) : Ex prog w B F ρ σ (.Return (some (.Name x p)) pos) (.ret (.list xs) σ) := fun s H =>
  wpAny_Return_some ((Ev.name hx hd).use H fun v h1 t1 e1 H1 r1 => by
    simp only [R] at r1; subst r1
    obtain ⟨vs, n, hl, hr⟩ := H1.store a _ hσ
    have ha : a ∉ F.M0 := fun q => by
      rcases (H1.stIn a _ hσ).2 with z | z
      · rw [hW] at z; simp at z
      · exact absurd (H1.ok.M0g a q) (Nat.not_lt.mpr z)
    exact ⟨h1, t1, rfl, e1.ext', _, rfl, R.list (hideAll_get _ hl ha) (RL.mono (hide_mono (fun b o n e => e) fun b hb _ => H1.ok.M0M b hb) hr), H1.less fun x d e => by simp at e⟩)
theorem Ex.retS {x : Str} {p pos : Pos} {a : Addr} {ks : List Str} {xs : List D} (hx : ρ.lookup x = some (.loc a)) (hσ : σ.lookup a = some (.sdict ks xs)) (hW : F.W = [] := by rfl) (hd : (x == ("__debug__" : Str)) = false := by decide) : Ex prog w B F ρ σ (.Return (some (.Name x p)) pos) (.ret (.sdict ks xs) σ) := fun s H =>
  wpAny_Return_some ((Ev.name hx hd).use H fun v h1 t1 e1 H1 r1 => by
    simp only [R] at r1; subst r1
    obtain ⟨hy, kvs, hl, hk, hr⟩ := H1.store a _ hσ
    have ha : a ∉ F.M0 := fun q => by
      rcases (H1.stIn a _ hσ).2 with z | z
      · rw [hW] at z; simp at z
      · exact absurd (H1.ok.M0g a q) (Nat.not_lt.mpr z)
    refine ⟨h1, t1, rfl, e1.ext', _, rfl, ?_, H1.less fun x d e => by simp at e⟩
    simp only [R]
    exact ⟨a, kvs, rfl, hy, dictOf_sub hl (fun o e => hideAll_get _ e ha), hk, RL.mono (hide_mono (fun b o n e => e) fun b hb _ => H1.ok.M0M b hb) hr⟩)

theorem Ex.brk {pos : Pos} : Ex prog w B F ρ σ (.Break pos) (.brk ρ σ) := fun s H => wpAny_Break ⟨s.heap, s.toks, rfl, Ext'.refl _ _, rfl, H⟩
theorem Ex.ifT {t : Expr} {b o : List Stmt} {pos : Pos} {out : Out} (x : Tst prog w B F ρ σ t true σ₁) (y : Exs prog w B F ρ σ₁ b out) : Ex prog w B F ρ σ (.If t b o pos) out := fun s H =>
  wpAny_If (x.use H fun h1 t1 e1 H1 => by
    rw [if_pos rfl]
    exact wpAny_mono (y { s with heap := h1, toks := t1 } H1) (fun fl s' ⟨h2, t2, e, e2, q⟩ => ⟨h2, t2, e, e1.ext'.trans e2, q⟩) fun _ _ f => f)
theorem Ex.ifF {t : Expr} {b o : List Stmt} {pos : Pos} {out : Out} (x : Tst prog w B F ρ σ t false σ₁) (y : Exs prog w B F ρ σ₁ o out) : Ex prog w B F ρ σ (.If t b o pos) out := fun s H =>
  wpAny_If (x.use H fun h1 t1 e1 H1 => by
    rw [if_neg (by decide)]
    exact wpAny_mono (y { s with heap := h1, toks := t1 } H1) (fun fl s' ⟨h2, t2, e, e2, q⟩ => ⟨h2, t2, e, e1.ext'.trans e2, q⟩) fun _ _ f => f)
/-- an expression that gives None -/
theorem Ex.expr {e : Expr} {pos : Pos} (y : Ev prog w B F ρ σ e .none σ₁) (hi : interactive F.env = false := by rfl) (hs : swapsWith e none pos.line F.env = pure false := by rfl) : Ex prog w B F ρ σ (.Expr e pos) (.next ρ σ₁) := fun s H =>
  wpAny_Expr (y.use H fun v h1 t1 e1 H1 r1 => by
    simp only [R] at r1; subst r1
    exact ⟨h1, t1, rfl, e1.ext', rfl, H1⟩) hi hs
end
end Mine
namespace Mine
/-- one hidden address more -/
def FC.hid (F : FC) (I : Addr) : FC := { F with N := I :: F.N }
section
variable {prog : Program} {w : World} {B : BS} {F : FC} {ρ ρ' ρ₁ ρ₂ : List (Str × D)} {σ σ' σ₁ σ₂ σ₃ : List (Addr × MO)} {h h' : Heap} {s : Shared} {I : Addr}
theorem mem_hid {b : Addr} : b ∈ (F.hid I).M ↔ b = I ∨ b ∈ F.M := by
  simp only [FC.M, FC.hid, List.mem_append, List.mem_cons]
  constructor
  · rintro (x | x | x)
    · exact .inr (.inl x)
    · exact .inl x
    · exact .inr (.inr x)
  · rintro (x | x | x)
    · exact .inr (.inl x)
    · exact .inl x
    · exact .inr (.inr x)
def Free (F : FC) (I : Addr) : Prop := I ∉ F.S ∧ I ≠ F.env.locals ∧ (∀ x, F.env.cells.lookup x ≠ some I) ∧ F.g.objs.size ≤ I
theorem Holds.lt (H : Holds prog w B F ρ σ h) {b : Addr} (hb : b ∈ F.M) : b < h.objs.size := let ⟨_, e⟩ := H.ex b hb; Heap.lt_size e
theorem Holds.free (H : Holds prog w B F ρ σ h) (n : h.objs.size ≤ I) : Free F I := by
  have key : ∀ b ∈ F.M, I ≠ b := fun b hb q => absurd (H.lt hb) (Nat.not_lt.mpr (q ▸ n))
  exact ⟨fun q => key _ (FC.inM q) rfl, key _ (FC.inN H.ok.locM), fun x q => key _ (FC.inN (H.ok.cellM x _ q).1) rfl, Nat.le_trans H.ok.locG (Nat.le_trans (Nat.le_of_lt (H.lt (FC.inN H.ok.locM))) n)⟩
theorem FC.Ok.hid (o : F.Ok) : (F.hid I).Ok where
  locM := List.mem_cons_of_mem _ o.locM
  locS := o.locS
  locG := o.locG
  cellM := fun x c e => let ⟨a, b⟩ := o.cellM x c e; ⟨List.mem_cons_of_mem _ a, b⟩
  apart := o.apart
  kind := o.kind
  M0M := fun a ha => mem_hid.mpr (.inr (o.M0M a ha))
  M0g := o.M0g
  glob := o.glob
  blt := o.blt
  hand := o.hand
  un := o.un
  big := o.big
theorem Holds.hid (H : Holds prog w B F ρ σ h) (hs : Sub h h') (hI : h.objs.size ≤ I) (hex : ∃ o, h'.get? I = some o) : Holds prog w B (F.hid I) ρ σ h' := by
  have hh : Sub (hideAll h F.M) (hideAll h' (F.hid I).M) := hide_mono (fun b o n e => hs b o e) fun b hb ⟨o, e⟩ => (mem_hid.mp hb).resolve_left fun q => absurd (Heap.lt_size e) (Nat.not_lt.mpr (q ▸ hI))
  obtain ⟨m, hn, hv⟩ := H.vars
  exact ⟨H.ok.hid, H.sub.trans hh, fun b o n e => hs _ _ (H.keep b o n e), fun b hb => by
      rcases mem_hid.mp hb with q | q
      · subst q; exact hex
      · obtain ⟨o, e⟩ := H.ex b q; exact ⟨o, hs _ _ e⟩,
    ⟨m, hn.keeps hs, fun x d e => (hv x d e).mono hh fun _ _ c => isCell_sub c hs⟩, fun x c e => let ⟨v, hv⟩ := H.cells x c e; ⟨v, isCell_sub hv hs⟩, H.stIn, fun a o e => (H.store a o e).mono hh fun q => hs _ q⟩
theorem unhide : Sub (hideAll h (F.hid I).M) (hideAll h F.M) := hide_mono (fun b o n e => e) fun b hb _ => mem_hid.mpr (.inr hb)
theorem Holds.unhid (H : Holds prog w B (F.hid I) ρ σ h) (ok : F.Ok) : Holds prog w B F ρ σ h := by
  obtain ⟨m, hn, hv⟩ := H.vars
  exact ⟨ok, H.sub.trans unhide, H.keep, fun b hb => H.ex b (mem_hid.mpr (.inr hb)), ⟨m, hn, fun x d e => (hv x d e).mono unhide fun _ _ c => c⟩, H.cells, H.stIn, fun a o e => (H.store a o e).mono unhide fun q z => z⟩
theorem Holds.poke (H : Holds prog w B F ρ σ h) (hI : I ∈ F.M) (hf : Free F I) (hx : ∀ b o, b ≠ I → h.get? b = some o → h'.get? b = some o) (hex : ∃ o, h'.get? I = some o) : Holds prog w B F ρ σ h' := by
  obtain ⟨h1, h2, h3, h4⟩ := H.write hI (.inr hf.2.2.2) hx hex
  obtain ⟨m, hn, hv⟩ := H.vars
  have hcell : ∀ y c u, F.env.cells.lookup y = some c → h.IsCell c u → h'.IsCell c u := fun y c u e ⟨o, ho, q⟩ => ⟨o, hx c o (fun z => hf.2.2.1 y (z ▸ e)) ho, q⟩
  refine ⟨H.ok, h2, h3, h4, ⟨m, hn.at' fun o e => hx _ o (Ne.symm hf.2.1) e, fun x d e => ?_⟩, fun y c e => let ⟨u, hu⟩ := H.cells y c e; ⟨u, hcell y c u e hu⟩, H.stIn, fun a o e => (H.store a o e).mono h1 fun q hq => hx a q (fun n => hf.1 (n ▸ (H.stIn a o e).1)) hq⟩
  obtain ⟨u, hu, r⟩ := hv x d e
  exact ⟨u, R.mono h1 hu, r.imp id fun ⟨k, c, z, hc⟩ => ⟨k, c, z, hcell x c _ z hc⟩⟩

theorem Holds.drop (H : Holds prog w B (F.hid I) ρ σ h) (ok : F.Ok) (fr : Free F I) (hM : I ∉ F.M) (hx : ∀ b o, b ≠ I → h.get? b = some o → h'.get? b = some o) : Holds prog w B F ρ σ h' := by
  have hh : Sub (hideAll h (F.hid I).M) (hideAll h' F.M) := hide_mono (fun b o n e => hx b o (fun q => n (mem_hid.mpr (.inl q))) e) fun b hb _ => mem_hid.mpr (.inr hb)
  obtain ⟨m, hn, hv⟩ := H.vars
  have hcell : ∀ y c u, F.env.cells.lookup y = some c → h.IsCell c u → h'.IsCell c u := fun y c u e ⟨o, ho, q⟩ => ⟨o, hx c o (fun z => fr.2.2.1 y (z ▸ e)) ho, q⟩
  refine ⟨ok, H.sub.trans hh, fun b o n e => hx b o (fun q => absurd (Heap.lt_size e) (Nat.not_lt.mpr (q ▸ fr.2.2.2))) (H.keep b o n e), fun b hb => let ⟨o, e⟩ := H.ex b (mem_hid.mpr (.inr hb)); ⟨o, hx b o (fun q => hM (q ▸ hb)) e⟩,
    ⟨m, hn.at' fun o e => hx _ o (Ne.symm fr.2.1) e, fun x d e => ?_⟩, fun y c e => let ⟨u, hu⟩ := H.cells y c e; ⟨u, hcell y c u e hu⟩, H.stIn, fun a o e => (H.store a o e).mono hh fun q hq => hx a q (fun n => fr.1 (n ▸ (H.stIn a o e).1)) hq⟩
  obtain ⟨u, hu, r⟩ := hv x d e
  exact ⟨u, R.mono hh hu, r.imp id fun ⟨k, c, z, hc⟩ => ⟨k, c, z, hcell x c _ z hc⟩⟩

/-! ### what a loop walks over -/
inductive SrcOf : D → List D → Prop
  | list (xs : List D) : xs.length ≤ sizeLine → SrcOf (.list xs) xs
  | tup (xs : List D) : xs.length ≤ sizeLine → SrcOf (.tup xs) xs
  | rng (a b c : Int) (n : Nat) : Builtin.Range.small a b c = true → Builtin.Range.rangeSize a b c = n → n ≤ sizeLine → SrcOf (.rng a b c) ((List.range n).map fun (i : Nat) => D.int (a + i * c))
theorem SrcOf.fits {d : D} {xs : List D} (x : SrcOf d xs) : xs.length ≤ sizeLine := by
  cases x with
  | list _ h => exact h
  | tup _ h => exact h
  | rng a b c n _ _ h => simpa using h

theorem hide_not {b : Addr} {o : Obj} {M : List Addr} (e : (hideAll h M).get? b = some o) : b ∉ M := (hide_get e).2

/-- an iterator that hands out no tuple of its own -/
def PlainIt (h : Heap) (I : Addr) : Prop := ∃ o T, h.get? I = some o ∧ o.cls = .type T ∧ (["enumerate", "zip", "dict_itemiterator", "dict_reverseitemiterator", "odict_iterator", "itertools.zip_longest", "itertools.pairwise"].contains T) = false
theorem letGo_plain {A : Around} {Q : Unit → Shared → Prop} {E : Value → Shared → Prop} {t : Expr} {v : Value} (x : PlainIt s.heap I) (h : Q () s) : wpAny (model prog w) A (letOwnedTupleGo t (.ref I) v) Q E s := by
  obtain ⟨o, T, ho, hc, hT⟩ := x
  have key : ∀ a : Addr, wpAny (model prog w) A (do
      let o ← load I
      match o.cls, o.data with
      | .type n, .fields vs =>
        if ["enumerate", "zip", "dict_itemiterator", "dict_reverseitemiterator", "odict_iterator", "itertools.zip_longest", "itertools.pairwise"].contains n && vs[0]? == some (rawInt a) then
          rule "for.unpacks-the-owned-tuple"
          updateField I 0 .none
      | _, _ => pure ()) Q E s := fun a => by
    refine wpAny_bind (wpAny_load ho ?_)
    cases hd : o.data <;> simp only [hc, hT, Bool.false_and, Bool.false_eq_true, if_false] <;> exact wpAny_pure h
  cases t <;> first | exact wpAny_pure h | (cases v <;> first | exact wpAny_pure h | exact key _)

theorem src_walk {A : Around} {v : Value} {d : D} {xs : List D} {Q : Value → Shared → Prop} {E : Value → Shared → Prop} (hA : A.handled = none) (r : R prog w (hideAll s.heap F.M) v d) (hs : SrcOf d xs)
    (k : ∀ h' tk fp P St, Sub s.heap h' → (∃ o, h'.get? s.heap.objs.size = some o) → Walks prog w A s.heap.objs.size fp [s.heap.objs.size] xs.length P St → St 0 h' →
      (∀ b ∈ fp, b = s.heap.objs.size ∨ (b ∉ F.M ∧ ∃ o, s.heap.get? b = some o)) → (∀ i h, St i h → PlainIt h s.heap.objs.size) → (∀ i v' d', P i v' → xs[i]? = some d' → R prog w (hideAll s.heap F.M) v' d') → Q (.ref s.heap.objs.size) { s with heap := h', toks := tk }) :
    wpAny (model prog w) A (pyIter v) Q E s := by
  cases hs with
  | list _ hsz =>
    simp only [R] at r
    obtain ⟨a, vs, n, rfl, hl, hr⟩ := r
    have hl0 := of_hideAll _ hl
    have hne : a ≠ s.heap.objs.size := Nat.ne_of_lt (Heap.lt_size hl0)
    have e := sizeOf_RL hr
    refine wpAny_pyIter_list (items := vs) ⟨_, hl0, rfl, n, rfl⟩ ?_
    refine k _ s.toks _ _ _ (sub_push _ _) ⟨_, Heap.get?_push_size _ rfl⟩ (e ▸ Walks.list hA _ a hne vs) ⟨⟨_, Heap.get?_push_size _ rfl, rfl, rfl⟩, ⟨_, sub_push _ _ _ _ hl0, rfl, n, rfl⟩⟩ ?_ (fun i h st => let ⟨o, a, b, _⟩ := st.1; ⟨o, _, a, b, by decide⟩) ?_
    · intro b hb
      simp at hb
      rcases hb with q | q
      · exact .inl q
      · subst q; exact .inr ⟨hide_not hl, _, hl0⟩
    · intro i v' d' hP hd
      obtain ⟨v2, e2, r2⟩ := RL.get hr hd
      have : vs[i]? = some v2 := by simpa using e2
      rw [hP] at this; cases this; exact r2
  | tup _ hsz =>
    simp only [R] at r
    obtain ⟨a, vs, n, rfl, hl, hr⟩ := r
    have hl0 := of_hideAll _ hl
    have hne : a ≠ s.heap.objs.size := Nat.ne_of_lt (Heap.lt_size hl0)
    have e := sizeOf_RL hr
    refine wpAny_pyIter_tuple (items := vs) ⟨_, hl0, rfl, n, rfl⟩ ?_
    refine k _ s.toks _ _ _ (sub_push _ _) ⟨_, Heap.get?_push_size _ rfl⟩ (e ▸ Walks.tuple hA _ a hne vs) ⟨⟨_, Heap.get?_push_size _ rfl, rfl, rfl⟩, ⟨_, sub_push _ _ _ _ hl0, rfl, n, rfl⟩⟩ ?_ (fun i h st => let ⟨o, a, b, _⟩ := st.1; ⟨o, _, a, b, by decide⟩) ?_
    · intro b hb
      simp at hb
      rcases hb with q | q
      · exact .inl q
      · subst q; exact .inr ⟨hide_not hl, _, hl0⟩
    · intro i v' d' hP hd
      obtain ⟨v2, e2, r2⟩ := RL.get hr hd
      have : vs[i]? = some v2 := by simpa using e2
      rw [hP] at this; cases this; exact r2
  | rng a b c n hsm hn hsz =>
    simp only [R] at r
    obtain ⟨x, t, u, q, rfl, hr⟩ := r
    have hr0 := of_hideAll _ hr
    refine wpAny_pyIter_range hr0 hsm ?_
    refine k _ s.toks [s.heap.objs.size] _ _ (sub_push _ _) ⟨_, Heap.get?_push_size _ rfl⟩ (by simpa using Walks.range hA s.heap.objs.size a c n) ?_ ?_ (fun i h st => ⟨_, _, st, rfl, by decide⟩) ?_
    · rw [hn]; simpa using Heap.get?_push_size s.heap rfl
    · intro b hb
      simp at hb
      exact .inl hb
    · intro i v' d' hP hd
      obtain ⟨t, rfl⟩ := hP
      obtain ⟨hi, e⟩ := List.getElem?_eq_some_iff.mp hd
      simp at e
      subst e
      exact R.int

/-! ### targets -/
def Asg (prog : Program) (w : World) (B : BS) (F : FC) (t : Expr) (d : D) (ρ ρ' : List (Str × D)) : Prop :=
  ∀ (s : Shared) (v : Value) (σ : List (Addr × MO)), Holds prog w B F ρ σ s.heap → R prog w (hideAll s.heap F.M) v d →
    wpAny (model prog w) F.A (assign t F.env v) (fun _ s' => ∃ h' tk, s' = { s with heap := h', toks := tk } ∧ Ext' F s.heap h' ∧ Holds prog w B F ρ' σ h') nofail s
theorem Asg.name {x : Str} {p : Pos} {d : D} (hk : Stb F x) : Asg prog w B F (.Name x p) d ρ ((x, d) :: ρ) := fun s v σ H r =>
  PySem.wpAny_assign_Name (store_name H r hk fun h' tk e H' => ⟨h', tk, rfl, e, H'⟩)
theorem Asg.pair {x y : Str} {p q pos : Pos} {k : Nat} {d e : D} (hx : Stb F x) (hy : Stb F y) : Asg prog w B F (.Tuple [.Name x p, .Name y q] k pos) (.tup [d, e]) ρ ((y, e) :: (x, d) :: ρ) := fun s v σ H r => by
  simp only [R] at r
  obtain ⟨a, vs, n, rfl, ht, hr⟩ := r
  simp only [RL] at hr
  obtain ⟨v1, _, e1, r1, v2, _, rfl, r2, rfl⟩ := hr
  have : vs = #[v1, v2] := Array.ext' e1
  subst this
  refine wpAny_assign_Tuple (items := #[v1, v2]) H.ok.hand ⟨_, of_hideAll _ ht, rfl, n, rfl⟩ rfl rfl fun h1 he => ?_
  have hs : Sub s.heap h1 := fun b o eb => he b o (Nat.ne_of_lt (Heap.lt_size eb)) eb
  have H1 := H.grow hs
  have m1 := (Ext.of_sub (F := F) hs).hide
  refine wpAny_assignInOrder_more (PySem.wpAny_assign_Name (store_name (s := { s with heap := h1 }) H1 (R.mono m1 r1) hx fun h2 t2 e2 H2 => ?_))
  refine wpAny_assignInOrder_more (PySem.wpAny_assign_Name (store_name (s := { s with heap := h2, toks := t2 }) H2 (R.mono (m1.trans (e2.hide H1)) r2) hy fun h3 t3 e3 H3 => ?_))
  exact wpAny_assignInOrder_none ⟨h3, t3, rfl, ((Ext.of_sub hs).ext'.trans e2).trans e3, H3⟩

end
/-- the turns of a loop -/
inductive Turns (prog : Program) (w : World) (B : BS) (F : FC) (t : Expr) (body : List Stmt) : List D → List (Str × D) → List (Addr × MO) → Out → Prop
  | nil {ρ : List (Str × D)} {σ : List (Addr × MO)} : Turns prog w B F t body [] ρ σ (.next ρ σ)
  | cons {d : D} {xs : List D} {ρ ρ₁ : List (Str × D)} {σ σ₁ : List (Addr × MO)} {out : Out} : (∀ I, Free F I → ∃ ρ', Asg prog w B (F.hid I) t d ρ ρ' ∧ Exs prog w B (F.hid I) ρ' σ body (.next ρ₁ σ₁)) → Turns prog w B F t body xs ρ₁ σ₁ out → Turns prog w B F t body (d :: xs) ρ σ out
  | brk {d : D} {xs : List D} {ρ ρ₁ : List (Str × D)} {σ σ₁ : List (Addr × MO)} : (∀ I, Free F I → ∃ ρ', Asg prog w B (F.hid I) t d ρ ρ' ∧ Exs prog w B (F.hid I) ρ' σ body (.brk ρ₁ σ₁)) → Turns prog w B F t body (d :: xs) ρ σ (.next ρ₁ σ₁)
  | ret {d e : D} {xs : List D} {ρ : List (Str × D)} {σ σ₁ : List (Addr × MO)} : (∀ I, Free F I → ∃ ρ', Asg prog w B (F.hid I) t d ρ ρ' ∧ Exs prog w B (F.hid I) ρ' σ body (.ret e σ₁)) → Turns prog w B F t body (d :: xs) ρ σ (.ret e σ₁)

section
variable {prog : Program} {w : World} {B : BS} {F : FC} {ρ ρ' ρ₁ ρ₂ : List (Str × D)} {σ σ' σ₁ σ₂ σ₃ : List (Addr × MO)} {h h' : Heap} {s : Shared} {I : Addr}
theorem OutIs.unhid {out : Out} {fl : Flow} (o : OutIs prog w B (F.hid I) out fl h) (ok : F.Ok) : OutIs prog w B F out fl h := by
  cases out with
  | next ρ σ => exact ⟨o.1, o.2.unhid ok⟩
  | brk ρ σ => exact ⟨o.1, o.2.unhid ok⟩
  | ret d σ => obtain ⟨v, a, b, c⟩ := o; exact ⟨v, a, b, c.unhid ok⟩

theorem Ex.forIn {t iter : Expr} {body : List Stmt} {pos : Pos} {d : D} {xs : List D} {out : Out} (x : Ev prog w B F ρ σ iter d σ₁) (hs : SrcOf d xs) (T : Turns prog w B F t body xs ρ σ₁ out)
    (hset : ∀ x, foldedSetIterable iter F.env x = pure x := by intro _; rfl) : Ex prog w B F ρ σ (.For t iter body [] pos) out := fun s H => by
  refine PySem.wpAny_For (x.use H fun v h1 t1 e1 H1 r1 => ?_) hset
  have e1' : Ext' F s.heap h1 := e1.ext'
  refine src_walk (F := F) (s := { s with heap := h1, toks := t1 }) H1.ok.hand r1 hs fun h2 t2 fp P St hsub hex W st0 hfp hpl hP => ?_
  dsimp only at hsub hex W hfp hpl hP ⊢
  generalize hI : h1.objs.size = I at hex W hfp hpl hP ⊢
  have fr : Free F I := H1.free (by rw [hI]; exact Nat.le_refl _)
  have H2 : Holds prog w B (F.hid I) ρ σ₁ h2 := H1.hid hsub (by rw [hI]; exact Nat.le_refl _) hex
  have hRs : Sub (hideAll h1 F.M) (hideAll h2 (F.hid I).M) := hide_mono (fun b o n e => hsub b o e) fun b hb ⟨o, e⟩ => (mem_hid.mp hb).resolve_left fun q => absurd (Heap.lt_size e) (by rw [q, ← hI]; exact Nat.lt_irrefl _)
  have hfp' : ∀ b ∈ fp, b ≠ I → b ∉ F.S ∧ b ≠ F.env.locals ∧ (∀ x, F.env.cells.lookup x ≠ some b) := fun b hb n => by
    rcases hfp b hb with q | ⟨q, _⟩
    · exact absurd q n
    · exact ⟨FC.notS q, fun z => q (z ▸ FC.inN H1.ok.locM), fun y z => q (FC.inN (H1.ok.cellM y b z).1)⟩
  refine codeAny_forLoop_any (fun n s' => ∃ i ys ρi σi h' tk, s' = { s with heap := h', toks := tk } ∧ n = ys.length + 1 ∧ ys = xs.drop i ∧ i ≤ xs.length ∧ Turns prog w B F t body ys ρi σi out ∧ Holds prog w B (F.hid I) ρi σi h' ∧ St i h' ∧ Ext' F s.heap h' ∧ Sub (hideAll h2 (F.hid I).M) (hideAll h' (F.hid I).M)) ?_ (xs.length + 1) ⟨0, xs, ρ, σ₁, h2, t2, rfl, rfl, by simp, Nat.zero_le _, T, H2, st0, e1'.trans (Ext.of_sub hsub).ext', Sub.refl _⟩
  rintro n s' ⟨i, ys, ρi, σi, h', tk, rfl, rfl, hys, hi, T', H', st, ex, hsb⟩
  have pokeI : ∀ h'' , (∀ b o, b ∉ [I] → h'.get? b = some o → h''.get? b = some o) → (∃ o, h''.get? I = some o) → Holds prog w B (F.hid I) ρi σi h'' ∧ Ext' F s.heap h'' ∧ Sub (hideAll h' (F.hid I).M) (hideAll h'' (F.hid I).M) := fun h'' hk hexi => by
    have hk' : ∀ b o, b ≠ I → h'.get? b = some o → h''.get? b = some o := fun b o n e => hk b o (by simpa using n) e
    refine ⟨H'.poke (mem_hid.mpr (.inl rfl)) fr hk' hexi, fun b o n1 n2 n3 e => hk' b o (fun q => ?_) (ex b o n1 n2 n3 e), ?_⟩
    · subst q
      have e' : h1.get? b = some o := e1' b o n1 n2 n3 e
      exact absurd (Heap.lt_size e') (by rw [hI]; exact Nat.lt_irrefl _)
    · exact (H'.write (mem_hid.mpr (.inl rfl)) (.inr fr.2.2.2) hk' hexi).1
  cases ys with
  | nil =>
    have hii : i = xs.length := by
      have := congrArg List.length hys
      simp at this
      omega
    refine W.done _ _ _ (hii ▸ st) fun h3 t3 hk => ?_
    refine wpAny_execs_nil ?_
    cases T' with
    | nil =>
      have hk' : ∀ b o, b ≠ I → h'.get? b = some o → h3.get? b = some o := fun b o n e => hk b o (by simpa using n) e
      refine ⟨h3, t3, rfl, fun b o n1 n2 n3 e => hk' b o (fun q => ?_) (ex b o n1 n2 n3 e), rfl, H'.drop H1.ok fr (hI ▸ H1.freshM) hk'⟩
      subst q
      have e' : h1.get? b = some o := e1' b o n1 n2 n3 e
      exact absurd (Heap.lt_size e') (by rw [hI]; exact Nat.lt_irrefl _)
  | cons d ys =>
    have hlt : i < xs.length := by
      have := congrArg List.length hys
      simp at this
      omega
    refine W.item i _ _ _ hlt st fun v' h3 t3 hPv st3 hk => ?_
    obtain ⟨o3, T3, ho3, _⟩ := hpl _ _ st3
    obtain ⟨H3, ex3, sb3⟩ := pokeI h3 hk ⟨o3, ho3⟩
    have hd : xs[i]? = some d := by
      have := congrArg List.head? hys
      simpa using this.symm
    have hd' : ys = xs.drop (i + 1) := by
      rw [← List.drop_drop, ← hys]; rfl
    have rv : R prog w (hideAll h3 (F.hid I).M) v' d := R.mono (hRs.trans (hsb.trans sb3)) (hP i v' d hPv hd)
    refine letGo_plain (hpl _ _ st3) ?_
    let Q5 : Flow → Shared → Prop := fun f s₃ => match f with
            | .next | .cont => ∃ m, m < (d :: ys).length + 1 ∧ ∃ i ys ρi σi h' tk, s₃ = { s with heap := h', toks := tk } ∧ m = ys.length + 1 ∧ ys = xs.drop i ∧ i ≤ xs.length ∧ Turns prog w B F t body ys ρi σi out ∧ Holds prog w B (F.hid I) ρi σi h' ∧ St i h' ∧ Ext' F s.heap h' ∧ Sub (hideAll h2 (F.hid I).M) (hideAll h' (F.hid I).M)
            | .brk => ∃ h' tk, s₃ = { s with heap := h', toks := tk } ∧ Ext' F s.heap h' ∧ OutIs prog w B F out .next h'
            | .ret v => ∃ h' tk, s₃ = { s with heap := h', toks := tk } ∧ Ext' F s.heap h' ∧ OutIs prog w B F out (.ret v) h'
    have fin : ∀ {o2 : Out}, (∃ ρ', Asg prog w B (F.hid I) t d ρi ρ' ∧ Exs prog w B (F.hid I) ρ' σi body o2) →
      (∀ fl h5 t5, OutIs prog w B (F.hid I) o2 fl h5 → Ext' F h3 h5 → Sub (hideAll h3 (F.hid I).M) (hideAll h5 (F.hid I).M) → St (i + 1) h5 → Q5 fl { s with heap := h5, toks := t5 }) →
      wpAny (model prog w) F.A (PySem.assign t F.env v') (fun _ s₂ => wpAny (model prog w) F.A (execs body F.env) Q5 nofail s₂) nofail { s with heap := h3, toks := t3 } := by
      intro o2 ⟨ρ', ha, hb⟩ hq
      refine wpAny_mono (ha { s with heap := h3, toks := t3 } v' σi H3 rv) (fun _ s4 ⟨h4, t4, e4, x4, H4⟩ => ?_) fun _ _ f => f
      subst e4
      refine wpAny_mono (hb { s with heap := h4, toks := t4 } H4) (fun fl s5 ⟨h5, t5, e5, x5, o5⟩ => ?_) fun _ _ f => f
      subst e5
      have x35 : Ext' (F.hid I) h3 h5 := x4.trans x5
      have st5 : St (i + 1) h5 := W.frame _ _ _ st3 fun b hb o e => by
        by_cases n : b = I
        · subst n; exact x35 b o fr.1 fr.2.1 fr.2.2.1 e
        · obtain ⟨a1, a2, a3⟩ := hfp' b hb n; exact x35 b o a1 a2 a3 e
      exact hq fl h5 t5 o5 x35 (x35.hide H3) st5
    cases T' with
    | cons hb T2 =>
      refine wpAny_mono (fin (hb I fr) fun fl h5 t5 o5 x5 m5 st5 => ?_) (fun _ _ z => wpAny_mono z (fun fl s3 z => by cases fl <;> exact z) fun _ _ f => f.elim) fun _ _ f => f.elim
      obtain ⟨rfl, H5⟩ := o5
      exact ⟨ys.length + 1, by simp, i + 1, ys, _, _, h5, t5, rfl, rfl, hd', hlt, T2, H5, st5, ex3.trans x5, hsb.trans (sb3.trans m5)⟩
    | brk hb =>
      refine wpAny_mono (fin (hb I fr) fun fl h5 t5 o5 x5 m5 st5 => ?_) (fun _ _ z => wpAny_mono z (fun fl s3 z => by cases fl <;> exact z) fun _ _ f => f.elim) fun _ _ f => f.elim
      obtain ⟨rfl, H5⟩ := o5
      exact ⟨h5, t5, rfl, ex3.trans x5, rfl, H5.unhid H1.ok⟩
    | ret hb =>
      refine wpAny_mono (fin (hb I fr) fun fl h5 t5 o5 x5 m5 st5 => ?_) (fun _ _ z => wpAny_mono z (fun fl s3 z => by cases fl <;> exact z) fun _ _ f => f.elim) fun _ _ f => f.elim
      obtain ⟨v5, rfl, q1, q2⟩ := o5
      exact ⟨h5, t5, rfl, ex3.trans x5, v5, rfl, q1, q2.unhid H1.ok⟩
end
end Mine
namespace Mine
/-- the tests of a clause -/
abbrev testsTree (ifs : List Expr) (env : Env) : Sem Bool := forIn ifs true fun c r => if r = true then do let ok ← isTrue c env (eval c env); pure (ForInStep.yield ok) else pure (ForInStep.yield r)

abbrev PT := (Shared → Prop) → (Value → Shared → Prop) → Shared → Prop

def FC.cmp (F : FC) (scope : Scope) (cl : List (Str × Addr)) (C D : Addr) : FC := { F with env := compEnvC scope cl C F.env, N := D :: C :: F.N }

section
variable {prog : Program} {w : World} {B : BS} {F : FC} {ρ ρ' ρ₁ ρ₂ : List (Str × D)} {σ σ' σ₁ σ₂ σ₃ : List (Addr × MO)} {h h' : Heap} {s : Shared} {I : Addr}

def Tests (prog : Program) (w : World) (B : BS) (F : FC) (ρ : List (Str × D)) (σ : List (Addr × MO)) (ifs : List Expr) (b : Bool) (σ' : List (Addr × MO)) : Prop :=
  ∀ s : Shared, Holds prog w B F ρ σ s.heap → wpAny (model prog w) F.A (testsTree ifs F.env) (fun v s' => v = b ∧ ∃ h' tk, s' = { s with heap := h', toks := tk } ∧ Ext F s.heap h' ∧ Holds prog w B F ρ σ' h') nofail s
theorem Tests.nil : Tests prog w B F ρ σ [] true σ := fun s H => wpAny_tests_nil ⟨rfl, s.heap, s.toks, rfl, Ext.refl _ _, H⟩
theorem Tests.one {c : Expr} {b : Bool} (x : Tst prog w B F ρ σ c b σ') : Tests prog w B F ρ σ [c] b σ' := fun s H => wpAny_tests_one (x s H)

def ExtD (F : FC) (Da : Addr) (h h' : Heap) : Prop := ∀ b o, b ∉ F.S → b ≠ F.env.locals → b ≠ Da → h.get? b = some o → h'.get? b = some o
theorem ExtD.refl (F : FC) (Da : Addr) (h : Heap) : ExtD F Da h h := fun _ _ _ _ _ e => e
theorem ExtD.trans {Da : Addr} {a b c : Heap} (x : ExtD F Da a b) (y : ExtD F Da b c) : ExtD F Da a c := fun k o n n2 n3 e => y k o n n2 n3 (x k o n n2 n3 e)
theorem Ext.extD {Da : Addr} (x : Ext F h h') : ExtD F Da h h' := fun b o n _ _ e => x b o n e

def StepOk (prog : Program) (w : World) (B : BS) (F : FC) (Da : Addr) (rest : PT) (ρ : List (Str × D)) (σ : List (Addr × MO)) (ys : List D) (σ' : List (Addr × MO)) : Prop :=
  ∀ (s : Shared) (acc : List D) (vs : Array Value), Holds prog w B F ρ σ s.heap → s.heap.PlainList Da vs → RL prog w (hideAll s.heap F.M) vs.toList acc → acc.length + ys.length ≤ sizeLine →
    ∀ (K : Shared → Prop) (E : Value → Shared → Prop), (∀ h' tk vs', ExtD F Da s.heap h' → Holds prog w B F ρ σ' h' → h'.PlainList Da vs' → RL prog w (hideAll h' F.M) vs'.toList (acc ++ ys) → K { s with heap := h', toks := tk }) → rest K E s

/-- one clause more, or the element -/
abbrev rest1 (prog : Program) (w : World) (A : Around) (env : Env) (ifs : List Expr) (elt : Expr) (Da : Addr) : PT := fun K E s =>
  wpAny (model prog w) A (testsTree ifs env) (fun ok s₃ => if ok = true then wpAny (model prog w) A (eval elt env) (fun x s₄ => wpAny (model prog w) A (call (.builtin "list.append") [.ref Da, x]) (fun _ s₅ => K s₅) E s₄) E s₃ else K s₃) E s

theorem step_skip {ifs : List Expr} {elt : Expr} {Da : Addr} (x : Tests prog w B F ρ σ ifs false σ₁) (hD : Free F Da) : StepOk prog w B F Da (rest1 prog w F.A F.env ifs elt Da) ρ σ [] σ₁ := fun s acc vs H hp hr hsz K E hk =>
  wpAny_mono (x s H) (fun ok s' ⟨e, h', tk, e2, ex, H'⟩ => by
    subst e e2
    rw [if_neg (by decide)]
    exact hk h' tk vs ex.extD H' (hp.at fun o e => ex _ o hD.1 e) (by simpa using RL.mono ex.hide hr)) fun _ _ f => f.elim
theorem step_add {ifs : List Expr} {elt : Expr} {Da : Addr} {y : D} (x : Tests prog w B F ρ σ ifs true σ₁) (z : Ev prog w B F ρ σ₁ elt y σ₂) (hD : Free F Da) (hDM : Da ∈ F.M) : StepOk prog w B F Da (rest1 prog w F.A F.env ifs elt Da) ρ σ [y] σ₂ := fun s acc vs H hp hr hsz K E hk =>
  wpAny_mono (x s H) (fun ok s' ⟨e, h1, t1, e2, ex, H1⟩ => by
    subst e e2
    rw [if_pos rfl]
    refine z.use (s := { s with heap := h1, toks := t1 }) H1 fun v h2 t2 e2 H2 r2 => ?_
    have hp2 : h2.PlainList Da vs := (hp.at fun o e => ex _ o hD.1 e).at fun o e => e2 _ o hD.1 e
    have hr2 := RL.mono (ex.hide.trans e2.hide) hr
    refine wpAny_list_append_plain (hsz := by have := sizeOf_RL hr; simp at hsz; omega) hp2 fun h3 hp3 hs3 => ?_
    have hx3 : ∀ b o, b ≠ Da → h2.get? b = some o → h3.get? b = some o := fun b o n e => (hs3.2 b n).trans e
    have hex3 : ∃ o, h3.get? Da = some o := by obtain ⟨n, e⟩ := hp3; exact ⟨_, e⟩
    have m3 : Sub (hideAll h2 F.M) (hideAll h3 F.M) := (H2.write hDM (.inr hD.2.2.2) hx3 hex3).1
    refine hk h3 t2 _ (ex.extD.trans (e2.extD.trans fun b o _ _ n e => hx3 b o n e)) (H2.poke hDM hD hx3 hex3) hp3 ?_
    have := RL.append (RL.one (R.mono m3 r2)) (RL.mono m3 hr2)
    simpa using this) fun _ _ f => f.elim
end

/-- the turns of a comprehension's clause -/
inductive CT (prog : Program) (w : World) (B : BS) (F : FC) (Da : Addr) (x : Str) (rest : PT) : List D → List (Str × D) → List (Addr × MO) → List D → List (Addr × MO) → Prop
  | nil {ρ : List (Str × D)} {σ : List (Addr × MO)} : CT prog w B F Da x rest [] ρ σ [] σ
  | cons {d : D} {xs ys zs : List D} {ρ : List (Str × D)} {σ σ₂ σ' : List (Addr × MO)} : (∀ I, Free F I → I ≠ Da → StepOk prog w B (F.hid I) Da rest ((x, d) :: ρ) σ ys σ₂) → CT prog w B F Da x rest xs ρ σ₂ zs σ' → CT prog w B F Da x rest (d :: xs) ρ σ (ys ++ zs) σ'

section
variable {prog : Program} {w : World} {B : BS} {F : FC} {ρ ρ' ρ₁ ρ₂ : List (Str × D)} {σ σ' σ₁ σ₂ σ₃ : List (Addr × MO)} {h h' : Heap} {s : Shared} {I : Addr}

theorem comp_run {elt : Expr} {gens : List Comprehension} {scope : Scope} {pos : Pos} {k : Nat} {x : Str} {px : Pos} {Da : Addr} {rest : PT} {fp : List Addr} {P : Nat → Value → Prop} {St : Nat → Heap → Prop} {xs ys : List D} {R₀ : Result → Shared → Prop} {h0 : Heap}
    (hT : ∀ (s : Shared) (Q : Fin → Shared → Prop) (E : Value → Shared → Prop), wpAny (model prog w) F.A (pyNext (.ref I)) (fun r s₁ => match r with
        | none => Q (.done .next) s₁
        | some v => wpAny (model prog w) F.A (PySem.assign (.Name x px) F.env v) (fun _ s₂ => rest (fun s₃ => Q (.again (.compLoop (.ListComp elt gens scope pos) k (.ref I) (.ref Da) F.env)) s₃) E s₂) E s₁) E s →
      wpAny (model prog w) F.A (compTurn (.ListComp elt gens scope pos) k (.ref I) (.ref Da) F.env) Q E s)
    (ok : F.Ok) (fI : Free F I) (hIM : I ∉ F.M) (fD : Free F Da) (hDM : Da ∈ F.M) (hID : I ≠ Da) (hx : F.env.kindOf x = some .local) (hρ : ρ.lookup x = none)
    (W : Walks prog w F.A I fp [I] xs.length P St) (hfp : ∀ b ∈ fp, b = I ∨ (b ∉ F.M ∧ ∃ o, h0.get? b = some o)) (hpl : ∀ i h, St i h → PlainIt h I) (hP : ∀ i v' d', P i v' → xs[i]? = some d' → R prog w (hideAll h0 F.M) v' d')
    (T : CT prog w B F Da x rest xs ρ σ ys σ') {acc : List D} {vs : Array Value} (H : Holds prog w B (F.hid I) ρ σ s.heap) (st : St 0 s.heap) (hp : s.heap.PlainList Da vs) (hr : RL prog w (hideAll s.heap (F.hid I).M) vs.toList acc)
    (h0s : Sub (hideAll h0 F.M) (hideAll s.heap (F.hid I).M)) (hsz : acc.length + ys.length ≤ sizeLine)
    (hR : ∀ h' tk vs', (∀ b o, b ≠ I → b ∉ F.S → b ≠ F.env.locals → b ≠ Da → s.heap.get? b = some o → h'.get? b = some o) → Holds prog w B F ρ σ' h' → h'.PlainList Da vs' → RL prog w (hideAll h' F.M) vs'.toList (acc ++ ys) → R₀ (.ok .next) { s with heap := h', toks := tk }) :
    codeAny (model prog w) F.A (.compLoop (.ListComp elt gens scope pos) k (.ref I) (.ref Da) F.env) R₀ s := by
  refine codeAny_loop rfl (fun n s' => ∃ i zs σi ws accs vs' h' tk, s' = { s with heap := h', toks := tk } ∧ n = zs.length + 1 ∧ zs = xs.drop i ∧ i ≤ xs.length ∧ CT prog w B F Da x rest zs ρ σi ws σ' ∧ accs ++ ws = acc ++ ys ∧
    Holds prog w B (F.hid I) ρ σi h' ∧ St i h' ∧ h'.PlainList Da vs' ∧ RL prog w (hideAll h' (F.hid I).M) vs'.toList accs ∧ Sub (hideAll h0 F.M) (hideAll h' (F.hid I).M) ∧
    (∀ b o, b ≠ I → b ∉ F.S → b ≠ F.env.locals → b ≠ Da → s.heap.get? b = some o → h'.get? b = some o)) (fun n s' hI => ?_) (xs.length + 1)
    ⟨0, xs, σ, ys, acc, vs, s.heap, s.toks, rfl, rfl, by simp, Nat.zero_le _, T, rfl, H, st, hp, hr, h0s, fun _ _ _ _ _ _ e => e⟩
  obtain ⟨i, zs, σi, ws, accs, vs', h', tk, rfl, rfl, hzs, hi, T', hacc, H', st', hp', hr', hsb, ex⟩ := hI
  show wpAny _ F.A ((compTurn (.ListComp elt gens scope pos) k (.ref I) (.ref Da) F.env).onRaise (fun x => do noteFrame x F.env; theTreesLotGoes x)) _ _ _
  refine wpAny_noted (hT _ _ _ ?_)
  cases T' with
  | nil =>
    have hii : i = xs.length := by
      have := congrArg List.length hzs
      simp at this
      omega
    refine W.done _ _ _ (hii ▸ st') fun h3 t3 hk => ?_
    have hk' : ∀ b o, b ≠ I → h'.get? b = some o → h3.get? b = some o := fun b o n e => hk b o (by simpa using n) e
    have m3 : Sub (hideAll h' (F.hid I).M) (hideAll h3 F.M) := hide_mono (fun b o n e => hk' b o (fun q => n (mem_hid.mpr (.inl q))) e) fun b hb _ => mem_hid.mpr (.inr hb)
    refine hR h3 t3 vs' (fun b o n1 n2 n3 n4 e => hk' b o n1 (ex b o n1 n2 n3 n4 e)) (H'.drop ok fI hIM hk') (hp'.at fun o e => hk' _ o (Ne.symm hID) e) ?_
    rw [← hacc, List.append_nil]
    exact RL.mono m3 hr'
  | @cons d zs1 ys1 zs2 _ _ σ₂ _ hstep T2 =>
    have hlt : i < xs.length := by
      have := congrArg List.length hzs
      simp at this
      omega
    refine W.item i _ _ _ hlt st' fun v' h3 t3 hPv st3 hk => ?_
    have hk' : ∀ b o, b ≠ I → h'.get? b = some o → h3.get? b = some o := fun b o n e => hk b o (by simpa using n) e
    obtain ⟨o3, T3, ho3, _⟩ := hpl _ _ st3
    have H3 : Holds prog w B (F.hid I) ρ σi h3 := H'.poke (mem_hid.mpr (.inl rfl)) fI hk' ⟨o3, ho3⟩
    have sb3 : Sub (hideAll h' (F.hid I).M) (hideAll h3 (F.hid I).M) := (H'.write (mem_hid.mpr (.inl rfl)) (.inr fI.2.2.2) hk' ⟨o3, ho3⟩).1
    have hd : xs[i]? = some d := by
      have := congrArg List.head? hzs
      simpa using this.symm
    have hd' : zs1 = xs.drop (i + 1) := by
      rw [← List.drop_drop, ← hzs]; rfl
    have rv : R prog w (hideAll h3 (F.hid I).M) v' d := R.mono (hsb.trans sb3) (hP i v' d hPv hd)
    obtain ⟨m, hm, hv⟩ := H3.vars
    refine PySem.wpAny_assign_Name (wpAny_storeName_local hx hm (fun h4 hn4 hs4 => ?_) (by rw [ok.kind]; rfl))
    have H4 : Holds prog w B (F.hid I) ((x, d) :: ρ) σi h4 := H3.setL hv hx hn4 hs4 rv
    have hk4 : ∀ b o, b ≠ F.env.locals → h3.get? b = some o → h4.get? b = some o := fun b o n e => (hs4.2 b n).trans e
    have sb4 : Sub (hideAll h3 (F.hid I).M) (hideAll h4 (F.hid I).M) := hide_mono (fun b o n e => hk4 b o (fun q => n (q ▸ mem_hid.mpr (.inr (FC.inN ok.locM)))) e) fun b hb _ => hb
    have hp4 : h4.PlainList Da vs' := (hp'.at fun o e => hk' _ o (Ne.symm hID) e).at fun o e => hk4 _ o fD.2.1 e
    have hl1 : accs.length + ys1.length ≤ sizeLine := by
      have := congrArg List.length hacc
      simp only [List.length_append] at this
      omega
    refine hstep I fI hID { s with heap := h4, toks := t3 + 1 } accs vs' H4 hp4 (RL.mono (sb3.trans sb4) hr') hl1 _ _ fun h5 t5 vs5 ex5 H5 hp5 hr5 => ?_
    refine ⟨rfl, zs1.length + 1, by simp, i + 1, zs1, σ₂, zs2, accs ++ ys1, vs5, h5, t5, rfl, rfl, hd', hlt, T2, by rw [← hacc, List.append_assoc], ?_, ?_, hp5, hr5, ?_, ?_⟩
    · refine H5.less fun y e hy => ?_
      rw [List.lookup_cons]
      by_cases q : y = x
      · subst q; rw [hρ] at hy; cases hy
      · have q' : (y == x) = false := by simpa using q
        rw [q']; exact hy
    · refine W.frame _ _ _ st3 fun b hb o e => ?_
      by_cases n : b = I
      · subst n; exact ex5 b o fI.1 fI.2.1 hID (hk4 b o fI.2.1 e)
      · rcases hfp b hb with q | ⟨q, _⟩
        · exact absurd q n
        · have n2 : b ≠ F.env.locals := fun z => q (z ▸ FC.inN ok.locM)
          exact ex5 b o (fun z => q (FC.inM z)) n2 (fun z => q (z ▸ hDM)) (hk4 b o n2 e)
    · refine (hsb.trans (sb3.trans sb4)).trans (hide_mono (fun b o n e => ex5 b o (fun q => n (mem_hid.mpr (.inr (FC.inM q)))) (fun q => n (q ▸ mem_hid.mpr (.inr (FC.inN ok.locM)))) (fun q => n (q ▸ mem_hid.mpr (.inr hDM))) e) fun b hb _ => hb)
    · exact fun b o n1 n2 n3 n4 e => ex5 b o n2 n3 n4 (hk4 b o n3 (hk' b o n1 (ex b o n1 n2 n3 n4 e)))
end
end Mine
namespace Mine
/-- what a comprehension's frame knows by its captured names -/
def Cap (F : FC) (scope : Scope) (cl : List (Str × Addr)) (ρ : List (Str × D)) : List (Str × D) → Prop
  | [] => True
  | (y, d) :: r => (ρ.lookup y = some d ∧ F.env.kindOf y = some .cell ∧ (relabel scope F.env).names.lookup y = some .cell ∧ cl.lookup y = F.env.cells.lookup y) ∧ Cap F scope cl ρ r

section
variable {prog : Program} {w : World} {B : BS} {F : FC} {ρ ρ' ρ₁ ρ₂ ρc : List (Str × D)} {σ σ' σ₁ σ₂ σ₃ : List (Addr × MO)} {h h' h1 h2 h3 : Heap} {s : Shared} {I C Da : Addr} {scope : Scope} {cl : List (Str × Addr)}

theorem Cap.look : ∀ {ρc : List (Str × D)}, Cap F scope cl ρ ρc → ∀ y d, ρc.lookup y = some d → ρ.lookup y = some d ∧ F.env.kindOf y = some .cell ∧ (relabel scope F.env).names.lookup y = some .cell ∧ cl.lookup y = F.env.cells.lookup y
  | [], _, y, d, e => by simp at e
  | (x, d') :: r, c, y, d, e => by
    rw [List.lookup_cons] at e
    by_cases q : y = x
    · subst q; simp at e; subst e; exact c.1
    · have q' : (y == x) = false := by simpa using q
      rw [q'] at e; exact Cap.look c.2 y d e

theorem mem_cmp {b : Addr} : b ∈ (F.cmp scope cl C Da).M ↔ b = Da ∨ b = C ∨ b ∈ F.M := by
  simp only [FC.M, FC.cmp, List.mem_append, List.mem_cons]
  constructor
  · rintro (x | x | x | x)
    · exact .inr (.inr (.inl x))
    · exact .inl x
    · exact .inr (.inl x)
    · exact .inr (.inr (.inr x))
  · rintro (x | x | x | x)
    · exact .inr (.inl x)
    · exact .inr (.inr (.inl x))
    · exact .inl x
    · exact .inr (.inr (.inr x))

theorem FC.Ok.cmp (ok : F.Ok) (hk : scope.kind = .function) (hcl : ∀ x c, cl.lookup x = some c → F.env.cells.lookup x = some c) (fC : Free F C) : (F.cmp scope cl C Da).Ok where
  locM := by simp [FC.cmp, compEnvC]
  locS := fC.1
  locG := fC.2.2.2
  cellM := fun x c e => let ⟨a, b, c', d⟩ := ok.cellM x c (hcl x c e); ⟨by simp only [FC.cmp, List.mem_cons]; exact .inr (.inr a), b, c', fun q => fC.2.2.1 x (show F.env.cells.lookup x = some C from (show c = C from q) ▸ hcl x c e)⟩
  apart := fun x y c e1 e2 => ok.apart x y c (hcl x c e1) (hcl y c e2)
  kind := hk
  M0M := fun a ha => mem_cmp.mpr (.inr (.inr (ok.M0M a ha)))
  M0g := ok.M0g
  glob := ok.glob
  blt := ok.blt
  hand := ok.hand
  un := ok.un
  big := ok.big

theorem Holds.toCmp (H : Holds prog w B F ρ σ h1) (hs : Sub h1 h3) (hk : scope.kind = .function) (hcl : ∀ x c, cl.lookup x = some c → F.env.cells.lookup x = some c) (cap : Cap F scope cl ρ ρc)
    (hC : h1.objs.size ≤ C) (hD : h1.objs.size ≤ Da) (hI : h1.objs.size ≤ I) {m : Str → Option Value} (nC : h3.Ns C m) (eD : ∃ o, h3.get? Da = some o) (eI : ∃ o, h3.get? I = some o) : Holds prog w B ((F.cmp scope cl C Da).hid I) ρc σ h3 := by
  have new : ∀ b, h1.objs.size ≤ b → ∀ o, h1.get? b = some o → False := fun b hb o e => absurd (Heap.lt_size e) (Nat.not_lt.mpr hb)
  have hh : Sub (hideAll h1 F.M) (hideAll h3 ((F.cmp scope cl C Da).hid I).M) := hide_mono (fun b o n e => hs b o e) fun b hb ⟨o, e⟩ => by
    rcases mem_hid.mp hb with q | q
    · exact (new b (q ▸ hI) o e).elim
    · rcases mem_cmp.mp q with q | q | q
      · exact (new b (q ▸ hD) o e).elim
      · exact (new b (q ▸ hC) o e).elim
      · exact q
  obtain ⟨m0, hn, hv⟩ := H.vars
  refine ⟨(H.ok.cmp hk hcl (H.free hC)).hid, H.sub.trans hh, fun b o n e => hs _ _ (H.keep b o n e), fun b hb => ?_, ⟨m, nC, fun y d e => ?_⟩, fun y c e => let ⟨v, hv⟩ := H.cells y c (hcl y c e); ⟨v, isCell_sub hv hs⟩, H.stIn, fun a o e => (H.store a o e).mono hh fun q => hs _ q⟩
  · rcases mem_hid.mp hb with q | q
    · subst q; exact eI
    · rcases mem_cmp.mp q with q | q | q
      · subst q; exact eD
      · subst q; obtain ⟨o, _, _, e, _⟩ := nC; exact ⟨o, e⟩
      · obtain ⟨o, e⟩ := H.ex b q; exact ⟨o, hs _ _ e⟩
  · obtain ⟨e1, k1, k2, e2⟩ := cap.look y d e
    obtain ⟨u, hu, ⟨k, _⟩ | ⟨k, c, e3, hc⟩⟩ := hv y d e1
    · rw [k1] at k; cases k
    · exact ⟨u, R.mono hh hu, .inr ⟨k2, c, e2.trans e3, isCell_sub hc hs⟩⟩

theorem Holds.back (H0 : Holds prog w B F ρ σ h) (Hc : Holds prog w B (F.cmp scope cl C Da) ρc σ' h1) (hC : h.objs.size ≤ C) (ext : ∀ b o, b ∉ F.S → h.get? b = some o → h1.get? b = some o) : Holds prog w B (F.hid C) ρ σ' h1 := by
  have hh : Sub (hideAll h1 (F.cmp scope cl C Da).M) (hideAll h1 (F.hid C).M) := hide_mono (fun b o n e => e) fun b hb _ => by
    rcases mem_hid.mp hb with q | q
    · exact mem_cmp.mpr (.inr (.inl q))
    · exact mem_cmp.mpr (.inr (.inr q))
  have h0 : Sub (hideAll h F.M) (hideAll h1 (F.hid C).M) := hide_mono (fun b o n e => ext b o (FC.notS n) e) fun b hb ⟨o, e⟩ => (mem_hid.mp hb).resolve_left fun q => absurd (Heap.lt_size e) (Nat.not_lt.mpr (q ▸ hC))
  obtain ⟨m0, hn, hv⟩ := H0.vars
  have hcell : ∀ y c u, F.env.cells.lookup y = some c → h.IsCell c u → h1.IsCell c u := fun y c u e ⟨o, ho, q⟩ => ⟨o, ext c o (H0.ok.cellM y c e).2.1 ho, q⟩
  refine ⟨H0.ok.hid, Hc.sub.trans hh, Hc.keep, fun b hb => Hc.ex b ?_, ⟨m0, hn.at' fun o e => ext _ o H0.ok.locS e, fun x d e => ?_⟩, fun y c e => let ⟨u, hu⟩ := H0.cells y c e; ⟨u, hcell y c u e hu⟩, Hc.stIn, fun a o e => (Hc.store a o e).mono hh fun q z => z⟩
  · rcases mem_hid.mp hb with q | q
    · exact mem_cmp.mpr (.inr (.inl q))
    · exact mem_cmp.mpr (.inr (.inr q))
  · obtain ⟨u, hu, r⟩ := hv x d e
    exact ⟨u, R.mono h0 hu, r.imp id fun ⟨k, c, z, hc⟩ => ⟨k, c, z, hcell x c _ z hc⟩⟩

theorem comp_main {elt iter : Expr} {ifs : List Expr} {more : List Comprehension} {x : Str} {px pos cp : Pos} {src : D} {xs ys : List D} {use : Option (Value → Sem Unit)} {Q : Value → Shared → Prop} {rest : Env → Addr → PT} (H : Holds prog w B F ρ σ s.heap)
    (hi : Ev prog w B F ρ σ iter src σ₁) (hs : SrcOf src xs) (hclos : closureFor scope F.env = pure cl) (hcl : ∀ x c, cl.lookup x = some c → F.env.cells.lookup x = some c) (cap : Cap F scope cl ρ ρc)
    (hk : scope.kind = .function) (hnames : ∀ x ∈ scope.names, x.2 = .local → scope.names.lookup x.1 = some .local) (hcell : ∀ y ∈ scope.names, y.2 ≠ .cell) (hx : scope.names.lookup x = some .local) (hρ : ρc.lookup x = none)
    (hT : ∀ (env : Env) (I Da : Addr) (s : Shared) (Q : Fin → Shared → Prop) (E : Value → Shared → Prop), wpAny (model prog w) F.A (pyNext (.ref I)) (fun r s₁ => match r with
        | none => Q (.done .next) s₁
        | some v => wpAny (model prog w) F.A (PySem.assign (.Name x px) env v) (fun _ s₂ => rest env Da (fun s₃ => Q (.again (.compLoop (.ListComp elt (⟨.Name x px, iter, ifs, 0⟩ :: more) scope pos) 0 (.ref I) (.ref Da) env)) s₃) E s₂) E s₁) E s →
      wpAny (model prog w) F.A (compTurn (.ListComp elt (⟨.Name x px, iter, ifs, 0⟩ :: more) scope pos) 0 (.ref I) (.ref Da) env) Q E s)
    (T : ∀ C Da, Free F C → Free F Da → Free (F.cmp scope cl C Da) Da → CT prog w B (F.cmp scope cl C Da) Da x (rest (compEnvC scope cl C F.env) Da) xs ρc σ₁ ys σ') (hsz : ys.length ≤ sizeLine)
    (fin : ∀ Da C h1 tk, Free F C → C ∉ F.M → Ext F s.heap h1 → Holds prog w B (F.hid C) ρ σ' h1 → R prog w (hideAll h1 (F.hid C).M) (.ref Da) (.list ys) → (∀ b o, b ∉ F.S → s.heap.get? b = some o → b ≠ C) → C ≠ Da → (∃ m, h1.Ns C m) →
      compPost (model prog w) F.A nofail use Q (.ref Da) C (.ok .next) { s with heap := h1, toks := tk })
    (hset : ∀ x, foldedSetIterable iter F.env x = pure x := by intro _; rfl) :
    wpAny (model prog w) F.A (comprehension (.ListComp elt (⟨.Name x px, iter, ifs, 0⟩ :: more) scope pos) scope F.env cp (newList []) false (eval iter F.env) use) Q nofail s := by
  refine wpAny_comprehension_free (g := ⟨.Name x px, iter, ifs, 0⟩) (gs := more) rfl hset hclos hk hnames (hi.use H fun v h1 t1 e1 H1 r1 => ?_)
  refine src_walk (F := F) (s := { s with heap := h1, toks := t1 }) H1.ok.hand r1 hs fun h2 t2 fp P St hsub hex W st0 hfp hpl hP => ?_
  dsimp only at hsub hex W hfp hpl hP ⊢
  generalize hI : h1.objs.size = I at hex W hfp hpl hP ⊢
  have I2 : I < h2.objs.size := let ⟨o, e⟩ := hex; Heap.lt_size e
  refine wpAny_newObj_type (wpAny_newFunctionEnv hcell (by intro y hy; simp at hy) (fun h3 hns hsb => ?_) hk)
  dsimp only at hns hsb ⊢
  generalize hH2 : h2.push { cls := .type "list", dict := none, data := .seq ([] : List Value).toArray } = H2 at hns hsb ⊢
  have hC : H2.objs.size = h2.objs.size + 1 := by rw [← hH2, Heap.size_push]
  generalize hDa : h2.objs.size = Da at hC ⊢
  generalize hCC : H2.objs.size = C at hC hns hsb ⊢
  have hDC : Da ≠ C := by rw [hC]; exact Nat.ne_of_lt (Nat.lt_succ_self _)
  have hI1 : h1.objs.size ≤ I := by rw [hI]; exact Nat.le_refl _
  have hID : I < Da := by rw [← hDa]; exact I2
  have hD1 : h1.objs.size ≤ Da := Nat.le_trans hI1 (Nat.le_of_lt hID)
  have hC1 : h1.objs.size ≤ C := by rw [hC]; exact Nat.le_succ_of_le hD1
  have s23 : Sub h2 h3 := fun b o e => hsb.extBut b o (by
    have := Heap.lt_size e
    rw [hDa] at this
    rw [hC]; exact Nat.ne_of_lt (Nat.lt_succ_of_lt this)) (Heap.get?_push_of_some _ (hH2 ▸ Heap.get?_push_of_some _ e))
  have s13 : Sub h1 h3 := hsub.trans s23
  have eD : h3.PlainList Da #[] := ⟨0, hsb.extBut _ _ hDC (Heap.get?_push_of_some _ (by rw [← hH2, ← hDa]; exact Heap.get?_push_size _ rfl))⟩
  have Hc : Holds prog w B ((F.cmp scope cl C Da).hid I) ρc σ₁ h3 := H1.toCmp s13 hk hcl cap hC1 hD1 hI1 hns (let ⟨_, e⟩ := eD; ⟨_, e⟩) (let ⟨o, e⟩ := hex; ⟨o, s23 _ _ e⟩)
  have fC := H1.free hC1
  have fD := H1.free hD1
  have fI := H1.free hI1
  have ok := H1.ok.cmp (scope := scope) (cl := cl) (Da := Da) hk hcl fC
  have fDc : Free (F.cmp scope cl C Da) Da := ⟨fD.1, hDC, fun y q => fD.2.2.1 y (hcl y Da q), fD.2.2.2⟩
  have hIC : I ≠ C := by rw [hC]; exact Nat.ne_of_lt (Nat.lt_succ_of_lt hID)
  have notM : ∀ b, h1.objs.size ≤ b → b ∉ F.M := fun b hb q => absurd (H1.lt q) (Nat.not_lt.mpr hb)
  have hhid : Sub (hideAll h1 F.M) (hideAll h1 (F.cmp scope cl C Da).M) := hide_mono (fun b o n e => e) fun b hb ⟨o, e⟩ => by
    rcases mem_cmp.mp hb with q | q | q
    · exact absurd (Heap.lt_size e) (Nat.not_lt.mpr (q ▸ hD1))
    · exact absurd (Heap.lt_size e) (Nat.not_lt.mpr (q ▸ hC1))
    · exact q
  have loop : codeAny (model prog w) F.A (.compLoop (.ListComp elt (⟨.Name x px, iter, ifs, 0⟩ :: more) scope pos) 0 (.ref I) (.ref Da) (compEnvC scope cl C F.env)) (compPost (model prog w) F.A nofail use Q (.ref Da) C) { s with heap := h3, toks := t2 + ([] : List (Str × Value)).length } := by
    refine comp_run (F := F.cmp scope cl C Da) (h0 := h1) (acc := []) (vs := #[]) (rest := rest (compEnvC scope cl C F.env) Da) (fun s Q E h => hT _ I Da s Q E h) ok ⟨fI.1, hIC, fun y q => fI.2.2.1 y (hcl y I q), fI.2.2.2⟩ ?_ fDc (mem_cmp.mpr (.inl rfl)) (Nat.ne_of_lt hID) (lookup_relabel_local hx) hρ W
      (fun b hb => ?_) hpl (fun i v' d' hp hd => R.mono hhid (hP i v' d' hp hd)) (T C Da fC fD fDc) Hc (W.frame _ _ _ st0 fun b _ o e => s23 b o e) eD RL.nil ?_ (by simpa using hsz) fun h4 t4 vs4 ex4 H4 hp4 hr4 => ?_
    · intro q
      rcases mem_cmp.mp q with q | q | q
      · exact absurd q (Nat.ne_of_lt hID)
      · exact hIC q
      · exact notM I hI1 q
    · rcases hfp b hb with q | ⟨q, o, e⟩
      · exact .inl q
      · refine .inr ⟨fun z => ?_, o, e⟩
        rcases mem_cmp.mp z with z | z | z
        · exact absurd (Heap.lt_size e) (Nat.not_lt.mpr (z ▸ hD1))
        · exact absurd (Heap.lt_size e) (Nat.not_lt.mpr (z ▸ hC1))
        · exact q z
    · exact hide_mono (fun b o n e => s13 b o e) fun b hb ⟨o, e⟩ => (mem_hid.mp hb).resolve_left fun q => absurd (Heap.lt_size e) (Nat.not_lt.mpr (q ▸ hI1))
    · have ext14 : ∀ b o, b ∉ F.S → h1.get? b = some o → h4.get? b = some o := fun b o n e => by
        have lt := Heap.lt_size e
        exact ex4 b o (fun q => absurd lt (Nat.not_lt.mpr (q ▸ hI1))) n (fun q => absurd lt (Nat.not_lt.mpr (by rw [show b = C from q]; exact hC1))) (fun q => absurd lt (Nat.not_lt.mpr (q ▸ hD1))) (s13 b o e)
      obtain ⟨m4, n4, _⟩ := H4.vars
      have hh4 : Sub (hideAll h4 (F.cmp scope cl C Da).M) (hideAll h4 (F.hid C).M) := hide_mono (fun b o n e => e) fun b hb _ => by
        rcases mem_hid.mp hb with q | q
        · exact mem_cmp.mpr (.inr (.inl q))
        · exact mem_cmp.mpr (.inr (.inr q))
      obtain ⟨n4', e4⟩ := hp4
      have hle : ∀ b o, b ∉ F.S → s.heap.get? b = some o → b ≠ C := fun b o n e q => absurd (Heap.lt_size (e1 b o n e)) (Nat.not_lt.mpr (q ▸ hC1))
      refine fin Da C h4 t4 fC (notM C hC1) (e1.trans fun b o n e => ext14 b o n e) (H1.back H4 hC1 ext14) (R.list (hideAll_get _ e4 fun q => ?_) (RL.mono hh4 (by simpa using hr4))) hle (Ne.symm hDC) ⟨m4, n4⟩
      rcases mem_hid.mp q with q | q
      · exact hDC q
      · exact notM Da hD1 q
  exact codeAny_compStart_list loop (W.self 0 _ _ _ (W.frame _ _ _ st0 fun b _ o e => s23 b o e) loop)

theorem turn1 {A : Around} {elt iter : Expr} {ifs : List Expr} {x : Str} {px pos : Pos} (env : Env) (I Da : Addr) (s : Shared) (Q : Fin → Shared → Prop) (E : Value → Shared → Prop)
    (h : wpAny (model prog w) A (pyNext (.ref I)) (fun r s₁ => match r with
        | none => Q (.done .next) s₁
        | some v => wpAny (model prog w) A (PySem.assign (.Name x px) env v) (fun _ s₂ => rest1 prog w A env ifs elt Da (fun s₃ => Q (.again (.compLoop (.ListComp elt [⟨.Name x px, iter, ifs, 0⟩] scope pos) 0 (.ref I) (.ref Da) env)) s₃) E s₂) E s₁) E s) :
    wpAny (model prog w) A (compTurn (.ListComp elt [⟨.Name x px, iter, ifs, 0⟩] scope pos) 0 (.ref I) (.ref Da) env) Q E s := by
  rw [compTurn_list]
  refine wpAny_bind (wpAny_standAt (wpAny_bind (wpAny_mono h (fun r s₁ h₁ => ?_) fun _ _ h' => h')))
  cases r with
  | none => exact wpAny_pure h₁
  | some v =>
    refine wpAny_bind (wpAny_of_eq (rfl : letOwnedTupleGo (.Name x px) (.ref I) v = pure ()) ?_)
    refine wpAny_bind (wpAny_mono h₁ (fun _ s₂ h₂ => wpAny_bind (wpAny_mono h₂ (fun ok s₃ h₃ => ?_) fun _ _ h' => h')) fun _ _ h' => h')
    cases ok with
    | false => exact wpAny_pure h₃
    | true =>
      exact wpAny_bind (wpAny_bind (wpAny_mono h₃ (fun x s₄ h₄ => wpAny_bind (wpAny_mono h₄ (fun _ s₅ h₅ => wpAny_pure (wpAny_pure h₅)) fun _ _ h' => h')) fun _ _ h' => h'))

theorem Holds.letGo (H : Holds prog w B (F.hid C) ρ σ h) (ok : F.Ok) (fr : Free F C) (hM : C ∉ F.M) (hs : Heap.SameBut C h h') : Holds prog w B F ρ σ h' := H.drop ok fr hM fun b o n e => (hs.2 b n).trans e
theorem hide_letGo (hs : Heap.SameBut C h h') : Sub (hideAll h (F.hid C).M) (hideAll h' F.M) := hide_mono (fun b o n e => (hs.2 b fun q => n (mem_hid.mpr (.inl q))).trans e) fun b hb _ => mem_hid.mpr (.inr hb)

/-- what a comprehension asks of its scope -/
structure ScopeOk (F : FC) (scope : Scope) (cl : List (Str × Addr)) (x : Str) : Prop where
  clos : closureFor scope F.env = pure cl
  sub : ∀ x c, cl.lookup x = some c → F.env.cells.lookup x = some c
  kind : scope.kind = .function
  names : ∀ x ∈ scope.names, x.2 = .local → scope.names.lookup x.1 = some .local
  cell : ∀ y ∈ scope.names, y.2 ≠ .cell
  x : scope.names.lookup x = some .local

theorem Ev.comp {elt iter : Expr} {ifs : List Expr} {x : Str} {px pos : Pos} {src : D} {xs ys : List D}
    (hi : Ev prog w B F ρ σ iter src σ₁) (hs : SrcOf src xs) (so : ScopeOk F scope cl x) (cap : Cap F scope cl ρ ρc) (hρ : ρc.lookup x = none)
    (T : ∀ C Da, Free F C → Free F Da → Free (F.cmp scope cl C Da) Da → CT prog w B (F.cmp scope cl C Da) Da x (rest1 prog w F.A (compEnvC scope cl C F.env) ifs elt Da) xs ρc σ₁ ys σ') (hsz : ys.length ≤ sizeLine)
    (hset : ∀ x, foldedSetIterable iter F.env x = pure x := by intro _; rfl) :
    Ev prog w B F ρ σ (.ListComp elt [⟨.Name x px, iter, ifs, 0⟩] scope pos) (.list ys) σ' := fun s H => by
  rw [eval_ListComp]
  refine comp_main (use := none) (more := []) (rest := fun env Da => rest1 prog w F.A env ifs elt Da) H hi hs so.clos so.sub cap so.kind so.names so.cell so.x hρ (fun env I Da s Q E h => turn1 env I Da s Q E h) T hsz (fun Da C h1 tk fC nC e1 H1 r1 nb cd hn => ?_) hset
  obtain ⟨m, hm⟩ := hn
  exact ⟨m, hm, fun h' hs' => ⟨h', tk, rfl, fun b o n e => (hs'.2 b (nb b o n e)).trans (e1 b o n e), H1.letGo H.ok fC nC hs', R.mono (hide_letGo hs') r1⟩⟩

/-- x = [..], the store ahead of the frame's end -/
theorem Ex.assignComp {elt iter : Expr} {ifs : List Expr} {x y : Str} {px py pos spos : Pos} {src : D} {xs ys : List D}
    (hsw : swapsWith (.ListComp elt [⟨.Name x px, iter, ifs, 0⟩] scope pos) (some (.Name y py)) spos.line F.env = pure true)
    (hi : Ev prog w B F ρ σ iter src σ₁) (hs : SrcOf src xs) (so : ScopeOk F scope cl x) (cap : Cap F scope cl ρ ρc) (hρ : ρc.lookup x = none) (hy : Stb F y)
    (T : ∀ C Da, Free F C → Free F Da → Free (F.cmp scope cl C Da) Da → CT prog w B (F.cmp scope cl C Da) Da x (rest1 prog w F.A (compEnvC scope cl C F.env) ifs elt Da) xs ρc σ₁ ys σ') (hsz : ys.length ≤ sizeLine)
    (hset : ∀ x, foldedSetIterable iter F.env x = pure x := by intro _; rfl) :
    Ex prog w B F ρ σ (.Assign [.Name y py] (.ListComp elt [⟨.Name x px, iter, ifs, 0⟩] scope pos) spos) (.next ((y, .list ys) :: ρ) σ') := fun s H => by
  rw [exec_Assign_Name_used _ _ _ _ hsw]
  refine wpAny_bind (wpAny_standAt (wpAny_bind ?_))
  show wpAny _ F.A (do let _ ← comprehension (.ListComp elt [⟨.Name x px, iter, ifs, 0⟩] scope pos) scope F.env _ (newList []) false (eval iter F.env) (some (PySem.assign (.Name y py) F.env))) _ _ s
  refine wpAny_bind (wpAny_mono (comp_main (use := some (PySem.assign (.Name y py) F.env)) (more := []) (Q := fun _ s' => ∃ h' tk, s' = { s with heap := h', toks := tk } ∧ Ext' F s.heap h' ∧ Holds prog w B F ((y, .list ys) :: ρ) σ' h') (rest := fun env Da => rest1 prog w F.A env ifs elt Da) H hi hs so.clos so.sub cap so.kind so.names so.cell so.x hρ (fun env I Da s Q E h => turn1 env I Da s Q E h) T hsz (fun Da C h1 tk fC nC e1 H1 r1 nb cd hn => ?_) hset) (fun _ s' ⟨h', tk, e, e2, H'⟩ => wpAny_pure (wpAny_pure ⟨h', tk, e, e2, rfl, H'⟩)) fun _ _ f => f)
  obtain ⟨m, hm⟩ := hn
  show wpAny _ F.A (PySem.assign (.Name y py) F.env (.ref Da)) _ _ _
  refine PySem.wpAny_assign_Name (store_name (F := F.hid C) (s := { s with heap := h1, toks := tk }) H1 r1 hy fun h2 t2 e2 H2 => ?_)
  refine ⟨m, hm.at' fun o e => e2 C o fC.1 fC.2.1 fC.2.2.1 e, fun h3 hs3 => ⟨h3, t2, rfl, fun b o n1 n2 n3 e => ?_, H2.letGo H.ok fC nC hs3⟩⟩
  exact (hs3.2 b (nb b o n1 e)).trans (e2 b o n1 n2 n3 (e1 b o n1 e))
end
end Mine
namespace Mine
section
variable {prog : Program} {w : World} {B : BS} {F : FC} {ρ ρ' ρ₁ ρ₂ ρc : List (Str × D)} {σ σ' σ₁ σ₂ σ₃ : List (Addr × MO)} {h h' h1 h2 h3 : Heap} {s : Shared} {I C Da : Addr} {scope : Scope} {cl : List (Str × Addr)}

theorem compTurn_two0 (elt iter iter2 : Expr) (t t2 : Expr) (ifs ifs2 : List Expr) (pos : Pos) (it acc : Value) (env : Env) :
    compTurn (.ListComp elt [⟨t, iter, ifs, 0⟩, ⟨t2, iter2, ifs2, 0⟩] scope pos) 0 it acc env = (do
      standAt iter.pos
      match ← pyNext it with
      | none => pure (.done .next)
      | some v =>
        letOwnedTupleGo t it v
        assign t env v
        let mut ok := true
        for c in ifs do
          if ok then ok ← isTrue c env (eval c env)
        if ok then
          let x ← eval iter2 env
          standAt iter2.pos
          let x ← foldedSetIterable iter2 env x
          let _ ← runOwn (.compStart (.ListComp elt [⟨t, iter, ifs, 0⟩, ⟨t2, iter2, ifs2, 0⟩] scope pos) 1 (← holding [x] (pyIter x)) acc env) env
        again (.compLoop (.ListComp elt [⟨t, iter, ifs, 0⟩, ⟨t2, iter2, ifs2, 0⟩] scope pos) 0 it acc env)) := by rfl
theorem compTurn_two1 (elt iter iter2 : Expr) (t t2 : Expr) (ifs ifs2 : List Expr) (pos : Pos) (it acc : Value) (env : Env) :
    compTurn (.ListComp elt [⟨t, iter, ifs, 0⟩, ⟨t2, iter2, ifs2, 0⟩] scope pos) 1 it acc env = (do
      standAt iter2.pos
      match ← pyNext it with
      | none => pure (.done .next)
      | some v =>
        letOwnedTupleGo t2 it v
        assign t2 env v
        let mut ok := true
        for c in ifs2 do
          if ok then ok ← isTrue c env (eval c env)
        if ok then
          (do let _ ← call (.builtin "list.append") [acc, ← eval elt env])
        again (.compLoop (.ListComp elt [⟨t, iter, ifs, 0⟩, ⟨t2, iter2, ifs2, 0⟩] scope pos) 1 it acc env)) := by rfl

theorem compStart_two1 {A : Around} {R : Result → Shared → Prop} {elt t iter ifs t2 iter2 ifs2 pos it acc env}
    (h0 : codeAny (model prog w) A (.compLoop (.ListComp elt [⟨t, iter, ifs, 0⟩, ⟨t2, iter2, ifs2, 0⟩] scope pos) 1 it acc env) R s)
    (h : wpAny (model prog w) A (pyIter it) (fun it' s' => codeAny (model prog w) A (.compLoop (.ListComp elt [⟨t, iter, ifs, 0⟩, ⟨t2, iter2, ifs2, 0⟩] scope pos) 1 it' acc env) R s')
      (notedBy (model prog w) A env fun x s' => R (.error x) s') s) :
    codeAny (model prog w) A (.compStart (.ListComp elt [⟨t, iter, ifs, 0⟩, ⟨t2, iter2, ifs2, 0⟩] scope pos) 1 it acc env) R s := by
  refine codeAny_of_tree ?_
  show wpAny _ _ ((compStart (.ListComp elt [⟨t, iter, ifs, 0⟩, ⟨t2, iter2, ifs2, 0⟩] scope pos) 1 it acc env).onRaise (fun x => do noteFrame x env; standAt theWindowsPlace)) _ _ s
  refine wpAny_notedAt ?_
  unfold compStart
  show wpAny _ _ (ask >>= _) _ _ s
  refine wpAny_bind (wpAny_askSetting (wpAny_ite ?_))
  split
  · first
      | exact wpAny_bind (wpAny_pure (wpAny_pure (And.intro rfl h0)))
      | exact wpAny_pure (And.intro rfl h0)
  · first
      | exact wpAny_bind (wpAny_rule (wpAny_bind (wpAny_standAt (wpAny_bind (wpAny_mono h (fun it' s' h' => wpAny_pure (And.intro rfl h')) fun _ _ x => x)))))
      | (refine wpAny_bind (wpAny_rule ?_); show wpAny _ _ (standAt iter2.pos >>= _) _ _ s; exact wpAny_bind (wpAny_standAt (wpAny_bind (wpAny_mono h (fun it' s' h' => wpAny_pure (And.intro rfl h')) fun _ _ x => x))))

abbrev rest2 (prog : Program) (w : World) (A : Around) (scope : Scope) (elt t iter : Expr) (ifs : List Expr) (t2 iter2 : Expr) (ifs2 : List Expr) (pos : Pos) (env : Env) (Da : Addr) : PT := fun K E s =>
  wpAny (model prog w) A (testsTree ifs env) (fun ok s₃ => if ok = true then wpAny (model prog w) A (eval iter2 env) (fun xv s₄ => wpAny (model prog w) A (pyIter xv) (fun it2 s₅ =>
    codeAny (model prog w) A (.compStart (.ListComp elt [⟨t, iter, ifs, 0⟩, ⟨t2, iter2, ifs2, 0⟩] scope pos) 1 it2 (.ref Da) env) (fun r s₆ => match r with | .ok _ => K s₆ | .error e => cameBackBy (model prog w) A env E e s₆) s₅) E s₄) E s₃ else K s₃) E s

theorem turn2_0 {A : Around} {elt iter iter2 t2 : Expr} {ifs ifs2 : List Expr} {x : Str} {px pos : Pos} (hset : ∀ env x, foldedSetIterable iter2 env x = pure x) (env : Env) (I Da : Addr) (s : Shared) (Q : Fin → Shared → Prop) (E : Value → Shared → Prop)
    (h : wpAny (model prog w) A (pyNext (.ref I)) (fun r s₁ => match r with
        | none => Q (.done .next) s₁
        | some v => wpAny (model prog w) A (PySem.assign (.Name x px) env v) (fun _ s₂ => rest2 prog w A scope elt (.Name x px) iter ifs t2 iter2 ifs2 pos env Da (fun s₃ => Q (.again (.compLoop (.ListComp elt [⟨.Name x px, iter, ifs, 0⟩, ⟨t2, iter2, ifs2, 0⟩] scope pos) 0 (.ref I) (.ref Da) env)) s₃) E s₂) E s₁) E s) :
    wpAny (model prog w) A (compTurn (.ListComp elt [⟨.Name x px, iter, ifs, 0⟩, ⟨t2, iter2, ifs2, 0⟩] scope pos) 0 (.ref I) (.ref Da) env) Q E s := by
  rw [compTurn_two0]
  refine wpAny_bind (wpAny_standAt (wpAny_bind (wpAny_mono h (fun r s₁ h₁ => ?_) fun _ _ h' => h')))
  cases r with
  | none => exact wpAny_pure h₁
  | some v =>
    refine wpAny_bind (wpAny_of_eq (rfl : letOwnedTupleGo (.Name x px) (.ref I) v = pure ()) ?_)
    refine wpAny_bind (wpAny_mono h₁ (fun _ s₂ h₂ => wpAny_bind (wpAny_mono h₂ (fun ok s₃ h₃ => ?_) fun _ _ h' => h')) fun _ _ h' => h')
    cases ok with
    | false => exact wpAny_pure h₃
    | true =>
      refine wpAny_bind (wpAny_mono h₃ (fun xv s₄ h₄ => wpAny_bind (wpAny_standAt (wpAny_bind (wpAny_of_eq (hset env xv) (wpAny_bind (wpAny_holding (wpAny_mono h₄ (fun it2 s₅ h₅ => ?_) fun _ _ h' => h'))))))) fun _ _ h' => h')
      exact wpAny_bind (wpAny_runOwn (h := none) (codeAny_mono h₅ fun r s₆ h₆ => by cases r with
        | ok f => exact wpAny_pure h₆
        | error e => exact h₆))

theorem turn2_1 {A : Around} {elt iter iter2 t : Expr} {ifs ifs2 : List Expr} {x : Str} {px pos : Pos} (env : Env) (I Da : Addr) (s : Shared) (Q : Fin → Shared → Prop) (E : Value → Shared → Prop)
    (h : wpAny (model prog w) A (pyNext (.ref I)) (fun r s₁ => match r with
        | none => Q (.done .next) s₁
        | some v => wpAny (model prog w) A (PySem.assign (.Name x px) env v) (fun _ s₂ => rest1 prog w A env ifs2 elt Da (fun s₃ => Q (.again (.compLoop (.ListComp elt [⟨t, iter, ifs, 0⟩, ⟨.Name x px, iter2, ifs2, 0⟩] scope pos) 1 (.ref I) (.ref Da) env)) s₃) E s₂) E s₁) E s) :
    wpAny (model prog w) A (compTurn (.ListComp elt [⟨t, iter, ifs, 0⟩, ⟨.Name x px, iter2, ifs2, 0⟩] scope pos) 1 (.ref I) (.ref Da) env) Q E s := by
  rw [compTurn_two1]
  refine wpAny_bind (wpAny_standAt (wpAny_bind (wpAny_mono h (fun r s₁ h₁ => ?_) fun _ _ h' => h')))
  cases r with
  | none => exact wpAny_pure h₁
  | some v =>
    refine wpAny_bind (wpAny_of_eq (rfl : letOwnedTupleGo (.Name x px) (.ref I) v = pure ()) ?_)
    refine wpAny_bind (wpAny_mono h₁ (fun _ s₂ h₂ => wpAny_bind (wpAny_mono h₂ (fun ok s₃ h₃ => ?_) fun _ _ h' => h')) fun _ _ h' => h')
    cases ok with
    | false => exact wpAny_pure h₃
    | true =>
      exact wpAny_bind (wpAny_bind (wpAny_mono h₃ (fun x s₄ h₄ => wpAny_bind (wpAny_mono h₄ (fun _ s₅ h₅ => wpAny_pure (wpAny_pure h₅)) fun _ _ h' => h')) fun _ _ h' => h'))

/-- the inner clause as a step of the outer one -/
theorem step_inner {elt t iter iter2 : Expr} {ifs2 : List Expr} {y : Str} {py pos : Pos} {src : D} {xs2 ys : List D} {ρ' : List (Str × D)}
    (fD : Free F Da) (hDM : Da ∈ F.M) (hy : F.env.kindOf y = some .local) (hρ : ρ'.lookup y = none) (hi : Ev prog w B F ρ' σ iter2 src σ₁) (hs : SrcOf src xs2)
    (T : CT prog w B F Da y (rest1 prog w F.A F.env ifs2 elt Da) xs2 ρ' σ₁ ys σ₂) : StepOk prog w B F Da (rest2 prog w F.A scope elt t iter [] (.Name y py) iter2 ifs2 pos F.env Da) ρ' σ ys σ₂ := fun s acc vs H hp hr hsz K E hk => by
  refine wpAny_tests_nil ?_
  rw [if_pos rfl]
  refine hi.use H fun v h1 t1 e1 H1 r1 => ?_
  refine src_walk (F := F) (s := { s with heap := h1, toks := t1 }) H1.ok.hand r1 hs fun h2 t2 fp P St hsub hex W st0 hfp hpl hP => ?_
  dsimp only at hsub hex W hfp hpl hP ⊢
  generalize hI : h1.objs.size = I at hex W hfp hpl hP ⊢
  have hI1 : h1.objs.size ≤ I := by rw [hI]; exact Nat.le_refl _
  have fI := H1.free hI1
  have hIM : I ∉ F.M := fun q => absurd (H1.lt q) (Nat.not_lt.mpr hI1)
  have H2 : Holds prog w B (F.hid I) ρ' σ₁ h2 := H1.hid hsub hI1 hex
  have hp2 : h2.PlainList Da vs := (hp.at fun o e => e1 _ o fD.1 e).at fun o e => hsub _ o e
  have hh : Sub (hideAll h1 F.M) (hideAll h2 (F.hid I).M) := hide_mono (fun b o n e => hsub b o e) fun b hb ⟨o, e⟩ => (mem_hid.mp hb).resolve_left fun q => absurd (Heap.lt_size e) (Nat.not_lt.mpr (q ▸ hI1))
  have loop : codeAny (model prog w) F.A (.compLoop (.ListComp elt [⟨t, iter, [], 0⟩, ⟨.Name y py, iter2, ifs2, 0⟩] scope pos) 1 (.ref I) (.ref Da) F.env) (fun r s₆ => match r with | .ok _ => K s₆ | .error e => cameBackBy (model prog w) F.A F.env E e s₆) { s with heap := h2, toks := t2 } :=
    comp_run (acc := acc) (h0 := h1) (rest := rest1 prog w F.A F.env ifs2 elt Da) (fun s Q E h => turn2_1 F.env I Da s Q E h) H1.ok fI hIM fD hDM (fun q => hIM (q ▸ hDM)) hy hρ W hfp hpl hP T H2 st0 hp2
      (RL.mono (e1.hide.trans hh) hr) hh hsz fun h3 t3 vs3 ex3 H3 hp3 hr3 => hk h3 t3 vs3 (fun b o n1 n2 n3 e => by
        have e' := e1 b o n1 e
        exact ex3 b o (fun q => absurd (Heap.lt_size e') (Nat.not_lt.mpr (q ▸ hI1))) n1 n2 n3 (hsub b o e')) H3 hp3 hr3
  exact compStart_two1 loop (W.self 0 _ _ _ st0 loop)

theorem Ev.comp2 {elt iter iter2 : Expr} {ifs2 : List Expr} {x y : Str} {px py pos : Pos} {src : D} {xs ys : List D}
    (hi : Ev prog w B F ρ σ iter src σ₁) (hs : SrcOf src xs) (so : ScopeOk F scope cl x) (cap : Cap F scope cl ρ ρc) (hρ : ρc.lookup x = none)
    (T : ∀ C Da, Free F C → Free F Da → Free (F.cmp scope cl C Da) Da → CT prog w B (F.cmp scope cl C Da) Da x (rest2 prog w F.A scope elt (.Name x px) iter [] (.Name y py) iter2 ifs2 pos (compEnvC scope cl C F.env) Da) xs ρc σ₁ ys σ') (hsz : ys.length ≤ sizeLine)
    (hset : ∀ x, foldedSetIterable iter F.env x = pure x := by intro _; rfl) (hset2 : ∀ env x, foldedSetIterable iter2 env x = pure x := by intro _ _; rfl) :
    Ev prog w B F ρ σ (.ListComp elt [⟨.Name x px, iter, [], 0⟩, ⟨.Name y py, iter2, ifs2, 0⟩] scope pos) (.list ys) σ' := fun s H => by
  rw [eval_ListComp]
  refine comp_main (use := none) (more := [⟨.Name y py, iter2, ifs2, 0⟩]) (rest := fun env Da => rest2 prog w F.A scope elt (.Name x px) iter [] (.Name y py) iter2 ifs2 pos env Da) H hi hs so.clos so.sub cap so.kind so.names so.cell so.x hρ (fun env I Da s Q E h => turn2_0 hset2 env I Da s Q E h) T hsz (fun Da C h1 tk fC nC e1 H1 r1 nb cd hn => ?_) hset
  obtain ⟨m, hm⟩ := hn
  exact ⟨m, hm, fun h' hs' => ⟨h', tk, rfl, fun b o n e => (hs'.2 b (nb b o n e)).trans (e1 b o n e), H1.letGo H.ok fC nC hs', R.mono (hide_letGo hs') r1⟩⟩

theorem Ex.assignComp2 {elt iter iter2 : Expr} {ifs2 : List Expr} {x y z : Str} {px py pz pos spos : Pos} {src : D} {xs ys : List D}
    (hsw : swapsWith (.ListComp elt [⟨.Name x px, iter, [], 0⟩, ⟨.Name y py, iter2, ifs2, 0⟩] scope pos) (some (.Name z pz)) spos.line F.env = pure true)
    (hi : Ev prog w B F ρ σ iter src σ₁) (hs : SrcOf src xs) (so : ScopeOk F scope cl x) (cap : Cap F scope cl ρ ρc) (hρ : ρc.lookup x = none) (hz : Stb F z)
    (T : ∀ C Da, Free F C → Free F Da → Free (F.cmp scope cl C Da) Da → CT prog w B (F.cmp scope cl C Da) Da x (rest2 prog w F.A scope elt (.Name x px) iter [] (.Name y py) iter2 ifs2 pos (compEnvC scope cl C F.env) Da) xs ρc σ₁ ys σ') (hsz : ys.length ≤ sizeLine)
    (hset : ∀ x, foldedSetIterable iter F.env x = pure x := by intro _; rfl) (hset2 : ∀ env x, foldedSetIterable iter2 env x = pure x := by intro _ _; rfl) :
    Ex prog w B F ρ σ (.Assign [.Name z pz] (.ListComp elt [⟨.Name x px, iter, [], 0⟩, ⟨.Name y py, iter2, ifs2, 0⟩] scope pos) spos) (.next ((z, .list ys) :: ρ) σ') := fun s H => by
  rw [exec_Assign_Name_used _ _ _ _ hsw]
  refine wpAny_bind (wpAny_standAt (wpAny_bind ?_))
  show wpAny _ F.A (do let _ ← comprehension (.ListComp elt [⟨.Name x px, iter, [], 0⟩, ⟨.Name y py, iter2, ifs2, 0⟩] scope pos) scope F.env _ (newList []) false (eval iter F.env) (some (PySem.assign (.Name z pz) F.env))) _ _ s
  refine wpAny_bind (wpAny_mono (comp_main (use := some (PySem.assign (.Name z pz) F.env)) (more := [⟨.Name y py, iter2, ifs2, 0⟩]) (Q := fun _ s' => ∃ h' tk, s' = { s with heap := h', toks := tk } ∧ Ext' F s.heap h' ∧ Holds prog w B F ((z, .list ys) :: ρ) σ' h') (rest := fun env Da => rest2 prog w F.A scope elt (.Name x px) iter [] (.Name y py) iter2 ifs2 pos env Da) H hi hs so.clos so.sub cap so.kind so.names so.cell so.x hρ (fun env I Da s Q E h => turn2_0 hset2 env I Da s Q E h) T hsz (fun Da C h1 tk fC nC e1 H1 r1 nb cd hn => ?_) hset) (fun _ s' ⟨h', tk, e, e2, H'⟩ => wpAny_pure (wpAny_pure ⟨h', tk, e, e2, rfl, H'⟩)) fun _ _ f => f)
  obtain ⟨m, hm⟩ := hn
  show wpAny _ F.A (PySem.assign (.Name z pz) F.env (.ref Da)) _ _ _
  refine PySem.wpAny_assign_Name (store_name (F := F.hid C) (s := { s with heap := h1, toks := tk }) H1 r1 hz fun h2 t2 e2 H2 => ?_)
  refine ⟨m, hm.at' fun o e => e2 C o fC.1 fC.2.1 fC.2.2.1 e, fun h3 hs3 => ⟨h3, t2, rfl, fun b o n1 n2 n3 e => ?_, H2.letGo H.ok fC nC hs3⟩⟩
  exact (hs3.2 b (nb b o n1 e)).trans (e2 b o n1 n2 n3 (e1 b o n1 e))
end
end Mine
namespace Mine
def FnOk (prog : Program) (w : World) (B : BS) (k : Nat) (f : Str) (ds : List D) (d : D) (σ σ' : List (Addr × MO)) : Prop :=
  ∃ a o fd, B.mg f = some (.ref a) ∧ B.hb.get? a = some o ∧ o.data = .func fd ∧
    ∀ (A : Around) (M : List Addr) (s : Shared) (vs : List Value), Room A k → A.handled = none → Sub B.hb (hideAll s.heap M) → (∀ b ∈ M, ∃ o, s.heap.get? b = some o) → sysModules < s.heap.objs.size →
      (∀ a o, σ.lookup a = some o → a ∈ M ∧ o.Is prog w (hideAll s.heap M) s.heap a) → RL prog w (hideAll s.heap M) vs ds →
      wpAny (model prog w) A (call (.ref a) vs) (fun u s' => ∃ h' tk, s' = { s with heap := h', toks := tk } ∧ (∀ b o, b ∉ σ.map (·.1) → s.heap.get? b = some o → h'.get? b = some o) ∧ (∀ b ∈ M, ∃ o, h'.get? b = some o) ∧
        R prog w (hideAll h' M) u d ∧ (∀ a o, σ'.lookup a = some o → o.Is prog w (hideAll h' M) h' a)) nofail s

structure FnIs (B : BS) (name : Str) (params : Arguments) (body : List Stmt) (scope : Scope) : Prop where
  it : ∃ a o pm code doc, B.mg name = some (.ref a) ∧ B.hb.get? a = some o ∧ o.data = .func (Calls.docDef name params body scope pm code doc) ∧ B.hb.CodeRec code name

theorem lookup_of_mem {σ : List (Addr × MO)} {a : Addr} (h : a ∈ σ.map (·.1)) : ∃ o, σ.lookup a = some o := by
  induction σ with
  | nil => simp at h
  | cons p σ ih =>
    obtain ⟨b, o⟩ := p
    by_cases q : a = b
    · subst q; exact ⟨o, by simp⟩
    · have q' : (a == b) = false := by simpa using q
      simp [q] at h
      obtain ⟨o', e⟩ := ih (by simpa using h)
      exact ⟨o', by rw [List.lookup_cons, q']; exact e⟩
theorem mem_of_look {σ : List (Addr × MO)} {a : Addr} {o : MO} (h : σ.lookup a = some o) : a ∈ σ.map (·.1) := by
  induction σ with
  | nil => simp at h
  | cons p σ ih =>
    obtain ⟨b, o'⟩ := p
    by_cases q : a = b
    · subst q; simp
    · have q' : (a == b) = false := by simpa using q
      rw [List.lookup_cons, q'] at h
      simp only [List.map_cons, List.mem_cons]
      exact .inr (ih h)

theorem zip_look {prog : Program} {w : World} {h : Heap} : ∀ {names : List Str} {vs : List Value} {ds : List D}, RL prog w h vs ds → ∀ x d, (names.zip ds).lookup x = some d → ∃ v, (names.zip vs).lookup x = some v ∧ R prog w h v d
  | [], vs, ds, r, x, d, e => by simp at e
  | n :: names, _, [], r, x, d, e => by simp at e
  | n :: names, _, d' :: ds, r, x, d, e => by
    simp only [RL] at r
    obtain ⟨v, q, rfl, r1, r2⟩ := r
    simp only [List.zip_cons_cons, List.lookup_cons] at e ⊢
    by_cases z : x = n
    · subst z; simp at e ⊢; subst e; exact r1
    · have z' : (x == n) = false := by simpa using z
      simp only [z'] at e ⊢
      exact zip_look r2 x d e

theorem bindL_not (K : Str → Option NameKind) : ∀ (bs : List (Str × Value)) (m : Str → Option Value) (x : Str), x ∉ bs.map (·.1) → bindL K bs m x = m x
  | [], m, x, h => rfl
  | (n, v) :: r, m, x, h => by
    simp only [List.map_cons, List.mem_cons, not_or] at h
    simp only [bindL]
    rw [bindL_not K r _ x h.2]
    split
    · simp [h.1]
    · rfl
theorem bindC_not (K : Str → Option NameKind) : ∀ (bs : List (Str × Value)) (m : Str → Option Value) (x : Str), x ∉ bs.map (·.1) → bindC K bs m x = m x
  | [], m, x, h => rfl
  | (n, v) :: r, m, x, h => by
    simp only [List.map_cons, List.mem_cons, not_or] at h
    simp only [bindC]
    rw [bindC_not K r _ x h.2]
    split
    · rfl
    · simp [h.1]
theorem bindL_at (K : Str → Option NameKind) : ∀ (bs : List (Str × Value)) (m : Str → Option Value), (bs.map (·.1)).Nodup → ∀ x v, bs.lookup x = some v → K x = some .local → bindL K bs m x = some v
  | [], m, _, x, v, h, _ => by simp at h
  | (n, u) :: r, m, nd, x, v, h, k => by
    simp only [List.map_cons, List.nodup_cons] at nd
    rw [List.lookup_cons] at h
    by_cases z : x = n
    · subst z
      simp at h; subst h
      simp only [bindL, k, if_true]
      rw [bindL_not K r _ x nd.1]; simp
    · have z' : (x == n) = false := by simpa using z
      rw [z'] at h
      simp only [bindL]
      exact bindL_at K r _ nd.2 x v h k
theorem bindC_at (K : Str → Option NameKind) : ∀ (bs : List (Str × Value)) (m : Str → Option Value), (bs.map (·.1)).Nodup → ∀ x v, bs.lookup x = some v → K x ≠ some .local → bindC K bs m x = some v
  | [], m, _, x, v, h, _ => by simp at h
  | (n, u) :: r, m, nd, x, v, h, k => by
    simp only [List.map_cons, List.nodup_cons] at nd
    rw [List.lookup_cons] at h
    by_cases z : x = n
    · subst z
      simp at h; subst h
      simp only [bindC, if_neg k]
      rw [bindC_not K r _ x nd.1]; simp
    · have z' : (x == n) = false := by simpa using z
      rw [z'] at h
      simp only [bindC]
      exact bindC_at K r _ nd.2 x v h k
theorem zip_mem {names : List Str} {vs : List Value} {x : Str × Value} (h : x ∈ names.zip vs) : x.1 ∈ names := (List.of_mem_zip h).1
theorem map_zip_nodup : ∀ {names : List Str} {vs : List Value}, names.Nodup → ((names.zip vs).map (·.1)).Nodup
  | [], _, _ => by simp
  | n :: names, [], _ => by simp
  | n :: names, v :: vs, nd => by
    simp only [List.zip_cons_cons, List.map_cons, List.nodup_cons] at nd ⊢
    refine ⟨fun h => nd.1 ?_, map_zip_nodup nd.2⟩
    obtain ⟨p, hp, e⟩ := List.mem_map.mp h
    exact e ▸ zip_mem hp

section
variable {prog : Program} {w : World} {B : BS} {F : FC} {ρ ρ' ρ₁ ρ₂ ρc : List (Str × D)} {σ σ' σ₁ σ₂ σ₃ : List (Addr × MO)} {h h' h1 h2 h3 : Heap} {s : Shared} {I C Da : Addr} {scope : Scope} {cl : List (Str × Addr)}

theorem FnOk.of {name : Str} {params : Arguments} {body : List Stmt} {names : List Str} {ds : List D} {d : D} {k : Nat} (fi : FnIs B name params body scope) (nd : names.Nodup)
    (hb : ∀ pm cd doc vs, vs.length = ds.length → bindArgs (Calls.docDef name params body scope pm cd doc) ⟨vs, []⟩ = pure (names.zip vs))
    (hkind : ∀ (L : Nat), ∀ x ∈ names, scope.names.lookup x = some .local ∨ (scope.names.lookup x = some .cell ∧ ((cellsFrom L scope.names []).lookup x).isSome = true))
    (hbody : ∀ L a cd A N M0 g, Room A k → A.handled = none → Exs prog w B ⟨envOfC name scope L a cd, A, σ.map (·.1), N, σ.map (·.1), M0, g⟩ (names.zip ds) σ body (.ret d σ'))
    (hco : scope.isCoroutine = false := by rfl) (hgen : scope.isGenerator = false := by rfl) (hk : scope.kind = .function := by rfl) : FnOk prog w B (k + 1) name ds d σ σ' := by
  obtain ⟨a, o, pm, code, doc, hg, ho, hd, hc⟩ := fi.it
  refine ⟨a, o, _, hg, ho, hd, fun A M s vs hroom hA hsub hex hbig hst hr => ?_⟩
  have hsub0 : Sub B.hb s.heap := fun b o e => of_hideAll _ (hsub b o e)
  have hlen := RL.length hr
  refine wpAny_runValue (call_cells_ret (binds := names.zip vs) (by have := hroom.1; omega) (hsub0 a o ho) hd (B.lim.keeps hsub0) (hc.keeps hsub0) (hb pm code doc vs hlen) (fun x hx => hkind _ x.1 (zip_mem hx)) (fun h1 tk FR X => ?_) hco hgen hk)
  generalize hL : s.heap.objs.size = L at FR X ⊢
  let env := envOfC name scope L a code
  let F : FC := ⟨env, A.deeper env, σ.map (·.1), L :: (env.cells.filterMap (fun p => env.cells.lookup p.1) ++ M), σ.map (·.1), M, s.heap⟩
  have inM : ∀ b ∈ M, b < L := fun b hb => by obtain ⟨o, e⟩ := hex b hb; rw [← hL]; exact Heap.lt_size e
  have inS : ∀ b ∈ σ.map (·.1), b ∈ M := fun b hb => by obtain ⟨o, e⟩ := lookup_of_mem hb; exact (hst b o e).1
  have cellIn : ∀ x c, env.cells.lookup x = some c → L < c := fun x c e => X.above x c (mem_of_lookup e)
  have Mem : ∀ {b}, b ∈ F.M → b < L → b ∈ M := fun {b} hb hlt => by
    rcases List.mem_append.mp hb with q | q
    · exact inS b q
    · rcases List.mem_cons.mp q with q | q
      · exact absurd hlt (by rw [q]; exact Nat.lt_irrefl _)
      · rcases List.mem_append.mp q with q | q
        · obtain ⟨⟨x, c⟩, hc', e⟩ := List.mem_filterMap.mp q
          exact absurd hlt (Nat.not_lt.mpr (Nat.le_of_lt (cellIn x b e)))
        · exact q
  have ok : F.Ok :=
    { locM := List.mem_cons_self
      locS := fun q => absurd (inM _ (inS _ q)) (Nat.lt_irrefl _)
      locG := by show s.heap.objs.size ≤ L; rw [hL]; exact Nat.le_refl _
      cellM := fun x c e => ⟨List.mem_cons_of_mem _ (List.mem_append_left _ (List.mem_filterMap.mpr ⟨(x, c), mem_of_lookup e, e⟩)), fun q => absurd (inM _ (inS _ q)) (Nat.not_lt.mpr (Nat.le_of_lt (cellIn x c e))), by show s.heap.objs.size ≤ c; rw [hL]; exact Nat.le_of_lt (cellIn x c e), Nat.ne_of_gt (cellIn x c e)⟩
      apart := fun x y c e1 e2 => name_of_addr X.apart (mem_of_lookup e1) (mem_of_lookup e2)
      kind := hk
      M0M := fun b hb => List.mem_append_right _ (List.mem_cons_of_mem _ (List.mem_append_right _ hb))
      M0g := fun b hb => by show b < s.heap.objs.size; rw [hL]; exact inM b hb
      glob := rfl
      blt := rfl
      hand := hA
      un := by have := hroom.2; show A.units + 3 + 300 < cLine; omega
      big := hbig }
  have hh : Sub (hideAll s.heap M) (hideAll h1 F.M) := hide_mono (fun b o n e => FR.keep b o e) fun b hb ⟨o, e⟩ => Mem hb (by rw [← hL]; exact Heap.lt_size e)
  have H : Holds prog w B F (names.zip ds) σ h1 := by
    refine ⟨ok, hsub.trans hh, fun b o n e => FR.keep b o e, fun b hb => ?_, ⟨_, FR.ns, fun x d' e => ?_⟩, fun x c e => ⟨_, X.cell x c e⟩, fun b o e => ⟨mem_of_look e, .inl (mem_of_look e)⟩, fun b o e => (hst b o e).2.mono hh fun q hq => FR.keep b q hq⟩
    · rcases List.mem_append.mp hb with q | q
      · obtain ⟨o, e⟩ := hex b (inS b q); exact ⟨o, FR.keep b o e⟩
      · rcases List.mem_cons.mp q with q | q
        · subst q; obtain ⟨o, _, _, e, _⟩ := FR.ns; exact ⟨o, e⟩
        · rcases List.mem_append.mp q with q | q
          · obtain ⟨⟨x, c⟩, hc', e⟩ := List.mem_filterMap.mp q
            obtain ⟨o, e2, _⟩ := X.cell x b e
            exact ⟨o, e2⟩
          · obtain ⟨o, e⟩ := hex b q; exact ⟨o, FR.keep b o e⟩
    · obtain ⟨v, e1, r1⟩ := zip_look hr x d' e
      have hxn : x ∈ names := by
        have := mem_of_lookup e1
        exact zip_mem this
      refine ⟨v, R.mono hh r1, ?_⟩
      rcases hkind (L + 1) x hxn with q | ⟨q1, q2⟩
      · exact .inl ⟨q, bindL_at _ _ _ (map_zip_nodup nd) x v e1 q⟩
      · obtain ⟨c, hc'⟩ := Option.isSome_iff_exists.mp q2
        refine .inr ⟨q1, c, hc', ?_⟩
        have := X.cell x c hc'
        rw [bindC_at _ _ _ (map_zip_nodup nd) x v e1 (by rw [show (envOfC name scope L a code).kindOf x = some .cell from q1]; simp)] at this
        exact this
  refine wpAny_mono (hbody L a code (A.deeper env) (L :: (env.cells.filterMap (fun p => env.cells.lookup p.1) ++ M)) M s.heap ⟨by have := hroom.1; show A.depth + 1 + k < _; omega, by have := hroom.2; show A.units + 3 + 8 * k + 300 < _; omega⟩ hA { s with heap := h1, toks := tk } H) (fun fl s' ⟨h', tk', e, _, o⟩ => ?_) fun _ _ f => f
  subst e
  obtain ⟨v, rfl, hv, H'⟩ := o
  refine ⟨h', tk', rfl, fun b o n e => H'.keep b o n e, fun b hb => H'.ex b (ok.M0M b hb), hv, fun b o e => (H'.store b o e).mono (hide_mono (fun b o n e => e) fun b hb _ => ok.M0M b hb) fun q z => z⟩

/-- a call of one of the text's functions, all arguments plain data -/
theorem Ev.callF {f : Str} {px pos : Pos} {es : List Expr} {ds : List D} {d : D} {k : Nat} (fo : FnOk prog w B k f ds d [] []) (y : Evs prog w B F ρ σ es ds σ') (hk : F.env.kindOf f = some .globalImplicit) (hr : Room F.A k) (h0 : es ≠ [] := by simp)
    (hd : (f == ("__debug__" : Str)) = false := by decide) : Ev prog w B F ρ σ (.Call (.Name f px) es [] pos) d σ' := fun s H => by
  obtain ⟨a, o, fd, hg, ho, hdat, go⟩ := fo
  show wpAny (model prog w) F.A (do let fv ← eval (.Name f px) F.env; callWith pos fv [] (backTo pos (starEach es F.env)) (backToKw pos (keywordEach [] F.env))) _ _ _
  refine wpAny_bind (Calls.Name_function_global H.ok.kind hk (Calls.loadGlobal_global H.ns hg ?_) hd)
  refine Calls.callWith_function (fd := fd) (o := o) (evalArgs_of y.1 h0 (y.use H fun vs h1 t1 e1 H1 r1 => ⟨⟨of_hideAll _ (H1.sub a o ho), hdat⟩, ?_⟩))
  have big : sysModules < h1.objs.size := Nat.lt_of_lt_of_le H1.ok.big (Nat.le_trans H1.ok.locG (Nat.le_of_lt (H1.lt (FC.inN H1.ok.locM))))
  refine wpAny_mono (go F.A F.M { s with heap := h1, toks := t1 } vs hr H1.ok.hand H1.sub H1.ex big (fun a o e => by simp at e) r1) (fun u s' ⟨h2, t2, e, ex, ex2, ru, _⟩ => ?_) fun _ _ f => f
  subst e
  have hs : Sub h1 h2 := fun b o e => ex b o (by simp) e
  exact ⟨h2, t2, rfl, e1.trans (Ext.of_sub hs), H1.grow hs, ru⟩

/-- the store with one entry changed -/
inductive Put (a : Addr) (mo mo' : MO) : List (Addr × MO) → List (Addr × MO) → Prop
  | head {σ : List (Addr × MO)} : Put a mo mo' ((a, mo) :: σ) ((a, mo') :: σ)
  | tail {b : Addr} {o : MO} {σ σ' : List (Addr × MO)} : b ≠ a → Put a mo mo' σ σ' → Put a mo mo' ((b, o) :: σ) ((b, o) :: σ')
theorem Put.look {a : Addr} {mo mo' : MO} (p : Put a mo mo' σ σ') : σ.lookup a = some mo := by
  induction p with
  | head => simp
  | @tail b o σ σ' n p ih =>
    have n' : (a == b) = false := by simpa using Ne.symm n
    rw [List.lookup_cons, n']; exact ih
theorem Put.of {a : Addr} {mo mo' : MO} (p : Put a mo mo' σ σ') : ∀ b o, σ'.lookup b = some o → (b = a ∧ o = mo') ∨ (b ≠ a ∧ σ.lookup b = some o) := by
  induction p with
  | @head σ =>
    intro b o e
    by_cases q : b = a
    · subst q; simp at e; exact .inl ⟨rfl, e.symm⟩
    · have q' : (b == a) = false := by simpa using q
      rw [List.lookup_cons, q'] at e
      exact .inr ⟨q, by rw [List.lookup_cons, q']; exact e⟩
  | @tail b o σ σ' n p ih =>
    intro c o' e
    by_cases q : c = b
    · subst q; simp at e; subst e; exact .inr ⟨n, by simp⟩
    · have q' : (c == b) = false := by simpa using q
      rw [List.lookup_cons, q'] at e
      rcases ih c o' e with ⟨x, y⟩ | ⟨x, y⟩
      · exact .inl ⟨x, y⟩
      · exact .inr ⟨x, by rw [List.lookup_cons, q']; exact y⟩

/-- an object of the store is written -/
theorem Holds.mut {a : Addr} {mo mo' : MO} (H : Holds prog w B F ρ σ h) (p : Put a mo mo' σ σ') (hx : ∀ b o, b ≠ a → h.get? b = some o → h'.get? b = some o) (hex : ∃ o, h'.get? a = some o) (hn : mo'.Is prog w (hideAll h' F.M) h' a) :
    Holds prog w B F ρ σ' h' ∧ Ext F h h' := by
  obtain ⟨s1, s2⟩ := H.stIn a mo p.look
  obtain ⟨h1, h2, h3, h4⟩ := H.write (FC.inM s1) s2 hx hex
  have nl : F.env.locals ≠ a := fun q => H.ok.locS (q ▸ s1)
  have hcell : ∀ y c u, F.env.cells.lookup y = some c → h.IsCell c u → h'.IsCell c u := fun y c u e ⟨o, ho, q⟩ => ⟨o, hx c o (fun z => (H.ok.cellM y c e).2.1 (z ▸ s1)) ho, q⟩
  obtain ⟨m, hm, hv⟩ := H.vars
  refine ⟨⟨H.ok, h2, h3, h4, ⟨m, hm.at' fun o e => hx _ o nl e, fun x d e => ?_⟩, fun y c e => let ⟨u, hu⟩ := H.cells y c e; ⟨u, hcell y c u e hu⟩, fun b o e => ?_, fun b o e => ?_⟩, fun b o n e => hx b o (fun q => n (q ▸ s1)) e⟩
  · obtain ⟨u, hu, r⟩ := hv x d e
    exact ⟨u, R.mono h1 hu, r.imp id fun ⟨k, c, z, hc⟩ => ⟨k, c, z, hcell x c _ z hc⟩⟩
  · rcases p.of b o e with ⟨rfl, _⟩ | ⟨_, e'⟩
    · exact ⟨s1, s2⟩
    · exact H.stIn b o e'
  · rcases p.of b o e with ⟨rfl, rfl⟩ | ⟨n, e'⟩
    · exact hn
    · exact (H.store b o e').mono h1 fun q hq => hx b q n hq

theorem Put.sub {a : Addr} {mo mo' : MO} (p : Put a mo mo' σ σ') (H : Holds prog w B F ρ σ h) (hx : ∀ b o, b ≠ a → h.get? b = some o → h'.get? b = some o) : Sub (hideAll h F.M) (hideAll h' F.M) :=
  hide_mono (fun b o n e => hx b o (fun q => n (q ▸ FC.inM (H.stIn a mo p.look).1)) e) fun b hb _ => hb

/-- .. one argument a mutable object -/
theorem Ev.callW {f : Str} {px pos : Pos} {es : List Expr} {ds : List D} {d : D} {k : Nat} {a : Addr} {mo mo' : MO} (fo : FnOk prog w B k f ds d [(a, mo)] [(a, mo')]) (y : Evs prog w B F ρ σ es ds σ₁) (p : Put a mo mo' σ₁ σ') (hk : F.env.kindOf f = some .globalImplicit) (hr : Room F.A k) (h0 : es ≠ [] := by simp)
    (hd : (f == ("__debug__" : Str)) = false := by decide) : Ev prog w B F ρ σ (.Call (.Name f px) es [] pos) d σ' := fun s H => by
  obtain ⟨a', o, fd, hg, ho, hdat, go⟩ := fo
  show wpAny (model prog w) F.A (do let fv ← eval (.Name f px) F.env; callWith pos fv [] (backTo pos (starEach es F.env)) (backToKw pos (keywordEach [] F.env))) _ _ _
  refine wpAny_bind (Calls.Name_function_global H.ok.kind hk (Calls.loadGlobal_global H.ns hg ?_) hd)
  refine Calls.callWith_function (fd := fd) (o := o) (evalArgs_of y.1 h0 (y.use H fun vs h1 t1 e1 H1 r1 => ⟨⟨of_hideAll _ (H1.sub a' o ho), hdat⟩, ?_⟩))
  have big : sysModules < h1.objs.size := Nat.lt_of_lt_of_le H1.ok.big (Nat.le_trans H1.ok.locG (Nat.le_of_lt (H1.lt (FC.inN H1.ok.locM))))
  have sIn := H1.stIn a mo p.look
  refine wpAny_mono (go F.A F.M { s with heap := h1, toks := t1 } vs hr H1.ok.hand H1.sub H1.ex big (fun b o e => ?_) r1) (fun u s' ⟨h2, t2, e, ex, ex2, ru, hn⟩ => ?_) fun _ _ f => f
  · by_cases q : b = a
    · subst q; simp at e; subst e; exact ⟨FC.inM sIn.1, H1.store b _ p.look⟩
    · have q' : (b == a) = false := by simpa using q
      simp [List.lookup_cons, q'] at e
  · subst e
    have hx : ∀ b o, b ≠ a → h1.get? b = some o → h2.get? b = some o := fun b o n e => ex b o (by simpa using n) e
    obtain ⟨H2, e2⟩ := H1.mut p hx (ex2 a (FC.inM sIn.1)) (hn a mo' (by simp))
    exact ⟨h2, t2, rfl, e1.trans e2, H2, ru⟩
end
end Mine
namespace Mine
/-- one mutable object more -/
def FC.own (F : FC) (a : Addr) : FC := { F with S := a :: F.S }
section
variable {prog : Program} {w : World} {B : BS} {F : FC} {ρ ρ' ρ₁ ρ₂ ρc : List (Str × D)} {σ σ' σ₁ σ₂ σ₃ : List (Addr × MO)} {h h' h1 h2 h3 : Heap} {s : Shared} {a : Addr}
theorem mem_own {b : Addr} : b ∈ (F.own a).M ↔ b = a ∨ b ∈ F.M := by
  simp only [FC.M, FC.own, List.cons_append, List.mem_cons]
theorem FC.Ok.own (ok : F.Ok) (fr : Free F a) : (F.own a).Ok where
  locM := ok.locM
  locS := fun q => by
    rcases List.mem_cons.mp q with q | q
    · exact fr.2.1 q.symm
    · exact ok.locS q
  locG := ok.locG
  cellM := fun x c e => let ⟨p, q, r, t⟩ := ok.cellM x c e; ⟨p, fun z => by
    rcases List.mem_cons.mp z with z | z
    · exact fr.2.2.1 x (z ▸ e)
    · exact q z, r, t⟩
  apart := ok.apart
  kind := ok.kind
  M0M := fun b hb => mem_own.mpr (.inr (ok.M0M b hb))
  M0g := ok.M0g
  glob := ok.glob
  blt := ok.blt
  hand := ok.hand
  un := ok.un
  big := ok.big

theorem Holds.own {mo : MO} (H : Holds prog w B F ρ σ h) (hs : Sub h h') (ha : h.objs.size ≤ a) (hex : ∃ o, h'.get? a = some o) (hm : mo.Is prog w (hideAll h' (F.own a).M) h' a) : Holds prog w B (F.own a) ρ ((a, mo) :: σ) h' := by
  have hh : Sub (hideAll h F.M) (hideAll h' (F.own a).M) := hide_mono (fun b o n e => hs b o e) fun b hb ⟨o, e⟩ => (mem_own.mp hb).resolve_left fun q => absurd (Heap.lt_size e) (Nat.not_lt.mpr (q ▸ ha))
  have fr := H.free ha
  obtain ⟨m, hn, hv⟩ := H.vars
  refine ⟨H.ok.own fr, H.sub.trans hh, fun b o n e => hs _ _ (H.keep b o n e), fun b hb => by
      rcases mem_own.mp hb with q | q
      · subst q; exact hex
      · obtain ⟨o, e⟩ := H.ex b q; exact ⟨o, hs _ _ e⟩,
    ⟨m, hn.keeps hs, fun x d e => (hv x d e).mono hh fun _ _ c => isCell_sub c hs⟩, fun x c e => let ⟨v, hv⟩ := H.cells x c e; ⟨v, isCell_sub hv hs⟩, fun b o e => ?_, fun b o e => ?_⟩
  · by_cases q : b = a
    · subst q; exact ⟨List.mem_cons_self, .inr fr.2.2.2⟩
    · have q' : (b == a) = false := by simpa using q
      rw [List.lookup_cons, q'] at e
      exact ⟨List.mem_cons_of_mem _ (H.stIn b o e).1, (H.stIn b o e).2⟩
  · by_cases q : b = a
    · subst q; simp at e; subst e; exact hm
    · have q' : (b == a) = false := by simpa using q
      rw [List.lookup_cons, q'] at e
      exact (H.store b o e).mono hh fun q => hs _ q
theorem Holds.disown (H : Holds prog w B (F.own a) ρ σ h) (ok : F.Ok) : Holds prog w B F [] [] h := by
  have hh : Sub (hideAll h (F.own a).M) (hideAll h F.M) := hide_mono (fun b o n e => e) fun b hb _ => mem_own.mpr (.inr hb)
  obtain ⟨m, hn, hv⟩ := H.vars
  exact ⟨ok, H.sub.trans hh, H.keep, fun b hb => H.ex b (mem_own.mpr (.inr hb)), ⟨m, hn, fun x d e => by simp at e⟩, H.cells, fun b o e => by simp at e, fun b o e => by simp at e⟩

/-- an expression that makes a fresh mutable object -/
def EvNew (prog : Program) (w : World) (B : BS) (F : FC) (ρ : List (Str × D)) (σ : List (Addr × MO)) (e : Expr) (mo : MO) (σ' : List (Addr × MO)) : Prop :=
  ∀ s : Shared, Holds prog w B F ρ σ s.heap → wpAny (model prog w) F.A (eval e F.env) (fun v s' => ∃ h' tk a, s' = { s with heap := h', toks := tk } ∧ v = .ref a ∧ Ext F s.heap h' ∧ (∀ b ∈ F.M, b ≠ a) ∧ (∀ b o, b ∉ F.S → s.heap.get? b = some o → b ≠ a) ∧ Holds prog w B (F.own a) ρ ((a, mo) :: σ') h') nofail s

theorem EvNew.list {es : List Expr} {ds : List D} {pos : Pos} (y : Evs prog w B F ρ σ es ds σ') (hsz : ds.length ≤ sizeLine) : EvNew prog w B F ρ σ (.List es pos) (.list ds) σ' := fun s H =>
  wpAny_List (y.use H fun vs h1 t1 e1 H1 r1 => ⟨by rw [RL.length r1]; exact hsz, _, t1, h1.objs.size, rfl, rfl, e1.trans (Ext.of_sub (sub_push _ _)), fun b hb => Nat.ne_of_lt (H1.lt hb), fun b o n e => Nat.ne_of_lt (Heap.lt_size (e1 b o n e)),
    H1.own (sub_push _ _) (Nat.le_refl _) ⟨_, Heap.get?_push_size _ rfl⟩ ⟨vs.toArray, 0, Heap.get?_push_size _ rfl, by
      have hh : Sub (hideAll h1 F.M) (hideAll (h1.push { cls := .type "list", data := .seq vs.toArray }) (F.own h1.objs.size).M) := hide_mono (fun b o n e => sub_push _ _ b o e) fun b hb ⟨o, e⟩ => (mem_own.mp hb).resolve_left fun q => absurd (Heap.lt_size e) (by rw [q]; exact Nat.lt_irrefl _)
      simpa using RL.mono hh r1⟩⟩)
theorem EvNew.ifT {t b o : Expr} {pos : Pos} {mo : MO} (x : Tst prog w B F ρ σ t true σ₁) (y : EvNew prog w B F ρ σ₁ b mo σ₂) : EvNew prog w B F ρ σ (.IfExp t b o pos) mo σ₂ := fun s H =>
  wpAny_IfExp (x.use H fun h1 t1 e1 H1 => by
    rw [if_pos rfl]
    exact wpAny_mono (y { s with heap := h1, toks := t1 } H1) (fun v s' ⟨h2, t2, a, e, ev, e2, n, n2, H2⟩ => ⟨h2, t2, a, e, ev, e1.trans e2, n, fun b o hb hbo => n2 b o hb (e1 b o hb hbo), H2⟩) fun _ _ f => f)
theorem EvNew.ifF {t b o : Expr} {pos : Pos} {mo : MO} (x : Tst prog w B F ρ σ t false σ₁) (y : EvNew prog w B F ρ σ₁ o mo σ₂) : EvNew prog w B F ρ σ (.IfExp t b o pos) mo σ₂ := fun s H =>
  wpAny_IfExp (x.use H fun h1 t1 e1 H1 => by
    rw [if_neg (by decide)]
    exact wpAny_mono (y { s with heap := h1, toks := t1 } H1) (fun v s' ⟨h2, t2, a, e, ev, e2, n, n2, H2⟩ => ⟨h2, t2, a, e, ev, e1.trans e2, n, fun b o hb hbo => n2 b o hb (e1 b o hb hbo), H2⟩) fun _ _ f => f)

/-- x = a fresh mutable object; the rest ends in a return -/
theorem Exs.own {x : Str} {e : Expr} {p pos : Pos} {mo : MO} {rest : List Stmt} {d : D} {σ' : Addr → List (Addr × MO)} (y : EvNew prog w B F ρ σ e mo σ₁) (hk : Stb F x)
    (k : ∀ a, (∀ b ∈ F.M, b ≠ a) → Exs prog w B (F.own a) ((x, .loc a) :: ρ) ((a, mo) :: σ₁) rest (.ret d (σ' a))) (hs : swapsWith e (some (.Name x p)) pos.line F.env = pure false := by rfl) :
    Exs prog w B F ρ σ (.Assign [.Name x p] e pos :: rest) (.ret d []) := fun s H =>
  wpAny_execs_cons (wpAny_Assign_Name (wpAny_mono (y s H) (fun v s1 ⟨h1, t1, a, e1, ev, x1, n1, n2, H1⟩ => by
    subst e1 ev
    refine store_name (F := F.own a) (s := { s with heap := h1, toks := t1 }) H1 R.loc hk fun h2 t2 e2 H2 => ?_
    refine wpAny_mono (k a n1 { s with heap := h2, toks := t2 } H2) (fun fl s3 ⟨h3, t3, e3, x3, o3⟩ => ?_) fun _ _ f => f
    obtain ⟨v, q1, q2, q3⟩ := o3
    refine ⟨h3, t3, e3, fun b o m1 m2 m3 hb => ?_, v, q1, q2, q3.disown H.ok⟩
    have m1' : b ∉ (F.own a).S := fun z => by
      rcases List.mem_cons.mp z with z | z
      · exact n2 b o m1 hb z
      · exact m1 z
    exact x3 b o m1' m2 m3 (e2 b o m1' m2 m3 (x1 b o m1 hb))) fun _ _ f => f) hs)

/-! ### reading and writing a mutable list -/
inductive LSeq (σ : List (Addr × MO)) : D → List D → Prop
  | fr {xs : List D} : LSeq σ (.list xs) xs
  | lo {a : Addr} {xs : List D} : σ.lookup a = some (.list xs) → LSeq σ (.loc a) xs
theorem LSeq.get {d : D} {xs : List D} {v : Value} (q : LSeq σ d xs) (H : Holds prog w B F ρ σ h) (r : R prog w (hideAll h F.M) v d) : ∃ a vs n, v = .ref a ∧ IsL h a vs n ∧ RL prog w (hideAll h F.M) vs.toList xs := by
  cases q with
  | fr =>
    simp only [R] at r
    obtain ⟨a, vs, n, rfl, hl, hr⟩ := r
    exact ⟨a, vs, n, rfl, of_hideAll _ hl, hr⟩
  | @lo a xs e =>
    simp only [R] at r
    subst r
    obtain ⟨vs, n, hl, hr⟩ := H.store a _ e
    exact ⟨a, vs, n, rfl, hl, hr⟩
section
variable {x : Str} {px pos apos : Pos} {e e1 : Expr} {xs ys : List D} {d : D}
theorem Ev.tupOfX (y : Ev prog w B F ρ σ e d σ') (q : LSeq σ' d xs) (hsz : xs.length ≤ sizeLine) (hk : F.env.kindOf "tuple" = some .globalImplicit) (hs : noStar e = true := by rfl) : Ev prog w B F ρ σ (.Call (.Name "tuple" px) [e] [] pos) (.tup xs) σ' :=
  Ev.callB hk (by decide) boot_tuple (.ty _) (Evs.cons y Evs.nil hs) (by simp) fun s vs H r => by
    simp only [RL] at r
    obtain ⟨v, _, rfl, r1, rfl⟩ := r
    obtain ⟨a, ws, n, rfl, ht, hr⟩ := q.get H r1
    have e := sizeOf_RL hr
    refine call_tuple_list (items := ws) ⟨_, ht, rfl, _, rfl⟩ (fun h' hk' => ?_) (by omega)
    have p := Post.newTup (s := { s with heap := h' }) (vs := ws.toList) (tk := s.toks) (H.grow hk') (RL.mono (Ext.of_sub (F := F) hk').hide hr)
    exact Post.after (tk := s.toks) (Ext.of_sub hk') (by simpa using p)
theorem Ev.itemX {l r : Expr} {k : Nat} {dl : D} (x : Ev prog w B F ρ σ l dl σ₁) (y : Ev prog w B F ρ σ₁ r (.int k) σ₂) (q : LSeq σ₂ dl xs) (hd : xs[k]? = some d) (hk : (k : Int) < 2 ^ 63) (hn : noSlice r = true := by rfl) : Ev prog w B F ρ σ (.Subscript l r pos) d σ₂ := fun s H =>
  Subscript_ (x.use H fun va h1 t1 e1 H1 r1 => y.use (s := { s with heap := h1, toks := t1 }) H1 fun vb h2 t2 e2 H2 r2 => by
    obtain ⟨a, vs, n, rfl, ht, hr⟩ := q.get H2 (R.mono (Ext.hide e2) r1)
    simp only [R] at r2
    obtain ⟨t, rfl⟩ := r2
    obtain ⟨v, hv, rv⟩ := RL.get hr hd
    refine subTail (M := model prog w) (T := "list") ⟨_, ht, rfl⟩ slot_list_getitem.lookup (wpAny_getItem_list (items := vs) ⟨_, ht, rfl, _, rfl⟩ (by omega) hk (by simpa using hv) ?_) (.inl (subscripted_plain hn))
    exact ⟨h2, t2, rfl, e1.trans e2, H2, rv⟩)

theorem RL.set {H : Heap} {u : Value} {d : D} : ∀ {ds : List D} {vs : List Value} {k : Nat}, RL prog w H vs ds → R prog w H u d → RL prog w H (vs.set k u) (ds.set k d)
  | [], _, k, r, _ => by simp only [RL] at r; subst r; simp [RL]
  | d' :: ds, _, k, r, x => by
    simp only [RL] at r
    obtain ⟨v, q, rfl, r1, r2⟩ := r
    cases k with
    | zero => exact RL.cons x r2
    | succ k => exact RL.cons r1 (RL.set r2 x)
theorem wrote_list {a : Addr} {its its' : Array Value} {n : Nat} {f : Array Value → Array Value} (hl : IsL h a its n) (hf : f its = its') : ∃ n', IsL (h.update a (Obj.mapSeq f)) a its' n' := by
  subst hf
  exact ⟨_, Heap.get?_update_self _ hl rfl⟩
theorem Ev.append {a : Addr} (y : ρ.lookup x = some (.loc a)) (z : Ev prog w B F ρ σ e d σ) (p : Put a (.list xs) (.list (xs ++ [d])) σ σ') (hsz : xs.length ≤ sizeLine)
    (hbase : attributeBase (.Name x px) "append" F.env (eval (.Name x px) F.env) = eval (.Name x px) F.env := by rfl) (hline : (apos.endLine == pos.line) = true := by rfl) (hs : noStar e = true := by rfl) (hd : (x == ("__debug__" : Str)) = false := by decide) :
    Ev prog w B F ρ σ (.Call (.Attribute (.Name x px) "append" apos) [e] [] pos) .none σ' := fun s H => by
  refine Call_method1 hbase (starEach_cons hs) hline ((Ev.name y hd).use H fun v h1 t1 e1 H1 r1 => ?_)
  simp only [R] at r1
  subst r1
  obtain ⟨vs1, n1, hl1, hr1⟩ := H1.store a _ p.look
  refine ⟨"list", "list.append", PySem.F.plainAttrs_list, PySem.F.slot_list_append, PySem.F.type_list_append, ⟨_, hl1, rfl⟩, fun a' e => by cases e; exact ⟨_, hl1, rfl⟩, ?_⟩
  refine P.append_list (z.use (s := { s with heap := h1, toks := t1 }) H1 fun v h2 t2 e2 H2 r2 => ?_)
  obtain ⟨vs2, n2, hl2, hr2⟩ := H2.store a _ p.look
  have hsz2 := sizeOf_RL hr2
  refine ⟨vs2, n2, by omega, hl2, ?_⟩
  have hx : ∀ b o, b ≠ a → h2.get? b = some o → (h2.update a (Obj.mapSeq fun xs => xs.push v)).get? b = some o := fun b o n e => ((Heap.SameBut.update ..).2 b n).trans e
  obtain ⟨n3, hl3⟩ := wrote_list (f := fun xs => xs.push v) hl2 rfl
  have m3 := p.sub H2 hx
  obtain ⟨H3, x3⟩ := H2.mut p hx ⟨_, hl3⟩ ⟨_, n3, hl3, by simpa using RL.append (RL.one (R.mono m3 r2)) (RL.mono m3 hr2)⟩
  exact ⟨_, t2, rfl, e1.trans (e2.trans x3), H3, R.none⟩
theorem Ev.extend {a : Addr} {T : Bool} (y : ρ.lookup x = some (.loc a)) (z : Ev prog w B F ρ σ e (if T then .tup ys else .list ys) σ) (p : Put a (.list xs) (.list (xs ++ ys)) σ σ') (hsz : xs.length + ys.length ≤ sizeLine)
    (hbase : attributeBase (.Name x px) "extend" F.env (eval (.Name x px) F.env) = eval (.Name x px) F.env := by rfl) (hline : (apos.endLine == pos.line) = true := by rfl) (hs : noStar e = true := by rfl) (hd : (x == ("__debug__" : Str)) = false := by decide) :
    Ev prog w B F ρ σ (.Call (.Attribute (.Name x px) "extend" apos) [e] [] pos) .none σ' := fun s H => by
  refine Call_method1 hbase (starEach_cons hs) hline ((Ev.name y hd).use H fun v h1 t1 e1 H1 r1 => ?_)
  simp only [R] at r1
  subst r1
  obtain ⟨vs1, n1, hl1, hr1⟩ := H1.store a _ p.look
  refine ⟨"list", "list.extend", PySem.F.plainAttrs_list, PySem.F.slot_list_extend, PySem.F.type_list_extend, ⟨_, hl1, rfl⟩, fun a' e => by cases e; exact ⟨_, hl1, rfl⟩, ?_⟩
  refine seqMethod1_meets PySem.F.slot_list_extend PySem.F.entry_list_extend (z.use (s := { s with heap := h1, toks := t1 }) H1 fun v h2 t2 e2 H2 r2 => ?_)
  obtain ⟨vs2, n2, hl2, hr2⟩ := H2.store a _ p.look
  have hsz2 := sizeOf_RL hr2
  have key : ∀ (b : Addr) (its2 : Array Value), RL prog w (hideAll h2 F.M) its2.toList ys → Post prog w B F ρ σ' .none s .none { s with heap := h2.update a (Obj.mapSeq fun x => x ++ its2), toks := t2 } := fun b its2 hr => by
    have hx : ∀ b o, b ≠ a → h2.get? b = some o → (h2.update a (Obj.mapSeq fun x => x ++ its2)).get? b = some o := fun b o n e => ((Heap.SameBut.update ..).2 b n).trans e
    obtain ⟨n3, hl3⟩ := wrote_list (f := fun x => x ++ its2) hl2 rfl
    have m3 := p.sub H2 hx
    obtain ⟨H3, x3⟩ := H2.mut p hx ⟨_, hl3⟩ ⟨_, n3, hl3, by simpa using RL.append (RL.mono m3 hr) (RL.mono m3 hr2)⟩
    exact ⟨_, t2, rfl, e1.trans (e2.trans x3), H3, R.none⟩
  cases T with
  | true =>
    simp only [if_true, R] at r2
    obtain ⟨b, its2, nb, rfl, hb, hrb⟩ := r2
    have hszb := sizeOf_RL hrb
    exact ⟨⟨_, hl2, rfl⟩, PySem.F.args_list_extend_2 _ _, _, AutoSeq1.list_extend_list_tuple_0 a vs2 n2 b its2 nb (extend_door (by omega)) (by omega) (by omega), hl2, of_hideAll _ hb, key b its2 hrb⟩
  | false =>
    simp only [Bool.false_eq_true, if_false, R] at r2
    obtain ⟨b, its2, nb, rfl, hb, hrb⟩ := r2
    have hszb := sizeOf_RL hrb
    exact ⟨⟨_, hl2, rfl⟩, PySem.F.args_list_extend_2 _ _, _, AutoSeq1.list_extend_list_list_0 a vs2 n2 b its2 nb (extend_door (by omega)) (by omega) (by omega), hl2, of_hideAll _ hb, key b its2 hrb⟩

/-- x[k] = e on a mutable list -/
theorem Ex.setX {a : Addr} {i value : Expr} {spos : Pos} {k : Nat} (hv : Ev prog w B F ρ σ value d σ) (y : ρ.lookup x = some (.loc a)) (z : Ev prog w B F ρ σ i (.int k) σ) (p : Put a (.list xs) (.list (xs.set k d)) σ σ') (hk : k < xs.length) (hf : (k : Int) < 2 ^ 63)
    (hs : swapsWith value (some (.Subscript (.Name x px) i spos)) pos.line F.env = pure false := by rfl) (hd : (x == ("__debug__" : Str)) = false := by decide) : Ex prog w B F ρ σ (.Assign [.Subscript (.Name x px) i spos] value pos) (.next ρ σ') := fun s H =>
  wpAny_Assign_Subscript (hv.use H fun v h1 t1 e1 H1 r1 => (Ev.name y hd).use (s := { s with heap := h1, toks := t1 }) H1 fun vo h2 t2 e2 H2 r2 => z.use (s := { s with heap := h2, toks := t2 }) H2 fun vi h3 t3 e3 H3 r3 => by
    simp only [R] at r2 r3
    subst r2
    obtain ⟨t, rfl⟩ := r3
    obtain ⟨vs, n, hl, hr⟩ := H3.store a _ p.look
    have hsz := sizeOf_RL hr
    have hx : ∀ b o, b ≠ a → h3.get? b = some o → (h3.update a (Obj.mapSeq (·.setIfInBounds ((k : Nat) : Int).toNat v))).get? b = some o := fun b o n e => ((Heap.SameBut.update ..).2 b n).trans e
    obtain ⟨n3, hl3⟩ := wrote_list (f := (·.setIfInBounds ((k : Nat) : Int).toNat v)) hl rfl
    have m3 := p.sub H3 hx
    have hrv := R.mono ((e2.hide.trans e3.hide).trans m3) r1
    obtain ⟨H4, x4⟩ := H3.mut p hx ⟨_, hl3⟩ ⟨_, n3, hl3, by
      have := RL.set (k := k) (RL.mono m3 hr) hrv
      simpa using this⟩
    exact ki_setAt (n := n) hl (by omega) hf (by omega) ⟨_, t3, rfl, (e1.trans (e2.trans (e3.trans x4))).ext', rfl, H4⟩) hs
end
end
end Mine
namespace Mine
section
variable {prog : Program} {w : World} {B : BS} {F : FC} {ρ ρ' ρ₁ ρ₂ ρc : List (Str × D)} {σ σ' σ₁ σ₂ σ₃ : List (Addr × MO)} {h h' h1 h2 h3 : Heap} {s : Shared} {a : Addr}
variable {x : Str} {px pos apos : Pos} {e e1 : Expr} {ks : List Int} {d : D}

/-! ### dicts of ints -/
inductive ISeq (σ : List (Addr × MO)) : D → List Int → Prop
  | fr {ks : List Int} : ISeq σ (.idict ks) ks
  | lo {a : Addr} {ks : List Int} : σ.lookup a = some (.idict ks) → ISeq σ (.loc a) ks
theorem ISeq.get {v : Value} (q : ISeq σ d ks) (H : Holds prog w B F ρ σ h) (r : R prog w (hideAll h F.M) v d) : ∃ a, v = .ref a ∧ (a == sysModules) = false ∧ h.DictOf (intKind prog w) a (ks.map fun k => (k, Value.bool true)) := by
  cases q with
  | fr =>
    simp only [R] at r
    obtain ⟨a, rfl, hy, hd⟩ := r
    exact ⟨a, rfl, hy, dictOf_sub hd fun o e => of_hideAll _ e⟩
  | @lo a ks e =>
    simp only [R] at r
    subst r
    obtain ⟨hy, hd⟩ := H.store a _ e
    exact ⟨a, rfl, hy, hd⟩
theorem Ev.lenI (y : Ev prog w B F ρ σ e d σ') (q : ISeq σ' d ks) (hsz : ks.length ≤ sizeLine) (hk : F.env.kindOf "len" = some .globalImplicit) (hs : noStar e = true := by rfl) : Ev prog w B F ρ σ (.Call (.Name "len" px) [e] [] pos) (.int ks.length) σ' :=
  Ev.callB hk (by decide) boot_len (.fn _) (Evs.cons y Evs.nil hs) (by simp) fun s vs H r => by
    simp only [RL] at r
    obtain ⟨v, _, rfl, r1, rfl⟩ := r
    obtain ⟨a, rfl, hy, hd⟩ := q.get H r1
    have hl : (ks.map fun k => (k, Value.bool true)).length = ks.length := by simp
    refine call_len_dict hy hd (by rw [hl]; exact sz63 hsz) ?_
    rw [hl]
    exact Post.here H R.int
theorem Ev.sortedI (y : Ev prog w B F ρ σ e d σ') (q : ISeq σ' d ks) (h64 : ks.length < 64) (hk : F.env.kindOf "sorted" = some .globalImplicit) (hs : noStar e = true := by rfl) : Ev prog w B F ρ σ (.Call (.Name "sorted" px) [e] [] pos) (.list (I (ks.mergeSort fun a b => decide (a ≤ b)))) σ' :=
  Ev.callB hk (by decide) boot_sorted (.fn _) (Evs.cons y Evs.nil hs) (by simp) fun s vs H r => by
    simp only [RL] at r
    obtain ⟨v, _, rfl, r1, rfl⟩ := r
    obtain ⟨a, rfl, hy, hd⟩ := q.get H r1
    refine sorted_dict H.ok.hand hy hd (by simpa using h64) fun h' tk b vs e hk' hb hl hi => ?_
    refine Post.grown H hk' (R.list (hideAll_get _ hl fun z => absurd (H.lt z) (Nat.not_lt.mpr hb)) (RL.of_ints ?_))
    simpa [Function.comp_def] using hi
/-- x[k] = True -/
theorem Ex.setI {i value : Expr} {spos : Pos} {k : Int} (hv : Ev prog w B F ρ σ value (.bool true) σ) (y : ρ.lookup x = some (.loc a)) (z : Ev prog w B F ρ σ i (.int k) σ) (p : Put a (.idict ks) (.idict (addK ks k)) σ σ') (hsz : ks.length ≤ sizeLine)
    (hs : swapsWith value (some (.Subscript (.Name x px) i spos)) pos.line F.env = pure false := by rfl) (hd : (x == ("__debug__" : Str)) = false := by decide) : Ex prog w B F ρ σ (.Assign [.Subscript (.Name x px) i spos] value pos) (.next ρ σ') := fun s H =>
  wpAny_Assign_Subscript (hv.use H fun v h1 t1 e1 H1 r1 => (Ev.name y hd).use (s := { s with heap := h1, toks := t1 }) H1 fun vo h2 t2 e2 H2 r2 => z.use (s := { s with heap := h2, toks := t2 }) H2 fun vi h3 t3 e3 H3 r3 => by
    simp only [R] at r1 r2 r3
    subst r1 r2
    obtain ⟨t, rfl⟩ := r3
    obtain ⟨hy, hd⟩ := H3.store a _ p.look
    refine wpAny_setItem_pairs (knd := intKind prog w) (k := k) (hsz := by simpa using hsz) (intKind_is prog w k t) hd fun h4 hd4 hs4 => ?_
    rw [stored_true] at hd4
    obtain ⟨H4, x4⟩ := H3.mut p (fun b o n e => (hs4.2 b n).trans e) (by obtain ⟨o, _, _, e, _⟩ := hd4; exact ⟨o, e⟩) ⟨hy, hd4⟩
    exact ⟨_, _, rfl, (e1.trans (e2.trans (e3.trans x4))).ext', rfl, H4⟩) hs
/-- x.update(pairs) -/
theorem Ev.updateI {ns : List Int} (y : ρ.lookup x = some (.loc a)) (z : Ev prog w B F ρ σ e (.list (ns.map fun k => D.tup [.int k, .bool true])) σ) (p : Put a (.idict ks) (.idict (addKs ks ns)) σ σ') (hsz : ns.length + ks.length ≤ sizeLine)
    (hbase : attributeBase (.Name x px) "update" F.env (eval (.Name x px) F.env) = eval (.Name x px) F.env := by rfl) (hline : (apos.endLine == pos.line) = true := by rfl) (hs : noStar e = true := by rfl) (hd : (x == ("__debug__" : Str)) = false := by decide) :
    Ev prog w B F ρ σ (.Call (.Attribute (.Name x px) "update" apos) [e] [] pos) .none σ' := fun s H => by
  refine Call_method1 hbase (starEach_cons hs) hline ((Ev.name y hd).use H fun v h1 t1 e1 H1 r1 => ?_)
  simp only [R] at r1
  subst r1
  obtain ⟨hy1, hd1⟩ := H1.store a _ p.look
  refine ⟨"dict", "dict.update", PySem.F.plainAttrs_dict, PySem.F.slot_dict_update, PySem.F.type_dict_update, hd1.typeIs, fun a' e => by
    cases e
    obtain ⟨o, es, ep, ho, hex, _⟩ := hd1
    exact ⟨o, ho, hex.2.1⟩, ?_⟩
  refine method1_meetsIn PySem.F.slot_dict_update PySem.F.entry_dict_update (z.use (s := { s with heap := h1, toks := t1 }) H1 fun v h2 t2 e2 H2 r2 => ?_)
  obtain ⟨hy2, hd2⟩ := H2.store a _ p.look
  simp only [R] at r2
  obtain ⟨b, its, nb, rfl, hb, hrb⟩ := r2
  have hP : PairsAt h2 its.toList ns := pairs_of (hRL hrb)
  have e := sizeOf_RL hrb
  rw [List.length_map] at e
  refine ⟨hd2.typeIs, PySem.F.args_dict_update_2 _ _, (fun A R s => A = F.A ∧ s = { { s with heap := h2, toks := t2 } with heap := h2 } ∧ ∀ h' tk, (∀ b o, b ≠ a → h2.get? b = some o → h'.get? b = some o) → h'.DictOf (intKind prog w) a ((addKs ks ns).map fun k => (k, Value.bool true)) → R (.ok (.ret .none)) { s with heap := h', toks := tk }), fun A R s hS => ?_, rfl, rfl, fun h' tk hx hd' => ?_⟩
  · obtain ⟨rfl, hs, hR⟩ := hS
    show wpAny _ _ (Builtin.Dict.selfAndRest "update" ⟨[.ref a, .ref b], []⟩ >>= _) _ _ s
    have hd2' : s.heap.DictOf (intKind prog w) a (ks.map fun k => (k, Value.bool true)) := by rw [hs]; exact hd2
    have hb' : IsL s.heap b its nb := by rw [hs]; exact of_hideAll _ hb
    have hP' : PairsAt s.heap its.toList ns := by rw [hs]; exact hP
    have hh : s.heap = h2 := by rw [hs]
    refine wpAny_bind ?_
    unfold Builtin.Dict.selfAndRest
    refine wpAny_bind (wpAny_notOrdered_dict hd2'.typeIs ?_)
    show wpAny _ _ (pure (a, [Value.ref b])) _ _ _
    refine wpAny_pure ?_
    show wpAny _ _ (Builtin.Dict.updateFrom "dict.update" a (.ref b) [] .none) _ _ _
    exact upd_from H2.ok.hand hb' hP' hd2' (by omega) fun h' tk hx hd' => hR h' tk (fun b o n e => hx b o n (hh ▸ e)) hd'
  · obtain ⟨H3, x3⟩ := H2.mut p hx (by obtain ⟨o, _, _, e, _⟩ := hd'; exact ⟨o, e⟩) ⟨hy2, hd'⟩
    exact ⟨h', tk, rfl, e1.trans (e2.trans x3), H3, R.none⟩
theorem EvNew.dict0 : EvNew prog w B F ρ σ (.Dict [] [] pos) (.idict []) σ := fun s H =>
  wpAny_Dict_empty ⟨_, s.toks, s.heap.objs.size, rfl, rfl, Ext.of_sub (sub_push _ _), fun b hb => Nat.ne_of_lt (H.lt hb), fun b o n e => Nat.ne_of_lt (Heap.lt_size e),
    H.own (sub_push _ _) (Nat.le_refl _) ⟨_, Heap.get?_push_size _ rfl⟩ ⟨H.notSys, Heap.DictOf.new s.heap⟩⟩
end
end Mine
namespace Mine
def sAt : List Str → List D → Str → Option D
  | k :: ks, d :: ds, x => if k = x then some d else sAt ks ds x
  | _, _, _ => none
section
variable {prog : Program} {w : World} {B : BS} {F : FC} {ρ ρ' ρ₁ ρ₂ ρc : List (Str × D)} {σ σ' σ₁ σ₂ σ₃ : List (Addr × MO)} {h h' h1 h2 h3 : Heap} {s : Shared} {a : Addr}
variable {x : Str} {px pos apos : Pos} {e e1 : Expr} {ks : List Str} {ds : List D} {d : D}

theorem sAt_some {H : Heap} : ∀ {kvs : List (Str × Value)} {ks : List Str} {ds : List D} {x : Str} {d : D}, kvs.map (·.1) = ks → RL prog w H (kvs.map (·.2)) ds → sAt ks ds x = some d → ∃ v, valueAt kvs x = some v ∧ R prog w H v d
  | [], _, ds, x, d, rfl, r, e => by simp [sAt] at e
  | (k, v) :: kvs, _, ds, x, d, rfl, r, e => by
    cases ds with
    | nil => simp [RL] at r
    | cons d' ds =>
      simp only [List.map_cons, RL] at r
      obtain ⟨v', q, e', r1, r2⟩ := r
      cases e'
      simp only [List.map_cons, sAt] at e
      by_cases z : k = x
      · subst z
        simp at e; subst e
        exact ⟨v, by simp [valueAt], r1⟩
      · rw [if_neg z] at e
        obtain ⟨u, e1, e2⟩ := sAt_some rfl r2 e
        refine ⟨u, ?_, e2⟩
        simpa [valueAt, z] using e1
theorem valueAt_none : ∀ {kvs : List (Str × Value)} {ks : List Str} {x : Str}, kvs.map (·.1) = ks → x ∉ ks → valueAt kvs x = none
  | [], _, x, rfl, h => by simp [valueAt]
  | (k, v) :: kvs, _, x, rfl, h => by
    simp only [List.map_cons, List.mem_cons, not_or] at h
    have := valueAt_none (kvs := kvs) rfl h.2
    have z : ¬ k = x := fun q => h.1 q.symm
    simpa [valueAt, z] using this

/-- the keys and values of a display -/
def Prs (prog : Program) (w : World) (B : BS) (F : FC) (ρ : List (Str × D)) (σ : List (Addr × MO)) (kes : List (Option Expr)) (ves : List Expr) (ks : List Str) (ds : List D) (σ' : List (Addr × MO)) : Prop :=
  ∀ (s : Shared) (pos : Pos), Holds prog w B F ρ σ s.heap → wpAny (model prog w) F.A (evalPairs (pairTrees kes ves F.env pos))
    (fun vs s' => ∃ h' tk kvs, s' = { s with heap := h', toks := tk } ∧ Ext F s.heap h' ∧ Holds prog w B F ρ σ' h' ∧ Carries (strKind prog w) vs kvs ∧ kvs.map (·.1) = ks ∧ RL prog w (hideAll h' F.M) (kvs.map (·.2)) ds) nofail s
theorem Prs.nil : Prs prog w B F ρ σ [] [] [] [] σ := fun s pos H => evalPairs_nil ⟨s.heap, s.toks, [], rfl, Ext.refl _ _, H, trivial, rfl, RL.nil⟩
theorem Prs.cons {k : Str} {kk : Nat} {kp : Pos} {v : Expr} {kes : List (Option Expr)} {ves : List Expr} (y : Ev prog w B F ρ σ v d σ₁) (z : Prs prog w B F ρ σ₁ kes ves ks ds σ₂) : Prs prog w B F ρ σ (some (.Constant (.str k) kk kp) :: kes) (v :: ves) (k :: ks) (d :: ds) σ₂ := fun s pos H =>
  evalPairs_cons (wpAny_Constant_str (wpAny_bind (y.use (s := { s with toks := s.toks + 1 }) H fun u h1 t1 e1 H1 r1 => wpAny_bind (wpAny_standAt (wpAny_pure (wpAny_mono (z { s with heap := h1, toks := t1 } pos H1) (fun vs s' ⟨h2, t2, kvs, e, e2, H2, c, hk, hr⟩ => by
    subst e
    exact ⟨h2, t2, (k, u) :: kvs, rfl, e1.trans e2, H2, ⟨strKind_is prog w k _, rfl, c⟩, by simp [hk], RL.cons (R.mono e2.hide r1) hr⟩) fun _ _ f => f))))))

theorem merged_nodup : ∀ (kvs acc : List (Str × Value)), ((acc ++ kvs).map (·.1)).Nodup → merged acc kvs = acc ++ kvs
  | [], acc, _ => by simp [merged]
  | (k, v) :: kvs, acc, nd => by
    have hk : stored acc k v = acc ++ [(k, v)] := by
      unfold stored
      rw [if_neg]
      intro hh
      obtain ⟨p, hp, e⟩ := List.any_eq_true.mp hh
      have e' : p.1 = k := by simpa using e
      simp only [List.map_append, List.map_cons, List.nodup_append] at nd
      exact nd.2.2 p.1 (List.mem_map.mpr ⟨p, hp, rfl⟩) k List.mem_cons_self e'
    have := merged_nodup kvs (acc ++ [(k, v)]) (by simpa using nd)
    simp only [merged, List.foldl_cons, hk]
    simp only [merged] at this
    rw [this]
    simp

theorem mem_hid_own {I b : Addr} : b ∈ (F.hid I).M ↔ b ∈ (F.own I).M := mem_hid.trans mem_own.symm
theorem hideAll_congr {M N : List Addr} (e : ∀ b, b ∈ M ↔ b ∈ N) : Sub (hideAll h M) (hideAll h N) := hide_mono (fun b o n e => e) fun b hb _ => (e b).mpr hb

theorem Holds.hidOwn {mo : MO} (H : Holds prog w B (F.hid a) ρ σ h) (ok : F.Ok) (fr : Free F a) (hs : Heap.SameBut a h h') (hex : ∃ o, h'.get? a = some o) (hm : mo.Is prog w (hideAll h' (F.own a).M) h' a) : Holds prog w B (F.own a) ρ ((a, mo) :: σ) h' := by
  have H' : Holds prog w B (F.hid a) ρ σ h' := H.poke (mem_hid.mpr (.inl rfl)) fr (fun b o n e => (hs.2 b n).trans e) hex
  have hh : Sub (hideAll h' (F.hid a).M) (hideAll h' (F.own a).M) := hideAll_congr fun b => mem_hid_own
  obtain ⟨m, hn, hv⟩ := H'.vars
  refine ⟨ok.own fr, H'.sub.trans hh, H'.keep, fun b hb => H'.ex b (mem_hid_own.mpr hb), ⟨m, hn, fun x d e => (hv x d e).mono hh fun _ _ c => c⟩, H'.cells, fun b o e => ?_, fun b o e => ?_⟩
  · by_cases q : b = a
    · subst q; exact ⟨List.mem_cons_self, .inr fr.2.2.2⟩
    · have q' : (b == a) = false := by simpa using q
      rw [List.lookup_cons, q'] at e
      exact ⟨List.mem_cons_of_mem _ (H'.stIn b o e).1, (H'.stIn b o e).2⟩
  · by_cases q : b = a
    · subst q; simp at e; subst e; exact hm
    · have q' : (b == a) = false := by simpa using q
      rw [List.lookup_cons, q'] at e
      exact (H'.store b o e).mono hh fun q z => z

theorem dict_core {kes : List (Option Expr)} {ves : List Expr} {Q : Value → Shared → Prop} (H : Holds prog w B F ρ σ s.heap) (y : ∀ I, Free F I → Prs prog w B (F.hid I) ρ σ kes ves ks ds σ') (nd : ks.Nodup)
    (hall : kes.all (·.isSome) = true) (hl : kes.length = ves.length) (h0 : kes ≠ []) (hlen : kes.length ≤ 15)
    (k : ∀ a h1 h2 tk kvs, s.heap.objs.size ≤ a → Free F a → (a == sysModules) = false → Ext F s.heap h1 → Holds prog w B (F.hid a) ρ σ' h1 → Heap.SameBut a h1 h2 → h2.DictOf (strKind prog w) a kvs → kvs.map (·.1) = ks → RL prog w (hideAll h1 (F.hid a).M) (kvs.map (·.2)) ds → Q (.ref a) { s with heap := h2, toks := tk }) :
    wpAny (model prog w) F.A (eval (.Dict kes ves pos) F.env) Q nofail s := by
  have fr : Free F s.heap.objs.size := H.free (Nat.le_refl _)
  have H1 : Holds prog w B (F.hid s.heap.objs.size) ρ σ (s.heap.push { cls := .type "dict", data := .dict #[] }) := H.hid (sub_push _ _) (Nat.le_refl _) ⟨_, Heap.get?_push_size _ rfl⟩
  refine wpAny_Dict_walk (knd := strKind prog w) hall hl h0 hlen (wpAny_mono (y _ fr { s with heap := s.heap.push { cls := .type "dict", data := .dict #[] } } pos H1) (fun vs s' ⟨h1, t1, kvs, e, e1, H2, c, hk, hr⟩ => ?_) fun _ _ f => f.elim)
  subst e
  have hd0 : h1.DictOf (strKind prog w) s.heap.objs.size [] := dictOf_sub (Heap.DictOf.new s.heap) fun o e => e1 _ o fr.1 e
  refine ⟨kvs, c, hd0, fun h2 hd2 hs2 => ?_⟩
  rw [merged_nodup kvs [] (by simpa [hk] using nd)] at hd2
  exact k s.heap.objs.size h1 h2 _ kvs (Nat.le_refl _) fr H.notSys (fun b o n e => e1 b o n (sub_push _ _ b o e)) H2 hs2 (by simpa using hd2) hk hr

theorem Ev.dictS {kes : List (Option Expr)} {ves : List Expr} (y : ∀ I, Free F I → Prs prog w B (F.hid I) ρ σ kes ves ks ds σ') (nd : ks.Nodup)
    (hall : kes.all (·.isSome) = true := by rfl) (hl : kes.length = ves.length := by rfl) (h0 : kes ≠ [] := by simp) (hlen : kes.length ≤ 15 := by simp) : Ev prog w B F ρ σ (.Dict kes ves pos) (.sdict ks ds) σ' := fun s H =>
  dict_core H y nd hall hl h0 hlen fun a h1 h2 tk kvs ha fr hy e1 H1 hs hd hk hr => by
    have hM : a ∉ F.M := fun q => absurd (H.lt q) (Nat.not_lt.mpr ha)
    refine ⟨h2, tk, rfl, fun b o n e => (hs.2 b (fun q => absurd (Heap.lt_size e) (Nat.not_lt.mpr (q ▸ ha)))).trans (e1 b o n e), H1.letGo H.ok fr hM hs, ?_⟩
    simp only [R]
    exact ⟨a, kvs, rfl, hy, dictOf_sub hd fun o e => hideAll_get _ e hM, hk, RL.mono (hide_letGo hs) hr⟩
theorem EvNew.dictS {kes : List (Option Expr)} {ves : List Expr} (y : ∀ I, Free F I → Prs prog w B (F.hid I) ρ σ kes ves ks ds σ') (nd : ks.Nodup)
    (hall : kes.all (·.isSome) = true := by rfl) (hl : kes.length = ves.length := by rfl) (h0 : kes ≠ [] := by simp) (hlen : kes.length ≤ 15 := by simp) : EvNew prog w B F ρ σ (.Dict kes ves pos) (.sdict ks ds) σ' := fun s H =>
  dict_core H y nd hall hl h0 hlen fun a h1 h2 tk kvs ha fr hy e1 H1 hs hd hk hr => by
    have new : ∀ b o, s.heap.get? b = some o → b ≠ a := fun b o e q => absurd (Heap.lt_size e) (Nat.not_lt.mpr (q ▸ ha))
    refine ⟨h2, tk, a, rfl, rfl, fun b o n e => (hs.2 b (new b o e)).trans (e1 b o n e), fun b hb q => absurd (H.lt hb) (Nat.not_lt.mpr (q ▸ ha)), fun b o n e => new b o e, H1.hidOwn H.ok fr hs (by obtain ⟨o, _, _, e, _⟩ := hd; exact ⟨o, e⟩) ⟨hy, kvs, hd, hk, ?_⟩⟩
    have hh : Sub (hideAll h1 (F.hid a).M) (hideAll h2 (F.own a).M) := hide_mono (fun b o n e => (hs.2 b fun q => n (mem_hid.mpr (.inl q))).trans e) fun b hb _ => mem_hid_own.mpr hb
    exact RL.mono hh hr

/-! reading -/
inductive SSeq (σ : List (Addr × MO)) : D → List Str → List D → Prop
  | fr {ks : List Str} {ds : List D} : SSeq σ (.sdict ks ds) ks ds
  | lo {a : Addr} {ks : List Str} {ds : List D} : σ.lookup a = some (.sdict ks ds) → SSeq σ (.loc a) ks ds
theorem SSeq.get {v : Value} (q : SSeq σ d ks ds) (H : Holds prog w B F ρ σ h) (r : R prog w (hideAll h F.M) v d) : ∃ a kvs, v = .ref a ∧ (a == sysModules) = false ∧ h.DictOf (strKind prog w) a kvs ∧ kvs.map (·.1) = ks ∧ RL prog w (hideAll h F.M) (kvs.map (·.2)) ds := by
  cases q with
  | fr =>
    simp only [R] at r
    obtain ⟨a, kvs, rfl, hy, hd, hk, hr⟩ := r
    exact ⟨a, kvs, rfl, hy, dictOf_sub hd fun o e => of_hideAll _ e, hk, hr⟩
  | @lo a ks ds e =>
    simp only [R] at r
    subst r
    obtain ⟨hy, kvs, hd, hk, hr⟩ := H.store a _ e
    exact ⟨a, kvs, rfl, hy, hd, hk, hr⟩
theorem Ev.itemS {k : Str} {kk : Nat} {kp : Pos} {l : Expr} {dl : D} (y : Ev prog w B F ρ σ l dl σ₁) (q : SSeq σ₁ dl ks ds) (hv : sAt ks ds k = some d) : Ev prog w B F ρ σ (.Subscript l (.Constant (.str k) kk kp) pos) d σ₁ := fun s H =>
  Subscript_ (y.use H fun va h1 t1 e1 H1 r1 => wpAny_Constant_str (by
    obtain ⟨a, kvs, rfl, hy, hd, hk, hr⟩ := q.get H1 r1
    obtain ⟨v, hv', rv⟩ := sAt_some hk hr hv
    refine subTail (M := model prog w) (T := "dict") hd.typeIs slot_dict_getitem.lookup (wpAny_getItem_of (strKind_is prog w k _) hd.mapOf hv' ?_) (.inl (subscripted_plain rfl))
    exact ⟨h1, _, rfl, e1, H1, rv⟩))
theorem Ev.inS {k : Str} {kk : Nat} {kp : Pos} {r : Expr} {dr : D} (y : Ev prog w B F ρ σ r dr σ₁) (q : SSeq σ₁ dr ks ds) (hn : k ∉ ks) (hm : behindInMarks .In r = false := by with_unfolding_all rfl) : Ev prog w B F ρ σ (.Compare (.Constant (.str k) kk kp) [.In] [r] pos) (.bool false) σ₁ :=
  Ev.cmp Ev.cstr y (fun s va vb H r1 r2 => by
    simp only [R] at r1
    obtain ⟨t, rfl⟩ := r1
    obtain ⟨a, kvs, rfl, hy, hd, hk, hr⟩ := q.get H r2
    have e := valueAt_none hk hn
    refine wpAny_in_of (strKind_is prog w k t) hy hd.mapOf ?_
    rw [e]
    exact Post.here H R.bool) hm
theorem Ev.get1 {k : Str} {kk : Nat} {kp : Pos} {l : Expr} {dl : D} (y : Ev prog w B F ρ σ l dl σ₁) (q : SSeq σ₁ dl ks ds) (hv : sAt ks ds k = some d)
    (hbase : attributeBase l "get" F.env (eval l F.env) = eval l F.env := by rfl) (hline : (apos.endLine == pos.line) = true := by rfl) :
    Ev prog w B F ρ σ (.Call (.Attribute l "get" apos) [.Constant (.str k) kk kp] [] pos) d σ₁ := fun s H => by
  refine Call_method1 hbase (starEach_cons rfl) hline (y.use H fun v h1 t1 e1 H1 r1 => ?_)
  obtain ⟨a, kvs, rfl, hy, hd, hk, hr⟩ := q.get H1 r1
  obtain ⟨v, hv', rv⟩ := sAt_some hk hr hv
  refine ⟨"dict", "dict.get", PySem.F.plainAttrs_dict, PySem.F.slot_dict_get, PySem.F.type_dict_get, hd.typeIs, fun a' e => by
    cases e
    obtain ⟨o, es, ep, ho, hex, _⟩ := hd
    exact ⟨o, ho, hex.2.1⟩, ?_⟩
  refine wpAny_dict_get1 (knd := strKind prog w) hy (wpAny_Constant_str ⟨k, _, strKind_is prog w k _, hd.mapOf, ?_⟩)
  rw [hv']
  exact ⟨h1, _, rfl, e1, H1, rv⟩
theorem Ev.get2 {k : Str} {kk : Nat} {kp : Pos} {l f : Expr} {dl : D} (y : Ev prog w B F ρ σ l dl σ₁) (q : SSeq σ₁ dl ks ds) (hv : k ∉ ks) (z : Ev prog w B F ρ σ₁ f d σ₁) (q' : dl = .sdict ks ds)
    (hbase : attributeBase l "get" F.env (eval l F.env) = eval l F.env := by rfl) (hline : (apos.endLine == pos.line) = true := by rfl) (hs : noStar f = true := by rfl) :
    Ev prog w B F ρ σ (.Call (.Attribute l "get" apos) [.Constant (.str k) kk kp, f] [] pos) d σ₁ := fun s H => by
  subst q'
  refine Call_method2 hbase (by rw [starEach_cons rfl, starEach_cons hs]; rfl) hline (y.use H fun v h1 t1 e1 H1 r1 => ?_)
  have r1' := r1
  obtain ⟨a, kvs, rfl, hy, hd, hk, hr⟩ := q.get H1 r1
  refine ⟨"dict", "dict.get", PySem.F.plainAttrs_dict, PySem.F.slot_dict_get, PySem.F.type_dict_get, hd.typeIs, fun a' e => by
    cases e
    obtain ⟨o, es, ep, ho, hex, _⟩ := hd
    exact ⟨o, ho, hex.2.1⟩, ?_⟩
  refine wpAny_dict_get2 (knd := strKind prog w) hy (wpAny_Constant_str (z.use (s := { s with heap := h1, toks := t1 + 1 }) H1 fun u h2 t2 e2 H2 r2 => ?_))
  obtain ⟨a2, kvs2, e3, hy2, hd2, hk2, hr2⟩ := q.get H2 (R.mono e2.hide r1')
  cases e3
  refine ⟨k, _, strKind_is prog w k _, hd2.mapOf, ?_⟩
  rw [valueAt_none hk2 hv]
  exact ⟨h2, _, rfl, e1.trans e2, H2, r2⟩
/-- x['k'] = e, a new key -/
theorem Ex.setS {k : Str} {kk : Nat} {kp : Pos} {value : Expr} {spos : Pos} (hv : Ev prog w B F ρ σ value d σ) (y : ρ.lookup x = some (.loc a)) (p : Put a (.sdict ks ds) (.sdict (ks ++ [k]) (ds ++ [d])) σ σ') (hn : k ∉ ks) (hsz : ks.length ≤ sizeLine)
    (hs : swapsWith value (some (.Subscript (.Name x px) (.Constant (.str k) kk kp) spos)) pos.line F.env = pure false := by rfl) (hd : (x == ("__debug__" : Str)) = false := by decide) : Ex prog w B F ρ σ (.Assign [.Subscript (.Name x px) (.Constant (.str k) kk kp) spos] value pos) (.next ρ σ') := fun s H =>
  wpAny_Assign_Subscript (hv.use H fun v h1 t1 e1 H1 r1 => (Ev.name y hd).use (s := { s with heap := h1, toks := t1 }) H1 fun vo h2 t2 e2 H2 r2 => wpAny_Constant_str (by
    simp only [R] at r2
    subst r2
    obtain ⟨hy, kvs, hd, hk, hr⟩ := H2.store a _ p.look
    have hlen : kvs.length = ks.length := by rw [← hk, List.length_map]
    refine wpAny_setItem_pairs (knd := strKind prog w) (k := k) (hsz := by omega) (strKind_is prog w k _) hd fun h4 hd4 hs4 => ?_
    have est : stored kvs k v = kvs ++ [(k, v)] := by
      unfold stored
      rw [if_neg]
      intro hh
      obtain ⟨q, hq, e⟩ := List.any_eq_true.mp hh
      have e' : q.1 = k := by simpa using e
      exact hn (by rw [← hk, ← e']; exact List.mem_map.mpr ⟨q, hq, rfl⟩)
    rw [est] at hd4
    have hx : ∀ b o, b ≠ a → h2.get? b = some o → h4.get? b = some o := fun b o n e => (hs4.2 b n).trans e
    have m4 := p.sub H2 hx
    obtain ⟨H4, x4⟩ := H2.mut p hx (by obtain ⟨o, _, _, e, _⟩ := hd4; exact ⟨o, e⟩) ⟨hy, _, hd4, by simp [hk], by simpa using RL.append (RL.one (R.mono (e2.hide.trans m4) r1)) (RL.mono m4 hr)⟩
    exact ⟨_, _, rfl, (e1.trans (e2.trans x4)).ext', rfl, H4⟩)) hs

/-- two dicts with the same keys in one order -/
theorem hits_of {A : Around} : ∀ {ka kb : List (Str × Value)} {ds es : List D} (full : List (Str × Value)), A.in1.units + 64 < cLine → ka.map (·.1) = kb.map (·.1) → (∀ p ∈ kb, valueAt full p.1 = some p.2) → RL prog w s.heap (ka.map (·.2)) ds → RL prog w s.heap (kb.map (·.2)) es → (∀ d ∈ ds, Pl d) → (∀ d ∈ es, Pl d) →
    KeqHits A.in1 s full ka ((List.zipWith Mine.eqD ds es).all id)
  | [], kb, ds, es, full, hu, hk, hv, r1, r2, p1, p2 => by
    have : ds = [] := by cases ds with | nil => rfl | cons d ds => simp [RL] at r1
    subst this
    simpa using KeqHits.nil
  | (k, v) :: ka, kb, ds, es, full, hu, hk, hv, r1, r2, p1, p2 => by
    cases kb with
    | nil => simp at hk
    | cons q kb =>
      obtain ⟨k', v'⟩ := q
      simp only [List.map_cons, List.cons.injEq] at hk
      obtain ⟨rfl, hk⟩ := hk
      cases ds with
      | nil => simp [RL] at r1
      | cons d ds =>
        cases es with
        | nil => simp [RL] at r2
        | cons e es =>
          simp only [List.map_cons, RL] at r1 r2
          obtain ⟨_, _, e1, x1, y1⟩ := r1
          obtain ⟨_, _, e2, x2, y2⟩ := r2
          cases e1; cases e2
          simp only [List.zipWith_cons_cons, List.all_cons, id]
          obtain ⟨as, ra⟩ := R.reads x1 (p1 d List.mem_cons_self).1
          obtain ⟨bs, rb⟩ := R.reads x2 (p2 e List.mem_cons_self).1
          exact KeqHits.hit (hv _ List.mem_cons_self) (keq_at ra rb (p1 d List.mem_cons_self).shaped (p2 e List.mem_cons_self).shaped hu) (hits_of full hu hk (fun p hp => hv p (List.mem_cons_of_mem _ hp)) y1 y2 (fun d hd => p1 d (List.mem_cons_of_mem _ hd)) fun d hd => p2 d (List.mem_cons_of_mem _ hd))
theorem valueAt_self : ∀ {kvs : List (Str × Value)}, (kvs.map (·.1)).Nodup → ∀ p ∈ kvs, valueAt kvs p.1 = some p.2
  | [], _, p, hp => by simp at hp
  | (k, v) :: kvs, nd, p, hp => by
    simp only [List.map_cons, List.nodup_cons] at nd
    rcases List.mem_cons.mp hp with e | hp
    · subst e; simp [valueAt]
    · have z : ¬ k = p.1 := fun q => nd.1 (List.mem_map.mpr ⟨p, hp, q.symm⟩)
      have := valueAt_self nd.2 p hp
      simpa [valueAt, z] using this
theorem Ev.eqS {l r : Expr} {dl dr : D} {es : List D} (y : Ev prog w B F ρ σ l dl σ₁) (z : Ev prog w B F ρ σ₁ r dr σ₂) (q1 : SSeq σ₂ dl ks ds) (q2 : SSeq σ₂ dr ks es) (p1 : ∀ d ∈ ds, Pl d) (p2 : ∀ d ∈ es, Pl d) (nd : ks.Nodup) (hm : behindInMarks .Eq r = false := by with_unfolding_all rfl) :
    Ev prog w B F ρ σ (.Compare l [.Eq] [r] pos) (.bool ((List.zipWith Mine.eqD ds es).all id)) σ₂ :=
  y.cmp z (fun s va vb H r1 r2 => by
    obtain ⟨a, ka, rfl, ha, da, hka, hra⟩ := q1.get H r1
    obtain ⟨b, kb, rfl, hb, db, hkb, hrb⟩ := q2.get H r2
    have hl : ka.length = kb.length := by rw [← List.length_map (f := (·.1)), hka, ← hkb, List.length_map]
    have hu := H.ok.un
    refine keq_eq (r := (List.zipWith Mine.eqD ds es).all id) ha hb da db (by omega) (fun _ => hits_of kb (by simp; omega) (hka.trans hkb.symm) (valueAt_self (hkb ▸ nd)) (hRL hra) (hRL hrb) p1 p2) ?_
    rw [hl, beq_self_eq_true, Bool.true_and]
    exact Post.here (tk := s.toks) H R.bool) hm
end
end Mine
namespace Mine
section
variable {prog : Program} {w : World} {B : BS} {F : FC} {ρ ρ' ρ₁ ρ₂ ρc : List (Str × D)} {σ σ' σ₁ σ₂ σ₃ : List (Addr × MO)} {h h' h1 h2 h3 : Heap} {s : Shared} {a : Addr}
variable {x y : Str} {px py pos tpos : Pos} {e e1 e2 : Expr} {d d1 d2 : D} {k kv : Nat}

theorem pair_items {v : Value} (r : R prog w h v (.tup [d1, d2])) : ∃ a v1 v2 n, v = .ref a ∧ IsT h a #[v1, v2] n ∧ R prog w h v1 d1 ∧ R prog w h v2 d2 := by
  simp only [R] at r
  obtain ⟨a, vs, n, rfl, ht, hr⟩ := r
  simp only [RL] at hr
  obtain ⟨v1, _, e1, r1, v2, _, rfl, r2, rfl⟩ := hr
  have : vs = #[v1, v2] := Array.ext' e1
  subst this
  exact ⟨a, v1, v2, n, rfl, ht, r1, r2⟩

/-- x, y = e (a pair), stored in order -/
theorem Ex.assign2 (z : Ev prog w B F ρ σ e (.tup [d1, d2]) σ₁) (hx : Stb F x) (hy : Stb F y)
    (hs : swapsWithSole [.Tuple [.Name x px, .Name y py] k tpos] e pos.line F.env = pure false := by rfl) (hw : swappedStores [.Tuple [.Name x px, .Name y py] k tpos] e F.env = pure none := by rfl) :
    Ex prog w B F ρ σ (.Assign [.Tuple [.Name x px, .Name y py] k tpos] e pos) (.next ((y, d2) :: (x, d1) :: ρ) σ₁) := fun s H =>
  Assign_Tuple (z.use H fun v h1 t1 e1 H1 r1 => wpAny_mono (Asg.pair hx hy { s with heap := h1, toks := t1 } v σ₁ H1 r1) (fun _ s' ⟨h2, t2, e, e2, H2⟩ => ⟨h2, t2, e, e1.ext'.trans e2, rfl, H2⟩) fun _ _ f => f) hs hw
/-- .. the last one first -/
theorem Ex.assign2S (z : Ev prog w B F ρ σ e (.tup [d1, d2]) σ₁) (hx : Stb F x) (hy : Stb F y)
    (hs : swapsWithSole [.Tuple [.Name x px, .Name y py] k tpos] e pos.line F.env = pure false := by rfl) (hw : swappedStores [.Tuple [.Name x px, .Name y py] k tpos] e F.env = pure (some [x, y]) := by rfl) :
    Ex prog w B F ρ σ (.Assign [.Tuple [.Name x px, .Name y py] k tpos] e pos) (.next ((x, d1) :: (y, d2) :: ρ) σ₁) := fun s H =>
  Assign_Tuple_swapped (names := [x, y]) (z.use H fun v h1 t1 e1 H1 r1 => by
    obtain ⟨a, v1, v2, n, rfl, ht, r1, r2⟩ := pair_items r1
    refine unpackItems_tuple (items := #[v1, v2]) H1.ok.hand ⟨_, of_hideAll _ ht, rfl, n, rfl⟩ fun h2 he => ?_
    have hsub : Sub h1 h2 := fun b o eb => he b o (Nat.ne_of_lt (Heap.lt_size eb)) eb
    have H2 := H1.grow hsub
    have m2 := (Ext.of_sub (F := F) hsub).hide
    refine wpAny_assignInOrder_more (wpAny_bindName (store_name (s := { s with heap := h2, toks := t1 }) H2 (R.mono m2 r2) hy fun h3 t3 e3 H3 => ?_))
    refine wpAny_assignInOrder_more (wpAny_bindName (store_name (s := { s with heap := h3, toks := t3 }) H3 (R.mono (m2.trans (e3.hide H2)) r1) hx fun h4 t4 e4 H4 => ?_))
    exact wpAny_assignInOrder_none ⟨h4, t4, rfl, ((e1.ext'.trans (Ext.of_sub hsub).ext').trans e3).trans e4, rfl, H4⟩) hs hw

/-- x, y = {}, {} -/
theorem Exs.own2 {p1 p2 vp : Pos} {rest : List Stmt} {σ' : Addr → Addr → List (Addr × MO)} (hx : Stb F x) (hy : Stb F y)
    (kk : ∀ a b, a ≠ b → Exs prog w B ((F.own a).own b) ((x, .loc a) :: (y, .loc b) :: ρ) ((b, .idict []) :: (a, .idict []) :: σ) rest (.ret d (σ' a b)))
    (hs : swapsWithSole [.Tuple [.Name x px, .Name y py] k tpos] (.Tuple [.Dict [] [] p1, .Dict [] [] p2] kv vp) pos.line F.env = pure false := by rfl) (hw : swappedStores [.Tuple [.Name x px, .Name y py] k tpos] (.Tuple [.Dict [] [] p1, .Dict [] [] p2] kv vp) F.env = pure (some [x, y]) := by rfl) :
    Exs prog w B F ρ σ (.Assign [.Tuple [.Name x px, .Name y py] k tpos] (.Tuple [.Dict [] [] p1, .Dict [] [] p2] kv vp) pos :: rest) (.ret d []) := fun s H => by
  refine wpAny_execs_cons (Assign_Tuple_swapped (names := [x, y]) ?_ hs hw)
  refine wpAny_Tuple ?_
  refine wpAny_items_cons (wpAny_mono (EvNew.dict0 (pos := p1) s H) (fun v s1 ⟨h1, t1, a, e1, ev, x1, n1, n2, H1⟩ => ?_) fun _ _ f => f) (starEach_cons rfl)
  subst e1 ev
  refine wpAny_items_cons (wpAny_mono (EvNew.dict0 (F := F.own a) (pos := p2) { s with heap := h1, toks := t1 } H1) (fun v s2 ⟨h2, t2, b, e2, ev, x2, m1, m2, H2⟩ => ?_) fun _ _ f => f) (starEach_cons rfl)
  subst e2 ev
  refine Calls.spliced_nil ⟨by rw [sizeLine_eq]; simp, ?_⟩
  have hab : a ≠ b := m1 a (mem_own.mpr (.inl rfl))
  have H3 := H2.push { cls := .type "tuple", data := .seq #[.ref a, .ref b] }
  refine unpackItems_tuple (items := #[.ref a, .ref b]) H.ok.hand ⟨_, Heap.get?_push_size _ rfl, rfl, 0, rfl⟩ fun h4 he => ?_
  have hsub : Sub (h2.push { cls := .type "tuple", data := .seq #[.ref a, .ref b] }) h4 := fun c o eb => he c o (Nat.ne_of_lt (Heap.lt_size eb)) eb
  have H4 := H3.grow hsub
  refine wpAny_assignInOrder_more (wpAny_bindName (store_name (F := (F.own a).own b) (s := { s with heap := h4, toks := t2 }) H4 R.loc hy fun h5 t5 e5 H5 => ?_))
  refine wpAny_assignInOrder_more (wpAny_bindName (store_name (F := (F.own a).own b) (s := { s with heap := h5, toks := t5 }) H5 R.loc hx fun h6 t6 e6 H6 => ?_))
  refine wpAny_assignInOrder_none ?_
  refine wpAny_mono (kk a b hab { s with heap := h6, toks := t6 } H6) (fun fl s7 ⟨h7, t7, e7, x7, o7⟩ => ?_) fun _ _ f => f
  obtain ⟨v, q1, q2, q3⟩ := o7
  refine ⟨h7, t7, e7, fun c o c1 c2 c3 hc => ?_, v, q1, q2, (q3.disown H1.ok).disown H.ok⟩
  have ca : c ∉ (F.own a).S := fun z => by
    rcases List.mem_cons.mp z with z | z
    · exact n2 c o c1 hc z
    · exact c1 z
  have g1 := x1 c o c1 hc
  have cb : c ∉ ((F.own a).own b).S := fun z => by
    rcases List.mem_cons.mp z with z | z
    · exact m2 c o ca g1 z
    · exact ca z
  exact x7 c o cb c2 c3 (e6 c o cb c2 c3 (e5 c o cb c2 c3 (hsub c o (sub_push _ _ c o (x2 c o ca g1)))))

/-! ### while -/
end
inductive WT (prog : Program) (w : World) (B : BS) (F : FC) (t : Expr) (body : List Stmt) : Nat → List (Str × D) → List (Addr × MO) → Out → Prop
  | stop {ρ : List (Str × D)} {σ σ₁ : List (Addr × MO)} : Tst prog w B F ρ σ t false σ₁ → WT prog w B F t body 0 ρ σ (.next ρ σ₁)
  | turn {n : Nat} {ρ ρ₁ : List (Str × D)} {σ σ₁ σ₂ : List (Addr × MO)} {out : Out} : Tst prog w B F ρ σ t true σ₁ → Exs prog w B F ρ σ₁ body (.next ρ₁ σ₂) → WT prog w B F t body n ρ₁ σ₂ out → WT prog w B F t body (n + 1) ρ σ out
section
variable {prog : Program} {w : World} {B : BS} {F : FC} {ρ ρ' ρ₁ ρ₂ ρc : List (Str × D)} {σ σ' σ₁ σ₂ σ₃ : List (Addr × MO)} {h h' h1 h2 h3 : Heap} {s : Shared} {a : Addr}
theorem Ex.whileIn {t : Expr} {body : List Stmt} {out : Out} {pos : Pos} {n : Nat} (T : WT prog w B F t body n ρ σ out) : Ex prog w B F ρ σ (.While t body [] pos) out := fun s0 H => by
  refine PySem.wpAny_While ?_
  refine codeAny_whileLoop (fun n s' => ∃ ρi σi h' tk, s' = { s0 with heap := h', toks := tk } ∧ Ext' F s0.heap h' ∧ Holds prog w B F ρi σi h' ∧ WT prog w B F t body n ρi σi out) ?_ n ⟨ρ, σ, s0.heap, s0.toks, rfl, Ext'.refl _ _, H, T⟩
  rintro n s' ⟨ρi, σi, h, tk, rfl, ex, H, T⟩
  cases T with
  | stop ht =>
    refine ht.use (s := { s0 with heap := h, toks := tk }) H fun h1 t1 e1 H1 => ?_
    simp only [Bool.false_eq_true, if_false]
    exact wpAny_execs_nil ⟨h1, t1, rfl, ex.trans e1.ext', rfl, H1⟩
  | turn ht hb T2 =>
    refine ht.use (s := { s0 with heap := h, toks := tk }) H fun h1 t1 e1 H1 => ?_
    simp only [if_true]
    refine wpAny_mono (hb { s0 with heap := h1, toks := t1 } H1) (fun fl s2 ⟨h2, t2, e, e2, o2⟩ => ?_) fun _ _ f => f.elim
    subst e
    obtain ⟨rfl, H2⟩ := o2
    exact ⟨_, Nat.lt_succ_self _, _, _, h2, t2, rfl, (ex.trans e1.ext').trans e2, H2, T2⟩

/-! ### a run of a tuple -/
theorem sliceApplied_run {A : Around} {E : Value → Shared → Prop} {sl : Addr} {a b n : Nat} {u v : Tok} {Q : Int × Int × Nat → Shared → Prop} (hs : s.heap.IsSliceOf sl (.int a u) (.int b v) .none) (ha : a ≤ n) (hab : a ≤ b) (h : Q ((a : Int), 1, min b n - a) s) :
    wpAny (model prog w) A (Builtin.Slice.sliceApplied (.ref sl) (pure (n : Int))) Q E s := by
  obtain ⟨os, hos, hcs, hds⟩ := id hs
  unfold Builtin.Slice.sliceApplied Builtin.Slice.sliceFields
  refine wpAny_bind (wpAny_bind (wpAny_field hos hds (x := .int a u) rfl (wpAny_bind (wpAny_field hos hds (x := .int b v) rfl (wpAny_bind (wpAny_field hos hds (x := .none) rfl (wpAny_pure ?_)))))))
  refine wpAny_bind (slicePart_none ?_)
  show wpAny _ _ (if ((1 : Int) == 0) = true then _ else _) _ _ s
  rw [if_neg (by decide)]
  refine wpAny_bind (slicePart_int (wpAny_bind (slicePart_int (wpAny_bind (wpAny_pure ?_)))))
  show wpAny _ _ (match Builtin.Slice.sliceAdjust (some (a : Int)) (some (b : Int)) 1 (n : Int) with | (lo, hi) => pure (lo, (1 : Int), Builtin.Slice.slicePlaces lo hi 1)) _ _ s
  have e1 : Builtin.Slice.sliceAdjust (some (a : Int)) (some (b : Int)) 1 (n : Int) = ((a : Int), ((min b n : Nat) : Int)) := by
    unfold Builtin.Slice.sliceAdjust
    have h1 : ¬ ((1 : Int) < 0) := by omega
    have h2 : ¬ ((a : Int) < 0) := by omega
    have h3 : ¬ ((b : Int) < 0) := by omega
    simp only [h1, h2, h3, if_false]
    congr 1 <;> omega
  rw [e1]
  show wpAny _ _ (pure ((a : Int), (1 : Int), Builtin.Slice.slicePlaces (a : Int) ((min b n : Nat) : Int) 1)) _ _ s
  have e2 : Builtin.Slice.slicePlaces (a : Int) ((min b n : Nat) : Int) 1 = min b n - a := by
    unfold Builtin.Slice.slicePlaces
    have h1 : (1 : Int) > 0 := by omega
    simp only [h1, if_true, Int.ediv_one]
    split <;> omega
  rw [e2]
  exact wpAny_pure h

theorem pick_run' (xs : Array Value) (a c : Nat) : ((List.range c).filterMap fun (k : Nat) => xs[((a : Int) + (k : Int) * 1).toNat]?).toArray.toList = (xs.toList.drop a).take c := by
  have e : (fun (k : Nat) => xs[((a : Int) + (k : Int) * 1).toNat]?) = fun k => xs[a + k]? := by
    funext k
    have : ((a : Int) + (k : Int) * 1).toNat = a + k := by omega
    rw [this]
  rw [e]
  have := pick_run xs a c
  rw [List.filterMap_map] at this
  have e2 : ((fun x => xs[x]?) ∘ fun x => a + x) = fun k => xs[a + k]? := rfl
  rw [e2] at this
  simpa using this

theorem getItem_tuple_run {A : Around} {E : Value → Shared → Prop} {t sl : Addr} {items : Array Value} {nt a b : Nat} {u v : Tok} {Q : Value → Shared → Prop} (ht : IsT s.heap t items nt) (hs : s.heap.IsSliceOf sl (.int a u) (.int b v) .none) (ha : a ≤ items.size) (hab : a ≤ b)
    (h : ∀ ws : Array Value, ws.toList = (items.toList.drop a).take (b - a) → Q (.ref s.heap.objs.size) { s with heap := s.heap.push { cls := .type "tuple", data := .seq ws } })
    (hw : a = 0 → items.size ≤ b → Q (.ref t) s) (hsz : items.size ≤ sizeLine) : wpAny (model prog w) A (getItem (.ref t) (.ref sl)) Q E s := by
  have ht' : IsTup s.heap t items := ⟨_, ht, rfl, nt, rfl⟩
  obtain ⟨os, hos, hcs, hds⟩ := id hs
  have hTs : s.TypeIs (.ref sl) "slice" := ⟨os, hos, hcs⟩
  unfold getItem
  try with_reducible refine wpAny_holding ?_
  first | refine wpAny_bind (wpAny_pure ?_) | skip
  refine wpAny_bind (wpAny_sequenceKey ht'.typeIs (by decide) ?_)
  refine wpAny_bind (wpAny_callSpecial?_slot (name := Str.ofString "__getitem__") ht'.typeIs slot_tuple_getitem
    (wpAny_call_entry slot_tuple_getitem ht'.typeIs entry_tuple_getitem ?_ (args_tuple_getitem _ _)))
  show wpAny _ _ (Builtin.Tuple.tupleItemsOf (.ref t) >>= _) _ _ s
  refine wpAny_bind (tupleItemsOf_ ht' ?_)
  refine wpAny_bind (wpAny_typeOf hTs ?_)
  rw [if_pos (by decide)]
  refine wpAny_bind (sliceApplied_run hs ha hab ?_)
  show wpAny _ _ (if ((a : Int) == 0 && (1 : Int) == 1 && (min b items.size - a) == items.size) = true then _ else _) _ _ s
  by_cases hc : ((a : Int) == 0 && (1 : Int) == 1 && (min b items.size - a) == items.size) = true
  · rw [if_pos hc]
    simp only [Bool.and_eq_true, beq_iff_eq] at hc
    have h0 : a = 0 := by omega
    have h1 : items.size ≤ b := by omega
    have hex : wpAny (model prog w) A.in1 (Builtin.Tuple.tupleIsExact (.ref t)) (fun b s' => b = true ∧ s' = s) (fun _ _ => False) s := by
      unfold Builtin.Tuple.tupleIsExact
      exact wpAny_bind (wpAny_typeOf ht'.typeIs (wpAny_pure ⟨rfl, rfl⟩))
    refine wpAny_bind (wpAny_mono hex (fun bb s' ⟨e1, e2⟩ => ?_) fun _ _ f => f.elim)
    subst e1 e2
    simp only [if_true]
    first
      | exact wpAny_bind (wpAny_rule (wpAny_bind (wpAny_pure (wpAny_pure ⟨_, rfl, wpAny_pure (hw h0 h1)⟩))))
      | exact wpAny_bind (wpAny_rule (wpAny_pure ⟨_, rfl, wpAny_pure (hw h0 h1)⟩))
  · rw [if_neg hc]
    have hdrop : sizeOk (.seq ((List.range (min b items.size - a)).filterMap fun (k : Nat) => items[((a : Int) + (k : Int) * 1).toNat]?).toArray) := by
      show _ ≤ sizeLine
      have hl := congrArg List.length (pick_run' items a (min b items.size - a))
      rw [Array.length_toList, List.length_take, List.length_drop, Array.length_toList] at hl
      exact Nat.le_trans (Nat.le_of_eq hl) (Nat.le_trans (Nat.min_le_right _ _) (Nat.le_trans (Nat.sub_le _ _) hsz))
    have hq := h ((List.range (min b items.size - a)).filterMap fun (k : Nat) => items[((a : Int) + (k : Int) * 1).toNat]?).toArray (by
      rw [pick_run']
      by_cases hb : b ≤ items.size
      · rw [Nat.min_eq_left hb]
      · rw [Nat.min_eq_right (by omega), List.take_of_length_le (by simp), List.take_of_length_le (by simp; omega)])
    first
      | exact wpAny_bind (m := Builtin.Tuple.tupleExact _) (wpAny_newObj_type (wpAny_pure ⟨_, rfl, wpAny_pure hq⟩) hdrop)
      | exact wpAny_bind (m := Builtin.Tuple.tupleExact _) (wpAny_newObj_type (wpAny_bind (wpAny_pure (wpAny_pure ⟨_, rfl, wpAny_pure hq⟩))) hdrop)
      | exact wpAny_bind (wpAny_bind (m := Builtin.Tuple.tupleExact _) (wpAny_newObj_type (wpAny_pure (wpAny_pure ⟨_, rfl, wpAny_pure hq⟩)) hdrop))
      | exact wpAny_bind (wpAny_bind (m := Builtin.Tuple.tupleExact _) (wpAny_newObj_type (wpAny_pure ⟨_, rfl, wpAny_pure hq⟩) hdrop))
end
end Mine
namespace Mine
section
variable {prog : Program} {w : World} {B : BS} {F : FC} {ρ ρ' ρ₁ ρ₂ ρc : List (Str × D)} {σ σ' σ₁ σ₂ σ₃ : List (Addr × MO)} {h h' h1 h2 h3 : Heap} {s : Shared} {a : Addr}
theorem Ev.sliceT {l lo hi : Expr} {a b : Nat} {p pos : Pos} {xs : List D} (x : Ev prog w B F ρ σ l (.tup xs) σ₁) (y : Ev prog w B F ρ σ₁ lo (.int a) σ₂) (z : Ev prog w B F ρ σ₂ hi (.int b) σ₃) (ha : a ≤ xs.length) (hab : a ≤ b) (hsz : xs.length ≤ sizeLine) :
    Ev prog w B F ρ σ (.Subscript l (.Slice (some lo) (some hi) none p) pos) (.tup ((xs.drop a).take (b - a))) σ₃ := fun s H =>
  Subscript_ (x.use H fun va h1 t1 e1 H1 r1 => wpAny_Slice (by
    rw [evalPart_some, evalPart_some, evalPart_none]
    refine y.use (s := { s with heap := h1, toks := t1 }) H1 fun vb h2 t2 e2 H2 pa => z.use (s := { s with heap := h2, toks := t2 }) H2 fun vc h3 t3 e3 H3 pb => ?_
    refine wpAny_pure ?_
    have r1' := R.mono ((Ext.hide e2).trans (Ext.hide e3)) r1
    have r1'' := r1'
    simp only [R] at r1' pa pb
    obtain ⟨ad, vs, n, rfl, ht, hr⟩ := r1'
    obtain ⟨u, rfl⟩ := pa
    obtain ⟨v, rfl⟩ := pb
    have H4 := H3.push { cls := .type "slice", data := .fields #[.int a u, .int b v, .none] }
    have ht4 := sub_push h3 { cls := .type "slice", data := .fields #[.int a u, .int b v, .none] } _ _ (of_hideAll _ ht)
    have m4 := (Ext.of_sub (F := F) (sub_push h3 { cls := .type "slice", data := .fields #[.int a u, .int b v, .none] })).hide
    have hsz' := sizeOf_RL hr
    refine subTail (M := model prog w) (T := "tuple") ⟨_, ht4, rfl⟩ PySem.F.slot_tuple_getitem.lookup (getItem_tuple_run (items := vs) ht4 (Heap.IsSliceOf.new ..) (by omega) hab (fun ws hws => ?_) (fun h0 hb => ?_) (by omega)) subscripted_slice
    · have pp := Post.newTup (s := { s with heap := h3.push { cls := .type "slice", data := .fields #[.int a u, .int b v, .none] }, toks := t3 }) (vs := ws.toList) (ds := (xs.drop a).take (b - a)) (tk := t3) H4 (by rw [hws]; exact RL.take _ (RL.drop _ (RL.mono m4 hr)))
      exact Post.after ((e1.trans e2).trans (e3.trans (Ext.of_sub (sub_push h3 _)))) (by simpa using pp)
    · subst h0
      have e : (xs.drop 0).take (b - 0) = xs := by rw [List.drop_zero, List.take_of_length_le (by omega)]
      rw [e]
      exact ⟨_, t3, rfl, (e1.trans e2).trans (e3.trans (Ext.of_sub (sub_push h3 _))), H4, R.mono m4 r1''⟩))

/-! ### paths as keys -/
/-- a path: pairs of a kind and numbers -/
def segD (p : Int × List Int) : D := .tup [.int p.1, .tup (I p.2)]
def pathD (k : List (Int × List Int)) : D := .tup (k.map segD)

theorem intsRL_inj : ∀ {x y : List Int} {vs : List Value}, RL prog w h vs (I x) → RL prog w h vs (I y) → x = y := fun {x y vs} hx hy => by
  have a := RL.ints hx
  have b := RL.ints hy
  induction a generalizing y with
  | nil => cases b; rfl
  | cons n t r ih =>
    cases b with
    | cons m u r2 => rw [ih (y := _) (RL.of_ints r) (RL.of_ints r2) r2]
theorem seg_inj {p q : Int × List Int} {v : Value} (hx : R prog w h v (segD p)) (hy : R prog w h v (segD q)) : p = q := by
  obtain ⟨k1, l1⟩ := p
  obtain ⟨k2, l2⟩ := q
  obtain ⟨a, v1, v2, n, rfl, ht, r1, r2⟩ := pair_items hx
  obtain ⟨b, u1, u2, m, e, ht2, q1, q2⟩ := pair_items hy
  cases e
  have := ht.symm.trans ht2
  cases this
  simp only [R] at r1 q1
  obtain ⟨t1, rfl⟩ := r1
  obtain ⟨t2, e⟩ := q1
  cases e
  simp only [R] at r2 q2
  obtain ⟨a2, vs, n2, rfl, ha, hra⟩ := r2
  obtain ⟨b2, us, m2, e, hb, hrb⟩ := q2
  cases e
  have := ha.symm.trans hb
  cases this
  rw [intsRL_inj hra hrb]
theorem segs_inj : ∀ {x y : List (Int × List Int)} {vs : List Value}, RL prog w h vs (x.map segD) → RL prog w h vs (y.map segD) → x = y
  | [], [], _, _, _ => rfl
  | [], q :: y, vs, hx, hy => by simp only [List.map_nil, List.map_cons, RL] at hx hy; subst hx; obtain ⟨_, _, e, _⟩ := hy; cases e
  | p :: x, [], vs, hx, hy => by simp only [List.map_nil, List.map_cons, RL] at hx hy; subst hy; obtain ⟨_, _, e, _⟩ := hx; cases e
  | p :: x, q :: y, vs, hx, hy => by
    simp only [List.map_cons, RL] at hx hy
    obtain ⟨v, r, rfl, r1, r2⟩ := hx
    obtain ⟨v', r', e, q1, q2⟩ := hy
    cases e
    rw [seg_inj r1 q1, segs_inj r2 q2]
theorem path_inj {x y : List (Int × List Int)} {v : Value} (hx : R prog w h v (pathD x)) (hy : R prog w h v (pathD y)) : x = y := by
  simp only [pathD, R] at hx hy
  obtain ⟨a, vs, n, rfl, ha, hra⟩ := hx
  obtain ⟨b, us, m, e, hb, hrb⟩ := hy
  cases e
  have := ha.symm.trans hb
  cases this
  exact segs_inj hra hrb

mutual
/-- plain data stands where no tuple or list is written -/
theorem R.keepsT {h h' : Heap} (hs : ∀ b o its n, h.get? b = some o → o.data = .seq its n → h'.get? b = some o) : ∀ {d : D} {v : Value}, pl d = true → R prog w h v d → R prog w h' v d
  | .none, _, _, x => by simpa only [R] using x
  | .bool _, _, _, x => by simpa only [R] using x
  | .int _, _, _, x => by simpa only [R] using x
  | .tup ds, _, p, x => by
    simp only [R] at x ⊢
    obtain ⟨a, vs, n, rfl, ht, hr⟩ := x
    exact ⟨a, vs, n, rfl, hs _ _ _ _ ht rfl, RL.keepsT hs (by simpa only [pl] using p) hr⟩
  | .list ds, _, p, x => by
    simp only [R] at x ⊢
    obtain ⟨a, vs, n, rfl, ht, hr⟩ := x
    exact ⟨a, vs, n, rfl, hs _ _ _ _ ht rfl, RL.keepsT hs (by simpa only [pl] using p) hr⟩
  | .str _, _, p, _ => by simp [pl] at p
  | .sdict _ _, _, p, _ => by simp [pl] at p
  | .loc _, _, p, _ => by simp [pl] at p
  | .rng _ _ _, _, p, _ => by simp [pl] at p
  | .idict _, _, p, _ => by simp [pl] at p
  | .tdict _, _, p, _ => by simp [pl] at p
theorem RL.keepsT {h h' : Heap} (hs : ∀ b o its n, h.get? b = some o → o.data = .seq its n → h'.get? b = some o) : ∀ {ds : List D} {vs : List Value}, plL ds = true → RL prog w h vs ds → RL prog w h' vs ds
  | [], _, _, x => by simpa only [RL] using x
  | d :: ds, _, p, x => by
    simp only [plL, Bool.and_eq_true] at p
    simp only [RL] at x ⊢
    obtain ⟨v, r, rfl, h1, h2⟩ := x
    exact ⟨v, r, rfl, R.keepsT hs p.1 h1, RL.keepsT hs p.2 h2⟩
end

theorem pl_seg (p : Int × List Int) : pl (segD p) = true := by simp [segD, pl, plL, I_pl]
theorem pl_path : ∀ k : List (Int × List Int), plL (k.map segD) = true
  | [] => rfl
  | p :: k => by simp [plL, pl_seg, pl_path k]
theorem depth_I (ns : List Int) : PyData.depthAll (toPyL (I ns)) = 0 := by rw [I_py, depth_ints]
theorem depth_seg (p : Int × List Int) : (toPy (segD p)).depth ≤ 2 := by
  simp [segD, toPy, toPyL, PyData.depth, PyData.depthAll, depth_I]
theorem depth_segs : ∀ k : List (Int × List Int), PyData.depthAll (toPyL (k.map segD)) ≤ 2
  | [] => by simp [toPyL, PyData.depthAll]
  | p :: k => by
    have h1 := depth_seg p
    have h2 := depth_segs k
    simp only [List.map_cons, toPyL, PyData.depthAll]
    omega
theorem Pl_path (k : List (Int × List Int)) : Pl (pathD k) := ⟨by simp only [pathD, pl]; exact pl_path k, by
  have := depth_segs k
  simp only [pathD, toPy, PyData.depth]
  omega⟩

theorem toPyL_map {α : Type} (f : α → D) : ∀ l : List α, toPyL (l.map f) = l.map fun x => toPy (f x)
  | [] => rfl
  | x :: l => by simp only [List.map_cons, toPyL, toPyL_map f l]
theorem eqvAll_map {α : Type} [DecidableEq α] (f : α → PyData) (hf : ∀ a b, PyData.eqv (f a) (f b) = decide (a = b)) : ∀ x y : List α, PyData.eqvAll (x.map f) (y.map f) = decide (x = y)
  | [], [] => by simp [PyData.eqvAll]
  | [], _ :: _ => by simp [PyData.eqvAll]
  | _ :: _, [] => by simp [PyData.eqvAll]
  | a :: x, b :: y => by
    simp only [List.map_cons, PyData.eqvAll, hf, eqvAll_map f hf x y, List.cons.injEq, Bool.decide_and]
theorem eqD_int (a b : Int) : eqD (.int a) (.int b) = decide (a = b) := by
  simp only [eqD, toPy, PyData.eqv]
  by_cases h : a = b <;> simp [h]
theorem eqD_listMap {α : Type} [DecidableEq α] (f : α → D) (hf : ∀ a b, eqD (f a) (f b) = decide (a = b)) (x y : List α) : eqD (.list (x.map f)) (.list (y.map f)) = decide (x = y) := by
  simp only [eqD, toPy, PyData.eqv, toPyL_map]
  exact eqvAll_map _ hf x y
theorem eqD_tupMap {α : Type} [DecidableEq α] (f : α → D) (hf : ∀ a b, eqD (f a) (f b) = decide (a = b)) (x y : List α) : eqD (.tup (x.map f)) (.tup (y.map f)) = decide (x = y) := by
  simp only [eqD, toPy, PyData.eqv, toPyL_map]
  exact eqvAll_map _ hf x y
theorem eqD_listI (x y : List Int) : eqD (.list (I x)) (.list (I y)) = decide (x = y) := eqD_listMap _ eqD_int x y
theorem eqD_tupI (x y : List Int) : eqD (.tup (I x)) (.tup (I y)) = decide (x = y) := eqD_tupMap _ eqD_int x y
theorem eqD_seg (p q : Int × List Int) : eqD (segD p) (segD q) = decide (p = q) := by
  have h1 := eqD_int p.1 q.1
  have h2 := eqD_tupI p.2 q.2
  simp only [eqD, segD, toPy, toPyL, PyData.eqv, PyData.eqvAll, Bool.and_true] at h1 h2 ⊢
  rw [h1, h2]
  obtain ⟨a, b⟩ := p
  obtain ⟨c, d⟩ := q
  simp only [Prod.mk.injEq, Bool.decide_and]
theorem eqD_path (x y : List (Int × List Int)) : eqD (pathD x) (pathD y) = decide (x = y) := eqD_tupMap _ eqD_seg x y

/-! hashes -/
def HS (prog : Program) (w : World) (h : Heap) (k : Nat) (v : Value) (hv : Int) (n : Nat) : Prop :=
  ∀ (A : Around) (E : Value → Shared → Prop) (s : Shared) (Q : Int → Shared → Prop), A.units + k < cLine → s.heap = h → Q hv { s with toks := s.toks + n } → wpAny (model prog w) A (pyHash v) Q E s
inductive HSL (prog : Program) (w : World) (h : Heap) (k : Nat) : List Value → List Int → Nat → Prop
  | nil : HSL prog w h k [] [] 0
  | cons {v : Value} {vs : List Value} {x : Int} {xs : List Int} {n m : Nat} : HS prog w h k v x n → HSL prog w h k vs xs m → HSL prog w h k (v :: vs) (x :: xs) (n + m)
def iH (prog : Program) (w : World) (i : Int) : Int := (intKind prog w).hash i
theorem HS.int {i : Int} {t : Tok} : HS prog w h k (.int i t) (iH prog w i) 1 := fun A E s Q hu hs hq => (intKind prog w).pyHash (intKind_is prog w i t) hq
end
section
variable {prog : Program} {w : World} {h : Heap} {a : Addr} {k : Nat}
def tH (l : List Int) : Int := reduceHash (Builtin.Tuple.tupleHashOf l)
theorem HS.tup {items : Array Value} {n m : Nat} {xs : List Int} (ho : IsT h a items m) (hl : HSL prog w h k items.toList xs n) : HS prog w h (k + 1) (.ref a) (tH xs) (n + 1) := fun A E s Q hu hs hq => by
  subst hs
  have hT : s.TypeIs (.ref a) "tuple" := ⟨_, ho, rfl⟩
  have hu0 : A.units < cLine := by omega
  unfold pyHash
  first | unfold pyHashByItsType | skip
  first | refine wpAny_bind (wpAny_cRoomFor_or (.inr hu0) ?_) | skip
  refine wpAny_bind (wpAny_specialOf hT PySem.F.slot_tuple_hash.lookup ?_)
  show wpAny _ _ (if (some (Value.builtin "tuple.__hash__") == some Value.none) = true then _ else _) Q E s
  rw [if_neg (by rw [beq_builtin_none]; exact Bool.false_ne_true)]
  refine wpAny_bind (wpAny_specialOf hT PySem.F.slot_tuple_hash.lookup ?_)
  show wpAny _ _ (callSpecialIfBoundUnlessNone? (.ref a) "__hash__" _ >>= _) Q E s
  refine wpAny_bind (wpAny_callSpecialIfBoundUnlessNone?_slot hT PySem.F.slot_tuple_hash (wpAny_call_entry PySem.F.slot_tuple_hash hT PySem.F.entry_tuple_hash ?_ (PySem.F.args_tuple_hash_1 _)))
  show wpAny _ _ (Builtin.Tuple.tupleItemsOf (.ref a) >>= _) _ _ s
  refine wpAny_bind (wpAny_tupleItemsOf ho rfl ?_)
  refine wpAny_bind ?_
  rw [← Array.forIn_toList]
  refine wpAny_forIn_list _
    (fun rest (b : Array Int) s' => ∃ done left c l, xs = done ++ left ∧ HSL prog w s.heap k rest left c ∧ b.toList = done ∧ l + c = n ∧ s' = { s with toks := s.toks + l })
    _ ?_ ?_ _ _ ⟨[], xs, n, 0, rfl, hl, rfl, by omega, rfl⟩
  · rintro x rest b s' ⟨done, left, c, l, rfl, hl', hb, hlc, rfl⟩
    cases hl' with
    | @cons v vs y ys c1 c2 h1 hl2 =>
      refine wpAny_bind (h1 _ _ _ _ (by simp; omega) rfl ?_)
      first
        | exact wpAny_pure ⟨done ++ [y], ys, c2, l + c1, by simp, hl2, by simp [hb], by omega, by simp [Nat.add_assoc]⟩
        | exact wpAny_bind (wpAny_pure (wpAny_pure ⟨done ++ [y], ys, c2, l + c1, by simp, hl2, by simp [hb], by omega, by simp [Nat.add_assoc]⟩))
  · rintro b s' ⟨done, left, c, l, rfl, hl', hb, hlc, rfl⟩
    cases hl'
    rw [List.append_nil] at hq
    have hln : l = n := by omega
    subst hln
    show wpAny _ _ (retInt (Builtin.Tuple.tupleHashOf b.toList)) _ _ _
    rw [hb]
    refine wpAny_ret_mkInt ?_
    show wpAny _ _ (if (decide (-(2 : Int) ^ 63 ≤ Builtin.Tuple.tupleHashOf done) && decide (Builtin.Tuple.tupleHashOf done < 2 ^ 63)) = true then _ else _) Q E _
    unfold tH reduceHash at hq
    by_cases hr : (decide (-(2 : Int) ^ 63 ≤ Builtin.Tuple.tupleHashOf done) && decide (Builtin.Tuple.tupleHashOf done < 2 ^ 63)) = true
    · rw [if_pos hr]
      rw [if_pos hr] at hq
      exact wpAny_pure (by simpa [Nat.add_assoc] using hq)
    · rw [if_neg hr]
      rw [if_neg hr] at hq
      exact wpAny_bind (wpAny_rule (wpAny_pure (by simpa [Nat.add_assoc] using hq)))

/-! keys whose == asks nobody -/
def QS (prog : Program) (w : World) (h : Heap) (k : Nat) (v : Value) : Prop :=
  ∀ (A : Around) (E : Value → Shared → Prop) (s : Shared) (Q : Bool → Shared → Prop), s.heap = h → Q true s → wpAny (model prog w) A (eqIsQuiet k v) Q E s
theorem QS.int {i : Int} {t : Tok} : QS prog w h k (.int i t) := fun A E s Q hs hq => by
  rw [eqIsQuiet_byValue _ rfl]; exact wpAny_pure hq
theorem QS.tup {items : Array Value} {m : Nat} (ho : IsT h a items m) (hl : ∀ v ∈ items.toList, QS prog w h k v) : QS prog w h (k + 1) (.ref a) := fun A E s Q hs hq => by
  subst hs
  have hT : s.TypeIs (.ref a) "tuple" := ⟨_, ho, rfl⟩
  unfold eqIsQuiet
  refine wpAny_bind (wpAny_specialOf hT PySem.F.slot_tuple_eq.lookup ?_)
  show wpAny _ _ (isInstance (.ref a) (.type "tuple") >>= _) _ _ s
  refine wpAny_bind (wpAny_isInstance hT isSubtype_tuple_tuple ?_)
  simp only [Bool.not_true, Bool.false_eq_true, if_false]
  refine wpAny_bind (wpAny_seqItems ho rfl ?_)
  refine wpAny_bind ?_
  show wpAny _ _ (forIn items _ _) _ _ s
  rw [← Array.forIn_toList]
  refine wpAny_forIn_list _ (fun rest r s' => r.1 = none ∧ s' = s ∧ ∀ v ∈ rest, QS prog w s.heap k v) _ ?_ ?_ _ _ ⟨rfl, rfl, hl⟩
  · rintro v rest r s' ⟨hr, rfl, hall⟩
    refine wpAny_bind (hall v List.mem_cons_self _ _ _ _ rfl ?_)
    simp only [Bool.not_true, Bool.false_eq_true, if_false]
    exact wpAny_pure ⟨rfl, rfl, fun u hu' => hall u (List.mem_cons_of_mem _ hu')⟩
  · rintro ⟨r1, r2⟩ s' ⟨hr, rfl, _⟩
    simp only at hr
    subst hr
    exact wpAny_pure hq
end
end Mine
namespace Mine
abbrev Path := List (Int × List Int)
section
variable {prog : Program} {w : World} {h h' : Heap} {s : Shared} {a : Addr}
theorem HSL.ints {k : Nat} : ∀ {ns : List Int} {vs : List Value}, IntsAre vs ns → HSL prog w h k vs (ns.map (iH prog w)) ns.length
  | _, _, .nil => .nil
  | _, _, .cons n t r => by
    have := HSL.cons (k := k) (HS.int (prog := prog) (w := w) (h := h) (i := n) (t := t)) (HSL.ints r)
    rw [Nat.add_comm] at this
    exact this
def segH (prog : Program) (w : World) (p : Int × List Int) : Int := tH [iH prog w p.1, tH (p.2.map (iH prog w))]
def segN (p : Int × List Int) : Nat := 1 + ((p.2.length + 1) + 0) + 1
theorem HS.seg {v : Value} {p : Int × List Int} (r : R prog w h v (segD p)) : HS prog w h 3 v (segH prog w p) (segN p) := by
  obtain ⟨a, v1, v2, n, rfl, ht, r1, r2⟩ := pair_items r
  simp only [R] at r1
  obtain ⟨t, rfl⟩ := r1
  simp only [R] at r2
  obtain ⟨b, vs, m, rfl, hb, hr⟩ := r2
  exact HS.tup (k := 2) ht (.cons HS.int (.cons (HS.tup hb (HSL.ints (RL.ints hr))) .nil))
theorem HSL.segs : ∀ {ps : Path} {vs : List Value}, RL prog w h vs (ps.map segD) → HSL prog w h 3 vs (ps.map (segH prog w)) (ps.map segN).sum
  | [], _, r => by simp only [List.map_nil, RL] at r; subst r; exact .nil
  | p :: ps, _, r => by
    simp only [List.map_cons, RL] at r
    obtain ⟨v, q, rfl, r1, r2⟩ := r
    simpa using HSL.cons (HS.seg r1) (HSL.segs r2)
theorem QS.ints {k : Nat} : ∀ {ns : List Int} {vs : List Value}, IntsAre vs ns → ∀ v ∈ vs, QS prog w h k v
  | _, _, .nil, v, hv => by simp at hv
  | _, _, .cons n t r, v, hv => by
    rcases List.mem_cons.mp hv with e | hv
    · subst e; exact QS.int
    · exact QS.ints r v hv
theorem QS.seg {v : Value} {p : Int × List Int} (r : R prog w h v (segD p)) : QS prog w h 7 v := by
  obtain ⟨a, v1, v2, n, rfl, ht, r1, r2⟩ := pair_items r
  simp only [R] at r1
  obtain ⟨t, rfl⟩ := r1
  simp only [R] at r2
  obtain ⟨b, vs, m, rfl, hb, hr⟩ := r2
  refine QS.tup (k := 6) ht fun v hv => ?_
  simp at hv
  rcases hv with rfl | rfl
  · exact QS.int
  · exact QS.tup (k := 5) hb (QS.ints (RL.ints hr))
theorem QS.segs : ∀ {ps : Path} {vs : List Value}, RL prog w h vs (ps.map segD) → ∀ v ∈ vs, QS prog w h 7 v
  | [], _, r, v, hv => by simp only [List.map_nil, RL] at r; subst r; simp at hv
  | p :: ps, _, r, v, hv => by
    simp only [List.map_cons, RL] at r
    obtain ⟨u, q, rfl, r1, r2⟩ := r
    rcases List.mem_cons.mp hv with e | hv
    · subst e; exact QS.seg r1
    · exact QS.segs r2 v hv
end
def pathKind (prog : Program) (w : World) : HeapKind prog w Path where
  is := fun h k a => R prog w h (.ref a) (pathD k)
  hash := fun k => tH (k.map (segH prog w))
  draws := fun k => (k.map segN).sum + 1
  room := fun A => A.units + 100 < cLine
  inj := fun hx hy => path_inj hx hy
  keeps := fun {h h' k a d o es ep} x ho hd hs => R.keepsT (fun b q its n e hq => (hs.2 b fun z => by subst z; rw [ho] at e; cases e; rw [hd] at hq; cases hq).trans e) (by simp only [pathD, pl]; exact pl_path k) x
  pyHash := fun {A E s k a Q} hu hk hq => by
    simp only [pathD, R] at hk
    obtain ⟨b, vs, n, e, ht, hr⟩ := hk
    cases e
    exact HS.tup ht (HSL.segs hr) A E s Q (by omega) rfl hq
  eqBool := fun {A E s x y a b Q} hu hx hy hq => by
    obtain ⟨as, ra⟩ := R.reads hx (Pl_path x).1
    obtain ⟨bs, rb⟩ := R.reads hy (Pl_path y).1
    refine (keq_at ra rb (Pl_path x).shaped (Pl_path y).shaped (by simp only [Around.in1_units]; omega)).of_in1 _ _ _ _ ?_
    have := eqD_path x y
    unfold eqD at this
    rw [this]; exact hq
  quiet := fun {A E s k a Q} hk hq => by
    simp only [pathD, R] at hk
    obtain ⟨b, vs, n, e, ht, hr⟩ := hk
    cases e
    exact QS.tup (k := 7) ht (QS.segs hr) A E s Q rfl hq

section
variable {prog : Program} {w : World} {B : BS} {F : FC} {ρ ρ' ρ₁ ρ₂ ρc : List (Str × D)} {σ σ' σ₁ σ₂ σ₃ : List (Addr × MO)} {h h' h1 h2 h3 : Heap} {s : Shared} {a : Addr}

theorem keys_storedH (xs : List (Path × Addr × Value)) (k : Path) (a : Addr) (v : Value) : (storedH xs k a v).map (·.1) = addK (xs.map (·.1)) k := by
  unfold addK
  cases hk : atKey xs k with
  | none =>
    rw [storedH_new hk]
    have : k ∉ xs.map (·.1) := by
      intro hm
      obtain ⟨p, hp, e⟩ := List.mem_map.mp hm
      have hn : (xs.find? fun x => decide (x.1 = k)) = none := by
        unfold atKey at hk
        cases hq : xs.find? fun x => decide (x.1 = k) with
        | none => rfl
        | some q => rw [hq] at hk; simp at hk
      have := List.find?_eq_none.mp hn p hp
      simp [e] at this
    rw [if_neg this]; simp
  | some p =>
    rw [storedH_old hk, keys_map_putAt]
    have : k ∈ xs.map (·.1) := by
      unfold atKey at hk
      cases hq : xs.find? fun x => decide (x.1 = k) with
      | none => rw [hq] at hk; simp at hk
      | some q =>
        have h1 := List.mem_of_find?_eq_some hq
        have h2 := List.find?_some hq
        exact List.mem_map.mpr ⟨q, h1, by simpa using h2⟩
    rw [if_pos this]

def PairsP (prog : Program) (w : World) (h : Heap) (vs : List Value) (ks : List Path) : Prop := ks.length = vs.length ∧ ∀ (i : Nat) (k : Path), ks[i]? = some k → ∃ p b n, vs[i]? = some (Value.ref p) ∧ IsT h p #[.ref b, .bool true] n ∧ R prog w h (.ref b) (pathD k)

theorem PairsP.keeps {vs : List Value} {ks : List Path} (x : PairsP prog w h vs ks) (hs : ∀ b o its n, h.get? b = some o → o.data = .seq its n → h'.get? b = some o) : PairsP prog w h' vs ks :=
  ⟨x.1, fun i k e => let ⟨p, b, n, e1, e2, e3⟩ := x.2 i k e; ⟨p, b, n, e1, hs _ _ _ _ e2 rfl, R.keepsT hs (Pl_path k).1 e3⟩⟩

theorem upd_loopH {A : Around} {R' : Result → Shared → Prop} {I l d : Addr} {vs : Array Value} {nl : Nat} {ks : List Path} {result : Value} (hh : A.handled = none) (hu : A.units + 101 < cLine) (hIl : I ≠ l) (hId : I ≠ d) (hdl : d ≠ l) {N : Nat} (hsz : vs.size + N ≤ sizeLine) :
    ∀ (m i : Nat) (s : Shared) (xs : List (Path × Addr × Value)), vs.size - i = m → i ≤ vs.size → xs.length ≤ i + N → PairsP prog w s.heap vs.toList ks → s.heap.IsListIter I l i → IsL s.heap l vs nl → s.heap.DictOfH (pathKind prog w) d xs →
      (∀ h' tk xs', (∀ b o, b ≠ I → b ≠ d → s.heap.get? b = some o → h'.get? b = some o) → h'.DictOfH (pathKind prog w) d xs' → xs'.map (·.1) = addKs (xs.map (·.1)) (ks.drop i) → R' (.ok (.ret result)) { s with heap := h', toks := tk }) →
      codeAny (model prog w) A (.builtin "dict.update.loop" ⟨[.ref d, .ref I, rawInt i, result], []⟩) R' s := by
  intro m
  induction m with
  | zero =>
    intro i s xs hm hi hlen hP hit hl hd hR
    refine codeAny_builtin entry_upd_loop ?_
    rw [Around.under_plainId plain_upd_loop _]
    unfold Builtin.«dict.update.loop»
    show wpAny _ _ (pyNext (.ref I) >>= _) _ _ _
    refine wpAny_bind (wpAny_pyNext_list_end hh hit ⟨_, hl, rfl, nl, rfl⟩ (by simp; omega) fun h' hx => ?_)
    show wpAny _ _ (Builtin.Dict.addKeywords d [] >>= _) _ _ _
    refine wpAny_bind (wpAny_pure (wpAny_pure ?_))
    have e0 : ks.drop i = [] := by rw [List.drop_eq_nil_iff, hP.1]; simp; omega
    refine hR h' s.toks xs (fun b o h1 h2 e => hx b o h1 e) ?_ (by rw [e0]; rfl)
    obtain ⟨o, es, ep, ho, hc, hdat, he, his, hn⟩ := hd
    refine ⟨o, es, ep, hx d o (Ne.symm hId) ho, hc, hdat, he, fun x hxm => ?_, hn⟩
    refine R.keepsT (fun b q its n e hq => hx b q (fun z => ?_) e) (Pl_path x.1).1 (his x hxm)
    subst z
    obtain ⟨oi, hoi, _, hdi⟩ := hit
    rw [hoi] at e; cases e; rw [hdi] at hq; cases hq
  | succ m ih =>
    intro i s xs hm hi hlen hP hit hl hd hR
    have hlt : i < vs.size := by omega
    have hik : i < ks.length := by rw [hP.1]; simpa using hlt
    obtain ⟨p, b, n, hv, hp, hb⟩ := hP.2 i ks[i] (List.getElem?_eq_getElem hik)
    have notI : ∀ {hh : Heap} {q : Addr} {oq : Obj} {its n}, s.heap.get? q = some oq → oq.data = .seq its n → q ≠ I := by
      intro hh q oq its n e hq z
      subst z
      obtain ⟨oi, hoi, _, hdi⟩ := hit
      rw [hoi] at e; cases e; rw [hdi] at hq; cases hq
    have notD : ∀ {q : Addr} {oq : Obj} {its n}, s.heap.get? q = some oq → oq.data = .seq its n → q ≠ d := by
      intro q oq its n e hq z
      subst z
      obtain ⟨o, es, ep, ho, hc, hdat, _⟩ := hd
      rw [ho] at e; cases e; rw [hdat] at hq; cases hq
    refine codeAny_builtin entry_upd_loop ?_
    rw [Around.under_plainId plain_upd_loop _]
    unfold Builtin.«dict.update.loop»
    show wpAny _ _ (pyNext (.ref I) >>= _) _ _ _
    refine wpAny_bind (wpAny_pyNext_list_item hit ⟨_, hl, rfl, nl, rfl⟩ (x := .ref p) (by simpa using hv) fun h1 hit1 hs1 => ?_)
    have seq1 : ∀ q oq its n, s.heap.get? q = some oq → oq.data = .seq its n → h1.get? q = some oq := fun q oq its n e hq => (hs1.2 q (notI (hh := s.heap) e hq)).trans e
    have hp1 : h1.get? p = some { cls := .type "tuple", dict := none, data := .seq #[.ref b, .bool true] n, slots := #[] } := seq1 p _ _ _ hp rfl
    have hl1 : IsL h1 l vs nl := seq1 l _ _ _ hl rfl
    have hb1 : R prog w h1 (.ref b) (pathD ks[i]) := R.keepsT seq1 (Pl_path _).1 hb
    have hd1 : h1.DictOfH (pathKind prog w) d xs := by
      obtain ⟨o, es, ep, ho, hc, hdat, he, his, hn⟩ := hd
      exact ⟨o, es, ep, (hs1.2 d (Ne.symm hId)).trans ho, hc, hdat, he, fun x hxm => R.keepsT seq1 (Pl_path x.1).1 (his x hxm), hn⟩
    refine wpAny_bind (wpAny_holding ?_)
    have hpair : ∀ {Q : List Value → Shared → Prop} {E : Value → Shared → Prop}, Q [.ref b, .bool true] { s with heap := h1 } → wpAny (model prog w) A.in1 (Builtin.Dict.pairItems (.ref p)) Q E { s with heap := h1 } := by
      intro Q E hq
      unfold Builtin.Dict.pairItems
      refine wpAny_bind (wpAny_typeOf (T := "tuple") ⟨_, hp1, rfl⟩ ?_)
      rw [if_pos (by decide)]
      exact wpAny_bind (wpAny_seqItems hp1 rfl (wpAny_pure hq))
    refine wpAny_bind (wpAny_tryCatch (hpair ?_))
    refine wpAny_holding (wpAny_dictSet_heap (knd := pathKind prog w) (k := ks[i]) (xs := xs) (by show A.in1.units + 100 < cLine; simp only [Around.in1_units]; omega) hb1 hd1 (fun h2 hd2 hs2 => ?_) (by omega))
    refine wpAny_pure ⟨plainId_quiet plain_upd_loop _, ?_⟩
    have hk2 := keys_storedH xs ks[i] b (Value.bool true)
    have haddlen : (storedH xs ks[i] b (Value.bool true)).length ≤ (i + 1) + N := by
      have : (storedH xs ks[i] b (Value.bool true)).length = (addK (xs.map (·.1)) ks[i]).length := by rw [← hk2, List.length_map]
      rw [this]
      unfold addK
      split
      · rw [List.length_map]; omega
      · rw [List.length_append, List.length_singleton, List.length_map]; omega
    have seq2 : ∀ q oq its n, s.heap.get? q = some oq → oq.data = .seq its n → h2.get? q = some oq := fun q oq its n e hq => (hs2.2 q (notD e hq)).trans (seq1 q oq its n e hq)
    have nxt := ih (i + 1) { s with heap := h2, toks := s.toks + (pathKind prog w).draws ks[i] } (storedH xs ks[i] b (Value.bool true)) (by omega) hlt haddlen (hP.keeps seq2) ?_ (seq2 l _ _ _ hl rfl) hd2 ?_
    · have e2 : rawInt (((i + 1 : Nat) : Int)) = rawInt ((i : Int) + 1) := by push_cast; rfl
      rw [e2] at nxt
      exact nxt
    · obtain ⟨o, ho, r⟩ := hit1; exact ⟨o, (hs2.2 I hId).trans ho, r⟩
    · intro h' tk xs' hk hd' hx'
      refine hR h' tk xs' (fun b o b1 b2 e => hk b o b1 b2 ((hs2.2 b b2).trans ((hs1.2 b b1).trans e))) hd' ?_
      rw [hx', hk2, List.drop_eq_getElem_cons hik]
      rfl
end
end Mine
namespace Mine
section
variable {prog : Program} {w : World} {B : BS} {F : FC} {ρ ρ' ρ₁ ρ₂ ρc : List (Str × D)} {σ σ' σ₁ σ₂ σ₃ : List (Addr × MO)} {h h' h1 h2 h3 : Heap} {s : Shared} {a : Addr}
theorem upd_fromH {A : Around} {R' : Result → Shared → Prop} {id : String} {d l : Addr} {vs : Array Value} {nl : Nat} {ks : List Path} (hh : A.handled = none) (hu : A.units + 101 < cLine)
    (hl : IsL s.heap l vs nl) (hP : PairsP prog w s.heap vs.toList ks) (hd : s.heap.DictOfH (pathKind prog w) d []) (hsz : vs.size ≤ sizeLine)
    (hR : ∀ h' tk xs', (∀ b o, b ≠ d → s.heap.get? b = some o → h'.get? b = some o) → h'.DictOfH (pathKind prog w) d xs' → xs'.map (·.1) = addKs [] ks → R' (.ok (.ret .none)) { s with heap := h', toks := tk }) :
    wpAny (model prog w) A.in1 (Builtin.Dict.updateFrom id d (.ref l) [] .none) (fun fin s' => match fin with | .done f => R' (.ok f) s' | .again c' => c'.quiet = true ∧ codeAny (model prog w) A c' R' s') (fun e s' => R' (.error e) s') s := by
  have hdl : d ≠ l := by
    rintro rfl
    obtain ⟨o, es, ep, ho, hc, hdat, _⟩ := hd
    have hl' : s.heap.get? d = _ := hl
    rw [ho] at hl'
    cases hl'
    cases hdat
  unfold Builtin.Dict.updateFrom
  refine wpAny_bind (wpAny_typeOf (T := "list") ⟨_, hl, rfl⟩ ?_)
  rw [if_pos (by decide)]
  refine wpAny_bind (getAttrQ_list hl hh fun h1 tk1 hk1 => ?_)
  simp only [Option.isNone_none, if_true]
  refine wpAny_bind (wpAny_rule (wpAny_bind (wpAny_pyIter_list (items := vs) ⟨_, hk1 _ _ hl, rfl, nl, rfl⟩ ?_)))
  refine wpAny_pure ⟨plainId_quiet plain_upd_loop _, ?_⟩
  have k2 : Sub s.heap (h1.push { cls := .type "list_iterator", data := .fields #[.ref l, .int 0 0] }) := fun b o e => Heap.get?_push_of_some _ (hk1 _ _ e)
  have hl2 : IsL (h1.push { cls := .type "list_iterator", data := .fields #[.ref l, .int 0 0] }) l vs nl := k2 _ _ hl
  have hIl : h1.objs.size ≠ l := fun e => absurd (Heap.lt_size (hk1 _ _ hl)) (by rw [e]; exact Nat.lt_irrefl _)
  have hd1 : (h1.push { cls := .type "list_iterator", data := .fields #[.ref l, .int 0 0] }).DictOfH (pathKind prog w) d [] := by
    obtain ⟨o, es, ep, ho, hc, hdat, he, his, hn⟩ := hd
    exact ⟨o, es, ep, k2 _ _ ho, hc, hdat, he, fun x hx => by simp at hx, hn⟩
  have hId : h1.objs.size ≠ d := by
    obtain ⟨o, es, ep, ho, _⟩ := hd
    exact fun e => absurd (Heap.lt_size (hk1 _ _ ho)) (by rw [e]; exact Nat.lt_irrefl _)
  refine upd_loopH (N := 0) (I := h1.objs.size) (l := l) (d := d) (vs := vs) (nl := nl) (ks := ks) hh hu hIl hId hdl (by omega) vs.size 0
    { s with heap := h1.push { cls := .type "list_iterator", data := .fields #[.ref l, .int 0 0] }, toks := tk1 } [] (by omega) (Nat.zero_le _) (by simp) (hP.keeps fun b o its n e _ => k2 b o e) ⟨_, Heap.get?_push_size _ rfl, rfl, rfl⟩ hl2 hd1 ?_
  intro h' tk xs' hk hd' hx
  refine hR h' tk xs' (fun b o hb e => hk b o (fun e' => ?_) hb (k2 b o e)) hd' (by simpa using hx)
  exact absurd (Heap.lt_size (hk1 _ _ e)) (by rw [e']; exact Nat.lt_irrefl _)

theorem pairsP_of {H : Heap} : ∀ {ks : List Path} {vs : List Value}, RL prog w H vs (ks.map fun k => D.tup [pathD k, .bool true]) → PairsP prog w H vs ks := by
  intro ks
  induction ks with
  | nil => intro vs r; simp only [List.map_nil, RL] at r; subst r; exact ⟨rfl, fun i k h => by simp at h⟩
  | cons k ks ih =>
    intro vs r
    simp only [List.map_cons, RL] at r
    obtain ⟨v, q, rfl, r1, r2⟩ := r
    obtain ⟨h1, h2⟩ := ih r2
    refine ⟨by simp [h1], fun i k' hi => ?_⟩
    cases i with
    | succ i => simpa using h2 i k' (by simpa using hi)
    | zero =>
      simp at hi; subst hi
      obtain ⟨a, v1, v2, n, rfl, ht, r1, r2⟩ := pair_items r1
      have rb := r1
      simp only [pathD, R] at r1 r2
      obtain ⟨b, _, _, rfl, _⟩ := r1
      subst r2
      exact ⟨a, b, n, rfl, ht, rb⟩

theorem Ev.dictP {e : Expr} {px pos : Pos} {ks : List Path} (y : Ev prog w B F ρ σ e (.list (ks.map fun k => D.tup [pathD k, .bool true])) σ') (hsz : ks.length ≤ sizeLine) (hk : F.env.kindOf "dict" = some .globalImplicit) (hs : noStar e = true := by rfl) :
    Ev prog w B F ρ σ (.Call (.Name "dict" px) [e] [] pos) (.tdict (addKs [] ks).length) σ' :=
  Ev.callB hk (by decide) PyProof.Rows.boot_dict (.ty _) (Evs.cons y Evs.nil hs) (by simp) fun s vs H r => by
    simp only [RL] at r
    obtain ⟨v, _, rfl, r1, rfl⟩ := r
    simp only [R] at r1
    obtain ⟨a, ws, n, rfl, ht, hr⟩ := r1
    have hl := of_hideAll _ ht
    have hP : PairsP prog w s.heap ws.toList ks := pairsP_of (hRL hr)
    have e := sizeOf_RL hr
    rw [List.length_map] at e
    refine callType_codes (Q₁ := fun obj s₁ => obj = .ref s.heap.objs.size ∧ s₁ = { s with heap := s.heap.push { cls := .type "dict", data := .dict #[] } }) PySem.F.kt_called_dict (PySem.F.kt_typeCall_dict_1 _) PySem.F.entry_dict_init (kt_code_dict_new _ ⟨rfl, rfl⟩) ?_
    rintro obj s₁ ⟨rfl, rfl⟩
    have hnew : (s.heap.push { cls := .type "dict", data := .dict #[] }).DictOfH (pathKind prog w) s.heap.objs.size [] := Heap.DictOfH.new s.heap
    refine ⟨hnew.typeIs, PySem.F.args_dict_init_2 _ _, ?_⟩
    unfold Builtin.«dict.__init__»
    refine wpAny_bind ?_
    unfold Builtin.Dict.selfAndRest
    refine wpAny_bind (wpAny_notOrdered_dict hnew.typeIs ?_)
    show wpAny _ _ (pure (s.heap.objs.size, [Value.ref a])) _ _ _
    refine wpAny_pure ?_
    show wpAny _ _ (Builtin.Dict.updateFrom "dict.__init__" s.heap.objs.size (.ref a) [] .none) _ _ _
    have hun := H.ok.un
    refine upd_fromH (s := { s with heap := s.heap.push { cls := .type "dict", data := .dict #[] } }) (A := F.A.in1) (ks := ks) H.ok.hand (by show F.A.units + 1 + 101 < cLine; omega) (Heap.get?_push_of_some _ hl) (hP.keeps fun b o its n e _ => Heap.get?_push_of_some _ e) hnew (by omega) fun h' tk xs' hk' hd' hx => ⟨rfl, ?_⟩
    have hsub : Sub s.heap h' := fun b o e => hk' b o (fun e' => absurd (Heap.lt_size e) (by rw [e']; exact Nat.lt_irrefl _)) (Heap.get?_push_of_some _ e)
    refine Post.grown H hsub ?_
    obtain ⟨o, es, ep, ho, hc, hdat, he, his, hn⟩ := hd'
    simp only [R]
    refine ⟨_, o, es, ep, rfl, H.notSys, hideAll_get _ ho H.freshM, hc, hdat, ?_⟩
    rw [size_of_entries he, ← hx, List.length_map]

theorem Ev.lenTD {e : Expr} {px pos : Pos} {n : Nat} (y : Ev prog w B F ρ σ e (.tdict n) σ') (hsz : n ≤ sizeLine) (hk : F.env.kindOf "len" = some .globalImplicit) (hs : noStar e = true := by rfl) : Ev prog w B F ρ σ (.Call (.Name "len" px) [e] [] pos) (.int n) σ' :=
  Ev.callB hk (by decide) boot_len (.fn _) (Evs.cons y Evs.nil hs) (by simp) fun s vs H r => by
    simp only [RL] at r
    obtain ⟨v, _, rfl, r1, rfl⟩ := r
    simp only [R] at r1
    obtain ⟨a, o, es, ep, rfl, hy, ho0, hc, hdat, hn⟩ := r1
    have ho := of_hideAll _ ho0
    have hT : s.TypeIs (.ref a) "dict" := ⟨o, ho, hc.1⟩
    refine Calls.call_function_entry kind_len plain_len entry_len (args_len1 _) ?_
    unfold Builtin.«len»
    refine wpAny_bind (m := oneArg "len" _) (wpAny_pure ?_)
    refine wpAny_bind (m := callSpecial? (.ref a) (Str.ofString "__len__")) (wpAny_callSpecial?_slot (name := Str.ofString "__len__") hT PySem.F.slot_dict_len
      (call_meetsIn PySem.F.slot_dict_len hT PySem.F.entry_dict_len (PySem.F.args_dict_len_1 _) (S := fun _ R s' => s' = s ∧ R (.ok (.ret (.int n s.toks))) { s with toks := s.toks + 1 }) (.of_wp fun A R s' ⟨e, h⟩ => by
        subst e
        show wpAny _ _ (dictSize a >>= _) _ _ _
        unfold dictSize
        refine wpAny_bind (wpAny_bind (wpAny_dictEntries ho hdat (wpAny_pure ?_)))
        show wpAny _ _ (Builtin.Dict.pendingCount a >>= _) _ _ _
        refine wpAny_bind (wpAny_pendingCount_other hy ?_)
        refine wpAny_ret_mkInt ?_
        rw [Nat.add_zero, hn]; exact h) ⟨rfl, ?_⟩))
    show wpAny _ _ _ _ _ { s with toks := s.toks + 1 }
    refine wpAny_bind (wpAny_holding (wpAny_pure ?_))
    refine wpAny_bind (wpAny_letGo ?_)
    show wpAny _ _ (if ((n : Nat) : Int) < 0 then _ else _) _ _ _
    rw [if_neg (by omega)]
    show wpAny _ _ (if ((n : Nat) : Int) ≥ 2 ^ 63 then _ else _) _ _ _
    rw [if_neg (by have := sz63 hsz; omega)]
    exact wpAny_bind (wpAny_mkInt (wpAny_pure ⟨_, rfl, Post.here H R.int⟩))
end
end Mine
namespace Mine
def stmtAt (n : Nat) : Stmt := PySem.Challenge.pw_rh0198_01.main.body.getD n (.Pass ⟨0, 0, 0, 0⟩)
def fname : Stmt → Str
  | .FunctionDef n _ _ _ _ _ _ _ _ _ => n
  | _ => ""
def fparams : Stmt → Arguments
  | .FunctionDef _ a _ _ _ _ _ _ _ _ => a
  | _ => ⟨[], [], none, [], [], none, []⟩
def fbody : Stmt → List Stmt
  | .FunctionDef _ _ b _ _ _ _ _ _ _ => b
  | _ => []
def fscope : Stmt → Scope
  | .FunctionDef _ _ _ _ _ _ s _ _ _ => s
  | _ => default
def FnAt' (B : BS) (n : Nat) : Prop := FnIs B (fname (stmtAt n)) (fparams (stmtAt n)) (fbody (stmtAt n)) (fscope (stmtAt n))

theorem weak1 {ρ : List (Str × D)} {n : Str} {e : D} (h : ρ.lookup n = none) : ∀ x d, ρ.lookup x = some d → ((n, e) :: ρ).lookup x = some d := fun x d hx => by
  rw [List.lookup_cons]
  by_cases q : x = n
  · subst q; rw [h] at hx; cases hx
  · have q' : (x == n) = false := by simpa using q
    rw [q']; exact hx
theorem weak2 {ρ : List (Str × D)} {n m : Str} {e e' : D} (h : ρ.lookup n = none) (h' : ρ.lookup m = none) : ∀ x d, ρ.lookup x = some d → ((n, e) :: (m, e') :: ρ).lookup x = some d := fun x d hx => by
  rw [List.lookup_cons]
  by_cases q : x = n
  · subst q; rw [h] at hx; cases hx
  · have q' : (x == n) = false := by simpa using q
    rw [q']; exact weak1 h' x d hx
section
variable {prog : Program} {w : World} {B : BS}
structure Glb (prog : Program) (w : World) (B : BS) : Prop where
  set : ∃ v, B.mg "SET" = some v ∧ R prog w B.hb v (.int 1)
  seq : ∃ v, B.mg "SEQUENCE" = some v ∧ R prog w B.hb v (.int 2)
  cset : ∃ v, B.mg "CONFED_SET" = some v ∧ R prog w B.hb v (.int 4)
  kinds : ∃ v as, B.mg "CONFED_KINDS" = some v ∧ Reads B.hb v (.tuple (toPyL (I [3, 4]))) as
  most : ∃ v, B.mg "MOST_IN_SEGMENT" = some v ∧ R prog w B.hb v (.int 255)
theorem Ev.glo {F : FC} {ρ : List (Str × D)} {σ : List (Addr × MO)} {x : Str} {d : D} {pos : Pos} (g : ∃ v, B.mg x = some v ∧ R prog w B.hb v d) (hk : F.env.kindOf x = some .globalImplicit) (hd : (x == ("__debug__" : Str)) = false := by decide) : Ev prog w B F ρ σ (.Name x pos) d σ :=
  let ⟨v, h1, h2⟩ := g; Ev.glob hk h1 h2 hd

theorem Ev.inG {F : FC} {ρ : List (Str × D)} {σ σ₁ : List (Addr × MO)} {l : Expr} {px pos : Pos} {x : Int} {y : Str} {ns : List Int} (p : Ev prog w B F ρ σ l (.int x) σ₁) (g : ∃ v as, B.mg y = some v ∧ Reads B.hb v (.tuple (toPyL (I ns))) as)
    (hk : F.env.kindOf y = some .globalImplicit) (hd : (y == ("__debug__" : Str)) = false := by decide) (hm : behindInMarks .In (.Name y px) = false := by with_unfolding_all rfl) : Ev prog w B F ρ σ (.Compare l [.In] [.Name y px] pos) (.bool (decide (x ∈ ns))) σ₁ := fun s H =>
  wpAny_Compare1 (p.use H fun va h1 t1 e1 H1 r1 => by
    obtain ⟨v, as, hv, hr⟩ := g
    refine Calls.Name_function_global H1.ok.kind hk (Calls.loadGlobal_global H1.ns hv ?_) hd
    obtain ⟨bs, ra⟩ := R.reads (hR r1) rfl
    refine PySem.SeqAt.in_tuple_reads (Reads.keeps (fun b o e => of_hideAll _ (H1.sub b o e)) hr) ra (canLayAll_pl (I_pl ns)) rfl (by have := H1.ok.un; rw [I_py, depth_ints]; omega) ?_
    rw [any_ints]; exact Post.after (tk := t1) e1 (Post.here (s := { s with heap := h1, toks := t1 }) H1 R.bool)) hm
theorem Ev.notInG {F : FC} {ρ : List (Str × D)} {σ σ₁ : List (Addr × MO)} {l : Expr} {px pos : Pos} {x : Int} {y : Str} {ns : List Int} (p : Ev prog w B F ρ σ l (.int x) σ₁) (g : ∃ v as, B.mg y = some v ∧ Reads B.hb v (.tuple (toPyL (I ns))) as)
    (hk : F.env.kindOf y = some .globalImplicit) (hd : (y == ("__debug__" : Str)) = false := by decide) (hm : behindInMarks .NotIn (.Name y px) = false := by with_unfolding_all rfl) : Ev prog w B F ρ σ (.Compare l [.NotIn] [.Name y px] pos) (.bool (!decide (x ∈ ns))) σ₁ := fun s H =>
  wpAny_Compare1 (p.use H fun va h1 t1 e1 H1 r1 => by
    obtain ⟨v, as, hv, hr⟩ := g
    refine Calls.Name_function_global H1.ok.kind hk (Calls.loadGlobal_global H1.ns hv ?_) hd
    obtain ⟨bs, ra⟩ := R.reads (hR r1) rfl
    refine PySem.SeqAt.notIn_tuple_reads (Reads.keeps (fun b o e => of_hideAll _ (H1.sub b o e)) hr) ra (canLayAll_pl (I_pl ns)) rfl (by have := H1.ok.un; rw [I_py, depth_ints]; omega) ?_
    rw [any_ints]; exact Post.after (tk := t1) e1 (Post.here (s := { s with heap := h1, toks := t1 }) H1 R.bool)) hm

theorem Turns.gather {α : Type} {F : FC} {t : Expr} {body : List Stmt} {ρ : List (Str × D)} {a : Addr} {σ : List (Addr × MO)} (g : α → D) (f : α → List D) (K : Nat) : ∀ (xs : List α) (acc : List D),
    (∀ x ∈ xs, ∀ acc : List D, acc.length + (f x).length ≤ K → ∀ I, Free F I → ∃ ρ', Asg prog w B (F.hid I) t (g x) ρ ρ' ∧ Exs prog w B (F.hid I) ρ' ((a, .list acc) :: σ) body (.next ρ ((a, .list (acc ++ f x)) :: σ))) →
    acc.length + (xs.flatMap f).length ≤ K → Turns prog w B F t body (xs.map g) ρ ((a, .list acc) :: σ) (.next ρ ((a, .list (acc ++ xs.flatMap f)) :: σ))
  | [], acc, _, _ => by simpa using Turns.nil
  | x :: xs, acc, step, hK => by
    simp only [List.flatMap_cons, List.length_append] at hK
    have := Turns.cons (step x List.mem_cons_self acc (by omega)) (Turns.gather g f K xs (acc ++ f x) (fun y hy => step y (List.mem_cons_of_mem _ hy)) (by simp only [List.length_append]; omega))
    simpa only [List.map_cons, List.flatMap_cons, List.append_assoc] using this

theorem Exs.back2 {F : FC} {ρ : List (Str × D)} {σ σ₁ : List (Addr × MO)} {n m : Str} {e e' : D} {ss : List Stmt} (h : ρ.lookup n = none) (h' : ρ.lookup m = none) (x : Exs prog w B F ((n, e) :: (m, e') :: ρ) σ ss (.next ((n, e) :: (m, e') :: ρ) σ₁)) :
    Exs prog w B F ((n, e) :: (m, e') :: ρ) σ ss (.next ρ σ₁) := x.weak (weak2 h h')
theorem Exs.back1 {F : FC} {ρ : List (Str × D)} {σ σ₁ : List (Addr × MO)} {n : Str} {e : D} {ss : List Stmt} (h : ρ.lookup n = none) (x : Exs prog w B F ((n, e) :: ρ) σ ss (.next ((n, e) :: ρ) σ₁)) :
    Exs prog w B F ((n, e) :: ρ) σ ss (.next ρ σ₁) := x.weak (weak1 h)

/-! ### the pure meaning -/
def conf (k : Int) : Bool := decide (k ∈ [(3 : Int), 4])
def outer (p : Path) : List Int := p.flatMap fun s => if conf s.1 then [] else s.2
def inner (p : Path) : List Int := p.flatMap fun s => if conf s.1 then s.2 else []
theorem flatMap_I {α : Type} (f : α → List Int) (l : List α) : l.flatMap (fun x => I (f x)) = I (l.flatMap f) := by
  induction l with
  | nil => rfl
  | cons x l ih => simp only [List.flatMap_cons, ih, I, List.map_append]
theorem szK {n : Nat} (h : n ≤ 1000000) : n ≤ sizeLine := by rw [sizeLine_eq]; omega

theorem outer_walk (fi : FnAt' B 10) (G : Glb prog w B) (p : Path) (hp : p.length ≤ 1000000) (hn : (outer p).length ≤ 1000000) : FnOk prog w B 1 (fname (stmtAt 10)) [pathD p] (.list (I (outer p))) [] [] := by
  refine FnOk.of (names := ["path"]) fi (by decide) (fun pm cd doc vs hl => ?_) (fun L x hx => ?_) fun L a cd A N M0 g hroom hA => ?_
  · match vs, hl with
    | [v], _ => rfl
  · simp at hx; subst hx; exact .inl rfl
  · conv in fbody _ => whnf
    refine Exs.own (EvNew.list Evs.nil (szK (by simp))) (.inl rfl) (fun l hl => ?_) (σ' := fun l => [(l, .list (I (outer p)))])
    refine Exs.cons (ρ₁ := [("found", .loc l), ("path", pathD p)]) (σ₁ := [(l, .list (I (outer p)))]) (Ex.forIn (Ev.name (by rfl)) (SrcOf.tup _ (szK (by simpa using hp))) ?_) (Exs.stop (Ex.retL (by rfl) (by simp)) (by simp))
    rw [show I (outer p) = [] ++ p.flatMap (fun s => I (if conf s.1 then [] else s.2)) from by simp [flatMap_I, outer]]
    refine Turns.gather segD (fun s => I (if conf s.1 then [] else s.2)) 1000000 p [] (fun s hs acc hK J hJ => ⟨_, Asg.pair (.inl rfl) (.inl rfl), ?_⟩) (by simpa [flatMap_I, outer] using hn)
    · refine Exs.back2 (by rfl) (by rfl) ?_
      by_cases hc : conf s.1 = true
      · refine Exs.cons (Ex.ifF ((Tst.cmp (Ev.notInG (x := s.1) (Ev.name (by rfl)) G.kinds (by rfl))).cast (by show (!conf s.1) = false; rw [hc]; rfl)) Exs.nil) ?_
        simpa [hc] using Exs.nil
      · refine Exs.cons (Ex.ifT ((Tst.cmp (Ev.notInG (x := s.1) (Ev.name (by rfl)) G.kinds (by rfl))).cast (by show (!conf s.1) = true; rw [Bool.eq_false_iff.mpr hc]; rfl)) (Exs.cons (Ex.expr (Ev.extend (T := true) (by rfl) (Ev.name (by rfl)) .head (szK ?_))) Exs.nil)) ?_
        · simpa [hc] using hK
        · simpa [hc] using Exs.nil
end
end Mine
namespace Mine
section
variable {prog : Program} {w : World} {B : BS}
theorem CT.fm {α : Type} {F : FC} {Da : Addr} {n : Str} {rest : PT} {ρ : List (Str × D)} {σ : List (Addr × MO)} (g : α → D) (f : α → Option D) : ∀ (xs : List α),
    (∀ x ∈ xs, ∀ J, Free F J → J ≠ Da → StepOk prog w B (F.hid J) Da rest ((n, g x) :: ρ) σ (f x).toList σ) → CT prog w B F Da n rest (xs.map g) ρ σ (xs.filterMap f) σ
  | [], _ => CT.nil
  | x :: xs, step => by
    have := CT.cons (step x List.mem_cons_self) (CT.fm g f xs fun y hy => step y (List.mem_cons_of_mem _ hy))
    cases hf : f x <;> simpa [hf] using this
theorem cmpM {F : FC} {scope : Scope} {cl : List (Str × Addr)} {C Da J : Addr} : Da ∈ ((F.cmp scope cl C Da).hid J).M := mem_hid.mpr (.inr (mem_cmp.mpr (.inl rfl)))

theorem inner_walk (fi : FnAt' B 11) (G : Glb prog w B) (p : Path) (hp : p.length ≤ 1000000) (hn : (inner p).length ≤ 1000000) : FnOk prog w B 1 (fname (stmtAt 11)) [pathD p] (.list (I (inner p))) [] [] := by
  refine FnOk.of (names := ["path"]) fi (by decide) (fun pm cd doc vs hl => ?_) (fun L x hx => ?_) fun L a cd A N M0 g hroom hA => ?_
  · match vs, hl with
    | [v], _ => rfl
  · simp at hx; subst hx; exact .inl rfl
  · conv in fbody _ => whnf
    refine Exs.own (EvNew.list Evs.nil (szK (by simp))) (.inl rfl) (fun l hl => ?_) (σ' := fun l => [(l, .list (I (inner p)))])
    refine Exs.cons (ρ₁ := [("found", .loc l), ("path", pathD p)]) (σ₁ := [(l, .list (I (inner p)))]) (Ex.forIn (Ev.name (by rfl)) (SrcOf.tup _ (szK (by simpa using hp))) ?_) (Exs.stop (Ex.retL (by rfl) (by simp)) (by simp))
    rw [show I (inner p) = [] ++ p.flatMap (fun s => I (if conf s.1 then s.2 else [])) from by simp [flatMap_I, inner]]
    refine Turns.gather segD (fun s => I (if conf s.1 then s.2 else [])) 1000000 p [] (fun s hs acc hK J hJ => ⟨_, Asg.pair (.inl rfl) (.inl rfl), ?_⟩) (by simpa [flatMap_I, inner] using hn)
    · refine Exs.back2 (by rfl) (by rfl) ?_
      by_cases hc : conf s.1 = true
      · refine Exs.cons (Ex.ifT ((Tst.cmp (Ev.inG (x := s.1) (Ev.name (by rfl)) G.kinds (by rfl))).cast (by show conf s.1 = true; exact hc)) (Exs.cons (Ex.expr (Ev.extend (T := true) (by rfl) (Ev.name (by rfl)) .head (szK ?_))) Exs.nil)) ?_
        · simpa [hc] using hK
        · simpa [hc] using Exs.nil
      · refine Exs.cons (Ex.ifF ((Tst.cmp (Ev.inG (x := s.1) (Ev.name (by rfl)) G.kinds (by rfl))).cast (by show conf s.1 = false; exact Bool.eq_false_iff.mpr hc)) Exs.nil) ?_
        simpa [hc] using Exs.nil

def noConf (p : Path) : Path := p.filter fun s => !conf s.1
theorem fm_filter {α : Type} (g : α → D) (t : α → Bool) (l : List α) : l.filterMap (fun x => if t x then some (g x) else none) = (l.filter t).map g := by
  induction l with
  | nil => rfl
  | cons x l ih => cases h : t x <;> simp [h, ih]
theorem p63 : ((0 : Nat) : Int) < 2 ^ 63 := by decide

theorem noConf_walk (fi : FnAt' B 12) (G : Glb prog w B) (p : Path) (hp : p.length ≤ 1000000) : FnOk prog w B 1 (fname (stmtAt 12)) [pathD p] (pathD (noConf p)) [] [] := by
  refine FnOk.of (names := ["path"]) fi (by decide) (fun pm cd doc vs hl => ?_) (fun L x hx => ?_) fun L a cd A N M0 g hroom hA => ?_
  · match vs, hl with
    | [v], _ => rfl
  · simp at hx; subst hx; exact .inl rfl
  · conv in fbody _ => whnf
    have hlen : (noConf p).length ≤ 1000000 := Nat.le_trans (List.length_filter_le _ _) hp
    refine Exs.stop (Ex.ret (Ev.tupOfL (xs := (noConf p).map segD) (Ev.comp (ρc := []) (cl := []) (Ev.name (by rfl)) (SrcOf.tup _ (szK (by simpa using hp))) ⟨rfl, by intro x c h; simp at h, rfl, by decide, by decide, rfl⟩ trivial (by rfl) (fun C Da fC fD fDc => ?_) (szK (by simpa using hlen))) (szK (by simpa using hlen)) (by rfl))) (by simp)
    rw [show (noConf p).map segD = p.filterMap (fun s => if !conf s.1 then some (segD s) else none) from (fm_filter _ _ _).symm]
    refine CT.fm segD (fun s => if !conf s.1 then some (segD s) else none) p (fun s hs J hJ hne => ?_)
    by_cases hc : conf s.1 = true
    · rw [show (if !conf s.1 then some (segD s) else none).toList = [] from by simp [hc]]
      exact step_skip (F := (FC.cmp _ _ _ C Da).hid J) (Tests.one ((Tst.cmp (Ev.notInG (x := s.1) (Ev.itemT (Ev.name (by rfl)) Ev.cint (by rfl) p63) G.kinds (by rfl))).cast (by show (!conf s.1) = false; rw [hc]; rfl))) fDc
    · rw [show (if !conf s.1 then some (segD s) else none).toList = [segD s] from by simp [hc]]
      exact step_add (F := (FC.cmp _ _ _ C Da).hid J) (Tests.one ((Tst.cmp (Ev.notInG (x := s.1) (Ev.itemT (Ev.name (by rfl)) Ev.cint (by rfl) p63) G.kinds (by rfl))).cast (by show (!conf s.1) = true; rw [Bool.eq_false_iff.mpr hc]; rfl))) (Ev.name (by rfl)) fDc cmpM
end
end Mine
namespace Mine
section
variable {prog : Program} {w : World} {B : BS}
def back (p : Path) (n m : Int) : Bool := if n ∈ outer p then true else ((m != 0) && decide (m ∈ inner p))
theorem back_walk (fi : FnAt' B 13) (f10 : FnAt' B 10) (f11 : FnAt' B 11) (G : Glb prog w B) (p : Path) (n m : Int) (hp : p.length ≤ 1000000) (ho : (outer p).length ≤ 1000000) (hi : (inner p).length ≤ 1000000) : FnOk prog w B 2 (fname (stmtAt 13)) [pathD p, .int n, .int m] (.bool (back p n m)) [] [] := by
  refine FnOk.of (names := ["path", "number", "member"]) fi (by decide) (fun pm cd doc vs hl => ?_) (fun L x hx => ?_) fun L a cd A N M0 g hroom hA => ?_
  · match vs, hl with
    | [v, u, t], _ => rfl
  · simp at hx; rcases hx with rfl | rfl | rfl <;> exact .inl rfl
  · conv in fbody _ => whnf
    have e1 : FnOk prog w B 1 "outer_numbers" [pathD p] (.list (I (outer p))) [] [] := outer_walk f10 G p hp ho
    have e2 : FnOk prog w B 1 "inner_numbers" [pathD p] (.list (I (inner p))) [] [] := inner_walk f11 G p hp hi
    by_cases h : n ∈ outer p
    · rw [show back p n m = true from by simp [back, h]]
      exact Exs.stop (Ex.ifT ((Tst.cmp (Ev.inL (x := n) (Ev.name (by rfl)) (Ev.callF e1 (Evs.cons (Ev.name (by rfl)) Evs.nil) (by rfl) hroom))).cast (by simp [h])) (Exs.stop (Ex.ret Ev.cbool) (by simp))) (by simp)
    · rw [show back p n m = ((m != 0) && decide (m ∈ inner p)) from by simp [back, h]]
      refine Exs.cons (Ex.ifF ((Tst.cmp (Ev.inL (x := n) (Ev.name (by rfl)) (Ev.callF e1 (Evs.cons (Ev.name (by rfl)) Evs.nil) (by rfl) hroom))).cast (by simp [h])) Exs.nil) ?_
      exact Exs.stop (Ex.ret (Ev.and (Ev.neI (Ev.name (by rfl)) Ev.cint) fun _ => Ev.inL (x := m) (Ev.name (by rfl)) (Ev.callF e2 (Evs.cons (Ev.name (by rfl)) Evs.nil) (by rfl) hroom))) (by simp)

/-! ### leading -/
theorem Turns.gatherB {α : Type} {F : FC} {t : Expr} {body : List Stmt} {ρ : List (Str × D)} {a : Addr} {σ : List (Addr × MO)} (g : α → D) (f : α → List D) (go : α → Bool) (K : Nat) : ∀ (xs : List α) (acc : List D),
    (∀ x ∈ xs, go x = true → ∀ acc : List D, acc.length + (f x).length ≤ K → ∀ I, Free F I → ∃ ρ', Asg prog w B (F.hid I) t (g x) ρ ρ' ∧ Exs prog w B (F.hid I) ρ' ((a, .list acc) :: σ) body (.next ρ ((a, .list (acc ++ f x)) :: σ))) →
    (∀ x ∈ xs, go x = false → ∀ acc : List D, ∀ I, Free F I → ∃ ρ', Asg prog w B (F.hid I) t (g x) ρ ρ' ∧ Exs prog w B (F.hid I) ρ' ((a, .list acc) :: σ) body (.brk ρ ((a, .list acc) :: σ))) →
    acc.length + ((xs.takeWhile go).flatMap f).length ≤ K → Turns prog w B F t body (xs.map g) ρ ((a, .list acc) :: σ) (.next ρ ((a, .list (acc ++ (xs.takeWhile go).flatMap f)) :: σ))
  | [], acc, _, _, _ => by simpa using Turns.nil
  | x :: xs, acc, step, stop, hK => by
    cases hg : go x with
    | false =>
      simp only [List.takeWhile_cons, hg, Bool.false_eq_true, if_false, List.flatMap_nil, List.append_nil, List.map_cons]
      exact Turns.brk (stop x List.mem_cons_self hg acc)
    | true =>
      simp only [List.takeWhile_cons, hg, if_true, List.flatMap_cons, List.length_append] at hK ⊢
      have := Turns.cons (step x List.mem_cons_self hg acc (by omega)) (Turns.gatherB g f go K xs (acc ++ f x) (fun y hy => step y (List.mem_cons_of_mem _ hy)) (fun y hy => stop y (List.mem_cons_of_mem _ hy)) (by simp only [List.length_append]; omega))
      simpa only [List.map_cons, List.append_assoc] using this
theorem Exs.backB2 {F : FC} {ρ : List (Str × D)} {σ σ₁ : List (Addr × MO)} {n m : Str} {e e' : D} {ss : List Stmt} (h : ρ.lookup n = none) (h' : ρ.lookup m = none) (x : Exs prog w B F ((n, e) :: (m, e') :: ρ) σ ss (.brk ((n, e) :: (m, e') :: ρ) σ₁)) :
    Exs prog w B F ((n, e) :: (m, e') :: ρ) σ ss (.brk ρ σ₁) := fun s H => wpAny_mono (x s H) (fun fl s' ⟨h1, t1, e, e1, q, q2⟩ => ⟨h1, t1, e, e1, q, q2.less (weak2 h h')⟩) fun _ _ f => f
theorem Exs.backB1 {F : FC} {ρ : List (Str × D)} {σ σ₁ : List (Addr × MO)} {n : Str} {e : D} {ss : List Stmt} (h : ρ.lookup n = none) (x : Exs prog w B F ((n, e) :: ρ) σ ss (.brk ((n, e) :: ρ) σ₁)) :
    Exs prog w B F ((n, e) :: ρ) σ ss (.brk ρ σ₁) := fun s H => wpAny_mono (x s H) (fun fl s' ⟨h1, t1, e, e1, q, q2⟩ => ⟨h1, t1, e, e1, q, q2.less (weak1 h)⟩) fun _ _ f => f

def isSeq (s : Int × List Int) : Bool := s.1 == 2
def lead (p : Path) : List Int := ((noConf p).takeWhile isSeq).flatMap (·.2)
theorem lead_walk (fi : FnAt' B 15) (f12 : FnAt' B 12) (G : Glb prog w B) (p : Path) (hp : p.length ≤ 1000000) (hn : (lead p).length ≤ 1000000) : FnOk prog w B 2 (fname (stmtAt 15)) [pathD p] (.tup (I (lead p))) [] [] := by
  refine FnOk.of (names := ["path"]) fi (by decide) (fun pm cd doc vs hl => ?_) (fun L x hx => ?_) fun L a cd A N M0 g hroom hA => ?_
  · match vs, hl with
    | [v], _ => rfl
  · simp at hx; subst hx; exact .inl rfl
  · conv in fbody _ => whnf
    have e1 : FnOk prog w B 1 "without_confed" [pathD p] (pathD (noConf p)) [] [] := noConf_walk f12 G p hp
    have hlen : (noConf p).length ≤ 1000000 := Nat.le_trans (List.length_filter_le _ _) hp
    refine Exs.own (EvNew.list Evs.nil (szK (by simp))) (.inl rfl) (fun l hl => ?_) (σ' := fun l => [(l, .list (I (lead p)))])
    refine Exs.cons (ρ₁ := [("found", .loc l), ("path", pathD p)]) (σ₁ := [(l, .list (I (lead p)))]) (Ex.forIn (Ev.callF e1 (Evs.cons (Ev.name (by rfl)) Evs.nil) (by rfl) hroom) (SrcOf.tup _ (szK (by simpa using hlen))) ?_) (Exs.stop (Ex.ret (Ev.tupOfX (Ev.name (by rfl)) (.lo (by simp)) (szK (by simpa using hn)) (by rfl))) (by simp))
    rw [show I (lead p) = [] ++ ((noConf p).takeWhile isSeq).flatMap (fun s => I s.2) from by simp [flatMap_I, lead]]
    refine Turns.gatherB segD (fun s => I s.2) isSeq 1000000 (noConf p) [] (fun s hs hg acc hK J hJ => ⟨_, Asg.pair (.inl rfl) (.inl rfl), ?_⟩) (fun s hs hg acc J hJ => ⟨_, Asg.pair (.inl rfl) (.inl rfl), ?_⟩) (by simpa [flatMap_I, lead] using hn)
    · refine Exs.back2 (by rfl) (by rfl) ?_
      refine Exs.cons (Ex.ifF ((Tst.cmp (Ev.neI (Ev.name (by rfl)) (Ev.glo G.seq (by rfl)))).cast (by simpa [isSeq] using hg)) Exs.nil) ?_
      exact Exs.cons (Ex.expr (Ev.extend (T := true) (by rfl) (Ev.name (by rfl)) .head (szK (by simpa using hK)))) Exs.nil
    · refine Exs.backB2 (by rfl) (by rfl) ?_
      exact Exs.stop (Ex.ifT ((Tst.cmp (Ev.neI (Ev.name (by rfl)) (Ev.glo G.seq (by rfl)))).cast (by simpa [isSeq] using hg)) (Exs.stop Ex.brk (by simp))) (by simp)

/-! ### in_sequences -/
def nCut (n : Nat) : Nat := (n + 254) / 255
def seqs (ns : List Int) : Path := (List.range (nCut ns.length)).map fun i => (2, (ns.drop (255 * i)).take 255)
theorem pyl (x : Int) : Builtin.divisionGoesByPylong x 255 = false := by
  have h : (decide ((if ((255 : Int) == 0) = true then 0 else (255 : Int).natAbs.log2 / 30 + 1) > 300)) = false := by decide
  unfold Builtin.divisionGoesByPylong
  simp only
  rw [h, Bool.false_and]
theorem range_size (a n : Nat) (ha : a ≤ 1000) (h : n ≤ 1000000) : Builtin.Range.rangeSize a n 255 = nCut (n - a) ∧ Builtin.Range.small a n 255 = true := by
  have e : Builtin.Range.rangeSize a n 255 = nCut (n - a) := by
    unfold Builtin.Range.rangeSize nCut
    rw [if_pos (by decide)]
    split <;> omega
  refine ⟨e, ?_⟩
  have hc : nCut (n - a) ≤ 1000000 := by unfold nCut; omega
  unfold Builtin.Range.small
  rw [e]
  unfold Builtin.Range.rangeFitsLong
  simp only [Bool.and_eq_true, decide_eq_true_eq, Bool.or_eq_true, beq_iff_eq]
  rw [if_pos (by decide)]
  simp only [Bool.and_eq_true, decide_eq_true_eq]
  omega
theorem range_one (n : Nat) (h : n ≤ 1000000) : Builtin.Range.rangeSize 0 n 1 = n ∧ Builtin.Range.small 0 n 1 = true := by
  have e : Builtin.Range.rangeSize 0 n 1 = n := by
    unfold Builtin.Range.rangeSize
    rw [if_pos (by decide)]
    split <;> omega
  refine ⟨e, ?_⟩
  unfold Builtin.Range.small
  rw [e]
  unfold Builtin.Range.rangeFitsLong
  simp only [Bool.and_eq_true, decide_eq_true_eq, Bool.or_eq_true, beq_iff_eq]
  rw [if_pos (by decide)]
  simp only [Bool.and_eq_true, decide_eq_true_eq]
  omega
theorem subs1 {F : FC} {k : Str} {c : Addr} (h : F.env.cells.lookup k = some c) : ∀ x d, List.lookup x [(k, c)] = some d → F.env.cells.lookup x = some d := by
  intro x d e
  rw [List.lookup_cons] at e
  by_cases q : x = k
  · subst q; simp at e; subst e; exact h
  · have q' : (x == k) = false := by simpa using q
    rw [q'] at e; simp at e
theorem inSeq_walk (fi : FnAt' B 16) (G : Glb prog w B) (ns : List Int) (hn : ns.length ≤ 1000000) : FnOk prog w B 1 (fname (stmtAt 16)) [.tup (I ns)] (pathD (seqs ns)) [] [] := by
  refine FnOk.of (names := ["numbers"]) fi (by decide) (fun pm cd doc vs hl => ?_) (fun L x hx => ?_) fun L a cd A N M0 g hroom hA => ?_
  · match vs, hl with
    | [v], _ => rfl
  · simp at hx; subst hx; exact .inr ⟨rfl, rfl⟩
  · conv in fbody _ => whnf
    obtain ⟨h1, h2⟩ := range_size 0 ns.length (by omega) hn
    have hc : nCut ns.length ≤ 1000000 := by unfold nCut; omega
    refine Exs.stop (Ex.ret (Ev.tupOfL (xs := (seqs ns).map segD) (Ev.comp (ρc := [("numbers", .tup (I ns))]) (cl := [("numbers", L + 1)]) (Ev.range3 Ev.cint (Ev.lenT (Ev.name (by rfl)) (szK (by simpa using hn)) (by rfl)) (Ev.glo G.most (by rfl)) (by decide) (pyl _) (by rfl)) (SrcOf.rng _ _ _ (nCut ns.length) (by simpa using h2) (by simpa using h1) (szK hc)) ⟨rfl, subs1 rfl, rfl, by decide, by decide, rfl⟩ ⟨⟨rfl, rfl, rfl, rfl⟩, trivial⟩ (by rfl) (fun C Da fC fD fDc => ?_) (szK (by simpa [seqs] using hc))) (szK (by simpa [seqs] using hc)) (by rfl))) (by simp)
    rw [show (seqs ns).map segD = (List.range (nCut ns.length)).filterMap (fun i => some (segD (2, (ns.drop (255 * i)).take 255))) from by simp [seqs, Function.comp_def]]
    refine CT.fm (fun (i : Nat) => D.int (0 + (i : Int) * 255)) (fun i => some (segD (2, (ns.drop (255 * i)).take 255))) (List.range (nCut ns.length)) (fun i hi J hJ hne => ?_)
    have hi' : i < nCut ns.length := by simpa using hi
    have hle : 255 * i ≤ ns.length := by unfold nCut at hi'; omega
    have q1 : (0 + (i : Int) * 255) = ((255 * i : Nat) : Int) := by omega
    have q2 : (0 + (i : Int) * 255) + 255 = ((255 * i + 255 : Nat) : Int) := by omega
    refine step_add (F := (FC.cmp _ _ _ C Da).hid J) Tests.nil (Ev.tuple (Evs.cons (Ev.glo G.seq (by rfl)) (Evs.cons ((Ev.sliceT (a := 255 * i) (b := 255 * i + 255) (Ev.name (by rfl)) ((Ev.name (by rfl)).cast (congrArg D.int q1)) ((Ev.add (Ev.name (by rfl)) (Ev.glo G.most (by rfl))).cast (congrArg D.int q2)) (by simpa using hle) (by omega) (szK (by simpa using hn))).cast ?_) Evs.nil)) (szK (by simp))) fDc cmpM
    rw [show 255 * i + 255 - 255 * i = 255 from by omega]
    simp [I, List.map_drop, List.map_take]
end
end Mine
namespace Mine
def minLen : List (List Int) → Nat
  | [] => 0
  | [r] => r.length
  | r :: r' :: rs => min r.length (minLen (r' :: rs))
theorem minLen_mem : ∀ {rs : List (List Int)}, rs ≠ [] → ((minLen rs : Nat) : Int) ∈ rs.map fun r => ((r.length : Nat) : Int)
  | [], h => absurd rfl h
  | [r], _ => by simp [minLen]
  | r :: r' :: rs, _ => by
    have ih := minLen_mem (rs := r' :: rs) (by simp)
    simp only [minLen]
    by_cases h : r.length ≤ minLen (r' :: rs)
    · rw [Nat.min_eq_left h]; simp
    · rw [Nat.min_eq_right (by omega)]; exact List.mem_cons_of_mem _ ih
theorem minLen_le : ∀ {rs : List (List Int)}, ∀ r ∈ rs, minLen rs ≤ r.length
  | [], r, h => by simp at h
  | [r], r', h => by simp at h; subst h; simp [minLen]
  | r :: r' :: rs, x, h => by
    have ih := minLen_le (rs := r' :: rs)
    simp only [minLen]
    rcases List.mem_cons.mp h with e | h
    · subst e; exact Nat.min_le_left _ _
    · exact Nat.le_trans (Nat.min_le_right _ _) (ih x h)
def agree (rs : List (List Int)) (i : Nat) : Bool := rs.all fun r => r.getD i 0 == (rs.headD []).getD i 0
def chead (rs : List (List Int)) : List Int := ((List.range (minLen rs)).takeWhile (agree rs)).map fun i => (rs.headD []).getD i 0
def rowD (r : List Int) : D := .tup (I r)
section
variable {prog : Program} {w : World} {B : BS}
theorem subs2 {F : FC} {k k' : Str} {c c' : Addr} (h : F.env.cells.lookup k = some c) (h' : F.env.cells.lookup k' = some c') : ∀ x d, List.lookup x [(k, c), (k', c')] = some d → F.env.cells.lookup x = some d := by
  intro x d e
  rw [List.lookup_cons] at e
  by_cases q : x = k
  · subst q; simp at e; subst e; exact h
  · have q' : (x == k) = false := by simpa using q
    rw [q'] at e; exact subs1 h' x d e
theorem I_get {ns : List Int} {i : Nat} (h : i < ns.length) : (I ns)[i]? = some (.int (ns.getD i 0)) := by
  simp [I, List.getD, h]
theorem flatMap_one {α β : Type} (f : α → β) (l : List α) : l.flatMap (fun x => [f x]) = l.map f := by
  induction l with
  | nil => rfl
  | cons x l ih => simp [ih]
theorem agree_cnt (r0 : List Int) (rs' : List (List Int)) (i : Nat) : agree (r0 :: rs') i = decide (((r0 :: rs').filter fun r => r.getD i 0 != r0.getD i 0).length = 0) := by
  rw [Bool.eq_iff_iff, decide_eq_true_iff, List.length_eq_zero_iff, List.filter_eq_nil_iff]
  simp only [agree, List.all_eq_true, List.headD_cons, beq_iff_eq, bne_iff_ne, ne_eq, Classical.not_not]
theorem chead_walk (fi : FnAt' B 17) (G : Glb prog w B) (rs : List (List Int)) (h0 : rs ≠ []) (hl : rs.length ≤ 1000) (hn : ∀ r ∈ rs, r.length ≤ 100000) : FnOk prog w B 1 (fname (stmtAt 17)) [.list (rs.map rowD)] (.tup (I (chead rs))) [] [] := by
  refine FnOk.of (names := ["rows"]) fi (by decide) (fun pm cd doc vs hl => ?_) (fun L x hx => ?_) fun L a cd A N M0 g hroom hA => ?_
  · match vs, hl with
    | [v], _ => rfl
  · simp at hx; subst hx; exact .inr ⟨rfl, rfl⟩
  · conv in fbody _ => whnf
    obtain ⟨r0, rs', rfl⟩ : ∃ r0 rs', rs = r0 :: rs' := by cases rs with | nil => exact absurd rfl h0 | cons a b => exact ⟨a, b, rfl⟩
    have hm : minLen (r0 :: rs') ≤ 100000 := Nat.le_trans (minLen_le r0 List.mem_cons_self) (hn r0 List.mem_cons_self)
    have hc : (chead (r0 :: rs')).length ≤ 100000 := by
      have := (List.takeWhile_sublist (agree (r0 :: rs')) (l := List.range (minLen (r0 :: rs')))).length_le
      simp [chead] at this ⊢; omega
    obtain ⟨g1, g2⟩ := range_one (minLen (r0 :: rs')) (by omega)
    refine Exs.own (EvNew.list Evs.nil (szK (by simp))) (.inl rfl) (fun l hl' => ?_) (σ' := fun l => [(l, .list (I (chead (r0 :: rs'))))])
    refine Exs.cons (ρ₁ := [("found", .loc l), ("rows", .list ((r0 :: rs').map rowD))]) (σ₁ := [(l, .list (I (chead (r0 :: rs'))))]) (Ex.forIn (σ₁ := [(l, .list [])]) (Ev.range1 (Ev.min (ns := (r0 :: rs').map fun r => ((r.length : Nat) : Int)) (M := minLen (r0 :: rs')) ?_ (minLen_mem h0) ?_ (by rfl)) (by rfl)) (SrcOf.rng _ _ _ (minLen (r0 :: rs')) g2 g1 (szK (by omega))) ?_) (Exs.stop (Ex.ret (Ev.tupOfX (Ev.name (by rfl)) (.lo (by simp)) (szK (by simp; omega)) (by rfl))) (by simp))
    · refine (Ev.comp (ρc := []) (cl := []) (Ev.name (by rfl)) (SrcOf.list _ (szK (by simp at hl ⊢; omega))) ⟨rfl, by intro x c h; simp at h, rfl, by decide, by decide, rfl⟩ trivial (by rfl) (fun C Da fC fD fDc => ?_) (szK (by simp at hl ⊢; omega)))
      rw [show I ((r0 :: rs').map fun r => ((r.length : Nat) : Int)) = (r0 :: rs').filterMap (fun r => some (D.int ((r.length : Nat) : Int))) from by simp [I, Function.comp_def]]
      refine CT.fm rowD (fun r => some (D.int ((r.length : Nat) : Int))) (r0 :: rs') (fun r hr J hJ hne => ?_)
      refine step_add (F := (FC.cmp _ _ _ C Da).hid J) Tests.nil ((Ev.lenT (Ev.name (by rfl)) (szK ?_) (by rfl)).cast (by simp)) fDc cmpM
      have := hn r hr; simp; omega
    · intro x hx
      obtain ⟨r, hr, rfl⟩ := List.mem_map.mp hx
      exact_mod_cast minLen_le r hr
    · rw [show I (chead (r0 :: rs')) = [] ++ ((List.range (minLen (r0 :: rs'))).takeWhile (agree (r0 :: rs'))).flatMap (fun i => [D.int (r0.getD i 0)]) from by
        simp only [chead, I, List.map_map, List.nil_append, List.headD_cons]
        exact (flatMap_one _ _).symm]
      have rowsAll : ∀ r ∈ r0 :: rs', ∀ i, i < minLen (r0 :: rs') → i < r.length := fun r hr i hi => Nat.lt_of_lt_of_le hi (minLen_le r hr)
      refine Turns.gatherB (fun (i : Nat) => D.int (0 + (i : Int) * 1)) (fun i => [D.int (r0.getD i 0)]) (agree (r0 :: rs')) 1000000 (List.range (minLen (r0 :: rs'))) [] (fun i hi' hg acc hK J hJ => ⟨_, Asg.name (.inr ⟨rfl, rfl⟩), ?_⟩) (fun i hi' hg acc J hJ => ⟨_, Asg.name (.inr ⟨rfl, rfl⟩), ?_⟩) ?_
      · refine Exs.back1 (by rfl) ?_
        have hi : i < minLen (r0 :: rs') := by simpa using hi'
        have q1 : (0 + (i : Int) * 1) = ((i : Nat) : Int) := by omega
        have i63 : ((i : Nat) : Int) < 2 ^ 63 := by omega
        have hcl := List.length_filter_le (fun r => r.getD i 0 != r0.getD i 0) (r0 :: rs')
        rw [agree_cnt] at hg
        refine Exs.cons (Ex.ifF ((Tst.cmp (Ev.gtI (Ev.lenL (xs := ((r0 :: rs').filter fun r => r.getD i 0 != r0.getD i 0).map fun _ => D.int 1) (Ev.comp (ρc := [("at", .int (0 + (i : Int) * 1)), ("rows", .list ((r0 :: rs').map rowD))]) (cl := [("rows", L + 1), ("at", L + 1 + 1)]) (Ev.name (by rfl)) (SrcOf.list _ (szK (by simp at hl ⊢; omega))) ⟨rfl, subs2 rfl rfl, rfl, by decide, by decide, rfl⟩ ⟨⟨rfl, rfl, rfl, rfl⟩, ⟨rfl, rfl, rfl, rfl⟩, trivial⟩ (by rfl) (fun C Da fC fD fDc => by
          rw [show ((r0 :: rs').filter fun r => r.getD i 0 != r0.getD i 0).map (fun _ => D.int 1) = (r0 :: rs').filterMap (fun r => if r.getD i 0 != r0.getD i 0 then some (D.int 1) else none) from (fm_filter _ _ _).symm]
          refine CT.fm rowD (fun r => if r.getD i 0 != r0.getD i 0 then some (D.int 1) else none) (r0 :: rs') (fun r hr J hJ hne => ?_)
          by_cases hc : (r.getD i 0 != r0.getD i 0) = true
          · rw [show (if (r.getD i 0 != r0.getD i 0) = true then some (D.int 1) else none).toList = [D.int 1] from by rw [if_pos hc]; rfl]
            exact step_add (F := (FC.cmp _ _ _ C Da).hid J) (Tests.one ((Tst.cmp (Ev.neI (Ev.itemT (Ev.name (by rfl)) ((Ev.name (by rfl)).cast (congrArg D.int q1)) (I_get (rowsAll r hr i hi)) i63) (Ev.itemT (Ev.itemL (Ev.name (by rfl)) Ev.cint (by rfl) p63) ((Ev.name (by rfl)).cast (congrArg D.int q1)) (I_get (rowsAll r0 List.mem_cons_self i hi)) i63))).cast hc)) Ev.cint fDc cmpM
          · rw [show (if (r.getD i 0 != r0.getD i 0) = true then some (D.int 1) else none).toList = [] from by rw [if_neg hc]; rfl]
            exact step_skip (F := (FC.cmp _ _ _ C Da).hid J) (Tests.one ((Tst.cmp (Ev.neI (Ev.itemT (Ev.name (by rfl)) ((Ev.name (by rfl)).cast (congrArg D.int q1)) (I_get (rowsAll r hr i hi)) i63) (Ev.itemT (Ev.itemL (Ev.name (by rfl)) Ev.cint (by rfl) p63) ((Ev.name (by rfl)).cast (congrArg D.int q1)) (I_get (rowsAll r0 List.mem_cons_self i hi)) i63))).cast (Bool.eq_false_iff.mpr hc))) fDc) (szK (by rw [List.length_map]; omega))) (szK (by rw [List.length_map]; omega)) (by rfl)) Ev.cint)).cast (by simpa using hg)) Exs.nil) ?_
        refine Exs.cons (Ex.expr (Ev.append (d := D.int (r0.getD i 0)) (by rfl) (Ev.itemT (Ev.itemL (Ev.name (by rfl)) Ev.cint (by rfl) p63) ((Ev.name (by rfl)).cast (congrArg D.int q1)) (I_get (rowsAll r0 List.mem_cons_self i hi)) i63) .head (szK (by simp at hK; omega)))) Exs.nil
      · refine Exs.backB1 (by rfl) ?_
        have hi : i < minLen (r0 :: rs') := by simpa using hi'
        have q1 : (0 + (i : Int) * 1) = ((i : Nat) : Int) := by omega
        have i63 : ((i : Nat) : Int) < 2 ^ 63 := by omega
        have hcl := List.length_filter_le (fun r => r.getD i 0 != r0.getD i 0) (r0 :: rs')
        rw [agree_cnt] at hg
        exact Exs.stop (Ex.ifT ((Tst.cmp (Ev.gtI (Ev.lenL (xs := ((r0 :: rs').filter fun r => r.getD i 0 != r0.getD i 0).map fun _ => D.int 1) (Ev.comp (ρc := [("at", .int (0 + (i : Int) * 1)), ("rows", .list ((r0 :: rs').map rowD))]) (cl := [("rows", L + 1), ("at", L + 1 + 1)]) (Ev.name (by rfl)) (SrcOf.list _ (szK (by simp at hl ⊢; omega))) ⟨rfl, subs2 rfl rfl, rfl, by decide, by decide, rfl⟩ ⟨⟨rfl, rfl, rfl, rfl⟩, ⟨rfl, rfl, rfl, rfl⟩, trivial⟩ (by rfl) (fun C Da fC fD fDc => by
          rw [show ((r0 :: rs').filter fun r => r.getD i 0 != r0.getD i 0).map (fun _ => D.int 1) = (r0 :: rs').filterMap (fun r => if r.getD i 0 != r0.getD i 0 then some (D.int 1) else none) from (fm_filter _ _ _).symm]
          refine CT.fm rowD (fun r => if r.getD i 0 != r0.getD i 0 then some (D.int 1) else none) (r0 :: rs') (fun r hr J hJ hne => ?_)
          by_cases hc : (r.getD i 0 != r0.getD i 0) = true
          · rw [show (if (r.getD i 0 != r0.getD i 0) = true then some (D.int 1) else none).toList = [D.int 1] from by rw [if_pos hc]; rfl]
            exact step_add (F := (FC.cmp _ _ _ C Da).hid J) (Tests.one ((Tst.cmp (Ev.neI (Ev.itemT (Ev.name (by rfl)) ((Ev.name (by rfl)).cast (congrArg D.int q1)) (I_get (rowsAll r hr i hi)) i63) (Ev.itemT (Ev.itemL (Ev.name (by rfl)) Ev.cint (by rfl) p63) ((Ev.name (by rfl)).cast (congrArg D.int q1)) (I_get (rowsAll r0 List.mem_cons_self i hi)) i63))).cast hc)) Ev.cint fDc cmpM
          · rw [show (if (r.getD i 0 != r0.getD i 0) = true then some (D.int 1) else none).toList = [] from by rw [if_neg hc]; rfl]
            exact step_skip (F := (FC.cmp _ _ _ C Da).hid J) (Tests.one ((Tst.cmp (Ev.neI (Ev.itemT (Ev.name (by rfl)) ((Ev.name (by rfl)).cast (congrArg D.int q1)) (I_get (rowsAll r hr i hi)) i63) (Ev.itemT (Ev.itemL (Ev.name (by rfl)) Ev.cint (by rfl) p63) ((Ev.name (by rfl)).cast (congrArg D.int q1)) (I_get (rowsAll r0 List.mem_cons_self i hi)) i63))).cast (Bool.eq_false_iff.mpr hc))) fDc) (szK (by rw [List.length_map]; omega))) (szK (by rw [List.length_map]; omega)) (by rfl)) Ev.cint)).cast (by rw [decide_eq_false_iff_not] at hg; rw [List.length_map, decide_eq_true_iff]; omega)) (Exs.stop Ex.brk (by simp))) (by simp)
      · rw [flatMap_one, List.length_map]
        simp [chead] at hc ⊢
        omega
end
end Mine
namespace Mine
def srt (l : List Int) : List Int := l.mergeSort fun a b => decide (a ≤ b)
def jmem (ps : List Path) : List Int := ps.foldl (fun m p => addKs m (inner p)) []
def jnew (head : List Int) (p : Path) : List Int := ((outer p).drop head.length).filter fun n => !decide (n ∈ head)
def jrest (head : List Int) (ps : List Path) : List Int := ps.foldl (fun r p => addKs r (jnew head p)) []
def jhead (ps : List Path) : List Int := chead (ps.map lead)
def seg1 (k : Int) (l : List Int) : Path := if l.length = 0 then [] else [(k, srt l)]
def diffs (p0 : Path) (ps : List Path) : List Path := ps.filter fun p => !decide (p = p0)
def jn (ps : List Path) : Path := seg1 4 (jmem ps) ++ seqs (jhead ps) ++ seg1 1 (jrest (jhead ps) ps)
def jp : List Path → Path
  | [] => []
  | p0 :: rs => if (diffs p0 (p0 :: rs)).length = 0 then p0 else jn (p0 :: rs)
theorem jp_same {p0 : Path} {rs : List Path} (h : (diffs p0 (p0 :: rs)).length = 0) : jp (p0 :: rs) = p0 := if_pos h
theorem jp_diff {p0 : Path} {rs : List Path} (h : ¬ (diffs p0 (p0 :: rs)).length = 0) : jp (p0 :: rs) = jn (p0 :: rs) := if_neg h
theorem diffs_le (p0 : Path) (ps : List Path) : (diffs p0 ps).length ≤ ps.length := List.length_filter_le _ _

theorem addK_len (ks : List Int) (k : Int) : (addK ks k).length ≤ ks.length + 1 := by unfold addK; split <;> simp
theorem addKs_len : ∀ (more ks : List Int), (addKs ks more).length ≤ ks.length + more.length
  | [], ks => by simp [addKs]
  | m :: more, ks => by
    have h1 := addK_len ks m
    have h2 := addKs_len more (addK ks m)
    simp only [addKs, List.foldl_cons, List.length_cons] at h2 ⊢
    omega
theorem fold_len {α : Type} (f : α → List Int) (K : Nat) : ∀ (xs : List α) (ks : List Int), (∀ x ∈ xs, (f x).length ≤ K) → (xs.foldl (fun m x => addKs m (f x)) ks).length ≤ ks.length + xs.length * K
  | [], ks, _ => by simp
  | x :: xs, ks, h => by
    have h1 := addKs_len (f x) ks
    have h2 := fold_len f K xs (addKs ks (f x)) fun y hy => h y (List.mem_cons_of_mem _ hy)
    have h3 := h x List.mem_cons_self
    simp only [List.foldl_cons, List.length_cons]
    rw [Nat.add_mul, Nat.one_mul]
    omega
theorem addK_ne {ks : List Int} {k : Int} : addKs ks [k] = addK ks k := rfl
theorem addKs_filter (t : Int → Bool) : ∀ (xs ks : List Int), xs.foldl (fun r n => if t n then addK r n else r) ks = addKs ks (xs.filter t)
  | [], ks => rfl
  | x :: xs, ks => by
    rw [List.foldl_cons, addKs_filter t xs]
    cases h : t x <;> simp [h, addKs]
section
variable {prog : Program} {w : World} {B : BS}
theorem Turns.fold {α S : Type} {F : FC} {t : Expr} {body : List Stmt} {ρ : List (Str × D)} (g : α → D) (st : S → List (Addr × MO)) (upd : S → α → S) : ∀ (xs : List α) (s : S),
    (∀ pre x post, xs = pre ++ x :: post → ∀ I, Free F I → ∃ ρ', Asg prog w B (F.hid I) t (g x) ρ ρ' ∧ Exs prog w B (F.hid I) ρ' (st (pre.foldl upd s)) body (.next ρ (st (upd (pre.foldl upd s) x)))) →
    Turns prog w B F t body (xs.map g) ρ (st s) (.next ρ (st (xs.foldl upd s)))
  | [], s, _ => Turns.nil
  | x :: xs, s, step => by
    refine Turns.cons (step [] x xs rfl) (Turns.fold g st upd xs (upd s x) fun pre y post e => ?_)
    have := step (x :: pre) y post (by rw [e]; rfl)
    simpa using this

theorem Turns.fold' {α S : Type} {F : FC} {t : Expr} {body : List Stmt} {ρ : List (Str × D)} {σ0 σ1 : List (Addr × MO)} (g : α → D) (st : S → List (Addr × MO)) (upd : S → α → S) (xs : List α) (s : S) (h0 : σ0 = st s) (h1 : σ1 = st (xs.foldl upd s))
    (step : ∀ pre x post, xs = pre ++ x :: post → ∀ I, Free F I → ∃ ρ', Asg prog w B (F.hid I) t (g x) ρ ρ' ∧ Exs prog w B (F.hid I) ρ' (st (pre.foldl upd s)) body (.next ρ (st (upd (pre.foldl upd s) x)))) :
    Turns prog w B F t body (xs.map g) ρ σ0 (.next ρ σ1) := by
  subst h0 h1
  exact Turns.fold g st upd xs s step
theorem fold2 {α β γ : Type} (f : α → γ → α) (g : β → γ → β) : ∀ (l : List γ) (a : α) (b : β), l.foldl (fun s x => (f s.1 x, g s.2 x)) (a, b) = (l.foldl f a, l.foldl g b)
  | [], _, _ => rfl
  | x :: l, a, b => fold2 f g l (f a x) (g b x)
theorem jfold (hd : List Int) (l : List Path) : l.foldl (fun (s : List Int × List Int) (p : Path) => (addKs s.1 (inner p), addKs s.2 (jnew hd p))) ([], []) = (l.foldl (fun m p => addKs m (inner p)) [], l.foldl (fun r p => addKs r (jnew hd p)) []) :=
  fold2 (fun m p => addKs m (inner p)) (fun r p => addKs r (jnew hd p)) l [] []
theorem fold_add_len (t : Int → Bool) (xs ks : List Int) : (xs.foldl (fun r n => if t n then addK r n else r) ks).length ≤ ks.length + xs.length := by
  rw [addKs_filter]
  have := addKs_len (xs.filter t) ks
  have := List.length_filter_le t xs
  omega
theorem mul1000 {n : Nat} (h : n ≤ 100) : n * 1000 ≤ 100000 := by omega
theorem segs_app (a b : Path) : (a ++ b).map segD = a.map segD ++ b.map segD := List.map_append
theorem path_app (a b : Path) : pathD (a ++ b) = .tup (a.map segD ++ b.map segD) := by rw [pathD, List.map_append]

theorem jp_walk (fi : FnAt' B 18) (f10 : FnAt' B 10) (f11 : FnAt' B 11) (f12 : FnAt' B 12) (f15 : FnAt' B 15) (f16 : FnAt' B 16) (f17 : FnAt' B 17) (G : Glb prog w B) (ps : List Path) (h0 : ps ≠ []) (hl : ps.length ≤ 100)
    (h1 : ∀ p ∈ ps, p.length ≤ 1000) (h2 : ∀ p ∈ ps, (outer p).length ≤ 1000) (h3 : ∀ p ∈ ps, (inner p).length ≤ 1000) (h4 : ∀ p ∈ ps, (lead p).length ≤ 1000) (h5 : (jmem ps).length < 64) (h6 : (jrest (jhead ps) ps).length < 64) (h7 : (jhead ps).length ≤ 1000) :
    FnOk prog w B 3 (fname (stmtAt 18)) [.list (ps.map pathD)] (pathD (jp ps)) [] [] := by
  refine FnOk.of (names := ["paths"]) fi (by decide) (fun pm cd doc vs hl => ?_) (fun L x hx => ?_) fun L a cd A N M0 g hroom hA => ?_
  · match vs, hl with
    | [v], _ => rfl
  · simp at hx; subst hx; exact .inr ⟨rfl, rfl⟩
  · conv in fbody _ => whnf
    have r1 : Room A 1 := ⟨by have := hroom.1; omega, by have := hroom.2; omega⟩
    have hlsz : ps.length ≤ 1000000 := by omega
    obtain ⟨p0, rs, rfl⟩ : ∃ r0 rs', ps = r0 :: rs' := by cases ps with | nil => exact absurd rfl h0 | cons a b => exact ⟨a, b, rfl⟩
    have hfl := diffs_le p0 (p0 :: rs)
    by_cases hall : (diffs p0 (p0 :: rs)).length = 0
    · rw [jp_same hall]
      exact Exs.stop (Ex.ifT ((Tst.cmp (Ev.eqI (Ev.lenL (xs := (diffs p0 (p0 :: rs)).map fun _ => D.int 1) (Ev.comp (ρc := [("paths", .list ((p0 :: rs).map pathD))]) (cl := [("paths", L + 1)]) (Ev.name (by rfl)) (SrcOf.list _ (szK (by rw [List.length_map]; omega))) ⟨rfl, subs1 rfl, rfl, by decide, by decide, rfl⟩ ⟨⟨rfl, rfl, rfl, rfl⟩, trivial⟩ (by rfl) (fun C Da fC fD fDc => by
          rw [show (diffs p0 (p0 :: rs)).map (fun _ => D.int 1) = (p0 :: rs).filterMap (fun p => if !decide (p = p0) then some (D.int 1) else none) from (fm_filter _ _ _).symm]
          refine CT.fm pathD (fun p => if !decide (p = p0) then some (D.int 1) else none) (p0 :: rs) (fun p hp J hJ hne => ?_)
          by_cases hc : p = p0
          · rw [show (if (!decide (p = p0)) = true then some (D.int 1) else none).toList = [] from by rw [decide_eq_true hc]; rfl]
            exact step_skip (F := (FC.cmp _ _ _ C Da).hid J) (Tests.one ((Tst.cmp (Ev.neD (Ev.name (by rfl)) (Ev.itemL (Ev.name (by rfl)) Ev.cint (by rfl) p63) (Pl_path p) (Pl_path p0))).cast (by rw [eqD_path, decide_eq_true hc]; rfl))) fDc
          · rw [show (if (!decide (p = p0)) = true then some (D.int 1) else none).toList = [D.int 1] from by rw [decide_eq_false hc]; rfl]
            exact step_add (F := (FC.cmp _ _ _ C Da).hid J) (Tests.one ((Tst.cmp (Ev.neD (Ev.name (by rfl)) (Ev.itemL (Ev.name (by rfl)) Ev.cint (by rfl) p63) (Pl_path p) (Pl_path p0))).cast (by rw [eqD_path, decide_eq_false hc]; rfl))) Ev.cint fDc cmpM) (szK (by rw [List.length_map]; omega))) (szK (by rw [List.length_map]; omega)) (by rfl)) Ev.cint)).cast (by rw [List.length_map, hall]; rfl)) (Exs.stop (Ex.ret (Ev.itemL (Ev.name (by rfl)) Ev.cint (by rfl) p63)) (by simp))) (by simp)
    · rw [jp_diff hall, jn]
      refine Exs.cons (Ex.ifF ((Tst.cmp (Ev.eqI (Ev.lenL (xs := (diffs p0 (p0 :: rs)).map fun _ => D.int 1) (Ev.comp (ρc := [("paths", .list ((p0 :: rs).map pathD))]) (cl := [("paths", L + 1)]) (Ev.name (by rfl)) (SrcOf.list _ (szK (by rw [List.length_map]; omega))) ⟨rfl, subs1 rfl, rfl, by decide, by decide, rfl⟩ ⟨⟨rfl, rfl, rfl, rfl⟩, trivial⟩ (by rfl) (fun C Da fC fD fDc => by
          rw [show (diffs p0 (p0 :: rs)).map (fun _ => D.int 1) = (p0 :: rs).filterMap (fun p => if !decide (p = p0) then some (D.int 1) else none) from (fm_filter _ _ _).symm]
          refine CT.fm pathD (fun p => if !decide (p = p0) then some (D.int 1) else none) (p0 :: rs) (fun p hp J hJ hne => ?_)
          by_cases hc : p = p0
          · rw [show (if (!decide (p = p0)) = true then some (D.int 1) else none).toList = [] from by rw [decide_eq_true hc]; rfl]
            exact step_skip (F := (FC.cmp _ _ _ C Da).hid J) (Tests.one ((Tst.cmp (Ev.neD (Ev.name (by rfl)) (Ev.itemL (Ev.name (by rfl)) Ev.cint (by rfl) p63) (Pl_path p) (Pl_path p0))).cast (by rw [eqD_path, decide_eq_true hc]; rfl))) fDc
          · rw [show (if (!decide (p = p0)) = true then some (D.int 1) else none).toList = [D.int 1] from by rw [decide_eq_false hc]; rfl]
            exact step_add (F := (FC.cmp _ _ _ C Da).hid J) (Tests.one ((Tst.cmp (Ev.neD (Ev.name (by rfl)) (Ev.itemL (Ev.name (by rfl)) Ev.cint (by rfl) p63) (Pl_path p) (Pl_path p0))).cast (by rw [eqD_path, decide_eq_false hc]; rfl))) Ev.cint fDc cmpM) (szK (by rw [List.length_map]; omega))) (szK (by rw [List.length_map]; omega)) (by rfl)) Ev.cint)).cast (by rw [List.length_map, beq_eq_false_iff_ne]; omega)) Exs.nil) ?_
      clear hall hfl
      generalize p0 :: rs = ps at *
      have e17 : FnOk prog w B 1 "common_head" [.list ((ps.map lead).map rowD)] (.tup (I (jhead ps))) [] [] := chead_walk f17 G (ps.map lead) (by simpa using h0) (by rw [List.length_map]; omega) (fun r hr => by obtain ⟨p, hp, rfl⟩ := List.mem_map.mp hr; have := h4 p hp; omega)
      refine Exs.cons (σ₁ := []) (Ex.assign (Ev.callF e17 (Evs.cons (Ev.comp (ρc := []) (cl := []) (Ev.name (by rfl)) (SrcOf.list _ (szK (by rw [List.length_map]; omega))) ⟨rfl, by intro x c h; simp at h, rfl, by decide, by decide, rfl⟩ trivial (by rfl) (fun C Da fC fD fDc => ?_) (szK (by simp; omega))) Evs.nil) (by rfl) r1) (.inl rfl)) ?_
      · rw [show (ps.map lead).map rowD = ps.filterMap (fun p => some (rowD (lead p))) from by simp [Function.comp_def]]
        exact CT.fm pathD (fun p => some (rowD (lead p))) ps (fun p hp J hJ hne => step_add (F := (FC.cmp _ _ _ C Da).hid J) Tests.nil (Ev.callF (lead_walk f15 f12 G p (by have := h1 p hp; omega) (by have := h4 p hp; omega) : FnOk prog w B 2 "leading" _ _ _ _) (Evs.cons (Ev.name (by rfl)) Evs.nil) (by rfl) hroom) fDc cmpM)
      refine Exs.own2 (.inl rfl) (.inl rfl) (fun ar am hne => ?_) (σ' := fun ar am => [(am, .idict (jmem ps)), (ar, .idict (jrest (jhead ps) ps))])
      generalize hH : jhead ps = hd at *
      refine Exs.cons (ρ₁ := [("rest", .loc ar), ("members", .loc am), ("head", .tup (I hd)), ("paths", .list (ps.map pathD))]) (σ₁ := [(am, .idict (jmem ps)), (ar, .idict (jrest hd ps))]) (Ex.forIn (Ev.name (by rfl)) (SrcOf.list _ (szK (by rw [List.length_map]; omega))) ?_) ?_
      · refine Turns.fold' pathD (fun s : List Int × List Int => [(am, MO.idict s.1), (ar, MO.idict s.2)]) (fun s p => (addKs s.1 (inner p), addKs s.2 (jnew hd p))) ps ([], []) rfl (by rw [jfold]; rfl) fun pre x post e J hJ => ⟨_, Asg.name (.inl rfl), ?_⟩
        rw [jfold]
        have hx : x ∈ ps := by rw [e]; simp
        have hpre : ∀ y ∈ pre, y ∈ ps := fun y hy => by rw [e]; simp [hy]
        have hprel : pre.length ≤ 100 := by have := congrArg List.length e; simp at this; omega
        have hm : (pre.foldl (fun m p => addKs m (inner p)) []).length ≤ 100000 := Nat.le_trans (fold_len inner 1000 pre [] fun y hy => h3 y (hpre y hy)) (by simp; omega)
        have hr : (pre.foldl (fun r p => addKs r (jnew hd p)) []).length ≤ 100000 := Nat.le_trans (fold_len (jnew hd) 1000 pre [] fun y hy => by
          have := h2 y (hpre y hy)
          have := List.length_filter_le (fun n => !decide (n ∈ hd)) ((outer y).drop hd.length)
          simp only [jnew, List.length_drop] at this ⊢; omega) (by simp; omega)
        generalize pre.foldl (fun m p => addKs m (inner p)) [] = m at hm ⊢
        generalize pre.foldl (fun r p => addKs r (jnew hd p)) [] = r at hr ⊢
        show Exs _ _ _ _ _ [(am, MO.idict m), (ar, MO.idict r)] _ (.next _ [(am, MO.idict (addKs m (inner x))), (ar, MO.idict (addKs r (jnew hd x)))])
        have hxi := h3 x hx
        have hxo := h2 x hx
        have hxp := h1 x hx
        have e10 : FnOk prog w B 1 "outer_numbers" [pathD x] (.list (I (outer x))) [] [] := outer_walk f10 G x (by omega) (by omega)
        have e11 : FnOk prog w B 1 "inner_numbers" [pathD x] (.list (I (inner x))) [] [] := inner_walk f11 G x (by omega) (by omega)
        refine Exs.back1 (by rfl) ?_
        refine Exs.cons (σ₁ := [(am, .idict (addKs m (inner x))), (ar, .idict r)]) (Ex.expr (Ev.updateI (ns := inner x) (by rfl) ?_ .head (szK (by omega)))) ?_
        · refine Ev.comp (ρc := []) (cl := []) (Ev.callF e11 (Evs.cons (Ev.name (by rfl)) Evs.nil) (by rfl) r1) (SrcOf.list _ (szK (by simp; omega))) ⟨rfl, by intro x c h; simp at h, rfl, by decide, by decide, rfl⟩ trivial (by rfl) (fun C Da fC fD fDc => ?_) (szK (by simp; omega))
          rw [show (inner x).map (fun k => D.tup [.int k, .bool true]) = (inner x).filterMap (fun k => some (D.tup [.int k, .bool true])) from by simp]
          exact CT.fm D.int (fun k => some (D.tup [.int k, .bool true])) (inner x) fun k hk J' hJ' hne' => step_add (F := (FC.cmp _ _ _ C Da).hid J') Tests.nil (Ev.tuple (Evs.cons (Ev.name (by rfl)) (Evs.cons Ev.cbool Evs.nil)) (szK (by simp))) fDc cmpM
        refine Exs.cons (Ex.forIn (σ₁ := [(am, .idict (addKs m (inner x))), (ar, .idict r)]) (d := .list (((outer x).drop hd.length).map D.int)) ((Ev.sliceL (b := none) (Ev.callF e10 (Evs.cons (Ev.name (by rfl)) Evs.nil) (by rfl) r1) (.some (Ev.lenT (Ev.name (by rfl)) (szK (by simp; omega)) (by rfl))) .none (szK (by simp; omega))).cast ?_) (SrcOf.list _ (szK (by simp; omega))) ?_) Exs.nil
        · simp only [sl, I, Option.getD_some, Option.getD_none, List.length_map, List.map_drop]
          rw [List.take_of_length_le (by simp)]
        · refine Turns.fold' D.int (fun r : List Int => [(am, MO.idict (addKs m (inner x))), (ar, MO.idict r)]) (fun r n => if !decide (n ∈ hd) then addK r n else r) ((outer x).drop hd.length) r rfl (by rw [addKs_filter]; rfl) fun pre2 n post2 e2 J2 hJ2 => ⟨_, Asg.name (.inl rfl), ?_⟩
          have hp2 : pre2.length ≤ 1000 := by have := congrArg List.length e2; simp at this; omega
          have hq := fold_add_len (fun n => !decide (n ∈ hd)) pre2 r
          refine Exs.back1 (by rfl) ?_
          by_cases hc : n ∈ hd
          · rw [show (if (!decide (n ∈ hd)) = true then addK (pre2.foldl (fun r n => if (!decide (n ∈ hd)) = true then addK r n else r) r) n else pre2.foldl (fun r n => if (!decide (n ∈ hd)) = true then addK r n else r) r) = pre2.foldl (fun r n => if (!decide (n ∈ hd)) = true then addK r n else r) r from by rw [decide_eq_true hc]; rfl]
            exact Exs.cons (Ex.ifF ((Tst.cmp (Ev.notInT (x := n) (Ev.name (by rfl)) (Ev.name (by rfl)))).cast (by rw [decide_eq_true hc]; rfl)) Exs.nil) Exs.nil
          · rw [show (if (!decide (n ∈ hd)) = true then addK (pre2.foldl (fun r n => if (!decide (n ∈ hd)) = true then addK r n else r) r) n else pre2.foldl (fun r n => if (!decide (n ∈ hd)) = true then addK r n else r) r) = addK (pre2.foldl (fun r n => if (!decide (n ∈ hd)) = true then addK r n else r) r) n from by rw [decide_eq_false hc]; rfl]
            exact Exs.cons (Ex.ifT ((Tst.cmp (Ev.notInT (x := n) (Ev.name (by rfl)) (Ev.name (by rfl)))).cast (by rw [decide_eq_false hc]; rfl)) (Exs.cons (Ex.setI Ev.cbool (by rfl) (Ev.name (by rfl)) (Put.tail (Ne.symm hne) .head) (szK (by omega))) Exs.nil)) Exs.nil
      · have e16 : FnOk prog w B 1 "in_sequences" [.tup (I hd)] (pathD (seqs hd)) [] [] := inSeq_walk f16 G hd (by omega)
        have hs16 : ((seqs hd).map segD).length ≤ 100000 := by simp [seqs, nCut]; omega
        have hseg : (seg1 4 (jmem ps)).length ≤ 1 := by unfold seg1; split <;> simp
        refine Exs.cons (σ₁ := [(am, .idict (jmem ps)), (ar, .idict (jrest hd ps))]) (Ex.assign (d := pathD (seg1 4 (jmem ps) ++ seqs hd)) ?_ (.inl rfl)) (Exs.stop (Ex.ret (d := pathD (seg1 4 (jmem ps) ++ seqs hd ++ seg1 1 (jrest hd ps))) ?_) (by simp))
        · by_cases hz : (jmem ps).length = 0
          · refine Ev.ifT ((Tst.cmp (Ev.eqI (Ev.lenI (ks := jmem ps) (Ev.name (by rfl)) (.lo (by simp)) (szK (by omega)) (by rfl)) Ev.cint)).cast (by rw [hz]; rfl)) ((Ev.callF e16 (Evs.cons (Ev.name (by rfl)) Evs.nil) (by rfl) r1).cast ?_)
            rw [seg1, if_pos hz]; rfl
          · refine Ev.ifF ((Tst.cmp (Ev.eqI (Ev.lenI (ks := jmem ps) (Ev.name (by rfl)) (.lo (by simp)) (szK (by omega)) (by rfl)) Ev.cint)).cast (by rw [beq_eq_false_iff_ne]; omega)) ((Ev.addT (Ev.tuple (Evs.cons (Ev.tuple (Evs.cons (Ev.glo G.cset (by rfl)) (Evs.cons (Ev.tupOfL (Ev.sortedI (ks := jmem ps) (Ev.name (by rfl)) (.lo (by simp)) h5 (by rfl)) (szK (by simp [I]; omega)) (by rfl)) Evs.nil)) (szK (by simp))) Evs.nil) (szK (by simp))) (Ev.callF e16 (Evs.cons (Ev.name (by rfl)) Evs.nil) (by rfl) r1) (szK (by simp at hs16 ⊢; omega))).cast ?_)
            rw [seg1, if_neg hz, path_app]; rfl
        · by_cases hz : (jrest hd ps).length = 0
          · refine Ev.ifT ((Tst.cmp (Ev.eqI (Ev.lenI (ks := jrest hd ps) (Ev.name (by rfl)) (.lo (by simp [List.lookup_cons, beq_false_of_ne hne])) (szK (by omega)) (by rfl)) Ev.cint)).cast (by rw [hz]; rfl)) ((Ev.name (by rfl)).cast ?_)
            rw [seg1.eq_def 1, if_pos hz, List.append_nil]
          · refine Ev.ifF ((Tst.cmp (Ev.eqI (Ev.lenI (ks := jrest hd ps) (Ev.name (by rfl)) (.lo (by simp [List.lookup_cons, beq_false_of_ne hne])) (szK (by omega)) (by rfl)) Ev.cint)).cast (by rw [beq_eq_false_iff_ne]; omega)) ((Ev.addT (xs := (seg1 4 (jmem ps) ++ seqs hd).map segD) (Ev.name (by rfl)) (Ev.tuple (Evs.cons (Ev.tuple (Evs.cons (Ev.glo G.set (by rfl)) (Evs.cons (Ev.tupOfL (Ev.sortedI (ks := jrest hd ps) (Ev.name (by rfl)) (.lo (by simp [List.lookup_cons, beq_false_of_ne hne])) h6 (by rfl)) (szK (by simp [I]; omega)) (by rfl)) Evs.nil)) (szK (by simp))) Evs.nil) (szK (by simp))) (szK (by simp at hs16 ⊢; omega))).cast ?_)
            rw [seg1.eq_def 1, if_neg hz, path_app (seg1 4 (jmem ps) ++ seqs hd)]; rfl
end
end Mine
namespace Mine
def draw (sc : List Int) (i m : Nat) : Nat := if i + 1 ≤ sc.length then (sc.getD i 0).natAbs % m else (5 * (i + 1) + (i + 1) / 2) % m
theorem draw_lt (sc : List Int) (i m : Nat) (h : 0 < m) : draw sc i m < m := by unfold draw; split <;> exact Nat.mod_lt _ h
def boxS (sc : List Int) (i : Nat) : MO := .list [.list (I sc), .int (i : Int)]
theorem abs_nat (x : Int) : (if x < 0 then -x else x) = ((x.natAbs : Nat) : Int) := by split <;> omega
theorem fmod_nat (a b : Nat) : Int.fmod (a : Int) (b : Int) = ((a % b : Nat) : Int) := by
  rw [Int.fmod_eq_emod_of_nonneg _ (by omega)]; rfl
theorem fdiv_nat (a b : Nat) : Int.fdiv (a : Int) (b : Int) = ((a / b : Nat) : Int) := by
  rw [Int.fdiv_eq_ediv_of_nonneg _ (by omega)]; rfl
theorem pyl2 (x : Int) : Builtin.divisionGoesByPylong x 2 = false := by
  have h : (decide ((if ((2 : Int) == 0) = true then 0 else (2 : Int).natAbs.log2 / 30 + 1) > 300)) = false := by decide
  unfold Builtin.divisionGoesByPylong
  simp only
  rw [h, Bool.false_and]
section
variable {prog : Program} {w : World} {B : BS}
theorem draw_walk (fi : FnAt' B 21) (sc : List Int) (i m : Nat) (a0 : Addr) (hs : sc.length ≤ 1000) (hm : 0 < m) (hi : i ≤ 1000000) : FnOk prog w B 1 (fname (stmtAt 21)) [.loc a0, .int (m : Int)] (.int (draw sc i m : Nat)) [(a0, boxS sc i)] [(a0, boxS sc (i + 1))] := by
  refine FnOk.of (names := ["box", "many"]) fi (by decide) (fun pm cd doc vs hl => ?_) (fun L x hx => ?_) fun L a cd A N M0 g hroom hA => ?_
  · match vs, hl with
    | [v, u], _ => rfl
  · simp at hx; rcases hx with rfl | rfl <;> exact .inl rfl
  · conv in fbody _ => whnf
    have q1 : (i : Int) + 1 = ((i + 1 : Nat) : Int) := by omega
    have q2 : ((i + 1 : Nat) : Int) - 1 = ((i : Nat) : Int) := by omega
    refine Exs.cons (σ₁ := [(a0, boxS sc (i + 1))]) (Ex.setX (xs := [.list (I sc), .int (i : Int)]) (d := .int ((i + 1 : Nat) : Int)) (k := 1) ((Ev.add (Ev.itemX (k := 1) (Ev.name (by rfl)) Ev.cint (.lo (xs := [.list (I sc), .int (i : Int)]) (by simp [boxS])) (by rfl) (by decide)) Ev.cint).cast (congrArg D.int q1)) (by rfl) Ev.cint .head (by simp) (by decide)) ?_
    by_cases hc : i + 1 ≤ sc.length
    · refine Exs.stop (Ex.ifT ((Tst.cmp (Ev.leI (Ev.itemX (k := 1) (Ev.name (by rfl)) Ev.cint (.lo (xs := [.list (I sc), .int ((i + 1 : Nat) : Int)]) (by simp [boxS])) (by rfl) (by decide)) (Ev.lenL (xs := I sc) (Ev.itemX (k := 0) (Ev.name (by rfl)) Ev.cint (.lo (xs := [.list (I sc), .int ((i + 1 : Nat) : Int)]) (by simp [boxS])) (by rfl) (by decide)) (szK (by simp; omega)) (by rfl)))).cast ?_) (Exs.stop (Ex.ret (d := .int (draw sc i m : Nat)) ?_) (by simp))) (by simp)
      · rw [decide_eq_true_iff]; simp only [List.length_map]; omega
      · refine (Ev.mod (Ev.abs (Ev.itemL (k := i) (Ev.itemX (k := 0) (Ev.name (by rfl)) Ev.cint (.lo (xs := [.list (I sc), .int ((i + 1 : Nat) : Int)]) (by simp [boxS])) (by rfl) (by decide)) ((Ev.sub (Ev.itemX (k := 1) (Ev.name (by rfl)) Ev.cint (.lo (xs := [.list (I sc), .int ((i + 1 : Nat) : Int)]) (by simp [boxS])) (by rfl) (by decide)) Ev.cint).cast (congrArg D.int q2)) (I_get (by omega)) (by omega)) (by rfl)) (Ev.name (by rfl)) (by omega)).cast ?_
        rw [abs_nat, fmod_nat, draw, if_pos hc]
    · refine Exs.cons (Ex.ifF ((Tst.cmp (Ev.leI (Ev.itemX (k := 1) (Ev.name (by rfl)) Ev.cint (.lo (xs := [.list (I sc), .int ((i + 1 : Nat) : Int)]) (by simp [boxS])) (by rfl) (by decide)) (Ev.lenL (xs := I sc) (Ev.itemX (k := 0) (Ev.name (by rfl)) Ev.cint (.lo (xs := [.list (I sc), .int ((i + 1 : Nat) : Int)]) (by simp [boxS])) (by rfl) (by decide)) (szK (by simp; omega)) (by rfl)))).cast ?_) Exs.nil) (Exs.stop (Ex.ret (d := .int (draw sc i m : Nat)) ?_) (by simp))
      · rw [decide_eq_false_iff_not]; simp only [List.length_map]; omega
      · refine (Ev.mod (Ev.add (Ev.mul Ev.cint (Ev.itemX (k := 1) (Ev.name (by rfl)) Ev.cint (.lo (xs := [.list (I sc), .int ((i + 1 : Nat) : Int)]) (by simp [boxS])) (by rfl) (by decide)) (IntMulOk.of_left (by decide))) (Ev.fdiv (Ev.itemX (k := 1) (Ev.name (by rfl)) Ev.cint (.lo (xs := [.list (I sc), .int ((i + 1 : Nat) : Int)]) (by simp [boxS])) (by rfl) (by decide)) Ev.cint (by decide) (pyl2 _))) (Ev.name (by rfl)) (by omega)).cast ?_
        have e : (5 : Int) * ((i + 1 : Nat) : Int) + Int.fdiv ((i + 1 : Nat) : Int) 2 = ((5 * (i + 1) + (i + 1) / 2 : Nat) : Int) := by
          rw [show (2 : Int) = ((2 : Nat) : Int) from rfl, fdiv_nat]; omega
        rw [e, fmod_nat, draw, if_neg hc]

/-! ### _law_cut -/
def cut (ns : List Int) (sz : Nat) : Path := (if ns = [] then [] else [(2, ns.take sz)]) ++ (List.range (nCut (ns.length - sz))).map fun i => (2, (ns.drop (sz + 255 * i)).take 255)
theorem Pl_listI (ns : List Int) : Pl (.list (I ns)) := ⟨by simp only [pl]; exact I_pl ns, by simp [toPy, PyData.depth, depth_I]⟩
theorem Pl_tupI (ns : List Int) : Pl (.tup (I ns)) := ⟨by simp only [pl]; exact I_pl ns, by simp [toPy, PyData.depth, depth_I]⟩
theorem cut_walk (fi : FnAt' B 22) (ns : List Int) (sz : Nat) (hn : ns.length ≤ 1000) (hs : sz ≤ 1000) : FnOk prog w B 1 (fname (stmtAt 22)) [.list (I ns), .int (sz : Int)] (pathD (cut ns sz)) [] [] := by
  refine FnOk.of (names := ["numbers", "size"]) fi (by decide) (fun pm cd doc vs hl => ?_) (fun L x hx => ?_) fun L a cd A N M0 g hroom hA => ?_
  · match vs, hl with
    | [v, u], _ => rfl
  · simp at hx; rcases hx with rfl | rfl <;> exact .inl rfl
  · conv in fbody _ => whnf
    obtain ⟨h1, h2⟩ := range_size sz ns.length (by omega) (by omega)
    have hcz : nCut (ns.length - sz) ≤ 1000 := by unfold nCut; omega
    have hcl : (cut ns sz).length ≤ 1001 := by unfold cut; split <;> simp <;> omega
    refine Exs.own (σ₁ := []) (mo := .list ((if ns = [] then [] else [(2, ns.take sz)]).map segD)) (σ' := fun l => [(l, .list ((cut ns sz).map segD))]) ?_ (.inl rfl) (fun l hl' => ?_)
    · by_cases he : ns = []
      · refine EvNew.ifF ((Tst.cmp (Ev.neD (Ev.name (by rfl)) (Ev.listD (ds := I []) Evs.nil (szK (by simp))) (Pl_listI ns) (Pl_listI []))).cast (by rw [eqD_listI, decide_eq_true he]; rfl)) ?_
        rw [if_pos he]
        exact EvNew.list Evs.nil (szK (by simp))
      · refine EvNew.ifT ((Tst.cmp (Ev.neD (Ev.name (by rfl)) (Ev.listD (ds := I []) Evs.nil (szK (by simp))) (Pl_listI ns) (Pl_listI []))).cast (by rw [eqD_listI, decide_eq_false he]; rfl)) ?_
        rw [if_neg he]
        refine EvNew.list (ds := [segD (2, ns.take sz)]) (Evs.cons (Ev.tuple (Evs.cons Ev.cint (Evs.cons ((Ev.tupOfL (Ev.sliceL (a := none) (b := some sz) (Ev.name (by rfl)) .none (.some (Ev.name (by rfl))) (szK (by simp; omega))) (szK (by simp [sl]; omega)) (by rfl)).cast ?_) Evs.nil)) (szK (by simp))) Evs.nil) (szK (by simp))
        simp [sl, I, List.map_take]
    · refine Exs.cons (ρ₁ := [("found", .loc l), ("numbers", .list (I ns)), ("size", .int (sz : Int))]) (σ₁ := [(l, .list ((cut ns sz).map segD))]) (Ex.forIn (Ev.range3 (Ev.name (by rfl)) (Ev.lenL (Ev.name (by rfl)) (szK (by simp; omega)) (by rfl)) Ev.cint (by decide) (pyl _) (by rfl)) (SrcOf.rng _ _ _ (nCut (ns.length - sz)) (by simpa using h2) (by simpa using h1) (szK (by omega))) ?_) (Exs.stop (Ex.ret (Ev.tupOfX (Ev.name (by rfl)) (.lo (by simp)) (szK (by simp; omega)) (by rfl))) (by simp))
      rw [show (cut ns sz).map segD = (if ns = [] then [] else [(2, ns.take sz)]).map segD ++ (List.range (nCut (ns.length - sz))).flatMap (fun i => [segD (2, (ns.drop (sz + 255 * i)).take 255)]) from by rw [flatMap_one, cut, List.map_append, List.map_map]; rfl]
      refine Turns.gather (fun (i : Nat) => D.int ((sz : Int) + (i : Int) * 255)) (fun i => [segD (2, (ns.drop (sz + 255 * i)).take 255)]) 100000 (List.range (nCut (ns.length - sz))) _ (fun i hi acc hK J hJ => ⟨_, Asg.name (.inl rfl), ?_⟩) ?_
      · have q1 : ((sz : Int) + (i : Int) * 255) = ((sz + 255 * i : Nat) : Int) := by omega
        have q2 : ((sz : Int) + (i : Int) * 255) + 255 = ((sz + 255 * i + 255 : Nat) : Int) := by omega
        refine Exs.back1 (by rfl) ?_
        refine Exs.cons (Ex.expr (Ev.append (d := segD (2, (ns.drop (sz + 255 * i)).take 255)) (by rfl) (Ev.tuple (Evs.cons Ev.cint (Evs.cons ((Ev.tupOfL (Ev.sliceL (a := some (sz + 255 * i)) (b := some (sz + 255 * i + 255)) (Ev.name (by rfl)) (.some ((Ev.name (by rfl)).cast (congrArg D.int q1))) (.some ((Ev.add (Ev.name (by rfl)) Ev.cint).cast (congrArg D.int q2))) (szK (by simp; omega))) (szK (by simp [sl]; omega)) (by rfl)).cast ?_) Evs.nil)) (szK (by simp))) .head (szK (by simp at hK; omega)))) Exs.nil
        simp only [sl, Option.getD_some]
        rw [show sz + 255 * i + 255 - (sz + 255 * i) = 255 from by omega]
        simp [I, List.map_take, List.map_drop]
      · rw [flatMap_one]; split <;> simp <;> omega
end
end Mine
namespace Mine
def menu3 : List (List Int) := [[], [14], [15, 11]]
def menuM : List (List Int) := [[], [61], [62, 61], [63]]
def menuS : List (List Int) := [[], [], [17, 18]]
def menuC : List Nat := [1, 2, 255]
def longRow : List Int := (List.range 300).map fun (i : Nat) => 1000 + (i : Int) * 1
structure Rt where
  path : Path
  mem : List Int
  row : List Int
  som : List Int
def tail1 (som : List Int) : Path := if som = [] then [] else [(1, som)]
def mkRow (sc : List Int) (i : Nat) (long : Bool) : List Int × Nat := if long then (longRow, i) else ([11, 12, 13].take (draw sc i 4) ++ menu3.getD (draw sc (i + 1) 3) [], i + 2)
def rtPath (sc : List Int) (row mem som : List Int) (j : Nat) : Path := (if mem = [] then [] else [((3 + (draw sc (j + 3) 2 : Nat) : Int), mem)]) ++ (cut row (menuC.getD (draw sc (j + 2) 3) 0) ++ tail1 som)
def rtMem (sc : List Int) (j : Nat) : List Int := menuM.getD (draw sc j 4) []
def rtSom (sc : List Int) (j : Nat) : List Int := menuS.getD (draw sc (j + 1) 3) []
def route (sc : List Int) (i : Nat) (long : Bool) : Rt :=
  ⟨rtPath sc (mkRow sc i long).1 (rtMem sc (mkRow sc i long).2) (rtSom sc (mkRow sc i long).2) (mkRow sc i long).2, rtMem sc (mkRow sc i long).2, (mkRow sc i long).1, rtSom sc (mkRow sc i long).2⟩
def routeN (sc : List Int) (i : Nat) (long : Bool) : Nat := (mkRow sc i long).2 + if rtMem sc (mkRow sc i long).2 = [] then 3 else 4
def rtD (r : Rt) : D := .tup [pathD r.path, .tup (I r.mem), .list (I r.row), .tup (I r.som)]
theorem getD_get {α : Type} {l : List α} {k : Nat} {x : α} (f : α → D) (h : k < l.length) : (l.map f)[k]? = some (f (l.getD k x)) := by
  simp [List.getD, h]
theorem menu3_get {k : Nat} (h : k < 3) : [D.list [], D.list [D.int 14], D.list [D.int 15, D.int 11]][k]? = some (D.list (I (menu3.getD k []))) := getD_get (l := menu3) (x := []) (fun l => D.list (I l)) h
theorem menuM_get {k : Nat} (h : k < 4) : [D.tup [], D.tup [D.int 61], D.tup [D.int 62, D.int 61], D.tup [D.int 63]][k]? = some (D.tup (I (menuM.getD k []))) := getD_get (l := menuM) (x := []) (fun l => D.tup (I l)) h
theorem menuS_get {k : Nat} (h : k < 3) : [D.tup [], D.tup [], D.tup [D.int 17, D.int 18]][k]? = some (D.tup (I (menuS.getD k []))) := getD_get (l := menuS) (x := []) (fun l => D.tup (I l)) h
theorem menu3_len (k : Nat) : (menu3.getD k []).length ≤ 2 := by
  match k with
  | 0 | 1 | 2 => decide
  | k + 3 => simp [menu3]
theorem menuM_len (k : Nat) : (menuM.getD k []).length ≤ 2 := by
  match k with
  | 0 | 1 | 2 | 3 => decide
  | k + 4 => simp [menuM]
theorem menuS_len (k : Nat) : (menuS.getD k []).length ≤ 2 := by
  match k with
  | 0 | 1 | 2 => decide
  | k + 3 => simp [menuS]
theorem menuC_le (k : Nat) : menuC.getD k 0 ≤ 255 := by
  match k with
  | 0 | 1 | 2 => decide
  | k + 3 => simp [menuC]
theorem mkRow_len (sc : List Int) (i : Nat) (long : Bool) : (mkRow sc i long).1.length ≤ 300 := by
  cases long with
  | true => simp [mkRow, longRow]
  | false =>
    have := menu3_len (draw sc (i + 1) 3)
    simp only [mkRow, Bool.false_eq_true, if_false, List.length_append, List.length_take, List.length_cons, List.length_nil]; omega
theorem mkRow_nxt (sc : List Int) (i : Nat) (long : Bool) : (mkRow sc i long).2 ≤ i + 2 := by cases long <;> simp [mkRow]
theorem cut_len (ns : List Int) (sz : Nat) (h : ns.length ≤ 1000) : (cut ns sz).length ≤ 1001 := by
  have hcz : nCut (ns.length - sz) ≤ 1000 := by unfold nCut; omega
  unfold cut; split <;> simp <;> omega
theorem tail1_len (s : List Int) : (tail1 s).length ≤ 1 := by unfold tail1; split <;> simp
theorem i63 {k : Nat} (h : k ≤ 1000000000) : (k : Int) < 2 ^ 63 := by omega
section
variable {prog : Program} {w : World} {B : BS} {F : FC} {ρ : List (Str × D)} {σ σ' : List (Addr × MO)}
theorem Ev.listRng {e : Expr} {px pos : Pos} {a b c : Int} {n : Nat} (y : Ev prog w B F ρ σ e (.rng a b c) σ') (hsm : Builtin.Range.small a b c = true) (hn : Builtin.Range.rangeSize a b c = n) (hlen : n ≤ 1000000) (hk : F.env.kindOf "list" = some .globalImplicit) (hs : noStar e = true := by rfl) :
    Ev prog w B F ρ σ (.Call (.Name "list" px) [e] [] pos) (.list (I ((List.range n).map fun (i : Nat) => a + (i : Int) * c))) σ' :=
  Ev.callB hk (by decide) PyProof.Rows.boot_list (.ty _) (Evs.cons y Evs.nil hs) (by simp) fun s vs H r => by
    simp only [RL] at r
    obtain ⟨v, _, rfl, r1, rfl⟩ := r
    simp only [R] at r1
    obtain ⟨x, t, u, q, rfl, hr⟩ := r1
    refine call_list_range H.ok.hand (of_hideAll _ hr) hsm hn (by omega) fun h' tk acc c' hk' hS hI => ?_
    refine Post.grown H hk' (R.list (hideAll_get _ hS H.freshM) (RL.of_ints ?_))
    have key : ∀ (m : Nat) (l : List Value) (s0 : Nat), l.length = m → (∀ i, i < m → ∃ t, l[i]? = some (.int (a + ((s0 + i : Nat) : Int) * c) t)) → IntsAre l ((List.range' s0 m).map fun (i : Nat) => a + (i : Int) * c) := by
      intro m
      induction m with
      | zero => intro l s0 hl _; rw [List.length_eq_zero_iff] at hl; subst hl; exact .nil
      | succ m ih =>
        intro l s0 hl hi
        cases l with
        | nil => simp at hl
        | cons v l =>
          obtain ⟨t, e⟩ := hi 0 (by omega)
          simp at e; subst e
          rw [List.range'_succ, List.map_cons]
          refine .cons _ t (ih l (s0 + 1) (by simpa using hl) fun i hi' => ?_)
          obtain ⟨t, e⟩ := hi (i + 1) (by omega)
          refine ⟨t, ?_⟩
          rw [show s0 + 1 + i = s0 + (i + 1) from by omega]
          simpa using e
    rw [List.range_eq_range']
    refine key n acc.toList 0 (by have := hI.1; simpa using this) fun i hi => ?_
    have hlt : i < acc.size := by rw [hI.1]; exact hi
    obtain ⟨t, e⟩ := hI.2 i acc[i] (by simp [hlt])
    exact ⟨t, by rw [Nat.zero_add, ← e]; simp [hlt]⟩
theorem Ev.draw' (f21 : FnAt' B 21) {sc : List Int} {i m k : Nat} {mi : Int} {a0 : Addr} {px p1 p2 pos : Pos} (hs : sc.length ≤ 1000) (hmi : mi = (m : Int)) (hm : 0 < m) (hi : i ≤ 1000000) (hb : ρ.lookup ("box" : Str) = some (D.loc a0)) (hk : F.env.kindOf "_law_draw" = some .globalImplicit) (hr : Room F.A 1) :
    Ev prog w B F ρ [(a0, boxS sc i)] (.Call (.Name "_law_draw" px) [.Name "box" p1, .Constant (.int mi) k p2] [] pos) (.int (draw sc i m : Nat)) [(a0, boxS sc (i + 1))] := by
  have e : FnOk prog w B 1 "_law_draw" [.loc a0, .int (m : Int)] (.int (draw sc i m : Nat)) [(a0, boxS sc i)] [(a0, boxS sc (i + 1))] := draw_walk f21 sc i m a0 hs hm hi
  subst hmi
  exact Ev.callW e (Evs.cons (Ev.name hb) (Evs.cons Ev.cint Evs.nil)) .head hk hr

theorem conz {e : Expr} {es : List Expr} {d : D} {ds : List D} (x : Ev prog w B F ρ σ e d σ) (y : Evs prog w B F ρ σ es ds σ) (hn : noStar e = true := by rfl) : Evs prog w B F ρ σ (e :: es) (d :: ds) σ := Evs.cons x y hn

set_option maxHeartbeats 8000000 in
theorem route_walk (fi : FnAt' B 23) (f21 : FnAt' B 21) (f22 : FnAt' B 22) (sc : List Int) (i : Nat) (long : Bool) (a0 : Addr) (hs : sc.length ≤ 1000) (hi : i ≤ 100000) : FnOk prog w B 2 (fname (stmtAt 23)) [.loc a0, .bool long] (rtD (route sc i long)) [(a0, boxS sc i)] [(a0, boxS sc (routeN sc i long))] := by
  refine FnOk.of (names := ["box", "is_long"]) fi (by decide) (fun pm cd doc vs hl => ?_) (fun L x hx => ?_) fun L a cd A N M0 g hroom hA => ?_
  · match vs, hl with
    | [v, u], _ => rfl
  · simp at hx; rcases hx with rfl | rfl <;> exact .inl rfl
  · conv in fbody _ => whnf
    refine Exs.cons (ρ₁ := [("row", .list (I (mkRow sc i long).1)), ("box", .loc a0), ("is_long", .bool long)]) (σ₁ := [(a0, boxS sc (mkRow sc i long).2)]) (Ex.assign ?_ (.inl rfl)) ?_
    · cases long with
      | true =>
        exact Ev.ifT (Tst.val (Ev.name (by rfl))) (Ev.listRng (n := 300) (Ev.range2 Ev.cint Ev.cint (by rfl)) (by decide) (by decide) (by decide) (by rfl))
      | false =>
        have d1 := draw_lt sc i 4 (by decide)
        have d2 := draw_lt sc (i + 1) 3 (by decide)
        refine Ev.ifF (σ₁ := [(a0, boxS sc i)]) (Tst.val (Ev.name (by rfl))) ?_
        refine Ev.cast (d := .list (sl (I [11, 12, 13]) none (some (draw sc i 4)) ++ I (menu3.getD (draw sc (i + 1) 3) []))) ?_ ?_
        · refine Ev.addL (σ₁ := [(a0, boxS sc (i + 1))]) ?_ ?_ (szK ?_)
          · exact Ev.sliceL (a := none) (b := some (draw sc i 4)) (Ev.listD (ds := I [11, 12, 13]) (Evs.cons Ev.cint (Evs.cons Ev.cint (Evs.cons Ev.cint Evs.nil))) (szK (by decide))) .none (.some (Ev.draw' f21 hs (m := 4) rfl (by decide) (by omega) (by rfl) (by rfl) hroom)) (szK (by decide))
          · refine Ev.itemL (σ₁ := [(a0, boxS sc (i + 1))]) ?_ ?_ (menu3_get d2) ?_ ?_
            · refine Ev.listD (conz ?_ (conz ?_ (conz ?_ Evs.nil))) (szK (by decide))
              · exact Ev.listD Evs.nil (szK (by decide))
              · exact Ev.listD (Evs.cons Ev.cint Evs.nil) (szK (by decide))
              · exact Ev.listD (Evs.cons Ev.cint (Evs.cons Ev.cint Evs.nil)) (szK (by decide))
            · exact Ev.draw' f21 hs (m := 3) rfl (by decide) (by omega) (by rfl) (by rfl) hroom
            · exact i63 (by omega)
            · rfl
          · have := menu3_len (draw sc (i + 1) 3)
            simp only [sl, I, List.length_map, List.length_take, List.length_drop, List.length_cons, List.length_nil]; omega
        · simp [sl, I, List.map_take, mkRow]
    · have hj1 := mkRow_nxt sc i long
      have hrl := mkRow_len sc i long
      rw [show rtD (route sc i long) = .tup [pathD (rtPath sc (mkRow sc i long).1 (rtMem sc (mkRow sc i long).2) (rtSom sc (mkRow sc i long).2) (mkRow sc i long).2), .tup (I (rtMem sc (mkRow sc i long).2)), .list (I (mkRow sc i long).1), .tup (I (rtSom sc (mkRow sc i long).2))] from rfl]
      rw [show routeN sc i long = (mkRow sc i long).2 + if rtMem sc (mkRow sc i long).2 = [] then 3 else 4 from rfl]
      generalize (mkRow sc i long).2 = j at *
      generalize (mkRow sc i long).1 = row at *
      have d1 := draw_lt sc j 4 (by decide)
      have d2 := draw_lt sc (j + 1) 3 (by decide)
      have d3 := draw_lt sc (j + 2) 3 (by decide)
      have d4 := draw_lt sc (j + 3) 2 (by decide)
      have hml : (rtMem sc j).length ≤ 2 := menuM_len _
      have hsl : (rtSom sc j).length ≤ 2 := menuS_len _
      have hcl := menuC_le (draw sc (j + 2) 3)
      refine Exs.cons (σ₁ := [(a0, boxS sc (j + 1))]) (ρ₁ := [("members", D.tup (I (rtMem sc j))), ("row", D.list (I row)), ("box", D.loc a0), ("is_long", D.bool long)]) ?_ ?_
      · refine Ex.assign ?_ ?_ ?_
        · refine Ev.itemL (σ₁ := [(a0, boxS sc j)]) ?_ ?_ (menuM_get d1) ?_ ?_
          · refine Ev.listD (conz ?_ (conz ?_ (conz ?_ (conz ?_ Evs.nil)))) (szK (by decide))
            · exact Ev.tuple Evs.nil (szK (by decide))
            · exact Ev.tuple (Evs.cons Ev.cint Evs.nil) (szK (by decide))
            · exact Ev.tuple (Evs.cons Ev.cint (Evs.cons Ev.cint Evs.nil)) (szK (by decide))
            · exact Ev.tuple (Evs.cons Ev.cint Evs.nil) (szK (by decide))
          · exact Ev.draw' f21 hs (m := 4) rfl (by decide) (by omega) (by rfl) (by rfl) hroom
          · exact i63 (by omega)
          · rfl
        · exact .inl rfl
        · rfl
      refine Exs.cons (σ₁ := [(a0, boxS sc (j + 2))]) (ρ₁ := [("some", D.tup (I (rtSom sc j))), ("members", D.tup (I (rtMem sc j))), ("row", D.list (I row)), ("box", D.loc a0), ("is_long", D.bool long)]) ?_ ?_
      · refine Ex.assign ?_ ?_ ?_
        · refine Ev.itemL (σ₁ := [(a0, boxS sc (j + 1))]) ?_ ?_ (menuS_get d2) ?_ ?_
          · refine Ev.listD (conz ?_ (conz ?_ (conz ?_ Evs.nil))) (szK (by decide))
            · exact Ev.tuple Evs.nil (szK (by decide))
            · exact Ev.tuple Evs.nil (szK (by decide))
            · exact Ev.tuple (Evs.cons Ev.cint (Evs.cons Ev.cint Evs.nil)) (szK (by decide))
          · exact Ev.draw' f21 hs (m := 3) rfl (by decide) (by omega) (by rfl) (by rfl) hroom
          · exact i63 (by omega)
          · rfl
        · exact .inl rfl
        · rfl
      have e22 : FnOk prog w B 1 "_law_cut" [.list (I row), .int ((menuC.getD (draw sc (j + 2) 3) 0 : Nat) : Int)] (pathD (cut row (menuC.getD (draw sc (j + 2) 3) 0))) [] [] := cut_walk f22 row _ (by omega) (by omega)
      have hcut := cut_len row (menuC.getD (draw sc (j + 2) 3) 0) (by omega)
      have htl := tail1_len (rtSom sc j)
      refine Exs.cons (σ₁ := [(a0, boxS sc (j + 3))]) (Ex.assign (d := pathD (cut row (menuC.getD (draw sc (j + 2) 3) 0) ++ tail1 (rtSom sc j))) ((Ev.addT (ys := (tail1 (rtSom sc j)).map segD) (σ₁ := [(a0, boxS sc (j + 3))]) (Ev.callF e22 (Evs.cons (Ev.name (by rfl)) (Evs.cons (Ev.itemL (k := draw sc (j + 2) 3) (xs := menuC.map fun (c : Nat) => D.int (c : Int)) (Ev.listD (Evs.cons Ev.cint (Evs.cons Ev.cint (Evs.cons Ev.cint Evs.nil))) (szK (by decide))) (Ev.draw' f21 hs (m := 3) rfl (by decide) (by omega) (by rfl) (by rfl) hroom) (getD_get (x := 0) _ (by simpa [menuC] using d3)) (i63 (by omega))) Evs.nil)) (by rfl) hroom) ?_ (szK (by simp only [List.length_map]; omega))).cast (path_app _ _).symm) (.inl rfl)) ?_
      · by_cases he : rtSom sc j = []
        · refine (Ev.ifF ((Tst.cmp (Ev.neD (Ev.name (by rfl)) (Ev.tuple (ds := I []) Evs.nil (szK (by simp))) (Pl_tupI (rtSom sc j)) (Pl_tupI []))).cast (by rw [eqD_tupI, decide_eq_true he]; rfl)) (Ev.tuple Evs.nil (szK (by decide)))).cast ?_
          rw [tail1, if_pos he]; rfl
        · refine (Ev.ifT ((Tst.cmp (Ev.neD (Ev.name (by rfl)) (Ev.tuple (ds := I []) Evs.nil (szK (by simp))) (Pl_tupI (rtSom sc j)) (Pl_tupI []))).cast (by rw [eqD_tupI, decide_eq_false he]; rfl)) (Ev.tuple (Evs.cons (Ev.tuple (Evs.cons Ev.cint (Evs.cons (Ev.name (by rfl)) Evs.nil)) (szK (by simp))) Evs.nil) (szK (by simp)))).cast ?_
          rw [tail1, if_neg he]; rfl
      · by_cases he : rtMem sc j = []
        · rw [if_pos he]
          refine Exs.stop (Ex.ret (Ev.tuple (Evs.cons ((Ev.addT (σ₁ := [(a0, boxS sc (j + 3))]) (ys := (cut row (menuC.getD (draw sc (j + 2) 3) 0) ++ tail1 (rtSom sc j)).map segD) (Ev.ifF ((Tst.cmp (Ev.neD (Ev.name (by rfl)) (Ev.tuple (ds := I []) Evs.nil (szK (by simp))) (Pl_tupI (rtMem sc j)) (Pl_tupI []))).cast (by rw [eqD_tupI, decide_eq_true he]; rfl)) (Ev.tuple Evs.nil (szK (by decide)))) (Ev.name (by rfl)) (szK (by simp only [List.length_map, List.length_append, List.length_nil]; omega))).cast ?_) (Evs.cons (Ev.name (by rfl)) (Evs.cons (Ev.name (by rfl)) (Evs.cons (Ev.name (by rfl)) Evs.nil)))) (szK (by simp)))) (by simp)
          rw [rtPath, if_pos he, List.nil_append, List.nil_append]; rfl
        · rw [if_neg he]
          refine Exs.stop (Ex.ret (Ev.tuple (Evs.cons ((Ev.addT (σ₁ := [(a0, boxS sc (j + 4))]) (ys := (cut row (menuC.getD (draw sc (j + 2) 3) 0) ++ tail1 (rtSom sc j)).map segD) (Ev.ifT ((Tst.cmp (Ev.neD (Ev.name (by rfl)) (Ev.tuple (ds := I []) Evs.nil (szK (by simp))) (Pl_tupI (rtMem sc j)) (Pl_tupI []))).cast (by rw [eqD_tupI, decide_eq_false he]; rfl)) (Ev.tuple (Evs.cons (Ev.tuple (Evs.cons (Ev.add Ev.cint (Ev.draw' f21 hs (m := 2) rfl (by decide) (by omega) (by rfl) (by rfl) hroom)) (Evs.cons (Ev.name (by rfl)) Evs.nil)) (szK (by simp))) Evs.nil) (szK (by simp)))) (Ev.name (by rfl)) (szK (by simp only [List.length_map, List.length_append, List.length_cons, List.length_nil]; omega))).cast ?_) (Evs.cons (Ev.name (by rfl)) (Evs.cons (Ev.name (by rfl)) (Evs.cons (Ev.name (by rfl)) Evs.nil)))) (szK (by simp)))) (by simp)
          rw [rtPath, if_neg he, path_app]; rfl
end
end Mine
namespace Mine
def hlen (rows : List (List Int)) : Nat := ((List.range (minLen rows)).takeWhile (agree rows)).length
def dmem (rts : List Rt) : List Int := addKs [] (rts.flatMap (·.mem))
def doth (hd : List Int) (m : Nat) (rts : List Rt) : List Int := addKs [] (rts.flatMap fun r => (r.row.drop m ++ r.som).filter fun n => !decide (n ∈ hd))
def segD1 (k : Int) (l : List Int) : Path := if l = [] then [] else [(k, l)]
def drows (rts : List Rt) : List (List Int) := rts.map (·.row)
def dhd (rts : List Rt) : List Int := ((drows rts).headD []).take (hlen (drows rts))
def dn (rts : List Rt) : Path := segD1 4 (srt (dmem rts)) ++ cut (dhd rts) 255 ++ segD1 1 (srt (doth (dhd rts) (hlen (drows rts)) rts))
def due : List Rt → Path
  | [] => []
  | r0 :: rs => if (addKs [] ((r0 :: rs).map (·.path))).length = 1 then r0.path else dn (r0 :: rs)
theorem due_one {r0 : Rt} {rs : List Rt} (h : (addKs [] ((r0 :: rs).map (·.path))).length = 1) : due (r0 :: rs) = r0.path := if_pos h
theorem due_many {r0 : Rt} {rs : List Rt} (h : ¬ (addKs [] ((r0 :: rs).map (·.path))).length = 1) : due (r0 :: rs) = dn (r0 :: rs) := if_neg h
theorem addKP_len (ks : List Path) (k : Path) : (addK ks k).length ≤ ks.length + 1 := by unfold addK; split <;> simp
theorem addKsP_len : ∀ (more ks : List Path), (addKs ks more).length ≤ ks.length + more.length
  | [], ks => by simp [addKs]
  | m :: more, ks => by
    have h1 := addKP_len ks m
    have h2 := addKsP_len more (addK ks m)
    simp only [addKs, List.foldl_cons, List.length_cons] at h2 ⊢
    omega
theorem srt_len (l : List Int) : (srt l).length = l.length := by unfold srt; exact List.length_mergeSort ..
def rowL (r : List Int) : D := .list (I r)
theorem weakSet {ρ : List (Str × D)} {n : Str} {e e' : D} : ∀ x d, List.lookup x ((n, e) :: ρ) = some d → List.lookup x ((n, e) :: (n, e') :: ρ) = some d := fun x d h => by
  rw [List.lookup_cons] at h ⊢
  by_cases q : x = n
  · subst q; simpa using h
  · have q' : (x == n) = false := by simpa using q
    rw [q'] at h ⊢; rw [List.lookup_cons, q']; exact h
section
variable {prog : Program} {w : World} {B : BS}
theorem CT.fl {α : Type} {F : FC} {Da : Addr} {n : Str} {rest : PT} {ρ : List (Str × D)} {σ : List (Addr × MO)} (g : α → D) (f : α → List D) : ∀ (xs : List α),
    (∀ x ∈ xs, ∀ J, Free F J → J ≠ Da → StepOk prog w B (F.hid J) Da rest ((n, g x) :: ρ) σ (f x) σ) → CT prog w B F Da n rest (xs.map g) ρ σ (xs.flatMap f) σ
  | [], _ => CT.nil
  | x :: xs, step => by
    have := CT.cons (step x List.mem_cons_self) (CT.fl g f xs fun y hy => step y (List.mem_cons_of_mem _ hy))
    simpa using this
theorem flatMap_pairs {α : Type} (f : α → List Int) (l : List α) : (l.flatMap f).map (fun k => D.tup [.int k, .bool true]) = l.flatMap (fun x => (f x).map fun k => D.tup [.int k, .bool true]) := by
  induction l with
  | nil => rfl
  | cons x l ih => simp only [List.flatMap_cons, List.map_append, ih]
/-- where the common head ends -/
theorem hlen_le (rows : List (List Int)) : hlen rows ≤ minLen rows := by
  have := (List.takeWhile_sublist (agree rows) (l := List.range (minLen rows))).length_le
  simpa [hlen] using this
theorem takeWhile_range (t : Nat → Bool) (n : Nat) : (∀ i, i < ((List.range n).takeWhile t).length → t i = true) ∧ (((List.range n).takeWhile t).length < n → t ((List.range n).takeWhile t).length = false) := by
  have key : ∀ (m s : Nat), (∀ i, i < ((List.range' s m).takeWhile t).length → t (s + i) = true) ∧ (((List.range' s m).takeWhile t).length < m → t (s + ((List.range' s m).takeWhile t).length) = false) := by
    intro m
    induction m with
    | zero => intro s; simp
    | succ m ih =>
      intro s
      rw [List.range'_succ, List.takeWhile_cons]
      cases h : t s with
      | false => simp [h]
      | true =>
        obtain ⟨h1, h2⟩ := ih (s + 1)
        simp only [if_true, List.length_cons]
        refine ⟨fun i hi => ?_, fun hlt => ?_⟩
        · cases i with
          | zero => simpa using h
          | succ i => have := h1 i (by omega); rw [show s + (i + 1) = s + 1 + i from by omega]; exact this
        · have := h2 (by omega); rw [show s + (((List.range' (s + 1) m).takeWhile t).length + 1) = s + 1 + ((List.range' (s + 1) m).takeWhile t).length from by omega]; exact this
  have := key n 0
  rw [List.range_eq_range']
  simpa using this
theorem hlen_in (rows : List (List Int)) (i : Nat) (h : i < hlen rows) : agree rows i = true := (takeWhile_range (agree rows) (minLen rows)).1 i h
theorem hlen_at (rows : List (List Int)) (h : hlen rows < minLen rows) : agree rows (hlen rows) = false := (takeWhile_range (agree rows) (minLen rows)).2 h

theorem WT.count {F : FC} {t : Expr} {body : List Stmt} (ρ : Nat → List (Str × D)) {σ : List (Addr × MO)} (m : Nat) (stop : Tst prog w B F (ρ m) σ t false σ) (go : ∀ i, i < m → Tst prog w B F (ρ i) σ t true σ ∧ Exs prog w B F (ρ i) σ body (.next (ρ (i + 1)) σ)) :
    WT prog w B F t body m (ρ 0) σ (.next (ρ m) σ) := by
  have key : ∀ k i, i + k = m → WT prog w B F t body k (ρ i) σ (.next (ρ m) σ) := by
    intro k
    induction k with
    | zero => intro i h; rw [show i = m from h]; exact WT.stop stop
    | succ k ih => intro i h; obtain ⟨x, y⟩ := go i (by omega); exact WT.turn x y (ih (i + 1) (by omega))
  exact key m 0 (by omega)
theorem agree_rep (r0 : List Int) (rs : List (List Int)) (i : Nat) : decide ((r0 :: rs).map (fun r => r.getD i 0) = List.replicate (r0 :: rs).length (r0.getD i 0)) = agree (r0 :: rs) i := by
  rw [Bool.eq_iff_iff, decide_eq_true_iff, List.eq_replicate_iff]
  simp only [agree, List.all_eq_true, List.headD_cons, beq_iff_eq, List.length_map, true_and, List.mem_map]
  constructor
  · intro h r hr; exact h _ ⟨r, hr, rfl⟩
  · rintro h b ⟨r, hr, rfl⟩; exact h r hr
theorem I_rep (n : Nat) (v : Int) : List.replicate n (D.int v) = I (List.replicate n v) := by simp [I]
set_option maxHeartbeats 8000000 in
theorem due_walk (fi : FnAt' B 24) (f22 : FnAt' B 22) (rts : List Rt) (h0 : rts ≠ []) (hl : rts.length ≤ 100) (h1 : ∀ r ∈ rts, r.row.length ≤ 1000) (h2 : ∀ r ∈ rts, r.mem.length ≤ 1000) (h3 : ∀ r ∈ rts, r.som.length ≤ 1000)
    (h5 : (dmem rts).length < 64) (h6 : (doth (dhd rts) (hlen (drows rts)) rts).length < 64) (h7 : (rts.flatMap (·.mem)).length ≤ 100000) (h8 : (rts.flatMap fun r => (r.row.drop (hlen (drows rts)) ++ r.som).filter fun n => !decide (n ∈ dhd rts)).length ≤ 100000) :
    FnOk prog w B 2 (fname (stmtAt 24)) [.list (rts.map rtD)] (pathD (due rts)) [] [] := by
  refine FnOk.of (names := ["routes"]) fi (by decide) (fun pm cd doc vs hl => ?_) (fun L x hx => ?_) fun L a cd A N M0 g hroom hA => ?_
  · match vs, hl with
    | [v], _ => rfl
  · simp at hx; subst hx; exact .inl rfl
  · conv in fbody _ => whnf
    obtain ⟨r0, rs, rfl⟩ : ∃ r0 rs', rts = r0 :: rs' := by cases rts with | nil => exact absurd rfl h0 | cons a b => exact ⟨a, b, rfl⟩
    have hone := addKsP_len ((r0 :: rs).map (·.path)) []
    by_cases hall : (addKs [] ((r0 :: rs).map (·.path))).length = 1
    · rw [due_one hall]
      exact Exs.stop (Ex.ifT (σ₁ := []) ((Tst.cmp (Ev.eqI (σ₁ := []) (a := ((addKs [] ((r0 :: rs).map (·.path))).length : Nat)) (Ev.lenTD (Ev.dictP (ks := (r0 :: rs).map (·.path)) (Ev.comp (ρc := []) (cl := []) (Ev.name (by rfl)) (SrcOf.list _ (szK (by rw [List.length_map]; omega))) ⟨rfl, by intro x c h; simp at h, rfl, by decide, by decide, rfl⟩ trivial (by rfl) (fun C Da fC fD fDc => by
        rw [show ((r0 :: rs).map (·.path)).map (fun k => D.tup [pathD k, .bool true]) = (r0 :: rs).filterMap (fun r => some (D.tup [pathD r.path, .bool true])) from by simp [Function.comp_def]]
        exact CT.fm rtD (fun r => some (D.tup [pathD r.path, .bool true])) (r0 :: rs) fun r hr J hJ hne => step_add (F := (FC.cmp _ _ _ C Da).hid J) Tests.nil (Ev.tuple (Evs.cons (Ev.itemT (k := 0) (Ev.name (by rfl)) Ev.cint (by rfl) p63) (Evs.cons Ev.cbool Evs.nil)) (szK (by simp))) fDc cmpM) (szK (by simp only [List.length_map]; omega))) (szK (by rw [List.length_map]; omega)) (by rfl)) (szK (by simp at hone hl ⊢; omega)) (by rfl)) Ev.cint)).cast (by rw [hall]; rfl)) (Exs.stop (Ex.ret (Ev.itemT (k := 0) (Ev.itemL (k := 0) (Ev.name (by rfl)) Ev.cint (by rfl) p63) Ev.cint (by rfl) p63)) (by simp))) (by simp)
    · rw [due_many hall, dn]
      refine Exs.cons (σ₁ := []) (Ex.ifF (σ₁ := []) ((Tst.cmp (Ev.eqI (σ₁ := []) (a := ((addKs [] ((r0 :: rs).map (·.path))).length : Nat)) (Ev.lenTD (Ev.dictP (ks := (r0 :: rs).map (·.path)) (Ev.comp (ρc := []) (cl := []) (Ev.name (by rfl)) (SrcOf.list _ (szK (by rw [List.length_map]; omega))) ⟨rfl, by intro x c h; simp at h, rfl, by decide, by decide, rfl⟩ trivial (by rfl) (fun C Da fC fD fDc => by
        rw [show ((r0 :: rs).map (·.path)).map (fun k => D.tup [pathD k, .bool true]) = (r0 :: rs).filterMap (fun r => some (D.tup [pathD r.path, .bool true])) from by simp [Function.comp_def]]
        exact CT.fm rtD (fun r => some (D.tup [pathD r.path, .bool true])) (r0 :: rs) fun r hr J hJ hne => step_add (F := (FC.cmp _ _ _ C Da).hid J) Tests.nil (Ev.tuple (Evs.cons (Ev.itemT (k := 0) (Ev.name (by rfl)) Ev.cint (by rfl) p63) (Evs.cons Ev.cbool Evs.nil)) (szK (by simp))) fDc cmpM) (szK (by simp only [List.length_map]; omega))) (szK (by rw [List.length_map]; omega)) (by rfl)) (szK (by simp at hone hl ⊢; omega)) (by rfl)) Ev.cint)).cast (by rw [beq_eq_false_iff_ne]; omega)) Exs.nil) ?_
      clear hall hone
      have hq0 : drows (r0 :: rs) = r0.row :: drows rs := rfl
      have hhd : dhd (r0 :: rs) = r0.row.take (hlen (drows (r0 :: rs))) := rfl
      generalize r0.row = q0 at *
      generalize drows rs = qs at *
      have hrows : drows (r0 :: rs) = (r0 :: rs).map (·.row) := rfl
      generalize hR : drows (r0 :: rs) = rows at *
      generalize hD : dhd (r0 :: rs) = hd at *
      generalize r0 :: rs = rts at *
      have hrl : ∀ r ∈ rows, r.length ≤ 1000 := fun r hr => by rw [hrows] at hr; obtain ⟨x, hx, rfl⟩ := List.mem_map.mp hr; exact h1 x hx
      have hrlen : rows.length = rts.length := by rw [hrows, List.length_map]
      have hq : rows = q0 :: qs := hq0
      have hrn : rows ≠ [] := by rw [hq]; simp
      have hminle : ∀ a ∈ rows.map (fun r => ((r.length : Nat) : Int)), ((minLen rows : Nat) : Int) ≤ a := fun x hx => by obtain ⟨r, hr, rfl⟩ := List.mem_map.mp hx; exact_mod_cast minLen_le r hr
      have hmin := hlen_le rows
      have hq0l := hrl q0 (hq ▸ List.mem_cons_self)
      have hminq := minLen_le q0 (hq ▸ List.mem_cons_self : q0 ∈ rows)
      refine Exs.cons (ρ₁ := [("many", .int ((0 : Nat) : Int)), ("rows", .list (rows.map rowL)), ("routes", .list (rts.map rtD))]) (σ₁ := []) (Ex.assign2 (d1 := .list (rows.map rowL)) (d2 := .int ((0 : Nat) : Int)) (Ev.tuple (Evs.cons (Ev.comp (ρc := []) (cl := []) (Ev.name (by rfl)) (SrcOf.list _ (szK (by rw [List.length_map]; omega))) ⟨rfl, by intro x c h; simp at h, rfl, by decide, by decide, rfl⟩ trivial (by rfl) (fun C Da fC fD fDc => ?_) (szK (by simp only [List.length_map]; omega))) (Evs.cons Ev.cint Evs.nil)) (szK (by simp))) (.inr ⟨rfl, rfl⟩) (.inr ⟨rfl, rfl⟩)) ?_
      · rw [show rows.map rowL = rts.filterMap (fun r => some (rowL r.row)) from by rw [hrows]; simp [Function.comp_def]]
        exact CT.fm rtD (fun r => some (rowL r.row)) rts fun r hr J hJ hne => step_add (F := (FC.cmp _ _ _ C Da).hid J) Tests.nil (Ev.itemT (k := 2) (Ev.name (by rfl)) Ev.cint (by rfl) (by decide)) fDc cmpM
      refine Exs.cons (ρ₁ := [("many", .int ((hlen rows : Nat) : Int)), ("rows", .list (rows.map rowL)), ("routes", .list (rts.map rtD))]) (σ₁ := []) (Ex.whileIn (n := hlen rows) (WT.count (fun i => [("many", .int ((i : Nat) : Int)), ("rows", .list (rows.map rowL)), ("routes", .list (rts.map rtD))]) (hlen rows) ?_ fun i hi => ⟨?_, ?_⟩)) ?_
      · by_cases hm : hlen rows < minLen rows
        · exact Tst.and2 (σ₁ := []) ((Tst.cmp (Ev.gtI (σ₁ := []) (a := ((minLen rows : Nat) : Int)) (b := ((hlen rows : Nat) : Int)) (Ev.min (ns := rows.map fun r => ((r.length : Nat) : Int)) (M := minLen rows) (Ev.comp (ρc := []) (cl := []) (Ev.name (by rfl)) (SrcOf.list _ (szK (by rw [List.length_map]; omega))) ⟨rfl, by intro x c h; simp at h, rfl, by decide, by decide, rfl⟩ trivial (by rfl) (fun C Da fC fD fDc => by
          rw [show I (rows.map fun r => ((r.length : Nat) : Int)) = rows.filterMap (fun r => some (D.int ((r.length : Nat) : Int))) from by simp [I, Function.comp_def]]
          exact CT.fm rowL (fun r => some (D.int ((r.length : Nat) : Int))) rows fun r hr J hJ hne => step_add (F := (FC.cmp _ _ _ C Da).hid J) Tests.nil ((Ev.lenL (Ev.name (by rfl)) (szK (by have := hrl r hr; rw [List.length_map]; omega)) (by rfl)).cast (by rw [List.length_map])) fDc cmpM) (szK (by simp only [List.length_map]; omega))) (minLen_mem hrn) hminle (by rfl)) (Ev.name (by rfl)))).cast (by rw [decide_eq_true_iff]; exact_mod_cast hm)) ((Tst.cmp (Ev.eqD (σ₁ := []) (a := .list (I (rows.map fun r => r.getD (hlen rows) 0))) (b := .list (I (List.replicate rows.length (q0.getD (hlen rows) 0)))) (Ev.comp (ρc := [("many", .int (((hlen rows) : Nat) : Int))]) (cl := [("many", L + 1 + 1)]) (Ev.name (by rfl)) (SrcOf.list _ (szK (by rw [List.length_map]; omega))) ⟨rfl, subs1 rfl, rfl, by decide, by decide, rfl⟩ ⟨⟨rfl, rfl, rfl, rfl⟩, trivial⟩ (by rfl) (fun C Da fC fD fDc => by
          rw [show I (rows.map fun r => r.getD (hlen rows) 0) = rows.filterMap (fun r => some (D.int (r.getD (hlen rows) 0))) from by simp [I, Function.comp_def]]
          exact CT.fm rowL (fun r => some (D.int (r.getD (hlen rows) 0))) rows fun r hr J hJ hne => step_add (F := (FC.cmp _ _ _ C Da).hid J) Tests.nil (Ev.itemL (Ev.name (by rfl)) (Ev.name (by rfl)) (I_get (Nat.lt_of_lt_of_le hm (minLen_le r hr))) (by have := minLen_le r hr; have := hrl r hr; omega)) fDc cmpM) (szK (by simp only [List.length_map]; omega)))
          ((Ev.rep1 (x := .int (q0.getD (hlen rows) 0)) (n := rows.length) (Ev.listD (Evs.cons (Ev.itemL (Ev.itemL (k := 0) (Ev.name (by rfl)) Ev.cint (by rw [hq]; rfl) p63) (Ev.name (by rfl)) (I_get (Nat.lt_of_lt_of_le hm (minLen_le q0 (hq ▸ List.mem_cons_self)))) (by have := minLen_le q0 (hq ▸ List.mem_cons_self); have := hrl q0 (hq ▸ List.mem_cons_self); omega)) Evs.nil) (szK (by simp))) ((Ev.lenL (Ev.name (by rfl)) (szK (by rw [List.length_map]; omega)) (by rfl)).cast (by rw [List.length_map])) (by omega)).cast (by rw [I_rep])) (Pl_listI _) (Pl_listI _))).cast (by rw [eqD_listI, hq, agree_rep, ← hq]; exact hlen_at rows hm))
        · exact Tst.and1 ((Tst.cmp (Ev.gtI (σ₁ := []) (a := ((minLen rows : Nat) : Int)) (b := ((hlen rows : Nat) : Int)) (Ev.min (ns := rows.map fun r => ((r.length : Nat) : Int)) (M := minLen rows) (Ev.comp (ρc := []) (cl := []) (Ev.name (by rfl)) (SrcOf.list _ (szK (by rw [List.length_map]; omega))) ⟨rfl, by intro x c h; simp at h, rfl, by decide, by decide, rfl⟩ trivial (by rfl) (fun C Da fC fD fDc => by
          rw [show I (rows.map fun r => ((r.length : Nat) : Int)) = rows.filterMap (fun r => some (D.int ((r.length : Nat) : Int))) from by simp [I, Function.comp_def]]
          exact CT.fm rowL (fun r => some (D.int ((r.length : Nat) : Int))) rows fun r hr J hJ hne => step_add (F := (FC.cmp _ _ _ C Da).hid J) Tests.nil ((Ev.lenL (Ev.name (by rfl)) (szK (by have := hrl r hr; rw [List.length_map]; omega)) (by rfl)).cast (by rw [List.length_map])) fDc cmpM) (szK (by simp only [List.length_map]; omega))) (minLen_mem hrn) hminle (by rfl)) (Ev.name (by rfl)))).cast (by rw [decide_eq_false_iff_not]; exact_mod_cast hm))
      · have hi2 : i < minLen rows := Nat.lt_of_lt_of_le hi hmin
        exact Tst.and2 (σ₁ := []) ((Tst.cmp (Ev.gtI (σ₁ := []) (a := ((minLen rows : Nat) : Int)) (b := ((i : Nat) : Int)) (Ev.min (ns := rows.map fun r => ((r.length : Nat) : Int)) (M := minLen rows) (Ev.comp (ρc := []) (cl := []) (Ev.name (by rfl)) (SrcOf.list _ (szK (by rw [List.length_map]; omega))) ⟨rfl, by intro x c h; simp at h, rfl, by decide, by decide, rfl⟩ trivial (by rfl) (fun C Da fC fD fDc => by
          rw [show I (rows.map fun r => ((r.length : Nat) : Int)) = rows.filterMap (fun r => some (D.int ((r.length : Nat) : Int))) from by simp [I, Function.comp_def]]
          exact CT.fm rowL (fun r => some (D.int ((r.length : Nat) : Int))) rows fun r hr J hJ hne => step_add (F := (FC.cmp _ _ _ C Da).hid J) Tests.nil ((Ev.lenL (Ev.name (by rfl)) (szK (by have := hrl r hr; rw [List.length_map]; omega)) (by rfl)).cast (by rw [List.length_map])) fDc cmpM) (szK (by simp only [List.length_map]; omega))) (minLen_mem hrn) hminle (by rfl)) (Ev.name (by rfl)))).cast (by rw [decide_eq_true_iff]; exact_mod_cast hi2)) ((Tst.cmp (Ev.eqD (σ₁ := []) (a := .list (I (rows.map fun r => r.getD i 0))) (b := .list (I (List.replicate rows.length (q0.getD i 0)))) (Ev.comp (ρc := [("many", .int ((i : Nat) : Int))]) (cl := [("many", L + 1 + 1)]) (Ev.name (by rfl)) (SrcOf.list _ (szK (by rw [List.length_map]; omega))) ⟨rfl, subs1 rfl, rfl, by decide, by decide, rfl⟩ ⟨⟨rfl, rfl, rfl, rfl⟩, trivial⟩ (by rfl) (fun C Da fC fD fDc => by
          rw [show I (rows.map fun r => r.getD i 0) = rows.filterMap (fun r => some (D.int (r.getD i 0))) from by simp [I, Function.comp_def]]
          exact CT.fm rowL (fun r => some (D.int (r.getD i 0))) rows fun r hr J hJ hne => step_add (F := (FC.cmp _ _ _ C Da).hid J) Tests.nil (Ev.itemL (Ev.name (by rfl)) (Ev.name (by rfl)) (I_get (Nat.lt_of_lt_of_le hi2 (minLen_le r hr))) (by have := minLen_le r hr; have := hrl r hr; omega)) fDc cmpM) (szK (by simp only [List.length_map]; omega)))
          ((Ev.rep1 (x := .int (q0.getD i 0)) (n := rows.length) (Ev.listD (Evs.cons (Ev.itemL (Ev.itemL (k := 0) (Ev.name (by rfl)) Ev.cint (by rw [hq]; rfl) p63) (Ev.name (by rfl)) (I_get (Nat.lt_of_lt_of_le hi2 (minLen_le q0 (hq ▸ List.mem_cons_self)))) (by have := minLen_le q0 (hq ▸ List.mem_cons_self); have := hrl q0 (hq ▸ List.mem_cons_self); omega)) Evs.nil) (szK (by simp))) ((Ev.lenL (Ev.name (by rfl)) (szK (by rw [List.length_map]; omega)) (by rfl)).cast (by rw [List.length_map])) (by omega)).cast (by rw [I_rep])) (Pl_listI _) (Pl_listI _))).cast (by rw [eqD_listI, hq, agree_rep, ← hq]; exact hlen_in rows i hi))
      · exact Exs.weak (Exs.cons (Ex.assign ((Ev.add (Ev.name (by rfl)) Ev.cint).cast (congrArg D.int (show ((i : Nat) : Int) + 1 = ((i + 1 : Nat) : Int) from by omega))) (.inr ⟨rfl, rfl⟩)) Exs.nil) weakSet
      -- members
      refine Exs.cons (σ₁ := []) (Ex.assign (d := .list (I (srt (dmem rts)))) (Ev.sortedI (ks := dmem rts) (Ev.dictOf (ks := rts.flatMap (·.mem)) (Ev.comp2 (ρc := []) (cl := []) (Ev.name (by rfl)) (SrcOf.list _ (szK (by rw [List.length_map]; omega))) ⟨rfl, by intro x c h; simp at h, rfl, by decide, by decide, rfl⟩ trivial (by rfl) (fun C Da fC fD fDc => ?_) (szK (by rw [List.length_map]; omega))) (szK (by omega)) (by rfl)) .fr h5 (by rfl)) (.inl rfl)) ?_
      · rw [flatMap_pairs]
        refine CT.fl rtD (fun r => r.mem.map fun k => D.tup [.int k, .bool true]) rts fun r hr J hJ hne => ?_
        have hm2 := h2 r hr
        refine step_inner (F := (FC.cmp _ _ _ C Da).hid J) fDc cmpM rfl (by rfl) (Ev.itemT (k := 1) (Ev.name (by rfl)) Ev.cint (by rfl) (by decide)) (SrcOf.tup _ (szK (by rw [List.length_map]; omega))) ?_
        rw [show r.mem.map (fun k => D.tup [.int k, .bool true]) = r.mem.filterMap (fun k => some (D.tup [.int k, .bool true])) from by simp]
        exact CT.fm D.int (fun k => some (D.tup [.int k, .bool true])) r.mem fun k hk J' hJ' hne' => step_add (F := ((FC.cmp _ _ _ C Da).hid J).hid J') Tests.nil (Ev.tuple (Evs.cons (Ev.name (by rfl)) (Evs.cons Ev.cbool Evs.nil)) (szK (by simp))) fDc (mem_hid.mpr (.inr cmpM))
      -- others
      refine Exs.cons (σ₁ := []) (Ex.assign (d := .list (I (srt (doth hd (hlen rows) rts)))) (Ev.sortedI (ks := doth hd (hlen rows) rts) (Ev.dictOf (ks := rts.flatMap fun r => (r.row.drop (hlen rows) ++ r.som).filter fun n => !decide (n ∈ hd)) (Ev.comp2 (ρc := [("many", .int ((hlen rows : Nat) : Int)), ("rows", .list (rows.map rowL))]) (cl := [("rows", L + 1), ("many", L + 1 + 1)]) (Ev.name (by rfl)) (SrcOf.list _ (szK (by rw [List.length_map]; omega))) ⟨rfl, subs2 rfl rfl, rfl, by decide, by decide, rfl⟩ ⟨⟨rfl, rfl, rfl, rfl⟩, ⟨rfl, rfl, rfl, rfl⟩, trivial⟩ (by rfl) (fun C Da fC fD fDc => ?_) (szK (by rw [List.length_map]; omega))) (szK (by omega)) (by rfl)) .fr h6 (by rfl)) (.inl rfl)) ?_
      · rw [flatMap_pairs]
        refine CT.fl rtD (fun r => ((r.row.drop (hlen rows) ++ r.som).filter fun n => !decide (n ∈ hd)).map fun k => D.tup [.int k, .bool true]) rts fun r hr J hJ hne => ?_
        have hr1 := h1 r hr
        have hr3 := h3 r hr
        refine step_inner (F := (FC.cmp _ _ _ C Da).hid J) (xs2 := (r.row.drop (hlen rows) ++ r.som).map D.int) (src := .list (I (r.row.drop (hlen rows) ++ r.som))) fDc cmpM rfl (by rfl) ((Ev.addL (σ₁ := []) (Ev.sliceL (a := some (hlen rows)) (b := none) (Ev.itemT (k := 2) (Ev.name (by rfl)) Ev.cint (by rfl) (by decide)) (.some (Ev.name (by rfl))) .none (szK (by rw [List.length_map]; omega))) (Ev.listOfSeq (T := true) (xs := I r.som) (Ev.itemT (k := 3) (Ev.name (by rfl)) Ev.cint (by rfl) (by decide)) (szK (by rw [List.length_map]; omega)) (by rfl)) (szK (by simp only [sl, I, List.length_take, List.length_drop, List.length_map]; omega))).cast ?_) (SrcOf.list _ (szK (by rw [List.length_map, List.length_append, List.length_drop]; omega))) ?_
        · simp only [sl, I, Option.getD_some, Option.getD_none, List.length_map, List.map_append, List.map_drop]
          rw [List.take_of_length_le (by simp)]
        rw [show ((r.row.drop (hlen rows) ++ r.som).filter fun n => !decide (n ∈ hd)).map (fun k => D.tup [.int k, .bool true]) = (r.row.drop (hlen rows) ++ r.som).filterMap (fun n => if !decide (n ∈ hd) then some (D.tup [.int n, .bool true]) else none) from (fm_filter _ _ _).symm]
        refine CT.fm D.int (fun n => if !decide (n ∈ hd) then some (D.tup [.int n, .bool true]) else none) (r.row.drop (hlen rows) ++ r.som) fun k hk J' hJ' hne' => ?_
        have cutD : D.list (sl (I q0) none (some (hlen rows))) = .list (I hd) := by
          rw [hhd]; simp [sl, I, List.map_take]
        by_cases hc : k ∈ hd
        · rw [show (if (!decide (k ∈ hd)) = true then some (D.tup [.int k, .bool true]) else none).toList = [] from by rw [decide_eq_true hc]; rfl]
          exact step_skip (F := ((FC.cmp _ _ _ C Da).hid J).hid J') (Tests.one ((Tst.cmp (Ev.notInL (σ₁ := []) (x := k) (ns := hd) (Ev.name (by rfl)) ((Ev.sliceL (a := none) (b := some (hlen rows)) (Ev.itemL (k := 0) (Ev.name (by rfl)) Ev.cint (by rw [hq]; rfl) p63) .none (.some (Ev.name (by rfl))) (szK (by rw [List.length_map]; omega))).cast cutD))).cast (by rw [decide_eq_true hc]; rfl))) fDc
        · rw [show (if (!decide (k ∈ hd)) = true then some (D.tup [.int k, .bool true]) else none).toList = [D.tup [.int k, .bool true]] from by rw [decide_eq_false hc]; rfl]
          exact step_add (F := ((FC.cmp _ _ _ C Da).hid J).hid J') (Tests.one ((Tst.cmp (Ev.notInL (σ₁ := []) (x := k) (ns := hd) (Ev.name (by rfl)) ((Ev.sliceL (a := none) (b := some (hlen rows)) (Ev.itemL (k := 0) (Ev.name (by rfl)) Ev.cint (by rw [hq]; rfl) p63) .none (.some (Ev.name (by rfl))) (szK (by rw [List.length_map]; omega))).cast cutD))).cast (by rw [decide_eq_false hc]; rfl))) (Ev.tuple (Evs.cons (Ev.name (by rfl)) (Evs.cons Ev.cbool Evs.nil)) (szK (by simp))) fDc (mem_hid.mpr (.inr cmpM))
      -- found
      have hdl : hd.length ≤ 1000 := by rw [hhd, List.length_take]; omega
      have cutD : D.list (sl (I q0) none (some (hlen rows))) = .list (I hd) := by
        rw [hhd]; simp [sl, I, List.map_take]
      have e22 : FnOk prog w B 1 "_law_cut" [.list (I hd), .int ((255 : Nat) : Int)] (pathD (cut hd 255)) [] [] := cut_walk f22 hd 255 hdl (by omega)
      have hcut := cut_len hd 255 hdl
      have hs1 := srt_len (dmem rts)
      have hs2 := srt_len (doth hd (hlen rows) rts)
      have hsg : ∀ k l, (segD1 k l).length ≤ 1 := fun k l => by unfold segD1; split <;> simp
      have hsg1 := hsg 4 (srt (dmem rts))
      refine Exs.cons (σ₁ := []) (Ex.assign (d := pathD (segD1 4 (srt (dmem rts)) ++ cut hd 255)) ((Ev.addT (σ₁ := []) (xs := (segD1 4 (srt (dmem rts))).map segD) ?_ (Ev.callF e22 (Evs.cons ((Ev.sliceL (a := none) (b := some (hlen rows)) (Ev.itemL (k := 0) (Ev.name (by rfl)) Ev.cint (by rw [hq]; rfl) p63) .none (.some (Ev.name (by rfl))) (szK (by rw [List.length_map]; omega))).cast cutD) (Evs.cons Ev.cint Evs.nil)) (by rfl) hroom) (szK (by simp only [List.length_map]; omega))).cast (path_app _ _).symm) (.inl rfl)) (Exs.stop (Ex.ret ((Ev.addT (σ₁ := []) (xs := (segD1 4 (srt (dmem rts)) ++ cut hd 255).map segD) (ys := (segD1 1 (srt (doth hd (hlen rows) rts))).map segD) (Ev.name (by rfl)) ?_ (szK (by have := hsg 1 (srt (doth hd (hlen rows) rts)); simp only [List.length_map, List.length_append]; omega))).cast (path_app _ _).symm)) (by simp))
      · by_cases he : srt (dmem rts) = []
        · refine (Ev.ifF (σ₁ := []) ((Tst.cmp (Ev.neD (Ev.name (by rfl)) (Ev.listD (ds := I []) Evs.nil (szK (by simp))) (Pl_listI (srt (dmem rts))) (Pl_listI []))).cast (by rw [eqD_listI, decide_eq_true he]; rfl)) (Ev.tuple Evs.nil (szK (by simp)))).cast ?_
          rw [segD1, if_pos he]; rfl
        · refine (Ev.ifT (σ₁ := []) ((Tst.cmp (Ev.neD (Ev.name (by rfl)) (Ev.listD (ds := I []) Evs.nil (szK (by simp))) (Pl_listI (srt (dmem rts))) (Pl_listI []))).cast (by rw [eqD_listI, decide_eq_false he]; rfl)) (Ev.tuple (Evs.cons (Ev.tuple (Evs.cons Ev.cint (Evs.cons (Ev.tupOfL (xs := I (srt (dmem rts))) (Ev.name (by rfl)) (szK (by rw [List.length_map]; omega)) (by rfl)) Evs.nil)) (szK (by simp))) Evs.nil) (szK (by simp)))).cast ?_
          rw [segD1, if_neg he]; rfl
      · by_cases he : srt (doth hd (hlen rows) rts) = []
        · refine (Ev.ifF (σ₁ := []) ((Tst.cmp (Ev.neD (Ev.name (by rfl)) (Ev.listD (ds := I []) Evs.nil (szK (by simp))) (Pl_listI (srt (doth hd (hlen rows) rts))) (Pl_listI []))).cast (by rw [eqD_listI, decide_eq_true he]; rfl)) (Ev.tuple Evs.nil (szK (by simp)))).cast ?_
          rw [segD1, if_pos he]; rfl
        · refine (Ev.ifT (σ₁ := []) ((Tst.cmp (Ev.neD (Ev.name (by rfl)) (Ev.listD (ds := I []) Evs.nil (szK (by simp))) (Pl_listI (srt (doth hd (hlen rows) rts))) (Pl_listI []))).cast (by rw [eqD_listI, decide_eq_false he]; rfl)) (Ev.tuple (Evs.cons (Ev.tuple (Evs.cons Ev.cint (Evs.cons (Ev.tupOfL (xs := I (srt (doth hd (hlen rows) rts))) (Ev.name (by rfl)) (szK (by rw [List.length_map]; omega)) (by rfl)) Evs.nil)) (szK (by simp))) Evs.nil) (szK (by simp)))).cast ?_
          rw [segD1, if_neg he]; rfl
end
end Mine
namespace Mine
def medOk (p : Path) : Bool := match noConf p with
  | [] => true
  | s :: _ => s.1 != 1
def attrD (p : Path) : D := .sdict ["origin", "as_path", "next_hop", "med"] [.int 0, pathD p, .int 4, .int 5]
def ownD : D := .sdict ["as", "id", "addr"] [.int 500, .int 9, .int 77]
def jaK (b : Bool) : List Str := if b then ["origin", "as_path", "next_hop", "aggregator", "med"] else ["origin", "as_path", "next_hop", "aggregator"]
def jaV (p : Path) (b : Bool) : List D := if b then [.int 0, pathD p, .int 77, .tup [.int 500, .int 9], .int 5] else [.int 0, pathD p, .int 77, .tup [.int 500, .int 9]]
theorem weakSame {ρ : List (Str × D)} {n : Str} {e : D} (h : ρ.lookup n = some e) : ∀ x d, ρ.lookup x = some d → ((n, e) :: ρ).lookup x = some d := fun x d hx => by
  rw [List.lookup_cons]
  by_cases q : x = n
  · subst q; rw [h] at hx; simpa using hx
  · have q' : (x == n) = false := by simpa using q
    rw [q']; exact hx
section
variable {prog : Program} {w : World} {B : BS}
theorem Turns.same {F : FC} {t : Expr} {body : List Stmt} {ρ : List (Str × D)} {σ : List (Addr × MO)} : ∀ {xs : List D},
    (∀ x ∈ xs, ∀ I, Free F I → ∃ ρ', Asg prog w B (F.hid I) t x ρ ρ' ∧ Exs prog w B (F.hid I) ρ' σ body (.next ρ σ)) → Turns prog w B F t body xs ρ σ (.next ρ σ)
  | [], _ => Turns.nil
  | x :: xs, step => Turns.cons (step x List.mem_cons_self) (Turns.same fun y hy => step y (List.mem_cons_of_mem _ hy))

theorem Exs.consS {F : FC} {ρ : List (Str × D)} {σ σ₁ : List (Addr × MO)} {st : Stmt} {rest : List Stmt} {out : Out} (x : Ex prog w B F ρ σ st (.next ρ σ₁)) (y : Exs prog w B F ρ σ₁ rest out) : Exs prog w B F ρ σ (st :: rest) out := Exs.cons x y
theorem comm_walk (fi : FnAt' B 2) : FnOk prog w B 1 (fname (stmtAt 2)) [.tup [], .tup []] (.tup []) [] [] := by
  refine FnOk.of (names := ["one", "other"]) fi (by decide) (fun pm cd doc vs hl => ?_) (fun L x hx => ?_) fun L a cd A N M0 g hroom hA => ?_
  · match vs, hl with
    | [v, u], _ => rfl
  · simp at hx; rcases hx with rfl | rfl <;> exact .inl rfl
  · conv in fbody _ => whnf
    exact Exs.cons (Ex.forIn (Ev.name (by rfl)) (SrcOf.tup [] (szK (by simp))) Turns.nil) (Exs.stop (Ex.ret (Ev.name (by rfl))) (by simp))

set_option maxHeartbeats 8000000 in
theorem attrs_walk (fi : FnAt' B 19) (f2 : FnAt' B 2) (f12 : FnAt' B 12) (G : Glb prog w B) (ps : List Path) (h0 : ps ≠ []) (hl : ps.length ≤ 100) (h1 : (jp ps).length ≤ 1000)
    (e18 : FnOk prog w B 3 "joined_path" [.list (ps.map pathD)] (pathD (jp ps)) [] []) :
    FnOk prog w B 4 (fname (stmtAt 19)) [.list (ps.map attrD), ownD, .bool true] (.sdict (jaK (medOk (jp ps))) (jaV (jp ps) (medOk (jp ps)))) [] [] := by
  refine FnOk.of (names := ["rows", "own", "is_set_kept"]) fi (by decide) (fun pm cd doc vs hl => ?_) (fun L x hx => ?_) fun L a cd A N M0 g hroom hA => ?_
  · match vs, hl with
    | [v, u, t], _ => rfl
  · simp at hx; rcases hx with rfl | rfl | rfl <;> exact .inl rfl
  · conv in fbody _ => whnf
    have r1 : Room A 1 := ⟨by have := hroom.1; omega, by have := hroom.2; omega⟩
    obtain ⟨p0, rs, rfl⟩ : ∃ r0 rs', ps = r0 :: rs' := by cases ps with | nil => exact absurd rfl h0 | cons a b => exact ⟨a, b, rfl⟩
    refine Exs.cons (σ₁ := []) (Ex.assignComp (ρc := []) (cl := []) (ys := (p0 :: rs).map pathD) (by rfl) (Ev.name (by rfl)) (SrcOf.list _ (szK (by rw [List.length_map]; omega))) ⟨rfl, by intro x c h; simp at h, rfl, by decide, by decide, rfl⟩ trivial (by rfl) (.inl rfl) (fun C Da fC fD fDc => ?_) (szK (by simp only [List.length_map]; omega))) ?_
    · rw [show (p0 :: rs).map pathD = (p0 :: rs).filterMap (fun p => some (pathD p)) from by simp]
      exact CT.fm attrD (fun p => some (pathD p)) (p0 :: rs) fun r hr J hJ hne => step_add (F := (FC.cmp _ _ _ C Da).hid J) Tests.nil (Ev.itemS (Ev.name (by rfl)) .fr (by rfl)) fDc cmpM
    refine Exs.cons (σ₁ := []) (Ex.assign (Ev.callF e18 (Evs.cons (Ev.name (by rfl)) Evs.nil) (by rfl) hroom) (.inl rfl)) ?_
    refine Exs.cons (σ₁ := []) (Ex.assign (Ev.ifT (σ₁ := []) (Tst.val (Ev.name (by rfl))) (Ev.name (by rfl))) (.inl rfl)) ?_
    generalize hW : jp (p0 :: rs) = wh at *
    refine Exs.own (σ₁ := []) (mo := .sdict ["origin", "as_path", "next_hop"] [.int 0, pathD wh, .int 77]) (σ' := fun l => [(l, .sdict (jaK (medOk wh)) (jaV wh (medOk wh)))]) (EvNew.dictS (fun J hJ => Prs.cons (Ev.max (ns := (p0 :: rs).map fun _ => (0 : Int)) (M := 0) (Ev.comp (ρc := []) (cl := []) (Ev.name (by rfl)) (SrcOf.list _ (szK (by rw [List.length_map]; omega))) ⟨rfl, by intro x c h; simp at h, rfl, by decide, by decide, rfl⟩ trivial (by rfl) (fun C Da fC fD fDc => ?_) (szK (by simp only [I, List.length_map]; omega))) (by simp) (by simp) (by rfl)) (Prs.cons (Ev.name (by rfl)) (Prs.cons (Ev.itemS (Ev.name (by rfl)) .fr (by rfl)) Prs.nil))) (by decide)) (.inl rfl) (fun l hl' => ?_)
    · rw [show I ((p0 :: rs).map fun _ => (0 : Int)) = (p0 :: rs).filterMap (fun p => some (D.int 0)) from by simp [I, Function.comp_def]]
      exact CT.fm attrD (fun p => some (D.int 0)) (p0 :: rs) fun r hr J' hJ' hne => step_add (F := (FC.cmp _ _ _ C Da).hid J') Tests.nil (Ev.itemS (Ev.name (by rfl)) .fr (by rfl)) fDc cmpM
    refine Exs.cons (σ₁ := [(l, .sdict (jaK false) (jaV wh false))]) (Ex.setS (d := .tup [.int 500, .int 9]) (Ev.tuple (Evs.cons (Ev.itemS (Ev.name (by rfl)) .fr (by rfl)) (Evs.cons (Ev.itemS (Ev.name (by rfl)) .fr (by rfl)) Evs.nil)) (szK (by simp))) (by rfl) .head (by decide) (szK (by simp))) ?_
    have e12 : FnOk prog w B 1 "without_confed" [pathD wh] (pathD (noConf wh)) [] [] := noConf_walk f12 G wh (by omega)
    refine Exs.cons (σ₁ := [(l, .sdict (jaK false) (jaV wh false))]) (Ex.assign2S (d1 := .int 5) (d2 := pathD (noConf wh)) (Ev.tuple (Evs.cons (Ev.get1 (Ev.itemL (k := 0) (Ev.name (by rfl)) Ev.cint (by rfl) p63) .fr (by rfl)) (Evs.cons (Ev.callF e12 (Evs.cons (Ev.name (by rfl)) Evs.nil) (by rfl) r1) Evs.nil)) (szK (by simp))) (.inl rfl) (.inl rfl)) ?_
    refine Exs.consS (σ₁ := [(l, .sdict (jaK (medOk wh)) (jaV wh (medOk wh)))]) ?_ ?_
    · have hne : ∀ (h : Heap) (u : Value), R prog w h u (.int 5) → u ≠ Value.none := fun h u r e => by subst e; simp [R] at r
      cases hn : noConf wh with
      | nil =>
        rw [show medOk wh = true from by simp [medOk, hn]]
        refine Ex.ifT (σ₁ := [(l, .sdict (jaK false) (jaV wh false))]) (Tst.and2 (σ₁ := [(l, .sdict (jaK false) (jaV wh false))]) (Tst.cmp (Ev.isNotNone (Ev.name (by rfl)) hne)) (Tst.or1 ((Tst.cmp (Ev.eqD (a := pathD []) (b := pathD []) (Ev.name (by rfl)) (Ev.tuple Evs.nil (szK (by simp))) (Pl_path _) (Pl_path _))).cast (by rw [eqD_path]; rfl)))) (Exs.cons (Ex.setS (d := .int 5) (Ev.name (by rfl)) (by rfl) .head (by decide) (szK (by decide))) Exs.nil)
      | cons s r =>
        have hb : medOk wh = (s.1 != 1) := by simp [medOk, hn]
        have tor : ∀ {b : Bool}, (s.1 != 1) = b → b = b := fun _ => rfl
        by_cases hs : (s.1 != 1) = true
        · rw [hb, hs]
          refine Ex.ifT (σ₁ := [(l, .sdict (jaK false) (jaV wh false))]) (Tst.and2 (σ₁ := [(l, .sdict (jaK false) (jaV wh false))]) (Tst.cmp (Ev.isNotNone (Ev.name (by rfl)) hne)) (Tst.or2 (σ₁ := [(l, .sdict (jaK false) (jaV wh false))]) ((Tst.cmp (Ev.eqD (a := pathD (s :: r)) (b := pathD []) (Ev.name (by rfl)) (Ev.tuple Evs.nil (szK (by simp))) (Pl_path _) (Pl_path _))).cast (by rw [eqD_path]; simp)) ((Tst.cmp (Ev.neI (a := s.1) (Ev.itemT (k := 0) (Ev.itemT (k := 0) (Ev.name (by rfl)) Ev.cint (by rfl) p63) Ev.cint (by rfl) p63) (Ev.glo G.set (by rfl)))).cast hs))) (Exs.cons (Ex.setS (d := .int 5) (Ev.name (by rfl)) (by rfl) .head (by decide) (szK (by decide))) Exs.nil)
        · rw [hb, Bool.eq_false_iff.mpr hs]
          refine Ex.ifF (σ₁ := [(l, .sdict (jaK false) (jaV wh false))]) (Tst.and2 (σ₁ := [(l, .sdict (jaK false) (jaV wh false))]) (Tst.cmp (Ev.isNotNone (Ev.name (by rfl)) hne)) (Tst.or2 (σ₁ := [(l, .sdict (jaK false) (jaV wh false))]) ((Tst.cmp (Ev.eqD (a := pathD (s :: r)) (b := pathD []) (Ev.name (by rfl)) (Ev.tuple Evs.nil (szK (by simp))) (Pl_path _) (Pl_path _))).cast (by rw [eqD_path]; simp)) ((Tst.cmp (Ev.neI (a := s.1) (Ev.itemT (k := 0) (Ev.itemT (k := 0) (Ev.name (by rfl)) Ev.cint (by rfl) p63) Ev.cint (by rfl) p63) (Ev.glo G.set (by rfl)))).cast (Bool.eq_false_iff.mpr hs)))) Exs.nil
    generalize hσ : [(l, MO.sdict (jaK (medOk wh)) (jaV wh (medOk wh)))] = σm
    refine Exs.cons (σ₁ := σm) (Ex.ifF (σ₁ := σm) (Tst.or2 (σ₁ := σm) ((Tst.cmp (Ev.neD (a := .list (I [])) (b := .list (I [])) (Ev.comp (ρc := []) (cl := []) (ys := []) (Ev.name (by rfl)) (SrcOf.list _ (szK (by rw [List.length_map]; omega))) ⟨rfl, by intro x c h; simp at h, rfl, by decide, by decide, rfl⟩ trivial (by rfl) (fun C Da fC fD fDc => ?_) (szK (by simp))) (Ev.listD Evs.nil (szK (by simp))) (Pl_listI []) (Pl_listI []))).cast (by rw [eqD_listI]; rfl)) ((Tst.cmp (Ev.neD (Ev.name (by rfl)) (Ev.name (by rfl)) (Pl_path wh) (Pl_path wh))).cast (by rw [eqD_path]; simp))) Exs.nil) ?_
    · rw [show ([] : List D) = (p0 :: rs).filterMap (fun p => (none : Option D)) from by simp]
      exact CT.fm attrD (fun p => none) (p0 :: rs) fun r hr J' hJ' hne => step_skip (F := (FC.cmp _ _ _ C Da).hid J') (Tests.one (Tst.cmp (Ev.inS (Ev.name (by rfl)) .fr (by decide)))) fDc
    refine Exs.cons (σ₁ := σm) (Ex.assign (d := .tup []) (Ev.tuple Evs.nil (szK (by simp))) (.inl rfl)) ?_
    have e2 : FnOk prog w B 1 "joined_communities" [.tup [], .tup []] (.tup []) [] [] := comm_walk f2
    refine Exs.cons (σ₁ := σm) (Ex.forIn (σ₁ := σm) (Ev.name (by rfl)) (SrcOf.list _ (szK (by rw [List.length_map]; omega))) (Turns.same fun x hx J hJ => ⟨_, Asg.name (.inl rfl), ?_⟩)) ?_
    · obtain ⟨p, hp, rfl⟩ := List.mem_map.mp hx
      exact Exs.weak (Exs.cons (Ex.assign (Ev.callF e2 (Evs.cons (Ev.name (by rfl)) (Evs.cons (Ev.get2 (Ev.name (by rfl)) .fr (by decide) (Ev.tuple Evs.nil (szK (by simp))) rfl) Evs.nil)) (by rfl) r1) (.inl rfl)) Exs.nil) (fun x d hx => weakSame (by rfl) x d (weak1 (by rfl) x d hx))
    refine Exs.cons (σ₁ := σm) (Ex.ifF (σ₁ := σm) ((Tst.cmp (Ev.neD (a := .tup (I [])) (b := .tup (I [])) (Ev.name (by rfl)) (Ev.tuple Evs.nil (szK (by simp))) (Pl_tupI []) (Pl_tupI []))).cast (by rw [eqD_tupI]; rfl)) Exs.nil) ?_
    subst hσ
    exact Exs.stop (Ex.retS (by rfl) (by simp)) (by simp)
end
end Mine
namespace Mine
def rtsOf (sc : List Int) (lg : Bool) : Nat → Nat → List Rt
  | 0, _ => []
  | k + 1, i => route sc i lg :: rtsOf sc lg k (routeN sc i lg)
def nxOf (sc : List Int) (lg : Bool) : Nat → Nat → Nat
  | 0, i => i
  | k + 1, i => nxOf sc lg k (routeN sc i lg)
def lawRts (sc : List Int) : List Rt := rtsOf sc (draw sc 1 6 == 0) (2 + draw sc 0 2) 2
def sysOf (rts : List Rt) : List Int := rts.flatMap fun r => r.row ++ r.som
def memOf (rts : List Rt) : List Int := rts.flatMap (·.mem)
theorem routeN_le (sc : List Int) (i : Nat) (lg : Bool) : routeN sc i lg ≤ i + 6 := by
  have := mkRow_nxt sc i lg
  unfold routeN; split <;> omega
theorem rtsOf_len (sc : List Int) (lg : Bool) : ∀ k i, (rtsOf sc lg k i).length = k
  | 0, _ => rfl
  | k + 1, i => by simp [rtsOf, rtsOf_len sc lg k]
/-- what the law's walk asks of its routes -/
structure Fine (rts : List Rt) : Prop where
  one : jp (rts.map (·.path)) = due rts
  rev : jp (rts.map (·.path)).reverse = due rts
  sys : ∀ n ∈ ([11, 12, 13, 14, 15, 16, 17, 18, 999, 1000, 1255, 1299, 1300] : List Int), back (due rts) n 0 = decide (n ∈ sysOf rts)
  mem : ∀ n ∈ ([60, 61, 62, 63] : List Int), back (due rts) 0 n = decide (n ∈ memOf rts)
  med : (decide ((((due rts).filter fun s => decide (s.1 < 3)).map (·.1)).take 1 = [1])) = !medOk (due rts)
  len : (due rts).length ≤ 1000
  outer : (outer (due rts)).length ≤ 100000
  inner : (inner (due rts)).length ≤ 100000
end Mine
namespace Mine
section
variable {prog : Program} {w : World} {B : BS}
variable {F : FC} {ρ : List (Str × D)} {σ : List (Addr × MO)}
def intOf : Expr → Option Int
  | .Constant (.int i) _ _ => some i
  | _ => none
theorem intOf_some {e : Expr} {n : Int} (h : intOf e = some n) : ∃ k p, e = .Constant (.int n) k p := by
  cases e <;> simp [intOf] at h
  case Constant c k p => cases c <;> simp at h; subst h; exact ⟨_, _, rfl⟩
theorem Evs.cints : ∀ {es : List Expr} {ns : List Int}, es.map intOf = ns.map some → Evs prog w B F ρ σ es (I ns) σ
  | [], [], _ => Evs.nil
  | [], _ :: _, h => by simp at h
  | _ :: _, [], h => by simp at h
  | e :: es, n :: ns, h => by
    simp only [List.map_cons, List.cons.injEq] at h
    obtain ⟨k, p, rfl⟩ := intOf_some h.1
    exact Evs.cons Ev.cint (Evs.cints h.2)
theorem Ex.forLI {t : Expr} {es : List Expr} {p pos : Pos} {body : List Stmt} {ns : List Int} (h : es.map intOf = ns.map some) (hsz : ns.length ≤ 1000000) (T : Turns prog w B F t body (I ns) ρ σ (.next ρ σ)) : Ex prog w B F ρ σ (.For t (.List es p) body [] pos) (.next ρ σ) :=
  Ex.forIn (Ev.listD (Evs.cints h) (szK (by rw [List.length_map]; exact hsz))) (SrcOf.list _ (szK (by rw [List.length_map]; exact hsz))) T (fun _ => rfl)
theorem CT.st {α : Type} {F : FC} {Da : Addr} {n : Str} {rest : PT} {ρ : List (Str × D)} (g : α → D) (sc : List Int) (lg : Bool) (l : Addr) : ∀ (xs : List α) (i : Nat), i + 6 * xs.length ≤ 1000 →
    (∀ x ∈ xs, ∀ i, i ≤ 1000 → ∀ J, Free F J → J ≠ Da → StepOk prog w B (F.hid J) Da rest ((n, g x) :: ρ) [(l, boxS sc i)] [rtD (route sc i lg)] [(l, boxS sc (routeN sc i lg))]) →
    CT prog w B F Da n rest (xs.map g) ρ [(l, boxS sc i)] ((rtsOf sc lg xs.length i).map rtD) [(l, boxS sc (nxOf sc lg xs.length i))]
  | [], i, _, _ => CT.nil
  | x :: xs, i, hi, step => by
    have hn := routeN_le sc i lg
    simp only [List.length_cons] at hi
    have := CT.cons (step x List.mem_cons_self i (by omega)) (CT.st g sc lg l xs (routeN sc i lg) (by omega) fun y hy => step y (List.mem_cons_of_mem _ hy))
    simpa [rtsOf, nxOf] using this
theorem CT.st' {α : Type} {F : FC} {Da : Addr} {n : Str} {rest : PT} {ρ : List (Str × D)} (g : α → D) (sc : List Int) (lg : Bool) (l : Addr) {m z : Nat} {rts : List Rt} (xs : List α) (i : Nat) (hm : xs.length = m) (hr : rtsOf sc lg m i = rts) (hz : nxOf sc lg m i = z) (hi : i + 6 * m ≤ 1000)
    (step : ∀ x ∈ xs, ∀ i, i ≤ 1000 → ∀ J, Free F J → J ≠ Da → StepOk prog w B (F.hid J) Da rest ((n, g x) :: ρ) [(l, boxS sc i)] [rtD (route sc i lg)] [(l, boxS sc (routeN sc i lg))]) :
    CT prog w B F Da n rest (xs.map g) ρ [(l, boxS sc i)] (rts.map rtD) [(l, boxS sc z)] := by
  subst hm hr hz
  exact CT.st g sc lg l xs i hi step
theorem Ev.route' (f23 : FnAt' B 23) (f21 : FnAt' B 21) (f22 : FnAt' B 22) {F : FC} {ρ : List (Str × D)} {sc : List Int} {i : Nat} {lg : Bool} {a0 : Addr} {px p1 p2 pos : Pos} (hs : sc.length ≤ 1000) (hi : i ≤ 100000) (hb : ρ.lookup ("box" : Str) = some (D.loc a0)) (hlg : ρ.lookup ("is_long" : Str) = some (D.bool lg)) (hk : F.env.kindOf "_law_route" = some .globalImplicit) (hr : Room F.A 2) :
    Ev prog w B F ρ [(a0, boxS sc i)] (.Call (.Name "_law_route" px) [.Name "box" p1, .Name "is_long" p2] [] pos) (rtD (route sc i lg)) [(a0, boxS sc (routeN sc i lg))] := by
  have e : FnOk prog w B 2 "_law_route" [.loc a0, .bool lg] (rtD (route sc i lg)) [(a0, boxS sc i)] [(a0, boxS sc (routeN sc i lg))] := route_walk f23 f21 f22 sc i lg a0 hs hi
  exact Ev.callW e (Evs.cons (Ev.name hb) (Evs.cons (Ev.name hlg) Evs.nil)) .head hk hr
theorem Pl_bool (b : Bool) : Pl (.bool b) := ⟨rfl, by simp [toPy, PyData.depth]⟩
theorem eqD_bool (a b : Bool) : eqD (.bool a) (.bool b) = (a == b) := by simp only [eqD, toPy, PyData.eqv]
theorem sc_len (ns : List Int) : (ns.take 24).length ≤ 24 := by rw [List.length_take]; omega
theorem sl24 (ns : List Int) : sl (I ns) none (some 24) = I (ns.take 24) := by simp [sl, I, List.map_take]

theorem jaV_pl (p : Path) (b : Bool) : ∀ d ∈ jaV p b, Pl d := by
  intro d hd
  have h4 : Pl (.tup [.int 500, .int 9]) := Pl_tupI [500, 9]
  unfold jaV at hd
  split at hd
  · simp only [List.mem_cons, List.not_mem_nil, or_false] at hd
    rcases hd with rfl | rfl | rfl | rfl | rfl
    · exact Pl.int
    · exact Pl_path p
    · exact Pl.int
    · exact h4
    · exact Pl.int
  · simp only [List.mem_cons, List.not_mem_nil, or_false] at hd
    rcases hd with rfl | rfl | rfl | rfl
    · exact Pl.int
    · exact Pl_path p
    · exact Pl.int
    · exact h4
theorem jaV_eq (p : Path) (b : Bool) : (List.zipWith eqD (jaV p b) (jaV p b)).all id = true := by
  have h1 : ∀ i : Int, eqD (.int i) (.int i) = true := fun i => by rw [eqD_int]; simp
  have h2 : eqD (pathD p) (pathD p) = true := by rw [eqD_path]; simp
  have h3 : eqD (.tup [.int 500, .int 9]) (.tup [.int 500, .int 9]) = true := (eqD_tupI [500, 9] [500, 9]).trans (by simp)
  unfold jaV
  split <;> simp [h1, h2, h3]
theorem jaK_nd (b : Bool) : (jaK b).Nodup := by cases b <;> decide
theorem lt63 : ((0 : Nat) : Int) < 2 ^ 63 := by decide

set_option maxHeartbeats 8000000 in
theorem law_walk (fi : FnAt' B 25) (f21 : FnAt' B 21) (f22 : FnAt' B 22) (f23 : FnAt' B 23) (f10 : FnAt' B 10) (f11 : FnAt' B 11) (f13 : FnAt' B 13) (G : Glb prog w B) (ns : List Int) (hns : ns.length ≤ 1000) (rts : List Rt) (hrts : lawRts (ns.take 24) = rts) (fine : Fine rts) (hrow : ∀ r ∈ rts, r.row.length ≤ 300) (hsom : ∀ r ∈ rts, r.som.length ≤ 2) (hmem : ∀ r ∈ rts, r.mem.length ≤ 2)
    (hsys : (sysOf rts).length ≤ 10000) (hmm : (memOf rts).length ≤ 10000)
    (e24 : FnOk prog w B 2 "_law_due" [.list (rts.map rtD)] (pathD (due rts)) [] [])
    (e18 : FnOk prog w B 3 "joined_path" [.list ((rts.map (·.path)).map pathD)] (pathD (due rts)) [] [])
    (e18r : FnOk prog w B 3 "joined_path" [.list ((rts.map (·.path)).reverse.map pathD)] (pathD (due rts)) [] [])
    (e19 : FnOk prog w B 4 "joined_attrs" [.list ((rts.map (·.path)).map attrD), ownD, .bool true] (.sdict (jaK (medOk (due rts))) (jaV (due rts) (medOk (due rts)))) [] []) :
    FnOk prog w B 5 (fname (stmtAt 25)) [.list (I ns)] (.bool true) [] [] := by
  refine FnOk.of (names := ["script"]) fi (by decide) (fun pm cd doc vs hl => ?_) (fun L x hx => ?_) fun L a cd A N M0 g hroom hA => ?_
  · match vs, hl with
    | [v], _ => rfl
  · simp at hx; subst hx; exact .inl rfl
  · conv in fbody _ => whnf
    have r1 : Room A 1 := ⟨by have := hroom.1; omega, by have := hroom.2; omega⟩
    have r2 : Room A 2 := ⟨by have := hroom.1; omega, by have := hroom.2; omega⟩
    have hroom4 : Room A 4 := hroom
    have r3 : Room A 3 := ⟨by have := hroom.1; omega, by have := hroom.2; omega⟩
    have hsc := sc_len ns
    refine Exs.own (σ₁ := []) (mo := boxS (ns.take 24) 0) (EvNew.list (Evs.cons ((Ev.listOfSeq (T := false) (xs := sl (I ns) none (some 24)) (Ev.sliceL (a := none) (b := some 24) (Ev.name (by rfl)) .none (.some Ev.cint) (szK (by rw [List.length_map]; omega))) (szK (by rw [sl24, List.length_map]; omega)) (by rfl)).cast (by rw [sl24])) (Evs.cons Ev.cint Evs.nil)) (szK (by simp))) (.inr ⟨rfl, rfl⟩) (fun l hl => ?_) (σ' := fun _ => [])
    generalize hS : ns.take 24 = sc at *
    have hs1 : sc.length ≤ 1000 := by omega
    have d0 := draw_lt sc 0 2 (by decide)
    refine Exs.cons (σ₁ := [(l, boxS sc 2)]) (Ex.assign2 (d1 := .int ((2 + draw sc 0 2 : Nat) : Int)) (d2 := .bool (draw sc 1 6 == 0)) (Ev.tuple (Evs.cons ((Ev.add Ev.cint (Ev.draw' f21 hs1 (m := 2) rfl (by decide) (by omega) (by rfl) (by rfl) r1)).cast (congrArg D.int (by omega))) (Evs.cons ((Ev.eqI (Ev.draw' f21 hs1 (m := 6) rfl (by decide) (by omega) (by rfl) (by rfl) r1) Ev.cint).cast (congrArg D.bool ?_)) Evs.nil)) (szK (by simp))) (.inl rfl) (.inr ⟨rfl, rfl⟩)) ?_
    · by_cases hz : draw sc (0 + 1) 6 = 0
      · rw [hz]; simp [hz]
      · have : ((draw sc (0 + 1) 6 : Nat) : Int) ≠ 0 := by omega
        rw [beq_false_of_ne this]; simpa using (beq_false_of_ne hz).symm
    have hn3 : 2 + draw sc 0 2 ≤ 3 := by omega
    have hlen : rts.length = 2 + draw sc 0 2 := by rw [← hrts]; exact rtsOf_len _ _ _ _
    have hlr : rtsOf sc (draw sc 1 6 == 0) (2 + draw sc 0 2) 2 = rts := hrts
    generalize (draw sc 1 6 == 0) = lg at *
    generalize 2 + draw sc 0 2 = n at *
    obtain ⟨g1, g2⟩ := range_one n (by omega)
    generalize hz : nxOf sc lg n 2 = z
    refine Exs.cons (σ₁ := [(l, boxS sc z)]) (Ex.assignComp (ρc := [("box", .loc l), ("is_long", .bool lg)]) (cl := [("is_long", L + 1 + 1), ("box", L + 1)]) (ys := rts.map rtD) (by rfl) (Ev.range1 (Ev.name (by rfl)) (by rfl)) (SrcOf.rng _ _ _ n g2 g1 (szK (by omega))) ⟨rfl, subs2 rfl rfl, rfl, by decide, by decide, rfl⟩ ⟨⟨rfl, rfl, rfl, rfl⟩, ⟨rfl, rfl, rfl, rfl⟩, trivial⟩ (by rfl) (.inl rfl) (fun C Da fC fD fDc => ?_) (szK (by rw [List.length_map]; omega))) ?_
    · exact CT.st' (fun (i : Nat) => D.int (0 + (i : Int) * 1)) sc lg l (List.range n) 2 List.length_range hlr hz (by omega) (fun x hx i hi J hJ hne => step_add (F := (FC.cmp _ _ _ C Da).hid J) Tests.nil (Ev.route' f23 f21 f22 hs1 (by omega) (by rfl) (by rfl) (by rfl) r2) fDc cmpM)
    generalize [(l, boxS sc z)] = σb
    -- paths, due
    refine Exs.cons (σ₁ := σb) (Ex.assign2S (d1 := .list ((rts.map (·.path)).map pathD)) (d2 := pathD (due rts)) (Ev.tuple (Evs.cons (Ev.comp (ρc := []) (cl := []) (Ev.name (by rfl)) (SrcOf.list _ (szK (by rw [List.length_map]; omega))) ⟨rfl, by intro x c h; simp at h, rfl, by decide, by decide, rfl⟩ trivial (by rfl) (fun C Da fC fD fDc => ?_) (szK (by simp only [List.length_map]; omega))) (Evs.cons (Ev.callF e24 (Evs.cons (Ev.name (by rfl)) Evs.nil) (by rfl) r2) Evs.nil)) (szK (by simp))) (.inl rfl) (.inl rfl)) ?_
    · rw [show (rts.map (·.path)).map pathD = rts.filterMap (fun r => some (pathD r.path)) from by simp [Function.comp_def]]
      exact CT.fm rtD (fun r => some (pathD r.path)) rts fun r hr J hJ hne => step_add (F := (FC.cmp _ _ _ C Da).hid J) Tests.nil (Ev.itemT (k := 0) (Ev.name (by rfl)) Ev.cint (by rfl) p63) fDc cmpM
    -- the two orders
    refine Exs.cons (σ₁ := σb) (Ex.ifF (σ₁ := σb) (Tst.or2 (σ₁ := σb) ((Tst.cmp (Ev.neD (σ₁ := σb) (Ev.callF e18 (Evs.cons (Ev.name (by rfl)) Evs.nil) (by rfl) r3) (Ev.name (by rfl)) (Pl_path (due rts)) (Pl_path (due rts)))).cast (by rw [eqD_path]; simp)) ((Tst.cmp (Ev.neD (σ₁ := σb) (Ev.callF e18r (Evs.cons ((Ev.revL (Ev.name (by rfl)) (szK (by simp only [List.length_map]; omega))).cast (by rw [List.map_reverse])) Evs.nil) (by rfl) r3) (Ev.name (by rfl)) (Pl_path (due rts)) (Pl_path (due rts)))).cast (by rw [eqD_path]; simp))) Exs.nil) ?_
    -- systems
    refine Exs.cons (σ₁ := σb) (Ex.assignComp2 (ρc := []) (cl := []) (ys := I (sysOf rts)) (by rfl) (Ev.name (by rfl)) (SrcOf.list _ (szK (by rw [List.length_map]; omega))) ⟨rfl, by intro x c h; simp at h, rfl, by decide, by decide, rfl⟩ trivial (by rfl) (.inl rfl) (fun C Da fC fD fDc => ?_) (szK (by rw [List.length_map]; omega))) ?_
    · rw [show I (sysOf rts) = rts.flatMap (fun r => I (r.row ++ r.som)) from (flatMap_I _ _).symm]
      refine CT.fl rtD (fun r => I (r.row ++ r.som)) rts fun r hr J hJ hne => ?_
      have hr1 := hrow r hr
      have hr3 := hsom r hr
      refine step_inner (F := (FC.cmp _ _ _ C Da).hid J) (xs2 := (r.row ++ r.som).map D.int) (src := .list (I (r.row ++ r.som))) fDc cmpM rfl (by rfl) ((Ev.addL (σ₁ := σb) (Ev.itemT (k := 2) (Ev.name (by rfl)) Ev.cint (by rfl) (by decide)) (Ev.listOfSeq (T := true) (xs := I r.som) (Ev.itemT (k := 3) (Ev.name (by rfl)) Ev.cint (by rfl) (by decide)) (szK (by rw [List.length_map]; omega)) (by rfl)) (szK (by simp only [I, List.length_map]; omega))).cast (by simp [I])) (SrcOf.list _ (szK (by rw [List.length_map, List.length_append]; omega))) ?_
      rw [show I (r.row ++ r.som) = (r.row ++ r.som).filterMap (fun k => some (D.int k)) from by simp [I]]
      exact CT.fm D.int (fun k => some (D.int k)) (r.row ++ r.som) fun k hk J' hJ' hne' => step_add (F := ((FC.cmp _ _ _ C Da).hid J).hid J') Tests.nil (Ev.name (by rfl)) fDc (mem_hid.mpr (.inr cmpM))
    -- comes back: systems
    have back13 : ∀ x y : Int, FnOk prog w B 2 "comes_back" [pathD (due rts), .int x, .int y] (.bool (back (due rts) x y)) [] [] := fun x y => back_walk f13 f10 f11 G (due rts) x y (by have := fine.len; omega) (by have := fine.outer; omega) (by have := fine.inner; omega)
    have q1 : ∀ (FF : FC) (rr : List (Str × D)) (t : Expr) (es : List Expr) (p : Pos) (bd : List Stmt) (pos : Pos), es.map intOf = ([11, 12, 13, 14, 15, 16, 17, 18, 999, 1000, 1255, 1299, 1300] : List Int).map some → Turns prog w B FF t bd (I [11, 12, 13, 14, 15, 16, 17, 18, 999, 1000, 1255, 1299, 1300]) rr σb (.next rr σb) → Ex prog w B FF rr σb (.For t (.List es p) bd [] pos) (.next rr σb) := fun FF rr t es p bd pos h T => Ex.forLI h (by simp) T
    refine Exs.consS (σ₁ := σb) ?_ ?_
    · refine q1 _ _ _ _ _ _ _ ?_ ?_
      · simp only [List.map_cons, List.map_nil, intOf]
      · refine Turns.same fun x hx J hJ => ⟨_, Asg.name (.inl rfl), ?_⟩
        obtain ⟨v, hv, rfl⟩ := List.mem_map.mp hx
        refine Exs.back1 (by rfl) (Exs.cons (σ₁ := σb) (Ex.ifF (σ₁ := σb) ((Tst.cmp (Ev.neD (σ₁ := σb) (a := .bool (back (due rts) v 0)) (b := .bool (decide (v ∈ sysOf rts))) (Ev.callF (back13 v 0) (Evs.cons (Ev.name (by rfl)) (Evs.cons (Ev.name (by rfl)) (Evs.cons Ev.cint Evs.nil))) (by rfl) r2) (Ev.inL (σ₁ := σb) (Ev.name (by rfl)) (Ev.name (by rfl))) (Pl_bool _) (Pl_bool _))).cast (by rw [eqD_bool, fine.sys v hv]; simp)) Exs.nil) Exs.nil)
    -- comes back: members
    have q2 : ∀ (FF : FC) (rr : List (Str × D)) (t : Expr) (es : List Expr) (p : Pos) (bd : List Stmt) (pos : Pos), es.map intOf = ([60, 61, 62, 63] : List Int).map some → Turns prog w B FF t bd (I [60, 61, 62, 63]) rr σb (.next rr σb) → Ex prog w B FF rr σb (.For t (.List es p) bd [] pos) (.next rr σb) := fun FF rr t es p bd pos h T => Ex.forLI h (by simp) T
    refine Exs.consS (σ₁ := σb) ?_ ?_
    · refine q2 _ _ _ _ _ _ _ ?_ ?_
      · simp only [List.map_cons, List.map_nil, intOf]
      · refine Turns.same fun x hx J hJ => ⟨_, Asg.name (.inl rfl), ?_⟩
        obtain ⟨v, hv, rfl⟩ := List.mem_map.mp hx
        refine Exs.back1 (by rfl) (Exs.cons (σ₁ := σb) (Ex.ifF (σ₁ := σb) ((Tst.cmp (Ev.neD (σ₁ := σb) (a := .bool (back (due rts) 0 v)) (b := .bool (decide (v ∈ memOf rts))) (Ev.callF (back13 0 v) (Evs.cons (Ev.name (by rfl)) (Evs.cons Ev.cint (Evs.cons (Ev.name (by rfl)) Evs.nil))) (by rfl) r2) (Ev.inL (σ₁ := σb) (Ev.name (by rfl)) (Ev.comp2 (ρc := []) (cl := []) (Ev.name (by rfl)) (SrcOf.list _ (szK (by rw [List.length_map]; omega))) ⟨rfl, by intro x c h; simp at h, rfl, by decide, by decide, rfl⟩ trivial (by rfl) (fun C Da fC fD fDc => ?_) (szK (by rw [List.length_map]; omega)))) (Pl_bool _) (Pl_bool _))).cast (by rw [eqD_bool, fine.mem v hv]; simp)) Exs.nil) Exs.nil)
        rw [show I (memOf rts) = rts.flatMap (fun r => I r.mem) from (flatMap_I _ _).symm]
        refine CT.fl rtD (fun r => I r.mem) rts fun r hr J2 hJ2 hne => ?_
        have hr2 := hmem r hr
        refine step_inner (F := (FC.cmp _ _ _ C Da).hid J2) (xs2 := r.mem.map D.int) (src := .tup (I r.mem)) fDc cmpM rfl (by rfl) (Ev.itemT (k := 1) (Ev.name (by rfl)) Ev.cint (by rfl) (by decide)) (SrcOf.tup _ (szK (by rw [List.length_map]; omega))) ?_
        rw [show I r.mem = r.mem.filterMap (fun k => some (D.int k)) from by simp [I]]
        exact CT.fm D.int (fun k => some (D.int k)) r.mem fun k hk J' hJ' hne' => step_add (F := ((FC.cmp _ _ _ C Da).hid J2).hid J') Tests.nil (Ev.name (by rfl)) fDc (mem_hid.mpr (.inr cmpM))
    -- rows
    refine Exs.cons (σ₁ := σb) (Ex.assignComp (ρc := []) (cl := []) (ys := (rts.map (·.path)).map attrD) (by rfl) (Ev.name (by rfl)) (SrcOf.list _ (szK (by simp only [List.length_map]; omega))) ⟨rfl, by intro x c h; simp at h, rfl, by decide, by decide, rfl⟩ trivial (by rfl) (.inl rfl) (fun C Da fC fD fDc => ?_) (szK (by simp only [List.length_map]; omega))) ?_
    · rw [show (rts.map (·.path)).map attrD = (rts.map (·.path)).filterMap (fun p => some (attrD p)) from by generalize rts.map (·.path) = pp; simp]
      refine CT.fm pathD (fun p => some (attrD p)) (rts.map (·.path)) (fun p hp J hJ hne => ?_)
      refine step_add (y := attrD p) (F := (FC.cmp _ _ _ C Da).hid J) Tests.nil ?_ fDc cmpM
      exact Ev.dictS (fun J' hJ' => Prs.cons Ev.cint (Prs.cons (Ev.name (by rfl)) (Prs.cons Ev.cint (Prs.cons Ev.cint Prs.nil)))) (by decide)
    -- wanted
    refine Exs.own (σ₁ := σb) (mo := .sdict (jaK false) (jaV (due rts) false)) (σ' := fun l2 => (l2, .sdict (jaK (medOk (due rts))) (jaV (due rts) (medOk (due rts)))) :: σb) (EvNew.dictS (fun J' hJ' => Prs.cons Ev.cint (Prs.cons (Ev.name (by rfl)) (Prs.cons Ev.cint (Prs.cons (Ev.tuple (Evs.cons Ev.cint (Evs.cons Ev.cint Evs.nil)) (szK (by simp))) Prs.nil)))) (by decide)) (.inl rfl) (fun l2 hl2 => ?_)
    have hdl := fine.len
    have hmed := fine.med
    generalize hW : due rts = wh at *
    -- the discriminator
    refine Exs.consS (σ₁ := (l2, .sdict (jaK (medOk wh)) (jaV wh (medOk wh))) :: σb) ?_ ?_
    · by_cases hm : medOk wh = true
      · rw [hm]
        refine Ex.ifT (σ₁ := (l2, .sdict (jaK false) (jaV wh false)) :: σb) ((Tst.cmp (Ev.neD (σ₁ := (l2, .sdict (jaK false) (jaV wh false)) :: σb) (a := .list (I (((wh.filter fun s => decide (s.1 < 3)).map (·.1)).take 1))) (b := .list (I [1])) ?_ (Ev.listD (Evs.cons Ev.cint Evs.nil) (szK (by simp))) (Pl_listI _) (Pl_listI _))).cast ?_) (Exs.cons (Ex.setS (d := .int 5) Ev.cint (by rfl) .head (by decide) (szK (by decide))) Exs.nil)
        · refine Ev.cast (d := .list (sl (I ((wh.filter fun s => decide (s.1 < 3)).map (·.1))) none (some 1))) ?_ (by simp [sl, I, List.map_take])
          refine Ev.sliceL (a := none) (b := some 1) (xs := I ((wh.filter fun s => decide (s.1 < 3)).map (·.1))) (σ₁ := (l2, .sdict (jaK false) (jaV wh false)) :: σb) (σ₂ := (l2, .sdict (jaK false) (jaV wh false)) :: σb) ?_ .none (.some Ev.cint) (szK (by have := List.length_filter_le (fun s => decide (s.1 < 3)) wh; simp only [I, List.length_map]; omega))
          refine Ev.comp (ρc := []) (cl := []) (Ev.name (by rfl)) (SrcOf.tup _ (szK (by rw [List.length_map]; omega))) ⟨rfl, by intro x c h; simp at h, rfl, by decide, by decide, rfl⟩ trivial (by rfl) (fun C Da fC fD fDc => ?_) (szK (by have := List.length_filter_le (fun s => decide (s.1 < 3)) wh; simp only [I, List.length_map]; omega))
          rw [show I ((wh.filter fun s => decide (s.1 < 3)).map (·.1)) = wh.filterMap (fun s => if decide (s.1 < 3) then some (D.int s.1) else none) from by rw [I, List.map_map]; exact (fm_filter _ _ _).symm]
          refine CT.fm segD (fun s => if decide (s.1 < 3) then some (D.int s.1) else none) wh (fun s hs J hJ hne => ?_)
          by_cases hc : s.1 < 3
          · rw [show (if decide (s.1 < 3) = true then some (D.int s.1) else none).toList = [D.int s.1] from by rw [decide_eq_true hc]; rfl]
            exact step_add (F := (FC.cmp _ _ _ C Da).hid J) (Tests.one ((Tst.cmp (Ev.ltI (a := s.1) (b := 3) (Ev.itemT (k := 0) (Ev.name (by rfl)) Ev.cint (by rfl) p63) Ev.cint)).cast (decide_eq_true hc))) (Ev.itemT (k := 0) (Ev.name (by rfl)) Ev.cint (by rfl) p63) fDc cmpM
          · rw [show (if decide (s.1 < 3) = true then some (D.int s.1) else none).toList = [] from by rw [decide_eq_false hc]; rfl]
            exact step_skip (F := (FC.cmp _ _ _ C Da).hid J) (Tests.one ((Tst.cmp (Ev.ltI (a := s.1) (b := 3) (Ev.itemT (k := 0) (Ev.name (by rfl)) Ev.cint (by rfl) p63) Ev.cint)).cast (decide_eq_false hc))) fDc
        · rw [eqD_listI, hmed, hm]; rfl
      · rw [Bool.eq_false_iff.mpr hm]
        refine Ex.ifF (σ₁ := (l2, .sdict (jaK false) (jaV wh false)) :: σb) ((Tst.cmp (Ev.neD (σ₁ := (l2, .sdict (jaK false) (jaV wh false)) :: σb) (a := .list (I (((wh.filter fun s => decide (s.1 < 3)).map (·.1)).take 1))) (b := .list (I [1])) ?_ (Ev.listD (Evs.cons Ev.cint Evs.nil) (szK (by simp))) (Pl_listI _) (Pl_listI _))).cast ?_) Exs.nil
        · refine Ev.cast (d := .list (sl (I ((wh.filter fun s => decide (s.1 < 3)).map (·.1))) none (some 1))) ?_ (by simp [sl, I, List.map_take])
          refine Ev.sliceL (a := none) (b := some 1) (xs := I ((wh.filter fun s => decide (s.1 < 3)).map (·.1))) (σ₁ := (l2, .sdict (jaK false) (jaV wh false)) :: σb) (σ₂ := (l2, .sdict (jaK false) (jaV wh false)) :: σb) ?_ .none (.some Ev.cint) (szK (by have := List.length_filter_le (fun s => decide (s.1 < 3)) wh; simp only [I, List.length_map]; omega))
          refine Ev.comp (ρc := []) (cl := []) (Ev.name (by rfl)) (SrcOf.tup _ (szK (by rw [List.length_map]; omega))) ⟨rfl, by intro x c h; simp at h, rfl, by decide, by decide, rfl⟩ trivial (by rfl) (fun C Da fC fD fDc => ?_) (szK (by have := List.length_filter_le (fun s => decide (s.1 < 3)) wh; simp only [I, List.length_map]; omega))
          rw [show I ((wh.filter fun s => decide (s.1 < 3)).map (·.1)) = wh.filterMap (fun s => if decide (s.1 < 3) then some (D.int s.1) else none) from by rw [I, List.map_map]; exact (fm_filter _ _ _).symm]
          refine CT.fm segD (fun s => if decide (s.1 < 3) then some (D.int s.1) else none) wh (fun s hs J hJ hne => ?_)
          by_cases hc : s.1 < 3
          · rw [show (if decide (s.1 < 3) = true then some (D.int s.1) else none).toList = [D.int s.1] from by rw [decide_eq_true hc]; rfl]
            exact step_add (F := (FC.cmp _ _ _ C Da).hid J) (Tests.one ((Tst.cmp (Ev.ltI (a := s.1) (b := 3) (Ev.itemT (k := 0) (Ev.name (by rfl)) Ev.cint (by rfl) p63) Ev.cint)).cast (decide_eq_true hc))) (Ev.itemT (k := 0) (Ev.name (by rfl)) Ev.cint (by rfl) p63) fDc cmpM
          · rw [show (if decide (s.1 < 3) = true then some (D.int s.1) else none).toList = [] from by rw [decide_eq_false hc]; rfl]
            exact step_skip (F := (FC.cmp _ _ _ C Da).hid J) (Tests.one ((Tst.cmp (Ev.ltI (a := s.1) (b := 3) (Ev.itemT (k := 0) (Ev.name (by rfl)) Ev.cint (by rfl) p63) Ev.cint)).cast (decide_eq_false hc))) fDc
        · rw [eqD_listI, hmed, Bool.eq_false_iff.mpr hm]; rfl
    -- the answer
    refine Exs.stop (Ex.ret ((Ev.eqS (σ₁ := (l2, .sdict (jaK (medOk wh)) (jaV wh (medOk wh))) :: σb) (ks := jaK (medOk wh)) (ds := jaV wh (medOk wh)) (es := jaV wh (medOk wh)) (Ev.callF e19 (Evs.cons (Ev.name (by rfl)) (Evs.cons (Ev.dictS (fun J' hJ' => Prs.cons Ev.cint (Prs.cons Ev.cint (Prs.cons Ev.cint Prs.nil))) (by decide)) (Evs.cons Ev.cbool Evs.nil))) (by rfl) hroom4) (Ev.name (by rfl)) .fr (.lo (by simp)) (jaV_pl _ _) (jaV_pl _ _) (jaK_nd _)).cast (by rw [jaV_eq]))) (by simp)
end
end Mine
namespace Mine
section
variable {K : Type} [DecidableEq K]
theorem mem_addK {ks : List K} {k x : K} : x ∈ addK ks k ↔ x ∈ ks ∨ x = k := by
  unfold addK
  split
  · rename_i h
    constructor
    · exact .inl
    · rintro (h1 | rfl)
      · exact h1
      · exact h
  · simp
theorem mem_addKs {x : K} : ∀ {more ks : List K}, x ∈ addKs ks more ↔ x ∈ ks ∨ x ∈ more
  | [], ks => by simp [addKs]
  | m :: more, ks => by
    rw [show addKs ks (m :: more) = addKs (addK ks m) more from rfl, mem_addKs, mem_addK]
    simp only [List.mem_cons, or_assoc]
theorem nd_addK {ks : List K} {k : K} (h : ks.Nodup) : (addK ks k).Nodup := by
  unfold addK
  split
  · exact h
  · rename_i hk
    rw [List.nodup_append]
    refine ⟨h, by simp, fun a ha b hb e => ?_⟩
    simp at hb
    exact hk (by rw [← hb, ← e]; exact ha)
theorem nd_addKs : ∀ {more ks : List K}, ks.Nodup → (addKs ks more).Nodup
  | [], ks, h => h
  | m :: more, ks, h => nd_addKs (more := more) (nd_addK h)
theorem addKs_fold {α : Type} (f : α → List K) : ∀ (xs : List α) (ks : List K), xs.foldl (fun m x => addKs m (f x)) ks = addKs ks (xs.flatMap f)
  | [], ks => rfl
  | x :: xs, ks => by
    rw [List.foldl_cons, addKs_fold f xs, List.flatMap_cons]
    simp only [addKs, List.foldl_append]
theorem addKs_one {a : K} : ∀ {l : List K}, (∀ x ∈ l, x = a) → addKs [a] l = [a]
  | [], _ => rfl
  | x :: l, h => by
    have hx := h x List.mem_cons_self
    subst hx
    rw [show addKs [x] (x :: l) = addKs (addK [x] x) l from rfl, show addK [x] x = [x] from by simp [addK]]
    exact addKs_one fun y hy => h y (List.mem_cons_of_mem _ hy)
theorem addKs_single {a : K} {l : List K} : (addKs [] (a :: l)).length = 1 ↔ ∀ x ∈ a :: l, x = a := by
  constructor
  · intro h
    obtain ⟨b, hb⟩ := List.length_eq_one_iff.mp h
    have key : ∀ x ∈ a :: l, x = b := fun x hx => by
      have : x ∈ addKs [] (a :: l) := mem_addKs.mpr (.inr hx)
      rw [hb] at this
      simpa using this
    intro x hx
    rw [key x hx, key a List.mem_cons_self]
  · intro h
    rw [show addKs [] (a :: l) = addKs [a] l from rfl, addKs_one fun y hy => h y (List.mem_cons_of_mem _ hy)]
    rfl
theorem addKs_nil {l : List K} : (addKs [] l).length = 0 ↔ l = [] := by
  rw [List.length_eq_zero_iff]
  constructor
  · intro h
    cases l with
    | nil => rfl
    | cons a l =>
      have : a ∈ addKs [] (a :: l) := mem_addKs.mpr (.inr List.mem_cons_self)
      rw [h] at this
      simp at this
  · rintro rfl; rfl
end

/-! sorted sets -/
theorem srt_sorted (l : List Int) : (srt l).Pairwise (· ≤ ·) := by
  have := List.pairwise_mergeSort (le := fun (a b : Int) => decide (a ≤ b)) (by intro a b c; simp; omega) (by intro a b; simp; omega) l
  simpa [srt] using this
theorem srt_perm (l : List Int) : (srt l).Perm l := List.mergeSort_perm _ _
theorem mem_srt {l : List Int} {x : Int} : x ∈ srt l ↔ x ∈ l := (srt_perm l).mem_iff
theorem srt_set {l l' : List Int} (h : ∀ x, x ∈ l ↔ x ∈ l') : srt (addKs [] l) = srt (addKs [] l') := by
  refine ksm_same ((srt_perm _).trans (.trans ?_ (srt_perm _).symm)) (srt_sorted _) (srt_sorted _)
  refine (List.perm_ext_iff_of_nodup (nd_addKs List.nodup_nil) (nd_addKs List.nodup_nil)).mpr fun x => ?_
  rw [mem_addKs, mem_addKs, h x]
theorem seg1_set {k : Int} {l l' : List Int} (h : ∀ x, x ∈ l ↔ x ∈ l') : seg1 k (addKs [] l) = seg1 k (addKs [] l') := by
  unfold seg1
  have e : ((addKs [] l).length = 0) = ((addKs [] l').length = 0) := by
    rw [addKs_nil, addKs_nil, List.eq_nil_iff_forall_not_mem, List.eq_nil_iff_forall_not_mem]
    exact propext ⟨fun q x hx => q x ((h x).mpr hx), fun q x hx => q x ((h x).mp hx)⟩
  simp only [e, srt_set h]

/-! the common head -/
theorem range_tw (t : Nat → Bool) (m : Nat) : (List.range m).takeWhile t = List.range ((List.range m).takeWhile t).length := by
  have h := List.prefix_iff_eq_take.mp (List.takeWhile_prefix t (l := List.range m))
  have hle := (List.takeWhile_sublist t (l := List.range m)).length_le
  rw [List.length_range] at hle
  rw [List.take_range, Nat.min_eq_left hle] at h
  exact h
theorem map_getD_take (l : List Int) : ∀ k, k ≤ l.length → (List.range k).map (fun i => l.getD i 0) = l.take k := by
  intro k hk
  refine List.ext_getElem (by simp; omega) fun i h1 h2 => ?_
  simp at h1 h2
  simp [List.getD, show i < l.length by omega]
def hl (rs : List (List Int)) : Nat := ((List.range (minLen rs)).takeWhile (agree rs)).length
theorem hl_le (rs : List (List Int)) : hl rs ≤ minLen rs := by
  have := (List.takeWhile_sublist (agree rs) (l := List.range (minLen rs))).length_le
  simpa [hl] using this
theorem chead_eq {r0 : List Int} {rs : List (List Int)} : chead (r0 :: rs) = r0.take (hl (r0 :: rs)) := by
  unfold chead
  rw [range_tw, List.headD_cons]
  exact map_getD_take r0 _ (Nat.le_trans (hl_le _) (minLen_le r0 List.mem_cons_self))
theorem agree_iff {rs : List (List Int)} {i : Nat} : agree rs i = true ↔ ∀ r ∈ rs, r.getD i 0 = (rs.headD []).getD i 0 := by
  simp [agree, List.all_eq_true]
theorem agree_pair {rs : List (List Int)} (h0 : rs ≠ []) {i : Nat} : agree rs i = true ↔ ∀ r ∈ rs, ∀ q ∈ rs, r.getD i 0 = q.getD i 0 := by
  rw [agree_iff]
  obtain ⟨a, l, rfl⟩ := List.exists_cons_of_ne_nil h0
  constructor
  · intro h r hr q hq; rw [h r hr, h q hq]
  · intro h r hr; exact h r hr a List.mem_cons_self
theorem agree_rev {rs : List (List Int)} (h0 : rs ≠ []) : agree rs.reverse = agree rs := by
  funext i
  have : agree rs.reverse i = true ↔ agree rs i = true := by
    rw [agree_pair h0, agree_pair (by simpa using h0)]
    simp only [List.mem_reverse]
  cases h1 : agree rs.reverse i <;> cases h2 : agree rs i <;> simp_all
theorem minLen_unique {rs : List (List Int)} (h0 : rs ≠ []) {m : Nat} (h1 : ∃ r ∈ rs, r.length = m) (h2 : ∀ r ∈ rs, m ≤ r.length) : minLen rs = m := by
  obtain ⟨r, hr, rfl⟩ := h1
  have h3 := minLen_le r hr
  have h4 := minLen_mem h0
  obtain ⟨q, hq, e⟩ := List.mem_map.mp h4
  have := h2 q hq
  omega
theorem minLen_at {rs : List (List Int)} (h0 : rs ≠ []) : ∃ r ∈ rs, r.length = minLen rs := by
  obtain ⟨q, hq, e⟩ := List.mem_map.mp (minLen_mem h0)
  exact ⟨q, hq, by omega⟩
theorem minLen_rev {rs : List (List Int)} (h0 : rs ≠ []) : minLen rs.reverse = minLen rs := by
  obtain ⟨r, hr, e⟩ := minLen_at h0
  exact minLen_unique (by simpa using h0) ⟨r, by simpa using hr, e⟩ fun q hq => minLen_le q (by simpa using hq)
theorem hl_rev {rs : List (List Int)} (h0 : rs ≠ []) : hl rs.reverse = hl rs := by
  unfold hl; rw [minLen_rev h0, agree_rev h0]
theorem hl_agree {rs : List (List Int)} {i : Nat} (h : i < hl rs) : agree rs i = true := by
  have e := range_tw (agree rs) (minLen rs)
  have : i ∈ (List.range (minLen rs)).takeWhile (agree rs) := by rw [e]; exact List.mem_range.mpr h
  have key : ∀ l : List Nat, ∀ x ∈ l.takeWhile (agree rs), agree rs x = true := by
    intro l
    induction l with
    | nil => simp
    | cons a l ih =>
      intro x hx
      rw [List.takeWhile_cons] at hx
      split at hx
      · rcases List.mem_cons.mp hx with rfl | hx
        · assumption
        · exact ih x hx
      · simp at hx
  exact key _ i this
/-- all rows begin with the common head -/
theorem take_hl {rs : List (List Int)} {r q : List Int} (hr : r ∈ rs) (hq : q ∈ rs) : r.take (hl rs) = q.take (hl rs) := by
  have l1 := Nat.le_trans (hl_le rs) (minLen_le r hr)
  have l2 := Nat.le_trans (hl_le rs) (minLen_le q hq)
  rw [← map_getD_take r _ l1, ← map_getD_take q _ l2]
  refine List.map_congr_left fun i hi => ?_
  exact (agree_pair (List.ne_nil_of_mem hr)).mp (hl_agree (by simpa using hi)) r hr q hq
theorem chead_take {rs : List (List Int)} {r : List Int} (hr : r ∈ rs) : chead rs = r.take (hl rs) := by
  obtain ⟨a, l, rfl⟩ := List.exists_cons_of_ne_nil (List.ne_nil_of_mem hr)
  rw [chead_eq]
  exact take_hl List.mem_cons_self hr
theorem chead_rev {rs : List (List Int)} (h0 : rs ≠ []) : chead rs.reverse = chead rs := by
  obtain ⟨a, l, rfl⟩ := List.exists_cons_of_ne_nil h0
  rw [chead_take (r := a) (rs := (a :: l).reverse) (by simp), hl_rev h0, chead_take (r := a) List.mem_cons_self]
theorem chead_len {rs : List (List Int)} (h0 : rs ≠ []) : (chead rs).length = hl rs := by
  obtain ⟨a, l, rfl⟩ := List.exists_cons_of_ne_nil h0
  rw [chead_take (r := a) List.mem_cons_self, List.length_take, Nat.min_eq_left (Nat.le_trans (hl_le _) (minLen_le a List.mem_cons_self))]

/-! cuts -/
theorem chunks : ∀ (n : Nat) (l : List Int), l.length = n → (List.range (nCut n)).flatMap (fun i => (l.drop (255 * i)).take 255) = l := by
  intro n
  induction n using Nat.strongRecOn with
  | ind n ih =>
    intro l hl
    by_cases h0 : n = 0
    · subst h0
      rw [List.length_eq_zero_iff] at hl; subst hl; rfl
    · have e : nCut n = nCut (n - 255) + 1 := by unfold nCut; omega
      rw [e, List.range_succ_eq_map, List.flatMap_cons, List.flatMap_map]
      have := ih (n - 255) (by omega) (l.drop 255) (by rw [List.length_drop]; omega)
      simp only [List.drop_drop] at this
      simp only [Nat.mul_zero, List.drop_zero, Nat.succ_eq_add_one, Nat.mul_add, Nat.mul_one]
      rw [show (fun a => List.take 255 (List.drop (255 * a + 255) l)) = (fun i => List.take 255 (List.drop (255 + 255 * i) l)) from by funext i; rw [Nat.add_comm]]
      rw [this, List.take_append_drop]
theorem cut_flat (ns : List Int) (sz : Nat) : (cut ns sz).flatMap (·.2) = ns := by
  unfold cut
  rw [List.flatMap_append, List.flatMap_map]
  have h := chunks (ns.length - sz) (ns.drop sz) (by rw [List.length_drop])
  simp only [List.drop_drop] at h
  rw [h]
  split
  · rename_i e; subst e; simp
  · simp
theorem seqs_flat (ns : List Int) : (seqs ns).flatMap (·.2) = ns := by
  unfold seqs
  rw [List.flatMap_map]
  exact chunks _ ns rfl
theorem cut_seqs (ns : List Int) : cut ns 255 = seqs ns := by
  unfold cut seqs
  by_cases h0 : ns = []
  · subst h0; rfl
  · have hl : ns.length ≠ 0 := fun e => h0 (List.length_eq_zero_iff.mp e)
    have e : nCut ns.length = nCut (ns.length - 255) + 1 := by unfold nCut; omega
    rw [if_neg h0, e, List.range_succ_eq_map, List.map_cons, List.map_map]
    simp only [Nat.mul_zero, List.drop_zero, List.singleton_append, List.cons.injEq, true_and]
    refine List.map_congr_left fun i hi => ?_
    simp only [Function.comp, Nat.succ_eq_add_one, Nat.mul_add, Nat.mul_one]
    rw [Nat.add_comm]
theorem cut_two {ns : List Int} {sz : Nat} : ∀ s ∈ cut ns sz, s.1 = 2 := by
  intro s hs
  unfold cut at hs
  rcases List.mem_append.mp hs with h | h
  · split at h <;> simp at h; rw [h]
  · obtain ⟨i, _, rfl⟩ := List.mem_map.mp h; rfl
theorem cut_short (ns : List Int) (sz : Nat) : (cut ns sz).length ≤ 1 + nCut (ns.length - sz) := by
  unfold cut; split <;> simp <;> omega

/-! outer, inner, lead of the parts -/
theorem outer_app (a b : Path) : outer (a ++ b) = outer a ++ outer b := by simp [outer]
theorem inner_app (a b : Path) : inner (a ++ b) = inner a ++ inner b := by simp [inner]
theorem outer_of {p : Path} (h : ∀ s ∈ p, conf s.1 = false) : outer p = p.flatMap (·.2) := by
  induction p with
  | nil => rfl
  | cons s p ih =>
    have h1 := h s List.mem_cons_self
    have h2 := ih fun x hx => h x (List.mem_cons_of_mem _ hx)
    simp only [outer, List.flatMap_cons, h1, Bool.false_eq_true, if_false] at h2 ⊢
    rw [h2]
theorem inner_of {p : Path} (h : ∀ s ∈ p, conf s.1 = false) : inner p = [] := by
  induction p with
  | nil => rfl
  | cons s p ih =>
    have h1 := h s List.mem_cons_self
    have h2 := ih fun x hx => h x (List.mem_cons_of_mem _ hx)
    simp only [inner, List.flatMap_cons, h1, Bool.false_eq_true, if_false] at h2 ⊢
    rw [h2]; rfl
theorem noConf_of {p : Path} (h : ∀ s ∈ p, conf s.1 = false) : noConf p = p := by
  unfold noConf
  rw [List.filter_eq_self]
  intro s hs; rw [h s hs]; rfl
theorem noConf_app (a b : Path) : noConf (a ++ b) = noConf a ++ noConf b := by simp [noConf]
theorem conf2 : conf 2 = false := by decide
theorem conf1 : conf 1 = false := by decide
theorem cut_nc {ns : List Int} {sz : Nat} : ∀ s ∈ cut ns sz, conf s.1 = false := fun s hs => by rw [cut_two s hs]; exact conf2
end Mine
namespace Mine
structure RtOk (r : Rt) : Prop where
  outer : outer r.path = r.row ++ r.som
  inner : inner r.path = r.mem
  lead : lead r.path = r.row
  kinds : ∀ s ∈ r.path, conf s.1 = !decide (s.1 < 3)
  plen : r.path.length ≤ 10
  rowl : r.row.length ≤ 300
  meml : r.mem.length ≤ 2
  soml : r.som.length ≤ 2
  zero : (0 : Int) ∉ r.row ++ r.som
def memSeg (k : Int) (m : List Int) : Path := if m = [] then [] else [(k, m)]
theorem tail1_nc {som : List Int} : ∀ s ∈ tail1 som, conf s.1 = false := fun s hs => by
  unfold tail1 at hs
  split at hs
  · simp at hs
  · simp at hs; subst hs; exact conf1
theorem tail1_flat (som : List Int) : (tail1 som).flatMap (·.2) = som := by
  unfold tail1; split
  · rename_i h; subst h; rfl
  · simp
theorem tail1_tw (som : List Int) : (tail1 som).takeWhile isSeq = [] := by
  unfold tail1; split
  · rfl
  · simp [isSeq]
theorem memSeg_outer {k : Int} (hk : conf k = true) (m : List Int) : outer (memSeg k m) = [] := by
  unfold memSeg; split
  · rfl
  · simp [outer, hk]
theorem memSeg_inner {k : Int} (hk : conf k = true) (m : List Int) : inner (memSeg k m) = m := by
  unfold memSeg; split
  · rename_i h; subst h; rfl
  · simp [inner, hk]
theorem memSeg_nc {k : Int} (hk : conf k = true) (m : List Int) : noConf (memSeg k m) = [] := by
  unfold memSeg; split
  · rfl
  · simp [noConf, hk]
theorem kinds_nc {p : Path} (h : ∀ s ∈ p, s.1 = 2 ∨ s.1 = 1) : ∀ s ∈ p, conf s.1 = !decide (s.1 < 3) := fun s hs => by
  rcases h s hs with e | e <;> rw [e] <;> decide
theorem tail1_one {som : List Int} : ∀ s ∈ tail1 som, s.1 = 1 := fun s hs => by
  unfold tail1 at hs
  split at hs
  · simp at hs
  · simp at hs; subst hs; rfl
theorem parts_ok {k : Int} (hk : k = 3 ∨ k = 4) (mem row som : List Int) (c : Nat) (h1 : row.length ≤ 300) (h2 : mem.length ≤ 2) (h3 : som.length ≤ 2) (h4 : (0 : Int) ∉ row ++ som) : RtOk ⟨memSeg k mem ++ (cut row c ++ tail1 som), mem, row, som⟩ := by
  have hc : conf k = true := by rcases hk with rfl | rfl <;> decide
  refine ⟨?_, ?_, ?_, fun s hs => ?_, ?_, h1, h2, h3, h4⟩
  · show outer (memSeg k mem ++ (cut row c ++ tail1 som)) = row ++ som
    rw [outer_app, outer_app, memSeg_outer hc, outer_of cut_nc, outer_of tail1_nc, cut_flat, tail1_flat, List.nil_append]
  · show inner (memSeg k mem ++ (cut row c ++ tail1 som)) = mem
    rw [inner_app, inner_app, memSeg_inner hc, inner_of cut_nc, inner_of tail1_nc]; simp
  · show lead (memSeg k mem ++ (cut row c ++ tail1 som)) = row
    unfold lead
    rw [noConf_app, noConf_app, memSeg_nc hc, noConf_of cut_nc, noConf_of tail1_nc, List.nil_append, List.takeWhile_append_of_pos (fun s hs => by rw [isSeq, cut_two s hs]; rfl), tail1_tw, List.append_nil, cut_flat]
  · rcases List.mem_append.mp hs with hs | hs
    · unfold memSeg at hs
      split at hs
      · simp at hs
      · simp at hs; subst hs
        show conf k = !decide (k < 3)
        rcases hk with rfl | rfl <;> decide
    · refine kinds_nc (p := cut row c ++ tail1 som) (fun s hs => ?_) s hs
      rcases List.mem_append.mp hs with hs | hs
      · exact .inl (cut_two s hs)
      · exact .inr (tail1_one s hs)
  · show (memSeg k mem ++ (cut row c ++ tail1 som)).length ≤ 10
    have a := cut_short row c
    have b := tail1_len som
    have d : (memSeg k mem).length ≤ 1 := by unfold memSeg; split <;> simp
    simp only [List.length_append]
    unfold nCut at a
    omega
theorem menuM_ok (k : Nat) : True := trivial
theorem zero_menu3 (k : Nat) : (0 : Int) ∉ menu3.getD k [] := by
  match k with
  | 0 | 1 | 2 => decide
  | k + 3 => simp [menu3]
theorem zero_menuS (k : Nat) : (0 : Int) ∉ menuS.getD k [] := by
  match k with
  | 0 | 1 | 2 => decide
  | k + 3 => simp [menuS]
theorem zero_long : (0 : Int) ∉ longRow := by
  unfold longRow
  intro h
  obtain ⟨i, _, e⟩ := List.mem_map.mp h
  omega
theorem zero_row (sc : List Int) (i : Nat) (lg : Bool) : (0 : Int) ∉ (mkRow sc i lg).1 := by
  cases lg with
  | true => exact zero_long
  | false =>
    simp only [mkRow, Bool.false_eq_true, if_false]
    intro h
    rcases List.mem_append.mp h with h | h
    · have := List.mem_of_mem_take h
      revert this; decide
    · exact zero_menu3 _ h
theorem route_ok (sc : List Int) (i : Nat) (lg : Bool) : RtOk (route sc i lg) := by
  have hd := draw_lt sc ((mkRow sc i lg).2 + 3) 2 (by decide)
  refine parts_ok (k := (3 + (draw sc ((mkRow sc i lg).2 + 3) 2 : Nat) : Int)) (by omega) _ _ _ _ (mkRow_len sc i lg) (menuM_len _) (menuS_len _) ?_
  intro h
  rcases List.mem_append.mp h with h | h
  · exact zero_row sc i lg h
  · exact zero_menuS _ h
theorem route_row (sc : List Int) (i : Nat) : (route sc i true).row = longRow ∧ (route sc i false).row.length ≤ 5 := by
  refine ⟨rfl, ?_⟩
  have := menu3_len (draw sc (i + 1) 3)
  simp only [route, mkRow, Bool.false_eq_true, if_false, List.length_append, List.length_take, List.length_cons, List.length_nil]; omega

structure Gd (rts : List Rt) : Prop where
  ok : ∀ r ∈ rts, RtOk r
  n0 : rts ≠ []
  n3 : rts.length ≤ 3
  rows : (∀ r ∈ rts, r.row = longRow) ∨ (∀ r ∈ rts, r.row.length ≤ 5)
theorem Gd.rev {rts : List Rt} (g : Gd rts) : Gd rts.reverse :=
  ⟨fun r hr => g.ok r (by simpa using hr), by simpa using g.n0, by simpa using g.n3, g.rows.imp (fun h r hr => h r (by simpa using hr)) fun h r hr => h r (by simpa using hr)⟩
theorem rtsOf_mem {sc : List Int} {lg : Bool} : ∀ {k i : Nat} {r : Rt}, r ∈ rtsOf sc lg k i → ∃ j, r = route sc j lg
  | 0, _, _, h => by simp [rtsOf] at h
  | k + 1, i, r, h => by
    rcases List.mem_cons.mp h with e | h
    · exact ⟨i, e⟩
    · exact rtsOf_mem h
theorem lawRts_gd (sc : List Int) : Gd (lawRts sc) := by
  have hd := draw_lt sc 0 2 (by decide)
  have hl : (lawRts sc).length = 2 + draw sc 0 2 := rtsOf_len _ _ _ _
  refine ⟨fun r hr => ?_, fun e => by rw [e] at hl; simp at hl; omega, by omega, ?_⟩
  · obtain ⟨j, rfl⟩ := rtsOf_mem hr; exact route_ok _ _ _
  · cases hg : (draw sc 1 6 == 0) with
    | true => exact .inl fun r hr => by unfold lawRts at hr; rw [hg] at hr; obtain ⟨j, rfl⟩ := rtsOf_mem hr; exact (route_row sc j).1
    | false => exact .inr fun r hr => by unfold lawRts at hr; rw [hg] at hr; obtain ⟨j, rfl⟩ := rtsOf_mem hr; exact (route_row sc j).2

/-! sizes -/
theorem flat_len {α β : Type} {f : α → List β} {K : Nat} : ∀ {l : List α}, (∀ x ∈ l, (f x).length ≤ K) → (l.flatMap f).length ≤ l.length * K
  | [], _ => by simp
  | x :: l, h => by
    have h1 := h x List.mem_cons_self
    have h2 := flat_len (l := l) fun y hy => h y (List.mem_cons_of_mem _ hy)
    simp only [List.flatMap_cons, List.length_append, List.length_cons]
    rw [Nat.add_mul, Nat.one_mul]
    omega
theorem flat_congr {α β : Type} {f g : α → List β} : ∀ {l : List α}, (∀ x ∈ l, f x = g x) → l.flatMap f = l.flatMap g
  | [], _ => rfl
  | x :: l, h => by
    rw [List.flatMap_cons, List.flatMap_cons, h x List.mem_cons_self, flat_congr fun y hy => h y (List.mem_cons_of_mem _ hy)]
section
variable {rts : List Rt}
theorem Gd.leads (g : Gd rts) : (rts.map (·.path)).map lead = drows rts := by
  rw [List.map_map]
  exact List.map_congr_left fun r hr => (g.ok r hr).lead
theorem hlen_hl (rows : List (List Int)) : hlen rows = hl rows := rfl
theorem Gd.rows0 (g : Gd rts) : drows rts ≠ [] := by simpa [drows] using g.n0
theorem Gd.hd (g : Gd rts) : jhead (rts.map (·.path)) = dhd rts := by
  unfold jhead dhd
  rw [g.leads]
  obtain ⟨a, l, e⟩ := List.exists_cons_of_ne_nil g.rows0
  rw [e, chead_eq]; rfl
theorem Gd.hdlen (g : Gd rts) : (dhd rts).length = hlen (drows rts) := by
  rw [← g.hd]; unfold jhead; rw [g.leads, chead_len g.rows0]; rfl
theorem Gd.jmem (g : Gd rts) : jmem (rts.map (·.path)) = dmem rts := by
  unfold Mine.jmem dmem
  rw [addKs_fold, List.flatMap_map]
  rw [flat_congr fun r hr => (g.ok r hr).inner]
theorem Gd.short (g : Gd rts) : ∀ r ∈ rts, hlen (drows rts) ≤ r.row.length := fun r hr =>
  Nat.le_trans (hlen_le _) (minLen_le r.row (List.mem_map.mpr ⟨r, hr, rfl⟩))
theorem Gd.jnew (g : Gd rts) : ∀ r ∈ rts, jnew (dhd rts) r.path = (r.row.drop (hlen (drows rts)) ++ r.som).filter fun n => !decide (n ∈ dhd rts) := fun r hr => by
  unfold Mine.jnew
  rw [(g.ok r hr).outer, g.hdlen, List.drop_append_of_le_length (g.short r hr)]
theorem Gd.jrest (g : Gd rts) : jrest (dhd rts) (rts.map (·.path)) = doth (dhd rts) (hlen (drows rts)) rts := by
  unfold Mine.jrest doth
  rw [addKs_fold, List.flatMap_map, flat_congr g.jnew]
theorem Gd.left (g : Gd rts) : ∀ r ∈ rts, r.row.length - hlen (drows rts) ≤ 5 := fun r hr => by
  rcases g.rows with h | h
  · have key : ¬ hlen (drows rts) < minLen (drows rts) := fun hlt => by
      have h1 := hlen_at _ hlt
      have h2 : agree (drows rts) (hlen (drows rts)) = true := (agree_pair g.rows0).mpr fun a ha b hb => by
        obtain ⟨x, hx, rfl⟩ := List.mem_map.mp ha
        obtain ⟨y, hy, rfl⟩ := List.mem_map.mp hb
        rw [h x hx, h y hy]
      rw [h1] at h2; cases h2
    obtain ⟨q, hq, e⟩ := minLen_at g.rows0
    obtain ⟨x, hx, rfl⟩ := List.mem_map.mp hq
    rw [h x hx] at e
    rw [h r hr]
    omega
  · have := h r hr; omega
theorem Gd.oth (g : Gd rts) : (rts.flatMap fun r => (r.row.drop (hlen (drows rts)) ++ r.som).filter fun n => !decide (n ∈ dhd rts)).length ≤ 21 := by
  refine Nat.le_trans (flat_len (K := 7) fun r hr => ?_) (by have := g.n3; omega)
  have h1 := g.left r hr
  have h2 := (g.ok r hr).soml
  refine Nat.le_trans (List.length_filter_le _ _) ?_
  rw [List.length_append, List.length_drop]; omega
theorem Gd.mems (g : Gd rts) : (rts.flatMap (·.mem)).length ≤ 6 :=
  Nat.le_trans (flat_len (K := 2) fun r hr => (g.ok r hr).meml) (by have := g.n3; omega)
theorem Gd.dm (g : Gd rts) : (dmem rts).length ≤ 6 := Nat.le_trans (addKs_len _ _) (by have := g.mems; simpa using this)
theorem Gd.do' (g : Gd rts) : (doth (dhd rts) (hlen (drows rts)) rts).length ≤ 21 := Nat.le_trans (addKs_len _ _) (by have := g.oth; simpa using this)
theorem Gd.hdl (g : Gd rts) : (dhd rts).length ≤ 300 := by
  obtain ⟨a, l, e⟩ := List.exists_cons_of_ne_nil g.n0
  have h1 := g.short a (e ▸ List.mem_cons_self)
  have h2 := (g.ok a (e ▸ List.mem_cons_self)).rowl
  rw [g.hdlen]; omega

theorem seg_segD (k : Int) (l : List Int) : seg1 k l = segD1 k (srt l) := by
  unfold seg1 segD1
  have : (l.length = 0) = (srt l = []) := by rw [← srt_len l, List.length_eq_zero_iff]
  simp only [this]
theorem Gd.jn (g : Gd rts) : jn (rts.map (·.path)) = dn rts := by
  unfold Mine.jn dn
  rw [g.hd, g.jmem, g.jrest, seg_segD, seg_segD, cut_seqs]

/-! the two cases -/
theorem diffs_zero {p0 : Path} {ps : List Path} : (diffs p0 ps).length = 0 ↔ ∀ p ∈ ps, p = p0 := by
  unfold diffs
  rw [List.length_eq_zero_iff, List.filter_eq_nil_iff]
  simp
theorem jp_all {ps : List Path} {a : Path} (h0 : ps ≠ []) (h : ∀ p ∈ ps, p = a) : jp ps = a := by
  obtain ⟨p0, l, rfl⟩ := List.exists_cons_of_ne_nil h0
  have e := h p0 List.mem_cons_self
  subst e
  exact jp_same (diffs_zero.mpr h)
theorem jp_not {ps : List Path} (h0 : ps ≠ []) (h : ¬ ∃ a, ∀ p ∈ ps, p = a) : jp ps = jn ps := by
  obtain ⟨p0, l, rfl⟩ := List.exists_cons_of_ne_nil h0
  exact jp_diff fun e => h ⟨p0, diffs_zero.mp e⟩
theorem due_all {a : Path} (h0 : rts ≠ []) (h : ∀ r ∈ rts, r.path = a) : due rts = a := by
  obtain ⟨r0, l, rfl⟩ := List.exists_cons_of_ne_nil h0
  rw [due_one (addKs_single.mpr fun x hx => ?_)]
  · exact h r0 List.mem_cons_self
  · obtain ⟨r, hr, rfl⟩ := List.mem_map.mp (show x ∈ (r0 :: l).map (·.path) from hx)
    rw [h r hr]; exact (h r0 List.mem_cons_self).symm
theorem due_not (h0 : rts ≠ []) (h : ¬ ∃ a, ∀ r ∈ rts, r.path = a) : due rts = dn rts := by
  obtain ⟨r0, l, rfl⟩ := List.exists_cons_of_ne_nil h0
  exact due_many fun e => h ⟨r0.path, fun r hr => addKs_single.mp e r.path (List.mem_map.mpr ⟨r, hr, rfl⟩)⟩
theorem all_paths {a : Path} : (∀ r ∈ rts, r.path = a) ↔ ∀ p ∈ rts.map (·.path), p = a := by simp
theorem Gd.ps0 (g : Gd rts) : rts.map (·.path) ≠ [] := by simpa using g.n0
theorem Gd.one (g : Gd rts) : jp (rts.map (·.path)) = due rts := by
  by_cases h : ∃ a, ∀ r ∈ rts, r.path = a
  · obtain ⟨a, h⟩ := h
    rw [due_all g.n0 h, jp_all g.ps0 (all_paths.mp h)]
  · rw [due_not g.n0 h, jp_not g.ps0 (fun ⟨a, q⟩ => h ⟨a, all_paths.mpr q⟩), g.jn]
theorem jn_rev {ps : List Path} (h0 : ps ≠ []) : Mine.jn ps.reverse = Mine.jn ps := by
  have hh : jhead ps.reverse = jhead ps := by
    unfold jhead
    rw [List.map_reverse]
    exact chead_rev (by simpa using h0)
  unfold Mine.jn
  rw [hh]
  unfold Mine.jmem Mine.jrest
  rw [addKs_fold, addKs_fold, addKs_fold, addKs_fold]
  rw [seg1_set (k := 4) (l := ps.reverse.flatMap inner) (l' := ps.flatMap inner) (by simp), seg1_set (k := 1) (l := ps.reverse.flatMap (Mine.jnew (jhead ps))) (l' := ps.flatMap (Mine.jnew (jhead ps))) (by simp)]
theorem Gd.back (g : Gd rts) : jp (rts.map (·.path)).reverse = due rts := by
  by_cases h : ∃ a, ∀ r ∈ rts, r.path = a
  · obtain ⟨a, h⟩ := h
    rw [due_all g.n0 h, jp_all (by simpa using g.n0) (fun p hp => all_paths.mp h p (by simpa using hp))]
  · rw [due_not g.n0 h, jp_not (by simpa using g.n0) (fun ⟨a, q⟩ => h ⟨a, all_paths.mpr fun p hp => q p (by simpa using hp)⟩), jn_rev g.ps0, g.jn]

theorem segD_memSeg (k : Int) (l : List Int) : segD1 k l = memSeg k l := rfl
theorem outer1 (l : List Int) : outer (segD1 1 l) = l := by
  unfold segD1; split
  · rename_i h; subst h; rfl
  · simp [outer, conf1]
theorem inner1 (l : List Int) : inner (segD1 1 l) = [] := by
  unfold segD1; split
  · rfl
  · simp [inner, conf1]
theorem conf4 : conf 4 = true := by decide
theorem outer_dn (rts : List Rt) : outer (dn rts) = dhd rts ++ srt (doth (dhd rts) (hlen (drows rts)) rts) := by
  unfold dn
  rw [outer_app, outer_app, segD_memSeg, memSeg_outer conf4, outer_of cut_nc, cut_flat, outer1, List.nil_append]
theorem inner_dn (rts : List Rt) : inner (dn rts) = srt (dmem rts) := by
  unfold dn
  rw [inner_app, inner_app, segD_memSeg, memSeg_inner conf4, inner_of cut_nc, inner1]; simp
theorem Gd.mem_outer (g : Gd rts) (n : Int) : n ∈ outer (due rts) ↔ n ∈ sysOf rts := by
  have hs : n ∈ sysOf rts ↔ ∃ r ∈ rts, n ∈ outer r.path := by
    unfold sysOf
    rw [List.mem_flatMap]
    exact ⟨fun ⟨r, hr, h⟩ => ⟨r, hr, by rw [(g.ok r hr).outer]; exact h⟩, fun ⟨r, hr, h⟩ => ⟨r, hr, by rw [← (g.ok r hr).outer]; exact h⟩⟩
  by_cases h : ∃ a, ∀ r ∈ rts, r.path = a
  · obtain ⟨a, h⟩ := h
    rw [due_all g.n0 h, hs]
    obtain ⟨r0, l, e⟩ := List.exists_cons_of_ne_nil g.n0
    exact ⟨fun q => ⟨r0, e ▸ List.mem_cons_self, by rw [h r0 (e ▸ List.mem_cons_self)]; exact q⟩, fun ⟨r, hr, q⟩ => by rw [h r hr] at q; exact q⟩
  · rw [due_not g.n0 h, outer_dn, List.mem_append, mem_srt]
    unfold doth
    rw [mem_addKs, List.mem_flatMap]
    unfold sysOf
    rw [List.mem_flatMap]
    have hd : ∀ r ∈ rts, dhd rts = r.row.take (hlen (drows rts)) := fun r hr => by
      rw [← g.hd]; unfold jhead; rw [g.leads]
      exact chead_take (List.mem_map.mpr ⟨r, hr, rfl⟩)
    obtain ⟨r0, l, e⟩ := List.exists_cons_of_ne_nil g.n0
    constructor
    · rintro (q | q | ⟨r, hr, q⟩)
      · rw [hd r0 (e ▸ List.mem_cons_self)] at q
        exact ⟨r0, e ▸ List.mem_cons_self, List.mem_append_left _ (List.mem_of_mem_take q)⟩
      · simp at q
      · have q' := (List.mem_filter.mp q).1
        rcases List.mem_append.mp q' with q' | q'
        · exact ⟨r, hr, List.mem_append_left _ (List.mem_of_mem_drop q')⟩
        · exact ⟨r, hr, List.mem_append_right _ q'⟩
    · rintro ⟨r, hr, q⟩
      by_cases hn : n ∈ dhd rts
      · exact .inl hn
      · refine .inr (.inr ⟨r, hr, List.mem_filter.mpr ⟨?_, by simp [hn]⟩⟩)
        rcases List.mem_append.mp q with q | q
        · rw [← List.take_append_drop (hlen (drows rts)) r.row, List.mem_append] at q
          rcases q with q | q
          · rw [← hd r hr] at q; exact absurd q hn
          · exact List.mem_append_left _ q
        · exact List.mem_append_right _ q
theorem Gd.mem_inner (g : Gd rts) (n : Int) : n ∈ inner (due rts) ↔ n ∈ memOf rts := by
  by_cases h : ∃ a, ∀ r ∈ rts, r.path = a
  · obtain ⟨a, h⟩ := h
    rw [due_all g.n0 h]
    unfold memOf
    rw [List.mem_flatMap]
    obtain ⟨r0, l, e⟩ := List.exists_cons_of_ne_nil g.n0
    have h0 := h r0 (e ▸ List.mem_cons_self)
    have i0 := (g.ok r0 (e ▸ List.mem_cons_self)).inner
    constructor
    · intro q
      exact ⟨r0, e ▸ List.mem_cons_self, by rw [← i0, h0]; exact q⟩
    · rintro ⟨r, hr, q⟩
      rw [← (g.ok r hr).inner, h r hr] at q; exact q
  · rw [due_not g.n0 h, inner_dn, mem_srt]
    unfold dmem memOf
    rw [mem_addKs]; simp
theorem Gd.zero (g : Gd rts) : (0 : Int) ∉ sysOf rts := by
  unfold sysOf
  rw [List.mem_flatMap]
  rintro ⟨r, hr, q⟩
  exact (g.ok r hr).zero q
theorem Gd.kinds (g : Gd rts) : ∀ s ∈ due rts, conf s.1 = !decide (s.1 < 3) := by
  by_cases h : ∃ a, ∀ r ∈ rts, r.path = a
  · obtain ⟨a, h⟩ := h
    obtain ⟨r0, l, e⟩ := List.exists_cons_of_ne_nil g.n0
    have h0 := h r0 (e ▸ List.mem_cons_self)
    rw [due_all g.n0 h, ← h0]
    exact (g.ok r0 (e ▸ List.mem_cons_self)).kinds
  · rw [due_not g.n0 h]
    intro s hs
    unfold dn at hs
    rcases List.mem_append.mp hs with hs | hs
    · rcases List.mem_append.mp hs with hs | hs
      · unfold segD1 at hs
        split at hs
        · simp at hs
        · simp at hs; subst hs; show conf 4 = !decide ((4 : Int) < 3); decide
      · rw [cut_two s hs]; decide
    · unfold segD1 at hs
      split at hs
      · simp at hs
      · simp at hs; subst hs; show conf 1 = !decide ((1 : Int) < 3); decide
theorem med_of {p : Path} (h : ∀ s ∈ p, conf s.1 = !decide (s.1 < 3)) : (decide (((p.filter fun s => decide (s.1 < 3)).map (·.1)).take 1 = [1])) = !medOk p := by
  have e : (p.filter fun s => decide (s.1 < 3)) = noConf p := by
    unfold noConf
    refine List.filter_congr fun s hs => ?_
    rw [h s hs]; simp
  rw [e]
  unfold medOk
  cases noConf p with
  | nil => rfl
  | cons s r =>
    by_cases h1 : s.1 = 1 <;> simp [bne, h1]
theorem seg_le (k : Int) (l : List Int) : (segD1 k l).length ≤ 1 := by unfold segD1; split <;> simp
theorem Gd.duelen (g : Gd rts) : (due rts).length ≤ 10 ∧ (outer (due rts)).length ≤ 400 ∧ (inner (due rts)).length ≤ 10 := by
  by_cases h : ∃ a, ∀ r ∈ rts, r.path = a
  · obtain ⟨a, h⟩ := h
    obtain ⟨r0, l, e⟩ := List.exists_cons_of_ne_nil g.n0
    have h0 := h r0 (e ▸ List.mem_cons_self)
    rw [due_all g.n0 h, ← h0]
    have k := g.ok r0 (e ▸ List.mem_cons_self)
    have k1 := k.plen
    have k2 := k.rowl
    have k3 := k.soml
    have k4 := k.meml
    rw [k.outer, k.inner, List.length_append]
    omega
  · rw [due_not g.n0 h, outer_dn, inner_dn]
    have k1 := g.hdl
    have k2 := g.do'
    have k3 := g.dm
    have c1 := cut_short (dhd rts) 255
    have c2 := seg_le 4 (srt (dmem rts))
    have c3 := seg_le 1 (srt (doth (dhd rts) (hlen (drows rts)) rts))
    rw [List.length_append, srt_len, srt_len]
    unfold dn
    simp only [List.length_append]
    unfold nCut at c1
    omega
theorem Gd.fine (g : Gd rts) : Fine rts where
  one := g.one
  rev := g.back
  sys := fun n _ => by
    unfold Mine.back
    have := g.mem_outer n
    by_cases h : n ∈ sysOf rts
    · rw [if_pos (this.mpr h)]; simp [h]
    · rw [if_neg (fun q => h (this.mp q))]; simp [h]
  mem := fun n hn => by
    unfold Mine.back
    rw [if_neg (fun q => g.zero ((g.mem_outer 0).mp q))]
    have h0 : n ≠ 0 := by
      intro e; subst e; revert hn; decide
    rw [bne_iff_ne.mpr h0, Bool.true_and]
    exact decide_eq_decide.mpr (g.mem_inner n)
  med := med_of g.kinds
  len := by have := g.duelen; omega
  outer := by have := g.duelen; omega
  inner := by have := g.duelen; omega
end
end Mine
namespace Mine
section
variable {prog : Program} {w : World} {B : BS}
theorem jp_gd (f18 : FnAt' B 18) (f10 : FnAt' B 10) (f11 : FnAt' B 11) (f12 : FnAt' B 12) (f15 : FnAt' B 15) (f16 : FnAt' B 16) (f17 : FnAt' B 17) (G : Glb prog w B) {rts : List Rt} (g : Gd rts) :
    FnOk prog w B 3 (fname (stmtAt 18)) [.list ((rts.map (·.path)).map pathD)] (pathD (jp (rts.map (·.path)))) [] [] := by
  have key : ∀ p ∈ rts.map (·.path), p.length ≤ 1000 ∧ (outer p).length ≤ 1000 ∧ (inner p).length ≤ 1000 ∧ (lead p).length ≤ 1000 := fun p hp => by
    obtain ⟨r, hr, rfl⟩ := List.mem_map.mp hp
    have k := g.ok r hr
    have k1 := k.plen
    have k2 := k.rowl
    have k3 := k.soml
    have k4 := k.meml
    rw [k.outer, k.inner, k.lead, List.length_append]
    omega
  have n3 := g.n3
  have d1 := g.dm
  have d2 := g.do'
  have d3 := g.hdl
  exact jp_walk f18 f10 f11 f12 f15 f16 f17 G (rts.map (·.path)) g.ps0 (by rw [List.length_map]; omega) (fun p hp => (key p hp).1) (fun p hp => (key p hp).2.1) (fun p hp => (key p hp).2.2.1) (fun p hp => (key p hp).2.2.2)
    (by rw [g.jmem]; omega) (by rw [g.hd, g.jrest]; omega) (by rw [g.hd]; omega)
theorem law_ok (f2 : FnAt' B 2) (f10 : FnAt' B 10) (f11 : FnAt' B 11) (f12 : FnAt' B 12) (f13 : FnAt' B 13) (f15 : FnAt' B 15) (f16 : FnAt' B 16) (f17 : FnAt' B 17) (f18 : FnAt' B 18) (f19 : FnAt' B 19) (f21 : FnAt' B 21) (f22 : FnAt' B 22) (f23 : FnAt' B 23) (f24 : FnAt' B 24) (f25 : FnAt' B 25)
    (G : Glb prog w B) (ns : List Int) (hns : ns.length ≤ 1000) : FnOk prog w B 5 (fname (stmtAt 25)) [.list (I ns)] (.bool true) [] [] := by
  have g := lawRts_gd (ns.take 24)
  generalize hrts : lawRts (ns.take 24) = rts at g
  have fine := g.fine
  have n3 := g.n3
  have d1 := g.dm
  have d2 := g.do'
  have d3 := g.mems
  have d4 := g.oth
  have e24 : FnOk prog w B 2 (fname (stmtAt 24)) [.list (rts.map rtD)] (pathD (due rts)) [] [] :=
    due_walk f24 f22 rts g.n0 (by omega) (fun r hr => by have := (g.ok r hr).rowl; omega) (fun r hr => by have := (g.ok r hr).meml; omega) (fun r hr => by have := (g.ok r hr).soml; omega) (by omega) (by omega) (by omega) (by omega)
  have e18 := jp_gd f18 f10 f11 f12 f15 f16 f17 G g
  have e18r := jp_gd f18 f10 f11 f12 f15 f16 f17 G g.rev
  rw [List.map_reverse, fine.rev] at e18r
  have hj : (jp (rts.map (·.path))).length ≤ 1000 := by rw [fine.one]; exact fine.len
  have e18' : FnOk prog w B 3 "joined_path" [.list ((rts.map (·.path)).map pathD)] (pathD (jp (rts.map (·.path)))) [] [] := e18
  have e19 := attrs_walk f19 f2 f12 G (rts.map (·.path)) g.ps0 (by rw [List.length_map]; omega) hj e18'
  rw [fine.one] at e18' e19
  have hsys : (sysOf rts).length ≤ 10000 := Nat.le_trans (flat_len (K := 302) fun r hr => by have := (g.ok r hr).rowl; have := (g.ok r hr).soml; rw [List.length_append]; omega) (by omega)
  exact law_walk f25 f21 f22 f23 f10 f11 f13 G ns hns rts hrts fine (fun r hr => (g.ok r hr).rowl) (fun r hr => (g.ok r hr).soml) (fun r hr => (g.ok r hr).meml) hsys (by unfold memOf; omega) e24 e18' e18r e19
end
end Mine
namespace Mine
def fpos : Stmt → Pos
  | .FunctionDef _ _ _ _ _ _ _ _ _ p => p
  | _ => ⟨0, 0, 0, 0⟩
def recAt (n : Nat) : DefRec := ⟨fname (stmtAt n), fparams (stmtAt n), fbody (stmtAt n), fscope (stmtAt n), fpos (stmtAt n)⟩
def freeNames : List Str := ["len", "min", "max", "abs", "range", "list", "tuple", "sorted", "dict"]
def isFree (p : Program) (loose : List Str) (x : Str) : Bool :=
  !startupNames.contains x && !loose.contains x && !((recsOf p).map (·.name)).contains x && !((litsOf p).map (·.1)).contains x && !((clssOf p loose).map (·.name)).contains x
theorem hideAll_nil (h : Heap) : Sub h (hideAll h []) := fun b o e => hideAll_get _ e (by simp)
section
variable {prog p : Program} {w : World} {loose : List Str} {mean : ExcName → Option Value} {mg mb : Str → Option Value} {s : Shared}
theorem free_of (T : Top p loose mean mg mb s.heap) {x : Str} (h : isFree p loose x = true) : mg x = none := by
  unfold isFree at h
  simp only [Bool.and_eq_true, Bool.not_eq_true', List.contains_eq_mem, decide_eq_false_iff_not] at h
  exact T.free x h.1.1.1.1 h.1.1.1.2 h.1.1.2 h.1.2 h.2
def bsOf (T : Top p loose mean mg mb s.heap) (hf : freeNames.all (isFree p loose) = true) : BS :=
  ⟨s.heap, mg, mb, T.g, T.b, T.nolimit, T.builtins, fun x hx => free_of T (List.all_eq_true.mp hf x hx)⟩
theorem fn_of (T : Top p loose mean mg mb s.heap) (hf : freeNames.all (isFree p loose) = true) {n : Nat} (h : recAt n ∈ recsOf p) : FnAt' (bsOf T hf) n := ⟨T.fn (recAt n) h⟩
theorem const_of (T : Top p loose mean mg mb s.heap) {x : Str} {i : Int} (h : valOf p x = some (.int i)) : ∃ v, mg x = some v ∧ R prog w s.heap v (.int i) := by
  obtain ⟨v, hv, hr⟩ := T.const x _ h
  obtain ⟨t, rfl⟩ := IsDatum.int (v := v) (i := i) hr
  exact ⟨_, hv, R.int⟩
theorem ints_ofW {h : Heap} : ∀ {ns : List Int} {vs : List Value} {as : List Addr}, ReadsAllW [] (fun _ => none) h vs (ns.map WData.int) as → RL prog w h vs (I ns)
  | [], _, _, r => by cases r; simp [I, RL]
  | n :: ns, _, _, r => by
    simp only [List.map_cons] at r
    cases r with
    | cons r1 r2 =>
      cases r1
      simp only [I, List.map_cons]
      exact RL.cons R.int (ints_ofW r2)
theorem ints_ofR {h : Heap} : ∀ {ns : List Int} {vs : List Value} {as : List Addr}, ReadsAll h vs (ns.map PyData.int) as → RL prog w h vs (I ns)
  | [], _, _, r => by cases r; simp [I, RL]
  | n :: ns, _, _, r => by
    simp only [List.map_cons] at r
    cases r with
    | cons r1 r2 =>
      cases r1
      simp only [I, List.map_cons]
      exact RL.cons R.int (ints_ofR r2)
theorem reads_ofW {h : Heap} : ∀ {ns : List Int} {vs : List Value} {as : List Addr}, ReadsAllW [] (fun _ => none) h vs (ns.map WData.int) as → ∃ bs, ReadsAll h vs (toPyL (I ns)) bs
  | [], _, _, r => by cases r; exact ⟨_, .nil⟩
  | n :: ns, _, _, r => by
    simp only [List.map_cons] at r
    cases r with
    | cons r1 r2 =>
      cases r1
      obtain ⟨bs, hb⟩ := reads_ofW r2
      exact ⟨_, .cons (.int _ _) hb⟩
theorem kinds_of' (V : LooseAre [("CONFED_KINDS", .tuple [.int 3, .int 4])] mg s.heap) : ∃ v as, mg "CONFED_KINDS" = some v ∧ Reads s.heap v (.tuple (toPyL (I [3, 4]))) as := by
  obtain ⟨v, hv, hr⟩ := V.val _ List.mem_cons_self
  have hr' : ReadsW [] (fun _ => none) s.heap v (.tuple (([3, 4] : List Int).map WData.int)) [] := hr
  cases hr' with
  | tuple ho hc hd hall =>
    obtain ⟨bs, hb⟩ := reads_ofW hall
    exact ⟨_, _, hv, .tuple ho hc hd hb⟩
def lawFns : List Nat := [1, 2, 10, 11, 12, 13, 15, 16, 17, 18, 19, 21, 22, 23, 24, 25]
theorem law_end (T : Top p loose mean mg mb s.heap) (V : LooseAre [("CONFED_KINDS", .tuple [.int 3, .int 4])] mg s.heap) (hrec : recsOf p = lawFns.map recAt) (hf : freeNames.all (isFree p loose) = true)
    (c1 : valOf p "SET" = some (.int 1)) (c2 : valOf p "SEQUENCE" = some (.int 2)) (c3 : valOf p "CONFED_SET" = some (.int 4)) (c4 : valOf p "MOST_IN_SEGMENT" = some (.int 255))
    {fa a : Addr} (hmg : mg "law" = some (.ref fa)) {ns : List Int} {as : List Addr} {P : Params} (w1 : Well P s.heap (.ref a) (ofPy (.list (ns.map .int)))) (r0 : Reads s.heap (.ref a) (.list (ns.map .int)) as) (hns : ns.length ≤ 1000) :
    wpAny (model prog w) callerA (call (.ref fa) [.ref a]) (fun v s' => v = .bool true ∧ ∃ h' tk, s' = { s with heap := h', toks := tk } ∧ ∀ b o, s.heap.get? b = some o → h'.get? b = some o) nofail s := by
  have fn : ∀ n, n ∈ lawFns → FnAt' (bsOf T hf) n := fun n hn => fn_of T hf (by rw [hrec]; exact List.mem_map.mpr ⟨n, hn, rfl⟩)
  have G : Glb prog w (bsOf T hf) := ⟨const_of T c1, const_of T c2, const_of T c3, kinds_of' V, const_of T c4⟩
  have fo := law_ok (prog := prog) (w := w) (fn 2 (by decide)) (fn 10 (by decide)) (fn 11 (by decide)) (fn 12 (by decide)) (fn 13 (by decide)) (fn 15 (by decide)) (fn 16 (by decide)) (fn 17 (by decide)) (fn 18 (by decide)) (fn 19 (by decide)) (fn 21 (by decide)) (fn 22 (by decide)) (fn 23 (by decide)) (fn 24 (by decide)) (fn 25 (by decide)) G ns hns
  obtain ⟨a', o, fd, hg, ho, hdat, go⟩ := fo
  have e : a' = fa := by
    have hg' : mg "law" = some (.ref a') := hg
    rw [hmg] at hg'; cases hg'; rfl
  subst e
  have w2 : Well P s.heap (.ref a) (.list (ofPys (ns.map .int))) := w1
  have hl : ∃ vs : Array Value, IsL s.heap a vs 0 ∧ RL prog w s.heap vs.toList (I ns) := by
    cases w2 with
    | list hget hall =>
      cases r0 with
      | list ho2 hc2 hd2 hr2 =>
        rw [hget] at ho2; cases ho2
        cases hd2
        exact ⟨_, hget, ints_ofR hr2⟩
  obtain ⟨vs, hl, hr⟩ := hl
  have big : sysModules < s.heap.objs.size := by
    obtain ⟨o3, _, _, e3, _⟩ := T.g
    have := Heap.lt_size e3
    exact Nat.lt_trans (by decide) this
  refine wpAny_mono (go callerA [] s [.ref a] ⟨by decide, by decide⟩ rfl (hideAll_nil _) (fun b hb => by simp at hb) big (fun a o e => by simp at e) (RL.one (R.list (hideAll_nil _ _ _ hl) (RL.mono (hideAll_nil _) hr)))) (fun u s' ⟨h', tk, e, keep, _, hu, _⟩ => ?_) fun _ _ f => f
  simp only [R] at hu
  exact ⟨hu, h', tk, e, fun b o hb => keep b o (by simp) hb⟩
end
end Mine
set_option maxRecDepth 100000 in
set_option maxHeartbeats 8000000 in
theorem PySem.Challenge.cw_rh0198_01_holds : PySem.Challenge.rw_rh0198_01.Holds := by
  (w_on; o_law; k_head; (case hw => w_witness2); w_strict (
    intro w s₀ s₁ mg mb G Y fa o pm cd doc dV kV ho hd hcd hD hmg hg args vals as hpre hlay hrd hwl hlo
    have V := (Ground.X G).2
    refine Ground.open G ?_
    intro T B D TE TW
    clear Y hd hcd ho TE TW D hD
    wrow_args hpre hlay hrd hwl hlo
    refine wpAny_mono (Mine.law_end T V (by kernel_rfl) (by decide +kernel) (by kernel_rfl) (by kernel_rfl) (by kernel_rfl) (by kernel_rfl) hmg (by assumption) (by assumption) (by omega)) (fun v s' hv => ?_) (fun _ _ f => f.elim)
    obtain ⟨rfl, h', tk, rfl, keep⟩ := hv
    refine GoodW.toG ⟨.inl ⟨_, .bool true, [], rfl, raisesW_false ?_, .bool true, ?_, fun _ => ⟨List.nodup_nil, fun a ha => by simp at ha⟩⟩, keep, rfl, hg⟩
    · wrow_none_raised
    · wrow_post))
