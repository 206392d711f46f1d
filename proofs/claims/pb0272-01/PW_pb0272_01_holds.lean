import PyProof.Rows.All
import Wide.All
import OpenK.AllK
import Wide.FinOn
import Lean
import PySem.Challenge.RW_pb0272_01
set_option Elab.async false
set_option maxRecDepth 100000
set_option maxHeartbeats 80000000
set_option linter.unusedVariables false
set_option linter.unusedSimpArgs false
set_option genSizeOf false
namespace Mine
local macro_rules | `(tactic| omega) => `(tactic| first | with_reducible exact Nat.le_refl _ | with_reducible exact Nat.add_le_add_left (Nat.le_of_ble_eq_true rfl) _ | lia | omega +splitDisjunctions)
section
open PySem PySem.W PySem.Calls PyProof.Rows PySem.Spec
inductive V where
  | none
  | bool (b : Bool)
  | int (i : Int)
  | str (x : Str)
  | tuple (xs : List V)
  | ref (a : Addr)
  | bltn (id : String)
  | typ (n : String)

mutual
inductive Rep (h : Heap) : Value → V → Prop
  | none : Rep h .none .none
  | bool (b : Bool) : Rep h (.bool b) (.bool b)
  | int (i : Int) (t : Tok) : Rep h (.int i t) (.int i)
  | str (x : Str) (t : Tok) : Rep h (.str x t) (.str x)
  | tuple {a : Addr} {vs : List Value} {xs : List V} : IsTup h a vs.toArray → RepL h vs xs → Rep h (.ref a) (.tuple xs)
  | ref (a : Addr) : Rep h (.ref a) (.ref a)
  | bltn (id : String) : Rep h (.builtin id) (.bltn id)
  | typ (n : String) : Rep h (.type n) (.typ n)
inductive RepL (h : Heap) : List Value → List V → Prop
  | nil : RepL h [] []
  | cons {v : Value} {vs : List Value} {x : V} {xs : List V} : Rep h v x → RepL h vs xs → RepL h (v :: vs) (x :: xs)
end

noncomputable def TupKeep (h h' : Heap) : Prop := ∀ a o items n, h.get? a = some o → o.cls = .type "tuple" → o.data = .seq items n → h'.get? a = some o
section
variable {h : Heap} {v : Value} {vs : List Value} {P : Value → Prop} {Q : List Value → Prop}
@[elab_as_elim] theorem Rep.none_elim (r : Rep h v .none) (k : P .none) : P v := by cases r; exact k
@[elab_as_elim] theorem Rep.bool_elim {b : Bool} (r : Rep h v (.bool b)) (k : P (.bool b)) : P v := by cases r; exact k
@[elab_as_elim] theorem Rep.int_elim {i : Int} (r : Rep h v (.int i)) (k : ∀ t, P (.int i t)) : P v := by cases r; exact k _
@[elab_as_elim] theorem Rep.str_elim {x : Str} (r : Rep h v (.str x)) (k : ∀ t, P (.str x t)) : P v := by cases r; exact k _
@[elab_as_elim] theorem Rep.tup_elim {xs : List V} (r : Rep h v (.tuple xs)) (k : ∀ a vs, IsTup h a vs.toArray → RepL h vs xs → P (.ref a)) : P v := by cases r; exact k _ _ (by assumption) (by assumption)
@[elab_as_elim] theorem Rep.ref_elim {a : Addr} (r : Rep h v (.ref a)) (k : P (.ref a)) : P v := by cases r; exact k
theorem Rep.bltn_inv {id : String} (r : Rep h v (.bltn id)) : v = .builtin id := by cases r; rfl
theorem Rep.ref_inv {a : Addr} (r : Rep h v (.ref a)) : v = .ref a := r.ref_elim rfl
theorem Rep.typ_inv {id : String} (r : Rep h v (.typ id)) : v = .type id := by cases r; rfl
theorem RepL.nil_inv (r : RepL h vs []) : vs = [] := by cases r; rfl
@[elab_as_elim] theorem RepL.cons_elim {X : V} {Xs : List V} (r : RepL h vs (X :: Xs)) (k : ∀ v ws, Rep h v X → RepL h ws Xs → Q (v :: ws)) : Q vs := by cases r; exact k _ _ (by assumption) (by assumption)
@[elab_as_elim] theorem RepL.one {X : V} (r : RepL h vs [X]) (k : ∀ v, Rep h v X → Q [v]) : Q vs := r.cons_elim fun v ws a b => b.nil_inv ▸ k v a
@[elab_as_elim] theorem RepL.two {X Y : V} (r : RepL h vs [X, Y]) (k : ∀ v w, Rep h v X → Rep h w Y → Q [v, w]) : Q vs := r.cons_elim fun v ws a b => RepL.one (Q := fun ws => Q (v :: ws)) b fun w b => k v w a b
@[elab_as_elim] theorem RepL.three {X Y Z : V} (r : RepL h vs [X, Y, Z]) (k : ∀ v w u, Rep h v X → Rep h w Y → Rep h u Z → Q [v, w, u]) : Q vs := r.cons_elim fun v ws a b => RepL.two (Q := fun ws => Q (v :: ws)) b fun w u b c => k v w u a b c
end
theorem IsTup.tk {h h' : Heap} (k : TupKeep h h') {a : Addr} {vs : Array Value} : IsTup h a vs → IsTup h' a vs := fun ⟨o, ho, hc, n, hd⟩ => ⟨o, k _ _ _ _ ho hc hd, hc, n, hd⟩
theorem Rep.mono {h h' : Heap} (k : TupKeep h h') {v : Value} {x : V} (r : Rep h v x) : Rep h' v x :=
  @Rep.rec h (fun v x _ => Rep h' v x) (fun vs xs _ => RepL h' vs xs) .none .bool .int .str (fun t _ r => .tuple (IsTup.tk k t) r) .ref .bltn .typ .nil (fun _ _ a b => .cons a b) v x r
theorem RepL.mono {h h' : Heap} (k : TupKeep h h') {vs : List Value} {xs : List V} (r : RepL h vs xs) : RepL h' vs xs :=
  @RepL.rec h (fun v x _ => Rep h' v x) (fun vs xs _ => RepL h' vs xs) .none .bool .int .str (fun t _ r => .tuple (IsTup.tk k t) r) .ref .bltn .typ .nil (fun _ _ a b => .cons a b) vs xs r
theorem RepL.ind {h : Heap} {M : List Value → List V → Prop} (n : M [] []) (c : ∀ v ws x xs, Rep h v x → RepL h ws xs → M ws xs → M (v :: ws) (x :: xs)) : ∀ xs vs, RepL h vs xs → M vs xs := fun xs => by
  induction xs with
  | nil => exact fun vs r => r.nil_inv ▸ n
  | cons x xs ih => exact fun vs r => RepL.cons_elim (Q := fun vs => M vs (x :: xs)) r fun v ws a b => c v ws x xs a b (ih ws b)
theorem RepL.length {h : Heap} {vs : List Value} {xs : List V} : RepL h vs xs → vs.length = xs.length := RepL.ind (M := fun vs xs => vs.length = xs.length) rfl (fun _ _ _ _ _ _ e => congrArg Nat.succ e) xs vs
theorem RepL.append {h : Heap} {vs ws : List Value} {xs ys : List V} (l : RepL h vs xs) (r : RepL h ws ys) : RepL h (vs ++ ws) (xs ++ ys) := RepL.ind (M := fun vs xs => RepL h (vs ++ ws) (xs ++ ys)) r (fun _ _ _ _ a _ b => .cons a b) xs vs l
theorem RepL.get {h : Heap} {vs : List Value} {xs : List V} {i : Nat} {x : V} (l : RepL h vs xs) (e : xs[i]? = some x) : ∃ v, vs[i]? = some v ∧ Rep h v x :=
  RepL.ind (M := fun vs xs => ∀ i x, xs[i]? = some x → ∃ v, vs[i]? = some v ∧ Rep h v x) (fun i x e => nomatch (show (none : Option V) = some x from e)) (fun v ws y ys a _ ih i x e => by
    cases i with
    | zero => exact ⟨v, rfl, Option.some.inj e ▸ a⟩
    | succ i => exact ih i x e) xs vs l i x e

inductive AObj where
  | list (xs : List V)
  | inst (C dx : Addr)
  | ns (es : List (Str × V))
  | cell (v : Option V)
  | idict (es : List (Int × V))
  | sdict (es : List (Str × V))
  | raw (o : Obj)
  | rng (a b c : Int)

inductive RepE (h : Heap) : List DictEntry → List (Str × V) → Prop
  | nil : RepE h [] []
  | cons {hs : Int} {n : Str} {t : Tok} {v : Value} {x : V} {r : List DictEntry} {xs : List (Str × V)} : Rep h v x → RepE h r xs → RepE h (⟨hs, .str n t, v⟩ :: r) ((n, x) :: xs)
theorem RepE.mono {h h' : Heap} (k : TupKeep h h') {es : List DictEntry} {xs : List (Str × V)} (r : RepE h es xs) : RepE h' es xs := @RepE.rec h (fun es xs _ => RepE h' es xs) .nil (fun a _ b => .cons (a.mono k) b) es xs r

inductive RepD (h : Heap) {K : Type} : List (K × Value) → List (K × V) → Prop
  | nil : RepD h [] []
  | cons {k : K} {v : Value} {x : V} {r : List (K × Value)} {xs : List (K × V)} : Rep h v x → RepD h r xs → RepD h ((k, v) :: r) ((k, x) :: xs)
theorem RepD.mono {K : Type} {h h' : Heap} (k : TupKeep h h') {es : List (K × Value)} {xs : List (K × V)} (r : RepD h es xs) : RepD h' es xs := @RepD.rec h K (fun es xs _ => RepD h' es xs) .nil (fun a _ b => .cons (a.mono k) b) es xs r
theorem RepD.length {K : Type} {h : Heap} {es : List (K × Value)} {xs : List (K × V)} (r : RepD h es xs) : es.length = xs.length := @RepD.rec h K (fun es xs _ => es.length = xs.length) rfl (fun _ _ e => congrArg Nat.succ e) es xs r

set_option genInjectivity false in
structure Cx where
  prog : Program
  w : World
  K : Frag
  h₀ : Heap
  mg : Str → Option Value
  mb : Str → Option Value
  p : Program
  loose : List Str
  mean : ExcName → Option Value
  kin : K.In h₀
  top : Top p loose mean mg mb h₀
  sys : ∃ o, h₀.get? sysModules = some o
  tree : prog.given.tree = none
  seer : h₀.NoSeer

noncomputable def RepO (C : Cx) (h : Heap) (a : Addr) : AObj → Prop
  | .list xs => ∃ vs n, h.get? a = some (listOf vs.toArray n) ∧ RepL h vs xs
  | .inst Cl dx => h.get? a = some (instObj Cl dx)
  | .ns es => ∃ l n, h.get? a = some (dictOf l n) ∧ RepE h l es
  | .cell (some x) => ∃ v, h.IsCell a (some v) ∧ Rep h v x
  | .cell Option.none => h.IsCell a Option.none
  | .idict es => ∃ kvs, h.DictOf (intKind C.prog C.w) a kvs ∧ RepD h kvs es
  | .sdict es => ∃ kvs, h.DictOf (strKind C.prog C.w) a kvs ∧ RepD h kvs es
  | .raw o => h.get? a = some o
  | .rng x y z => ∃ t u v, IsRange h a x y z t u v


theorem RepO.at {C : Cx} {h h' : Heap} {a : Addr} {x : AObj} (r : RepO C h a x) (k : TupKeep h h') (e : ∀ o, h.get? a = some o → h'.get? a = some o) : RepO C h' a x := by
  cases x with
  | list xs => obtain ⟨vs, n, h1, h2⟩ := r; exact ⟨vs, n, e _ h1, h2.mono k⟩
  | inst Cl dx => exact e _ r
  | ns es => obtain ⟨l, n, h1, h2⟩ := r; exact ⟨l, n, e _ h1, h2.mono k⟩
  | cell v =>
    cases v with
    | none => obtain ⟨o, h1, h2⟩ := r; exact ⟨o, e _ h1, h2⟩
    | some x => obtain ⟨v, ⟨o, h1, h2⟩, h3⟩ := r; exact ⟨v, ⟨o, e _ h1, h2⟩, h3.mono k⟩
  | idict es => obtain ⟨kvs, h1, h3⟩ := r; exact ⟨kvs, h1.at e, h3.mono k⟩
  | sdict es => obtain ⟨kvs, h1, h3⟩ := r; exact ⟨kvs, h1.at e, h3.mono k⟩
  | raw o => exact e _ r
  | rng x y z => obtain ⟨t, u, v, q⟩ := r; exact ⟨t, u, v, e _ q⟩
theorem RepO.live {C : Cx} {h : Heap} {a : Addr} {x : AObj} (r : RepO C h a x) : ∃ o, h.get? a = some o := by
  cases x with
  | list xs => obtain ⟨vs, n, h1, h2⟩ := r; exact ⟨_, h1⟩
  | inst Cl dx => exact ⟨_, r⟩
  | ns es => obtain ⟨l, n, h1, h2⟩ := r; exact ⟨_, h1⟩
  | cell v =>
    cases v with
    | none => obtain ⟨o, h1, h2⟩ := r; exact ⟨_, h1⟩
    | some x => obtain ⟨v, ⟨o, h1, h2⟩, h3⟩ := r; exact ⟨_, h1⟩
  | idict es => obtain ⟨kvs, ⟨o, _, _, h1, _⟩, h3⟩ := r; exact ⟨_, h1⟩
  | sdict es => obtain ⟨kvs, ⟨o, _, _, h1, _⟩, h3⟩ := r; exact ⟨_, h1⟩
  | raw o => exact ⟨_, r⟩
  | rng x y z => obtain ⟨t, u, v, q⟩ := r; exact ⟨_, q⟩

noncomputable abbrev HKeep (h h' : Heap) : Prop := ∀ b o, h.get? b = some o → h'.get? b = some o
theorem HKeep.tup {h h' : Heap} (k : HKeep h h') : TupKeep h h' := fun a o _ _ e _ _ => k a o e
theorem HKeep.push (h : Heap) (o : Obj) : HKeep h (h.push o) := fun _ _ e => Heap.get?_push_of_some o e

noncomputable abbrev Store := Addr → Option AObj
noncomputable abbrev Loc := Str → Option V
noncomputable def Store.set (σ : Store) (a : Addr) (x : AObj) : Store := fun b => if b = a then some x else σ b
noncomputable def Store.del (σ : Store) (a : Addr) : Store := fun b => if b = a then Option.none else σ b
noncomputable def Loc.set (ρ : Loc) (n : Str) (x : V) : Loc := fun m => if m = n then some x else ρ m

structure Holds (C : Cx) (σ : Store) (h : Heap) : Prop where
  base : ∀ b o, C.h₀.get? b = some o → h.get? b = some o
  obj : ∀ a x, σ a = some x → RepO C h a x
  new : ∀ a x, σ a = some x → C.h₀.get? a = Option.none

structure Frm (C : Cx) (σ : Store) (h : Heap) (L : Addr) (ρ : Loc) : Prop where
  ns : ∃ m, h.Ns L m ∧ ∀ x X, ρ x = some X → ∃ v, m x = some v ∧ Rep h v X
  off : σ L = Option.none
  new : C.h₀.get? L = Option.none

structure Go (σ : Store) (F : Addr → Prop) (h : Heap) (σ' : Store) (h' : Heap) : Prop where
  keep : ∀ a o, h.get? a = some o → σ a = Option.none → ¬ F a → h'.get? a = some o
  tup : TupKeep h h'
  live : ∀ a o, h.get? a = some o → ∃ o', h'.get? a = some o'
  dom : ∀ a, σ' a ≠ Option.none → σ a ≠ Option.none ∨ h.get? a = Option.none

theorem Go.refl (σ : Store) (F : Addr → Prop) (h : Heap) : Go σ F h σ h := ⟨fun _ _ e _ _ => e, fun _ _ _ _ e _ _ => e, fun _ o e => ⟨o, e⟩, fun _ e => .inl e⟩
theorem Go.trans {σ σ₁ σ₂ : Store} {F : Addr → Prop} {h h₁ h₂ : Heap} (g : Go σ F h σ₁ h₁) (k : Go σ₁ F h₁ σ₂ h₂) : Go σ F h σ₂ h₂ where
  keep := fun a o e n f => k.keep a o (g.keep a o e n f) (by
    cases q : σ₁ a with
    | none => rfl
    | some x => rcases g.dom a (by rw [q]; simp) with z | z
                · exact absurd n z
                · rw [e] at z; cases z) f
  tup := fun a o i n e c d => k.tup a o i n (g.tup a o i n e c d) c d
  live := fun a o e => by obtain ⟨o', e'⟩ := g.live a o e; exact k.live a o' e'
  dom := fun a e => by
    rcases k.dom a e with z | z
    · exact g.dom a z
    · right
      cases q : h.get? a with
      | none => rfl
      | some o => obtain ⟨o', e'⟩ := g.live a o q; rw [e'] at z; cases z

theorem Go.wider {σ σ' : Store} {F F' : Addr → Prop} {h h' : Heap} (g : Go σ F h σ' h') (k : ∀ a, F a → F' a) : Go σ F' h σ' h' :=
  ⟨fun a o e n f => g.keep a o e n (fun x => f (k a x)), g.tup, g.live, g.dom⟩
theorem Go.of_keep {σ : Store} {F : Addr → Prop} {h h' : Heap} (k : HKeep h h') : Go σ F h σ h' := ⟨fun a o e _ _ => k a o e, k.tup, fun a o e => ⟨o, k a o e⟩, fun _ e => .inl e⟩
theorem Go.sub {σ σ₁ σ₂ : Store} {F : Addr → Prop} {h h₁ : Heap} (g : Go σ F h σ₁ h₁) (k : ∀ a, σ₂ a ≠ Option.none → σ₁ a ≠ Option.none) : Go σ F h σ₂ h₁ := ⟨g.keep, g.tup, g.live, fun a e => g.dom a (k a e)⟩
theorem Go.alloc {σ : Store} {F : Addr → Prop} {h h' : Heap} {a : Addr} {x : AObj} (k : HKeep h h') (n : h.get? a = Option.none) : Go σ F h (σ.set a x) h' :=
  ⟨fun b o e _ _ => k b o e, k.tup, fun b o e => ⟨o, k b o e⟩, fun b e => by
    by_cases q : b = a
    · exact .inr (q ▸ n)
    · left; simpa [Store.set, q] using e⟩
theorem Go.upd {σ : Store} {F : Addr → Prop} {h h' : Heap} {a : Addr} {x : AObj} {o₀ o₁ : Obj} (hs : Heap.SameBut a h h') (h0 : h.get? a = some o₀) (h1 : h'.get? a = some o₁) (hn : σ a ≠ Option.none)
    (ht : o₀.cls = .type "tuple" → ∀ i n, o₀.data ≠ .seq i n) : Go σ F h (σ.set a x) h' where
  keep := fun b o e n _ => (hs.2 b (fun q => hn (q ▸ n))).trans e
  tup := fun b o i n e c d => by
    by_cases q : b = a
    · subst q; rw [h0] at e; cases e; exact absurd d (ht c i n)
    · exact (hs.2 b q).trans e
  live := fun b o e => by
    by_cases q : b = a
    · exact ⟨o₁, q ▸ h1⟩
    · exact ⟨o, (hs.2 b q).trans e⟩
  dom := fun b e => by
    by_cases q : b = a
    · exact .inl (q ▸ hn)
    · left; simpa [Store.set, q] using e
theorem Go.priv {σ : Store} {F : Addr → Prop} {h h' : Heap} {a : Addr} {o₀ o₁ : Obj} (hs : Heap.SameBut a h h') (h0 : h.get? a = some o₀) (h1 : h'.get? a = some o₁) (hf : F a)
    (ht : o₀.cls = .type "tuple" → ∀ i n, o₀.data ≠ .seq i n) : Go σ F h σ h' where
  keep := fun b o e _ f => (hs.2 b (fun q => f (q ▸ hf))).trans e
  tup := fun b o i n e c d => by
    by_cases q : b = a
    · subst q; rw [h0] at e; cases e; exact absurd d (ht c i n)
    · exact (hs.2 b q).trans e
  live := fun b o e => by
    by_cases q : b = a
    · exact ⟨o₁, q ▸ h1⟩
    · exact ⟨o, (hs.2 b q).trans e⟩
  dom := fun b e => .inl e

section
variable {C : Cx} {σ σ' : Store} {h h' : Heap} {ρ : Loc} {L : Addr}
theorem Holds.keeps (H : Holds C σ h) (k : HKeep h h') : Holds C σ h' := ⟨fun b o e => k b o (H.base b o e), fun a x e => (H.obj a x e).at k.tup (k a), H.new⟩
theorem Holds.sub (H : Holds C σ h) (k : ∀ a x, σ' a = some x → σ a = some x) : Holds C σ' h := ⟨H.base, fun a x e => H.obj a x (k a x e), fun a x e => H.new a x (k a x e)⟩
theorem Holds.alloc {a : Addr} {x : AObj} (H : Holds C σ h) (k : HKeep h h') (n : h.get? a = Option.none) (r : RepO C h' a x) : Holds C (σ.set a x) h' where
  base := fun b o e => k b o (H.base b o e)
  obj := fun b y e => by
    by_cases q : b = a
    · subst q; simp only [Store.set, if_true] at e; cases e; exact r
    · simp only [Store.set, if_neg q] at e; exact (H.obj b y e).at k.tup (k b)
  new := fun b y e => by
    by_cases q : b = a
    · subst q
      cases z : C.h₀.get? b with
      | none => rfl
      | some o => rw [H.base b o z] at n; cases n
    · simp only [Store.set, if_neg q] at e; exact H.new b y e
theorem Holds.upd {a : Addr} {x : AObj} (H : Holds C σ h) (hn : σ a ≠ Option.none) (hs : Heap.SameBut a h h') (t : TupKeep h h') (r : RepO C h' a x) : Holds C (σ.set a x) h' where
  base := fun b o e => by
    obtain ⟨y, hy⟩ := Option.ne_none_iff_exists'.mp hn
    have : b ≠ a := fun q => by rw [q, H.new a y hy] at e; cases e
    exact (hs.2 b this).trans (H.base b o e)
  obj := fun b y e => by
    by_cases q : b = a
    · subst q; simp only [Store.set, if_true] at e; cases e; exact r
    · simp only [Store.set, if_neg q] at e; exact (H.obj b y e).at t (fun o z => (hs.2 b q).trans z)
  new := fun b y e => by
    by_cases q : b = a
    · subst q
      obtain ⟨y, hy⟩ := Option.ne_none_iff_exists'.mp hn
      exact H.new _ y hy
    · simp only [Store.set, if_neg q] at e; exact H.new b y e
theorem Holds.off_new (H : Holds C σ h) {a : Addr} (n : h.get? a = Option.none) : σ a = Option.none := by
  cases z : σ a with
  | none => rfl
  | some x => obtain ⟨o, e⟩ := (H.obj a x z).live; rw [e] at n; cases n
theorem Holds.base_new (H : Holds C σ h) {a : Addr} (n : h.get? a = Option.none) : C.h₀.get? a = Option.none := by
  cases z : C.h₀.get? a with
  | none => rfl
  | some o => rw [H.base a o z] at n; cases n
theorem Holds.notSys (H : Holds C σ h) {a : Addr} {x : AObj} (e : σ a = some x) : (a == sysModules) = false := by
  obtain ⟨o, ho⟩ := C.sys
  cases q : a == sysModules with
  | false => rfl
  | true => rw [beq_iff_eq] at q; have := H.new a x e; rw [q, ho] at this; cases this
theorem heap_new (h : Heap) : h.get? h.objs.size = Option.none := Heap.get?_none_of_le (Nat.le_refl _)

theorem Frm.go (F : Frm C σ h L ρ) (g : Go σ (fun _ => False) h σ' h') : Frm C σ' h' L ρ := by
  obtain ⟨⟨m, hm, hr⟩, off, ab⟩ := F
  obtain ⟨o, es, ep, ho, r⟩ := hm
  refine ⟨⟨m, ⟨o, es, ep, g.keep L o ho off (fun f => f), r⟩, fun x X e => ?_⟩, ?_, ab⟩
  · obtain ⟨v, a, b⟩ := hr x X e; exact ⟨v, a, b.mono g.tup⟩
  · cases z : σ' L with
    | none => rfl
    | some y =>
      rcases g.dom L (by rw [z]; simp) with q | q
      · exact absurd off q
      · rw [ho] at q; cases q
theorem Frm.other {L' : Addr} (F : Frm C σ h L ρ) (n : L ≠ L') (g : Go σ (· = L') h σ' h') : Frm C σ' h' L ρ := by
  obtain ⟨⟨m, hm, hr⟩, off, ab⟩ := F
  obtain ⟨o, es, ep, ho, r⟩ := hm
  refine ⟨⟨m, ⟨o, es, ep, g.keep L o ho off n, r⟩, fun x X e => ?_⟩, ?_, ab⟩
  · obtain ⟨v, a, b⟩ := hr x X e; exact ⟨v, a, b.mono g.tup⟩
  · cases z : σ' L with
    | none => rfl
    | some y =>
      rcases g.dom L (by rw [z]; simp) with q | q
      · exact absurd off q
      · rw [ho] at q; cases q
theorem Frm.sub (F : Frm C σ h L ρ) (n : σ' L = Option.none) : Frm C σ' h L ρ := ⟨F.ns, n, F.new⟩
end

structure PlainEnv (e : Env) : Prop where
  gen : e.scope.isGenerator = false
  co : e.scope.isCoroutine = false
  bn : e.builtins = builtinsNs
  gl : e.globals = mainGlobals
structure Room (A : Around) (n : Nat) : Prop where
  handled : A.handled = Option.none
  depth : A.depth + 2 * n < recursionLimit
  units : A.units + 10 * n + 300 < cLine
  top : ∃ e l, A.frames = some (e :: l) ∧ PlainEnv e

section
variable (C : Cx) (n : Nat)

noncomputable def TE (env : Env) (ρ : Loc) (σ : Store) (e : Expr) (Φ : V → Store → Prop) : Prop :=
  ∀ (A : Around) (s : Shared) (Q : Value → Shared → Prop) (E : Value → Shared → Prop), Room A n → Holds C σ s.heap → Frm C σ s.heap env.locals ρ →
    (∀ r R σ' h' tk', Rep h' r R → Holds C σ' h' → Frm C σ' h' env.locals ρ → Go σ (· = env.locals) s.heap σ' h' → Φ R σ' → Q r { s with heap := h', toks := tk' }) →
    wpAny (model C.prog C.w) A (eval e env) Q E s
noncomputable def TB (env : Env) (ρ : Loc) (σ : Store) (e : Expr) (Φ : Bool → Store → Prop) : Prop :=
  ∀ (A : Around) (s : Shared) (Q : Bool → Shared → Prop) (E : Value → Shared → Prop), Room A n → Holds C σ s.heap → Frm C σ s.heap env.locals ρ →
    (∀ b σ' h' tk', Holds C σ' h' → Frm C σ' h' env.locals ρ → Go σ (· = env.locals) s.heap σ' h' → Φ b σ' → Q b { s with heap := h', toks := tk' }) →
    wpAny (model C.prog C.w) A (isTrue e env (eval e env)) Q E s
noncomputable def TL (env : Env) (ρ : Loc) (σ : Store) (pos : Pos) (es : List Expr) (Φ : List V → Store → Prop) : Prop :=
  ∀ (A : Around) (s : Shared) (Q : List Value → Shared → Prop) (E : Value → Shared → Prop), Room A n → Holds C σ s.heap → Frm C σ s.heap env.locals ρ →
    (∀ r R σ' h' tk', RepL h' r R → Holds C σ' h' → Frm C σ' h' env.locals ρ → Go σ (· = env.locals) s.heap σ' h' → Φ R σ' → Q r { s with heap := h', toks := tk' }) →
    wpAny (model C.prog C.w) A (spliced (backTo pos (starEach es env))) Q E s
noncomputable def TC (σ : Store) (f : V) (Xs : List V) (Φ : V → Store → Prop) : Prop :=
  ∀ (A : Around) (s : Shared) (fv : Value) (vs : List Value) (Q : Value → Shared → Prop) (E : Value → Shared → Prop), Room A n → Holds C σ s.heap → Rep s.heap fv f → RepL s.heap vs Xs →
    (∀ r R σ' h' tk', Rep h' r R → Holds C σ' h' → Go σ (fun _ => False) s.heap σ' h' → Φ R σ' → Q r { s with heap := h', toks := tk' }) →
    wpAny (model C.prog C.w) A (call fv vs) Q E s

inductive Fl where
  | next | brk | cont
  | ret (v : V)
inductive RepF (h : Heap) : Flow → Fl → Prop
  | next : RepF h .next .next
  | brk : RepF h .brk .brk
  | cont : RepF h .cont .cont
  | ret {v x} : Rep h v x → RepF h (.ret v) (.ret x)
noncomputable def TS (env : Env) (ρ : Loc) (σ : Store) (st : Stmt) (Φ : Fl → Loc → Store → Prop) : Prop :=
  ∀ (A : Around) (s : Shared) (Q : Flow → Shared → Prop) (E : Value → Shared → Prop), Room A n → Holds C σ s.heap → Frm C σ s.heap env.locals ρ →
    (∀ f F ρ' σ' h' tk', RepF h' f F → Holds C σ' h' → Frm C σ' h' env.locals ρ' → Go σ (· = env.locals) s.heap σ' h' → Φ F ρ' σ' → Q f { s with heap := h', toks := tk' }) →
    wpAny (model C.prog C.w) A (exec st env) Q E s
noncomputable def TSS (env : Env) (ρ : Loc) (σ : Store) (st : List Stmt) (Φ : Fl → Loc → Store → Prop) : Prop :=
  ∀ (A : Around) (s : Shared) (Q : Flow → Shared → Prop) (E : Value → Shared → Prop), Room A n → Holds C σ s.heap → Frm C σ s.heap env.locals ρ →
    (∀ f F ρ' σ' h' tk', RepF h' f F → Holds C σ' h' → Frm C σ' h' env.locals ρ' → Go σ (· = env.locals) s.heap σ' h' → Φ F ρ' σ' → Q f { s with heap := h', toks := tk' }) →
    wpAny (model C.prog C.w) A (execs st env) Q E s
noncomputable def TA (env : Env) (ρ : Loc) (σ : Store) (t : Expr) (X : V) (Φ : Loc → Store → Prop) : Prop :=
  ∀ (A : Around) (s : Shared) (v : Value) (Q : Unit → Shared → Prop) (E : Value → Shared → Prop), Room A n → Holds C σ s.heap → Frm C σ s.heap env.locals ρ → Rep s.heap v X →
    (∀ ρ' σ' h' tk', Holds C σ' h' → Frm C σ' h' env.locals ρ' → Go σ (· = env.locals) s.heap σ' h' → Φ ρ' σ' → Q () { s with heap := h', toks := tk' }) →
    wpAny (model C.prog C.w) A (assign t env v) Q E s
end

section
variable {C : Cx} {n : Nat} {env : Env} {ρ : Loc} {σ : Store}

theorem TE.mono {e : Expr} {Φ Ψ : V → Store → Prop} (h : TE C n env ρ σ e Φ) (k : ∀ R σ', Φ R σ' → Ψ R σ') : TE C n env ρ σ e Ψ :=
  fun A s Q E r H F q => h A s Q E r H F fun a R σ' h' tk' x H' F' G p => q a R σ' h' tk' x H' F' G (k _ _ p)
theorem Holds.kin {h : Heap} (H : Holds C σ h) : C.K.In h := C.kin.keeps H.base

theorem TE_local {x : Str} {pos : Pos} {X : V} {Φ : V → Store → Prop} (hk : env.scope.kind = .function) (hl : env.kindOf x = some .local) (hx : ρ x = some X) (h : Φ X σ)
    (hd : (x == ("__debug__" : Str)) = false := by decide) : TE C n env ρ σ (.Name x pos) Φ := by
  intro A s Q E _ H F q
  obtain ⟨m, hm, hr⟩ := F.ns
  obtain ⟨v, hv, hR⟩ := hr _ _ hx
  exact wpAny_Name (wpAny_loadName_local hk hl hm hv (q v X σ s.heap s.toks hR H F (.refl ..) h)) hd

theorem TE_int {i : Int} {k : Nat} {pos : Pos} {Φ : V → Store → Prop} (h : Φ (.int i) σ) : TE C n env ρ σ (.Constant (.int i) k pos) Φ := by
  intro A s Q E _ H F q
  exact wpAny_Constant_int (q _ _ σ s.heap _ (.int i _) H F (.refl ..) h)

theorem TC_1 {F X : V} {f : Value} {Φ : V → Store → Prop} (hf : ∀ {h v}, Rep h v F → v = f)
    (k : ∀ (A : Around) (s : Shared) (v : Value) (Q : Value → Shared → Prop) (E : Value → Shared → Prop), Room A n → Holds C σ s.heap → Rep s.heap v X →
      (∀ r R σ' h' tk', Rep h' r R → Holds C σ' h' → Go σ (fun _ => False) s.heap σ' h' → Φ R σ' → Q r { s with heap := h', toks := tk' }) → wpAny (model C.prog C.w) A (call f [v]) Q E s) : TC C n σ F [X] Φ :=
  fun A s fv vs Q E R H rf rX q => hf rf ▸ rX.one fun v r => k A s v Q E R H r q
theorem TC_2 {F X Y : V} {f : Value} {Φ : V → Store → Prop} (hf : ∀ {h v}, Rep h v F → v = f)
    (k : ∀ (A : Around) (s : Shared) (v w : Value) (Q : Value → Shared → Prop) (E : Value → Shared → Prop), Room A n → Holds C σ s.heap → Rep s.heap v X → Rep s.heap w Y →
      (∀ r R σ' h' tk', Rep h' r R → Holds C σ' h' → Go σ (fun _ => False) s.heap σ' h' → Φ R σ' → Q r { s with heap := h', toks := tk' }) → wpAny (model C.prog C.w) A (call f [v, w]) Q E s) : TC C n σ F [X, Y] Φ :=
  fun A s fv vs Q E R H rf rX q => hf rf ▸ rX.two fun v w r r' => k A s v w Q E R H r r' q
end
end
section
open PySem PySem.W PySem.Calls PyProof.Rows PySem.Spec
section
variable (C : Cx) (n : Nat)
noncomputable def TO2 (σ : Store) (op : Value → Value → Sem Value) (X Y : V) (Φ : V → Store → Prop) : Prop :=
  ∀ (A : Around) (s : Shared) (a b : Value) (Q : Value → Shared → Prop) (E : Value → Shared → Prop), Room A n → Holds C σ s.heap → Rep s.heap a X → Rep s.heap b Y →
    (∀ r R σ' h' tk', Rep h' r R → Holds C σ' h' → Go σ (fun _ => False) s.heap σ' h' → Φ R σ' → Q r { s with heap := h', toks := tk' }) →
    wpAny (model C.prog C.w) A (op a b) Q E s
noncomputable def TT (σ : Store) (X : V) (Φ : Bool → Store → Prop) : Prop :=
  ∀ (A : Around) (s : Shared) (a : Value) (Q : Bool → Shared → Prop) (E : Value → Shared → Prop), Room A n → Holds C σ s.heap → Rep s.heap a X →
    (∀ b σ' h' tk', Holds C σ' h' → Go σ (fun _ => False) s.heap σ' h' → Φ b σ' → Q b { s with heap := h', toks := tk' }) →
    wpAny (model C.prog C.w) A (truthy a) Q E s
end

section
variable {C : Cx} {n : Nat} {env : Env} {ρ : Loc} {σ : Store}

theorem frm_go {h h' : Heap} {σ' : Store} {L : Addr} (F : Frm C σ h L ρ) (G : Go σ (fun _ => False) h σ' h') : Go σ (· = L) h σ' h' := G.wider fun _ f => f.elim

theorem TE_bin {l r : Expr} {op : Operator} {pos : Pos} {Φ : V → Store → Prop} (h : TE C n env ρ σ l fun X σ₁ => TE C n env ρ σ₁ r fun Y σ₂ => TO2 C n σ₂ (binaryOp op) X Y Φ) :
    TE C n env ρ σ (.BinOp l op r pos) Φ := by
  intro A s Q E R H F q
  refine wpAny_BinOp (h A s _ E R H F fun v X σ₁ h₁ tk₁ r₁ H₁ F₁ G₁ p₁ => ?_)
  refine p₁ A _ _ E R H₁ F₁ fun v₂ X₂ σ₂ h₂ tk₂ r₂ H₂ F₂ G₂ p₂ => ?_
  exact p₂ A _ _ _ _ E R H₂ (r₁.mono G₂.tup) r₂ fun r R' σ₃ h₃ tk₃ r₃ H₃ G₃ p₃ => q _ _ σ₃ h₃ tk₃ r₃ H₃ (F₂.go G₃) ((G₁.trans G₂).trans (frm_go F₂ G₃)) p₃
theorem TE_cmp {l r : Expr} {op : CmpOp} {pos : Pos} {Φ : V → Store → Prop} (h : TE C n env ρ σ l fun X σ₁ => TE C n env ρ σ₁ r fun Y σ₂ => TO2 C n σ₂ (compareOp op) X Y Φ)
    (hm : behindInMarks op r = false := by with_unfolding_all rfl) : TE C n env ρ σ (.Compare l [op] [r] pos) Φ := by
  intro A s Q E R H F q
  refine wpAny_Compare1 (h A s _ E R H F fun v X σ₁ h₁ tk₁ r₁ H₁ F₁ G₁ p₁ => ?_) hm
  refine p₁ A _ _ E R H₁ F₁ fun v₂ X₂ σ₂ h₂ tk₂ r₂ H₂ F₂ G₂ p₂ => ?_
  exact p₂ A _ _ _ _ E R H₂ (r₁.mono G₂.tup) r₂ fun r R' σ₃ h₃ tk₃ r₃ H₃ G₃ p₃ => q _ _ σ₃ h₃ tk₃ r₃ H₃ (F₂.go G₃) ((G₁.trans G₂).trans (frm_go F₂ G₃)) p₃
theorem TB_cmp {l r : Expr} {op : CmpOp} {pos : Pos} {Φ : Bool → Store → Prop} (h : TE C n env ρ σ l fun X σ₁ => TE C n env ρ σ₁ r fun Y σ₂ => TO2 C n σ₂ (compareOp op) X Y fun Z σ₃ => ∃ b, Z = .bool b ∧ Φ b σ₃)
    (hm : behindInMarks op r = false := by with_unfolding_all rfl) : TB C n env ρ σ (.Compare l [op] [r] pos) Φ := by
  intro A s Q E R H F q
  refine wpAny_isTrue_Compare1 (h A s _ E R H F fun v X σ₁ h₁ tk₁ r₁ H₁ F₁ G₁ p₁ => ?_) hm
  refine p₁ A _ _ E R H₁ F₁ fun v₂ X₂ σ₂ h₂ tk₂ r₂ H₂ F₂ G₂ p₂ => ?_
  refine p₂ A _ _ _ _ E R H₂ (r₁.mono G₂.tup) r₂ fun r R' σ₃ h₃ tk₃ r₃ H₃ G₃ p₃ => ?_
  obtain ⟨b, rfl, p⟩ := p₃
  refine r₃.bool_elim ?_
  exact wpAny_truthy_bool (q _ σ₃ h₃ tk₃ H₃ (F₂.go G₃) ((G₁.trans G₂).trans (frm_go F₂ G₃)) p)
theorem TB_chain {l r₁ r₂ : Expr} {o₁ o₂ : CmpOp} {pos : Pos} {Φ : Bool → Store → Prop}
    (h : TE C n env ρ σ l fun X σ₁ => TE C n env ρ σ₁ r₁ fun Y σ₂ => TO2 C n σ₂ (compareOp o₁) X Y fun Z σ₃ => ∃ b, Z = .bool b ∧
      (if b = true then TE C n env ρ σ₃ r₂ fun W σ₄ => TO2 C n σ₄ (compareOp o₂) Y W fun Z' σ₅ => ∃ b', Z' = .bool b' ∧ Φ b' σ₅ else Φ false σ₃))
    (hm : lastMarks [o₁, o₂] [r₁, r₂] = false := by with_unfolding_all rfl) : TB C n env ρ σ (.Compare l [o₁, o₂] [r₁, r₂] pos) Φ := by
  intro A s Q E R H F q
  refine isTrue_chain (h A s _ E R H F fun v X σ₁ h₁ tk₁ r₁ H₁ F₁ G₁ p₁ => ?_) hm
  refine test_link (p₁ A _ _ E R H₁ F₁ fun v₂ X₂ σ₂ h₂ tk₂ r₂ H₂ F₂ G₂ p₂ => ?_)
  refine p₂ A _ _ _ _ E R H₂ (r₁.mono G₂.tup) r₂ fun r R' σ₃ h₃ tk₃ r₃ H₃ G₃ p₃ => ?_
  obtain ⟨b, rfl, p⟩ := p₃
  refine r₃.bool_elim ?_
  refine wpAny_truthy_bool ?_
  cases b with
  | false => exact q _ σ₃ h₃ _ H₃ (F₂.go G₃) ((G₁.trans G₂).trans (frm_go F₂ G₃)) p
  | true =>
    simp only [if_true] at p
    refine test_last (p A _ _ E R H₃ (F₂.go G₃) fun v₄ X₄ σ₄ h₄ tk₄ r₄ H₄ F₄ G₄ p₄ => ?_)
    refine p₄ A _ _ _ _ E R H₄ ((r₂.mono G₃.tup).mono G₄.tup) r₄ fun r R' σ₅ h₅ tk₅ r₅ H₅ G₅ p₅ => ?_
    obtain ⟨b, rfl, p⟩ := p₅
    refine r₅.bool_elim ?_
    exact wpAny_truthy_bool (q _ σ₅ h₅ _ H₅ (F₄.go G₅) ((((G₁.trans G₂).trans (frm_go F₂ G₃)).trans G₄).trans (frm_go F₄ G₅)) p)

theorem TB_not {x : Expr} {pos : Pos} {Φ : Bool → Store → Prop} (h : TB C n env ρ σ x fun b σ' => Φ (!b) σ') : TB C n env ρ σ (.UnaryOp .Not x pos) Φ :=
  fun A s Q E R H F q => isTrue_not (h A s _ E R H F fun b σ' h' tk' H' F' G' p => q _ σ' h' tk' H' F' G' p)
theorem TB_and_nil {pos : Pos} {Φ : Bool → Store → Prop} (h : Φ true σ) : TB C n env ρ σ (.BoolOp .And [] pos) Φ :=
  fun A s Q E R H F q => isTrue_and_nil (q _ σ _ _ H F (.refl ..) h)
theorem TB_or_nil {pos : Pos} {Φ : Bool → Store → Prop} (h : Φ false σ) : TB C n env ρ σ (.BoolOp .Or [] pos) Φ :=
  fun A s Q E R H F q => isTrue_or_nil (q _ σ _ _ H F (.refl ..) h)
theorem TB_and {x : Expr} {rest : List Expr} {pos : Pos} {Φ : Bool → Store → Prop} (h : TB C n env ρ σ x fun b σ' => if b = true then TB C n env ρ σ' (.BoolOp .And rest pos) Φ else Φ false σ') : TB C n env ρ σ (.BoolOp .And (x :: rest) pos) Φ := by
  intro A s Q E R H F q
  refine isTrue_and (h A s _ E R H F fun b σ' h' tk' H' F' G' p => ?_)
  cases b with
  | false => exact q _ σ' h' tk' H' F' G' p
  | true => exact p A _ _ E R H' F' fun b σ'' h'' tk'' H'' F'' G'' p' => q _ σ'' h'' tk'' H'' F'' (G'.trans G'') p'
theorem TB_or {x : Expr} {rest : List Expr} {pos : Pos} {Φ : Bool → Store → Prop} (h : TB C n env ρ σ x fun b σ' => if b = true then Φ true σ' else TB C n env ρ σ' (.BoolOp .Or rest pos) Φ) : TB C n env ρ σ (.BoolOp .Or (x :: rest) pos) Φ := by
  intro A s Q E R H F q
  refine isTrue_or (h A s _ E R H F fun b σ' h' tk' H' F' G' p => ?_)
  cases b with
  | true => exact q _ σ' h' tk' H' F' G' p
  | false => exact p A _ _ E R H' F' fun b σ'' h'' tk'' H'' F'' G'' p' => q _ σ'' h'' tk'' H'' F'' (G'.trans G'') p'
theorem TB_val {e : Expr} {Φ : Bool → Store → Prop} (h : TE C n env ρ σ e fun X σ₁ => TT C n σ₁ X Φ)
    (he : isTrue e env (eval e env) = (do let v ← eval e env; standAt e.pos; holding [v] (truthy v)) := by rfl) : TB C n env ρ σ e Φ := by
  intro A s Q E R H F q
  refine isTrue_plain (h A s _ E R H F fun v X σ₁ h₁ tk₁ r₁ H₁ F₁ G₁ p₁ => ?_) he
  exact p₁ A _ _ _ E R H₁ r₁ fun b σ' h' tk' H' G' p => q b σ' h' tk' H' (F₁.go G') (G₁.trans (frm_go F₁ G')) p
theorem TE_ifexp {t b o : Expr} {pos : Pos} {Φ : V → Store → Prop} (h : TB C n env ρ σ t fun c σ₁ => if c = true then TE C n env ρ σ₁ b Φ else TE C n env ρ σ₁ o Φ) : TE C n env ρ σ (.IfExp t b o pos) Φ := by
  intro A s Q E R H F q
  refine IfExp_ (h A s _ E R H F fun c σ₁ h₁ tk₁ H₁ F₁ G₁ p₁ => ?_)
  cases c <;> exact p₁ A _ _ E R H₁ F₁ fun r R' σ' h' tk' r' H' F' G' p => q r R' σ' h' tk' r' H' F' (G₁.trans G') p
theorem TE_not {x : Expr} {pos : Pos} {Φ : V → Store → Prop} (h : TE C n env ρ σ x fun X σ₁ => TT C n σ₁ X fun b σ₂ => Φ (.bool (!b)) σ₂) : TE C n env ρ σ (.UnaryOp .Not x pos) Φ := by
  intro A s Q E R H F q
  refine UnaryOp_ (h A s _ E R H F fun v X σ₁ h₁ tk₁ r₁ H₁ F₁ G₁ p₁ => not_of ?_)
  exact p₁ A _ _ _ E R H₁ r₁ fun b σ' h' tk' H' G' p => q _ _ σ' h' tk' (.bool _) H' (F₁.go G') (G₁.trans (frm_go F₁ G')) p
theorem TE_neg {x : Expr} {pos : Pos} {Φ : V → Store → Prop} (h : TE C n env ρ σ x fun X σ₁ => ∃ i, X = .int i ∧ Φ (.int (-i)) σ₁) : TE C n env ρ σ (.UnaryOp .USub x pos) Φ := by
  intro A s Q E R H F q
  refine UnaryOp_ (h A s _ E R H F fun v X σ₁ h₁ tk₁ r₁ H₁ F₁ G₁ p₁ => ?_)
  obtain ⟨i, rfl, p⟩ := p₁
  refine r₁.int_elim fun _ => ?_
  exact PySem.P.neg_int (q _ _ σ₁ h₁ _ (.int _ _) H₁ F₁ G₁ p)

theorem TE_str {x : Str} {k : Nat} {pos : Pos} {Φ : V → Store → Prop} (h : Φ (.str x) σ) : TE C n env ρ σ (.Constant (.str x) k pos) Φ :=
  fun A s Q E _ H F q => wpAny_Constant_str (q _ _ σ s.heap _ (.str x _) H F (.refl ..) h)
theorem TE_bool {b : Bool} {k : Nat} {pos : Pos} {Φ : V → Store → Prop} (h : Φ (.bool b) σ) : TE C n env ρ σ (.Constant (.bool b) k pos) Φ :=
  fun A s Q E _ H F q => wpAny_Constant_bool (q _ _ σ s.heap s.toks (.bool b) H F (.refl ..) h)
theorem TE_none {k : Nat} {pos : Pos} {Φ : V → Store → Prop} (h : Φ .none σ) : TE C n env ρ σ (.Constant .none k pos) Φ :=
  fun A s Q E _ H F q => wpAny_Constant_none (q _ _ σ s.heap s.toks .none H F (.refl ..) h)

theorem TL_nil {pos : Pos} {Φ : List V → Store → Prop} (h : Φ [] σ) : TL C n env ρ σ pos [] Φ :=
  fun A s Q E _ H F q => wpAny_items_nil (q _ _ σ s.heap s.toks .nil H F (.refl ..) h)
theorem TL_cons {pos : Pos} {e : Expr} {es : List Expr} {Φ : List V → Store → Prop} (h : TE C n env ρ σ e fun X σ₁ => TL C n env ρ σ₁ pos es fun Xs σ₂ => Φ (X :: Xs) σ₂)
    (he : starEach (e :: es) env = (false, eval e env) :: starEach es env := by rfl) : TL C n env ρ σ pos (e :: es) Φ := by
  intro A s Q E R H F q
  refine spliced_more (h A s _ E R H F fun v X σ₁ h₁ tk₁ r₁ H₁ F₁ G₁ p₁ => ?_) he
  exact p₁ A _ _ E R H₁ F₁ fun vs Xs σ₂ h₂ tk₂ r₂ H₂ F₂ G₂ p₂ => q _ _ σ₂ h₂ tk₂ (.cons (r₁.mono G₂.tup) r₂) H₂ F₂ (G₁.trans G₂) p₂
theorem isTup_new (h : Heap) (vs : List Value) : IsTup (h.push { cls := .type "tuple", data := .seq vs.toArray }) h.objs.size vs.toArray := IsTup.new h _
theorem sizeLine_big : 100000 ≤ sizeLine := by decide
theorem rep_newTuple {vs : List Value} {Xs : List V} {h : Heap} (r : RepL h vs Xs) : Rep (h.push { cls := .type "tuple", data := .seq vs.toArray }) (.ref h.objs.size) (.tuple Xs) :=
  .tuple (isTup_new h vs) (r.mono (HKeep.push h _).tup)
theorem TE_tuple {elts : List Expr} {k : Nat} {pos : Pos} {Φ : V → Store → Prop} (h : TL C n env ρ σ pos elts fun Xs σ₁ => Xs.length ≤ 100000 ∧ Φ (.tuple Xs) σ₁) : TE C n env ρ σ (.Tuple elts k pos) Φ := by
  intro A s Q E R H F q
  refine Tuple_ (h A s _ E R H F fun vs Xs σ₁ h₁ tk₁ r₁ H₁ F₁ G₁ p₁ => ?_)
  have k := HKeep.push h₁ { cls := .type "tuple", data := .seq vs.toArray }
  have z : vs.toArray.size ≤ sizeLine := by rw [List.size_toArray, r₁.length]; exact Nat.le_trans p₁.1 sizeLine_big
  have G := Go.of_keep (σ := σ₁) (F := fun _ => False) k
  exact wpAny_newObj_type (q _ _ σ₁ _ tk₁ (rep_newTuple r₁) (H₁.keeps k) (F₁.go G) (G₁.trans (frm_go F₁ G)) p₁.2) z
theorem TE_list {elts : List Expr} {pos : Pos} {Φ : V → Store → Prop} (h : TL C n env ρ σ pos elts fun Xs σ₁ => Xs.length ≤ 100000 ∧ ∀ a, σ₁ a = none → a ≠ env.locals → Φ (.ref a) (σ₁.set a (.list Xs))) : TE C n env ρ σ (.List elts pos) Φ := by
  intro A s Q E R H F q
  refine List_ (h A s _ E R H F fun vs Xs σ₁ h₁ tk₁ r₁ H₁ F₁ G₁ p₁ => ?_)
  have k := HKeep.push h₁ { cls := .type "list", data := .seq vs.toArray }
  have z : vs.toArray.size ≤ sizeLine := by rw [List.size_toArray, r₁.length]; exact Nat.le_trans p₁.1 sizeLine_big
  have nw := heap_new h₁
  have ne : h₁.objs.size ≠ env.locals := fun e => by
    obtain ⟨⟨m, hm, _⟩, _⟩ := F₁
    have hl := hm.lt
    rw [← e] at hl
    exact Nat.lt_irrefl _ hl
  have G := Go.alloc (σ := σ₁) (F := fun _ => False) (x := .list Xs) k nw
  have Hn := H₁.alloc (x := .list Xs) k nw ⟨vs, 0, Heap.get?_push_size _ rfl, r₁.mono k.tup⟩
  exact wpAny_newObj_type (q _ _ _ _ tk₁ (.ref _) Hn (F₁.go G) (G₁.trans (frm_go F₁ G)) (p₁.2 _ (H₁.off_new nw) ne)) z

theorem O_add {a b : Int} {Φ : V → Store → Prop} (h : Φ (.int (a + b)) σ) : TO2 C n σ (binaryOp .Add) (.int a) (.int b) Φ := by
  intro A s x y Q E R H rx ry q; refine rx.int_elim fun _ => ?_; refine ry.int_elim fun _ => ?_
  exact PySem.P.add_int (q _ _ σ _ _ (.int _ _) H (.refl ..) h)
theorem O_sub {a b : Int} {Φ : V → Store → Prop} (h : Φ (.int (a - b)) σ) : TO2 C n σ (binaryOp .Sub) (.int a) (.int b) Φ := by
  intro A s x y Q E R H rx ry q; refine rx.int_elim fun _ => ?_; refine ry.int_elim fun _ => ?_
  exact PySem.P.sub_int (q _ _ σ _ _ (.int _ _) H (.refl ..) h)
theorem O_mul {a b : Int} {Φ : V → Store → Prop} (hm : IntMulOk a b) (h : Φ (.int (a * b)) σ) : TO2 C n σ (binaryOp .Mult) (.int a) (.int b) Φ := by
  intro A s x y Q E R H rx ry q; refine rx.int_elim fun _ => ?_; refine ry.int_elim fun _ => ?_
  exact PySem.P.mul_int (q _ _ σ _ _ (.int _ _) H (.refl ..) h) hm
theorem O_mod {a b : Int} {Φ : V → Store → Prop} (hb : b ≠ 0) (h : Φ (.int (a.fmod b)) σ) : TO2 C n σ (binaryOp .Mod) (.int a) (.int b) Φ := by
  intro A s x y Q E R H rx ry q; refine rx.int_elim fun _ => ?_; refine ry.int_elim fun _ => ?_
  exact PyProof.Rows.mod_int hb (q _ _ σ _ _ (.int _ _) H (.refl ..) h)
theorem O_strAdd {a b : Str} {Φ : V → Store → Prop} (hz : a.length + b.length ≤ sizeLine) (h : Φ (.str (a ++ b)) σ) : TO2 C n σ (binaryOp .Add) (.str a) (.str b) Φ := by
  intro A s x y Q E R H rx ry q; refine rx.str_elim fun _ => ?_; refine ry.str_elim fun _ => ?_
  exact PyProof.Rows.add_str (fun t' tk => q _ _ σ _ _ (.str _ _) H (.refl ..) h) hz
theorem O_listAdd {a b : Addr} {xs ys : List V} {Φ : V → Store → Prop} (ha : σ a = some (.list xs)) (hb : σ b = some (.list ys)) (hz : xs.length + ys.length ≤ sizeLine)
    (h : ∀ c, σ c = none → Φ (.ref c) (σ.set c (.list (xs ++ ys)))) : TO2 C n σ (binaryOp .Add) (.ref a) (.ref b) Φ := by
  intro A s x y Q E R H rx ry q
  refine rx.ref_elim ?_; refine ry.ref_elim ?_
  obtain ⟨vs, n₁, h1, r1⟩ := H.obj _ _ ha
  obtain ⟨ws, n₂, h2, r2⟩ := H.obj _ _ hb
  have k := HKeep.push s.heap { cls := .type "list", data := .seq (vs.toArray ++ ws.toArray) }
  have nw := heap_new s.heap
  have e : vs.toArray ++ ws.toArray = (vs ++ ws).toArray := by simp
  refine PySem.P.add_list h1 h2 (q _ _ _ _ s.toks (.ref _) (H.alloc (x := .list (xs ++ ys)) k nw ⟨vs ++ ws, 0, ?_, (r1.append r2).mono k.tup⟩) (Go.alloc k nw) (h _ (H.off_new nw))) ?_
  · rw [e]; exact Heap.get?_push_size _ rfl
  · rw [List.size_toArray, List.size_toArray, r1.length, r2.length]; exact hz
theorem O_lt {a b : Int} {Φ : V → Store → Prop} (h : Φ (.bool (decide (a < b))) σ) : TO2 C n σ (compareOp .Lt) (.int a) (.int b) Φ := by
  intro A s x y Q E R H rx ry q; refine rx.int_elim fun _ => ?_; refine ry.int_elim fun _ => ?_
  exact PySem.P.lt_int (q _ _ σ _ s.toks (.bool _) H (.refl ..) h)
theorem O_le {a b : Int} {Φ : V → Store → Prop} (h : Φ (.bool (decide (a ≤ b))) σ) : TO2 C n σ (compareOp .LtE) (.int a) (.int b) Φ := by
  intro A s x y Q E R H rx ry q; refine rx.int_elim fun _ => ?_; refine ry.int_elim fun _ => ?_
  exact PySem.P.le_int (q _ _ σ _ s.toks (.bool _) H (.refl ..) h)
theorem O_gt {a b : Int} {Φ : V → Store → Prop} (h : Φ (.bool (decide (a > b))) σ) : TO2 C n σ (compareOp .Gt) (.int a) (.int b) Φ := by
  intro A s x y Q E R H rx ry q; refine rx.int_elim fun _ => ?_; refine ry.int_elim fun _ => ?_
  exact PySem.P.gt_int (q _ _ σ _ s.toks (.bool _) H (.refl ..) h)
theorem O_ge {a b : Int} {Φ : V → Store → Prop} (h : Φ (.bool (decide (a ≥ b))) σ) : TO2 C n σ (compareOp .GtE) (.int a) (.int b) Φ := by
  intro A s x y Q E R H rx ry q; refine rx.int_elim fun _ => ?_; refine ry.int_elim fun _ => ?_
  exact PySem.P.ge_int (q _ _ σ _ s.toks (.bool _) H (.refl ..) h)
theorem O_eqInt {a b : Int} {Φ : V → Store → Prop} (h : Φ (.bool (a == b)) σ) : TO2 C n σ (compareOp .Eq) (.int a) (.int b) Φ := by
  intro A s x y Q E R H rx ry q; refine rx.int_elim fun _ => ?_; refine ry.int_elim fun _ => ?_
  exact PySem.P.eq_int (q _ _ σ _ s.toks (.bool _) H (.refl ..) h)
theorem O_neInt {a b : Int} {Φ : V → Store → Prop} (h : Φ (.bool (a != b)) σ) : TO2 C n σ (compareOp .NotEq) (.int a) (.int b) Φ := by
  intro A s x y Q E R H rx ry q; refine rx.int_elim fun _ => ?_; refine ry.int_elim fun _ => ?_
  exact PySem.P.ne_int (q _ _ σ _ s.toks (.bool _) H (.refl ..) h)
theorem O_eqStr {a b : Str} {Φ : V → Store → Prop} (h : Φ (.bool (a == b)) σ) : TO2 C n σ (compareOp .Eq) (.str a) (.str b) Φ := by
  intro A s x y Q E R H rx ry q; refine rx.str_elim fun _ => ?_; refine ry.str_elim fun _ => ?_
  exact PyProof.Rows.eq_str (q _ _ σ _ s.toks (.bool _) H (.refl ..) h)
theorem O_neStr {a b : Str} {Φ : V → Store → Prop} (h : Φ (.bool (a != b)) σ) : TO2 C n σ (compareOp .NotEq) (.str a) (.str b) Φ := by
  intro A s x y Q E R H rx ry q; refine rx.str_elim fun _ => ?_; refine ry.str_elim fun _ => ?_
  exact PyProof.Rows.ne_str (q _ _ σ _ s.toks (.bool _) H (.refl ..) h)
noncomputable def V.isNone : V → Bool
  | .none => true
  | _ => false
theorem rep_isNone {h : Heap} {v : Value} {X : V} (r : Rep h v X) : (v == .none) = X.isNone := by cases r <;> rfl
theorem O_is {X : V} {Φ : V → Store → Prop} (h : Φ (.bool X.isNone) σ) : TO2 C n σ (compareOp .Is) X .none Φ := by
  intro A s x y Q E R H rx ry q; refine ry.none_elim ?_
  exact is_none (by rw [rep_isNone rx]; exact q _ _ σ _ s.toks (.bool _) H (.refl ..) h)
theorem O_isNot {X : V} {Φ : V → Store → Prop} (h : Φ (.bool (!X.isNone)) σ) : TO2 C n σ (compareOp .IsNot) X .none Φ := by
  intro A s x y Q E R H rx ry q; refine ry.none_elim ?_
  exact isNot_none (by rw [rep_isNone rx]; exact q _ _ σ _ s.toks (.bool _) H (.refl ..) h)

mutual
noncomputable def V.py : V → PyData
  | .none => .none
  | .bool b => .bool b
  | .int i => .int i
  | .str x => .str x
  | .tuple xs => .tuple (V.pys xs)
  | .ref _ => .none
  | .bltn _ => .none
  | .typ _ => .none
noncomputable def V.pys : List V → List PyData
  | [] => []
  | x :: xs => x.py :: V.pys xs
end
mutual
noncomputable def V.data : Nat → V → Bool
  | _, .none => true
  | _, .bool _ => true
  | _, .int _ => true
  | _, .str x => PyData.strOk x
  | 0, .tuple _ => false
  | d + 1, .tuple xs => V.datas d xs
  | _, .ref _ => false
  | _, .bltn _ => false
  | _, .typ _ => false
noncomputable def V.datas : Nat → List V → Bool
  | _, [] => true
  | d, x :: xs => x.data d && V.datas d xs
end
mutual
theorem V.canLay : ∀ (d : Nat) (x : V), x.data d = true → x.py.canLay0 = true ∧ x.py.depth ≤ d
  | d, .none, _ => by simp [V.py, PyData.canLay0, PyData.depth]
  | d, .bool _, _ => by simp [V.py, PyData.canLay0, PyData.depth]
  | d, .int _, _ => by simp [V.py, PyData.canLay0, PyData.depth]
  | d, .str x, h => by cases d <;> simp_all [V.py, PyData.canLay0, PyData.depth, V.data]
  | 0, .tuple _, h => by simp [V.data] at h
  | d + 1, .tuple xs, h => by
    have := V.canLays d xs (by simpa [V.data] using h)
    simp only [V.py, PyData.canLay0, PyData.depth, this.1, true_and]
    omega
  | d, .ref _, h => by cases d <;> simp [V.data] at h
  | d, .bltn _, h => by cases d <;> simp [V.data] at h
  | d, .typ _, h => by cases d <;> simp [V.data] at h
theorem V.canLays : ∀ (d : Nat) (xs : List V), V.datas d xs = true → PyData.canLayAll0 (V.pys xs) = true ∧ PyData.depthAll (V.pys xs) ≤ d
  | d, [], _ => by simp [V.pys, PyData.canLayAll0, PyData.depthAll]
  | d, x :: xs, h => by
    simp only [V.datas, Bool.and_eq_true] at h
    have h1 := V.canLay d x h.1
    have h2 := V.canLays d xs h.2
    simp only [V.pys, PyData.canLayAll0, PyData.depthAll, h1.1, h2.1, Bool.and_self, true_and]
    omega
end
mutual
theorem reads_of {h : Heap} : ∀ (x : V) {v : Value} (d : Nat), Rep h v x → x.data d = true → ∃ as, Reads h v x.py as
  | .none, _, _, r, _ => r.none_elim ⟨_, .none⟩
  | .bool b, _, _, r, _ => r.bool_elim ⟨_, .bool b⟩
  | .int i, _, _, r, _ => r.int_elim fun t => ⟨_, .int i t⟩
  | .str x, _, _, r, _ => r.str_elim fun t => ⟨_, .str x t⟩
  | .tuple xs, _, 0, _, e => by rw [V.data] at e; cases e
  | .tuple xs, _, d + 1, r, e => r.tup_elim fun a vs ht rl => (reads_all xs d rl (by rwa [V.data] at e)).elim fun as q => ht.elim fun o t => t.2.2.elim fun n hd => by
    rw [V.py]
    exact ⟨as, reads_tuple_at t.1 t.2.1 hd q⟩
  | .ref _, _, d, _, e => by cases d <;> (rw [V.data] at e; cases e)
  | .bltn _, _, d, _, e => by cases d <;> (rw [V.data] at e; cases e)
  | .typ _, _, d, _, e => by cases d <;> (rw [V.data] at e; cases e)
theorem reads_all {h : Heap} : ∀ (xs : List V) {vs : List Value} (d : Nat), RepL h vs xs → V.datas d xs = true → ∃ as, ReadsAll h vs (V.pys xs) as
  | [], _, _, r, _ => r.nil_inv ▸ ⟨_, .nil⟩
  | x :: xs, _, d, r, e => RepL.cons_elim (Q := fun vs => ∃ as, ReadsAll h vs (V.pys (x :: xs)) as) r fun v ws a l => by
    rw [V.datas, Bool.and_eq_true] at e
    rw [V.pys]
    exact (reads_of x d a e.1).elim fun as q => (reads_all xs d l e.2).elim fun bs p => ⟨_, .cons q p⟩
end
theorem Rep.reads {h : Heap} {v : Value} {x : V} (d : Nat) (r : Rep h v x) (e : x.data d = true) : ∃ as, Reads h v x.py as := reads_of x d r e
theorem RepL.reads {h : Heap} {vs : List Value} {xs : List V} (d : Nat) (r : RepL h vs xs) (e : V.datas d xs = true) : ∃ as, ReadsAll h vs (V.pys xs) as := reads_all xs d r e
theorem V.shaped {x : V} {d : Nat} (h : x.data d = true) (hd : d ≤ 64) : SeqAt.shaped x.py = true := by
  have := V.canLay d x h
  unfold SeqAt.shaped
  rw [this.1, Bool.true_and]
  exact decide_eq_true (by omega)
theorem Room.u64 {A : Around} {n : Nat} (R : Room A n) : A.units + 64 < cLine := by have := R.units; omega
theorem O_eqData {X Y : V} {Φ : V → Store → Prop} (hx : X.data 40 = true) (hy : Y.data 40 = true) (h : Φ (.bool (PyData.eqv X.py Y.py)) σ) : TO2 C n σ (compareOp .Eq) X Y Φ := by
  intro A s x y Q E R H rx ry q
  obtain ⟨as, ra⟩ := rx.reads 40 hx
  obtain ⟨bs, rb⟩ := ry.reads 40 hy
  exact eq_dataH ra rb (V.shaped hx (by decide)) (V.shaped hy (by decide)) R.u64 (q _ _ σ _ s.toks (.bool _) H (.refl ..) h)
theorem O_neData {X Y : V} {Φ : V → Store → Prop} (hx : X.data 40 = true) (hy : Y.data 40 = true) (h : Φ (.bool (!PyData.eqv X.py Y.py)) σ) : TO2 C n σ (compareOp .NotEq) X Y Φ := by
  intro A s x y Q E R H rx ry q
  obtain ⟨as, ra⟩ := rx.reads 40 hx
  obtain ⟨bs, rb⟩ := ry.reads 40 hy
  exact ne_dataH ra rb (V.shaped hx (by decide)) (V.shaped hy (by decide)) R.u64 (q _ _ σ _ s.toks (.bool _) H (.refl ..) h)
end
end
section
open PySem PySem.W PySem.Calls PyProof.Rows PySem.Spec
section
variable {C : Cx} {n : Nat} {env : Env} {ρ : Loc} {σ : Store}

theorem HKeep.of_ext {h h' : Heap} (e : Heap.ExtBut h.objs.size h h') : HKeep h h' := fun b o z => e b o (Nat.ne_of_lt (Heap.lt_size z)) z

theorem TE_cell {x : Str} {pos : Pos} {c : Addr} {X : V} {Φ : V → Store → Prop} (hk : env.scope.kind = .function) (hl : env.kindOf x = some .cell) (hc : env.cells.lookup x = some c) (hx : σ c = some (.cell (some X))) (h : Φ X σ)
    (hd : (x == ("__debug__" : Str)) = false := by decide) : TE C n env ρ σ (.Name x pos) Φ := by
  intro A s Q E _ H F q
  obtain ⟨v, hv, hr⟩ := H.obj _ _ hx
  exact wpAny_Name (wpAny_loadName_cell hk hl hc hv (q v X σ s.heap s.toks hr H F (.refl ..) h)) hd
theorem TE_free {x : Str} {pos : Pos} {c : Addr} {X : V} {Φ : V → Store → Prop} (hk : env.scope.kind = .function) (hl : env.kindOf x = some .free) (hc : env.cells.lookup x = some c) (hx : σ c = some (.cell (some X))) (h : Φ X σ)
    (hd : (x == ("__debug__" : Str)) = false := by decide) (hn : (x == ("__classdict__" : Str)) = false := by decide) : TE C n env ρ σ (.Name x pos) Φ := by
  intro A s Q E _ H F q
  obtain ⟨v, hv, hr⟩ := H.obj _ _ hx
  exact wpAny_Name (wpAny_loadName_free hk hl hc hv (q v X σ s.heap s.toks hr H F (.refl ..) h) hn) hd
theorem TE_glob {x : Str} {pos : Pos} {v : Value} {X : V} {Φ : V → Store → Prop} (hk : env.scope.kind = .function) (hl : env.kindOf x = some .globalImplicit) (hg : env.globals = mainGlobals)
    (hx : nsIn C.K mainGlobals x = some (some v)) (hr : Rep C.h₀ v X) (h : Φ X σ)
    (hd : (x == ("__debug__" : Str)) = false := by decide) : TE C n env ρ σ (.Name x pos) Φ := by
  intro A s Q E _ H F q
  refine Name_function_global hk hl (loadGlobal_global (mg := C.mg) (by rw [hg]; exact C.top.g.keeps H.base) (mg_of C.kin C.top.g hx) ?_) hd
  exact q v X σ s.heap s.toks (hr.mono (HKeep.tup H.base)) H F (.refl ..) h
theorem TE_bltn {x : Str} {pos : Pos} {v : Value} {X : V} {Φ : V → Store → Prop} (hk : env.scope.kind = .function) (hl : env.kindOf x = some .globalImplicit) (hg : env.globals = mainGlobals) (hb : env.builtins = builtinsNs)
    (hx : nsIn C.K mainGlobals x = some none) (hv : bootBuiltins x = some v) (hr : Rep C.h₀ v X) (h : Φ X σ) (hn : x ≠ "__name__" := by decide)
    (hd : (x == ("__debug__" : Str)) = false := by decide) : TE C n env ρ σ (.Name x pos) Φ := by
  intro A s Q E _ H F q
  refine Name_function_global hk hl (loadGlobal_builtin (mg := C.mg) (mb := C.mb) (by rw [hg]; exact C.top.g.keeps H.base) (mg_none_of C.kin C.top.g hx) (by rw [hb]; exact C.top.b.keeps H.base) ((C.top.builtins x hn).trans hv) ?_) hd
  exact q v X σ s.heap s.toks (hr.mono (HKeep.tup H.base)) H F (.refl ..) h

theorem TSS_nil {Φ : Fl → Loc → Store → Prop} (h : Φ .next ρ σ) : TSS C n env ρ σ [] Φ :=
  fun A s Q E R H F q => wpAny_execs_nil (q _ _ ρ σ s.heap s.toks .next H F (.refl ..) h)
noncomputable def seqK (K : Loc → Store → Prop) (Φ : Fl → Loc → Store → Prop) : Fl → Loc → Store → Prop := fun f ρ σ => match f with
  | .next => K ρ σ
  | f => Φ f ρ σ
noncomputable def forK (N B : Loc → Store → Prop) (Rt : V → Loc → Store → Prop) : Fl → Loc → Store → Prop := fun f ρ σ => match f with
  | .next => N ρ σ
  | .cont => N ρ σ
  | .brk => B ρ σ
  | .ret X => Rt X ρ σ
theorem TSS_cons {st : Stmt} {rest : List Stmt} {Φ : Fl → Loc → Store → Prop} (h : TS C n env ρ σ st (seqK (fun ρ' σ' => TSS C n env ρ' σ' rest Φ) Φ)) : TSS C n env ρ σ (st :: rest) Φ := by
  intro A s Q E R H F q
  refine wpAny_execs_cons (h A s _ E R H F fun f X ρ' σ' h' tk' r' H' F' G' p => ?_)
  cases r' with
  | next => exact p A _ _ E R H' F' fun f Y ρ'' σ'' h'' tk'' r'' H'' F'' G'' p' => q f Y ρ'' σ'' h'' tk'' r'' H'' F'' (G'.trans G'') p'
  | brk => exact q _ _ ρ' σ' h' tk' .brk H' F' G' p
  | cont => exact q _ _ ρ' σ' h' tk' .cont H' F' G' p
  | ret r => exact q _ _ ρ' σ' h' tk' (.ret r) H' F' G' p
theorem TS_ret {e : Expr} {pos : Pos} {Φ : Fl → Loc → Store → Prop} (h : TE C n env ρ σ e fun X σ' => Φ (.ret X) ρ σ') : TS C n env ρ σ (.Return (some e) pos) Φ :=
  fun A s Q E R H F q => wpAny_Return_some (h A s _ E R H F fun r X σ' h' tk' r' H' F' G' p => q _ _ ρ σ' h' tk' (.ret r') H' F' G' p)
theorem TS_ret0 {pos : Pos} {Φ : Fl → Loc → Store → Prop} (h : Φ (.ret .none) ρ σ) : TS C n env ρ σ (.Return none pos) Φ :=
  fun A s Q E R H F q => wpAny_Return_none (q _ _ ρ σ s.heap s.toks (.ret .none) H F (.refl ..) h)
theorem TS_cont {pos : Pos} {Φ : Fl → Loc → Store → Prop} (h : Φ .cont ρ σ) : TS C n env ρ σ (.Continue pos) Φ :=
  fun A s Q E R H F q => wpAny_Continue (q _ _ ρ σ s.heap s.toks .cont H F (.refl ..) h)
theorem TS_if {t : Expr} {b o : List Stmt} {pos : Pos} {Φ : Fl → Loc → Store → Prop} (h : TB C n env ρ σ t fun c σ₁ => if c = true then TSS C n env ρ σ₁ b Φ else TSS C n env ρ σ₁ o Φ) : TS C n env ρ σ (.If t b o pos) Φ := by
  intro A s Q E R H F q
  refine wpAny_If (h A s _ E R H F fun c σ₁ h₁ tk₁ H₁ F₁ G₁ p₁ => ?_)
  cases c <;> exact p₁ A _ _ E R H₁ F₁ fun f X ρ' σ' h' tk' r' H' F' G' p => q f X ρ' σ' h' tk' r' H' F' (G₁.trans G') p
theorem TS_expr {e : Expr} {pos : Pos} {Φ : Fl → Loc → Store → Prop} (h : TE C n env ρ σ e fun _ σ' => Φ .next ρ σ')
    (hi : interactive env = false := by rfl) (hs : swapsWith e none pos.line env = pure false := by rfl) : TS C n env ρ σ (.Expr e pos) Φ := by
  intro A s Q E R H F q
  exact wpAny_Expr_any (h A s _ E R H F fun r X σ' h' tk' r' H' F' G' p => q _ _ ρ σ' h' tk' .next H' F' G' p) hi hs
theorem TS_assign {t e : Expr} {pos : Pos} {Φ : Fl → Loc → Store → Prop} (h : TE C n env ρ σ e fun X σ₁ => TA C n env ρ σ₁ t X fun ρ' σ' => Φ .next ρ' σ')
    (he : assignEach [t] env = [(false, assign t env)] := by rfl) (hs : swapsWithSole [t] e pos.line env = pure false := by rfl) (hw : swappedStores [t] e env = pure none := by rfl) : TS C n env ρ σ (.Assign [t] e pos) Φ := by
  intro A s Q E R H F q
  rw [PyProof.Rows.exec_Assign]
  refine wpAny_bind (wpAny_standAt ?_)
  rw [hs]
  refine wpAny_bind (wpAny_pure ?_)
  rw [if_neg (by decide)]
  refine wpAny_bind (h A s _ E R H F fun v X σ₁ h₁ tk₁ r₁ H₁ F₁ G₁ p₁ => ?_)
  rw [hw]
  refine wpAny_bind (wpAny_pure ?_)
  rw [he]
  show wpAny _ A (do assignAll v [assign t env]; pure .next) Q E _
  exact wpAny_bind (p₁ A _ _ _ E R H₁ F₁ r₁ fun ρ' σ' h' tk' H' F' G' p => wpAny_pure (q _ _ ρ' σ' h' tk' .next H' F' (G₁.trans G') p))

theorem Frm.store {h h' : Heap} {L : Addr} {m : Str → Option Value} {x : Str} {v : Value} {X : V} (F : Frm C σ h L ρ) (hm : h.Ns L m) (hr : ∀ y Y, ρ y = some Y → ∃ v, m y = some v ∧ Rep h v Y) (k : TupKeep h h') (r : Rep h v X) (hn : h'.Ns L fun y => if y = x then some v else m y) : Frm C σ h' L (ρ.set x X) := by
  refine ⟨⟨_, hn, fun y Y e => ?_⟩, F.off, F.new⟩
  by_cases q : y = x
  · simp only [Loc.set, if_pos q] at e; cases e
    exact ⟨v, if_pos q, r.mono k⟩
  · simp only [Loc.set, if_neg q] at e
    obtain ⟨v', a, b⟩ := hr y Y e
    exact ⟨v', by simp only [if_neg q]; exact a, b.mono k⟩
theorem ns_notTup {h : Heap} {a : Addr} {m : Str → Option Value} (x : h.Ns a m) : ∃ o, h.get? a = some o ∧ (o.cls = .type "tuple" → ∀ i n, o.data ≠ .seq i n) := by
  obtain ⟨o, es, ep, ho, hd, _⟩ := x
  exact ⟨o, ho, fun _ i n e => by rw [hd] at e; cases e⟩
theorem ns_priv {h h' : Heap} {L : Addr} {m m' : Str → Option Value} (x : h.Ns L m) (x' : h'.Ns L m') (hs : Heap.SameBut L h h') : Go σ (· = L) h σ h' := by
  obtain ⟨o, ho, ht⟩ := ns_notTup x
  obtain ⟨o', ho', _⟩ := ns_notTup x'
  exact Go.priv hs ho ho' rfl ht
theorem Holds.priv {h h' : Heap} {L : Addr} (H : Holds C σ h) (F : Frm C σ h L ρ) (G : Go σ (· = L) h σ h') (hs : Heap.SameBut L h h') : Holds C σ h' where
  base := fun b o e => (hs.2 b (fun q => by rw [q, F.new] at e; cases e)).trans (H.base b o e)
  obj := fun a x e => (H.obj a x e).at G.tup fun o z => (hs.2 a (fun q => by rw [q, F.off] at e; cases e)).trans z
  new := H.new
theorem store_local {x : Str} {A : Around} {s : Shared} {v : Value} {X : V} {Q : Unit → Shared → Prop} {E : Value → Shared → Prop} (H : Holds C σ s.heap) (F : Frm C σ s.heap env.locals ρ) (r : Rep s.heap v X)
    (hl : env.kindOf x = some .local) (hp : (env.scope.kind == .class || (env.scope.kind == .module && env.locals != env.globals)) = false)
    (q : ∀ h' tk', Holds C σ h' → Frm C σ h' env.locals (ρ.set x X) → Go σ (· = env.locals) s.heap σ h' → Q () { s with heap := h', toks := tk' }) : wpAny (model C.prog C.w) A (storeName env x v) Q E s := by
  obtain ⟨m, hm, hr⟩ := F.ns
  refine wpAny_storeName_local hl hm (fun h' hn hs => ?_) hp
  have G : Go σ (· = env.locals) s.heap σ h' := ns_priv hm hn hs
  exact q h' _ (H.priv F G hs) (F.store hm hr G.tup r hn) G
theorem TA_local {x : Str} {pos : Pos} {X : V} {Φ : Loc → Store → Prop} (hl : env.kindOf x = some .local) (hk : env.scope.kind = .function) (h : Φ (ρ.set x X) σ) : TA C n env ρ σ (.Name x pos) X Φ := by
  intro A s v Q E R H F r q
  refine assign_Name (store_local H F r hl (by rw [hk]; rfl) fun h' tk' H' F' G' => q _ σ h' tk' H' F' G' h)
theorem cell_upd {A : Around} {x : Str} {c : Addr} {s : Shared} {v : Value} {X : V} {v₀ : Option V} {Q : Unit → Shared → Prop} {E : Value → Shared → Prop} (hk : env.scope.kind = .function) (hl : env.kindOf x = some .cell) (hc : env.cells.lookup x = some c) (hx : σ c = some (.cell v₀))
    (H : Holds C σ s.heap) (r : Rep s.heap v X)
    (q : ∀ h', Holds C (σ.set c (.cell (some X))) h' → Go σ (fun _ => False) s.heap (σ.set c (.cell (some X))) h' → Q () { s with heap := h' }) : wpAny (model C.prog C.w) A (storeName env x v) Q E s := by
  have hcell : ∃ w₀, s.heap.IsCell c w₀ := by
    have := H.obj _ _ hx
    cases v₀ with
    | none => exact ⟨_, this⟩
    | some y => obtain ⟨w, hw, _⟩ := this; exact ⟨_, hw⟩
  obtain ⟨w₀, hw⟩ := hcell
  refine wpAny_storeName_cell hk hl hc hw fun h' hv hs => ?_
  obtain ⟨o, ho, hd⟩ := hw
  obtain ⟨o', ho', hd'⟩ := hv
  have G : Go σ (fun _ => False) s.heap (σ.set c (.cell (some X))) h' := Go.upd hs ho ho' (by rw [hx]; simp) fun _ i n e => by rw [hd] at e; cases e
  exact q h' (H.upd (by rw [hx]; simp) hs G.tup ⟨v, ⟨o', ho', hd'⟩, r.mono G.tup⟩) G
theorem TA_cell {x : Str} {pos : Pos} {c : Addr} {X : V} {v₀ : Option V} {Φ : Loc → Store → Prop} (hk : env.scope.kind = .function) (hl : env.kindOf x = some .cell) (hc : env.cells.lookup x = some c) (hx : σ c = some (.cell v₀)) (h : Φ ρ (σ.set c (.cell (some X)))) :
    TA C n env ρ σ (.Name x pos) X Φ := by
  intro A s v Q E R H F r q
  exact assign_Name (cell_upd hk hl hc hx H r fun h' H' G' => q ρ _ h' s.toks H' (F.go G') (frm_go F G') h)

section
variable (C n env ρ σ)
noncomputable def TAs (ts : List Expr) (Xs : List V) (Φ : Loc → Store → Prop) : Prop :=
  ∀ (A : Around) (s : Shared) (vs : List Value) (Q : Unit → Shared → Prop) (E : Value → Shared → Prop), Room A n → Holds C σ s.heap → Frm C σ s.heap env.locals ρ → RepL s.heap vs Xs →
    (∀ ρ' σ' h' tk', Holds C σ' h' → Frm C σ' h' env.locals ρ' → Go σ (· = env.locals) s.heap σ' h' → Φ ρ' σ' → Q () { s with heap := h', toks := tk' }) →
    wpAny (model C.prog C.w) A (assignInOrder ((assignEach ts env).map (·.2)) vs) Q E s
end
theorem TAs_nil {Φ : Loc → Store → Prop} (h : Φ ρ σ) : TAs C n env ρ σ [] [] Φ := by
  intro A s vs Q E R H F r q
  rw [r.nil_inv]
  exact wpAny_pure (q ρ σ s.heap s.toks H F (.refl ..) h)
theorem TAs_cons {t : Expr} {ts : List Expr} {X : V} {Xs : List V} {Φ : Loc → Store → Prop} (h : TA C n env ρ σ t X fun ρ' σ' => TAs C n env ρ' σ' ts Xs Φ)
    (he : assignEach (t :: ts) env = (false, assign t env) :: assignEach ts env := by rfl) : TAs C n env ρ σ (t :: ts) (X :: Xs) Φ := by
  intro A s vs Q E R H F r q
  refine RepL.cons_elim r fun v ws r rs => ?_
  rw [he]
  show wpAny _ A (do holding _ (assign t env _); assignInOrder ((assignEach ts env).map (·.2)) _) Q E s
  exact wpAny_bind (wpAny_holding (h A s _ _ E R H F r fun ρ' σ' h' tk' H' F' G' p =>
    p A _ _ _ E R H' F' (rs.mono G'.tup) fun ρ'' σ'' h'' tk'' H'' F'' G'' p' => q ρ'' σ'' h'' tk'' H'' F'' (G'.trans G'') p'))
theorem TA_tuple {ts : List Expr} {k : Nat} {pos : Pos} {Xs : List V} {Φ : Loc → Store → Prop} (hn : (assignEach ts env).length = Xs.length) (h : TAs C n env ρ σ ts Xs Φ) (hstar : (assignEach ts env).findIdx? (·.1) = none := by rfl) : TA C n env ρ σ (.Tuple ts k pos) (.tuple Xs) Φ := by
  intro A s v Q E R H F r q
  refine r.tup_elim fun a vs ht rl => ?_
  · refine assign_Tuple_tuple R.handled ht (by rw [hn, ← rl.length]; simp) hstar fun h' he => ?_
    have k := HKeep.of_ext he
    have G := Go.of_keep (σ := σ) (F := fun _ => False) k
    refine h A { s with heap := h' } _ _ E R (H.keeps k) (F.go G) (by simpa using rl.mono k.tup) fun ρ' σ' h'' tk'' H'' F'' G'' p => q ρ' σ' h'' tk'' H'' F'' ((frm_go F G).trans G'') p
theorem binds_back {A : Around} {E : Value → Shared → Prop} (hk : env.scope.kind = .function) (R : Room A n) : ∀ (names : List Str) (Xs : List V) (vs : List Value) (ρ : Loc) (σ : Store) (s : Shared) (Q : Unit → Shared → Prop), (∀ x ∈ names, env.kindOf x = some .local) → names.length = Xs.length →
    Holds C σ s.heap → Frm C σ s.heap env.locals ρ → RepL s.heap vs Xs →
    (∀ h' tk', Holds C σ h' → Frm C σ h' env.locals ((names.zip Xs).foldl (fun r p => Loc.set r p.1 p.2) ρ) → Go σ (· = env.locals) s.heap σ h' → Q () { s with heap := h', toks := tk' }) →
    wpAny (model C.prog C.w) A (assignInOrder (names.map fun n => bindName env n) vs) Q E s
  := by
  intro names
  induction names with
  | nil =>
    intro Xs vs ρ σ s Q _ hl H F r q
    exact wpAny_pure (q s.heap s.toks H F (.refl ..))
  | cons x xs ih =>
    intro Xs vs ρ σ s Q hn hl H F r q
    cases Xs with
    | nil => cases hl
    | cons X Xs =>
      refine RepL.cons_elim r fun v vs r rs => ?_
      show wpAny _ A (do holding _ (bindName env x v); assignInOrder (xs.map fun n => bindName env n) vs) Q E s
      refine wpAny_bind (wpAny_holding (bindName_ (store_local H F r (hn x (.head _)) (by rw [hk]; rfl) fun h' tk' H' F' G' => ?_)))
      exact ih Xs vs _ σ _ _ (fun y hy => hn y (.tail _ hy)) (by simpa using hl) H' F' (rs.mono G'.tup) fun h'' tk'' H'' F'' G'' => q h'' tk'' H'' F'' (G'.trans G'')
theorem RepL.reverse {h : Heap} {vs : List Value} {xs : List V} (r : RepL h vs xs) : RepL h vs.reverse xs.reverse := by
  refine RepL.ind (M := fun vs xs => RepL h vs.reverse xs.reverse) .nil (fun v ws x xs a _ b => ?_) xs vs r
  rw [List.reverse_cons, List.reverse_cons]; exact b.append (.cons a .nil)
theorem TS_swap {elts : List Expr} {k : Nat} {tpos pos : Pos} {e : Expr} {names : List Str} {Φ : Fl → Loc → Store → Prop}
    (h : TE C n env ρ σ e fun X σ₁ => ∃ Xs, X = .tuple Xs ∧ names.length = Xs.length ∧ Φ .next ((names.reverse.zip Xs.reverse).foldl (fun r p => Loc.set r p.1 p.2) ρ) σ₁)
    (hk : env.scope.kind = .function := by rfl) (hl : ∀ x ∈ names, env.kindOf x = some .local := by decide)
    (hs : swapsWithSole [.Tuple elts k tpos] e pos.line env = pure false := by rfl) (hw : swappedStores [.Tuple elts k tpos] e env = pure (some names) := by rfl) : TS C n env ρ σ (.Assign [.Tuple elts k tpos] e pos) Φ := by
  intro A s Q E R H F q
  refine Assign_Tuple_swapped (names := names) (h A s _ E R H F fun v X σ₁ h₁ tk₁ r₁ H₁ F₁ G₁ p₁ => ?_) hs hw
  obtain ⟨Xs, rfl, hlen, p⟩ := p₁
  refine r₁.tup_elim fun a vs ht rl => ?_
  · have hz : names.length = vs.toArray.size := by rw [List.size_toArray, rl.length, hlen]
    rw [hz]
    refine unpackItems_tuple R.handled ht fun h' he => ?_
    have k := HKeep.of_ext he
    have G := Go.of_keep (σ := σ₁) (F := fun _ => False) k
    exact binds_back hk R names.reverse Xs.reverse vs.toArray.toList.reverse ρ σ₁ _ _ (fun x hx => hl x (List.mem_reverse.mp hx)) (by simp [hlen]) (H₁.keeps k) (F₁.go G) (by simpa using (rl.mono k.tup).reverse)
      fun h'' tk'' H'' F'' G'' => q _ _ _ σ₁ h'' tk'' .next H'' F'' ((G₁.trans (frm_go F₁ G)).trans G'') p
end
end
section
open PySem PySem.W PySem.Calls PyProof.Rows PySem.Spec
noncomputable def lkE (x : Str) (es : List (Str × V)) : Option V := (es.find? fun p => p.1 == x).map (·.2)
noncomputable def putE (x : Str) (X : V) : List (Str × V) → List (Str × V)
  | [] => [(x, X)]
  | p :: r => if p.1 == x then (p.1, X) :: r else p :: putE x X r
theorem RepE.length {h : Heap} : ∀ {l : List DictEntry} {es : List (Str × V)}, RepE h l es → l.length = es.length
  | _, _, .nil => rfl
  | _, _, .cons _ r => by simp [r.length]
theorem RepE.keys {h : Heap} {l : List DictEntry} {es : List (Str × V)} (r : RepE h l es) : l.any (·.refKey) = false := by
  induction r with
  | nil => rfl
  | cons _ _ ih => simpa [DictEntry.refKey] using ih
theorem RepE.find {h : Heap} {x : Str} {l : List DictEntry} {es : List (Str × V)} (r : RepE h l es) : match es.find? (fun p => p.1 == x) with
    | some p => ∃ e, l.find? (·.key.isStr x) = some e ∧ Rep h e.val p.2
    | none => l.find? (·.key.isStr x) = none := by
  induction r with
  | nil => rfl
  | @cons hs n t v y r xs a rs ih =>
    simp only [List.find?_cons, Value.isStr]
    cases q : n == x with
    | true => exact ⟨_, rfl, a⟩
    | false => exact ih
theorem RepE.getL_some {h : Heap} {x : Str} {X : V} {l : List DictEntry} {es : List (Str × V)} (r : RepE h l es) (e : lkE x es = some X) : ∃ v, getL x l = some (some v) ∧ Rep h v X := by
  have q := r.find (x := x)
  unfold lkE at e
  cases z : es.find? (fun p => p.1 == x) with
  | none => rw [z] at e; cases e
  | some p =>
    rw [z] at e q
    cases e
    obtain ⟨en, h1, h2⟩ := q
    exact ⟨en.val, by unfold getL; rw [h1], h2⟩
theorem RepE.getL_none {h : Heap} {x : Str} {l : List DictEntry} {es : List (Str × V)} (r : RepE h l es) (e : lkE x es = none) : getL x l = some none := by
  have q := r.find (x := x)
  unfold lkE at e
  cases z : es.find? (fun p => p.1 == x) with
  | none => rw [z] at q; unfold getL; rw [q]; simp [r.keys]
  | some p => rw [z] at e; cases e
theorem RepE.put {h : Heap} {x : Str} {X : V} {v : Value} {hs : Int} {t : Tok} {l : List DictEntry} {es : List (Str × V)} (r : RepE h l es) (a : Rep h v X) : RepE h (putL x hs (.str x t) v l) (putE x X es) := by
  induction r with
  | nil => exact .cons a .nil
  | @cons hs' n t' v' y r xs b rs ih =>
    rw [putL, putE]
    by_cases q : (n == x) = true
    · rw [if_pos (show (Value.str n t').isStr x = true from q), if_pos (show ((n, y).1 == x) = true from q)]; exact .cons a rs
    · rw [if_neg (show ¬ (Value.str n t').isStr x = true from q), if_neg (show ¬ ((n, y).1 == x) = true from q)]; exact .cons b ih
theorem putE_length (x : Str) (X : V) : ∀ es, (putE x X es).length ≤ es.length + 1
  | [] => by simp [putE]
  | p :: r => by
    have := putE_length x X r
    simp only [putE]
    split <;> simp <;> omega

section
variable {C : Cx} {n : Nat} {env : Env} {ρ : Loc} {σ : Store}

theorem inst_at {h : Heap} {x Cl dx : Addr} {es : List (Str × V)} (H : Holds C σ h) (hx : σ x = some (.inst Cl dx)) (hd : σ dx = some (.ns es)) : ∃ l k, InstAt h x (instObj Cl dx) Cl (some (dictOf l k)) ∧ RepE h l es := by
  have h1 := H.obj _ _ hx
  obtain ⟨l, k, h2, r⟩ := H.obj _ _ hd
  exact ⟨l, k, ⟨h1, rfl, rfl, h2⟩, r⟩

structure OwnAttr (K : Frag) (Cl : Addr) (name : Str) : Prop where
  plain : plainGet K Cl name = true
  dict : hasDictIn K Cl = true
  none : findIn K (.ref Cl) name = some Option.none
structure MethAttr (K : Frag) (Cl : Addr) (name : Str) (f : Addr) : Prop where
  plain : plainGet K Cl name = true
  find : findIn K (.ref Cl) name = some (some (.ref f))
  fn : isFn K (.ref f) = true
  keep : keepIn K (.ref f) = true

noncomputable def V.handed : V → Bool
  | .bltn _ => false
  | _ => true
theorem Rep.handed {h : Heap} {v : Value} {X : V} (r : Rep h v X) (e : X.handed = true) : handedIn v = true := by cases r <;> first | rfl | cases e

theorem TE_attr {o : Expr} {name : Str} {pos : Pos} {Φ : V → Store → Prop}
    (h : TE C n env ρ σ o fun X σ₁ => ∃ x Cl dx es Y, X = .ref x ∧ σ₁ x = some (.inst Cl dx) ∧ σ₁ dx = some (.ns es) ∧ OwnAttr C.K Cl name ∧ lkE name es = some Y ∧ Y.handed = true ∧ Φ Y σ₁)
    (he : eval (.Attribute o name pos) env = (do
      let o' ← eval o env
      standAt pos.atName
      let r ← holding [o'] (getAttr o' name true)
      letTemporaryGo o o' r
      pure r) := by with_unfolding_all rfl) : TE C n env ρ σ (.Attribute o name pos) Φ := by
  intro A s Q E R H F q
  refine Attribute_any_ (h A s _ E R H F fun v X σ₁ h₁ tk₁ r₁ H₁ F₁ G₁ p₁ => ?_) he
  obtain ⟨x, Cl, dx, es, Y, rfl, hx, hd, O, hl, hh, p⟩ := p₁
  refine r₁.ref_elim ?_
  obtain ⟨l, k, I, r⟩ := inst_at H₁ hx hd
  obtain ⟨v, hv, rv⟩ := r.getL_some hl
  refine get_value (K := C.K) H₁.kin I (plainGet_of O.plain).1 (findObj_own O.dict O.none (by unfold noGet; rfl) hv) (rv.handed hh) ?_
  exact q _ _ σ₁ h₁ _ rv H₁ F₁ G₁ p

theorem store_own {A : Around} {s : Shared} {x Cl dx : Addr} {es : List (Str × V)} {name : Str} {v : Value} {X : V} {Q : Unit → Shared → Prop} {E : Value → Shared → Prop}
    (H : Holds C σ s.heap) (hx : σ x = some (.inst Cl dx)) (hd : σ dx = some (.ns es)) (rv : Rep s.heap v X) (hz : es.length ≤ 900)
    (hs : findIn C.K (.ref Cl) "__setattr__" = some (some (.builtin "object.__setattr__"))) (hp : plainOver C.K Cl = true) (ht : takerIn C.K Cl name = some none) (hh : hasDictIn C.K Cl = true)
    (q : ∀ h' tk', Holds C (σ.set dx (.ns (putE name X es))) h' → Go σ (fun _ => False) s.heap (σ.set dx (.ns (putE name X es))) h' → Q () { s with heap := h', toks := tk' }) :
    wpAny (model C.prog C.w) A (setAttr (.ref x) name v) Q E s := by
  have h1 := H.obj _ _ hx
  obtain ⟨l, k, h2, re⟩ := H.obj _ _ hd
  have I : InstAt s.heap x (instObj Cl dx) Cl (some (dictOf l k)) := ⟨h1, rfl, rfl, h2⟩
  have KI := H.kin
  refine set_plain (s := s) KI I hs ?_
  refine osa_open (s := { s with toks := s.toks + 1 }) KI I hp ht fun b => ?_
  obtain ⟨cd, hc, hd'⟩ := any_some hh
  have lk : ∃ r, getL name l = some r := by
    cases z : lkE name es with
    | none => exact ⟨_, re.getL_none z⟩
    | some Y => obtain ⟨v, hv, _⟩ := re.getL_some z; exact ⟨_, hv⟩
  refine wpAny_bind (wpAny_pure (wpAny_bind (wpAny_bind (wpAny_loadPart h1 (wpAny_bind (Looks.here (s := { s with toks := s.toks + 1 }) (looks_clsIn KI hc) ?_))))))
  rw [hd']
  refine wpAny_pure (a := some dx) (wpAny_bind (wpAny_pure (wpAny_bind ?_)))
  unfold nsSet
  refine wpAny_bind (wpAny_bind (wpAny_askSetting (wpAny_pure (wpAny_bind (wpAny_mkText (wpAny_bind (wpAny_loadPart h2 ?_)))))))
  dsimp only
  have c : aRefKeyMayBeTheName name l.toArray = false := by
    rw [aRefKeyMayBeTheName_at]
    have : l.toArray.any (·.refKey) = false := by simpa using re.keys
    rw [this, Bool.and_false]
  rw [c]
  have en := putName_dict name (PyData.keyHash C.w.params name) (.str name (s.toks + 1)) v l k
  refine wpAny_updatePart h2 ?_
  have D' : (s.heap.update dx (Obj.putName name (PyData.keyHash C.w.params name) (.str name (s.toks + 1)) v)).get? dx = some (dictOf (putL name (PyData.keyHash C.w.params name) (.str name (s.toks + 1)) v l) (putN name l k)) := by
    rw [← en]
    exact Heap.get?_update_self _ h2 (by rw [en]; rfl)
  have SB : Heap.SameBut dx s.heap (s.heap.update dx (Obj.putName name (PyData.keyHash C.w.params name) (.str name (s.toks + 1)) v)) := Heap.SameBut.update ..
  have G : Go σ (fun _ => False) s.heap (σ.set dx (.ns (putE name X es))) (s.heap.update dx (Obj.putName name (PyData.keyHash C.w.params name) (.str name (s.toks + 1)) v)) :=
    Go.upd SB h2 D' (by rw [hd]; simp) (fun _ i n e => by cases e)
  have RP := (re.mono G.tup).put (x := name) (hs := PyData.keyHash C.w.params name) (t := s.toks + 1) (rv.mono G.tup)
  refine wpAny_bind (wpAny_lookBehind D' ?_ (wpAny_pure ?_))
  · have z1 := RP.length
    have z2 := putE_length name X es
    exact pastItsLine_dict (by rw [List.size_toArray, sizeLine_eq]; omega)
  · exact q _ _ (H.upd (by rw [hd]; simp) SB G.tup ⟨_, _, D', RP⟩) G

theorem TA_attr {o : Expr} {name : Str} {pos : Pos} {X : V} {Φ : Loc → Store → Prop}
    (h : TE C n env ρ σ o fun O σ₁ => ∃ x Cl dx es, O = .ref x ∧ σ₁ x = some (.inst Cl dx) ∧ σ₁ dx = some (.ns es) ∧ es.length ≤ 900 ∧
      findIn C.K (.ref Cl) "__setattr__" = some (some (.builtin "object.__setattr__")) ∧ plainOver C.K Cl = true ∧ takerIn C.K Cl name = some none ∧ hasDictIn C.K Cl = true ∧ Φ ρ (σ₁.set dx (.ns (putE name X es)))) : TA C n env ρ σ (.Attribute o name pos) X Φ := by
  intro A s v Q E R H F r q
  rw [arm_assign_Attribute]
  refine wpAny_bind (wpAny_holding (h A s _ E R H F fun ov O σ₁ h₁ tk₁ r₁ H₁ F₁ G₁ p₁ => ?_))
  obtain ⟨x, Cl, dx, es, rfl, hx, hd, hz, hs, hp, ht, hh, p⟩ := p₁
  refine r₁.ref_elim ?_
  refine wpAny_bind (wpAny_standAt (wpAny_bind (wpAny_holding ?_)))
  refine store_own (s := { s with heap := h₁, toks := tk₁ }) H₁ hx hd (r.mono G₁.tup) hz hs hp ht hh fun h' tk' H' G' => ?_
  exact wpAny_release' (q _ _ h' tk' H' (F₁.go G') (G₁.trans (frm_go F₁ G')) p)

noncomputable def Kept (C : Cx) (h : Heap) (f : Value) : Prop := ∀ M : Model, ∃ k, (k = Keeper.frame ∨ k = Keeper.machine ∨ k = Keeper.boundFrame) ∧ Looks M h (keeperOf f) k
theorem Kept.of_K {h : Heap} {f : Value} (hk : keepIn C.K f = true) (X : C.K.In h) : Kept C h f := fun M => by
  obtain ⟨k, a, b⟩ := looks_keep (M := M) hk X
  exact ⟨k, a.elim .inl fun e => .inr (.inl e), b⟩
theorem Kept.plain {h : Heap} {f : Value} (hf : ∀ a, f ≠ .ref a) : Kept C h f := fun M => ⟨.machine, .inr (.inl rfl), by
  intro A Q E s _ q
  unfold keeperOf
  cases f <;> first | exact wpAny_pure q | exact absurd rfl (hf _)⟩
theorem Kept.func {h : Heap} {a : Addr} {o : Obj} {fd : FuncData} (ho : h.get? a = some o) (hd : o.data = .func fd) : Kept C h (.ref a) := fun M => ⟨.frame, .inl rfl, by
  refine (Looks.ld (part := none) ho).andThen ?_
  rw [hd]
  exact .now⟩

theorem TC_go {pos : Pos} {fv : Value} {f : V} {first : List Value} {Ys : List V} {args : List Expr} {Φ : V → Store → Prop} {A : Around} {s : Shared} {Q : Value → Shared → Prop} {E : Value → Shared → Prop} (R : Room A n) (H : Holds C σ s.heap) (F : Frm C σ s.heap env.locals ρ)
    (rf : Rep s.heap fv f) (rY : RepL s.heap first Ys)
    (hk : ∀ σ' h', Holds C σ' h' → (∀ X, σ' X = σ X ∨ True) → HKeep C.h₀ h' → Go σ (· = env.locals) s.heap σ' h' → Kept C h' fv)
    (h : TL C n env ρ σ pos args fun Xs σ₁ => TC C n σ₁ f (Ys ++ Xs) Φ)
    (hst : args = [] ∨ ∃ e es, args = e :: es ∧ starEach (e :: es) env = (false, eval e env) :: starEach es env) (hplain : (backTo pos (starEach args env)).any (·.1) = false)
    (q : ∀ r R' σ' h' tk', Rep h' r R' → Holds C σ' h' → Frm C σ' h' env.locals ρ → Go σ (· = env.locals) s.heap σ' h' → Φ R' σ' → Q r { s with heap := h', toks := tk' }) :
    wpAny (model C.prog C.w) A (callWith pos fv first (backTo pos (starEach args env)) []) Q E s := by
  refine callWith_of (P := fun h' => Kept C h' fv) (by rw [hplain]; rfl) (fun h' k => k _) ?_
  have key : ∀ {α : Type} (T : List Value → α), wpAny (model C.prog C.w) A (spliced (backTo pos (starEach args env))) (fun vs s₁ => Kept C s₁.heap fv ∧ wpAny (model C.prog C.w) A (call fv (first ++ vs)) Q E s₁) E s := fun {α} T => by
    refine h A s _ E R H F fun vs Xs σ₁ h₁ tk₁ r₁ H₁ F₁ G₁ p₁ => ⟨hk σ₁ h₁ H₁ (fun _ => .inr trivial) H₁.base G₁, ?_⟩
    refine p₁ A _ _ _ _ E R H₁ (rf.mono G₁.tup) ((rY.mono G₁.tup).append r₁) fun r R' σ₂ h₂ tk₂ r₂ H₂ G₂ p₂ => q r R' σ₂ h₂ tk₂ r₂ H₂ (F₁.go G₂) (G₁.trans (frm_go F₁ G₂)) p₂
  rcases hst with rfl | ⟨e, es, rfl, he⟩
  · exact fun Γ p hΓ => evalArgs_nil3 (key (fun _ => ()) Γ p hΓ) Γ p hΓ
  · have k := key fun _ => ()
    rw [he] at k ⊢
    exact evalArgs_plain k

theorem eval_Call_plain {f : Expr} {args : List Expr} {pos : Pos} (hf : ∀ o n p, f ≠ .Attribute o n p) : eval (.Call f args [] pos) env = (do callWith pos (← eval f env) [] (backTo pos (starEach args env)) []) := by
  cases f <;> first | rfl | exact absurd rfl (hf _ _ _)

theorem TE_call {f : Expr} {args : List Expr} {pos : Pos} {Φ : V → Store → Prop}
    (h : TE C n env ρ σ f fun Fv σ₁ => (match Fv with
      | .ref a => keepIn C.K (.ref a) = true
      | .bltn _ => True
      | .typ _ => True
      | _ => False) ∧ TL C n env ρ σ₁ pos args fun Xs σ₂ => TC C n σ₂ Fv Xs Φ)
    (hf : ∀ o n p, f ≠ .Attribute o n p := by intro _ _ _ e; cases e)
    (hst : args = [] ∨ ∃ e es, args = e :: es ∧ starEach (e :: es) env = (false, eval e env) :: starEach es env := by first | exact .inl rfl | exact .inr ⟨_, _, rfl, rfl⟩)
    (hplain : (backTo pos (starEach args env)).any (·.1) = false := by rfl) : TE C n env ρ σ (.Call f args [] pos) Φ := by
  intro A s Q E R H F q
  rw [eval_Call_plain hf]
  refine wpAny_bind (h A s _ E R H F fun fv Fv σ₁ h₁ tk₁ r₁ H₁ F₁ G₁ p₁ => ?_)
  refine TC_go (s := { s with heap := h₁, toks := tk₁ }) (Ys := []) R H₁ F₁ r₁ .nil ?_ p₁.2 hst hplain fun r R' σ' h' tk' r' H' F' G' p => q r R' σ' h' tk' r' H' F' (G₁.trans G') p
  intro σ' h' H' _ kb _
  cases r₁ with
  | ref a => exact .of_K p₁.1 H'.kin
  | bltn i => exact .plain fun _ e => by cases e
  | typ i => exact .plain fun _ e => by cases e
  | none => exact p₁.1.elim
  | bool b => exact p₁.1.elim
  | int i t => exact p₁.1.elim
  | str x t => exact p₁.1.elim
  | tuple _ _ => exact p₁.1.elim
theorem TE_callRaw {f : Expr} {args : List Expr} {pos : Pos} {Φ : V → Store → Prop}
    (h : TE C n env ρ σ f fun Fv σ₁ => ∃ a o fd, Fv = .ref a ∧ σ₁ a = some (.raw o) ∧ o.data = .func fd ∧ TL C n env ρ σ₁ pos args fun Xs σ₂ => σ₂ a = some (.raw o) ∧ TC C n σ₂ Fv Xs Φ)
    (hf : ∀ o n p, f ≠ .Attribute o n p := by intro _ _ _ e; cases e)
    (he : ∃ e es, args = e :: es ∧ starEach (e :: es) env = (false, eval e env) :: starEach es env := by exact ⟨_, _, rfl, rfl⟩)
    (hplain : (backTo pos (starEach args env)).any (·.1) = false := by rfl) : TE C n env ρ σ (.Call f args [] pos) Φ := by
  intro A s Q E R H F q
  rw [eval_Call_plain hf]
  refine wpAny_bind (h A s _ E R H F fun fv Fv σ₁ h₁ tk₁ r₁ H₁ F₁ G₁ p₁ => ?_)
  obtain ⟨a, o, fd, rfl, ha, hd, p₁⟩ := p₁
  refine r₁.ref_elim ?_
  refine callWith_of (P := fun h' => Kept C h' (.ref a)) (by rw [hplain]; rfl) (fun h' k => k _) ?_
  have k : wpAny (model C.prog C.w) A (spliced (backTo pos (starEach args env))) (fun vs s₁ => Kept C s₁.heap (.ref a) ∧ wpAny (model C.prog C.w) A (call (.ref a) ([] ++ vs)) Q E s₁) E { s with heap := h₁, toks := tk₁ } := by
    refine p₁ A _ _ E R H₁ F₁ fun vs Xs σ₂ h₂ tk₂ r₂ H₂ F₂ G₂ p₂ => ⟨.func (H₂.obj _ _ p₂.1) hd, ?_⟩
    exact p₂.2 A _ _ _ _ E R H₂ (.ref a) r₂ fun r R' σ₃ h₃ tk₃ r₃ H₃ G₃ p₃ => q r R' σ₃ h₃ tk₃ r₃ H₃ (F₂.go G₃) ((G₁.trans G₂).trans (frm_go F₂ G₃)) p₃
  obtain ⟨e, es, rfl, he⟩ := he
  rw [he] at k ⊢
  exact evalArgs_plain k
theorem TE_meth {o : Expr} {name : Str} {apos pos : Pos} {args : List Expr} {Φ : V → Store → Prop}
    (h : TE C n env ρ σ o fun X σ₁ => ∃ x Cl dx es f, X = .ref x ∧ σ₁ x = some (.inst Cl dx) ∧ σ₁ dx = some (.ns es) ∧ lkE name es = none ∧ MethAttr C.K Cl name f ∧ TL C n env ρ σ₁ pos args fun Xs σ₂ => TC C n σ₂ (.ref f) (.ref x :: Xs) Φ)
    {pl : Sem Bool}
    (he : eval (.Call (.Attribute o name apos) args [] pos) env = (do
      let ov ← eval o env
      standAt apos.atName
      let (f, first) ← holding [ov] (getMethod ov name pl)
      callWith pos f first (backTo pos (starEach args env)) []) := by rfl)
    (hst : args = [] ∨ ∃ e es, args = e :: es ∧ starEach (e :: es) env = (false, eval e env) :: starEach es env := by first | exact .inl rfl | exact .inr ⟨_, _, rfl, rfl⟩)
    (hplain : (backTo pos (starEach args env)).any (·.1) = false := by rfl) : TE C n env ρ σ (.Call (.Attribute o name apos) args [] pos) Φ := by
  intro A s Q E R H F q
  refine MethodCall_ (pl := pl) (h A s _ E R H F fun v X σ₁ h₁ tk₁ r₁ H₁ F₁ G₁ p₁ => ?_) he
  obtain ⟨x, Cl, dx, es, f, rfl, hx, hd, hl, M, p⟩ := p₁
  refine r₁.ref_elim ?_
  obtain ⟨l, k, I, r⟩ := inst_at H₁ hx hd
  refine method_fn (s := { s with heap := h₁, toks := tk₁ }) H₁.kin I (plainGet_of M.plain).1 (plainGet_of M.plain).2 M.find (beq_iff_eq.mp M.fn) (by show (lookIn name (dictOf l k)).map _ = _; rw [lookIn_dict, r.getL_none hl]; rfl) ?_
  refine TC_go (s := { s with heap := h₁, toks := tk₁ }) (Ys := [.ref x]) R H₁ F₁ (.ref f) (.cons (.ref x) .nil) ?_ p hst hplain fun r R' σ' h' tk' r' H' F' G' p => q r R' σ' h' tk' r' H' F' (G₁.trans G') p
  intro σ' h' H' _ _ _
  exact .of_K M.keep H'.kin
end
end
section
open PySem PySem.W PySem.Calls PyProof.Rows PySem.Spec
noncomputable def Loc.binds : List Str → List V → Loc → Loc
  | x :: xs, X :: Xs, ρ => Loc.binds xs Xs (ρ.set x X)
  | _, _, ρ => ρ
noncomputable def Loc.none : Loc := fun _ => Option.none
theorem lookup_app {α : Type} (l r : List (Str × α)) (y : Str) : (l ++ r).lookup y = (l.lookup y).or (r.lookup y) := by
  induction l with
  | nil => simp
  | cons p l ih =>
    obtain ⟨a, b⟩ := p
    rw [List.cons_append, List.lookup_cons, List.lookup_cons]
    cases y == a <;> simp [ih]
theorem binds_rep {h : Heap} : ∀ (xs : List Str) (Xs : List V) (vs : List Value) (ρ : Loc) (m : Str → Option Value), RepL h vs Xs → xs.length = Xs.length → (∀ y Y, ρ y = some Y → ∃ v, m y = some v ∧ Rep h v Y) →
    ∀ y Y, Loc.binds xs Xs ρ y = some Y → ∃ v, (((xs.zip vs).reverse.lookup y).or (m y)) = some v ∧ Rep h v Y := by
  intro xs
  induction xs with
  | nil =>
    intro Xs vs ρ m r _ hm y Y e
    obtain ⟨v, a, b⟩ := hm y Y e
    exact ⟨v, by simpa using a, b⟩
  | cons x xs ih =>
    intro Xs vs ρ m r hl hm y Y e
    cases Xs with
    | nil => cases hl
    | cons X Xs =>
      refine RepL.cons_elim r fun v vs a r => ?_
      obtain ⟨w, h1, h2⟩ := ih Xs vs (ρ.set x X) (fun z => if z = x then some v else m z) r (by simpa using hl) (fun z Z e => by
        by_cases q : z = x
        · simp only [Loc.set, if_pos q] at e; cases e; exact ⟨v, if_pos q, a⟩
        · simp only [Loc.set, if_neg q] at e; obtain ⟨w, c, d⟩ := hm z Z e; exact ⟨w, by simp only [if_neg q]; exact c, d⟩) y Y e
      refine ⟨w, ?_, h2⟩
      rw [List.zip_cons_cons, List.reverse_cons, lookup_app, Option.or_assoc, ← h1]
      congr 1
      by_cases q : y = x
      · subst q; simp [List.lookup]
      · have : (y == x) = false := by simpa using q
        simp [List.lookup, this, q]

section
variable {C : Cx} {n : Nat} {env : Env} {ρ : Loc} {σ : Store}

noncomputable def Drop (Φ : V → Store → Prop) (X : V) (σ' : Store) : Prop := ∃ σ'', (∀ a x, σ'' a = some x → σ' a = some x) ∧ Φ X σ''
theorem Drop.all {Φ : V → Store → Prop} {X : V} {σ' : Store} (h : Φ X σ') : Drop Φ X σ' := ⟨σ', fun _ _ e => e, h⟩
noncomputable def RetOf (Φ : V → Store → Prop) : Fl → Loc → Store → Prop := fun f _ σ' => match f with
  | .ret X => Drop Φ X σ'
  | _ => Drop Φ .none σ'

theorem Go.call {σ σ' σ'' : Store} {h h₁ h' : Heap} {P : Addr → Prop} (k : HKeep h h₁) (g : Go σ P h₁ σ' h') (hP : ∀ a o, h.get? a = some o → ¬ P a) (hs : ∀ a x, σ'' a = some x → σ' a = some x) : Go σ (fun _ => False) h σ'' h' where
  keep := fun a o e n _ => g.keep a o (k a o e) n (hP a o e)
  tup := fun a o i n e c d => g.tup a o i n (k a o e) c d
  live := fun a o e => g.live a o (k a o e)
  dom := fun a e => by
    obtain ⟨x, hx⟩ := Option.ne_none_iff_exists'.mp e
    rcases g.dom a (by rw [hs a x hx]; simp) with z | z
    · exact .inl z
    · right
      cases q : h.get? a with
      | none => rfl
      | some o => rw [k a o q] at z; cases z

theorem Room.call {A : Around} (R : Room A (n + 1)) (env : Env) (pe : PlainEnv env) : Room (A.deeper env) n := by
  obtain ⟨a, b, c, e, l, d, _⟩ := R
  refine ⟨a, ?_, ?_, env, e :: l, Around.frames_deeper d, pe⟩
  · show A.depth + 1 + 2 * n < recursionLimit; omega
  · show A.units + 3 + 10 * n + 300 < cLine; omega
theorem Room.here {A : Around} (R : Room A n) : A.depth < recursionLimit := by have := R.depth; omega
theorem Room.less {A : Around} {m : Nat} (R : Room A n) (h : m ≤ n) : Room A m := ⟨R.handled, by have := R.depth; omega, by have := R.units; omega, R.top⟩

noncomputable def TCc (C : Cx) (n : Nat) (σ : Store) (f : Addr) (Xs : List V) (Φ : V → Store → Prop) : Prop :=
  ∀ (A : Around) (s : Shared) (vs : List Value) (Q : Value → Shared → Prop) (E : Value → Shared → Prop), Room A n → Holds C σ s.heap → RepL s.heap vs Xs →
    (∀ r R σ' h' tk', Rep h' r R → Holds C σ' h' → Go σ (fun _ => False) s.heap σ' h' → Φ R σ' → Q r { s with heap := h', toks := tk' }) →
    codeAny (model C.prog C.w) A (.call (.ref f) ⟨vs, []⟩) (fun r s' => match r with | .ok (.ret v) => Q v s' | .ok _ => False | .error e => E e s') s
theorem TCc.tc {f : Addr} {Xs : List V} {Φ : V → Store → Prop} (h : TCc C n σ f Xs Φ) : TC C n σ (.ref f) Xs Φ := by
  intro A s fv vs Q E R H rf rX q
  exact rf.ref_elim (wpAny_call (h A s vs Q E R H rX q))
theorem TCc.mono {f : Addr} {Xs : List V} {Φ Ψ : V → Store → Prop} (h : TCc C n σ f Xs Φ) (k : ∀ R σ', Φ R σ' → Ψ R σ') : TCc C n σ f Xs Ψ :=
  fun A s vs Q E r H x q => h A s vs Q E r H x fun a R σ' h' tk' x H' G p => q a R σ' h' tk' x H' G (k _ _ p)

theorem TC_def {a : Addr} {oc : Value} {od : Option Addr} {osl : Array (Option Value)} {fd : FuncData} {body : List Stmt} {names : List Str} {Xs Ds : List V} {ds : List Value} {Φ : V → Store → Prop}
    (ho : C.K.lookup a = some ⟨oc, od, .func fd, osl⟩) (hcd : codeIn C.K fd.code fd.qualname = true) (hbody : fd.body = .stmts body)
    (hds : RepL C.h₀ ds Ds) (hlen : names.length = Xs.length + Ds.length)
    (hbind : ∀ s : Shared, C.K.In s.heap → ∀ vs : List Value, vs.length = Xs.length → BindsTo s fd ⟨vs, []⟩ (names.zip (vs ++ ds)))
    (hcell : ∀ x ∈ fd.scope.names, x.2 ≠ .cell) (hloc : ∀ x ∈ names, fd.scope.names.lookup x = some .local)
    (h : ∀ L, σ L = none → TSS C n (callEnv fd L a) (Loc.binds names (Xs ++ Ds) Loc.none) σ body (RetOf Φ))
    (hco : fd.scope.isCoroutine = false := by rfl) (hgen : fd.scope.isGenerator = false := by rfl) (hk : fd.scope.kind = .function := by rfl) (hgl : fd.globals = mainGlobals := by rfl) (hbl : fd.builtins = builtinsNs := by rfl) : TCc C (n + 1) σ a Xs Φ := by
  intro A s vs Q E R H rX q
  have KI := H.kin
  have hl := rX.length
  have rA : RepL s.heap (vs ++ ds) (Xs ++ Ds) := rX.append (hds.mono (HKeep.tup H.base))
  refine codeAny_call_def (fd := fd) (body := body) (binds := names.zip (vs ++ ds)) R.here (KI _ _ ho) rfl (C.top.nolimit.keeps H.base) (codeRec_of KI hcd) hbody (hbind s KI vs hl) hcell (fun x hx => hloc _ (List.of_mem_zip hx).1) (fun h₁ hns hk₁ => ?_) hco hgen hk
  have nw := heap_new s.heap
  have H₁ : Holds C σ h₁ := H.keeps hk₁
  have F₁ : Frm C σ h₁ (callEnv fd s.heap.objs.size a).locals (Loc.binds names (Xs ++ Ds) Loc.none) := by
    refine ⟨⟨_, hns, fun y Y e => ?_⟩, H.off_new nw, ?_⟩
    · obtain ⟨v, h1, h2⟩ := binds_rep names (Xs ++ Ds) (vs ++ ds) Loc.none (fun _ => none) (rA.mono (HKeep.tup hk₁)) (by simp [hlen]) (fun _ _ e => by cases e) y Y e
      exact ⟨v, by simpa using h1, h2⟩
    · exact H.base_new nw
  refine h s.heap.objs.size (H.off_new nw) (A.deeper (callEnv fd s.heap.objs.size a)) { s with heap := h₁, toks := s.toks + (names.zip (vs ++ ds)).length } _ _ (R.call _ ⟨hgen, hco, hbl, hgl⟩) H₁ F₁ fun f X ρ' σ' h' tk' r' H' F' G' p => ?_
  have fin : ∀ v Y, Rep h' v Y → Drop Φ Y σ' → Q v { s with heap := h', toks := tk' } := fun v Y rv p => by
    obtain ⟨σ'', hs, p⟩ := p
    exact q v Y σ'' h' tk' rv (H'.sub hs) (Go.call hk₁ G' (fun b o e => Nat.ne_of_lt (Heap.lt_size e)) hs) p
  cases r' with
  | next => exact fin _ _ .none p
  | brk => exact fin _ _ .none p
  | cont => exact fin _ _ .none p
  | ret r => exact fin _ _ r p

noncomputable def Loc.bindsK (ko : Str → Option NameKind) : List Str → List V → Loc → Loc
  | x :: xs, X :: Xs, ρ => Loc.bindsK ko xs Xs (if ko x = some .local then ρ.set x X else ρ)
  | _, _, ρ => ρ
noncomputable def Loc.bindsC (ko : Str → Option NameKind) : List Str → List V → Loc → Loc
  | x :: xs, X :: Xs, ρ => Loc.bindsC ko xs Xs (if ko x = some .local then ρ else ρ.set x X)
  | _, _, ρ => ρ
theorem bindsK_rep {h : Heap} (ko : Str → Option NameKind) : ∀ (xs : List Str) (Xs : List V) (vs : List Value) (ρ : Loc) (m : Str → Option Value), RepL h vs Xs → xs.length = Xs.length → (∀ y Y, ρ y = some Y → ∃ v, m y = some v ∧ Rep h v Y) →
    ∀ y Y, Loc.bindsK ko xs Xs ρ y = some Y → ∃ v, bindL ko (xs.zip vs) m y = some v ∧ Rep h v Y := by
  intro xs
  induction xs with
  | nil => intro Xs vs ρ m r _ hm y Y e; exact hm y Y e
  | cons x xs ih =>
    intro Xs vs ρ m r hl hm y Y e
    cases Xs with
    | nil => cases hl
    | cons X Xs =>
      revert e
      refine RepL.cons_elim r fun v vs a r => ?_
      intro e
      refine ih Xs vs _ _ r (by simpa using hl) (fun z Z e => ?_) y Y e
      by_cases c : ko x = some .local
      · rw [if_pos c] at e ⊢
        by_cases q : z = x
        · simp only [Loc.set, if_pos q] at e; cases e; exact ⟨v, if_pos q, a⟩
        · simp only [Loc.set, if_neg q] at e; obtain ⟨w, c, d⟩ := hm z Z e; exact ⟨w, by simp only [if_neg q]; exact c, d⟩
      · rw [if_neg c] at e ⊢; exact hm z Z e
theorem bindsC_rep {h : Heap} (ko : Str → Option NameKind) : ∀ (xs : List Str) (Xs : List V) (vs : List Value) (ρ : Loc) (m : Str → Option Value), RepL h vs Xs → xs.length = Xs.length →
    (∀ y, match ρ y with | some Y => ∃ v, m y = some v ∧ Rep h v Y | none => m y = none) →
    ∀ y, match Loc.bindsC ko xs Xs ρ y with | some Y => ∃ v, bindC ko (xs.zip vs) m y = some v ∧ Rep h v Y | none => bindC ko (xs.zip vs) m y = none := by
  intro xs
  induction xs with
  | nil => intro Xs vs ρ m r _ hm y; exact hm y
  | cons x xs ih =>
    intro Xs vs ρ m r hl hm y
    cases Xs with
    | nil => cases hl
    | cons X Xs =>
      refine RepL.cons_elim r fun v vs a r => ?_
      refine ih Xs vs _ _ r (by simpa using hl) (fun z => ?_) y
      by_cases c : ko x = some .local
      · rw [if_pos c, if_pos c]; exact hm z
      · rw [if_neg c, if_neg c]
        by_cases q : z = x
        · simp only [Loc.set, if_pos q]; exact ⟨v, rfl, a⟩
        · simp only [Loc.set, if_neg q]; exact hm z
noncomputable def cellStore (σ : Store) (cl : List (Str × Addr)) (ρ : Loc) : Store := fun a => match cl.find? (fun p => p.2 == a) with
  | some p => some (.cell (ρ p.1))
  | none => σ a

theorem cells_addr : ∀ (names : List (Str × NameKind)) (k : Nat) (acc : List (Str × Addr)) (x : Str) (c : Nat), (x, c) ∈ cellsFrom k names acc → (x, c) ∈ acc ∨ k ≤ c
  | [], k, acc, x, c, h => .inl h
  | (y, kd) :: r, k, acc, x, c, h => by
    unfold cellsFrom at h
    split at h
    · rcases cells_addr r (k + 1) _ x c h with z | z
      · rcases List.mem_cons.mp z with z | z
        · cases z; exact .inr (Nat.le_refl _)
        · exact .inl z
      · exact .inr (Nat.le_of_succ_le z)
    · exact cells_addr r k _ x c h

theorem TC_defC {a : Addr} {oc : Value} {od : Option Addr} {osl : Array (Option Value)} {fd : FuncData} {body : List Stmt} {names : List Str} {Xs : List V} {Φ : V → Store → Prop}
    (ho : C.K.lookup a = some ⟨oc, od, .func fd, osl⟩) (hcd : codeIn C.K fd.code fd.qualname = true) (hbody : fd.body = .stmts body) (hlen : names.length = Xs.length)
    (hbind : ∀ vs : List Value, vs.length = Xs.length → bindArgs fd ⟨vs, []⟩ = pure (names.zip vs)) (hclo : fd.closure = [])
    (hkind : ∀ k, ∀ x ∈ names, fd.scope.names.lookup x = some .local ∨ (fd.scope.names.lookup x = some .cell ∧ ((cellsFrom k fd.scope.names []).lookup x).isSome = true))
    (hnd : ∀ k, ((cellsFrom k fd.scope.names []).map (·.1)).Nodup)
    (h : ∀ L, σ L = none → (∀ c, L < c → σ c = none) → TSS C n (callEnvC fd L a) (Loc.bindsK (callEnvC fd L a).kindOf names Xs Loc.none) (cellStore σ (cellsFrom (L + 1) fd.scope.names []) (Loc.bindsC (callEnvC fd L a).kindOf names Xs Loc.none)) body (RetOf Φ))
    (hco : fd.scope.isCoroutine = false := by rfl) (hgen : fd.scope.isGenerator = false := by rfl) (hk : fd.scope.kind = .function := by rfl) (hgl : fd.globals = mainGlobals := by rfl) (hbl : fd.builtins = builtinsNs := by rfl) : TCc C (n + 1) σ a Xs Φ := by
  intro A s vs Q E R H rX q
  have KI := H.kin
  have hl := rX.length
  have hz : ∀ x ∈ names.zip vs, x.1 ∈ names := fun x hx => (List.of_mem_zip hx).1
  refine codeAny_call_cells (fd := fd) (body := body) (binds := names.zip vs) R.here (KI _ _ ho) rfl (C.top.nolimit.keeps H.base) (codeRec_of KI hcd) hbody (hbind vs hl) hclo (fun x hx => hkind _ _ (hz x hx)) (fun s₁ x₁ => ?_) hco hgen hk
  obtain ⟨h₁, tk₁, rfl⟩ := x₁.toInCall.same
  have hk₁ : HKeep s.heap h₁ := x₁.toInCall.keep
  have nw : ∀ c, s.heap.objs.size ≤ c → s.heap.get? c = none := fun c hc => Heap.get?_none_of_le hc
  have ad := fun x c (hm : (x, c) ∈ cellsFrom (s.heap.objs.size + 1) fd.scope.names []) => (cells_addr fd.scope.names _ [] x c hm).resolve_left (by simp)
  have find : ∀ a p, (cellsFrom (s.heap.objs.size + 1) fd.scope.names []).find? (fun p => p.2 == a) = some p → p ∈ cellsFrom (s.heap.objs.size + 1) fd.scope.names [] ∧ p.2 = a := fun a p e => ⟨List.mem_of_find?_eq_some e, by simpa using List.find?_some e⟩
  have H₁ : Holds C (cellStore σ (cellsFrom (s.heap.objs.size + 1) fd.scope.names []) (Loc.bindsC (callEnvC fd s.heap.objs.size a).kindOf names Xs Loc.none)) h₁ := by
    refine ⟨fun b o e => hk₁ b o (H.base b o e), fun b y e => ?_, fun b y e => ?_⟩
    · unfold cellStore at e
      cases z : (cellsFrom (s.heap.objs.size + 1) fd.scope.names []).find? (fun p => p.2 == b) with
      | none => rw [z] at e; exact (H.obj b y e).at (HKeep.tup hk₁) (hk₁ b)
      | some p =>
        rw [z] at e
        obtain ⟨x, c⟩ := p
        obtain ⟨hm, rfl⟩ := find b _ z
        have lk : (callEnvC fd s.heap.objs.size a).cells.lookup x = some c := lookup_of_mem_nodup (hnd _) hm
        have cc := x₁.cell x c lk
        have rp := bindsC_rep (callEnvC fd s.heap.objs.size a).kindOf names Xs vs Loc.none (fun _ => none) (rX.mono (HKeep.tup hk₁)) hlen (fun _ => rfl) x
        cases e
        cases w : Loc.bindsC (callEnvC fd s.heap.objs.size a).kindOf names Xs Loc.none x with
        | none =>
          rw [w] at rp
          have rp' : bindC (callEnvC fd s.heap.objs.size a).kindOf (names.zip vs) (fun _ => none) x = none := rp
          rw [rp'] at cc
          exact cc
        | some Y =>
          rw [w] at rp
          obtain ⟨v, hv, hr⟩ := rp
          rw [hv] at cc
          exact ⟨v, cc, hr⟩
    · unfold cellStore at e
      cases z : (cellsFrom (s.heap.objs.size + 1) fd.scope.names []).find? (fun p => p.2 == b) with
      | none => rw [z] at e; exact H.new b y e
      | some p =>
        obtain ⟨x, c⟩ := p
        obtain ⟨hm, rfl⟩ := find b _ z
        exact H.base_new (nw _ (Nat.le_of_succ_le (ad x c hm)))
  have F₁ : Frm C (cellStore σ (cellsFrom (s.heap.objs.size + 1) fd.scope.names []) (Loc.bindsC (callEnvC fd s.heap.objs.size a).kindOf names Xs Loc.none)) h₁ (callEnvC fd s.heap.objs.size a).locals (Loc.bindsK (callEnvC fd s.heap.objs.size a).kindOf names Xs Loc.none) := by
    refine ⟨⟨_, x₁.toInCall.ns, fun y Y e => bindsK_rep _ names Xs vs Loc.none (fun _ => none) (rX.mono (HKeep.tup hk₁)) hlen (fun _ _ e => by cases e) y Y e⟩, ?_, H.base_new (nw _ (Nat.le_refl _))⟩
    show cellStore _ _ _ s.heap.objs.size = none
    unfold cellStore
    cases z : (cellsFrom (s.heap.objs.size + 1) fd.scope.names []).find? (fun p => p.2 == s.heap.objs.size) with
    | none => exact H.off_new (nw _ (Nat.le_refl _))
    | some p =>
      obtain ⟨x, c⟩ := p
      obtain ⟨hm, e⟩ := find _ _ z
      have := ad x c hm
      dsimp only at e
      exact absurd (e ▸ this) (Nat.lt_irrefl _)
  have G₁ : ∀ σ' h', Go (cellStore σ (cellsFrom (s.heap.objs.size + 1) fd.scope.names []) (Loc.bindsC (callEnvC fd s.heap.objs.size a).kindOf names Xs Loc.none)) (· = s.heap.objs.size) h₁ σ' h' → ∀ σ'', (∀ a x, σ'' a = some x → σ' a = some x) → Go σ (fun _ => False) s.heap σ'' h' := by
    intro σ' h' g σ'' hs
    have off : ∀ b o, s.heap.get? b = some o → (cellsFrom (s.heap.objs.size + 1) fd.scope.names []).find? (fun p => p.2 == b) = none := fun b o e => by
      cases z : (cellsFrom (s.heap.objs.size + 1) fd.scope.names []).find? (fun p => p.2 == b) with
      | none => rfl
      | some p =>
        obtain ⟨x, c⟩ := p
        obtain ⟨hm, rfl⟩ := find b _ z
        exact absurd (Nat.lt_of_lt_of_le (Heap.lt_size e) (Nat.le_of_succ_le (ad x c hm))) (Nat.lt_irrefl _)
    refine ⟨fun b o e n _ => g.keep b o (hk₁ b o e) ?_ (Nat.ne_of_lt (Heap.lt_size e)), fun b o i n e c d => g.tup b o i n (hk₁ b o e) c d, fun b o e => g.live b o (hk₁ b o e), fun b e => ?_⟩
    · unfold cellStore; rw [off b o e]; exact n
    · obtain ⟨x, hx⟩ := Option.ne_none_iff_exists'.mp e
      cases z : s.heap.get? b with
      | none => exact .inr rfl
      | some o =>
        left
        rcases g.dom b (by rw [hs b x hx]; simp) with w | w
        · unfold cellStore at w; rw [off b o z] at w; exact w
        · rw [hk₁ b o z] at w; cases w
  refine h s.heap.objs.size (H.off_new (nw _ (Nat.le_refl _))) (fun c hc => H.off_new (nw _ (Nat.le_of_lt hc))) (A.deeper (callEnvC fd s.heap.objs.size a)) _ _ _ (R.call _ ⟨hgen, hco, hbl, hgl⟩) H₁ F₁ fun f X ρ' σ' h' tk' r' H' F' G' p => ?_
  have fin : ∀ v Y, Rep h' v Y → Drop Φ Y σ' → Q v { s with heap := h', toks := tk' } := fun v Y rv p => by
    obtain ⟨σ'', hs, p⟩ := p
    exact q v Y σ'' h' tk' rv (H'.sub hs) (G₁ σ' h' G' σ'' hs) p
  cases r' with
  | next => exact fin _ _ .none p
  | brk => exact fin _ _ .none p
  | cont => exact fin _ _ .none p
  | ret r => exact fin _ _ r p

theorem Room.make {A : Around} (R : Room A (n + 1)) (cl : Addr) (args : List Value) : Room (A.under (.builtin "type.__call__" ⟨.ref cl :: args, []⟩)) n := by
  obtain ⟨a, b, c, e, l, d, pe⟩ := R
  refine ⟨a, ?_, ?_, e, l, ?_, pe⟩
  · have : (Code.builtin "type.__call__" ⟨.ref cl :: args, []⟩).weight = 1 := by rfl
    show A.depth + (Code.builtin "type.__call__" ⟨.ref cl :: args, []⟩).weight + 2 * n < recursionLimit
    omega
  · have : (Code.builtin "type.__call__" ⟨.ref cl :: args, []⟩).cUnits = 1 := by rfl
    show A.units + (Code.builtin "type.__call__" ⟨.ref cl :: args, []⟩).cUnits + 10 * n + 300 < cLine
    omega
  · have e1 : (A.under (.builtin "type.__call__" ⟨.ref cl :: args, []⟩)).frames = pushEnvs (Code.envs (.builtin "type.__call__" ⟨.ref cl :: args, []⟩)) A.frames := rfl
    have e2 : Code.envs (.builtin "type.__call__" ⟨.ref cl :: args, []⟩) = [] := rfl
    rw [e1, e2, d]; rfl
theorem TC_cls {Cl fI : Addr} {Xs : List V} {Φ : V → Store → Prop} (hm : makesIn C.K Cl = true) (hi : findIn C.K (.ref Cl) "__init__" = some (some (.ref fI))) (hf : typeIn C.K (.ref fI) = some (.type "function"))
    (h : ∀ x dx, σ x = none → σ dx = none → x ≠ dx → TCc C n ((σ.set dx (.ns [])).set x (.inst Cl dx)) fI (.ref x :: Xs) fun X σ' => X = .none ∧ Φ (.ref x) σ') : TC C (n + 1) σ (.ref Cl) Xs Φ := by
  intro A s fv vs Q E R H rf rX q
  refine rf.ref_elim ?_
  have KI := H.kin
  obtain ⟨hh, g, d, t, os⟩ := s
  dsimp only at *
  have k1 := HKeep.push hh emptyDict
  have k2 := HKeep.push (hh.push emptyDict) (instObj Cl hh.objs.size)
  have n1 := heap_new hh
  have sz : (hh.push emptyDict).objs.size = hh.objs.size + 1 := Heap.size_push ..
  have n2 : (hh.push emptyDict).get? (hh.objs.size + 1) = none := by rw [← sz]; exact heap_new _
  have n3 : hh.get? (hh.objs.size + 1) = none := Heap.get?_none_of_le (Nat.le_succ _)
  have H1 : Holds C (σ.set hh.objs.size (.ns [])) (hh.push emptyDict) := H.alloc k1 n1 ⟨[], 0, Heap.get?_push_size _ rfl, .nil⟩
  have H2 : Holds C ((σ.set hh.objs.size (.ns [])).set (hh.objs.size + 1) (.inst Cl hh.objs.size)) ((hh.push emptyDict).push (instObj Cl hh.objs.size)) :=
    H1.alloc k2 n2 (by show _ = _; rw [← sz]; exact Heap.get?_push_size _ rfl)
  have G2 : Go σ (fun _ => False) hh ((σ.set hh.objs.size (.ns [])).set (hh.objs.size + 1) (.inst Cl hh.objs.size)) ((hh.push emptyDict).push (instObj Cl hh.objs.size)) := (Go.alloc k1 n1).trans (Go.alloc k2 n2)
  refine wpAny_call (make_core (makes_of KI hm) (looks_findIn KI hi) (fun self => bind_fn KI self hf) (.inl rfl) ?_)
  have hc := h (hh.objs.size + 1) hh.objs.size (H.off_new n3) (H.off_new n1) (Nat.succ_ne_self _)
  have w := hc (A.under (.builtin "type.__call__" ⟨.ref Cl :: vs, []⟩)) ⟨(hh.push emptyDict).push (instObj Cl hh.objs.size), g, d, t, os⟩ (.ref (hh.objs.size + 1) :: vs)
    (fun v s' => v = .none ∧ Q (.ref (hh.objs.size + 1)) s') E (R.make Cl vs) H2 (.cons (.ref _) ((rX.mono k1.tup).mono k2.tup)) (fun r R' σ' h' tk' r' H' G' p => by
      obtain ⟨rfl, p⟩ := p
      refine r'.none_elim ?_
      exact ⟨rfl, q _ _ σ' h' tk' (.ref _) H' (G2.trans G') p⟩)
  refine codeAny_mono w fun r s' z => ?_
  rcases r with e | (_ | _ | _ | v)
  · exact z
  · exact z
  · exact z
  · exact z
  · exact ⟨z.1, z.2⟩
end
end
section
open PySem PySem.W PySem.Calls PyProof.Rows PySem.Spec
section
variable {C : Cx} {n : Nat} {env : Env} {ρ : Loc} {σ : Store}

theorem TE_sub {v i : Expr} {pos : Pos} {Φ : V → Store → Prop} (h : TE C n env ρ σ v fun X σ₁ => TE C n env ρ σ₁ i fun Y σ₂ => TO2 C n σ₂ (subscriptTail v i) X Y Φ) : TE C n env ρ σ (.Subscript v i pos) Φ := by
  intro A s Q E R H F q
  refine Subscript_ (h A s _ E R H F fun v X σ₁ h₁ tk₁ r₁ H₁ F₁ G₁ p₁ => ?_)
  refine p₁ A _ _ E R H₁ F₁ fun v₂ X₂ σ₂ h₂ tk₂ r₂ H₂ F₂ G₂ p₂ => ?_
  exact p₂ A _ _ _ _ E R H₂ (r₁.mono G₂.tup) r₂ fun r R' σ₃ h₃ tk₃ r₃ H₃ G₃ p₃ => q _ _ σ₃ h₃ tk₃ r₃ H₃ (F₂.go G₃) ((G₁.trans G₂).trans (frm_go F₂ G₃)) p₃

theorem isList_of {h : Heap} {a : Addr} {vs : List Value} {k : Nat} (e : h.get? a = some (listOf vs.toArray k)) : h.IsList a vs.toArray := ⟨_, e, rfl, k, rfl⟩

theorem O_itemT {v i : Expr} {Xs : List V} {k : Int} {j : Nat} {Y : V} {Φ : V → Store → Prop} (hlo : -(2 ^ 63) ≤ k) (hhi : k < 2 ^ 63) (hj : seqIndex? k Xs.length = some j) (hy : Xs[j]? = some Y) (h : Φ Y σ)
    (hs : ∀ t u, subscripted i false (.ref t) (.int k u) = operate [.ref t, .int k u] (getItem (.ref t) (.int k u)) := by intro _ _; with_unfolding_all rfl) : TO2 C n σ (subscriptTail v i) (.tuple Xs) (.int k) Φ := by
  intro A s x y Q E R H rx ry q
  refine ry.int_elim fun _ => ?_
  refine rx.tup_elim fun c vs ht rl => ?_
  · obtain ⟨w, h1, h2⟩ := rl.get hy
    exact item_tupleT ht hlo hhi (by rw [rl.length]; exact hj) h1 (q _ _ σ _ s.toks h2 H (.refl ..) h) (hs _ _)
theorem O_itemL {v i : Expr} {a : Addr} {Xs : List V} {k : Int} {Y : V} {Φ : V → Store → Prop} (ha : σ a = some (.list Xs)) (h0 : 0 ≤ k) (hhi : k < 2 ^ 63) (hy : Xs[k.toNat]? = some Y) (h : Φ Y σ)
    (hs : ∀ t u, subscripted i false (.ref t) (.int k u) = operate [.ref t, .int k u] (getItem (.ref t) (.int k u)) := by intro _ _; with_unfolding_all rfl) : TO2 C n σ (subscriptTail v i) (.ref a) (.int k) Φ := by
  intro A s x y Q E R H rx ry q
  refine ry.int_elim fun _ => ?_; refine rx.ref_elim ?_
  obtain ⟨vs, c, h1, rl⟩ := H.obj _ _ ha
  obtain ⟨w, h3, h4⟩ := rl.get hy
  have il := isList_of h1
  exact tail_any il.typeIs slot_list_getitem.lookup (wpAny_getItem_list il h0 hhi (by simpa using h3) (q _ _ σ _ s.toks h4 H (.refl ..) h)) (hs _ _)
theorem O_itemLneg {v i : Expr} {a : Addr} {Xs : List V} {k : Int} {Y : V} {Φ : V → Store → Prop} (ha : σ a = some (.list Xs)) (h0 : k < 0) (h1 : -(Xs.length : Int) ≤ k) (hlo : -(2 ^ 63) ≤ k) (hy : Xs[(k + Xs.length).toNat]? = some Y) (h : Φ Y σ)
    (hs : ∀ t u, subscripted i false (.ref t) (.int k u) = operate [.ref t, .int k u] (getItem (.ref t) (.int k u)) := by intro _ _; with_unfolding_all rfl) : TO2 C n σ (subscriptTail v i) (.ref a) (.int k) Φ := by
  intro A s x y Q E R H rx ry q
  refine ry.int_elim fun _ => ?_; refine rx.ref_elim ?_
  obtain ⟨vs, c, e1, rl⟩ := H.obj _ _ ha
  obtain ⟨w, h3, h4⟩ := rl.get hy
  have il := isList_of e1
  have z : vs.toArray.size = Xs.length := by rw [List.size_toArray, rl.length]
  exact tail_any il.typeIs slot_list_getitem.lookup (wpAny_getItem_list_neg il h0 (by rw [z]; exact h1) hlo (by rw [z]; simpa using h3) (q _ _ σ _ s.toks h4 H (.refl ..) h)) (hs _ _)
theorem O_itemS {v i : Expr} {x : Str} {k : Int} {c : Nat} {Φ : V → Store → Prop} (h0 : 0 ≤ k) (hhi : k < 2 ^ 63) (hc : x.cps[k.toNat]? = some c) (h : Φ (.str ⟨#[c]⟩) σ)
    (hs : ∀ t u, subscripted i false (.str x t) (.int k u) = operate [.str x t, .int k u] (getItem (.str x t) (.int k u)) := by intro _ _; with_unfolding_all rfl) : TO2 C n σ (subscriptTail v i) (.str x) (.int k) Φ := by
  intro A s xv yv Q E R H rx ry q
  refine ry.int_elim fun _ => ?_; refine rx.str_elim fun _ => ?_
  refine tail_any (T := "str") (typeIs_str s _ _) slot_str_getitem.lookup (PySem.P.getItem_str ?_ ?_ (q _ _ σ _ _ (.str _ _) H (.refl ..) h)) (hs _ _)
  · simp only [Bool.or_eq_false_iff, decide_eq_false_iff_not]; omega
  · have hl : k.toNat < x.length := by
      have := Array.getElem?_eq_some_iff.mp hc
      obtain ⟨hlt, _⟩ := this
      exact hlt
    have : seqIndex? k x.length = some k.toNat := by
      unfold seqIndex?
      have h1 : ¬ k < 0 := by omega
      have h2 : k < (x.length : Int) := by omega
      simp only [h1, if_false, h0, h2, decide_true, Bool.and_self, if_true]
    rw [this]; exact hc

theorem RepL.drop {h : Heap} : ∀ {vs : List Value} {xs : List V} (k : Nat), RepL h vs xs → RepL h (vs.drop k) (xs.drop k)
  | _, _, 0, r => by simpa using r
  | _, _, _ + 1, .nil => .nil
  | _, _, k + 1, .cons _ l => l.drop k
theorem TE_sliceT {v : Expr} {a kk : Nat} {p p1 pos : Pos} {Φ : V → Store → Prop} (h : TE C n env ρ σ v fun X σ₁ => ∃ Xs, X = .tuple Xs ∧ 1 ≤ a ∧ a ≤ Xs.length ∧ Xs.length ≤ 100000 ∧ Φ (.tuple (Xs.drop a)) σ₁)
    (ht : ∀ o r, letTemporaryGo v o r = pure () := by intro _ _; rfl) : TE C n env ρ σ (.Subscript v (.Slice (some (.Constant (.int a) kk p1)) none none p) pos) Φ := by
  intro A s Q E R H F q
  refine wpAny_Subscript_Slice (T := "tuple") slot_tuple_getitem.lookup (h A s _ E R H F fun o X σ₁ h₁ tk₁ r₁ H₁ F₁ G₁ p₁ => ?_) ht
  obtain ⟨Xs, rfl, ha, hb, hz, pf⟩ := p₁
  refine r₁.tup_elim fun t vs ht rl => ?_
  · refine wpAny_Slice ?_
    rw [evalPart_some, evalPart_none]
    refine wpAny_Constant_int (wpAny_pure (wpAny_pure ⟨?_, ?_⟩))
    · exact (ht.push _).typeIs
    · have e : vs.toArray.size = Xs.length := by rw [List.size_toArray, rl.length]
      have k1 := HKeep.push h₁ { cls := .type "slice", data := .fields #[.int a tk₁, .none, .none] }
      have k2 := HKeep.push (h₁.push { cls := .type "slice", data := .fields #[.int a tk₁, .none, .none] }) { cls := .type "tuple", data := .seq (vs.toArray.toList.drop a).toArray }
      have kk : HKeep h₁ ((h₁.push { cls := .type "slice", data := .fields #[.int a tk₁, .none, .none] }).push { cls := .type "tuple", data := .seq (vs.toArray.toList.drop a).toArray }) := fun b o e => k2 b o (k1 b o e)
      have G := Go.of_keep (σ := σ₁) (F := fun _ => False) kk
      refine getItem_tuple_from (s := { s with heap := h₁.push { cls := .type "slice", data := .fields #[.int a tk₁, .none, .none] }, toks := tk₁ + 1 }) (u := tk₁) (ht.push _) (Heap.IsSliceOf.new ..) ha (by rw [e]; exact hb) ?_ (by rw [e]; exact Nat.le_trans hz sizeLine_big)
      refine q _ _ σ₁ _ (tk₁ + 1) ?_ (H₁.keeps kk) (F₁.go G) (G₁.trans (frm_go F₁ G)) pf
      have rd := rl.drop a
      have := rep_newTuple (rd.mono k1.tup)
      simpa using this

theorem rev_places (m : Nat) : Builtin.Slice.slicePlaces ((m : Int) - 1) (-1) (-1) = m := by
  unfold Builtin.Slice.slicePlaces
  have h1 : ¬ ((-1 : Int) > 0) := by omega
  simp only [h1, if_false]
  split
  · rw [show (-(-1 : Int)) = 1 by omega, Int.ediv_one]; omega
  · omega
theorem rev_pick (xs : Array Value) : ((List.range xs.size).filterMap fun (k : Nat) => xs[(((xs.size : Int) - 1) + (k : Int) * (-1)).toNat]?).toArray = xs.toList.reverse.toArray := by
  have e : (fun (k : Nat) => xs[(((xs.size : Int) - 1) + (k : Int) * (-1)).toNat]?) = (fun i => xs[i]?) ∘ fun k => xs.size - 1 - k := by
    funext k
    have : (((xs.size : Int) - 1) + (k : Int) * (-1)).toNat = xs.size - 1 - k := by omega
    rw [this]; rfl
  rw [e, ← List.filterMap_map, krv_range, List.filterMap_reverse, krv_all]
theorem getItem_tuple_rev {A : Around} {E : Value → Shared → Prop} {s : Shared} {t sl : Addr} {items : Array Value} {u : Tok} {Q : Value → Shared → Prop} (ht : IsTup s.heap t items) (hs : s.heap.IsSliceOf sl .none .none (.int (-1) u))
    (h : Q (.ref s.heap.objs.size) { s with heap := s.heap.push { cls := .type "tuple", data := .seq items.toList.reverse.toArray } })
    (hsz : items.size ≤ sizeLine) : wpAny (model C.prog C.w) A (getItem (.ref t) (.ref sl)) Q E s := by
  have hrev : sizeOk (.seq items.toList.reverse.toArray) := by
    show items.toList.reverse.toArray.size ≤ sizeLine
    simpa using hsz
  obtain ⟨os, hos, hcs, hds⟩ := id hs
  have hTs : s.TypeIs (.ref sl) "slice" := ⟨os, hos, hcs⟩
  unfold getItem
  try with_reducible refine wpAny_holding ?_
  first | refine wpAny_bind (wpAny_pure ?_) | skip
  refine wpAny_bind (wpAny_sequenceKey ht.typeIs (by decide) ?_)
  refine wpAny_bind (wpAny_callSpecial?_slot (name := Str.ofString "__getitem__") ht.typeIs slot_tuple_getitem
    (wpAny_call_entry slot_tuple_getitem ht.typeIs entry_tuple_getitem ?_ (args_tuple_getitem _ _)))
  show wpAny _ _ (Builtin.Tuple.tupleItemsOf (.ref t) >>= _) _ _ s
  refine wpAny_bind (tupleItemsOf_ ht ?_)
  refine wpAny_bind (wpAny_typeOf hTs ?_)
  rw [if_pos (by decide)]
  have app : ∀ {Q' : Int × Int × Nat → Shared → Prop} {E'} {A'}, Q' ((items.size : Int) - 1, -1, items.size) s → wpAny (model C.prog C.w) A' (Builtin.Slice.sliceApplied (.ref sl) (pure (items.size : Int))) Q' E' s := by
    intro Q' E' A' hq
    unfold Builtin.Slice.sliceApplied Builtin.Slice.sliceFields
    refine wpAny_bind (wpAny_bind (wpAny_field hos hds (x := .none) rfl (wpAny_bind (wpAny_field hos hds (x := .none) rfl (wpAny_bind (wpAny_field hos hds (x := .int (-1) u) rfl (wpAny_pure ?_)))))))
    refine wpAny_bind (slicePart_int ?_)
    show wpAny _ _ (if ((-1 : Int) == 0) = true then _ else _) _ _ s
    rw [if_neg (by decide)]
    refine wpAny_bind (slicePart_none (wpAny_bind (slicePart_none (wpAny_bind (wpAny_pure ?_)))))
    show wpAny _ _ (pure ((items.size : Int) - 1, (-1 : Int), Builtin.Slice.slicePlaces ((items.size : Int) - 1) (-1) (-1))) _ _ s
    rw [rev_places]
    exact wpAny_pure hq
  refine wpAny_bind (app ?_)
  have hno : ¬ ((((items.size : Int) - 1) == 0 && (-1 : Int) == 1 && items.size == items.size) = true) := by simp
  show wpAny _ _ (if (((items.size : Int) - 1) == 0 && (-1 : Int) == 1 && items.size == items.size) = true then _ else _) _ _ s
  rw [if_neg hno, rev_pick]
  first
    | exact wpAny_bind (m := Builtin.Tuple.tupleExact _) (wpAny_newObj_type (wpAny_pure ⟨_, rfl, wpAny_pure h⟩) hrev)
    | exact wpAny_bind (m := Builtin.Tuple.tupleExact _) (wpAny_newObj_type (wpAny_bind (wpAny_pure (wpAny_pure ⟨_, rfl, wpAny_pure h⟩))) hrev)
    | exact wpAny_bind (wpAny_bind (m := Builtin.Tuple.tupleExact _) (wpAny_newObj_type (wpAny_pure (wpAny_pure ⟨_, rfl, wpAny_pure h⟩)) hrev))
    | exact wpAny_bind (wpAny_bind (m := Builtin.Tuple.tupleExact _) (wpAny_newObj_type (wpAny_pure ⟨_, rfl, wpAny_pure h⟩) hrev))
theorem TE_sliceRev {v : Expr} {kk : Nat} {p p1 p2 pos : Pos} {Φ : V → Store → Prop} (h : TE C n env ρ σ v fun X σ₁ => ∃ Xs, X = .tuple Xs ∧ Xs.length ≤ 100000 ∧ Φ (.tuple Xs.reverse) σ₁)
    (ht : ∀ o r, letTemporaryGo v o r = pure () := by intro _ _; rfl) : TE C n env ρ σ (.Subscript v (.Slice none none (some (.UnaryOp .USub (.Constant (.int 1) kk p1) p2)) p) pos) Φ := by
  intro A s Q E R H F q
  refine wpAny_Subscript_Slice_step (T := "tuple") slot_tuple_getitem.lookup (h A s _ E R H F fun o X σ₁ h₁ tk₁ r₁ H₁ F₁ G₁ p₁ => ?_) ht
  obtain ⟨Xs, rfl, hz, pf⟩ := p₁
  refine r₁.tup_elim fun t vs ht rl => ?_
  · refine wpAny_Slice ?_
    rw [evalPart_some, evalPart_none]
    refine wpAny_pure (wpAny_pure (UnaryOp_ (wpAny_Constant_int (PySem.P.neg_int ⟨?_, ?_⟩))))
    · exact (ht.push _).typeIs
    · have e : vs.toArray.size = Xs.length := by rw [List.size_toArray, rl.length]
      have k1 := HKeep.push h₁ { cls := .type "slice", data := .fields #[.none, .none, .int (-1) (tk₁ + 1)] }
      have k2 := HKeep.push (h₁.push { cls := .type "slice", data := .fields #[.none, .none, .int (-1) (tk₁ + 1)] }) { cls := .type "tuple", data := .seq vs.toArray.toList.reverse.toArray }
      have kk : HKeep h₁ ((h₁.push { cls := .type "slice", data := .fields #[.none, .none, .int (-1) (tk₁ + 1)] }).push { cls := .type "tuple", data := .seq vs.toArray.toList.reverse.toArray }) := fun b o e => k2 b o (k1 b o e)
      have G := Go.of_keep (σ := σ₁) (F := fun _ => False) kk
      refine getItem_tuple_rev (s := { s with heap := h₁.push { cls := .type "slice", data := .fields #[.none, .none, .int (-1) (tk₁ + 1)] }, toks := tk₁ + 1 + 1 }) (u := tk₁ + 1) (ht.push _) (Heap.IsSliceOf.new ..) ?_ (by rw [e]; exact Nat.le_trans hz sizeLine_big)
      refine q _ _ σ₁ _ (tk₁ + 1 + 1) ?_ (H₁.keeps kk) (F₁.go G) (G₁.trans (frm_go F₁ G)) pf
      have := rep_newTuple (rl.reverse.mono k1.tup)
      simpa using this
theorem RepL.take {h : Heap} : ∀ {vs : List Value} {xs : List V} (k : Nat), RepL h vs xs → RepL h (vs.take k) (xs.take k)
  | _, _, 0, _ => by simpa using RepL.nil
  | _, _, _ + 1, .nil => .nil
  | _, _, k + 1, .cons a l => .cons a (l.take k)
theorem TE_sliceL {v : Expr} {a kk : Nat} {p p1 pos : Pos} {Φ : V → Store → Prop} (h : TE C n env ρ σ v fun X σ₁ => ∃ l Xs, X = .ref l ∧ σ₁ l = some (.list Xs) ∧ Xs.length ≤ 100000 ∧ ∀ c, σ₁ c = none → c ≠ env.locals → Φ (.ref c) (σ₁.set c (.list (Xs.take a))))
    (ht : ∀ o r, letTemporaryGo v o r = pure () := by intro _ _; rfl) : TE C n env ρ σ (.Subscript v (.Slice none (some (.Constant (.int a) kk p1)) none p) pos) Φ := by
  intro A s Q E R H F q
  refine wpAny_Subscript_list_slice (h A s _ E R H F fun o X σ₁ h₁ tk₁ r₁ H₁ F₁ G₁ p₁ => ?_) ht
  obtain ⟨l, Xs, rfl, hl, hz, pf⟩ := p₁
  refine r₁.ref_elim ?_
  obtain ⟨vs, c, e1, rl⟩ := H₁.obj _ _ hl
  rw [evalPart_some, evalPart_none]
  refine wpAny_pure (wpAny_Constant_int ⟨l, vs.toArray, none, some (a : Int), rfl, isList_of e1, ?_, .none, .int _ _, ?_⟩)
  · rw [List.size_toArray, rl.length]; exact Nat.le_trans hz sizeLine_big
  · have e : slicePick vs.toArray none (some (a : Int)) none = (vs.take a).toArray := by rw [slicePick_upto']
    have k1 := HKeep.push h₁ { cls := .type "slice", data := .fields #[.none, .int a tk₁, .none] }
    have k2 := HKeep.push (h₁.push { cls := .type "slice", data := .fields #[.none, .int a tk₁, .none] }) { cls := .type "list", data := .seq (slicePick vs.toArray none (some (a : Int)) none) }
    have kk : HKeep h₁ ((h₁.push { cls := .type "slice", data := .fields #[.none, .int a tk₁, .none] }).push { cls := .type "list", data := .seq (slicePick vs.toArray none (some (a : Int)) none) }) := fun b o e => k2 b o (k1 b o e)
    have sz : (h₁.push { cls := .type "slice", data := .fields #[.none, .int a tk₁, .none] }).objs.size = h₁.objs.size + 1 := Heap.size_push ..
    have nw : h₁.get? (h₁.objs.size + 1) = none := Heap.get?_none_of_le (Nat.le_succ _)
    have ne : h₁.objs.size + 1 ≠ env.locals := fun e => by
      obtain ⟨⟨m, hm, _⟩, _⟩ := F₁
      have hl := hm.lt
      rw [← e] at hl
      exact Nat.lt_irrefl _ (Nat.lt_of_succ_lt hl)
    have G := Go.alloc (σ := σ₁) (F := fun _ => False) (x := .list (Xs.take a)) kk nw
    refine q _ _ _ _ (tk₁ + 1) (.ref _) (H₁.alloc (x := .list (Xs.take a)) kk nw ⟨vs.take a, 0, ?_, (rl.take a).mono kk.tup⟩) (F₁.go G) (G₁.trans (frm_go F₁ G)) (pf _ (H₁.off_new nw) ne)
    show _ = some (listOf (vs.take a).toArray 0)
    rw [← sz, e]
    exact Heap.get?_push_size _ rfl
theorem TE_sliceS {v : Expr} {a kk : Nat} {p p1 pos : Pos} {Φ : V → Store → Prop} (h : TE C n env ρ σ v fun X σ₁ => ∃ x, X = .str x ∧ x.length ≤ sizeLine ∧ Φ (.str (Txt.slice x none (some (a : Int)))) σ₁)
    (ht : ∀ o r, letTemporaryGo v o r = pure () := by intro _ _; rfl) : TE C n env ρ σ (.Subscript v (.Slice none (some (.Constant (.int a) kk p1)) none p) pos) Φ := by
  intro A s Q E R H F q
  refine wpAny_Subscript_str_slice (h A s _ E R H F fun o X σ₁ h₁ tk₁ r₁ H₁ F₁ G₁ p₁ => ?_) ht
  obtain ⟨x, rfl, hz, pf⟩ := p₁
  refine r₁.str_elim fun t => ?_
  rw [evalPart_some, evalPart_none]
  refine wpAny_pure (wpAny_Constant_int ⟨x, t, none, some ((a : Int), tk₁), rfl, rfl, rfl, ?_⟩)
  have k1 := HKeep.push h₁ { cls := .type "slice", data := .fields #[.none, .int a tk₁, .none] }
  have G := Go.of_keep (σ := σ₁) (F := fun _ => False) k1
  refine post_val_or_str ⟨Nat.le_trans (Txt.slice_le x _ _) hz, fun t' k => q _ _ σ₁ _ k (.str _ _) (H₁.keeps k1) (F₁.go G) (G₁.trans (frm_go F₁ G)) pf⟩
end
end
section
open PySem PySem.W PySem.Calls PyProof.Rows PySem.Spec
section
variable {C : Cx} {n : Nat} {env : Env} {ρ : Loc} {σ : Store}

theorem list_turn {h : Heap} {a : Addr} {its : Array Value} {k : Nat} (f : Array Value → Array Value) (e : h.get? a = some (listOf its k)) : ∃ k', (h.update a (Obj.mapSeq f)).get? a = some (listOf (f its) k') := by
  refine ⟨if (f its).size == its.size then k else k + 1, ?_⟩
  rw [Heap.get?_update_self _ e rfl]
  rfl
theorem list_upd {h : Heap} {a : Addr} {vs : List Value} {k : Nat} {Xs Ys : List V} (f : Array Value → Array Value) (H : Holds C σ h) (hx : σ a = some (.list Xs)) (e : h.get? a = some (listOf vs.toArray k)) {ws : List Value} (hf : f vs.toArray = ws.toArray) (r : RepL h ws Ys) :
    Holds C (σ.set a (.list Ys)) (h.update a (Obj.mapSeq f)) ∧ Go σ (fun _ => False) h (σ.set a (.list Ys)) (h.update a (Obj.mapSeq f)) := by
  obtain ⟨k', e'⟩ := list_turn f e
  rw [hf] at e'
  have SB : Heap.SameBut a h (h.update a (Obj.mapSeq f)) := Heap.SameBut.update ..
  have G : Go σ (fun _ => False) h (σ.set a (.list Ys)) (h.update a (Obj.mapSeq f)) := Go.upd SB e e' (by rw [hx]; simp) fun q => absurd (show Value.type "list" = Value.type "tuple" from q) (by simp)
  exact ⟨H.upd (by rw [hx]; simp) SB G.tup ⟨ws, k', e', r.mono G.tup⟩, G⟩

theorem B_append {a : Addr} {Xs : List V} {Y : V} {Φ : V → Store → Prop} (ha : σ a = some (.list Xs)) (hz : Xs.length ≤ sizeLine) (h : Φ .none (σ.set a (.list (Xs ++ [Y])))) : TC C n σ (.bltn "list.append") [.ref a, Y] Φ :=
  TC_2 Rep.bltn_inv fun A s v y Q E R H ra rY q => ra.ref_elim ((H.obj _ _ ha).elim fun vs t => t.elim fun k t => by
    have u := list_upd (fun x => x.push y) H ha t.1 (ws := vs ++ [y]) (List.push_toArray ..) (t.2.append (.cons rY .nil))
    exact call_meets PySem.F.slot_list_append ⟨_, t.1, rfl⟩ PySem.F.entry_list_append (PySem.F.args_list_append_2 _ _) (PySem.list_append a vs.toArray k y (by rw [List.size_toArray, t.2.length]; exact hz)) ⟨t.1, q _ _ _ _ s.toks .none u.1 u.2 h⟩)
theorem B_extend {a b : Addr} {Xs Ys : List V} {Φ : V → Store → Prop} (ha : σ a = some (.list Xs)) (hb : σ b = some (.list Ys)) (hz : Xs.length + Ys.length ≤ sizeLine) (h : Φ .none (σ.set a (.list (Xs ++ Ys)))) : TC C n σ (.bltn "list.extend") [.ref a, .ref b] Φ :=
  TC_2 Rep.bltn_inv fun A s v w Q E R H ra rY q => ra.ref_elim (rY.ref_elim ((H.obj _ _ ha).elim fun vs t => t.elim fun k t => (H.obj _ _ hb).elim fun ws t2 => t2.elim fun k2 t2 => by
    have u := list_upd (fun x => x ++ ws.toArray) H ha t.1 (ws := vs ++ ws) (List.append_toArray ..) (t.2.append t2.2)
    have hz' : vs.toArray.size + ws.toArray.size ≤ sizeLine := by rw [List.size_toArray, List.size_toArray, t.2.length, t2.2.length]; exact hz
    exact call_meets PySem.F.slot_list_extend ⟨_, t.1, rfl⟩ PySem.F.entry_list_extend (PySem.F.args_list_extend_2 _ _) (AutoSeq1.list_extend_list_list_0 a vs.toArray k b ws.toArray k2 (extend_door hz') (Nat.le_trans (Nat.le_add_right _ _) hz')) ⟨t.1, t2.1, q _ _ _ _ s.toks .none u.1 u.2 h⟩))
theorem RepL.snoc {h : Heap} {Y : V} {vs : List Value} {Xs : List V} : RepL h vs (Xs ++ [Y]) → ∃ ws y, vs = ws ++ [y] ∧ RepL h ws Xs ∧ Rep h y Y := by
  induction Xs generalizing vs with
  | nil => exact fun r => RepL.one r fun v a => ⟨[], v, rfl, .nil, a⟩
  | cons X Xs ih => exact fun r => RepL.cons_elim (X := X) (Xs := Xs ++ [Y]) (Q := fun vs => ∃ ws y, vs = ws ++ [y] ∧ RepL h ws (X :: Xs) ∧ Rep h y Y) r fun v ws a b => (ih b).elim fun us q => q.elim fun y q => ⟨v :: us, y, congrArg (v :: ·) q.1, .cons a q.2.1, q.2.2⟩
theorem B_pop {a : Addr} {Xs : List V} {Y : V} {Φ : V → Store → Prop} (ha : σ a = some (.list (Xs ++ [Y]))) (hz : Xs.length + 1 ≤ sizeLine) (h : Φ Y (σ.set a (.list Xs))) : TC C n σ (.bltn "list.pop") [.ref a] Φ :=
  TC_1 Rep.bltn_inv fun A s v Q E R H ra q => ra.ref_elim ((H.obj _ _ ha).elim fun vs t => t.elim fun k t => by
    obtain ⟨ws, y, rfl, r1, r2⟩ := t.2.snoc
    have hk : (ws ++ [y]).toArray.size - 1 = ws.length := by rw [List.size_toArray, List.length_append]; rfl
    have hy : (ws ++ [y]).toArray[(ws ++ [y]).toArray.size - 1]? = some y := by rw [hk, List.getElem?_toArray, List.getElem?_append_right (Nat.le_refl _), Nat.sub_self]; rfl
    have hf : (ws ++ [y]).toArray.eraseIdxIfInBounds ((ws ++ [y]).toArray.size - 1) = ws.toArray := by
      rw [hk, kl_erase ws [] y, List.append_nil]
    have u := list_upd (fun x => x.eraseIdxIfInBounds ((ws ++ [y]).toArray.size - 1)) H ha t.1 hf r1
    exact call_meets PySem.F.slot_list_pop ⟨_, t.1, rfl⟩ PySem.F.entry_list_pop (PySem.F.args_list_pop_1 _) (PySem.MeetsSeq.list_pop_last a _ k y hy (by rw [List.size_toArray, List.length_append, r1.length]; exact hz)) ⟨t.1, q _ _ _ _ s.toks (r2.mono u.2.tup) u.1 u.2 h⟩)

theorem TE_methD {o : Expr} {name : Str} {id : String} {apos pos : Pos} {args : List Expr} {Φ : V → Store → Prop} (slot : Slot "dict" name id) (hty : typeOf (.builtin id) = pure (.type "method_descriptor"))
    (h : TE C n env ρ σ o fun X σ₁ => ∃ x xs, X = .ref x ∧ σ₁ x = some (.sdict xs) ∧ TL C n env ρ σ₁ pos args fun Xs σ₂ => TC C n σ₂ (.bltn id) (.ref x :: Xs) Φ)
    {pl : Sem Bool}
    (he : eval (.Call (.Attribute o name apos) args [] pos) env = (do
      let ov ← eval o env
      standAt apos.atName
      let (f, first) ← holding [ov] (getMethod ov name pl)
      callWith pos f first (backTo pos (starEach args env)) []) := by rfl)
    (hst : args = [] ∨ ∃ e es, args = e :: es ∧ starEach (e :: es) env = (false, eval e env) :: starEach es env := by first | exact .inl rfl | exact .inr ⟨_, _, rfl, rfl⟩)
    (hplain : (backTo pos (starEach args env)).any (·.1) = false := by rfl) : TE C n env ρ σ (.Call (.Attribute o name apos) args [] pos) Φ := by
  intro A s Q E R H F q
  refine MethodCall_ (pl := pl) (h A s _ E R H F fun v X σ₁ h₁ tk₁ r₁ H₁ F₁ G₁ p₁ => ?_) he
  obtain ⟨x, xs, rfl, hx, p⟩ := p₁
  refine r₁.ref_elim ?_
  obtain ⟨kvs, hd, rl⟩ := H₁.obj _ _ hx
  have hd' := hd
  obtain ⟨o, es, ep, e, hex, _⟩ := hd'
  refine getMethod_builtin (s := { s with heap := h₁, toks := tk₁ }) ⟨_, e, hex.1⟩ PySem.F.plainAttrs_dict slot hty (fun a q => by cases q; exact ⟨_, e, hex.2.1⟩) ?_
  refine TC_go (s := { s with heap := h₁, toks := tk₁ }) (Ys := [.ref x]) R H₁ F₁ (.bltn id) (.cons (.ref x) .nil) ?_ p hst hplain fun r R' σ' h' tk' r' H' F' G' p => q r R' σ' h' tk' r' H' F' (G₁.trans G') p
  intro σ' h' H' _ _ _
  exact .plain fun _ e => by cases e

theorem RepL.set {h : Heap} {v : Value} {Y : V} {vs : List Value} {xs : List V} (k : Nat) (l : RepL h vs xs) (r : Rep h v Y) : RepL h (vs.set k v) (xs.set k Y) :=
  RepL.ind (M := fun vs xs => ∀ k, RepL h (vs.set k v) (xs.set k Y)) (fun _ => .nil) (fun w ws x xs a l ih k => by
    cases k with
    | zero => exact .cons r l
    | succ k => exact .cons a (ih k)) xs vs l k
theorem setItem_own {A : Around} {s : Shared} {a : Addr} {Xs : List V} {k : Int} {t : Tok} {v : Value} {Y : V} {Q : Unit → Shared → Prop} {E : Value → Shared → Prop} (H : Holds C σ s.heap) (ha : σ a = some (.list Xs)) (h0 : 0 ≤ k) (hfit : k < 2 ^ 63) (hn : k < Xs.length) (rv : Rep s.heap v Y)
    (q : ∀ h', Holds C (σ.set a (.list (Xs.set k.toNat Y))) h' → Go σ (fun _ => False) s.heap (σ.set a (.list (Xs.set k.toNat Y))) h' → Q () { s with heap := h' }) : wpAny (model C.prog C.w) A (setItem (.ref a) (.int k t) v) Q E s := by
  obtain ⟨vs, c, e, rl⟩ := H.obj _ _ ha
  have il := isList_of e
  have hl := rl.length
  unfold setItem
  try with_reducible refine wpAny_holding ?_
  first | refine wpAny_bind (wpAny_pure ?_) | skip
  refine wpAny_bind (wpAny_sequenceKey il.typeIs (by decide) ?_)
  refine wpAny_bind (wpAny_callSpecial?_slot (name := Str.ofString "__setitem__") il.typeIs slot_list_setitem
    (wpAny_call_entry slot_list_setitem il.typeIs entry_list_setitem ?_ (args_list_setitem _ _ _)))
  show wpAny _ _ (Builtin.List.listSubscript? (.int k t) >>= _) _ _ s
  refine wpAny_bind (wpAny_listSubscript_int (fitsIndex_of h0 hfit) ?_)
  clear hfit
  obtain ⟨j, rfl⟩ := Int.eq_ofNat_of_zero_le h0
  have hj : j < vs.toArray.size := by rw [List.size_toArray]; omega
  have hx' : vs.toArray[j]? = some vs.toArray[j] := Array.getElem?_eq_getElem hj
  have rset := rl.set j rv
  obtain ⟨H', G'⟩ := list_upd (fun x => x.setIfInBounds j v) H ha e (ws := vs.set j v) (by simp) rset
  show wpAny _ _ ((seqItemAt a j >>= fun r => pure (r.map (j, ·))) >>= _) _ _ s
  refine wpAny_bind (wpAny_bind (wpAny_seqItemAt e rfl (wpAny_pure ?_)))
  rw [hx']
  show wpAny _ _ (setSeqItemAt a j v >>= _) _ _ s
  refine wpAny_bind (wpAny_setSeqItemAt e rfl ?_)
  first
    | exact wpAny_bind (wpAny_pure (wpAny_pure ⟨.none, rfl, wpAny_pure (q _ H' G')⟩))
    | exact wpAny_pure ⟨.none, rfl, wpAny_pure (q _ H' G')⟩
theorem TA_itemL {o i : Expr} {pos : Pos} {Y : V} {Φ : Loc → Store → Prop}
    (h : TE C n env ρ σ o fun X σ₁ => TE C n env ρ σ₁ i fun I σ₂ => ∃ a k Xs, X = .ref a ∧ I = .int k ∧ σ₂ a = some (.list Xs) ∧ 0 ≤ k ∧ k < 2 ^ 63 ∧ k < Xs.length ∧ Φ ρ (σ₂.set a (.list (Xs.set k.toNat Y)))) : TA C n env ρ σ (.Subscript o i pos) Y Φ := by
  intro A s v Q E R H F r q
  rw [arm_assign_Subscript]
  refine wpAny_bind (wpAny_holding (h A s _ E R H F fun ov X σ₁ h₁ tk₁ r₁ H₁ F₁ G₁ p₁ => ?_))
  refine wpAny_bind (wpAny_holding (p₁ A { s with heap := h₁, toks := tk₁ } _ E R H₁ F₁ fun iv I σ₂ h₂ tk₂ r₂ H₂ F₂ G₂ p₂ => ?_))
  obtain ⟨a, k, Xs, rfl, rfl, ha, h0, hf, hn, p⟩ := p₂
  refine r₁.ref_elim ?_; refine r₂.int_elim fun _ => ?_
  refine wpAny_bind (wpAny_standAt (wpAny_bind (wpAny_holding ?_)))
  exact setItem_own (s := { s with heap := h₂, toks := tk₂ }) H₂ ha h0 hf hn ((r.mono G₁.tup).mono G₂.tup) fun h' H' G' => wpAny_release' (q _ _ h' tk₂ H' (F₂.go G') ((G₁.trans G₂).trans (frm_go F₂ G')) p)
end
end
section
open PySem PySem.W PySem.Calls PyProof.Rows PySem.Spec
section
variable {C : Cx} {n : Nat} {env : Env} {ρ : Loc} {σ : Store}

theorem B_lenT {Xs : List V} {Φ : V → Store → Prop} (hz : (Xs.length : Int) < 2 ^ 63) (h : Φ (.int Xs.length) σ) : TC C n σ (.bltn "len") [.tuple Xs] Φ :=
  TC_1 Rep.bltn_inv fun A s v Q E R H r q => r.tup_elim fun a vs ht rl => by
    have e : (vs.toArray.size : Int) = Xs.length := by rw [List.size_toArray, rl.length]
    exact PyProof.Rows.len_tuple ht (e ▸ hz) (q _ _ σ _ _ (e ▸ .int _ _) H (.refl ..) h)
theorem B_lenL {a : Addr} {Xs : List V} {Φ : V → Store → Prop} (ha : σ a = some (.list Xs)) (hz : (Xs.length : Int) < 2 ^ 63) (h : Φ (.int Xs.length) σ) : TC C n σ (.bltn "len") [.ref a] Φ :=
  TC_1 Rep.bltn_inv fun A s v Q E R H r q => r.ref_elim ((H.obj _ _ ha).elim fun vs q1 => q1.elim fun k q1 => by
    have z : (vs.toArray.size : Int) = Xs.length := by rw [List.size_toArray, q1.2.length]
    exact call_len_list (isList_of q1.1) (z ▸ hz) (q _ _ σ _ _ (z ▸ .int _ _) H (.refl ..) h))
theorem B_tupleL {a : Addr} {Xs : List V} {Φ : V → Store → Prop} (ha : σ a = some (.list Xs)) (hz : Xs.length ≤ sizeLine) (h : Φ (.tuple Xs) σ) : TC C n σ (.typ "tuple") [.ref a] Φ :=
  TC_1 Rep.typ_inv fun A s v Q E R H r q => r.ref_elim ((H.obj _ _ ha).elim fun vs q1 => q1.elim fun k q1 =>
    call_tuple_list (isList_of q1.1) (fun h' hk =>
      have kk : HKeep s.heap (h'.push { cls := .type "tuple", data := .seq vs.toArray }) := fun b o e => HKeep.push _ _ b o (hk b o e)
      q _ _ σ _ s.toks (rep_newTuple (q1.2.mono (HKeep.tup hk))) (H.keeps kk) (Go.of_keep kk) h) (by rw [List.size_toArray, q1.2.length]; exact hz))
theorem B_tupleT {Xs : List V} {Φ : V → Store → Prop} (h : Φ (.tuple Xs) σ) : TC C n σ (.typ "tuple") [.tuple Xs] Φ :=
  TC_1 Rep.typ_inv fun A s v Q E R H r q => r.tup_elim fun a vs ht rl => call_tuple_tup ht (q _ _ σ _ s.toks (.tuple ht rl) H (.refl ..) h)
theorem B_listT {Xs : List V} {Φ : V → Store → Prop} (hz : Xs.length ≤ sizeLine) (h : ∀ c, σ c = none → Φ (.ref c) (σ.set c (.list Xs))) : TC C n σ (.typ "list") [.tuple Xs] Φ :=
  TC_1 Rep.typ_inv fun A s v Q E R H r q => r.tup_elim fun a vs ht rl => ht.elim fun o t => t.2.2.elim fun k hd =>
    call_list_seq _ (.inr rfl) t.1 t.2.1 hd (fun h' c' hk hD => q _ _ _ _ s.toks (.ref _) (H.alloc (x := .list Xs) hk (heap_new s.heap) ⟨_, c', hD, rl.mono (HKeep.tup hk)⟩) (Go.alloc hk (heap_new s.heap)) (h _ (H.off_new (heap_new s.heap)))) (by rw [List.size_toArray, rl.length]; exact hz)
theorem rng_new {s : Shared} {Q : Value → Shared → Prop} {Φ : V → Store → Prop} {a b d : Int} {t u v : Tok} {tk : Nat} (H : Holds C σ s.heap) (q : ∀ r R σ' h' tk', Rep h' r R → Holds C σ' h' → Go σ (fun _ => False) s.heap σ' h' → Φ R σ' → Q r { s with heap := h', toks := tk' })
    (h : ∀ c, σ c = none → Φ (.ref c) (σ.set c (.rng a b d))) : Q (.ref s.heap.objs.size) { s with heap := s.heap.push { cls := .type "range", data := .fields #[.int a t, .int b u, .int d v] }, toks := tk } :=
  have nw := heap_new s.heap
  have k := HKeep.push s.heap { cls := .type "range", data := .fields #[.int a t, .int b u, .int d v] }
  q _ _ _ _ _ (.ref _) (H.alloc (x := .rng a b d) k nw ⟨_, _, _, Heap.get?_push_size _ rfl⟩) (Go.alloc k nw) (h _ (H.off_new nw))
theorem B_range1 {b : Int} {Φ : V → Store → Prop} (h : ∀ c, σ c = none → Φ (.ref c) (σ.set c (.rng 0 b 1))) : TC C n σ (.typ "range") [.int b] Φ :=
  TC_1 Rep.typ_inv fun A s v Q E R H r q => r.int_elim fun t => call_range_1 (rng_new H q h)
theorem B_range2 {a b : Int} {Φ : V → Store → Prop} (h : ∀ c, σ c = none → Φ (.ref c) (σ.set c (.rng a b 1))) : TC C n σ (.typ "range") [.int a, .int b] Φ :=
  TC_2 Rep.typ_inv fun A s v w Q E R H r r' q => r.int_elim fun t => r'.int_elim fun u => call_range_2 (rng_new H q h)
theorem B_range3 {a b d : Int} {Φ : V → Store → Prop} (hd : d ≠ 0) (hd2 : d.natAbs < 1000) (hp : (b - a).natAbs < 2 ^ 60) (h : ∀ c, σ c = none → Φ (.ref c) (σ.set c (.rng a b d))) : TC C n σ (.typ "range") [.int a, .int b, .int d] Φ :=
  fun A s fv vs Q E R H rf rX q => rf.typ_inv ▸ rX.three fun v w u r1 r2 r3 => r1.int_elim fun t1 => r2.int_elim fun t2 => r3.int_elim fun t3 =>
    call_range_3 hd (rng_new H q h) (.inl (PyProof.noPylong_small (by omega)))
theorem B_abs {a : Int} {Φ : V → Store → Prop} (h : Φ (.int (if a < 0 then -a else a)) σ) : TC C n σ (.bltn "abs") [.int a] Φ :=
  TC_1 Rep.bltn_inv fun A s v Q E R H r q => r.int_elim fun t => call_abs_int fun u tk => q _ _ σ _ tk (.int _ _) H (.refl ..) h
theorem B_int {a : Int} {Φ : V → Store → Prop} (h : Φ (.int a) σ) : TC C n σ (.typ "int") [.int a] Φ :=
  TC_1 Rep.typ_inv fun A s v Q E R H r q => r.int_elim fun t => call_int_int (q _ _ σ _ s.toks (.int _ _) H (.refl ..) h)
theorem B_str {a : Int} {Φ : V → Store → Prop} (ha : a.natAbs.log2 < 1920) (h : Φ (.str (toString a)) σ) : TC C n σ (.typ "str") [.int a] Φ :=
  TC_1 Rep.typ_inv fun A s v Q E R H r q => r.int_elim fun t => PySem.P.str_of_int ha (q _ _ σ _ _ (.str _ _) H (.refl ..) h)
theorem B_max {a b : Int} {Φ : V → Store → Prop} (h : Φ (.int (if b > a then b else a)) σ) : TC C n σ (.bltn "max") [.int a, .int b] Φ :=
  TC_2 Rep.bltn_inv fun A s v w Q E R H r r' q => r.int_elim fun t => r'.int_elim fun u => max_two_ints R.handled fun h' tk hk => q _ _ σ h' tk (by split <;> exact .int _ _) (H.keeps hk) (Go.of_keep hk) h

theorem strsAre {h : Heap} {vs : List Value} : ∀ {ys : List Str}, RepL h vs (ys.map V.str) → StrsAre vs ys := fun {ys} => by
  induction ys generalizing vs with
  | nil => exact fun r => r.nil_inv ▸ .nil
  | cons y ys ih => exact fun r => RepL.cons_elim (Q := fun vs => StrsAre vs (y :: ys)) r fun v ws a b => a.str_elim fun t => .cons _ _ (ih b)
theorem O_inT {x : Str} {ys : List Str} {Φ : V → Store → Prop} (h : Φ (.bool (ys.any (· == x))) σ) : TO2 C n σ (compareOp .In) (.str x) (.tuple (ys.map V.str)) Φ :=
  fun A s a b Q E R H ra rb q => ra.str_elim fun t => rb.tup_elim fun c vs ht rl => in_tuple_strs ht (strsAre rl) (q _ _ σ _ s.toks (.bool _) H (.refl ..) h)
theorem V.pys_strs : ∀ ys : List Str, V.pys (ys.map V.str) = ys.map PyData.str
  | [] => rfl
  | y :: ys => by rw [List.map_cons, V.pys, V.py, V.pys_strs ys, List.map_cons]
theorem O_notInT {x : Str} {ys : List Str} {Φ : V → Store → Prop} (hx : PyData.strOk x = true) (hy : ys.all PyData.strOk = true) (h : Φ (.bool (!ys.any (· == x))) σ) : TO2 C n σ (compareOp .NotIn) (.str x) (.tuple (ys.map V.str)) Φ := by
  intro A s a b Q E R H ra rb q
  have dx : (V.str x).data 1 = true := by simpa [V.data] using hx
  have dy : V.datas 1 (ys.map V.str) = true := by
    clear h q rb
    induction ys with
    | nil => rfl
    | cons y ys ih =>
      simp only [List.all_cons, Bool.and_eq_true] at hy
      simp only [List.map_cons, V.datas, V.data, Bool.and_eq_true]
      exact ⟨hy.1, ih hy.2⟩
  have dt : (V.tuple (ys.map V.str)).data 2 = true := by simpa [V.data] using dy
  obtain ⟨as, r1⟩ := ra.reads 1 dx
  obtain ⟨bs, r2⟩ := rb.reads 2 dt
  have l1 := V.canLay 1 _ dx
  have l2 := V.canLays 1 _ dy
  rw [V.py] at r2
  have e : ((V.pys (ys.map V.str)).any fun y => PyData.eqv y (V.str x).py) = ys.any (· == x) := by
    rw [V.pys_strs, V.py, List.any_map]
    congr 1
  refine SeqAt.notIn_tuple_reads r2 r1 l2.1 l1.1 (by have := R.units; have := l1.2; have := Nat.min_le_right (PyData.depthAll (V.pys (ys.map V.str))) (V.str x).py.depth; omega) ?_
  rw [e]
  exact q _ _ σ _ s.toks (.bool _) H (.refl ..) h
end
end
section
open PySem PySem.W PySem.Calls PyProof.Rows PySem.Spec
noncomputable def rngVs (a c : Int) (k : Nat) : List V := (List.range k).map fun (i : Nat) => V.int (a + (i : Int) * c)
inductive Src (C : Cx) (σ : Store) : V → List V → Store → (Store → Store) → Prop
  | tup (Xs : List V) : Src C σ (.tuple Xs) Xs σ id
  | list {l : Addr} {Xs : List V} : σ l = some (.list Xs) → Src C σ (.ref l) Xs (σ.del l) (fun τ => τ.set l (.list Xs))
  | rng {r : Addr} {a b c : Int} {k : Nat} : σ r = some (.rng a b c) → Builtin.Range.small a b c = true → Builtin.Range.rangeSize a b c = (k : Int) → Src C σ (.ref r) (rngVs a c k) (σ.del r) id
  | dict {d : Addr} {es : List (Str × V)} : σ d = some (.sdict es) → Src C σ (.ref d) (es.map fun p => V.str p.1) (σ.del d) (fun τ => τ.set d (.sdict es))

structure RunOf (C : Cx) (A : Around) (h : Heap) (σ σ₁ : Store) (Ys : List V) (I : Addr) (fp : List Addr) (P : Nat → Value → Prop) (St : Nat → Heap → Prop) : Prop where
  walks : Walks C.prog C.w A I fp [I] Ys.length P St
  fresh : h.get? I = none
  obj : ∀ i g, St i g → ∃ o, g.get? I = some o ∧ o.cls ≠ .type "tuple"
  fp : ∀ b ∈ fp, b = I ∨ ∃ o, h.get? b = some o ∧ ((σ₁ b = none ∧ σ b ≠ none) ∨ (o.cls = .type "tuple" ∧ ∃ i n, o.data = .seq i n))
  rep : ∀ i v g, i < Ys.length → P i v → TupKeep h g → ∃ Y, Ys[i]? = some Y ∧ Rep g v Y
  own : ∀ (target : Expr) i (s : Shared) (v : Value) (Q : Unit → Shared → Prop) (E : Value → Shared → Prop), St i s.heap → Q () s → wpAny (model C.prog C.w) A (letOwnedTupleGo target (.ref I) v) Q E s

theorem owned_plain {M : Model} {A : Around} {target : Expr} {I : Addr} {v : Value} {s : Shared} {Q : Unit → Shared → Prop} {E : Value → Shared → Prop} {o : Obj} (ho : s.heap.get? I = some o)
    (hc : ∀ n, o.cls = .type n → (["enumerate", "zip", "dict_itemiterator", "dict_reverseitemiterator", "odict_iterator", "itertools.zip_longest", "itertools.pairwise"].contains n) = false) (q : Q () s) : wpAny M A (letOwnedTupleGo target (.ref I) v) Q E s := by
  unfold letOwnedTupleGo
  split
  · split
    · rename_i r a e
      cases e
      refine wpAny_bind (wpAny_load ho ?_)
      split
      · rename_i n vs hcl hd
        rw [hc n hcl]
        simp only [Bool.false_and, Bool.false_eq_true, if_false]
        exact wpAny_pure q
      · exact wpAny_pure q
    · exact wpAny_pure q
  · split
    · rename_i r a e
      cases e
      refine wpAny_bind (wpAny_load ho ?_)
      split
      · rename_i n vs hcl hd
        rw [hc n hcl]
        simp only [Bool.false_and, Bool.false_eq_true, if_false]
        exact wpAny_pure q
      · exact wpAny_pure q
    · exact wpAny_pure q
  · exact wpAny_pure q

section
variable {C : Cx} {n : Nat} {env : Env} {ρ : Loc} {σ σ₁ : Store}

theorem Store.del_self {σ : Store} {a : Addr} : σ.del a a = none := by simp [Store.del]
theorem Store.del_sub {σ : Store} {a b : Addr} {x : AObj} (h : σ.del a b = some x) : σ b = some x := by
  unfold Store.del at h; split at h <;> first | cases h | exact h

theorem own_of {M : Model} {A : Around} {St : Nat → Heap → Prop} {I : Addr} {cl : String} (hc : (["enumerate", "zip", "dict_itemiterator", "dict_reverseitemiterator", "odict_iterator", "itertools.zip_longest", "itertools.pairwise"].contains cl) = false) (k : ∀ i g, St i g → ∃ o, g.get? I = some o ∧ o.cls = .type cl)
    (target : Expr) (i : Nat) (s : Shared) (v : Value) (Q : Unit → Shared → Prop) (E : Value → Shared → Prop) (st : St i s.heap) (q : Q () s) : wpAny M A (letOwnedTupleGo target (.ref I) v) Q E s :=
  (k i _ st).elim fun o h => owned_plain h.1 (fun m e => by rw [h.2] at e; injection e with e; subst e; exact hc) q
theorem type_ne {cl cl' : String} (h : cl ≠ cl') {x : Value} (e : x = .type cl) : x ≠ .type cl' := fun e' => h (by rw [e] at e'; injection e')
theorem runOf_mk {A : Around} {h : Heap} {Ys : List V} {I : Addr} {fp : List Addr} {P : Nat → Value → Prop} {St : Nat → Heap → Prop} {cl : String} (hc : (["enumerate", "zip", "dict_itemiterator", "dict_reverseitemiterator", "odict_iterator", "itertools.zip_longest", "itertools.pairwise"].contains cl) = false) (hne : cl ≠ "tuple")
    (W : Walks C.prog C.w A I fp [I] Ys.length P St) (nw : h.get? I = none) (k : ∀ i g, St i g → ∃ o, g.get? I = some o ∧ o.cls = .type cl) (fpk : ∀ b ∈ fp, b = I ∨ ∃ o, h.get? b = some o ∧ ((σ₁ b = none ∧ σ b ≠ none) ∨ (o.cls = .type "tuple" ∧ ∃ i n, o.data = .seq i n)))
    (rep : ∀ i v g, i < Ys.length → P i v → TupKeep h g → ∃ Y, Ys[i]? = some Y ∧ Rep g v Y) : RunOf C A h σ σ₁ Ys I fp P St :=
  ⟨W, nw, fun i g st => (k i g st).imp fun o q => ⟨q.1, type_ne hne q.2⟩, fpk, rep, own_of hc k⟩
theorem rep_seq {h : Heap} {vs : List Value} {Ys : List V} (rl : RepL h vs Ys) (i : Nat) (w : Value) (g : Heap) (hi : i < Ys.length) (e : vs.toArray[i]? = some w) (kt : TupKeep h g) : ∃ Y, Ys[i]? = some Y ∧ Rep g w Y :=
  have hx : Ys[i]? = some Ys[i] := List.getElem?_eq_getElem hi
  (rl.get hx).elim fun w' q => ⟨_, hx, by rw [List.getElem?_toArray, q.1] at e; cases e; exact q.2.mono kt⟩
theorem fp_two {I l : Addr} {h : Heap} {P : Addr → Obj → Prop} {o : Obj} (ho : h.get? l = some o) (p : P l o) : ∀ b ∈ [I, l], b = I ∨ ∃ o, h.get? b = some o ∧ P b o := fun b hb =>
  (List.mem_cons.mp hb).elim .inl fun hb => .inr (by rw [List.mem_singleton.mp hb]; exact ⟨o, ho, p⟩)
theorem RepD.key {h : Heap} {k : Str} {x : Value} {kvs : List (Str × Value)} {es : List (Str × V)} (rd : RepD h kvs es) : ∀ i : Nat, kvs[i]? = some (k, x) → (es.map fun p => V.str p.1)[i]? = some (.str k) :=
  @RepD.rec h Str (fun kvs es _ => ∀ i : Nat, kvs[i]? = some (k, x) → (es.map fun p => V.str p.1)[i]? = some (.str k)) (fun i e => nomatch (show (none : Option (Str × Value)) = some (k, x) from e)) (fun a r ih i e => by
    cases i with
    | zero => cases Option.some.inj e; rfl
    | succ i => exact ih i e) kvs es rd
theorem iter_src {A : Around} {s : Shared} {v : Value} {X : V} {Ys : List V} {f : Store → Store} {Q : Value → Shared → Prop} {E : Value → Shared → Prop} (S : Src C σ X Ys σ₁ f) (R : Room A n) (H : Holds C σ s.heap) (r : Rep s.heap v X)
    (q : ∀ I fp P St h', RunOf C A s.heap σ σ₁ Ys I fp P St → St 0 h' → HKeep s.heap h' → Q (.ref I) { s with heap := h' }) : wpAny (model C.prog C.w) A (pyIter v) Q E s := by
  have nw := heap_new s.heap
  cases S with
  | tup Xs =>
    refine r.tup_elim fun a vs ht rl => ?_
    obtain ⟨o, ho, hc, k, hd⟩ := id ht
    have W := Walks.tuple (prog := C.prog) (w := C.w) R.handled s.heap.objs.size a (Nat.ne_of_lt (Heap.lt_size ho)) vs.toArray
    rw [show vs.toArray.size = Ys.length by rw [List.size_toArray, rl.length]] at W
    exact wpAny_pyIter_tuple (show s.heap.IsTuple a vs.toArray from ht) (q s.heap.objs.size _ _ _ _ (runOf_mk (cl := "tuple_iterator") (by decide) (by decide) W nw (fun i g st => st.1.imp fun o q => ⟨q.1, q.2.1⟩) (fp_two ho (.inr ⟨hc, _, _, hd⟩)) (rep_seq rl)) ⟨⟨_, Heap.get?_push_size _ rfl, rfl, rfl⟩, IsTup.push ht _⟩ (HKeep.push _ _))
  | @list l Xs hl =>
    refine r.ref_elim ?_
    obtain ⟨vs, k, e, rl⟩ := H.obj _ _ hl
    have il := isList_of e
    have W := Walks.list (prog := C.prog) (w := C.w) R.handled s.heap.objs.size l (Nat.ne_of_lt (Heap.lt_size e)) vs.toArray
    rw [show vs.toArray.size = Ys.length by rw [List.size_toArray, rl.length]] at W
    exact wpAny_pyIter_list il (q s.heap.objs.size _ _ _ _ (runOf_mk (cl := "list_iterator") (by decide) (by decide) W nw (fun i g st => st.1.imp fun o q => ⟨q.1, q.2.1⟩) (fp_two e (.inl ⟨Store.del_self, fun z => by rw [hl] at z; cases z⟩)) (rep_seq rl)) ⟨⟨_, Heap.get?_push_size _ rfl, rfl, rfl⟩, il.push _⟩ (HKeep.push _ _))
  | @rng ra a b c k hr hs hk =>
    refine r.ref_elim ?_
    obtain ⟨t, u, v, e⟩ := H.obj _ _ hr
    have len : (rngVs a c k).length = k := by rw [rngVs, List.length_map, List.length_range]
    have W := Walks.range (prog := C.prog) (w := C.w) R.handled s.heap.objs.size a c k
    refine wpAny_pyIter_range e hs (q s.heap.objs.size [s.heap.objs.size] (fun i v => ∃ t, v = .int (a + (i : Int) * c) t) (fun i h => IsRangeIter h s.heap.objs.size (a + (i : Nat) * c) ((k : Int) - (i : Nat)) c) _ (runOf_mk (cl := "range_iterator") (by decide) (by decide) (by rw [len]; exact W) nw (fun i g ho => ⟨_, ho, rfl⟩) (fun b hb => .inl (List.mem_singleton.mp hb)) fun i w g hi hP kt => ?_) ?_ (HKeep.push _ _))
    · rw [len] at hi
      exact hP.elim fun t e => ⟨.int (a + (i : Int) * c), by rw [rngVs, List.getElem?_map, List.getElem?_range hi]; rfl, by rw [e]; exact .int _ _⟩
    · rw [hk]
      show IsRangeIter _ _ _ _ _
      simpa using Heap.get?_push_size _ rfl
  | @dict d es hd =>
    refine r.ref_elim ?_
    obtain ⟨kvs, hm, rd⟩ := H.obj _ _ hd
    obtain ⟨ep, hat⟩ := hm.dictAt
    obtain ⟨o, _, ho, _⟩ := id hat
    have W := Walks.dictKeys (prog := C.prog) (w := C.w) (knd := PySem.strKind C.prog C.w) R.handled s.heap.objs.size d (Nat.ne_of_lt hat.lt_size) kvs ep
    rw [show kvs.length = (es.map fun p => V.str p.1).length by rw [rd.length, List.length_map]] at W
    exact wpAny_pyIter_dict (H.notSys hd) hat (q s.heap.objs.size _ _ _ _ (runOf_mk (cl := "dict_keyiterator") (by decide) (by decide) W nw (fun i g st => st.1.imp fun o q => ⟨q.1, q.2.1⟩) (fp_two ho (.inl ⟨Store.del_self, fun z => by rw [hd] at z; cases z⟩))
      fun i w g hi hP kt => hP.elim fun k p => p.elim fun x p => by
        obtain ⟨t, rfl⟩ := Value.isStrOf_shape p.2
        exact ⟨_, rd.key i p.1, .str _ _⟩) ⟨⟨_, Heap.get?_push_size _ rfl, rfl, by rw [rd.length, List.length_map]; rfl⟩, hat.push _⟩ (HKeep.push _ _))

theorem Src.sub {X : V} {Ys : List V} {f : Store → Store} (S : Src C σ X Ys σ₁ f) : ∀ a x, σ₁ a = some x → σ a = some x := by
  intro a x e
  cases S with
  | tup => exact e
  | list => exact Store.del_sub e
  | rng => exact Store.del_sub e
  | dict => exact Store.del_sub e
theorem Src.back {X : V} {Ys : List V} {f : Store → Store} {h h' : Heap} {L : Addr} {τ : Store} (S : Src C σ X Ys σ₁ f) (H : Holds C σ h) (F : Frm C σ h L ρ) {ρ' : Loc} (H' : Holds C τ h') (F' : Frm C τ h' L ρ') (G : Go σ₁ (· = L) h τ h') :
    Holds C (f τ) h' ∧ Frm C (f τ) h' L ρ' ∧ Go σ (· = L) h (f τ) h' := by
  have base : Go σ (· = L) h τ h' := ⟨fun a o e n f => G.keep a o e (by
    cases z : σ₁ a with
    | none => rfl
    | some x => rw [S.sub a x z] at n; cases n) f, G.tup, G.live, fun a e => (G.dom a e).imp (fun z => by
      obtain ⟨x, hx⟩ := Option.ne_none_iff_exists'.mp z
      rw [S.sub a x hx]; simp) fun z => z⟩
  have put : ∀ (l : Addr) (x : AObj), σ l = some x → σ₁ l = none → Holds C (τ.set l x) h' ∧ Frm C (τ.set l x) h' L ρ' ∧ Go σ (· = L) h (τ.set l x) h' := by
    intro l x hl hn
    have lL : l ≠ L := fun e => by rw [e, F.off] at hl; cases hl
    have ro := (H.obj l x hl).at (h' := h') G.tup (fun o e => G.keep l o e hn lL)
    refine ⟨⟨H'.base, fun a y e => ?_, fun a y e => ?_⟩, F'.sub ?_, ⟨base.keep, base.tup, base.live, fun a e => ?_⟩⟩
    · by_cases q : a = l
      · subst q; simp only [Store.set, if_true] at e; cases e; exact ro
      · simp only [Store.set, if_neg q] at e; exact H'.obj a y e
    · by_cases q : a = l
      · subst q; exact H.new _ _ hl
      · simp only [Store.set, if_neg q] at e; exact H'.new a y e
    · simp only [Store.set, if_neg (Ne.symm lL)]; exact F'.off
    · by_cases q : a = l
      · subst q; left; rw [hl]; simp
      · simp only [Store.set, if_neg q] at e; exact base.dom a e
  cases S with
  | tup => exact ⟨H', F', base⟩
  | list hl => exact put _ _ hl Store.del_self
  | rng => exact ⟨H', F', base⟩
  | dict hd => exact put _ _ hd Store.del_self

theorem next_keeps {I L : Addr} {h h' h'' : Heap} {τ τ₀ : Store} {ρ' : Loc} (hk : ∀ b o, b ∉ [I] → h'.get? b = some o → h''.get? b = some o) (hI : ∃ o, h'.get? I = some o ∧ o.cls ≠ .type "tuple") (nI : h.get? I = none) (nI0 : C.h₀.get? I = none) (tI : τ I = none) (LI : L ≠ I)
    (H : Holds C τ h') (F : Frm C τ h' L ρ') (G : Go τ₀ (· = L) h τ h') : Holds C τ h'' ∧ Frm C τ h'' L ρ' ∧ Go τ₀ (· = L) h τ h'' := by
  have kk : ∀ b o, b ≠ I → h'.get? b = some o → h''.get? b = some o := fun b o n e => hk b o (by simpa using n) e
  have tk : TupKeep h' h'' := fun a o i n e c d => kk a o (fun q => by
    obtain ⟨o', ho', hc⟩ := hI
    rw [q, ho'] at e; cases e; exact hc c) e
  have ne : ∀ b o, h.get? b = some o → b ≠ I := fun b o e q => by rw [q, nI] at e; cases e
  refine ⟨⟨fun b o e => ?_, fun a x e => (H.obj a x e).at tk (fun o z => kk a o (fun q => by rw [q, tI] at e; cases e) z), H.new⟩, ?_, ⟨fun a o e n f => kk a o (ne a o e) (G.keep a o e n f), fun a o i n e c d => tk a o i n (G.tup a o i n e c d) c d, fun a o e => ?_, G.dom⟩⟩
  · have z := H.base b o e
    by_cases q : b = I
    · rw [q, nI0] at e; cases e
    · exact kk b o q z
  · obtain ⟨⟨m, ⟨o, es, ep, ho, r⟩, hr⟩, off, nw⟩ := F
    exact ⟨⟨m, ⟨o, es, ep, kk L o LI ho, r⟩, fun x X e => by obtain ⟨v, a, b⟩ := hr x X e; exact ⟨v, a, b.mono tk⟩⟩, off, nw⟩
  · obtain ⟨o', e'⟩ := G.live a o e
    exact ⟨o', kk a o' (ne a o e) e'⟩

theorem For_go {A : Around} {E : Value → Shared → Prop} {target iter : Expr} {body orelse : List Stmt} {pos : Pos} {s : Shared} {Q : Flow → Shared → Prop}
    (h : wpAny (model C.prog C.w) A (eval iter env) (fun x s₁ => wpAny (model C.prog C.w) A (pyIter x) (fun it s₂ =>
      codeAny (model C.prog C.w) A (.forLoop target it body orelse env) (fun r s' => match r with | .ok f => Q f s' | .error _ => False) s₂) E s₁) E s)
    (hs : ∀ x, foldedSetIterable iter env x = pure x) : wpAny (model C.prog C.w) A (exec (.For target iter body orelse pos) env) Q E s := by
  refine wpAny_For (wpAny_mono h (fun x s₁ h₁ => wpAny_mono h₁ (fun it s₂ h₂ => codeAny_mono h₂ fun r s' z => ?_) fun _ _ e => e) fun _ _ e => e) hs
  cases r with
  | ok f => exact z
  | error e => exact z.elim

noncomputable def Dead (σ σ₂ σ' : Store) : Prop := ∀ b, σ b ≠ none → σ₂ b = none → σ' b = none
theorem dead_of {σ₂ σ' : Store} {P : Addr → Prop} {h h' : Heap} (H : Holds C σ h) (G : Go σ₂ P h σ' h') : Dead σ σ₂ σ' := fun b hb h2 => by
  cases z : σ' b with
  | none => rfl
  | some x =>
    obtain ⟨y, hy⟩ := Option.ne_none_iff_exists'.mp hb
    obtain ⟨o, ho⟩ := (H.obj b y hy).live
    rcases G.dom b (by rw [z]; simp) with w | w
    · exact absurd h2 w
    · rw [ho] at w; cases w
structure FB (C : Cx) (σ₂ : Store) (L : Addr) (h₁ : Heap) (I : Addr) (ρ' : Loc) (σ' : Store) (h' : Heap) : Prop where
  H : Holds C σ' h'
  F : Frm C σ' h' L ρ'
  G : Go σ₂ (· = L) h₁ σ' h'
  o : σ' I = none
inductive FInv (C : Cx) (σ₂ : Store) (L : Addr) (h₁ : Heap) (I : Addr) (St : Nat → Heap → Prop) (J : Nat → Loc → Store → Prop) (m : Nat) (s : Shared) (k : Nat) (s' : Shared) : Prop
  | mk (i : Nat) (ρ' : Loc) (σ' : Store) (h' : Heap) (tk' : Nat) (e : s' = { s with heap := h', toks := tk' }) (st : St i h') (l : FB C σ₂ L h₁ I ρ' σ' h') (j : J i ρ' σ') (hk : k = m - i + 1) (hi : i ≤ m)
theorem turn_lt {i m : Nat} (h : i < m) : m - (i + 1) + 1 < m - i + 1 := Nat.succ_lt_succ (Nat.sub_lt_sub_left h (Nat.lt_succ_self i))
theorem Go.off_live {σ σ' : Store} {h h' : Heap} {P : Addr → Prop} {a : Addr} {o : Obj} (G : Go σ P h σ' h') (e : h.get? a = some o) (n : σ a = none) : σ' a = none := by
  cases z : σ' a with
  | none => rfl
  | some x => exact (G.dom a (by rw [z]; exact fun e => by cases e)).elim (fun w => absurd n w) fun w => by rw [e] at w; cases w
theorem sub_none {σ₂ : Store} (sub : ∀ a x, σ₂ a = some x → σ a = some x) {a : Addr} (e : σ a = none) : σ₂ a = none := by
  cases z : σ₂ a with
  | none => rfl
  | some x => rw [sub _ _ z] at e; cases e
theorem RunOf.step {A : Around} {h h' h'' : Heap} {σ₂ σ' σ'' : Store} {Ys : List V} {I L : Addr} {fp : List Addr} {P : Nat → Value → Prop} {St : Nat → Heap → Prop} {i : Nat} {ρ' : Loc} (W : RunOf C A h σ σ₂ Ys I fp P St) (F : Frm C σ h L ρ') (LI : L ≠ I) (st : St i h') (G : Go σ₂ (· = L) h σ' h') (GG : Go σ' (· = L) h' σ'' h'') (o : σ' I = none) : St i h'' :=
  W.walks.frame _ _ _ st fun b hb o e => (W.fp b hb).elim (fun q => q ▸ GG.keep _ _ (q ▸ e) (by assumption) (Ne.symm LI)) fun q => q.elim fun o₁ q => q.2.elim
    (fun c => GG.keep b o e (G.off_live q.1 c.1) (fun w => c.2 (w ▸ F.off)))
    fun c => c.2.elim fun a1 c2 => c2.elim fun a2 c2 => by
      have e1 := G.tup b o₁ a1 a2 q.1 c.1 c2
      rw [e] at e1; cases e1
      exact GG.tup b o a1 a2 e c.1 c2
theorem TS_for {target iter : Expr} {body : List Stmt} {pos : Pos} {Φ : Fl → Loc → Store → Prop}
    (h : TE C n env ρ σ iter fun X σ₁ => ∃ Ys σ₂ f, ∃ J : Nat → Loc → Store → Prop, Src C σ₁ X Ys σ₂ f ∧ J 0 ρ σ₂ ∧
      (∀ i Y ρ' σ', Ys[i]? = some Y → J i ρ' σ' → TA C n env ρ' σ' target Y fun ρ₂ τ => TSS C n env ρ₂ τ body (forK (fun ρ₃ σ₃ => J (i + 1) ρ₃ σ₃) (fun ρ₃ σ₃ => Dead σ₁ σ₂ σ₃ → Φ .next ρ₃ (f σ₃)) (fun V ρ₃ σ₃ => Dead σ₁ σ₂ σ₃ → Φ (.ret V) ρ₃ (f σ₃)))) ∧
      (∀ ρ' σ', Dead σ₁ σ₂ σ' → J Ys.length ρ' σ' → Φ .next ρ' (f σ')))
    (hs : ∀ x, foldedSetIterable iter env x = pure x := by intro _; rfl) : TS C n env ρ σ (.For target iter body [] pos) Φ := by
  intro A s Q E R H F q
  refine For_go (h A s _ E R H F fun v X σ₁ h₁ tk₁ r₁ H₁ F₁ G₁ p₁ => ?_) hs
  obtain ⟨Ys, σ₂, f, J, S, j0, turn, done⟩ := p₁
  refine iter_src (s := { s with heap := h₁, toks := tk₁ }) S R H₁ r₁ fun I fp P St h₂ W st0 kk => ?_
  have nI : h₁.get? I = none := W.fresh
  have nI0 := H₁.base_new nI
  have LI : env.locals ≠ I := fun e => F₁.ns.elim fun m h => h.1.elim fun o q => q.elim fun _ q => q.elim fun _ q => by rw [e, nI] at q; cases q.1
  have sub := S.sub
  refine codeAny_forLoop_any (FInv C σ₂ env.locals h₁ I St J Ys.length s) (fun k s' I' => ?_) (Ys.length + 1)
    (.mk 0 ρ σ₂ h₂ tk₁ rfl st0 ⟨(H₁.sub sub).keeps kk, (F₁.sub (sub_none sub F₁.off)).go (Go.of_keep kk), Go.of_keep kk, sub_none sub (H₁.off_new nI)⟩ j0 rfl (Nat.zero_le _))
  cases I' with
  | mk i ρ' σ' h' tk' e st l j hk hi =>
  cases e; cases hk
  rcases Nat.lt_or_ge i Ys.length with hlt | hge
  · refine W.walks.item i { s with heap := h', toks := tk' } _ _ hlt st fun v' h'' tk'' hP st'' hk => ?_
    have g := next_keeps hk (W.obj i _ st) nI nI0 l.o LI l.H l.F l.G
    obtain ⟨Y, hY, rY⟩ := W.rep i v' h'' hlt hP g.2.2.tup
    refine W.own target (i + 1) { s with heap := h'', toks := tk'' } v' _ _ st'' ?_
    refine turn i Y ρ' σ' hY j A { s with heap := h'', toks := tk'' } v' _ _ R g.1 g.2.1 rY fun ρ₃ σ₃ h₃ tk₃ H₃ F₃ G₃ p₃ => ?_
    refine p₃ A { s with heap := h₃, toks := tk₃ } _ _ R H₃ F₃ fun fl X' ρ₄ σ₄ h₄ tk₄ r₄ H₄ F₄ G₄ p₄ => ?_
    have GG := G₃.trans G₄
    have GA := g.2.2.trans GG
    have ends := S.back H₁ F₁ H₄ F₄ GA
    have nx : J (i + 1) ρ₄ σ₄ → ∃ m, m < Ys.length - i + 1 ∧ FInv C σ₂ env.locals h₁ I St J Ys.length s m { s with heap := h₄, toks := tk₄ } := fun j =>
      ⟨_, turn_lt hlt, .mk (i + 1) ρ₄ σ₄ h₄ tk₄ rfl (W.step F₁ LI st'' g.2.2 GG l.o) ⟨H₄, F₄, GA, (W.obj (i + 1) h'' st'').elim fun o h => GG.off_live h.1 l.o⟩ j rfl hlt⟩
    cases r₄ with
    | next => exact nx p₄
    | cont => exact nx p₄
    | brk => exact q _ _ ρ₄ (f σ₄) h₄ tk₄ .next ends.1 ends.2.1 (G₁.trans ends.2.2) (p₄ (dead_of H₁ GA))
    | ret r => exact q _ _ ρ₄ (f σ₄) h₄ tk₄ (.ret r) ends.1 ends.2.1 (G₁.trans ends.2.2) (p₄ (dead_of H₁ GA))
  · cases Nat.le_antisymm hi hge
    refine W.walks.done { s with heap := h', toks := tk' } _ _ st fun h'' tk'' hk => wpAny_execs_nil ?_
    have g := next_keeps hk (W.obj _ _ st) nI nI0 l.o LI l.H l.F l.G
    have ends := S.back H₁ F₁ g.1 g.2.1 g.2.2
    exact q _ _ ρ' (f σ') h'' tk'' .next ends.1 ends.2.1 (G₁.trans ends.2.2) (done ρ' σ' (dead_of H₁ g.2.2) j)

inductive WInv (C : Cx) (σ : Store) (L : Addr) (s : Shared) (J : Nat → Loc → Store → Prop) (k : Nat) (s' : Shared) : Prop
  | mk (ρ' : Loc) (σ' : Store) (h' : Heap) (tk' : Nat) (e : s' = { s with heap := h', toks := tk' }) (H : Holds C σ' h') (F : Frm C σ' h' L ρ') (G : Go σ (· = L) s.heap σ' h') (j : J k ρ' σ')
theorem TS_while {test : Expr} {body : List Stmt} {pos : Pos} {Φ : Fl → Loc → Store → Prop} (J : Nat → Loc → Store → Prop) (k₀ : Nat) (j0 : J k₀ ρ σ)
    (turn : ∀ k ρ' σ', J k ρ' σ' → TB C n env ρ' σ' test fun b σ₁ => if b = true then TSS C n env ρ' σ₁ body (forK (fun ρ₃ σ₃ => ∃ m, m < k ∧ J m ρ₃ σ₃) (fun ρ₃ σ₃ => Φ .next ρ₃ σ₃) (fun V ρ₃ σ₃ => Φ (.ret V) ρ₃ σ₃)) else Φ .next ρ' σ₁) : TS C n env ρ σ (.While test body [] pos) Φ := by
  intro A s Q E R H F q
  refine wpAny_While (codeAny_mono (R := fun r s' => match r with | .ok f => Q f s' | .error _ => False) ?_ fun r s' z => by
    cases r with
    | ok f => exact z
    | error e => exact z.elim)
  refine codeAny_whileLoop (WInv C σ env.locals s J) (fun k s' I => ?_) k₀ (.mk ρ σ s.heap s.toks rfl H F (.refl ..) j0)
  cases I with
  | mk ρ' σ' h' tk' e H' F' G' j =>
  cases e
  refine turn k ρ' σ' j A { s with heap := h', toks := tk' } _ _ R H' F' fun b σ₁ h₁ tk₁ H₁ F₁ G₁ p => ?_
  cases b with
  | false => exact wpAny_execs_nil (q _ _ ρ' σ₁ h₁ tk₁ .next H₁ F₁ (G'.trans G₁) p)
  | true =>
    refine p A { s with heap := h₁, toks := tk₁ } _ _ R H₁ F₁ fun fl X ρ₃ σ₃ h₃ tk₃ r₃ H₃ F₃ G₃ p₃ => ?_
    have GA := (G'.trans G₁).trans G₃
    have nx : (∃ m, m < k ∧ J m ρ₃ σ₃) → ∃ m, m < k ∧ WInv C σ env.locals s J m { s with heap := h₃, toks := tk₃ } := fun p => p.imp fun m p => ⟨p.1, .mk ρ₃ σ₃ h₃ tk₃ rfl H₃ F₃ GA p.2⟩
    cases r₃ with
    | next => exact nx p₃
    | cont => exact nx p₃
    | brk => exact q _ _ ρ₃ σ₃ h₃ tk₃ .next H₃ F₃ GA p₃
    | ret r => exact q _ _ ρ₃ σ₃ h₃ tk₃ (.ret r) H₃ F₃ GA p₃
end
end
section
open PySem PySem.W PySem.Calls PyProof.Rows PySem.Spec
section
variable {C : Cx} {n : Nat} {env : Env} {ρ : Loc} {σ σ₁ : Store}

section
variable (C n env ρ σ)
noncomputable def TIf (ifs : List Expr) (Φ : Bool → Store → Prop) : Prop :=
  ∀ (A : Around) (s : Shared) (Q : Bool → Shared → Prop) (E : Value → Shared → Prop), Room A n → Holds C σ s.heap → Frm C σ s.heap env.locals ρ →
    (∀ b σ' h' tk', Holds C σ' h' → Frm C σ' h' env.locals ρ → Go σ (· = env.locals) s.heap σ' h' → Φ b σ' → Q b { s with heap := h', toks := tk' }) →
    wpAny (model C.prog C.w) A (forIn ifs true fun c r => if r = true then do let ok ← isTrue c env (eval c env); pure (ForInStep.yield ok) else pure (ForInStep.yield r)) Q E s
end
theorem TIf_nil {Φ : Bool → Store → Prop} (h : Φ true σ) : TIf C n env ρ σ [] Φ := fun A s Q E R H F q => wpAny_tests_nil (q true σ s.heap s.toks H F (.refl ..) h)
theorem TIf_one {c : Expr} {Φ : Bool → Store → Prop} (h : TB C n env ρ σ c Φ) : TIf C n env ρ σ [c] Φ := fun A s Q E R H F q => wpAny_tests_one (h A s Q E R H F q)

theorem Go.trans' {σ σ₁ σ₂ : Store} {P P' : Addr → Prop} {h h₁ h₂ : Heap} (g : Go σ P h σ₁ h₁) (k : Go σ₁ P' h₁ σ₂ h₂) (hP : ∀ a o, h.get? a = some o → ¬ P a → ¬ P' a) : Go σ P h σ₂ h₂ where
  keep := fun a o e n f => k.keep a o (g.keep a o e n f) (by
    cases q : σ₁ a with
    | none => rfl
    | some x =>
      rcases g.dom a (by rw [q]; simp) with z | z
      · exact absurd n z
      · rw [e] at z; cases z) (hP a o e f)
  tup := fun a o i n e c d => k.tup a o i n (g.tup a o i n e c d) c d
  live := fun a o e => by obtain ⟨o', e'⟩ := g.live a o e; exact k.live a o' e'
  dom := fun a e => by
    rcases k.dom a e with z | z
    · exact g.dom a z
    · right
      cases q : h.get? a with
      | none => rfl
      | some o => obtain ⟨o', e'⟩ := g.live a o q; rw [e'] at z; cases z

theorem next_keeps0 {I : Addr} {h h' h'' : Heap} {τ τ₀ : Store} {P : Addr → Prop} (hk : ∀ b o, b ∉ [I] → h'.get? b = some o → h''.get? b = some o) (hI : ∃ o, h'.get? I = some o ∧ (o.cls = .type "tuple" → ∀ i k, o.data ≠ .seq i k)) (nI : h.get? I = none) (nI0 : C.h₀.get? I = none) (tI : τ I = none)
    (H : Holds C τ h') (G : Go τ₀ P h τ h') : Holds C τ h'' ∧ (∀ L ρ', L ≠ I → Frm C τ h' L ρ' → Frm C τ h'' L ρ') ∧ Go τ₀ P h τ h'' ∧ TupKeep h' h'' := by
  have kk : ∀ b o, b ≠ I → h'.get? b = some o → h''.get? b = some o := fun b o n e => hk b o (by simpa using n) e
  have tk : TupKeep h' h'' := fun a o i n e c d => kk a o (fun q => by
    obtain ⟨o', ho', hc⟩ := hI
    rw [q, ho'] at e; cases e; exact hc c _ _ d) e
  have ne : ∀ b o, h.get? b = some o → b ≠ I := fun b o e q => by rw [q, nI] at e; cases e
  refine ⟨⟨fun b o e => ?_, fun a x e => (H.obj a x e).at tk (fun o z => kk a o (fun q => by rw [q, tI] at e; cases e) z), H.new⟩, ?_, ⟨fun a o e n f => kk a o (ne a o e) (G.keep a o e n f), fun a o i n e c d => tk a o i n (G.tup a o i n e c d) c d, fun a o e => ?_, G.dom⟩, tk⟩
  · have z := H.base b o e
    by_cases q : b = I
    · rw [q, nI0] at e; cases e
    · exact kk b o q z
  · intro L ρ' LI F
    obtain ⟨⟨m, ⟨o, es, ep, ho, r⟩, hr⟩, off, nw⟩ := F
    exact ⟨⟨m, ⟨o, es, ep, kk L o LI ho, r⟩, fun x X e => by obtain ⟨v, a, b⟩ := hr x X e; exact ⟨v, a, b.mono tk⟩⟩, off, nw⟩
  · obtain ⟨o', e'⟩ := G.live a o e
    exact ⟨o', kk a o' (ne a o e) e'⟩

theorem Frm.forget {h : Heap} {L : Addr} {ρ' : Loc} (F : Frm C σ h L ρ') : Frm C σ h L Loc.none := by
  obtain ⟨⟨m, a, b⟩, c, d⟩ := F
  exact ⟨⟨m, a, fun x X e => by cases e⟩, c, d⟩

theorem live_ne {σ' : Store} {h h' : Heap} {P : Addr → Prop} {a : Addr} {o : Obj} (G : Go σ P h σ' h') (e : h.get? a = some o) (n : σ a = none) : σ' a = none := by
  cases z : σ' a with
  | none => rfl
  | some x =>
    rcases G.dom a (by rw [z]; simp) with w | w
    · exact absurd n w
    · rw [e] at w; cases w

theorem Src.off {X : V} {Ys : List V} {σ₂ τ : Store} {f : Store → Store} {a : Addr} (S : Src C σ X Ys σ₂ f) (h : σ a = none) (k : τ a = none) : (f τ) a = none := by
  cases S with
  | tup => exact k
  | rng => exact k
  | list hl => exact (if_neg fun e => by rw [e, hl] at h; cases h).trans k
  | dict hl => exact (if_neg fun e => by rw [e, hl] at h; cases h).trans k
set_option genSizeOf false in
set_option genInjectivity false in
structure Blk (C : Cx) (A : Around) (σ σ₂ : Store) (L : Addr) (ρ : Loc) (h : Heap) (Ys : List V) where
  I : Addr
  D : Addr
  N : Addr
  fp : List Addr
  P : Nat → Value → Prop
  St : Nat → Heap → Prop
  W : RunOf C A h σ σ₂ Ys I fp P St
  nD : h.get? D = none
  nN : h.get? N = none
  LI : L ≠ I
  LD : L ≠ D
  LN : L ≠ N
  ID : I ≠ D
  NI : N ≠ I
  DN : D ≠ N
  H : Holds C σ h
  F : Frm C σ h L ρ
  sub : ∀ a x, σ₂ a = some x → σ a = some x
structure LI {C : Cx} {A : Around} {σ σ₂ : Store} {L : Addr} {ρ : Loc} {h : Heap} {Ys : List V} (B : Blk C A σ σ₂ L ρ h Ys) (σ' : Store) (h' : Heap) : Prop where
  H : Holds C σ' h'
  F : Frm C σ' h' L ρ
  FN : Frm C σ' h' B.N Loc.none
  G : Go σ₂ (fun _ => False) h σ' h'
  oI : σ' B.I = none
  oD : σ' B.D = none
structure FinB {C : Cx} {A : Around} {σ σ₂ : Store} {L : Addr} {ρ : Loc} {h : Heap} {Ys : List V} (B : Blk C A σ σ₂ L ρ h Ys) (τ : Store) (h' : Heap) : Prop where
  H : Holds C τ h'
  F : Frm C τ h' L ρ
  G : Go σ (fun _ => False) h τ h'
  ns : ∃ m, h'.Ns B.N m
  oN : τ B.N = none
section
variable {A : Around} {σ₂ σ' σ'' : Store} {L : Addr} {h h' h'' : Heap} {Ys : List V} {B : Blk C A σ σ₂ L ρ h Ys} {i j : Nat}
theorem Holds.dead (H : Holds C σ h) (G : Go σ₂ (fun _ => False) h σ' h') : ∀ b, σ b ≠ none → σ₂ b = none → σ' b = none := fun b hb h2 =>
  (Option.ne_none_iff_exists'.mp hb).elim fun y hy => (H.obj b y hy).live.elim fun o ho => live_ne G ho h2
theorem LI.moved (J : LI B σ' h') (st : B.St i h') (hk : ∀ b o, b ∉ [B.I] → h'.get? b = some o → h''.get? b = some o) : LI B σ' h'' ∧ TupKeep h' h'' :=
  have q := next_keeps0 hk ((B.W.obj i _ st).imp fun o e => ⟨e.1, fun a => absurd a e.2⟩) B.W.fresh (B.H.base_new B.W.fresh) J.oI J.H J.G
  ⟨⟨q.1, q.2.1 _ _ B.LI J.F, q.2.1 _ _ B.NI J.FN, q.2.2.1, J.oI, J.oD⟩, q.2.2.2⟩
theorem LI.step (J : LI B σ' h') (st : B.St i h') {ρ' : Loc} {oD : Obj} (hD : h'.get? B.D = some oD) (H : Holds C σ'' h'') (F : Frm C σ'' h'' B.N ρ') (G : Go σ' (· = B.N) h' σ'' h'') : LI B σ'' h'' ∧ B.St i h'' :=
  (B.W.obj i _ st).elim fun oI hI =>
  ⟨⟨H, J.F.other B.LN G, F.forget, J.G.trans' G (fun a o e _ q => by rw [q, B.nN] at e; cases e), live_ne G hI.1 J.oI, live_ne G hD J.oD⟩,
    B.W.walks.frame _ _ _ st fun b hb o e => (B.W.fp b hb).elim (fun q => q ▸ G.keep _ o (q ▸ e) J.oI B.NI.symm) fun q => q.elim fun o₁ q => q.2.elim
      (fun c => G.keep b o e (live_ne J.G q.1 c.1) (fun w => by rw [w, B.nN] at q; cases q.1))
      fun c => c.2.elim fun a1 c2 => c2.elim fun a2 c2 => by
        have e1 := J.G.tup b o₁ a1 a2 q.1 c.1 c2
        rw [e] at e1; cases e1
        exact G.tup b o a1 a2 e c.1 c2⟩
theorem LI.put (J : LI B σ' h') (st : B.St i h') {oD : Obj} (hD : h'.get? B.D = some oD) (hp : oD.cls = .type "tuple" → ∀ i k, oD.data ≠ .seq i k) (SB : Heap.SameBut B.D h' h'') : LI B σ' h'' ∧ B.St i h'' ∧ TupKeep h' h'' :=
  have q := next_keeps0 (I := B.D) (fun b o hb e => (SB.2 b fun w => hb (List.mem_singleton.mpr w)).trans e) ⟨_, hD, hp⟩ B.nD (B.H.base_new B.nD) J.oD J.H J.G
  ⟨⟨q.1, q.2.1 _ _ B.LD J.F, q.2.1 _ _ B.DN.symm J.FN, q.2.2.1, J.oI, J.oD⟩,
    B.W.walks.frame _ _ _ st fun b hb o e => (SB.2 b fun w => (B.W.fp b hb).elim (fun v => B.ID (v.symm.trans w)) (fun v => v.elim fun o₁ v => by rw [w, B.nD] at v; cases v.1)).trans e, q.2.2.2⟩
theorem Holds.take {a : Addr} {x : AObj} (H : Holds C σ h) (r : RepO C h a x) (n0 : C.h₀.get? a = none) : Holds C (σ.set a x) h where
  base := H.base
  obj := fun b y e => by
    by_cases q : b = a
    · subst q; simp only [Store.set, if_true] at e; cases e; exact r
    · simp only [Store.set, if_neg q] at e; exact H.obj b y e
  new := fun b y e => by
    by_cases q : b = a
    · subst q; exact n0
    · simp only [Store.set, if_neg q] at e; exact H.new b y e
theorem LI.fin (J : LI B σ' h') {X : V} {f : Store → Store} (S : Src C σ X Ys σ₂ f) {y : AObj} (r : RepO C h' B.D y) : (f σ') B.D = none ∧ FinB B ((f σ').set B.D y) h' :=
  have b := S.back B.H B.F J.H J.F (J.G.wider fun _ q => q.elim)
  have fD := S.off (B.H.off_new B.nD) J.oD
  ⟨fD, b.1.take r (B.H.base_new B.nD), b.2.1.sub ((if_neg B.LD).trans b.2.1.off), ⟨fun a o e n _ => (by
      by_cases q : a = L
      · subst q
        exact J.G.keep _ o e (sub_none B.sub n) (fun f => f)
      · exact b.2.2.keep a o e n q), b.2.2.tup, b.2.2.live, fun a e => (by
      by_cases q : a = B.D
      · subst q; exact .inr B.nD
      · simp only [Store.set, if_neg q] at e; exact b.2.2.dom a e)⟩, J.FN.ns.imp fun m h => h.1, (if_neg B.DN.symm).trans (S.off (B.H.off_new B.nN) J.FN.off)⟩
theorem FinB.letGo {τ : Store} (J : FinB B τ h') (hs : Heap.SameBut B.N h' h'') : Holds C τ h'' ∧ Frm C τ h'' L ρ ∧ Go σ (fun _ => False) h τ h'' :=
  J.ns.elim fun m hm => (ns_notTup hm).elim fun o ho =>
  have q := next_keeps0 (I := B.N) (fun b o hb e => (hs.2 b fun w => hb (List.mem_singleton.mpr w)).trans e) ⟨o, ho⟩ B.nN (B.H.base_new B.nN) J.oN J.H J.G
  ⟨q.1, q.2.1 _ _ B.LN J.F, q.2.2.1⟩
end
theorem blk_start {A : Around} {E : Value → Shared → Prop} {scope : Scope} {cl : List (Str × Addr)} {s : Shared} {v : Value} {X : V} {Ys : List V} {σ₂ : Store} {f : Store → Store} {mk : Sem Value} {ob : Obj} {K : Value → Value → Env → Shared → Prop}
    (hcell : ∀ y ∈ scope.names, y.2 ≠ .cell) (hkind : scope.kind = .function) (S : Src C σ X Ys σ₂ f) (R : Room A n) (H : Holds C σ s.heap) (F : Frm C σ s.heap env.locals ρ) (r : Rep s.heap v X) (hz : ob.isFreed = false)
    (hmk : ∀ (s : Shared) (Q : Value → Shared → Prop), Q (.ref s.heap.objs.size) { s with heap := s.heap.push ob } → wpAny (model C.prog C.w) A mk Q E s)
    (q : ∀ (B : Blk C A σ σ₂ env.locals ρ s.heap Ys) (h : Heap) tk, (∃ h₀ : Heap, B.D = h₀.objs.size ∧ ∀ o, (h₀.push ob).get? h₀.objs.size = some o → h.get? h₀.objs.size = some o) → h.get? B.D = some ob → B.St 0 h → LI B σ₂ h → K (.ref B.I) (.ref B.D) (compEnvC scope cl B.N env) { s with heap := h, toks := tk }) :
    wpAny (model C.prog C.w) A (pyIter v) (fun it s₂ => wpAny (model C.prog C.w) A mk (fun acc s₃ => wpAny (model C.prog C.w) A (newFunctionEnv scope env.globals cl [] env.qual none .none (some env)) (fun cenv s₄ => K it acc { cenv with scope := relabel scope env } s₄) E s₃) E s₂) E s := by
  refine iter_src (s := s) S R H r fun I fp P St h₂ W st0 kk => hmk _ _ (wpAny_newFunctionEnv hcell (fun y hy => by cases hy) (fun h₄ hns hsb => ?_) hkind)
  have lt : h₂.objs.size < (h₂.push ob).objs.size := by rw [Heap.size_push]; exact Nat.lt_succ_self _
  have k34 : HKeep (h₂.push ob) h₄ := fun b o e => hsb.extBut b o (Nat.ne_of_lt (Heap.lt_size e)) (Heap.get?_push_of_some _ e)
  have k24 : HKeep h₂ h₄ := fun b o e => k34 b o (HKeep.push _ _ b o e)
  have k14 : HKeep s.heap h₄ := fun b o e => k24 b o (kk b o e)
  have le : ∀ b o, s.heap.get? b = some o → b < h₂.objs.size := fun b o e => Heap.lt_size (kk b o e)
  have nw : ∀ b, h₂.objs.size ≤ b → s.heap.get? b = none := fun b hb => by
    cases z : s.heap.get? b with
    | none => rfl
    | some o => exact absurd (le _ o z) (Nat.not_lt.mpr hb)
  have lI : I < h₂.objs.size := (W.obj 0 h₂ st0).elim fun o h => Heap.lt_size h.1
  have lL : ∃ o, s.heap.get? env.locals = some o := F.ns.elim fun m h => h.1.elim fun o q => q.elim fun _ q => q.elim fun _ q => ⟨o, q.1⟩
  have ltL : env.locals < h₂.objs.size := lL.elim fun o h => le _ o h
  have S' := S.sub
  have nN := nw (h₂.push ob).objs.size (Nat.le_of_lt lt)
  exact q ⟨I, h₂.objs.size, (h₂.push ob).objs.size, fp, P, St, W, nw _ (Nat.le_refl _), nN, (fun e => lL.elim fun o h => by rw [e, W.fresh] at h; cases h), Nat.ne_of_lt ltL, Nat.ne_of_lt (Nat.lt_trans ltL lt), Nat.ne_of_lt lI, Ne.symm (Nat.ne_of_lt (Nat.lt_trans lI lt)), Nat.ne_of_lt lt, H, F, S'⟩ h₄ _ ⟨h₂, rfl, fun o => k34 _ _⟩ (k34 _ _ (Heap.get?_push_size _ hz))
    (W.walks.frame _ _ _ st0 fun b _ o e => k24 b o e) ⟨(H.sub S').keeps k14, (F.sub (sub_none S' F.off)).go (Go.of_keep k14), ⟨⟨_, hns, (fun x X e => by cases e)⟩, sub_none S' (H.off_new nN), H.base_new nN⟩, Go.of_keep k14, sub_none S' (H.off_new W.fresh), sub_none S' (H.off_new (nw _ (Nat.le_refl _)))⟩
theorem list_tup {i : Array Value} {n : Nat} : (listOf i n).cls = .type "tuple" → ∀ j k, (listOf i n).data ≠ .seq j k := fun e => absurd (show Value.type "list" = Value.type "tuple" from e) (by simp)
inductive CInv {A : Around} {σ₂ : Store} {L : Addr} {h : Heap} {Ys : List V} (B : Blk C A σ σ₂ L ρ h Ys) (s : Shared) (J : Nat → List V → Store → Prop) (k : Nat) (s' : Shared) : Prop
  | mk (i : Nat) (Zs : List V) (σ' : Store) (h' : Heap) (tk' : Nat) (vs : List Value) (c : Nat) (e : s' = { s with heap := h', toks := tk' }) (st : B.St i h') (l : LI B σ' h') (hD : h'.get? B.D = some (listOf vs.toArray c)) (r : RepL h' vs Zs) (z : Zs.length ≤ i) (j : J i Zs σ') (hk : k = Ys.length - i + 1) (hi : i ≤ Ys.length)
theorem comp_core {A : Around} {E : Value → Shared → Prop} {elt iter : Expr} {x : Str} {px : Pos} {ifs : List Expr} {scope : Scope} {pos : Pos} {cl : List (Str × Addr)} {s : Shared} {v : Value} {X : V} {Ys : List V} {σ₂ : Store} {f : Store → Store} {RR : Value → Addr → Result → Shared → Prop}
    (J : Nat → List V → Store → Prop) (hcell : ∀ y ∈ scope.names, y.2 ≠ .cell) (hkind : scope.kind = .function) (hx : scope.names.lookup x = some .local) (hsz : Ys.length ≤ sizeLine)
    (S : Src C σ X Ys σ₂ f) (R : Room A n) (H : Holds C σ s.heap) (F : Frm C σ s.heap env.locals ρ) (r : Rep s.heap v X) (j0 : J 0 [] σ₂)
    (turn : ∀ Ca i Y Zs σ', (∀ b, σ b ≠ none → σ₂ b = none → σ' b = none) → Ys[i]? = some Y → J i Zs σ' → TIf C n (compEnvC scope cl Ca env) (Loc.none.set x Y) σ' ifs fun ok σ₃ => if ok = true then TE C n (compEnvC scope cl Ca env) (Loc.none.set x Y) σ₃ elt fun Z σ₄ => J (i + 1) (Zs ++ [Z]) σ₄ else J (i + 1) Zs σ₃)
    (done : ∀ (B : Blk C A σ σ₂ env.locals ρ s.heap Ys) Zs σ' h' tk', (∀ b, σ b ≠ none → σ₂ b = none → σ' b = none) → J Ys.length Zs σ' → Zs.length ≤ Ys.length → (f σ') B.D = none → FinB B ((f σ').set B.D (.list Zs)) h' → RR (.ref B.D) B.N (.ok .next) { s with heap := h', toks := tk' }) :
    wpAny (model C.prog C.w) A (pyIter v) (fun it s₂ => wpAny (model C.prog C.w) A (newList []) (fun acc s₃ => wpAny (model C.prog C.w) A (newFunctionEnv scope env.globals cl [] env.qual none .none (some env)) (fun cenv s₄ =>
      codeAny (model C.prog C.w) A (.compStart (.ListComp elt [⟨.Name x px, iter, ifs, 0⟩] scope pos) 0 it acc { cenv with scope := relabel scope env }) (RR acc cenv.locals) s₄) E s₃) E s₂) E s := by
  refine blk_start (cl := cl) (ob := listOf ([] : List Value).toArray 0) (K := fun it acc e s => codeAny (model C.prog C.w) A (.compStart (.ListComp elt [⟨.Name x px, iter, ifs, 0⟩] scope pos) 0 it acc e) (RR acc e.locals) s) hcell hkind S R H F r rfl (fun s Q q => wpAny_newObj_type q) fun B h₀ tk₀ _ hD0 st0 J0 => ?_
  have loop : ∀ tk₀, codeAny (model C.prog C.w) A (.compLoop (.ListComp elt [⟨.Name x px, iter, ifs, 0⟩] scope pos) 0 (.ref B.I) (.ref B.D) (compEnvC scope cl B.N env)) (RR (.ref B.D) B.N) { s with heap := h₀, toks := tk₀ } := fun tk₀ => by
    refine codeAny_compLoop_tests (CInv B s J) (fun k s' I => ?_) (Ys.length + 1) (.mk 0 [] σ₂ h₀ tk₀ [] 0 rfl st0 J0 hD0 .nil (Nat.le_refl _) j0 rfl (Nat.zero_le _))
    cases I with
    | mk i Zs σ' h' tk' vs c e st l hD rZ hZ j hk hi =>
    cases e; cases hk
    rcases Nat.lt_or_ge i Ys.length with hlt | hge
    · refine B.W.walks.item i { s with heap := h', toks := tk' } _ _ hlt st fun v' h5 tk5 hP st5 hk5 => ?_
      have m := l.moved st hk5
      have hD5 := hk5 _ _ (fun w => B.ID (List.mem_singleton.mp w).symm) hD
      obtain ⟨Y, hY, rY⟩ := B.W.rep i v' h5 hlt hP m.1.G.tup
      have ta : TA C n (compEnvC scope cl B.N env) Loc.none σ' (.Name x px) Y fun ρ' σ'' => ρ' = Loc.none.set x Y ∧ σ'' = σ' := TA_local (lookup_relabel_local hx) hkind ⟨rfl, rfl⟩
      refine ta A { s with heap := h5, toks := tk5 } v' _ _ R m.1.H m.1.FN rY fun ρ6 σ6 h6 tk6 H6 F6 G6 p6 => ?_
      cases p6.1; cases p6.2
      refine turn B.N i Y Zs σ' (B.H.dead l.G) hY j A { s with heap := h6, toks := tk6 } _ _ R H6 F6 fun ok σ7 h7 tk7 H7 F7 G7 p7 => ?_
      have G67 := G6.trans G7
      cases ok with
      | false =>
        have l7 := m.1.step st5 hD5 H7 F7 G67
        exact ⟨_, turn_lt hlt, .mk (i + 1) Zs σ7 h7 tk7 vs c rfl l7.2 l7.1 (G67.keep _ _ hD5 m.1.oD B.DN) ((rZ.mono m.2).mono G67.tup) (Nat.le_succ_of_le hZ) p7 rfl hlt⟩
      | true =>
        refine p7 A { s with heap := h7, toks := tk7 } _ _ R H7 F7 fun z Z σ8 h8 tk8 rz H8 F8 G8 p8 => ?_
        have G68 := G67.trans G8
        have l8 := m.1.step st5 hD5 H8 F8 G68
        have hD8 := G68.keep _ _ hD5 m.1.oD B.DN
        have r8 := (rZ.mono m.2).mono G68.tup
        refine call_meets PySem.F.slot_list_append ⟨_, hD8, rfl⟩ PySem.F.entry_list_append (PySem.F.args_list_append_2 _ _) (PySem.list_append B.D vs.toArray c z (by rw [List.size_toArray, r8.length]; exact Nat.le_trans hZ (Nat.le_trans (Nat.le_of_lt hlt) hsz))) ⟨hD8, ?_⟩
        obtain ⟨c', e9⟩ := list_turn (fun x => x.push z) hD8
        have p := l8.1.put l8.2 hD8 list_tup (Heap.SameBut.update (f := Obj.mapSeq fun x => x.push z) ..)
        exact ⟨_, turn_lt hlt, .mk (i + 1) (Zs ++ [Z]) σ8 _ tk8 (vs ++ [z]) c' rfl p.2.1 p.1 (by rw [List.push_toArray] at e9; exact e9) ((r8.mono p.2.2).append (.cons (rz.mono p.2.2) .nil)) (by rw [List.length_append]; exact Nat.succ_le_succ hZ) p8 rfl hlt⟩
    · cases Nat.le_antisymm hi hge
      refine B.W.walks.done { s with heap := h', toks := tk' } _ _ st fun h5 tk5 hk5 => ?_
      have m := l.moved st hk5
      have q := m.1.fin S (y := .list Zs) ⟨vs, c, hk5 _ _ (fun w => B.ID (List.mem_singleton.mp w).symm) hD, rZ.mono m.2⟩
      exact done B Zs σ' h5 tk5 (B.H.dead l.G) j hZ q.1 q.2
  exact codeAny_compStart_list (loop _) (B.W.walks.self 0 { s with heap := h₀, toks := _ } _ _ st0 (loop _))
end
end
section
open PySem PySem.W PySem.Calls PyProof.Rows PySem.Spec
section
variable {C : Cx} {n : Nat} {env : Env} {ρ : Loc} {σ : Store}

section
variable (C n env)
noncomputable def CompOf (scope : Scope) (cl : List (Str × Addr)) (x : Str) (elt : Expr) (ifs : List Expr) (X : V) (σ₁ : Store) (Φ : V → Store → Prop) : Prop :=
  ∃ Ys σ₂ f, ∃ J : Nat → List V → Store → Prop, Src C σ₁ X Ys σ₂ f ∧ Ys.length ≤ sizeLine ∧ J 0 [] σ₂ ∧
    (∀ Ca i Y Zs σ', Dead σ₁ σ₂ σ' → Ys[i]? = some Y → J i Zs σ' → TIf C n (compEnvC scope cl Ca env) (Loc.none.set x Y) σ' ifs fun ok σ₃ => if ok = true then TE C n (compEnvC scope cl Ca env) (Loc.none.set x Y) σ₃ elt fun Z σ₄ => J (i + 1) (Zs ++ [Z]) σ₄ else J (i + 1) Zs σ₃) ∧
    (∀ D Zs σ', Dead σ₁ σ₂ σ' → J Ys.length Zs σ' → Zs.length ≤ Ys.length → (f σ') D = none → D ≠ env.locals → Φ (.ref D) ((f σ').set D (.list Zs)))
end

theorem TE_comp {elt iter : Expr} {x : Str} {px : Pos} {ifs : List Expr} {scope : Scope} {cl : List (Str × Addr)} {pos : Pos} {Φ : V → Store → Prop}
    (h : TE C n env ρ σ iter fun X σ₁ => CompOf C n env scope cl x elt ifs X σ₁ Φ)
    (hclos : closureFor scope env = pure cl := by rfl) (hcell : ∀ y ∈ scope.names, y.2 ≠ .cell := by decide +kernel) (hkind : scope.kind = .function := by rfl)
    (hnames : ∀ y ∈ scope.names, y.2 = .local → scope.names.lookup y.1 = some .local := by decide +kernel) (hx : scope.names.lookup x = some .local := by rfl)
    (hs : ∀ x, foldedSetIterable iter env x = pure x := by intro _; rfl) : TE C n env ρ σ (.ListComp elt [⟨.Name x px, iter, ifs, 0⟩] scope pos) Φ := by
  intro A s Q E R H F q
  rw [eval_ListComp]
  refine wpAny_comprehension_free (use := none) rfl hs hclos hkind hnames ?_
  refine h A s _ E R H F fun v X σ₁ h₁ tk₁ r₁ H₁ F₁ G₁ p₁ => ?_
  obtain ⟨Ys, σ₂, f, J, S, hz, j0, turn, done⟩ := p₁
  refine comp_core (s := { s with heap := h₁, toks := tk₁ }) J hcell hkind hx hz S R H₁ F₁ r₁ j0 turn fun B Zs σ' h' tk' dd j hl fD X => X.ns.elim fun m hm => ⟨m, hm, fun h'' hs'' => ?_⟩
  have g := X.letGo hs''
  exact q _ _ _ h'' tk' (.ref B.D) g.1 g.2.1 (G₁.trans (frm_go F₁ g.2.2)) (done B.D Zs σ' dd j hl fD B.LD.symm)

theorem TS_compL {elt iter : Expr} {x y : Str} {px py : Pos} {ifs : List Expr} {scope : Scope} {cl : List (Str × Addr)} {pos spos : Pos} {Φ : Fl → Loc → Store → Prop}
    (h : TE C n env ρ σ iter fun X σ₁ => CompOf C n env scope cl x elt ifs X σ₁ fun Z σ' => Φ .next (ρ.set y Z) σ')
    (hsw : swapsWith (.ListComp elt [⟨.Name x px, iter, ifs, 0⟩] scope pos) (some (.Name y py)) spos.line env = pure true := by rfl)
    (hy : env.kindOf y = some .local := by rfl) (hk : env.scope.kind = .function := by rfl)
    (hclos : closureFor scope env = pure cl := by rfl) (hcell : ∀ y ∈ scope.names, y.2 ≠ .cell := by decide +kernel) (hkind : scope.kind = .function := by rfl)
    (hnames : ∀ y ∈ scope.names, y.2 = .local → scope.names.lookup y.1 = some .local := by decide +kernel) (hx : scope.names.lookup x = some .local := by rfl)
    (hs : ∀ x, foldedSetIterable iter env x = pure x := by intro _; rfl) : TS C n env ρ σ (.Assign [.Name y py] (.ListComp elt [⟨.Name x px, iter, ifs, 0⟩] scope pos) spos) Φ := by
  intro A s Q E R H F q
  rw [exec_Assign_Name_used _ _ _ _ hsw]
  refine wpAny_bind (wpAny_standAt (wpAny_bind ?_))
  show wpAny _ A (do let _ ← comprehension (.ListComp elt [⟨.Name x px, iter, ifs, 0⟩] scope pos) scope env _ (newList []) false (eval iter env) (some (assign (.Name y py) env))) _ _ s
  refine wpAny_bind (wpAny_mono (wpAny_comprehension_free (use := some (assign (.Name y py) env)) (Q := fun _ s' => Q .next s') rfl hs hclos hkind hnames ?_) (fun _ s' hq => wpAny_pure (wpAny_pure hq)) fun _ _ e => e)
  refine h A s _ E R H F fun v X σ₁ h₁ tk₁ r₁ H₁ F₁ G₁ p₁ => ?_
  obtain ⟨Ys, σ₂, f, J, S, hz, j0, turn, done⟩ := p₁
  refine comp_core (s := { s with heap := h₁, toks := tk₁ }) J hcell hkind hx hz S R H₁ F₁ r₁ j0 turn fun B Zs σ' h' tk' dd j hl fD X => ?_
  have ta : TA C n env ρ ((f σ').set B.D (.list Zs)) (.Name y py) (.ref B.D) fun ρ' σ'' => ρ' = ρ.set y (.ref B.D) ∧ σ'' = (f σ').set B.D (.list Zs) := TA_local hy hk ⟨rfl, rfl⟩
  refine ta A { s with heap := h', toks := tk' } _ _ E R X.H X.F (.ref B.D) fun ρ' σ'' h2 tk2 H2 F2 G2 p2 => ?_
  cases p2.1; cases p2.2
  obtain ⟨m, o, es, ep, ho, r⟩ := X.ns
  have hm2 : h2.Ns B.N m := ⟨o, es, ep, G2.keep B.N o ho X.oN B.LN.symm, r⟩
  refine ⟨m, hm2, fun h'' hs'' => (ns_notTup hm2).elim fun o ho => ?_⟩
  have g := next_keeps0 (I := B.N) (fun b o hb e => (hs''.2 b fun w => hb (List.mem_singleton.mpr w)).trans e) ⟨o, ho⟩ B.nN (B.H.base_new B.nN) X.oN H2 ((frm_go F₁ X.G).trans G2)
  exact q _ _ _ _ h'' tk2 .next g.1 (g.2.1 _ _ B.LN F2) (G₁.trans g.2.2.1) (done B.D Zs σ' dd j hl fD B.LD.symm)
end
end
section
open PySem PySem.W PySem.Calls PyProof.Rows PySem.Spec
section
variable {C : Cx} {n : Nat} {env : Env} {ρ : Loc} {σ : Store}

theorem dloop {A : Around} {R : Result → Shared → Prop} {kx vx target iter : Expr} {ifs : List Expr} {scope : Scope} {pos : Pos} {it : Value} {D : Addr} {e₁ : Env} {s : Shared} (I : Nat → Shared → Prop)
    (turn : ∀ k s, I k s → wpAny (model C.prog C.w) A (pyNext it) (fun r s₁ => match r with
      | none => R (.ok .next) s₁
      | some v => wpAny (model C.prog C.w) A (letOwnedTupleGo target it v) (fun _ s₁' => wpAny (model C.prog C.w) A (assign target e₁ v) (fun _ s₂ =>
          wpAny (model C.prog C.w) A (forIn ifs true fun c r => if r = true then do let ok ← isTrue c e₁ (eval c e₁); pure (ForInStep.yield ok) else pure (ForInStep.yield r)) (fun ok s₃ =>
            if ok = true then wpAny (model C.prog C.w) A (eval kx e₁) (fun kv s₄ => wpAny (model C.prog C.w) A (eval vx e₁) (fun vv s₅ =>
              wpAny (model C.prog C.w) A (dictSet D kv vv) (fun _ s₆ => ∃ m, m < k ∧ I m s₆) (notedBy (model C.prog C.w) A e₁ fun e s' => R (.error e) s') s₅) (notedBy (model C.prog C.w) A e₁ fun e s' => R (.error e) s') s₄) (notedBy (model C.prog C.w) A e₁ fun e s' => R (.error e) s') s₃
            else ∃ m, m < k ∧ I m s₃) (notedBy (model C.prog C.w) A e₁ fun e s' => R (.error e) s') s₂) (notedBy (model C.prog C.w) A e₁ fun e s' => R (.error e) s') s₁') (notedBy (model C.prog C.w) A e₁ fun e s' => R (.error e) s') s₁) (notedBy (model C.prog C.w) A e₁ fun e s' => R (.error e) s') s)
    (k : Nat) (h : I k s) : codeAny (model C.prog C.w) A (.compLoop (.DictComp kx vx [⟨target, iter, ifs, 0⟩] scope pos) 0 it (.ref D) e₁) R s := by
  refine codeAny_loop rfl I (fun n s hI => ?_) k h
  show wpAny _ A ((compTurn (.DictComp kx vx [⟨target, iter, ifs, 0⟩] scope pos) 0 it (.ref D) e₁).onRaise (fun x => do noteFrame x e₁; theTreesLotGoes x)) _ _ s
  refine wpAny_noted ?_
  rw [compTurn_dict]
  refine wpAny_bind (wpAny_standAt (wpAny_bind (wpAny_mono (turn n s hI) (fun r s₁ h₁ => ?_) fun _ _ h' => h')))
  cases r with
  | none => exact wpAny_pure h₁
  | some v =>
    refine wpAny_bind (wpAny_mono h₁ (fun _ s₁' h₁' => ?_) fun _ _ h' => h')
    refine wpAny_bind (wpAny_mono h₁' (fun _ s₂ h₂ => wpAny_bind (wpAny_mono h₂ (fun ok s₃ h₃ => ?_) fun _ _ h' => h')) fun _ _ h' => h')
    cases ok with
    | false => exact wpAny_pure ⟨rfl, h₃⟩
    | true =>
      exact wpAny_bind (wpAny_bind (wpAny_mono h₃ (fun kv s₄ h₄ => wpAny_bind (wpAny_holding (wpAny_mono h₄ (fun vv s₅ h₅ => wpAny_bind (wpAny_standAt (wpAny_holding (wpAny_mono h₅ (fun _ s₆ h₆ => wpAny_pure ⟨rfl, h₆⟩) fun _ _ h' => h')))) fun _ _ h' => h'))) fun _ _ h' => h'))

theorem stored_new {h : Heap} {kvs : List (Str × Value)} {ps : List (Str × V)} {k : Str} {v : Value} {Y : V} (r : RepD h kvs ps) (hk : k ∉ ps.map (·.1)) (rv : Rep h v Y) : stored kvs k v = kvs ++ [(k, v)] ∧ RepD h (stored kvs k v) (ps ++ [(k, Y)]) := by
  have hno : ∀ {kvs : List (Str × Value)} {ps : List (Str × V)}, RepD h kvs ps → k ∉ ps.map (·.1) → kvs.any (fun kv => kv.1 = k) = false := by
    intro kvs ps r
    induction r with
    | nil => intro _; rfl
    | cons a r ih =>
      intro hk
      simp only [List.map_cons, List.mem_cons, not_or] at hk
      simp only [List.any_cons, ih hk.2, Bool.or_false, decide_eq_false_iff_not]
      exact fun e => hk.1 e.symm
  have app : ∀ {kvs : List (Str × Value)} {ps : List (Str × V)}, RepD h kvs ps → RepD h (kvs ++ [(k, v)]) (ps ++ [(k, Y)]) := by
    intro kvs ps r
    induction r with
    | nil => exact .cons rv .nil
    | cons a r ih => exact .cons a ih
  have e : stored kvs k v = kvs ++ [(k, v)] := by unfold stored; rw [hno r hk]; rfl
  exact ⟨e, e ▸ app r⟩

inductive DInv {A : Around} {L : Addr} {h : Heap} {Ys : List V} (B : Blk C A σ σ L ρ h Ys) (s : Shared) (ps : List (Str × V)) (k : Nat) (s' : Shared) : Prop
  | mk (i : Nat) (h' : Heap) (tk' : Nat) (kvs : List (Str × Value)) (e : s' = { s with heap := h', toks := tk' }) (st : B.St i h') (l : LI B σ h') (hD : h'.DictOf (PySem.strKind C.prog C.w) B.D kvs) (r : RepD h' kvs (ps.take i)) (hk : k = ps.length - i + 1) (hi : i ≤ ps.length)
theorem dict_at {h : Heap} {D : Addr} {kvs : List (Str × Value)} (hd : h.DictOf (PySem.strKind C.prog C.w) D kvs) : ∃ o, h.get? D = some o ∧ (o.cls = .type "tuple" → ∀ i k, o.data ≠ .seq i k) := by
  obtain ⟨o, es, ep, ho, hc, hd, _⟩ := hd
  exact ⟨o, ho, fun e a b e2 => by rw [hd] at e2; cases e2⟩
theorem not_before {ps : List (Str × V)} {i : Nat} {p : Str × V} (hnd : (ps.map (·.1)).Nodup) (hp : ps[i]? = some p) : p.1 ∉ (ps.take i).map (·.1) := fun hm => by
  obtain ⟨q, hq, e⟩ := List.mem_map.mp hm
  obtain ⟨j, hj, e2⟩ := List.getElem_of_mem hq
  have hi := List.getElem?_eq_some_iff.mp hp
  have hl := List.length_take (i := i) (l := ps)
  have hj' : j < i := Nat.lt_of_lt_of_le hj (by rw [hl]; exact Nat.min_le_left _ _)
  refine absurd ((List.getElem_inj (h₀ := by rw [List.length_map]; exact Nat.lt_trans hj' hi.1) (h₁ := by rw [List.length_map]; exact hi.1) hnd).mp ?_) (Nat.ne_of_lt hj')
  rw [List.getElem_map, List.getElem_map, hi.2, ← e, ← e2, List.getElem_take]
theorem dcomp_turn {A : Around} {E' : Value → Shared → Prop} {L : Addr} {h : Heap} {s s' : Shared} {ps : List (Str × V)} {k : Nat} {kn bn : Str} {kp bp kp' bp' tpos : Pos} {tk : Nat} {scope : Scope} {cl : List (Str × Addr)} {R' : Shared → Prop} (B : Blk C A σ σ L ρ h (ps.map fun p => V.tuple [.str p.1, p.2])) (I : DInv B s ps k s')
    (R : Room A n) (hz : ps.length ≤ 1000) (hnd : (ps.map (·.1)).Nodup) (hkb : kn ≠ bn) (hkind : scope.kind = .function) (hx : scope.names.lookup kn = some .local) (hy : scope.names.lookup bn = some .local) (hdk : (kn == ("__debug__" : Str)) = false) (hdb : (bn == ("__debug__" : Str)) = false)
    (fin : ∀ h5 tk5, FinB B (σ.set B.D (.sdict ps)) h5 → σ B.D = none → R' { s with heap := h5, toks := tk5 }) :
    wpAny (model C.prog C.w) A (pyNext (.ref B.I)) (fun r s₁ => match r with
      | none => R' s₁
      | some v => wpAny (model C.prog C.w) A (letOwnedTupleGo (.Tuple [.Name kn kp', .Name bn bp'] tk tpos) (.ref B.I) v) (fun _ s₁' => wpAny (model C.prog C.w) A (assign (.Tuple [.Name kn kp', .Name bn bp'] tk tpos) (compEnvC scope cl B.N env) v) (fun _ s₂ =>
          wpAny (model C.prog C.w) A (forIn ([] : List Expr) true fun c r => if r = true then do let ok ← isTrue c (compEnvC scope cl B.N env) (eval c (compEnvC scope cl B.N env)); pure (ForInStep.yield ok) else pure (ForInStep.yield r)) (fun ok s₃ =>
            if ok = true then wpAny (model C.prog C.w) A (eval (.Name kn kp) (compEnvC scope cl B.N env)) (fun kv s₄ => wpAny (model C.prog C.w) A (eval (.Name bn bp) (compEnvC scope cl B.N env)) (fun vv s₅ =>
              wpAny (model C.prog C.w) A (dictSet B.D kv vv) (fun _ s₆ => ∃ m, m < k ∧ DInv B s ps m s₆) E' s₅) E' s₄) E' s₃
            else ∃ m, m < k ∧ DInv B s ps m s₃) E' s₂) E' s₁') E' s₁) E' s' := by
  cases I with
  | mk i h' tk' kvs e st l hD rZ hk hi =>
  cases e; cases hk
  rcases Nat.lt_or_ge i ps.length with hlt | hge
  · refine B.W.walks.item i { s with heap := h', toks := tk' } _ _ (by rw [List.length_map]; exact hlt) st fun v' h5 tk5 hP st5 hk5 => ?_
    have m := l.moved st hk5
    have hD5 := hD.at fun o e => hk5 _ _ (fun w => B.ID (List.mem_singleton.mp w).symm) e
    obtain ⟨Y, hY, rY⟩ := B.W.rep i v' h5 (by rw [List.length_map]; exact hlt) hP m.1.G.tup
    obtain ⟨p, hp⟩ : ∃ p, ps[i]? = some p := ⟨_, List.getElem?_eq_getElem hlt⟩
    rw [List.getElem?_map, hp] at hY
    cases hY
    refine B.W.own _ (i + 1) { s with heap := h5, toks := tk5 } v' _ _ st5 ?_
    have ta : TA C n (compEnvC scope cl B.N env) Loc.none σ (.Tuple [.Name kn kp', .Name bn bp'] tk tpos) (.tuple [.str p.1, p.2]) fun ρ' σ' => TE C n (compEnvC scope cl B.N env) ρ' σ' (.Name kn kp) fun Z σ'' => TE C n (compEnvC scope cl B.N env) ρ' σ'' (.Name bn bp) fun W σ3 => Z = .str p.1 ∧ W = p.2 ∧ σ3 = σ :=
      TA_tuple rfl (TAs_cons (TA_local (lookup_relabel_local hx) hkind (TAs_cons (TA_local (lookup_relabel_local hy) hkind (TAs_nil (TE_local hkind (lookup_relabel_local hx) ((if_neg hkb).trans (if_pos rfl)) (TE_local hkind (lookup_relabel_local hy) (if_pos rfl) ⟨rfl, rfl, rfl⟩ hdb) hdk))))))
    refine ta A { s with heap := h5, toks := tk5 } v' _ _ R m.1.H m.1.FN rY fun ρ6 σ6 h6 tk6 H6 F6 G6 p6 => wpAny_tests_nil ?_
    refine p6 A { s with heap := h6, toks := tk6 } _ _ R H6 F6 fun z Z σ7 h7 tk7 rz H7 F7 G7 p7 => ?_
    refine p7 A { s with heap := h7, toks := tk7 } _ _ R H7 F7 fun y W σ8 h8 tk8 ry H8 F8 G8 p8 => ?_
    obtain ⟨rfl, rfl, rfl⟩ := p8
    have GB := (G6.trans G7).trans G8
    obtain ⟨oD, hoD, _⟩ := dict_at hD5
    have l8 := m.1.step st5 hoD H8 F8 GB
    have hD8 := hD5.at fun o e => GB.keep _ _ e m.1.oD B.DN
    have r8 := (rZ.mono m.2).mono GB.tup
    refine rz.str_elim fun t => ?_
    refine wpAny_dictSet_pairs (knd := PySem.strKind C.prog C.w) (kvs := kvs) (k := p.1) (strKind_is _ _ _ _) hD8 (fun h9 hD9 SB => ?_) (by rw [r8.length]; exact Nat.le_trans (Nat.le_trans (List.length_take_le' ..) hz) (Nat.le_trans (by decide) sizeLine_big))
    obtain ⟨o8, ho8, hp8⟩ := dict_at hD8
    have p := l8.1.put l8.2 ho8 hp8 SB
    obtain ⟨e1, e2⟩ := stored_new (r8.mono p.2.2) (not_before hnd hp) (ry.mono p.2.2)
    exact ⟨_, turn_lt hlt, .mk (i + 1) h9 _ _ rfl p.2.1 p.1 hD9 (by rw [List.take_add_one, hp]; exact e2) rfl hlt⟩
  · cases Nat.le_antisymm hi hge
    refine B.W.walks.done { s with heap := h', toks := tk' } _ _ (by rw [List.length_map]; exact st) fun h5 tk5 hk5 => ?_
    have m := l.moved st hk5
    have q1 := m.1.fin (.tup _) (y := .sdict ps) ⟨kvs, hD.at fun o e => hk5 _ _ (fun w => B.ID (List.mem_singleton.mp w).symm) e, by have := rZ.mono m.2; rwa [List.take_length] at this⟩
    exact fin h5 tk5 q1.2 q1.1

theorem TE_dcomp {iter : Expr} {kn bn : Str} {kp bp kp' bp' tpos : Pos} {tk : Nat} {scope : Scope} {cl : List (Str × Addr)} {pos : Pos} {Φ : V → Store → Prop}
    (h : TE C n env ρ σ iter fun X σ₁ => ∃ ps : List (Str × V), X = .tuple (ps.map fun p => V.tuple [.str p.1, p.2]) ∧ ps.length ≤ 1000 ∧ (ps.map (·.1)).Nodup ∧ ∀ D, σ₁ D = none → D ≠ env.locals → Φ (.ref D) (σ₁.set D (.sdict ps)))
    (hkb : kn ≠ bn := by decide) (hclos : closureFor scope env = pure cl := by rfl) (hcell : ∀ y ∈ scope.names, y.2 ≠ .cell := by decide +kernel) (hkind : scope.kind = .function := by rfl)
    (hnames : ∀ y ∈ scope.names, y.2 = .local → scope.names.lookup y.1 = some .local := by decide +kernel) (hx : scope.names.lookup kn = some .local := by rfl) (hy : scope.names.lookup bn = some .local := by rfl)
    (hdk : (kn == ("__debug__" : Str)) = false := by decide) (hdb : (bn == ("__debug__" : Str)) = false := by decide)
    (hs : ∀ x, foldedSetIterable iter env x = pure x := by intro _; rfl) : TE C n env ρ σ (.DictComp (.Name kn kp) (.Name bn bp) [⟨.Tuple [.Name kn kp', .Name bn bp'] tk tpos, iter, [], 0⟩] scope pos) Φ := by
  intro A s Q E R H F q
  rw [arm_eval_DictComp]
  refine wpAny_comprehension_free (use := none) rfl hs hclos hkind hnames ?_
  refine h A s _ E R H F fun v X σ₁ h₁ tk₁ r₁ H₁ F₁ G₁ p₁ => ?_
  obtain ⟨ps, rfl, hz, hnd, pf⟩ := p₁
  refine blk_start (s := { s with heap := h₁, toks := tk₁ }) (cl := cl) (ob := { cls := .type "dict", dict := none, data := .dict #[] }) (K := fun it acc e s' => codeAny (model C.prog C.w) A (.compStart (.DictComp (.Name kn kp) (.Name bn bp) [⟨.Tuple [.Name kn kp', .Name bn bp'] tk tpos, iter, [], 0⟩] scope pos) 0 it acc e) (compPost (model C.prog C.w) A E none Q acc e.locals) s') hcell hkind (.tup _) R H₁ F₁ r₁ rfl (fun s Q q => wpAny_newObj_type q) fun B h₀ tk₀ hd0 _ st0 J0 => ?_
  have hD0 : h₀.DictOf (PySem.strKind C.prog C.w) B.D [] := hd0.elim fun hh e => e.1 ▸ (Heap.DictOf.new hh).at fun o => e.2 o
  have loop : ∀ tk₀, codeAny (model C.prog C.w) A (.compLoop (.DictComp (.Name kn kp) (.Name bn bp) [⟨.Tuple [.Name kn kp', .Name bn bp'] tk tpos, iter, [], 0⟩] scope pos) 0 (.ref B.I) (.ref B.D) (compEnvC scope cl B.N env))
      (compPost (model C.prog C.w) A E none Q (.ref B.D) B.N) { s with heap := h₀, toks := tk₀ } := fun tk₀ => by
    refine dloop (C := C) (DInv B s ps) (fun k s' I => ?_) (ps.length + 1) (.mk 0 h₀ tk₀ [] rfl st0 J0 hD0 .nil rfl (Nat.zero_le _))
    exact dcomp_turn B I R hz hnd hkb hkind hx hy hdk hdb fun h5 tk5 X hD => X.ns.elim fun m hm => ⟨m, hm, fun h'' hs'' => by
      have g := X.letGo hs''
      exact q _ _ _ h'' tk5 (.ref _) g.1 g.2.1 (G₁.trans (frm_go F₁ g.2.2)) (pf _ hD B.LD.symm)⟩
  exact codeAny_compStart_dict (loop _) (B.W.walks.self 0 { s with heap := h₀, toks := _ } _ _ st0 (loop _))
end
end
section
open PySem PySem.W PySem.Calls PyProof.Rows PySem.Spec
section
variable {C : Cx} {n : Nat} {env : Env} {ρ : Loc} {σ : Store}

theorem T_bool {b : Bool} {Φ : Bool → Store → Prop} (h : Φ b σ) : TT C n σ (.bool b) Φ := by
  intro A s a Q E R H r q
  refine r.bool_elim ?_
  exact wpAny_truthy_bool (q b σ s.heap s.toks H (.refl ..) h)
theorem T_list {a : Addr} {Xs : List V} {Φ : Bool → Store → Prop} (ha : σ a = some (.list Xs)) (hz : (Xs.length : Int) < 2 ^ 63) (h : Φ (!Xs.isEmpty) σ) : TT C n σ (.ref a) Φ := by
  intro A s v Q E R H r q
  refine r.ref_elim ?_
  obtain ⟨vs, k, e, rl⟩ := H.obj _ _ ha
  have len := rl.length
  refine wpAny_truthy_list (isList_of e) (by rw [List.size_toArray, len]; exact hz) ?_
  have e2 : vs.toArray.isEmpty = Xs.isEmpty := RepL.ind (M := fun vs Xs => vs.toArray.isEmpty = Xs.isEmpty) rfl (fun _ _ _ _ _ _ _ => by simp) _ _ rl
  rw [e2]
  exact q _ σ s.heap _ H (.refl ..) h

theorem TE_last {op : BoolOp} {e : Expr} {pos : Pos} {Φ : V → Store → Prop} (h : TE C n env ρ σ e Φ) : TE C n env ρ σ (.BoolOp op [e] pos) Φ :=
  fun A s Q E R H F q => BoolOp_one (h A s Q E R H F q)
theorem TE_and {e₁ e₂ : Expr} {rest : List Expr} {pos : Pos} {Φ : V → Store → Prop}
    (h : TE C n env ρ σ e₁ fun X σ₁ => TT C n σ₁ X fun b σ₂ => if b = true then TE C n env ρ σ₂ (.BoolOp .And (e₂ :: rest) pos) Φ else Φ X σ₂) : TE C n env ρ σ (.BoolOp .And (e₁ :: e₂ :: rest) pos) Φ := by
  intro A s Q E R H F q
  refine BoolOp_and (h A s _ E R H F fun v X σ₁ h₁ tk₁ r₁ H₁ F₁ G₁ p₁ => ?_)
  refine p₁ A _ _ _ E R H₁ r₁ fun b σ₂ h₂ tk₂ H₂ G₂ p₂ => ?_
  cases b with
  | true => exact p₂ A _ _ E R H₂ (F₁.go G₂) fun r R' σ' h' tk' r' H' F' G' p => q r R' σ' h' tk' r' H' F' ((G₁.trans (frm_go F₁ G₂)).trans G') p
  | false => exact q _ _ σ₂ h₂ tk₂ (r₁.mono G₂.tup) H₂ (F₁.go G₂) (G₁.trans (frm_go F₁ G₂)) p₂
theorem TE_or {e₁ e₂ : Expr} {rest : List Expr} {pos : Pos} {Φ : V → Store → Prop}
    (h : TE C n env ρ σ e₁ fun X σ₁ => TT C n σ₁ X fun b σ₂ => if b = true then Φ X σ₂ else TE C n env ρ σ₂ (.BoolOp .Or (e₂ :: rest) pos) Φ) : TE C n env ρ σ (.BoolOp .Or (e₁ :: e₂ :: rest) pos) Φ := by
  intro A s Q E R H F q
  refine BoolOp_or (h A s _ E R H F fun v X σ₁ h₁ tk₁ r₁ H₁ F₁ G₁ p₁ => ?_)
  refine p₁ A _ _ _ E R H₁ r₁ fun b σ₂ h₂ tk₂ H₂ G₂ p₂ => ?_
  cases b with
  | false => exact p₂ A _ _ E R H₂ (F₁.go G₂) fun r R' σ' h' tk' r' H' F' G' p => q r R' σ' h' tk' r' H' F' ((G₁.trans (frm_go F₁ G₂)).trans G') p
  | true => exact q _ _ σ₂ h₂ tk₂ (r₁.mono G₂.tup) H₂ (F₁.go G₂) (G₁.trans (frm_go F₁ G₂)) p₂

theorem O_fdiv {a b : Int} {Φ : V → Store → Prop} (hb : b ≠ 0) (hn : 51 ≤ n) (h : Φ (.int (a.fdiv b)) σ) : TO2 C n σ (binaryOp .FloorDiv) (.int a) (.int b) Φ := by
  intro A s x y Q E R H rx ry q; refine rx.int_elim fun _ => ?_; refine ry.int_elim fun _ => ?_
  obtain ⟨e, l, hf, pe⟩ := R.top
  have hd : A.depth + Builtin.pylongFrames < recursionLimit := by
    have := R.depth
    show A.depth + 100 < recursionLimit
    omega
  have ns : s.heap.NoSeer := C.seer.keeps H.base
  exact PyProof.Rows.floordiv_int hb (q _ _ σ _ _ (.int _ _) H (.refl ..) h) (.inr (PylongRoom.of (C.top.nolimit.keeps H.base) hd (SeerAt.of ns C.tree hf pe.gen pe.co pe.bn pe.gl)))
theorem O_pow {a k : Int} {Φ : V → Store → Prop} (h0 : 0 ≤ k) (h1 : k ≤ 1000000) (ha : a.natAbs < 2 ^ 64) (h : Φ (.int (a ^ k.toNat)) σ) : TO2 C n σ (binaryOp .Pow) (.int a) (.int k) Φ := by
  intro A s x y Q E R H rx ry q; refine rx.int_elim fun _ => ?_; refine ry.int_elim fun _ => ?_
  exact pow_int_small h0 h1 ha (q _ _ σ _ _ (.int _ _) H (.refl ..) h)

theorem list_reads {a : Addr} {Xs : List V} {h : Heap} (H : Holds C σ h) (ha : σ a = some (.list Xs)) (hx : V.datas 38 Xs = true) : (∃ as, Reads h (.ref a) (.list (V.pys Xs)) as) ∧ SeqAt.shaped (.list (V.pys Xs)) = true := by
  obtain ⟨vs, k, e, rl⟩ := H.obj _ _ ha
  obtain ⟨as, q⟩ := rl.reads 38 hx
  refine ⟨⟨_, reads_list_at e rfl rfl (by simpa using q)⟩, ?_⟩
  have := V.canLays 38 Xs hx
  unfold SeqAt.shaped
  simp only [PyData.canLay0, PyData.depth, this.1, Bool.true_and]
  exact decide_eq_true (by omega)
theorem O_eqL {a b : Addr} {Xs Ys : List V} {Φ : V → Store → Prop} (ha : σ a = some (.list Xs)) (hb : σ b = some (.list Ys)) (hx : V.datas 38 Xs = true) (hy : V.datas 38 Ys = true)
    (h : Φ (.bool (PyData.eqv (.list (V.pys Xs)) (.list (V.pys Ys)))) σ) : TO2 C n σ (compareOp .Eq) (.ref a) (.ref b) Φ := by
  intro A s x y Q E R H rx ry q; refine rx.ref_elim ?_; refine ry.ref_elim ?_
  obtain ⟨⟨as, ra⟩, sa⟩ := list_reads H ha hx
  obtain ⟨⟨bs, rb⟩, sb⟩ := list_reads H hb hy
  exact eq_dataH ra rb sa sb R.u64 (q _ _ σ _ s.toks (.bool _) H (.refl ..) h)
theorem O_neL {a b : Addr} {Xs Ys : List V} {Φ : V → Store → Prop} (ha : σ a = some (.list Xs)) (hb : σ b = some (.list Ys)) (hx : V.datas 38 Xs = true) (hy : V.datas 38 Ys = true)
    (h : Φ (.bool (!PyData.eqv (.list (V.pys Xs)) (.list (V.pys Ys)))) σ) : TO2 C n σ (compareOp .NotEq) (.ref a) (.ref b) Φ := by
  intro A s x y Q E R H rx ry q; refine rx.ref_elim ?_; refine ry.ref_elim ?_
  obtain ⟨⟨as, ra⟩, sa⟩ := list_reads H ha hx
  obtain ⟨⟨bs, rb⟩, sb⟩ := list_reads H hb hy
  exact ne_dataH ra rb sa sb R.u64 (q _ _ σ _ s.toks (.bool _) H (.refl ..) h)

theorem O_notInK {a : Addr} {x : Str} {es : Array DictEntry} {k : Nat} {r : Option Value} {Φ : V → Store → Prop} (hl : C.K.lookup a = some ⟨.type "dict", none, .dict es k, #[]⟩) (hk : KeysLit C.w.params es.toList) (e : nsIn C.K a x = some r)
    (lo : (a == sysModules) = false) (h : Φ (.bool (!r.isSome)) σ) : TO2 C n σ (compareOp .NotIn) (.str x) (.ref a) Φ := by
  intro A s x' y Q E R H rx ry q; refine rx.str_elim fun _ => ?_; refine ry.ref_elim ?_
  refine wpAny_notIn_of (knd := PySem.strKind C.prog C.w) (k := x) (by simp [PySem.strKind, Value.isStrOf]) lo (mapOf_K H.kin hl hk) ?_
  rw [find_K hl e]
  exact q _ _ σ _ _ (.bool _) H (.refl ..) h
theorem O_itemK {v i : Expr} {a : Addr} {x : Str} {es : Array DictEntry} {k : Nat} {w : Value} {Y : V} {Φ : V → Store → Prop} (hl : C.K.lookup a = some ⟨.type "dict", none, .dict es k, #[]⟩) (hk : KeysLit C.w.params es.toList) (e : nsIn C.K a x = some (some w))
    (hr : Rep C.h₀ w Y) (h : Φ Y σ)
    (hs : ∀ t u, subscripted i false (.ref t) (.str x u) = operate [.ref t, .str x u] (getItem (.ref t) (.str x u)) := by intro _ _; with_unfolding_all rfl) : TO2 C n σ (subscriptTail v i) (.ref a) (.str x) Φ := by
  intro A s x' y Q E R H rx ry q; refine rx.ref_elim ?_; refine ry.str_elim fun _ => ?_
  have m := mapOf_K (prog := C.prog) H.kin hl hk
  exact tail_any m.typeIs slot_dict_getitem.lookup (wpAny_getItem_of (knd := PySem.strKind C.prog C.w) (k := x) (by simp [PySem.strKind, Value.isStrOf]) m (find_K hl e) (q _ _ σ _ _ (hr.mono (HKeep.tup H.base)) H (.refl ..) h)) (hs _ _)

noncomputable def lkD {K : Type} [DecidableEq K] (k : K) (es : List (K × V)) : Option V := (es.find? fun p => p.1 = k).map (·.2)
noncomputable def putD {K : Type} [DecidableEq K] (k : K) (X : V) (es : List (K × V)) : List (K × V) := if es.any (fun p => p.1 = k) then es.map (fun p => if p.1 = k then (p.1, X) else p) else es ++ [(k, X)]
theorem RepD.any {K : Type} [DecidableEq K] {h : Heap} {k : K} {kvs : List (K × Value)} {es : List (K × V)} (r : RepD h kvs es) : kvs.any (fun p => p.1 = k) = es.any (fun p => p.1 = k) := by
  induction r with
  | nil => rfl
  | cons a r ih => simp only [List.any_cons, ih]
theorem RepD.at {K : Type} [DecidableEq K] {h : Heap} {k : K} {kvs : List (K × Value)} {es : List (K × V)} (r : RepD h kvs es) : match lkD k es with | some X => ∃ v, valueAt kvs k = some v ∧ Rep h v X | none => valueAt kvs k = none := by
  induction r with
  | nil => rfl
  | @cons k' v x r xs a r ih =>
    unfold lkD valueAt at *
    by_cases c : k' = k
    · simp only [List.find?_cons, c, decide_true]; exact ⟨v, rfl, a⟩
    · simp only [List.find?_cons, c, decide_false]; exact ih
theorem RepD.map_put {K : Type} [DecidableEq K] {h : Heap} {k : K} {v : Value} {X : V} {kvs : List (K × Value)} {es : List (K × V)} (r : RepD h kvs es) (rv : Rep h v X) : RepD h (kvs.map (fun p => if p.1 = k then (p.1, v) else p)) (es.map (fun p => if p.1 = k then (p.1, X) else p)) := by
  induction r with
  | nil => exact .nil
  | @cons k' v' x r xs a r ih =>
    simp only [List.map_cons]
    by_cases c : k' = k
    · rw [if_pos c, if_pos c]; exact .cons rv ih
    · rw [if_neg c, if_neg c]; exact .cons a ih
theorem RepD.app {K : Type} {h : Heap} {k : K} {v : Value} {X : V} {kvs : List (K × Value)} {es : List (K × V)} (r : RepD h kvs es) (rv : Rep h v X) : RepD h (kvs ++ [(k, v)]) (es ++ [(k, X)]) := by
  induction r with
  | nil => exact .cons rv .nil
  | cons a r ih => exact .cons a ih
theorem RepD.put {K : Type} [DecidableEq K] {h : Heap} {k : K} {v : Value} {X : V} {kvs : List (K × Value)} {es : List (K × V)} (r : RepD h kvs es) (rv : Rep h v X) : RepD h (stored kvs k v) (putD k X es) := by
  unfold stored putD
  rw [r.any]
  split
  · exact r.map_put rv
  · exact r.app rv

theorem O_inD {a : Addr} {es : List (Int × V)} {k : Int} {Φ : V → Store → Prop} (ha : σ a = some (.idict es)) (h : Φ (.bool (lkD k es).isSome) σ) : TO2 C n σ (compareOp .In) (.int k) (.ref a) Φ := by
  intro A s x' y Q E R H rx ry q; refine rx.int_elim fun _ => ?_; refine ry.ref_elim ?_
  obtain ⟨kvs, hd, r⟩ := H.obj _ _ ha
  refine wpAny_in_of (knd := PySem.intKind C.prog C.w) (k := k) (by simp [PySem.intKind, Value.isInt]) (H.notSys ha) hd.mapOf ?_
  have : (valueAt kvs k).isSome = (lkD k es).isSome := by
    have := r.at (k := k)
    cases z : lkD k es with
    | none => rw [z] at this; rw [this]; rfl
    | some X => rw [z] at this; obtain ⟨v, e, _⟩ := this; rw [e]; rfl
  rw [this]
  exact q _ _ σ _ _ (.bool _) H (.refl ..) h
theorem O_itemD {v i : Expr} {a : Addr} {es : List (Int × V)} {k : Int} {Y : V} {Φ : V → Store → Prop} (ha : σ a = some (.idict es)) (hy : lkD k es = some Y) (h : Φ Y σ)
    (hs : ∀ t u, subscripted i false (.ref t) (.int k u) = operate [.ref t, .int k u] (getItem (.ref t) (.int k u)) := by intro _ _; with_unfolding_all rfl) : TO2 C n σ (subscriptTail v i) (.ref a) (.int k) Φ := by
  intro A s x' y Q E R H rx ry q; refine rx.ref_elim ?_; refine ry.int_elim fun _ => ?_
  obtain ⟨kvs, hd, r⟩ := H.obj _ _ ha
  have := r.at (k := k)
  rw [hy] at this
  obtain ⟨w, e, rw'⟩ := this
  exact tail_any hd.mapOf.typeIs slot_dict_getitem.lookup (wpAny_getItem_of (knd := PySem.intKind C.prog C.w) (k := k) (by simp [PySem.intKind, Value.isInt]) hd.mapOf e (q _ _ σ _ _ rw' H (.refl ..) h)) (hs _ _)
theorem O_itemSD {v i : Expr} {a : Addr} {es : List (Str × V)} {k : Str} {Y : V} {Φ : V → Store → Prop} (ha : σ a = some (.sdict es)) (hy : lkD k es = some Y) (h : Φ Y σ)
    (hs : ∀ t u, subscripted i false (.ref t) (.str k u) = operate [.ref t, .str k u] (getItem (.ref t) (.str k u)) := by intro _ _; with_unfolding_all rfl) : TO2 C n σ (subscriptTail v i) (.ref a) (.str k) Φ := by
  intro A s x' y Q E R H rx ry q; refine rx.ref_elim ?_; refine ry.str_elim fun _ => ?_
  obtain ⟨kvs, hd, r⟩ := H.obj _ _ ha
  have := r.at (k := k)
  rw [hy] at this
  obtain ⟨w, e, rw'⟩ := this
  exact tail_any hd.mapOf.typeIs slot_dict_getitem.lookup (wpAny_getItem_of (knd := PySem.strKind C.prog C.w) (k := k) (by simp [PySem.strKind, Value.isStrOf]) hd.mapOf e (q _ _ σ _ _ rw' H (.refl ..) h)) (hs _ _)
theorem B_get {d : Addr} {es : List (Str × V)} {k : Str} {X : V} {Φ : V → Store → Prop} (hd : σ d = some (.sdict es)) (h : Φ ((lkD k es).getD X) σ) : TC C n σ (.bltn "dict.get") [.ref d, .str k, X] Φ :=
  fun A s fv vs Q E R H rf rX q => rf.bltn_inv ▸ rX.three fun v w v3 r1 r2 r3 => r1.ref_elim (r2.str_elim fun t => (H.obj _ _ hd).elim fun kvs m => by
    refine call_meetsIn PySem.F.slot_dict_get m.1.mapOf.typeIs PySem.F.entry_dict_get (PySem.F.args_dict_get_3 _ _ _) (meets_dict_get_default (PySem.strKind C.prog C.w) (k := k) d (strKind_is _ _ _ _) (H.notSys hd) v3) ⟨valueAt kvs, m.1.mapOf, ?_⟩
    have := m.2.at (k := k)
    cases z : lkD k es with
    | none =>
      rw [z] at this h; rw [this]
      exact q _ _ σ _ _ r3 H (.refl ..) h
    | some X =>
      rw [z] at this h; obtain ⟨w, e, rw'⟩ := this; rw [e]
      exact q _ _ σ _ _ rw' H (.refl ..) h)
theorem TE_dict0S {pos : Pos} {Φ : V → Store → Prop} (h : ∀ a, σ a = none → a ≠ env.locals → Φ (.ref a) (σ.set a (.sdict []))) : TE C n env ρ σ (.Dict [] [] pos) Φ := by
  intro A s Q E R H F q
  rw [eval_Dict_empty]
  have nw := heap_new s.heap
  have ne : s.heap.objs.size ≠ env.locals := fun e => by
    obtain ⟨⟨m, hm, _⟩, _⟩ := F
    have hl := hm.lt
    rw [← e] at hl
    exact Nat.lt_irrefl _ hl
  have k := HKeep.push s.heap { cls := .type "dict", data := .dict #[] }
  have G := Go.alloc (σ := σ) (F := fun _ => False) (x := .sdict []) k nw
  exact wpAny_bind (wpAny_standAt (wpAny_newObj_type (q _ _ _ _ s.toks (.ref _) (H.alloc (x := .sdict []) k nw ⟨[], Heap.DictOf.new s.heap, .nil⟩) (F.go G) (frm_go F G) (h _ (H.off_new nw) ne))))
theorem TE_dict0I {pos : Pos} {Φ : V → Store → Prop} (h : ∀ a, σ a = none → a ≠ env.locals → Φ (.ref a) (σ.set a (.idict []))) : TE C n env ρ σ (.Dict [] [] pos) Φ := by
  intro A s Q E R H F q
  rw [eval_Dict_empty]
  have nw := heap_new s.heap
  have ne : s.heap.objs.size ≠ env.locals := fun e => by
    obtain ⟨⟨m, hm, _⟩, _⟩ := F
    have hl := hm.lt
    rw [← e] at hl
    exact Nat.lt_irrefl _ hl
  have k := HKeep.push s.heap { cls := .type "dict", data := .dict #[] }
  have G := Go.alloc (σ := σ) (F := fun _ => False) (x := .idict []) k nw
  exact wpAny_bind (wpAny_standAt (wpAny_newObj_type (q _ _ _ _ s.toks (.ref _) (H.alloc (x := .idict []) k nw ⟨[], Heap.DictOf.new s.heap, .nil⟩) (F.go G) (frm_go F G) (h _ (H.off_new nw) ne))))
theorem TA_itemD {o i : Expr} {pos : Pos} {Y : V} {Φ : Loc → Store → Prop}
    (h : TE C n env ρ σ o fun X σ₁ => TE C n env ρ σ₁ i fun I σ₂ => ∃ a k es, X = .ref a ∧ I = .int k ∧ σ₂ a = some (.idict es) ∧ es.length ≤ 100000 ∧ Φ ρ (σ₂.set a (.idict (putD k Y es)))) : TA C n env ρ σ (.Subscript o i pos) Y Φ := by
  intro A s v Q E R H F r q
  rw [arm_assign_Subscript]
  refine wpAny_bind (wpAny_holding (h A s _ E R H F fun ov X σ₁ h₁ tk₁ r₁ H₁ F₁ G₁ p₁ => ?_))
  refine wpAny_bind (wpAny_holding (p₁ A { s with heap := h₁, toks := tk₁ } _ E R H₁ F₁ fun iv I σ₂ h₂ tk₂ r₂ H₂ F₂ G₂ p₂ => ?_))
  obtain ⟨a, k, es, rfl, rfl, ha, hz, p⟩ := p₂
  refine r₁.ref_elim ?_; refine r₂.int_elim fun _ => ?_
  obtain ⟨kvs, hd, rd⟩ := H₂.obj _ _ ha
  refine wpAny_bind (wpAny_standAt (wpAny_bind (wpAny_holding ?_)))
  refine wpAny_setItem_pairs (s := { s with heap := h₂, toks := tk₂ }) (knd := PySem.intKind C.prog C.w) (k := k) (by simp [PySem.intKind, Value.isInt]) hd (fun h' hd' SB => ?_) (by rw [rd.length]; exact Nat.le_trans hz sizeLine_big)
  obtain ⟨o₀, es₀, ep₀, ho₀, hc₀, hd₀, _⟩ := id hd
  obtain ⟨o₁, es₁, ep₁, ho₁, hc₁, hd₁, _⟩ := id hd'
  have G : Go σ₂ (fun _ => False) h₂ (σ₂.set a (.idict (putD k Y es))) h' := Go.upd SB ho₀ ho₁ (by rw [ha]; simp) fun _ i n e => by rw [hd₀] at e; cases e
  have H' := H₂.upd (x := .idict (putD k Y es)) (by rw [ha]; simp) SB G.tup ⟨_, hd', (rd.mono G.tup).put (((r.mono G₁.tup).mono G₂.tup).mono G.tup)⟩
  exact wpAny_release' (q _ _ h' _ H' (F₂.go G) ((G₁.trans G₂).trans (frm_go F₂ G)) p)
end
end
section
open PySem PySem.W PySem.Calls PyProof.Rows PySem.Spec
section
variable {C : Cx} {n : Nat} {env : Env} {ρ : Loc} {σ : Store}

noncomputable def CodeO (o : Obj) (q : Str) : Prop := ∃ vs t, o.data = .fields vs ∧ vs[1]? = some (.str q t)
noncomputable def TabQ (σ : Store) (P : Addr) (q : Str) : Prop := ∃ ps, σ P = some (.raw (tabObj ps)) ∧ TriplesOk ps.toList ∧ ∀ pos cv, codeAmong pos ps.toList = some cv → ∃ c o, cv = .ref c ∧ σ c = some (.raw o) ∧ CodeO o q ∧ c ≠ P
noncomputable def TabStep (P : Addr) (σ σ' : Store) : Prop := ∀ a, a ≠ P → σ a ≠ none → σ' a = σ a
theorem TabStep.refl (P : Addr) (σ : Store) : TabStep P σ σ := fun _ _ _ => rfl
theorem TabStep.trans {P : Addr} {σ σ₁ σ₂ : Store} (a : TabStep P σ σ₁) (b : TabStep P σ₁ σ₂) : TabStep P σ σ₂ := fun x hx hs => (b x hx (by rw [a x hx hs]; exact hs)).trans (a x hx hs)

theorem TriplesOk.snoc : ∀ (l : List Value) {a b : Int} {t u : Tok} {c : Value}, TriplesOk l → TriplesOk (l ++ [.int a t, .int b u, c]) := by
  intro l
  fun_induction TriplesOk l with
  | case1 => intro a b t u c _; simp [TriplesOk]
  | case2 x y z w v rest ih => intro a b t u c h; simpa [TriplesOk] using ih h
  | case3 => intro a b t u c h; exact h.elim
theorem codeAmong_snoc_inv {pos p₀ : Pos} {c cv : Value} : ∀ (l : List Value), TriplesOk l → codeAmong pos (l ++ [rawInt p₀.line, rawInt p₀.col, c]) = some cv → codeAmong pos l = some cv ∨ cv = c := by
  intro l
  fun_induction TriplesOk l with
  | case1 =>
    intro _ h
    simp only [List.nil_append, rawInt, codeAmong] at h
    split at h
    · right; simpa using h.symm
    · simp at h
  | case2 x y z w v rest ih =>
    intro ht h
    simp only [List.cons_append, codeAmong] at h ⊢
    split at h
    · rename_i hc; left; rw [if_pos hc]; exact h
    · rename_i hc; rw [if_neg hc]; exact ih ht h
  | case3 => intro h; exact h.elim

noncomputable def LamAt (σ : Store) (f : Addr) (q : Str) (params : Arguments) (body : Expr) (scope : Scope) (clos : List (Str × Addr)) : Prop :=
  ∃ o c oc pm ctv, σ f = some (.raw o) ∧ o.data = .func (kla_fn "<lambda>" q params body scope clos pm (.ref c) ctv) ∧ σ c = some (.raw oc) ∧ CodeO oc q

theorem lam_store {h h'' : Heap} {P c f : Addr} {o₀ oP oc fo : Obj} (H : Holds C σ h) (hP : σ P = some (.raw o₀)) (ht : ∀ i k, o₀.data ≠ .seq i k) (kp : ∀ b o, b ≠ P → h.get? b = some o → h''.get? b = some o)
    (gP : h''.get? P = some oP) (gc : h''.get? c = some oc) (gf : h''.get? f = some fo) (nc : h.get? c = none) (nf : h.get? f = none) (cP : c ≠ P) (Pf : P ≠ f) (cf : c ≠ f) :
    ∃ σ₁, Holds C σ₁ h'' ∧ Go σ (fun _ => False) h σ₁ h'' ∧ σ₁ P = some (.raw oP) ∧ σ₁ c = some (.raw oc) ∧ σ₁ f = some (.raw fo) ∧ ∀ a, a ≠ P → a ≠ c → a ≠ f → σ₁ a = σ a := by
  have hPo : h.get? P = some o₀ := H.obj _ _ hP
  have tk0 : TupKeep h h'' := fun a o i k e cc d => kp a o (fun z => by rw [z, hPo] at e; cases e; exact ht _ _ d) e
  have sP : ∀ a, a ≠ P → a ≠ c → a ≠ f → (((σ.set P (.raw oP)).set c (.raw oc)).set f (.raw fo)) a = σ a := fun a h1 h2 h3 => (if_neg h3).trans ((if_neg h2).trans (if_neg h1))
  have sPP : (((σ.set P (.raw oP)).set c (.raw oc)).set f (.raw fo)) P = some (.raw oP) := (if_neg Pf).trans ((if_neg cP.symm).trans (if_pos rfl))
  have sPc : (((σ.set P (.raw oP)).set c (.raw oc)).set f (.raw fo)) c = some (.raw oc) := (if_neg cf).trans (if_pos rfl)
  have sPf : (((σ.set P (.raw oP)).set c (.raw oc)).set f (.raw fo)) f = some (.raw fo) := if_pos rfl
  generalize (((σ.set P (.raw oP)).set c (.raw oc)).set f (.raw fo)) = σ₁ at sP sPP sPc sPf
  have four : ∀ {M : Addr → Option AObj → Prop}, M P (some (.raw oP)) → M c (some (.raw oc)) → M f (some (.raw fo)) → (∀ a, a ≠ P → M a (σ a)) → ∀ a, M a (σ₁ a) := fun m1 m2 m3 m4 a => by
    by_cases q1 : a = P
    · rw [q1, sPP]; exact m1
    · by_cases q2 : a = c
      · rw [q2, sPc]; exact m2
      · by_cases q3 : a = f
        · rw [q3, sPf]; exact m3
        · rw [sP a q1 q2 q3]; exact m4 a q1
  refine ⟨σ₁, ⟨fun b o e => kp b o (fun z => by rw [z, H.new _ _ hP] at e; cases e) (H.base b o e), ?_, ?_⟩, ⟨fun a o e n _ => kp a o (fun z => by rw [z, hP] at n; cases n) e, tk0, fun a o e => ?_, ?_⟩, sPP, sPc, sPf, sP⟩
  · exact four (M := fun a y => ∀ x, y = some x → RepO C h'' a x) (fun x e => by cases e; exact gP) (fun x e => by cases e; exact gc) (fun x e => by cases e; exact gf) (fun a q x e => (H.obj a x e).at tk0 fun o z => kp a o q z)
  · exact four (M := fun a y => ∀ x, y = some x → C.h₀.get? a = none) (fun _ _ => H.new _ _ hP) (fun _ _ => H.base_new nc) (fun _ _ => H.base_new nf) (fun a _ x e => H.new a x e)
  · by_cases q1 : a = P
    · exact ⟨_, q1 ▸ gP⟩
    · exact ⟨o, kp a o q1 e⟩
  · exact four (M := fun a y => y ≠ none → σ a ≠ none ∨ h.get? a = none) (fun _ => .inl (by rw [hP]; exact fun z => by cases z)) (fun _ => .inr nc) (fun _ => .inr nf) (fun a _ e => .inl e)
theorem TE_lam {params : Arguments} {body : Expr} {scope : Scope} {pos : Pos} {c P : Addr} {q : Str} {clos : List (Str × Addr)} {Φ : V → Store → Prop} (ht : TabQ σ P q)
    (hh : CodeHd C.h₀ c P) (hcode : env.code = .ref c) (hge : env.globals = mainGlobals) (hq : env.qual ++ "<lambda>" = q) (hcl : closureFor scope env = pure clos)
    (h : ∀ f σ₁, TabStep P σ σ₁ → TabQ σ₁ P q → σ f = none → f ≠ env.locals → LamAt σ₁ f q params body scope clos → Φ (.ref f) σ₁)
    (hdef : defaultsOf params env = ([], []) := by rfl) : TE C n env ρ σ (.Lambda params body scope pos) Φ := by
  intro A s Q E R H F qq
  obtain ⟨ps, hP, hT, hC⟩ := ht
  have hPo : s.heap.get? P = some (tabObj ps) := H.obj _ _ hP
  have hPn := H.new _ _ hP
  have hgs := C.top.g.keeps H.base
  obtain ⟨bm, ob, b1, b2, b3, b4, b5, b6⟩ := C.top.bmain
  have hgP : mainGlobals ≠ P := fun e => by
    obtain ⟨o, es, ep, e1, hd, _⟩ := hgs
    rw [e, hPo] at e1; cases e1; cases hd
  have hbP : bm ≠ P := fun e => by
    have e1 := H.base _ _ b3
    rw [e, hPo] at e1; cases e1; cases b4
  have hbG : bm ≠ mainGlobals := fun e => by
    obtain ⟨o, es, ep, e1, hd, _⟩ := C.top.g
    rw [e, e1] at b3; cases b3; rw [hd] at b6; cases b6
  have hb : s.heap.BuiltinsAt C.mg P := ⟨bm, ob, b1, b2, hbG, hbP, H.base _ _ b3, b4, b5, b6⟩
  have LL : ∃ o, s.heap.get? env.locals = some o := by
    obtain ⟨⟨m, ⟨o, _, _, ho, _⟩, _⟩, _⟩ := F
    exact ⟨o, ho⟩
  obtain ⟨oL, hoL⟩ := LL
  have ltL := Heap.lt_size hoL
  refine kla_eval hdef ?_
  rw [hq]
  cases hca : codeAmong pos ps.toList with
  | some cv =>
    obtain ⟨c', o', rfl, hc', hco, hcP⟩ := hC _ _ hca
    refine kla_makeFunctionHit hcl hge hgs hcode (hh.keeps H.base) hPo hT hca hb fun ctv h' tk hk hsz => ?_
    have k2 : HKeep s.heap (h'.push (kla_obj "<lambda>" q params body scope clos ((C.mg "__name__").getD .none) c' ctv)) := fun b o e => Heap.get?_push_of_some _ (hk b o e)
    have nw : s.heap.get? h'.objs.size = none := Heap.get?_none_of_le hsz
    have fn : σ h'.objs.size = none := H.off_new nw
    have G := Go.alloc (σ := σ) (F := fun _ => False) (x := .raw (kla_obj "<lambda>" q params body scope clos ((C.mg "__name__").getD .none) c' ctv)) k2 nw
    have H' := H.alloc (x := .raw (kla_obj "<lambda>" q params body scope clos ((C.mg "__name__").getD .none) c' ctv)) k2 nw (Heap.get?_push_size _ rfl)
    have other : ∀ a, σ a ≠ none → a ≠ h'.objs.size := fun a e z => by rw [z, fn] at e; exact e rfl
    have st : ∀ a x, σ a = some x → (σ.set h'.objs.size (.raw (kla_obj "<lambda>" q params body scope clos ((C.mg "__name__").getD .none) c' ctv))) a = some x := fun a x e => by
      simp only [Store.set, if_neg (other a (by rw [e]; simp))]; exact e
    refine qq _ _ _ _ tk (.ref _) H' (F.go G) (frm_go F G) (h _ _ (fun a _ e => ?_) ⟨ps, st _ _ hP, hT, fun pos cv e => ?_⟩ fn (fun e => ?_) ⟨kla_obj "<lambda>" q params body scope clos ((C.mg "__name__").getD .none) c' ctv, c', o', _, ctv, by simp only [Store.set, if_true], rfl, st _ _ hc', hco⟩)
    · obtain ⟨x, hx⟩ := Option.ne_none_iff_exists'.mp e
      rw [hx]; exact st _ _ hx
    · obtain ⟨c, o, e1, e2, e3⟩ := hC pos cv e
      exact ⟨c, o, e1, st _ _ e2, e3⟩
    · exact absurd (Nat.lt_of_lt_of_le ltL hsz) (by rw [e]; exact Nat.lt_irrefl _)
  | none =>
    refine kla_makeFunction hcl hge hgs hcode (hh.keeps H.base) hPo hT hca hgP hb fun c' ctv h' tk hx hge' hlt hrec htb => ?_
    obtain ⟨c2, oc, vs, t, e2, hoc, hdc, hvc⟩ := hrec
    cases e2
    have sz : s.heap.objs.size ≤ h'.objs.size := Nat.le_of_lt (Nat.lt_of_le_of_lt hge' hlt)
    have nc : s.heap.get? c' = none := Heap.get?_none_of_le hge'
    have nf : s.heap.get? h'.objs.size = none := Heap.get?_none_of_le sz
    have cf : c' ≠ h'.objs.size := Nat.ne_of_lt hlt
    have ltP := Heap.lt_size hPo
    have cP : c' ≠ P := fun e => absurd hge' (by rw [e]; exact Nat.not_le.mpr ltP)
    have Pf : P ≠ h'.objs.size := Nat.ne_of_lt (Nat.lt_of_lt_of_le ltP sz)
    generalize hfo : kla_obj "<lambda>" q params body scope clos ((C.mg "__name__").getD .none) c' ctv = fo
    obtain ⟨σ₁, H', G, sPP, sPc, sPf, sP⟩ := lam_store (h'' := h'.push fo) (c := c') (f := h'.objs.size) (fo := fo) H hP (fun _ _ d => by cases d) (fun b o hb e => Heap.get?_push_of_some _ (hx b o hb e)) (Heap.get?_push_of_some _ htb) (Heap.get?_push_of_some _ hoc) (Heap.get?_push_size _ (by rw [← hfo]; rfl)) nc nf cP Pf cf
    have old : ∀ a, σ a ≠ none → a ≠ c' ∧ a ≠ h'.objs.size := fun a e => ⟨fun z => e (z ▸ H.off_new nc), fun z => e (z ▸ H.off_new nf)⟩
    have keepS : ∀ a x, a ≠ P → σ a = some x → σ₁ a = some x := fun a x h1 e => by
      have := old a (by rw [e]; exact fun z => by cases z)
      rw [sP a h1 this.1 this.2]; exact e
    refine qq _ _ σ₁ _ tk (.ref _) H' (F.go G) (frm_go F G) (h _ σ₁ (fun a h1 e => ?_) ⟨_, sPP, ?_, fun p cv e => ?_⟩ (H.off_new nf) (fun e => ?_) ⟨fo, c', oc, _, ctv, sPf, by rw [← hfo], sPc, vs, t, hdc, hvc⟩)
    · have := old a e; exact sP a h1 this.1 this.2
    · have := TriplesOk.snoc (a := pos.line) (b := pos.col) (t := 0) (u := 0) (c := .ref c') ps.toList hT
      simpa [rawInt] using this
    · rcases codeAmong_snoc_inv ps.toList hT (by simpa using e) with z | z
      · obtain ⟨c, o, e1, e2, e3, e4⟩ := hC p cv z
        exact ⟨c, o, e1, keepS c _ e4 e2, e3, e4⟩
      · exact ⟨c', oc, z, sPc, ⟨vs, t, hdc, hvc⟩, cP⟩
    · exact absurd (Nat.lt_of_lt_of_le ltL sz) (by rw [e]; exact Nat.lt_irrefl _)

theorem TC_lam {f : Addr} {params : Arguments} {body : Expr} {scope : Scope} {q : Str} {clos : List (Str × Addr)} {names : List Str} {Xs : List V} {Φ : V → Store → Prop} (hf : LamAt σ f q params body scope clos) (hlen : names.length = Xs.length)
    (hbind : ∀ pm cd ctv (vs : List Value), vs.length = Xs.length → bindArgs (kla_fn "<lambda>" q params body scope clos pm cd ctv) ⟨vs, []⟩ = pure (names.zip vs))
    (hloc : ∀ x ∈ names, scope.names.lookup x = some .local) (hcell : ∀ x ∈ scope.names, x.2 ≠ .cell)
    (h : ∀ L c, σ L = none → TE C n (envX q scope L f (.ref c) clos) (Loc.binds names Xs Loc.none) σ body Φ)
    (hco : scope.isCoroutine = false := by rfl) (hgen : scope.isGenerator = false := by rfl) (hk : scope.kind = .function := by rfl) : TCc C (n + 1) σ f Xs Φ := by
  intro A s vs Q E R H rX qq
  obtain ⟨o, c, oc, pm, ctv, hfo, hd, hc, vs', t, hdc, hvc⟩ := hf
  have hl := rX.length
  have ho : s.heap.get? f = some o := H.obj _ _ hfo
  have hoc : s.heap.get? c = some oc := H.obj _ _ hc
  refine kla_callFunE R.here ho hd hco hgen rfl ⟨c, oc, vs', t, rfl, hoc, hdc, hvc⟩ ?_
  rw [hbind _ _ _ vs hl]
  refine wpAny_pure (wpAny_newFunctionEnv hcell (fun y hy => hloc _ (List.of_mem_zip hy).1) (fun h₁ hns hsb => ⟨(C.top.nolimit.keeps H.base).fresh _ hsb, ?_⟩) hk)
  show codeAny _ _ (.expr body (envX q scope s.heap.objs.size f (.ref c) clos)) _ _
  have hk₁ : HKeep s.heap h₁ := fun b o e => hsb.extBut b o (Nat.ne_of_lt (Heap.lt_size e)) (Heap.get?_push_of_some _ e)
  have nw := heap_new s.heap
  have H₁ : Holds C σ h₁ := H.keeps hk₁
  have F₁ : Frm C σ h₁ s.heap.objs.size (Loc.binds names Xs Loc.none) := by
    refine ⟨⟨_, hns, fun y Y e => ?_⟩, H.off_new nw, H.base_new nw⟩
    obtain ⟨v, h1, h2⟩ := binds_rep names Xs vs Loc.none (fun _ => none) (rX.mono (HKeep.tup hk₁)) hlen (fun _ _ e => by cases e) y Y e
    exact ⟨v, by simpa using h1, h2⟩
  refine kla_codeExpr ?_
  refine h s.heap.objs.size c (H.off_new nw) (A.deeper (envX q scope s.heap.objs.size f (.ref c) clos)) { s with heap := h₁, toks := s.toks + (names.zip vs).length } _ _ (R.call _ ⟨hgen, hco, rfl, rfl⟩) H₁ F₁ fun r R' σ' h' tk' r' H' F' G' p => ?_
  exact qq r R' σ' h' tk' r' H' (Go.call hk₁ G' (fun b o e => Nat.ne_of_lt (Heap.lt_size e)) (fun _ _ e => e)) p
end
end
section
open PySem PySem.W PySem.Calls PyProof.Rows PySem.Spec
section
variable {prog : Program} {w : World} {A : Around} {E : Value → Shared → Prop} {s : Shared}

theorem nextT_at {it l : Addr} {i : Nat} {items : Array Value} {Q : Value → Shared → Prop} (hit : s.heap.IsTupleIter it l i) (hl : s.heap.IsTuple l items)
    (k : wpAny (model prog w) A.in1 (match items[i]? with | some x => (do setField (.ref it) 1 (rawInt (i + 1)); ret x) | none => (do rule "tuple_iterator.__next__.end"; setField (.ref it) 0 .none; Builtin.SmallTypes.stopIteration))
      (fun r s' => ∃ v, r = .done (.ret v) ∧ Q v s') E s) : wpAny (model prog w) A (Builtin.SmallTypes.nextOf (.ref it)) Q E s := by
  have T := hit.typeIs
  obtain ⟨o, ho, -, hd⟩ := hit
  obtain ⟨ol, hol, -, nl, hdl⟩ := hl
  refine wpAny_bind (wpAny_callSpecial?_slot (name := Str.ofString "__next__") T PySem.F.slot_tuple_iterator_next
    (wpAny_call_entry PySem.F.slot_tuple_iterator_next T PySem.F.entry_tuple_iterator_next ?_ (PySem.F.args_tuple_iterator_next_1 _)))
  unfold Builtin.«tuple_iterator.__next__»
  wp_walk using (wpAny_field ho hd (i := 0) (x := .ref l) rfl), (wpAny_field ho hd (i := 1) (x := .int i 0) rfl), wpAny_seqItems hol hdl
  exact wpAny_mono k (fun _ _ ⟨v, h1, h2⟩ => ⟨v, h1, wpAny_pure h2⟩) fun _ _ h => h
theorem nextT_item {it l : Addr} {i : Nat} {items : Array Value} {x : Value} {Q : Value → Shared → Prop} (hit : s.heap.IsTupleIter it l i) (hl : s.heap.IsTuple l items) (hx : items[i]? = some x)
    (hQ : ∀ h', h'.IsTupleIter it l (i + 1) → Heap.SameBut it s.heap h' → Q x { s with heap := h' }) : wpAny (model prog w) A (Builtin.SmallTypes.nextOf (.ref it)) Q E s := by
  refine nextT_at hit hl ?_
  obtain ⟨o, ho, hc, hd⟩ := hit
  rw [hx]
  exact wpAny_bind (wpAny_setField ho hd (Nat.lt_succ_self 1) (wpAny_pure ⟨x, rfl, hQ _ ⟨_, Heap.get?_update_self _ ho (Obj.isFreed_of_fields (Obj.data_mapFields hd _)), hc ▸ Obj.cls_mapFields .., Obj.data_mapFields hd _⟩ (Heap.SameBut.update ..)⟩))
theorem nextT_end {it l : Addr} {i : Nat} {items : Array Value} {Q : Value → Shared → Prop} (hh : A.handled = none) (hit : s.heap.IsTupleIter it l i) (hl : s.heap.IsTuple l items) (hx : items[i]? = none)
    (hE : ∀ h' e, Heap.ExtBut it s.heap h' → (∃ o, h'.get? e = some o ∧ o.cls = .type "StopIteration") → E (.ref e) { s with heap := h' }) : wpAny (model prog w) A (Builtin.SmallTypes.nextOf (.ref it)) Q E s := by
  refine nextT_at hit hl ?_
  obtain ⟨o, ho, -, hd⟩ := hit
  have hA : A.in1.handled = none := hh
  rw [hx]
  refine wpAny_bind (wpAny_rule (wpAny_bind (wpAny_setField ho hd Nat.two_pos ?_)))
  wp_walk
  exact wpAny_raiseNew_none hA (hE _ _ (((Heap.SameBut.update ..).extBut.push _).push _) ⟨_, Heap.get?_push_size _ rfl, rfl⟩)
theorem zipT_turn {z TI TO i1 i2 l1 l2 : Addr} {k1 : Nat} {xs : Array Value} {a b : Value} {Q : Option Value → Shared → Prop} (hh : A.handled = none) (D : ZipApart z TI TO i1 i2 l1 l2)
    (hz : IsZip s.heap z TI TO .none) (hTI : IsPair s.heap TI (.ref i1) (.ref i2)) (hTO : IsPair s.heap TO a b) (h1 : s.heap.IsTupleIter i1 l1 k1) (hl1 : s.heap.IsTuple l1 xs)
    (hQ : match xs[k1]? with
      | none => ∀ h', (∀ c o, c ≠ z → c ≠ i1 → s.heap.get? c = some o → h'.get? c = some o) → Q none { s with heap := h' }
      | some x => ∃ k2 ys y, s.heap.IsTupleIter i2 l2 k2 ∧ s.heap.IsTuple l2 ys ∧ ys[k2]? = some y ∧
        ∀ h', IsZip h' z TI TO (rawInt s.heap.objs.size) → IsPair h' TO x y → h'.IsTupleIter i1 l1 (k1 + 1) → h'.IsTupleIter i2 l2 (k2 + 1) → IsPair h' s.heap.objs.size x y → h'.objs.size = s.heap.objs.size + 1 →
          (∀ c o, c ≠ z → c ≠ TO → c ≠ i1 → c ≠ i2 → s.heap.get? c = some o → h'.get? c = some o) → Q (some (.ref s.heap.objs.size)) { s with heap := h' }) :
    wpAny (model prog w) A (pyNext (.ref z)) Q E s := by
  have hT : s.TypeIs (.ref z) "zip" := ⟨_, hz, rfl⟩
  refine wpAny_bind (wpAny_attempt (wpAny_callSpecial?_slot (name := Str.ofString "__next__") hT PySem.F.slot_zip_next (wpAny_call_entry PySem.F.slot_zip_next hT PySem.F.entry_zip_next ?_ (PySem.F.args_zip_next_1 _))))
  unfold Builtin.«zip.__next__»
  wp_walk using (wpAny_field hz rfl (i := 2) (x := .bool false) rfl), (wpAny_field hz rfl (i := 3) (x := .ref TI) rfl), (wpAny_field hz rfl (i := 0) (x := .none) rfl), (wpAny_field hz rfl (i := 4) (x := .ref TO) rfl), wpAny_seqItems hTI rfl, (wpAny_setField_rec hz (by simp))
  intro h₁ hz₁ hs₁
  replace hz₁ : IsZip h₁ z TI TO .ellipsis := hz₁
  simp only [List.zipIdx_cons, List.zipIdx_nil, List.forIn_cons, List.forIn_nil]
  refine wpAny_bind (wpAny_bind (wpAny_bind (wpAny_onRaise (wpAny_bind ?_))))
  have u1 := h1.extBut hs₁.extBut D.i1z
  have v1 := hl1.extBut hs₁.extBut D.l1z
  cases hx : xs[k1]? with
  | none =>
    rw [hx] at hQ
    refine nextT_end hh u1 v1 hx fun h₂ e hs₂ ⟨oe, hoe, hce⟩ => ?_
    have ze : e ≠ z := fun q => by rw [q, hs₂ _ _ D.i1z.symm hz₁] at hoe; cases hoe; simp at hce
    refine wpAny_setField_rec (hs₂ _ _ D.i1z.symm hz₁) (by simp) fun h₃ _ hs₃ => wpAny_bind (wpAny_isInstance (T := "StopIteration") (b := true) ⟨oe, hs₃.extBut _ _ ze hoe, hce⟩ isSubtype_stop ?_)
    exact wpAny_pure (hQ h₃ fun c o cz ci q => hs₃.extBut c o cz (hs₂ c o ci (hs₁.extBut c o cz q)))
  | some x =>
    rw [hx] at hQ
    obtain ⟨k2, ys, y, h2, hl2, hy, hQ⟩ := hQ
    refine nextT_item u1 v1 hx fun h₂ h1₂ hs₂ => ?_
    have q2 : IsPair h₂ TO a b := hs₂.extBut _ _ D.TOi1 (hs₁.extBut _ _ D.TOz hTO)
    wp_walk using wpAny_seqItems q2 rfl, wpAny_updateSeq_pair q2
    intro h₃ q3 hs₃
    replace q3 : IsPair h₃ TO x b := q3
    replace hs₃ : Heap.SameBut TO h₂ h₃ := hs₃
    have w2 : h₃.IsTupleIter i2 l2 k2 := ((h2.extBut hs₁.extBut D.i2z).extBut hs₂.extBut D.i12.symm).extBut hs₃.extBut D.TOi2.symm
    have t2 : h₃.IsTuple l2 ys := ((hl2.extBut hs₁.extBut D.l2z).extBut hs₂.extBut D.l2i1).extBut hs₃.extBut D.l2TO
    wp_walk using wpAny_onRaise, (nextT_item (s := { s with heap := h₃ }) w2 t2 hy)
    intro h₄ u2 hs₄
    have q4 : IsPair h₄ TO x b := hs₄.extBut _ _ D.TOi2 q3
    wp_walk using wpAny_seqItems q4 rfl, wpAny_updateSeq_pair q4
    intro h₅ q5 hs₅
    replace q5 : IsPair h₅ TO x y := q5
    replace hs₅ : Heap.SameBut TO h₄ h₅ := hs₅
    have k5 : ∀ c o, c ≠ z → c ≠ TO → c ≠ i1 → c ≠ i2 → s.heap.get? c = some o → h₅.get? c = some o := fun c o cz cT c1 c2 q =>
      hs₅.extBut c o cT (hs₄.extBut c o c2 (hs₃.extBut c o cT (hs₂.extBut c o c1 (hs₁.extBut c o cz q))))
    have z5 : IsZip h₅ z TI TO .ellipsis := hs₅.extBut _ _ D.TOz.symm (hs₄.extBut _ _ D.i2z.symm (hs₃.extBut _ _ D.TOz.symm (hs₂.extBut _ _ D.i1z.symm hz₁)))
    have e5 : h₅.objs.size = s.heap.objs.size := hs₅.1.trans (hs₄.1.trans (hs₃.1.trans (hs₂.1.trans hs₁.1)))
    have z6 : IsZip (h₅.push { cls := .type "tuple", data := .seq #[x, y] }) z TI TO .ellipsis := Heap.get?_push_of_some _ z5
    wp_walk using wpAny_seqItems q5 rfl, (fun h => wpAny_newTuple h (by size_fits)), (wpAny_setField_rec z6 (by simp))
    intro h₆ z7 hs₆
    replace z7 : IsZip h₆ z TI TO (rawInt h₅.objs.size) := z7
    replace hs₆ : Heap.SameBut z (h₅.push { cls := .type "tuple", data := .seq #[x, y] }) h₆ := hs₆
    wp_walk using (wpAny_setField_rec z7 (by simp))
    intro h₇ z8 hs₇
    replace z8 : IsZip h₇ z TI TO (rawInt h₅.objs.size) := z8
    have up : ∀ c o, c ≠ z → h₅.get? c = some o → h₇.get? c = some o := fun c o n q => hs₇.extBut c o n (hs₆.extBut c o n (Heap.get?_push_of_some _ q))
    have p8 : IsPair h₇ h₅.objs.size x y := hs₇.extBut _ _ (Nat.ne_of_gt (Heap.lt_size z5)) (hs₆.extBut _ _ (Nat.ne_of_gt (Heap.lt_size z5)) (Heap.get?_push_size _ rfl))
    have e7 : h₇.objs.size = h₅.objs.size + 1 := hs₇.1.trans (hs₆.1.trans (Heap.size_push ..))
    wp_walk
    show ∃ v, Fin.done (.ret (.ref h₅.objs.size)) = .done (.ret v) ∧ wpAny (model prog w) A (pure (some v)) Q E { s with heap := h₇ }
    rw [e5] at z8 p8 e7 ⊢
    exact ⟨_, rfl, wpAny_pure (hQ h₇ z8 (up _ _ D.TOz q5) ((((h1₂.extBut hs₃.extBut D.TOi1.symm).extBut hs₄.extBut D.i12).extBut hs₅.extBut D.TOi1.symm).imp fun o q => ⟨up _ o D.i1z q.1, q.2⟩)
      ((u2.extBut hs₅.extBut D.TOi2.symm).imp fun o q => ⟨up _ o D.i2z q.1, q.2⟩) p8 e7 fun c o cz cT c1 c2 q => up c o cz (k5 c o cz cT c1 c2 q))⟩
end

noncomputable abbrev zT1 (h : Heap) (l1 : Addr) : Heap := h.push { cls := .type "tuple_iterator", data := .fields #[.ref l1, .int 0 0] }
noncomputable abbrev zT2 (h : Heap) (l1 l2 : Addr) : Heap := (zT1 h l1).push { cls := .type "tuple_iterator", data := .fields #[.ref l2, .int 0 0] }
noncomputable abbrev zT3 (h : Heap) (l1 l2 : Addr) : Heap := (zT2 h l1 l2).push { cls := .type "tuple", data := .seq #[.ref h.objs.size, .ref (zT1 h l1).objs.size] }
noncomputable abbrev zT4 (h : Heap) (l1 l2 : Addr) : Heap := (zT3 h l1 l2).push { cls := .type "tuple", data := .seq #[.none, .none] }
noncomputable abbrev zT5 (h : Heap) (l1 l2 : Addr) : Heap := (zT4 h l1 l2).push { cls := .type "zip", data := .fields #[.none, .bool false, .bool false, .ref (zT2 h l1 l2).objs.size, .ref (zT3 h l1 l2).objs.size] }

theorem zipT_meets (l1 l2 : Addr) (xs ys : Array Value) :
    Meets (Builtin.«zip.__new__» ⟨[.type "zip", .ref l1, .ref l2], []⟩) (fun _ R s => s.heap.IsTuple l1 xs ∧ s.heap.IsTuple l2 ys ∧
      R (.ok (.ret (.ref (zT4 s.heap l1 l2).objs.size))) { s with heap := zT5 s.heap l1 l2 }) :=
  .of_wp fun prog w A R s h => by
    obtain ⟨hp, g, d, tk, os⟩ := s; obtain ⟨hl1, hl2, h⟩ := h
    have hsub := sub_zip
    have hL1 : Heap.IsTuple (Shared.heap ⟨hp, g, d, tk, os⟩) l1 xs := hl1
    have hL2 : Heap.IsTuple (Shared.heap ⟨hp.push { cls := .type "tuple_iterator", data := .fields #[.ref l1, .int 0 0] }, g, d, tk, os⟩) l2 ys := Heap.IsTuple.push hl2 _
    wp_walk using wpAny_pyIter_tuple hL1, wpAny_pyIter_tuple hL2
    exact ⟨_, rfl, h⟩

section
variable {prog : Program} {w : World} {A : Around} {E : Value → Shared → Prop} {s : Shared}
theorem zipT_call {l1 l2 : Addr} {xs ys : Array Value} {Q : Value → Shared → Prop} (hl1 : s.heap.IsTuple l1 xs) (hl2 : s.heap.IsTuple l2 ys)
    (h : ∀ h', IsZip h' (s.heap.objs.size + 4) (s.heap.objs.size + 2) (s.heap.objs.size + 3) .none → IsPair h' (s.heap.objs.size + 2) (.ref s.heap.objs.size) (.ref (s.heap.objs.size + 1)) →
      IsPair h' (s.heap.objs.size + 3) .none .none → h'.IsTupleIter s.heap.objs.size l1 0 → h'.IsTupleIter (s.heap.objs.size + 1) l2 0 →
      (∀ c o, s.heap.get? c = some o → h'.get? c = some o) → Q (.ref (s.heap.objs.size + 4)) { s with heap := h' }) :
    wpAny (model prog w) A (call (.type "zip") [.ref l1, .ref l2]) Q E s := by
  refine callType_new PySem.F.called_zip (by decide) (PySem.F.typeCall_zip_2 _ _) (PySem.F.newCall_zip_2 _ _) (fun obj => PySem.F.args_object_init_3 obj _ _) PySem.F.entry_zip_new
    (zipT_meets l1 l2 xs ys) ⟨hl1, hl2, ?_⟩
  have z1 : (zT1 s.heap l1).objs.size = s.heap.objs.size + 1 := Heap.size_push ..
  have z2 : (zT2 s.heap l1 l2).objs.size = s.heap.objs.size + 2 := by rw [Heap.size_push, z1]
  have z3 : (zT3 s.heap l1 l2).objs.size = s.heap.objs.size + 3 := by rw [Heap.size_push, z2]
  have z4 : (zT4 s.heap l1 l2).objs.size = s.heap.objs.size + 4 := by rw [Heap.size_push, z3]
  have g5 : (zT5 s.heap l1 l2).get? (zT4 s.heap l1 l2).objs.size = some _ := Heap.get?_push_size _ rfl
  have g4 : (zT5 s.heap l1 l2).get? (zT3 s.heap l1 l2).objs.size = some _ := Heap.get?_push_of_some _ (Heap.get?_push_size _ rfl)
  have g3 : (zT5 s.heap l1 l2).get? (zT2 s.heap l1 l2).objs.size = some _ := Heap.get?_push_of_some _ (Heap.get?_push_of_some _ (Heap.get?_push_size _ rfl))
  have g2 : (zT5 s.heap l1 l2).get? (zT1 s.heap l1).objs.size = some _ := Heap.get?_push_of_some _ (Heap.get?_push_of_some _ (Heap.get?_push_of_some _ (Heap.get?_push_size _ rfl)))
  have g1 : (zT5 s.heap l1 l2).get? s.heap.objs.size = some _ := Heap.get?_push_of_some _ (Heap.get?_push_of_some _ (Heap.get?_push_of_some _ (Heap.get?_push_of_some _ (Heap.get?_push_size _ rfl))))
  show _ ∧ _
  rw [z2, z3, z4] at g5
  rw [z1, z2] at g3
  rw [z3] at g4
  rw [z1] at g2
  rw [z4]
  exact ⟨⟨_, g5, rfl⟩, h _ g5 g3 g4 ⟨_, g1, rfl, rfl⟩ ⟨_, g2, rfl, rfl⟩ fun c o x =>
    Heap.get?_push_of_some _ (Heap.get?_push_of_some _ (Heap.get?_push_of_some _ (Heap.get?_push_of_some _ (Heap.get?_push_of_some _ x))))⟩
end

section
variable {C : Cx} {n : Nat} {env : Env} {ρ : Loc} {σ : Store}
structure ZB (C : Cx) (σ₂ : Store) (L : Addr) (h₁ : Heap) (N t1 : Addr) (vS : Value) (ρ₃ : Loc) (σ₄ : Store) (h₄ : Heap) : Prop where
  H : Holds C σ₄ h₄
  F : Frm C σ₄ h₄ L ρ₃
  G : Go σ₂ (· = L) h₁ σ₄ h₄
  o4 : σ₄ (N + 4) = none
  o0 : σ₄ N = none
  z : IsZip h₄ (N + 4) (N + 2) (N + 3) .none
  ti : IsPair h₄ (N + 2) (.ref N) (.ref (N + 1))
  to : ∃ a b, IsPair h₄ (N + 3) a b
  i1 : h₄.IsTupleIter N t1 1
  t1 : h₄.IsTuple t1 #[vS]
inductive ZInv (C : Cx) (σ₂ : Store) (L : Addr) (h₁ : Heap) (N t1 : Addr) (vS : Value) (Φ : Loc → Store → Prop) (s s₂ : Shared) : Nat → Shared → Prop
  | start : ZInv C σ₂ L h₁ N t1 vS Φ s s₂ 2 s₂
  | behind {ρ₃ : Loc} {σ₄ : Store} {h₄ : Heap} {tk₄ : Nat} : ZB C σ₂ L h₁ N t1 vS ρ₃ σ₄ h₄ → Φ ρ₃ σ₄ → ZInv C σ₂ L h₁ N t1 vS Φ s s₂ 1 { s with heap := h₄, toks := tk₄ }
section
variable {σ₂ σ₄ : Store} {L : Addr} {h₁ h₄ h₅ : Heap} {N t1 : Addr} {vS : Value} {ρ₃ : Loc}
theorem ZB.fin (Z : ZB C σ₂ L h₁ N t1 vS ρ₃ σ₄ h₄) (nw : ∀ j, h₁.get? (N + j) = none) (nb : ∀ j, C.h₀.get? (N + j) = none) (LN : ∀ j, L ≠ N + j) (k5 : ∀ c o, c ≠ N + 4 → c ≠ N → h₄.get? c = some o → h₅.get? c = some o) : Holds C σ₄ h₅ ∧ Frm C σ₄ h₅ L ρ₃ ∧ Go σ₂ (· = L) h₁ σ₄ h₅ :=
  have ne : ∀ c o, h₁.get? c = some o → ∀ j, c ≠ N + j := fun c o e j q => by rw [q, nw] at e; cases e
  have tk : TupKeep h₄ h₅ := fun c o i m e hc hd => k5 c o (fun q => by rw [q, Z.z] at e; cases e; cases hd) (fun q => by
    obtain ⟨oi, hoi, hci, hdi⟩ := Z.i1
    rw [q, hoi] at e; cases e; rw [hdi] at hd; cases hd) e
  ⟨⟨fun c o e => k5 c o (fun q => by rw [q, nb] at e; cases e) (fun q => by rw [q, show N = N + 0 from rfl, nb] at e; cases e) (Z.H.base c o e),
      fun c x e => (Z.H.obj c x e).at tk fun o z => k5 c o (fun q => by rw [q, Z.o4] at e; cases e) (fun q => by rw [q, Z.o0] at e; cases e) z, Z.H.new⟩,
    ⟨Z.F.ns.imp fun m h => ⟨h.1.imp fun o q => q.imp fun es q => q.imp fun ep q => ⟨k5 _ o (LN 4) (LN 0) q.1, q.2⟩, fun x X e => (h.2 x X e).imp fun v q => ⟨q.1, q.2.mono tk⟩⟩, Z.F.off, Z.F.new⟩,
    ⟨fun c o e nn ff => k5 c o (ne c o e 4) (ne c o e 0) (Z.G.keep c o e nn ff), fun c o i m e hc hd => tk c o i m (Z.G.tup c o i m e hc hd) hc hd, fun c o e => (Z.G.live c o e).imp fun o' e' => k5 c o' (ne c o e 4) (ne c o e 0) e', Z.G.dom⟩⟩
end
theorem RepL.one_of {h : Heap} {vs : List Value} {S : V} (r : RepL h vs [S]) : ∃ v, vs = [v] ∧ Rep h v S := RepL.one r fun v r => ⟨v, rfl, r⟩
theorem zip_loop {A : Around} {s : Shared} {Q : Flow → Shared → Prop} {E : Value → Shared → Prop} {h₁ : Heap} {tk₁ : Nat} {ts : List Expr} {k : Nat} {tp : Pos} {body : List Stmt} {Φ : Fl → Loc → Store → Prop} {t1 t2 : Addr} {vS vT : Value} {S T : V} (R : Room A n) (H : Holds C σ h₁) (F : Frm C σ h₁ env.locals ρ)
    (ht1 : h₁.IsTuple t1 #[vS]) (ht2 : h₁.IsTuple t2 #[vT]) (lt1 : t1 < h₁.objs.size) (lt2 : t2 < h₁.objs.size) (rS : Rep h₁ vS S) (rT : Rep h₁ vT T)
    (p : TA C n env ρ σ (.Tuple ts k tp) (.tuple [S, T]) fun ρ₂ σ₃ => TSS C n env ρ₂ σ₃ body (forK (fun ρ₃ σ₄ => Φ .next ρ₃ σ₄) (fun ρ₃ σ₄ => Φ .next ρ₃ σ₄) (fun V ρ₃ σ₄ => Φ (.ret V) ρ₃ σ₄)))
    (q : ∀ f X ρ' σ' h' tk', RepF h' f X → Holds C σ' h' → Frm C σ' h' env.locals ρ' → Go σ (· = env.locals) h₁ σ' h' → Φ X ρ' σ' → Q f { s with heap := h', toks := tk' }) :
    wpAny (model C.prog C.w) A (call (.type "zip") [.ref t1, .ref t2]) (fun x s₁ => wpAny (model C.prog C.w) A (pyIter x) (fun it s₂ =>
      codeAny (model C.prog C.w) A (.forLoop (.Tuple ts k tp) it body [] env) (fun r s' => match r with | .ok f => Q f s' | .error _ => False) s₂) E s₁) E { s with heap := h₁, toks := tk₁ } := by
  refine zipT_call (s := { s with heap := h₁, toks := tk₁ }) ht1 ht2 fun h₂ hz hTI hTO hi1 hi2 kk => ?_
  dsimp only at hz hTI hTO hi1 hi2 kk ⊢
  generalize hN : h₁.objs.size = N at hz hTI hTO hi1 hi2 lt1 lt2 ⊢
  have D : ZipApart (N + 4) (N + 2) (N + 3) N (N + 1) t1 t2 := zipApart_new lt1 lt2
  have nw : ∀ j, h₁.get? (N + j) = none := fun j => Heap.get?_none_of_le (by rw [hN]; exact Nat.le_add_right _ _)
  have ne : ∀ c o, h₁.get? c = some o → ∀ j, c ≠ N + j := fun c o e j q => by rw [q, nw] at e; cases e
  have LN : ∀ j, env.locals ≠ N + j := F.ns.elim fun m h => h.1.elim fun o q => q.elim fun _ q => q.elim fun _ q => ne _ _ q.1
  have nS : ∀ j, σ (N + j) = none := fun j => H.off_new (nw j)
  refine wpAny_pyIter_zip hz (codeAny_forLoop_any (ZInv C σ env.locals h₁ N t1 vS (Φ .next) s { s with heap := h₂, toks := tk₁ }) (fun m s' I => ?_) 2 .start)
  cases I with
  | start =>
    refine zipT_turn (s := { s with heap := h₂, toks := tk₁ }) R.handled D hz hTI hTO hi1 (ht1.imp fun o h => ⟨kk _ _ h.1, h.2⟩) ?_
    rw [show (#[vS] : Array Value)[0]? = some vS from rfl]
    refine ⟨0, #[vT], vT, hi2, ht2.imp fun o h => ⟨kk _ _ h.1, h.2⟩, rfl, fun h₃ hz3 hTO3 hi13 hi23 hP3 hsz3 k3 => ?_⟩
    refine wpAny_letOwnedTupleGo_zip hz3 fun h₅ hz5 hs5 => ?_
    have k15 : HKeep h₁ h₅ := fun c o e => hs5.extBut _ _ (ne c o e 4) (k3 c o (ne c o e 4) (ne c o e 3) (ne c o e 0) (ne c o e 1) (kk c o e))
    have rP : Rep h₅ (.ref h₂.objs.size) (.tuple [S, T]) := .tuple (vs := [vS, vT]) ⟨_, hs5.extBut _ _ (Nat.ne_of_gt (Heap.lt_size hz)) hP3, rfl, _, rfl⟩ (.cons (rS.mono (HKeep.tup k15)) (.cons (rT.mono (HKeep.tup k15)) .nil))
    refine p A { s with heap := h₅, toks := tk₁ } _ _ _ R (H.keeps k15) (F.go (Go.of_keep k15)) rP fun ρ₂ σ₃ h₆ tk₆ H₆ F₆ G₆ p₆ => ?_
    refine p₆ A { s with heap := h₆, toks := tk₆ } _ _ R H₆ F₆ fun fl X' ρ₄ σ₄ h₇ tk₇ r₇ H₇ F₇ G₇ p₇ => ?_
    have GG := G₆.trans G₇
    have GA := (Go.of_keep (σ := σ) (F := (· = env.locals)) k15).trans GG
    have st : ∀ j o, h₅.get? (N + j) = some o → h₇.get? (N + j) = some o := fun j o e => GG.keep _ o e (nS j) (Ne.symm (LN j))
    have iz : h₅.IsTupleIter N t1 1 := hi13.extBut hs5.extBut D.i1z
    have Z : ZB C σ env.locals h₁ N t1 vS ρ₄ σ₄ h₇ := ⟨H₇, F₇, GA, live_ne GG hz5 (nS 4), iz.elim fun o h => live_ne GG h.1 (nS 0), st 4 _ hz5, st 2 _ (hs5.extBut _ _ D.TIz (k3 _ _ D.TIz D.TITO D.TIi1 D.TIi2 hTI)), ⟨_, _, st 3 _ (hs5.extBut _ _ D.TOz hTO3)⟩, iz.imp fun o h => ⟨st 0 _ h.1, h.2⟩,
      ht1.imp fun o h => ⟨h.2.elim fun hc h2 => h2.elim fun kx hd => GA.tup _ _ _ _ h.1 hc hd, h.2⟩⟩
    cases r₇ with
    | next => exact ⟨1, Nat.lt_succ_self 1, .behind Z p₇⟩
    | cont => exact ⟨1, Nat.lt_succ_self 1, .behind Z p₇⟩
    | brk => exact q _ _ ρ₄ σ₄ h₇ tk₇ .next H₇ F₇ GA p₇
    | ret r => exact q _ _ ρ₄ σ₄ h₇ tk₇ (.ret r) H₇ F₇ GA p₇
  | @behind ρ₃ σ₄ h₄ tk₄ Z p₄ =>
    obtain ⟨a, b, to⟩ := Z.to
    refine zipT_turn (s := { s with heap := h₄, toks := tk₄ }) R.handled D Z.z Z.ti to Z.i1 Z.t1 fun h₅ k5 => wpAny_execs_nil ?_
    have g := Z.fin nw (fun j => H.base_new (nw j)) LN k5
    exact q _ _ ρ₃ σ₄ h₅ tk₄ .next g.1 g.2.1 g.2.2 p₄
theorem TS_forZ {e₁ e₂ : Expr} {ts : List Expr} {k : Nat} {np cp tp pos : Pos} {body : List Stmt} {Φ : Fl → Loc → Store → Prop}
    (h : TE C n env ρ σ (.Name "zip" np) fun Z σ₀ => Z = .typ "zip" ∧ TL C n env ρ σ₀ cp [e₁, e₂] fun Xs σ₂ => ∃ S T, Xs = [.tuple [S], .tuple [T]] ∧
      TA C n env ρ σ₂ (.Tuple ts k tp) (.tuple [S, T]) fun ρ₂ σ₃ => TSS C n env ρ₂ σ₃ body (forK (fun ρ₃ σ₄ => Φ .next ρ₃ σ₄) (fun ρ₃ σ₄ => Φ .next ρ₃ σ₄) (fun V ρ₃ σ₄ => Φ (.ret V) ρ₃ σ₄)))
    (hplain : (backTo cp (starEach [e₁, e₂] env)).any (·.1) = false := by rfl) (hst : starEach [e₁, e₂] env = (false, eval e₁ env) :: starEach [e₂] env := by rfl)
    (hs : ∀ x, foldedSetIterable (.Call (.Name "zip" np) [e₁, e₂] [] cp) env x = pure x := by intro _; rfl) : TS C n env ρ σ (.For (.Tuple ts k tp) (.Call (.Name "zip" np) [e₁, e₂] [] cp) body [] pos) Φ := by
  intro A s Q E R H F q
  refine For_go ?_ hs
  rw [eval_Call_plain (by intro o n p e; cases e)]
  refine wpAny_bind (h A s _ E R H F fun fv Fv σ₀ h₀ tk₀ r₀ H₀ F₀ G₀ p₀ => ?_)
  obtain ⟨rfl, p₀⟩ := p₀
  cases r₀
  refine callWith_of (P := fun h' => Kept C h' (.type "zip")) (by rw [hplain]; rfl) (fun h' k => k _) ?_
  have key := p₀ A { s with heap := h₀, toks := tk₀ } (fun vs s₁ => Kept C s₁.heap (.type "zip") ∧ wpAny (model C.prog C.w) A (call (.type "zip") ([] ++ vs)) (fun x s₁ => wpAny (model C.prog C.w) A (pyIter x) (fun it s₂ =>
      codeAny (model C.prog C.w) A (.forLoop (.Tuple ts k tp) it body [] env) (fun r s' => match r with | .ok f => Q f s' | .error _ => False) s₂) E s₁) E s₁) E R H₀ F₀ fun vs Xs σ₂ h₁ tk₁ r₂ H₂ F₂ G₂ p₂ => ⟨.plain (fun _ e => by cases e), by
    obtain ⟨S, T, rfl, p⟩ := p₂
    refine RepL.two r₂ fun v w r1 r2 => r1.tup_elim fun a vs ht1 rl1 => r2.tup_elim fun b ws ht2 rl2 => ?_
    obtain ⟨v1, rfl, rS⟩ := rl1.one_of
    obtain ⟨v2, rfl, rT⟩ := rl2.one_of
    exact zip_loop (s := s) R H₂ F₂ ht1 ht2 ht1.lt ht2.lt rS rT p fun f X ρ' σ' h' tk' rf H' F' G' => q f X ρ' σ' h' tk' rf H' F' ((G₀.trans G₂).trans G')⟩
  rw [hst] at key ⊢
  exact evalArgs_plain key
end
end
section
open PySem PySem.W PySem.Calls PyProof.Rows PySem.Spec
section
variable {C : Cx} {n : Nat} {env : Env} {ρ : Loc} {σ : Store}

theorem repL_of {h : Heap} {vs : List Value} {xs : List V} : vs.length = xs.length → (∀ (i : Nat) v x, vs[i]? = some v → xs[i]? = some x → Rep h v x) → RepL h vs xs := by
  induction xs generalizing vs with
  | nil => exact fun hl _ => List.eq_nil_of_length_eq_zero hl ▸ .nil
  | cons x xs ih =>
    cases vs with
    | nil => exact fun hl => by cases hl
    | cons v vs => exact fun hl hr => .cons (hr 0 v x rfl rfl) (ih (Nat.succ.inj hl) fun i w y a b => hr (i + 1) w y a b)
theorem B_listR {r : Addr} {a c b : Int} {k : Nat} {Φ : V → Store → Prop} (hr : σ r = some (.rng a b c)) (hs : Builtin.Range.small a b c = true) (hk : Builtin.Range.rangeSize a b c = (k : Int)) (hz : k ≤ 100000)
    (h : ∀ d, σ d = none → Φ (.ref d) (σ.set d (.list (rngVs a c k)))) : TC C n σ (.typ "list") [.ref r] Φ :=
  TC_1 Rep.typ_inv fun A s v Q E R H ra q => ra.ref_elim (by
    obtain ⟨t, u, v, e⟩ := H.obj _ _ hr
    have nw := heap_new s.heap
    refine call_list_range R.handled e hs hk (Nat.le_trans hz (by decide)) fun h' tk acc' c' hkk hD hI => ?_
    refine q _ _ _ _ tk (.ref _) (H.alloc (x := .list (rngVs a c k)) hkk nw ⟨acc'.toList, c', hD, repL_of (by rw [Array.length_toList, hI.1]; simp [rngVs]) fun i v x e1 e2 => ?_⟩) (Go.alloc hkk nw) (h _ (H.off_new nw))
    have hik : i < k := (by simpa [rngVs] using (List.getElem?_eq_some_iff.mp e2).1)
    have : x = .int (a + (i : Int) * c) := by
      rw [rngVs, List.getElem?_map, List.getElem?_range hik] at e2
      exact (Option.some.inj e2).symm
    subst this
    exact (hI.2 i v (by rw [← Array.getElem?_toList]; exact e1)).elim fun t e => e ▸ .int _ _)

theorem O_inL {x : Str} {a : Addr} {ys : List Str} {Φ : V → Store → Prop} (ha : σ a = some (.list (ys.map V.str))) (h : Φ (.bool (ys.any (· == x))) σ) : TO2 C n σ (compareOp .In) (.str x) (.ref a) Φ := by
  intro A s va vb Q E R H ra rb q
  refine ra.str_elim fun _ => ?_; refine rb.ref_elim ?_
  obtain ⟨vs, k, e, rl⟩ := H.obj _ _ ha
  exact in_list_strs (isList_of e) (strsAre rl) (q _ _ σ _ s.toks (.bool _) H (.refl ..) h)
end
end
section
open PySem PySem.W PySem.Calls PyProof.Rows PySem.Spec
section
variable {C : Cx} {n : Nat} {env : Env} {ρ : Loc} {σ : Store}
theorem TE_sliceB {v : Expr} {a kk : Nat} {p p1 pos : Pos} {Φ : V → Store → Prop} (h : TE C n env ρ σ v fun X σ₁ => ∃ l vs Xs, X = .ref l ∧ C.h₀.IsList l vs.toArray ∧ RepL C.h₀ vs Xs ∧ Xs.length ≤ 100000 ∧ ∀ c, σ₁ c = none → c ≠ env.locals → Φ (.ref c) (σ₁.set c (.list (Xs.take a))))
    (ht : ∀ o r, letTemporaryGo v o r = pure () := by intro _ _; rfl) : TE C n env ρ σ (.Subscript v (.Slice none (some (.Constant (.int a) kk p1)) none p) pos) Φ := by
  intro A s Q E R H F q
  refine wpAny_Subscript_list_slice (h A s _ E R H F fun o X σ₁ h₁ tk₁ r₁ H₁ F₁ G₁ p₁ => ?_) ht
  obtain ⟨l, vs, Xs, rfl, hl, rl0, hz, pf⟩ := p₁
  refine r₁.ref_elim ?_
  have rl : RepL h₁ vs Xs := rl0.mono (HKeep.tup H₁.base)
  have il : h₁.IsList l vs.toArray := by obtain ⟨o, ho, r⟩ := hl; exact ⟨o, H₁.base _ _ ho, r⟩
  rw [evalPart_some, evalPart_none]
  refine wpAny_pure (wpAny_Constant_int ⟨l, vs.toArray, none, some (a : Int), rfl, il, ?_, .none, .int _ _, ?_⟩)
  · rw [List.size_toArray, rl.length]; exact Nat.le_trans hz sizeLine_big
  · have e : slicePick vs.toArray none (some (a : Int)) none = (vs.take a).toArray := by rw [slicePick_upto']
    have k1 := HKeep.push h₁ { cls := .type "slice", data := .fields #[.none, .int a tk₁, .none] }
    have k2 := HKeep.push (h₁.push { cls := .type "slice", data := .fields #[.none, .int a tk₁, .none] }) { cls := .type "list", data := .seq (slicePick vs.toArray none (some (a : Int)) none) }
    have kk : HKeep h₁ ((h₁.push { cls := .type "slice", data := .fields #[.none, .int a tk₁, .none] }).push { cls := .type "list", data := .seq (slicePick vs.toArray none (some (a : Int)) none) }) := fun b o e => k2 b o (k1 b o e)
    have sz : (h₁.push { cls := .type "slice", data := .fields #[.none, .int a tk₁, .none] }).objs.size = h₁.objs.size + 1 := Heap.size_push ..
    have nw : h₁.get? (h₁.objs.size + 1) = none := Heap.get?_none_of_le (Nat.le_succ _)
    have ne : h₁.objs.size + 1 ≠ env.locals := fun e => by
      obtain ⟨⟨m, hm, _⟩, _⟩ := F₁
      have hl := hm.lt
      rw [← e] at hl
      exact Nat.lt_irrefl _ (Nat.lt_of_succ_lt hl)
    have G := Go.alloc (σ := σ₁) (F := fun _ => False) (x := .list (Xs.take a)) kk nw
    refine q _ _ _ _ (tk₁ + 1) (.ref _) (H₁.alloc (x := .list (Xs.take a)) kk nw ⟨vs.take a, 0, ?_, (rl.take a).mono kk.tup⟩) (F₁.go G) (G₁.trans (frm_go F₁ G)) (pf _ (H₁.off_new nw) ne)
    show _ = some (W.listOf (vs.take a).toArray 0)
    rw [← sz, e]
    exact Heap.get?_push_size _ rfl
end
end
section
open PySem PySem.W PySem.Calls PyProof.Rows PySem.Spec
theorem entry_set_iter : entryFor table "set.__iter__" = some Builtin.«frozenset.__iter__» :=
  entryFor_alias (id' := "frozenset.__iter__") (by kernel_rfl) rfl (by decide +kernel) (by kernel_rfl)
theorem slot_seti_next : Slot "set_iterator" "__next__" "set_iterator.__next__" :=
  .of (owner := "set_iterator") (n := "__next__") (by rw [typeLookup_type, builtinLookup_eq_fast]; kernel_rfl) (by decide +kernel) (by decide +kernel) (by decide +kernel)
    (by first | exact .inl (by decide +kernel) | exact .inr (by decide +kernel)) (by rw [isSubtype_type]; kernel_rfl)
theorem entry_seti_next : entryFor table "set_iterator.__next__" = some Builtin.«set_iterator.__next__» := entryFor_of_tree (by kernel_rfl)
theorem args_seti_next (a : Value) : argsOk "set_iterator.__next__" ⟨[a], []⟩ := by unfold argsOk; kernel_rfl
theorem slot_seti_iter : Slot "set_iterator" "__iter__" "set_iterator.__iter__" :=
  .of (owner := "set_iterator") (n := "__iter__") (by rw [typeLookup_type, builtinLookup_eq_fast]; kernel_rfl) (by decide +kernel) (by decide +kernel) (by decide +kernel)
    (by first | exact .inl (by decide +kernel) | exact .inr (by decide +kernel)) (by rw [isSubtype_type]; kernel_rfl)
theorem len_set : typeLookup (.type "set") "__len__" = pure (some (.builtin "set.__len__")) := by rw [typeLookup_type, builtinLookup_eq_fast]; kernel_rfl
noncomputable def SetE (h : Heap) (a : Addr) : Prop := ∃ o ep t, h.get? a = some o ∧ o.cls = .type "set" ∧ o.data = .set #[] ep t ∧ t.fits 0 = true
theorem SetE.typeIs {s : Shared} {a : Addr} (x : SetE s.heap a) : s.TypeIs (.ref a) "set" := let ⟨o, _, _, ho, hc, _⟩ := x; ⟨o, ho, hc⟩
noncomputable def setiObj (a : Addr) (ep : Nat) : Obj := { cls := .type "set_iterator", data := .fields #[rawInt 0, rawInt 0, .ref a, rawInt 0, rawInt ep] }
section
variable {prog : Program} {w : World} {A : Around} {E : Value → Shared → Prop} {s : Shared} {a : Addr}
theorem iter_setE {o : Obj} {ep : Nat} {t : SetTable} {Q : Value → Shared → Prop} (ho : s.heap.get? a = some o) (hc : o.cls = .type "set") (hd : o.data = .set #[] ep t) (hf : t.fits 0 = true)
    (hQ : Q (.ref s.heap.objs.size) { s with heap := s.heap.push (setiObj a ep) }) : wpAny (model prog w) A (pyIter (.ref a)) Q E s := by
  have hT : s.TypeIs (.ref a) "set" := ⟨o, ho, hc⟩
  refine wpAny_pyIter_slot hT PySem.F.slot_set_iter (wpAny_call_entry PySem.F.slot_set_iter hT entry_set_iter ?_ (PySem.F.args_set_iter_1 _))
  unfold Builtin.«frozenset.__iter__» Builtin.Frozenset.slot0 Builtin.Frozenset.addrOf Builtin.Frozenset.sizeOf
  refine wpAny_bind (wpAny_bind (wpAny_pure (wpAny_pure ?_)))
  refine wpAny_bind (wpAny_bind (wpAny_setEntries_of ho hd hf (wpAny_pure ?_)))
  refine wpAny_bind ?_
  refine wpAny_bind (wpAny_setState_of ho hd hf ?_)
  unfold setsByText
  refine wpAny_bind (wpAny_bind (wpAny_askSetting (wpAny_pure (wpAny_pure ?_))))
  refine wpAny_ite_split (fun hab => absurd hab ?_) (fun _ => ?_)
  · rcases t with ⟨a1, a2, a3, a4, a5, a6, a7⟩
    simp only [Bool.and_eq_true, not_and]
    intro _
    cases a7 <;> exact Bool.false_ne_true
  refine wpAny_bind (wpAny_pure ?_)
  refine wpAny_bind (wpAny_setEpoch_of ho hd hf ?_)
  refine wpAny_bind (wpAny_newObj_type (wpAny_pure ⟨_, rfl, "set_iterator", _, ⟨_, Heap.get?_push_size _ rfl, rfl⟩, slot_seti_next.lookup, ?_⟩))
  exact hQ
theorem next_setE {I : Addr} {o oi : Obj} {ep : Nat} {t : SetTable} {Q : Option Value → Shared → Prop} (hh : A.handled = none) (ho : s.heap.get? a = some o) (hd : o.data = .set #[] ep t) (hf : t.fits 0 = true)
    (hi : s.heap.get? I = some oi) (hci : oi.cls = .type "set_iterator") (hdi : oi.data = .fields #[rawInt 0, rawInt 0, .ref a, rawInt 0, rawInt ep])
    (hQ : ∀ h', Heap.ExtBut I s.heap h' → Q none { s with heap := h' }) : wpAny (model prog w) A (pyNext (.ref I)) Q E s := by
  have hit : s.TypeIs (.ref I) "set_iterator" := ⟨oi, hi, hci⟩
  unfold pyNext
  refine wpAny_bind (wpAny_attempt (wpAny_callSpecial?_slot (name := Str.ofString "__next__") hit slot_seti_next
    (wpAny_call_entry slot_seti_next hit entry_seti_next ?_ (args_seti_next _))))
  unfold Builtin.«set_iterator.__next__»
  refine wpAny_bind (wpAny_pure ?_)
  refine wpAny_bind (wpAny_fieldsOf hi hdi ?_)
  refine wpAny_bind (wpAny_setEntries_of ho hd hf ?_)
  refine wpAny_ite_split (fun hab => absurd hab (by simp [rawInt])) (fun _ => ?_)
  have fin : wpAny (model prog w) A.in1 (do
      setField (Value.ref I) 2 Value.none
      let e ← newExc (Value.type "StopIteration") []
      (raiseNew e : Sem Fin)) (fun _ _ => False)
      (fun e s' => wpAny (model prog w) A (do
        let b ← isInstance e (Value.type "StopIteration")
        if b = true then pure none else throw e) Q E s') s := by
    refine wpAny_bind (wpAny_setField hi hdi (by simp) ?_)
    show wpAny _ _ (newExc (.type "StopIteration") [] >>= _) _ _ _
    refine wpAny_bind ?_
    simp only [newExc, newTuple]
    refine wpAny_bind (wpAny_newObj_type ?_ (by size_fits))
    refine wpAny_bind (m := firstArgMember _ _) (wpAny_of_eq (a := Value.none) (by first | rfl | (simp only [firstArgMember]; rfl)) ?_)
    refine wpAny_newObj_type ?_ (by size_fits)
    simp only [raiseNew]
    refine wpAny_bind (wpAny_handled ?_)
    rw [show A.in1.handled = none from hh]
    refine wpAny_bind (wpAny_pure (wpAny_throw ?_))
    refine wpAny_bind (wpAny_isInstance (T := "StopIteration") (b := true) ⟨_, Heap.get?_push_size _ rfl, rfl⟩ isSubtype_stop ?_)
    rw [if_pos rfl]
    exact wpAny_pure (hQ _ (((Heap.SameBut.update ..).extBut.push _).push _))
  have fin2 : ∀ {R : Fin → Shared → Prop}, wpAny (model prog w) A.in1 (do
      setField (Value.ref I) 2 Value.none
      let e ← newExc (Value.type "StopIteration") []
      (raiseNew e : Sem Fin)) R
      (fun e s' => wpAny (model prog w) A (do
        let b ← isInstance e (Value.type "StopIteration")
        if b = true then pure none else throw e) Q E s') s := wpAny_mono fin (fun _ _ h => h.elim) fun _ _ h => h
  show wpAny _ _ (setNext a (0 : Int).toNat (Int.toNat 0) ((ep : Int)).toNat >>= _) _ _ s
  refine wpAny_bind ?_
  unfold setNext
  refine wpAny_bind (wpAny_setState_of ho hd hf ?_)
  unfold setsByText
  refine wpAny_bind (wpAny_bind (wpAny_askSetting (wpAny_pure ?_)))
  refine wpAny_ite_split (fun hab => ?_) (fun _ => ?_)
  · refine wpAny_ite_split (fun hab => absurd hab (by simp)) (fun _ => ?_)
    refine wpAny_bind ?_
    unfold setWalk setsByText
    refine wpAny_bind (wpAny_setState_of ho hd hf ?_)
    refine wpAny_bind (wpAny_bind (wpAny_askSetting (wpAny_pure ?_)))
    rw [if_pos hab]
    refine wpAny_bind (wpAny_askSetting (wpAny_pure ?_))
    refine wpAny_pure ?_
    exact fin2
  · refine wpAny_ite_split (fun hab => absurd hab ?_) (fun _ => ?_)
    · rcases t with ⟨a1, a2, a3, a4, a5, a6, a7⟩
      cases a7 <;> exact Bool.false_ne_true
    refine wpAny_bind ?_
    refine wpAny_ite_split (fun hab => absurd hab ?_) (fun _ => ?_)
    · rcases t with ⟨a1, a2, a3, a4, a5, a6, a7⟩
      cases a5 <;> exact Bool.false_ne_true
    refine wpAny_pure ?_
    refine wpAny_pure ?_
    exact fin2
theorem hint_setE {Q : Bool → Shared → Prop} (hT : s.TypeIs (.ref a) "set") (h : Q false s) : wpAny (model prog w) A (Builtin.List.listLengthHint (.ref a)) Q E s := by
  unfold Builtin.List.listLengthHint
  refine wpAny_bind (wpAny_specialOf hT len_set ?_)
  generalize hid : ("set.__len__" : String) = id0
  wp_delta
  rw [show splitId id0 = some ("set", "__len__") from by subst hid; decide +kernel]
  subst hid
  refine wpAny_bind (wpAny_isInstance (T := "set") (b := true) hT (by rw [isSubtype_type]; kernel_rfl) ?_)
  refine wpAny_ite_split (fun hab => absurd hab (by decide)) (fun _ => ?_)
  refine wpAny_ite_split (fun _ => ?_) (fun hab => absurd (by decide +kernel) hab)
  refine wpAny_bind (wpAny_typeOf hT ?_)
  exact wpAny_pure h
theorem entry_seti_iter : entryFor table "set_iterator.__iter__" = some Builtin.«dict_keyiterator.__iter__» :=
  entryFor_alias (id' := "dict_keyiterator.__iter__") (by kernel_rfl) rfl (by decide +kernel) (by kernel_rfl)
theorem args_seti_iter (a : Value) : argsOk "set_iterator.__iter__" ⟨[a], []⟩ := by unfold argsOk; kernel_rfl
theorem src_setE (a : Addr) : KdlSrc prog w "set" a a 0 (fun _ _ => False) (fun h => SetE h a) where
  type := fun _ hm => hm.typeIs
  there := fun h ⟨o, _, _, ho, _⟩ => ⟨Heap.lt_size ho, Heap.lt_size ho⟩
  keep := fun _ _ ⟨o, ep, t, ho, r⟩ hk => ⟨o, ep, t, hk a (.inl rfl) o ho, r⟩
  notList := by decide
  notTuple := by decide
  hint := fun _ _ _ _ hm hq => hint_setE hm.typeIs hq
  iter := fun A s hh hm => by
    obtain ⟨o, ep, t, ho, hc, hd, hf⟩ := hm
    have lt := Heap.lt_size ho
    refine ⟨setiObj a ep, fun _ h => h.get? s.heap.objs.size = some (setiObj a ep) ∧ h.get? a = some o, fun E Q hq => iter_setE ho hc hd hf hq, ⟨fun b hb => by simp at hb; simp [hb], fun _ h h' st hk => ⟨hk _ (by simp) _ st.1, hk _ (by simp) _ st.2⟩, fun i s Q E hi => absurd hi (Nat.not_lt_zero _), fun s₁ Q E st hq => ?_, fun i s₁ Q E st hq => ?_⟩, ⟨Heap.get?_push_size _ rfl, Heap.get?_push_of_some _ ho⟩⟩
    · exact next_setE hh st.2 hd hf st.1 rfl rfl fun h' he => hq h' s₁.toks fun b o' hb e => he b o' (fun q => hb (by simp [q])) e
    · have hit : s₁.TypeIs (.ref s.heap.objs.size) "set_iterator" := ⟨_, st.1, rfl⟩
      refine wpAny_pyIter_slot hit slot_seti_iter (wpAny_call_entry slot_seti_iter hit entry_seti_iter ?_ (args_seti_iter _))
      show wpAny _ _ (ret (.ref s.heap.objs.size)) _ _ s₁
      exact wpAny_pure ⟨_, rfl, "set_iterator", _, hit, slot_seti_next.lookup, hq⟩
theorem sorted_setE {Q : Value → Shared → Prop} (hh : A.handled = none) (hm : SetE s.heap a)
    (h : ∀ h' tk D, HKeep s.heap h' → s.heap.get? D = none → (∃ k, h'.get? D = some (listOf ([] : List Value).toArray k)) → Q (.ref D) { s with heap := h', toks := tk }) :
    wpAny (model prog w) A (call (.builtin "sorted") [.ref a]) Q E s := by
  refine Calls.call_function_entry kind_sorted plain_sorted entry_sorted (args_sorted1 _) ?_
  unfold Builtin.«sorted»
  refine wpAny_bind (m := checkCount "sorted" 1 1 _) (wpAny_pure ?_)
  refine wpAny_bind (kdu_collect (A := A.in1) (src_setE a) hh hm (Nat.zero_le _) fun h' tk acc hk hacc => ?_)
  obtain rfl : acc = #[] := by
    have := hacc.1
    exact Array.eq_empty_of_size_eq_zero this
  refine wpAny_bind (wpAny_newList ?_ (Nat.zero_le _))
  have hoL : (h'.push { cls := .type "list", data := .seq (#[] : Array Value).toList.toArray }).get? h'.objs.size = some (seqObj "list" ([] : List Value).toArray 0) := Heap.get?_push_size _ rfl
  have nD : s.heap.get? h'.objs.size = none := by
    cases z : s.heap.get? h'.objs.size with
    | none => rfl
    | some o => exact absurd (Heap.lt_size (hk _ _ z)) (Nat.lt_irrefl _)
  refine wpAny_bind (wpAny_holding (wpAny_call_entry slot_list_sort ⟨_, hoL, rfl⟩ entry_list_sort (list_sort_tree (ns := []) hoL .nil (by decide) fun out ns' a1 a2 a3 => ⟨_, rfl, ?_⟩) (args_list_sort _)))
  have eo : out = #[] := by
    have e1 : ns' = [] := List.Perm.eq_nil a2
    rw [e1] at a1
    have e2 : out.toList = [] := by cases q : out.toList with
      | nil => rfl
      | cons x r => rw [q] at a1; cases a1
    exact Array.toList_eq_nil_iff.mp e2
  obtain ⟨e, he⟩ := sortedHeap_at (out := out) hoL
  subst eo
  have sz : (h'.push { cls := .type "list", data := .seq (#[] : Array Value).toList.toArray }).objs.size = h'.objs.size + 1 := Heap.size_push ..
  refine wpAny_pure ⟨_, rfl, h _ _ h'.objs.size (fun b o eb => ?_) nD ⟨e, he⟩⟩
  have lb := Heap.lt_size (hk _ _ eb)
  show (sortedHeap (h'.push { cls := .type "list", data := .seq (#[] : Array Value).toList.toArray }) h'.objs.size [] #[]).get? b = some o
  rw [sortedHeap_old (Nat.ne_of_lt lb) (by rw [sz]; exact Nat.lt_succ_of_lt lb)]
  exact Heap.get?_push_of_some _ (hk _ _ eb)
end
noncomputable def SetO (o : Obj) : Prop := o.cls = .type "set" ∧ ∃ ep t, o.data = .set #[] ep t ∧ t.fits 0 = true
section
variable {C : Cx} {n : Nat} {σ : Store}
theorem B_set0 {a : Addr} {Φ : V → Store → Prop} (ha : σ a = some (.list [])) (h : ∀ c o, σ c = none → SetO o → Φ (.ref c) (σ.set c (.raw o))) : TC C n σ (.typ "set") [.ref a] Φ := by
  refine TC_1 Rep.typ_inv fun A s v Q E R H r q => r.ref_elim ?_
  · obtain ⟨vs, k, h1, r1⟩ := H.obj _ _ ha
    rw [r1.nil_inv] at h1
    refine call_set_list (ns := []) R.handled ⟨_, h1, rfl, k, rfl⟩ .nil (by decide) fun h' tk S kp => ?_
    obtain ⟨o, es, ep, t, ho, hex, hd, _, _, _, hf, hn⟩ := S
    have he : es = #[] := Array.eq_empty_of_size_eq_zero (hn.trans rfl)
    subst he
    have nw := heap_new s.heap
    have k : HKeep s.heap h' := fun b o e => kp b o (Heap.lt_size e) e
    exact q _ _ _ h' tk (.ref _) (H.alloc (x := .raw o) k nw ho) (Go.alloc k nw) (h _ o (H.off_new nw) ⟨hex.1, ep, t, hd, hf⟩)
theorem B_sorted0 {c : Addr} {o : Obj} {Φ : V → Store → Prop} (hc : σ c = some (.raw o)) (ho : SetO o) (h : ∀ D, σ D = none → Φ (.ref D) (σ.set D (.list []))) : TC C n σ (.bltn "sorted") [.ref c] Φ := by
  refine TC_1 Rep.bltn_inv fun A s v Q E R H r q => r.ref_elim ?_
  · have h1 := H.obj _ _ hc
    obtain ⟨h2, ep, t, h3, h4⟩ := ho
    refine sorted_setE R.handled ⟨o, ep, t, h1, h2, h3, h4⟩ fun h' tk D k nD hD => ?_
    obtain ⟨j, hD⟩ := hD
    exact q _ _ _ h' tk (.ref _) (H.alloc (x := .list []) k nD ⟨[], j, hD, .nil⟩) (Go.alloc k nD) (h _ (H.off_new nD))
end
end
section
open PySem PySem.W PySem.Calls PyProof.Rows PySem.Spec PyProof.V
theorem flat_repD {h : Heap} : ∀ {kvs : List (Str × Value)} {es : List (Str × Int)}, FlatPairs PyData.str kvs (es.map fun p => (PyData.str p.1, PyData.int p.2)) → RepD h kvs (es.map fun p => (p.1, V.int p.2))
  | _, [], r => by cases r; exact .nil
  | _, (k, i) :: es, r => by
    rw [List.map_cons] at r
    cases r with
    | cons fv r =>
      obtain ⟨t, rfl⟩ := Flat.int_inv fv
      exact .cons (.int _ _) (flat_repD r)
section
variable {C : Cx} {n : Nat} {env : Env} {ρ : Loc} {σ : Store}
theorem TE_dictS {keys : List (Option Expr)} {values : List Expr} {pos : Pos} (es : List (Str × Int)) {Φ : V → Store → Prop} (hD : litPairs keys values = some (es.map fun p => (PyData.str p.1, PyData.int p.2)))
    (hs : strKeyed (es.map fun p => (PyData.str p.1, PyData.int p.2)) = true) (hn : (PyProof.Rows.strKeysOf (es.map fun p => (PyData.str p.1, PyData.int p.2))).Nodup) (hall : keys.all (·.isSome) = true) (hl : keys.length = values.length) (h0 : keys ≠ []) (hlen : keys.length ≤ 15)
    (h : ∀ a, σ a = none → a ≠ env.locals → Φ (.ref a) (σ.set a (.sdict (es.map fun p => (p.1, V.int p.2))))) : TE C n env ρ σ (.Dict keys values pos) Φ := by
  intro A s Q E R H F q
  refine Dict_lits_str hD hs hn hall hl h0 hlen fun a o h₁ tk ha ho T k => ?_
  obtain ⟨kvs, hd, hf⟩ := T
  have na : s.heap.get? a = none := Heap.get?_none_of_le ha
  have ne : a ≠ env.locals := fun e => by
    obtain ⟨⟨m, hm, _⟩, _⟩ := F
    have hl := hm.lt
    rw [← e] at hl
    exact absurd ha (Nat.not_le.mpr hl)
  have G := Go.alloc (σ := σ) (F := fun _ => False) (x := .sdict (es.map fun p => (p.1, V.int p.2))) k na
  exact q _ _ _ _ _ (.ref _) (H.alloc (x := .sdict (es.map fun p => (p.1, V.int p.2))) k na ⟨kvs, Heap.dictOf_iff.mpr ⟨o, ho, hd⟩, flat_repD hf⟩) (F.go G) (frm_go F G) (h _ (H.off_new na) ne)
theorem eqv_self {x : V} {d : Nat} (h : x.data d = true) : PyData.eqv x.py x.py = true := PySem.SeqAt.eqv_refl _ (V.canLay d x h).1
theorem O_eqSame {X : V} {Φ : V → Store → Prop} (hx : X.data 40 = true) (h : Φ (.bool true) σ) : TO2 C n σ (compareOp .Eq) X X Φ := O_eqData hx hx (by rw [eqv_self hx]; exact h)
theorem O_neSame {X : V} {Φ : V → Store → Prop} (hx : X.data 40 = true) (h : Φ (.bool false) σ) : TO2 C n σ (compareOp .NotEq) X X Φ := O_neData hx hx (by rw [eqv_self hx]; exact h)
end
end
section
open PySem PySem.W PySem.Calls PyProof.Rows PySem.Spec
noncomputable def nthS : List Stmt → Nat → Stmt := fun l => @List.rec Stmt (fun _ => Nat → Stmt) (fun _ => .Pass ⟨0, 0, 0, 0⟩) (fun s _ r k => @Nat.rec (fun _ => Stmt) s (fun k _ => r k) k) l
noncomputable def topS (i : Nat) : Stmt := nthS PySem.Challenge.pw_pb0272_01.main.body i
noncomputable def inC (i j : Nat) : Stmt := match topS i with
  | .ClassDef _ _ _ b _ _ _ _ _ _ _ => nthS b j
  | s => s
noncomputable def fobj (st : Stmt) (q : Str) (dfl : Value) (m : Str) (t : Tok) (c : Addr) : Obj := match st with
  | .FunctionDef n a b _ _ _ sc _ _ _ => { cls := Value.type "function", data := Data.func { name := n, qualname := q, params := a, body := FuncBody.stmts b, scope := sc, globals := 3, closure := [], defaults := dfl, kwdefaults := Value.none, pyModule := Value.str m t, code := Value.ref c } }
  | _ => { cls := Value.none, data := Data.seq #[] }
noncomputable def KK (P : Params) : Frag :=
  [
   (3, { cls := Value.type "dict", data := Data.dict #[{ hash := PyData.keyHash P (Str.ofString "__name__"), key := Value.str (Str.ofString "__name__") 165, val := Value.str (Str.ofString "law_pb0272_01") 893 }, { hash := PyData.keyHash P (Str.ofString "__doc__"), key := Value.str (Str.ofString "__doc__") 166, val := Value.none }, { hash := PyData.keyHash P (Str.ofString "__package__"), key := Value.str (Str.ofString "__package__") 167, val := Value.none }, { hash := PyData.keyHash P (Str.ofString "__loader__"), key := Value.str (Str.ofString "__loader__") 168, val := Value.builtin (String.ofList [Char.ofNat 95, Char.ofNat 95, Char.ofNat 109, Char.ofNat 97, Char.ofNat 105, Char.ofNat 110, Char.ofNat 95, Char.ofNat 95, Char.ofNat 46, Char.ofNat 95, Char.ofNat 95, Char.ofNat 108, Char.ofNat 111, Char.ofNat 97, Char.ofNat 100, Char.ofNat 101, Char.ofNat 114, Char.ofNat 95, Char.ofNat 95, Char.ofNat 35, Char.ofNat 111, Char.ofNat 112, Char.ofNat 97, Char.ofNat 113, Char.ofNat 117, Char.ofNat 101]) }, { hash := PyData.keyHash P (Str.ofString "__spec__"), key := Value.str (Str.ofString "__spec__") 169, val := Value.none }, { hash := PyData.keyHash P (Str.ofString "__annotations__"), key := Value.str (Str.ofString "__annotations__") 170, val := Value.ref 6 }, { hash := PyData.keyHash P (Str.ofString "__builtins__"), key := Value.str (Str.ofString "__builtins__") 171, val := Value.ref 4 }, { hash := PyData.keyHash P (Str.ofString "__file__"), key := Value.str (Str.ofString "__file__") 173, val := Value.str (Str.ofString "/claim/cut.py") 172 }, { hash := PyData.keyHash P (Str.ofString "__cached__"), key := Value.str (Str.ofString "__cached__") 174, val := Value.none }, { hash := PyData.keyHash P (Str.ofString "always"), key := Value.str (Str.ofString "always") 195, val := Value.ref 21 }, { hash := PyData.keyHash P (Str.ofString "negated_if"), key := Value.str (Str.ofString "negated_if") 203, val := Value.ref 28 }, { hash := PyData.keyHash P (Str.ofString "truth_of"), key := Value.str (Str.ofString "truth_of") 210, val := Value.ref 35 }, { hash := PyData.keyHash P (Str.ofString "alike_truths"), key := Value.str (Str.ofString "alike_truths") 218, val := Value.ref 42 }, { hash := PyData.keyHash P (Str.ofString "object_cond"), key := Value.str (Str.ofString "object_cond") 228, val := Value.ref 49 }, { hash := PyData.keyHash P (Str.ofString "row_cond"), key := Value.str (Str.ofString "row_cond") 240, val := Value.ref 56 }, { hash := PyData.keyHash P (Str.ofString "rows_cond"), key := Value.str (Str.ofString "rows_cond") 251, val := Value.ref 63 }, { hash := PyData.keyHash P (Str.ofString "as_ifs"), key := Value.str (Str.ofString "as_ifs") 264, val := Value.ref 70 }, { hash := PyData.keyHash P (Str.ofString "goal_parts"), key := Value.str (Str.ofString "goal_parts") 274, val := Value.ref 77 }, { hash := PyData.keyHash P (Str.ofString "sort_parts"), key := Value.str (Str.ofString "sort_parts") 285, val := Value.ref 84 }, { hash := PyData.keyHash P (Str.ofString "BRANCHED"), key := Value.str (Str.ofString "BRANCHED") 302, val := Value.ref 85 }, { hash := PyData.keyHash P (Str.ofString "branches_of"), key := Value.str (Str.ofString "branches_of") 308, val := Value.ref 90 }, { hash := PyData.keyHash P (Str.ofString "JOINERS"), key := Value.str (Str.ofString "JOINERS") 314, val := Value.ref 91 }, { hash := PyData.keyHash P (Str.ofString "OPERANDS"), key := Value.str (Str.ofString "OPERANDS") 320, val := Value.ref 92 }, { hash := PyData.keyHash P (Str.ofString "QUIET"), key := Value.str (Str.ofString "QUIET") 323, val := Value.ref 93 }, { hash := PyData.keyHash P (Str.ofString "LET"), key := Value.str (Str.ofString "LET") 326, val := Value.int (-1) 325 }, { hash := PyData.keyHash P (Str.ofString "Code"), key := Value.str (Str.ofString "Code") 364, val := Value.ref 117 }, { hash := PyData.keyHash P (Str.ofString "labels_of"), key := Value.str (Str.ofString "labels_of") 371, val := Value.ref 128 }, { hash := PyData.keyHash P (Str.ofString "relabelled"), key := Value.str (Str.ofString "relabelled") 377, val := Value.ref 133 }, { hash := PyData.keyHash P (Str.ofString "goes_on"), key := Value.str (Str.ofString "goes_on") 384, val := Value.ref 140 }, { hash := PyData.keyHash P (Str.ofString "Draft"), key := Value.str (Str.ofString "Draft") 459, val := Value.ref 195 }, { hash := PyData.keyHash P (Str.ofString "put_expression"), key := Value.str (Str.ofString "put_expression") 468, val := Value.ref 206 }, { hash := PyData.keyHash P (Str.ofString "put_condition"), key := Value.str (Str.ofString "put_condition") 479, val := Value.ref 213 }, { hash := PyData.keyHash P (Str.ofString "put_statements"), key := Value.str (Str.ofString "put_statements") 488, val := Value.ref 220 }, { hash := PyData.keyHash P (Str.ofString "put_statement"), key := Value.str (Str.ofString "put_statement") 494, val := Value.ref 225 }, { hash := PyData.keyHash P (Str.ofString "put_if"), key := Value.str (Str.ofString "put_if") 504, val := Value.ref 232 }, { hash := PyData.keyHash P (Str.ofString "put_arith"), key := Value.str (Str.ofString "put_arith") 516, val := Value.ref 239 }, { hash := PyData.keyHash P (Str.ofString "put_deed"), key := Value.str (Str.ofString "put_deed") 522, val := Value.ref 244 }, { hash := PyData.keyHash P (Str.ofString "put_sort"), key := Value.str (Str.ofString "put_sort") 531, val := Value.ref 251 }, { hash := PyData.keyHash P (Str.ofString "put_range"), key := Value.str (Str.ofString "put_range") 541, val := Value.ref 258 }, { hash := PyData.keyHash P (Str.ofString "put_goal"), key := Value.str (Str.ofString "put_goal") 549, val := Value.ref 265 }, { hash := PyData.keyHash P (Str.ofString "put_perform"), key := Value.str (Str.ofString "put_perform") 559, val := Value.ref 272 }, { hash := PyData.keyHash P (Str.ofString "put_times"), key := Value.str (Str.ofString "put_times") 571, val := Value.ref 279 }, { hash := PyData.keyHash P (Str.ofString "put_until"), key := Value.str (Str.ofString "put_until") 583, val := Value.ref 286 }, { hash := PyData.keyHash P (Str.ofString "put_step"), key := Value.str (Str.ofString "put_step") 594, val := Value.ref 293 }, { hash := PyData.keyHash P (Str.ofString "put_varying"), key := Value.str (Str.ofString "put_varying") 600, val := Value.ref 298 }, { hash := PyData.keyHash P (Str.ofString "put_varying_after"), key := Value.str (Str.ofString "put_varying_after") 617, val := Value.ref 305 }, { hash := PyData.keyHash P (Str.ofString "compiled"), key := Value.str (Str.ofString "compiled") 626, val := Value.ref 312 }, { hash := PyData.keyHash P (Str.ofString "decimal"), key := Value.str (Str.ofString "decimal") 637, val := Value.ref 320 }, { hash := PyData.keyHash P (Str.ofString "NO_LABEL"), key := Value.str (Str.ofString "NO_LABEL") 642, val := Value.int (-1) 641 }, { hash := PyData.keyHash P (Str.ofString "ARGUMENTS"), key := Value.str (Str.ofString "ARGUMENTS") 682, val := Value.ref 321 }, { hash := PyData.keyHash P (Str.ofString "labels_in"), key := Value.str (Str.ofString "labels_in") 689, val := Value.ref 328 }, { hash := PyData.keyHash P (Str.ofString "form_fault"), key := Value.str (Str.ofString "form_fault") 695, val := Value.ref 333 }, { hash := PyData.keyHash P (Str.ofString "taken_by"), key := Value.str (Str.ofString "taken_by") 702, val := Value.ref 340 }, { hash := PyData.keyHash P (Str.ofString "height_behind"), key := Value.str (Str.ofString "height_behind") 710, val := Value.ref 347 }, { hash := PyData.keyHash P (Str.ofString "ways_behind"), key := Value.str (Str.ofString "ways_behind") 716, val := Value.ref 352 }, { hash := PyData.keyHash P (Str.ofString "height_faults"), key := Value.str (Str.ofString "height_faults") 722, val := Value.ref 357 }, { hash := PyData.keyHash P (Str.ofString "well_formed"), key := Value.str (Str.ofString "well_formed") 733, val := Value.ref 364 }, { hash := PyData.keyHash P (Str.ofString "LedgerError"), key := Value.str (Str.ofString "LedgerError") 775, val := Value.ref 390 }, { hash := PyData.keyHash P (Str.ofString "CheckFault"), key := Value.str (Str.ofString "CheckFault") 791, val := Value.ref 403 }, { hash := PyData.keyHash P (Str.ofString "Paragraph"), key := Value.str (Str.ofString "Paragraph") 833, val := Value.ref 429 }, { hash := PyData.keyHash P (Str.ofString "Procedures"), key := Value.str (Str.ofString "Procedures") 892, val := Value.ref 469 }, { hash := PyData.keyHash P (Str.ofString "_law_pen"), key := Value.str (Str.ofString "_law_pen") 900, val := Value.ref 478 }, { hash := PyData.keyHash P (Str.ofString "_law_draw"), key := Value.str (Str.ofString "_law_draw") 913, val := Value.ref 485 }, { hash := PyData.keyHash P (Str.ofString "_law_ref"), key := Value.str (Str.ofString "_law_ref") 920, val := Value.ref 492 }, { hash := PyData.keyHash P (Str.ofString "_law_expr"), key := Value.str (Str.ofString "_law_expr") 929, val := Value.ref 499 }, { hash := PyData.keyHash P (Str.ofString "_law_cond"), key := Value.str (Str.ofString "_law_cond") 938, val := Value.ref 506 }, { hash := PyData.keyHash P (Str.ofString "_law_pair"), key := Value.str (Str.ofString "_law_pair") 946, val := Value.ref 513 }, { hash := PyData.keyHash P (Str.ofString "_law_loop"), key := Value.str (Str.ofString "_law_loop") 952, val := Value.ref 518 }, { hash := PyData.keyHash P (Str.ofString "_law_statement"), key := Value.str (Str.ofString "_law_statement") 958, val := Value.ref 523 }, { hash := PyData.keyHash P (Str.ofString "_law_statements"), key := Value.str (Str.ofString "_law_statements") 964, val := Value.ref 528 }, { hash := PyData.keyHash P (Str.ofString "_law_op_right"), key := Value.str (Str.ofString "_law_op_right") 970, val := Value.ref 533 }, { hash := PyData.keyHash P (Str.ofString "law"), key := Value.str (Str.ofString "law") 976, val := Value.ref 538 }] 72 }),
   (20, { cls := Value.type "code", data := Data.fields #[Value.str (Str.ofString "always") 189, Value.str (Str.ofString "always") 190, Value.str (Str.ofString "/claim/cut.py") 191, Value.int 2 0, Value.int 0 0, Value.int 0 0, Value.int 0 0, Value.int 3 0, Value.ref 15, Value.bool true, Value.int 181 0, Value.ref 16, Value.none, Value.ref 17, Value.ref 18, Value.ref 19, Value.int 193 0, Value.int 2 0, Value.str (Str.ofString "/claim/cut.py") 194] }),
   (21, fobj (topS 1) "always" (Value.none) "ledgerspeak.runner" 187 20),
   (27, { cls := Value.type "code", data := Data.fields #[Value.str (Str.ofString "negated_if") 196, Value.str (Str.ofString "negated_if") 197, Value.str (Str.ofString "/claim/cut.py") 198, Value.int 5 0, Value.int 2 0, Value.int 0 0, Value.int 0 0, Value.int 3 0, Value.ref 22, Value.bool true, Value.int 181 0, Value.ref 23, Value.none, Value.ref 24, Value.ref 25, Value.ref 26, Value.int 201 0, Value.int 5 0, Value.str (Str.ofString "/claim/cut.py") 202] }),
   (28, fobj (topS 2) "negated_if" (Value.none) "ledgerspeak.runner" 187 27),
   (34, { cls := Value.type "code", data := Data.fields #[Value.str (Str.ofString "truth_of") 204, Value.str (Str.ofString "truth_of") 205, Value.str (Str.ofString "/claim/cut.py") 206, Value.int 7 0, Value.int 1 0, Value.int 0 0, Value.int 0 0, Value.int 3 0, Value.ref 29, Value.bool true, Value.int 181 0, Value.ref 30, Value.none, Value.ref 31, Value.ref 32, Value.ref 33, Value.int 208 0, Value.int 7 0, Value.str (Str.ofString "/claim/cut.py") 209] }),
   (35, fobj (topS 3) "truth_of" (Value.none) "ledgerspeak.runner" 187 34),
   (41, { cls := Value.type "code", data := Data.fields #[Value.str (Str.ofString "alike_truths") 211, Value.str (Str.ofString "alike_truths") 212, Value.str (Str.ofString "/claim/cut.py") 213, Value.int 11 0, Value.int 2 0, Value.int 0 0, Value.int 0 0, Value.int 3 0, Value.ref 36, Value.bool true, Value.int 181 0, Value.ref 37, Value.none, Value.ref 38, Value.ref 39, Value.ref 40, Value.int 216 0, Value.int 11 0, Value.str (Str.ofString "/claim/cut.py") 217] }),
   (42, fobj (topS 4) "alike_truths" (Value.none) "ledgerspeak.runner" 187 41),
   (48, { cls := Value.type "code", data := Data.fields #[Value.str (Str.ofString "object_cond") 219, Value.str (Str.ofString "object_cond") 220, Value.str (Str.ofString "/claim/cut.py") 221, Value.int 13 0, Value.int 2 0, Value.int 0 0, Value.int 0 0, Value.int 3 0, Value.ref 43, Value.bool true, Value.int 181 0, Value.ref 44, Value.none, Value.ref 45, Value.ref 46, Value.ref 47, Value.int 226 0, Value.int 13 0, Value.str (Str.ofString "/claim/cut.py") 227] }),
   (49, fobj (topS 5) "object_cond" (Value.none) "ledgerspeak.runner" 187 48),
   (55, { cls := Value.type "code", data := Data.fields #[Value.str (Str.ofString "row_cond") 229, Value.str (Str.ofString "row_cond") 230, Value.str (Str.ofString "/claim/cut.py") 231, Value.int 26 0, Value.int 2 0, Value.int 0 0, Value.int 0 0, Value.int 3 0, Value.ref 50, Value.bool true, Value.int 181 0, Value.ref 51, Value.none, Value.ref 52, Value.ref 53, Value.ref 54, Value.int 238 0, Value.int 26 0, Value.str (Str.ofString "/claim/cut.py") 239] }),
   (56, fobj (topS 6) "row_cond" (Value.none) "ledgerspeak.runner" 187 55),
   (62, { cls := Value.type "code", data := Data.fields #[Value.str (Str.ofString "rows_cond") 241, Value.str (Str.ofString "rows_cond") 242, Value.str (Str.ofString "/claim/cut.py") 243, Value.int 33 0, Value.int 2 0, Value.int 0 0, Value.int 0 0, Value.int 3 0, Value.ref 57, Value.bool true, Value.int 181 0, Value.ref 58, Value.none, Value.ref 59, Value.ref 60, Value.ref 61, Value.int 249 0, Value.int 33 0, Value.str (Str.ofString "/claim/cut.py") 250] }),
   (63, fobj (topS 7) "rows_cond" (Value.none) "ledgerspeak.runner" 187 62),
   (69, { cls := Value.type "code", data := Data.fields #[Value.str (Str.ofString "as_ifs") 252, Value.str (Str.ofString "as_ifs") 253, Value.str (Str.ofString "/claim/cut.py") 254, Value.int 39 0, Value.int 1 0, Value.int 0 0, Value.int 0 0, Value.int 3 0, Value.ref 64, Value.bool true, Value.int 181 0, Value.ref 65, Value.none, Value.ref 66, Value.ref 67, Value.ref 68, Value.int 262 0, Value.int 39 0, Value.str (Str.ofString "/claim/cut.py") 263] }),
   (70, fobj (topS 8) "as_ifs" (Value.none) "ledgerspeak.runner" 187 69),
   (76, { cls := Value.type "code", data := Data.fields #[Value.str (Str.ofString "goal_parts") 267, Value.str (Str.ofString "goal_parts") 268, Value.str (Str.ofString "/claim/cut.py") 269, Value.int 46 0, Value.int 2 0, Value.int 0 0, Value.int 0 0, Value.int 3 0, Value.ref 71, Value.bool true, Value.int 181 0, Value.ref 72, Value.none, Value.ref 73, Value.ref 74, Value.ref 75, Value.int 272 0, Value.int 46 0, Value.str (Str.ofString "/claim/cut.py") 273] }),
   (77, fobj (topS 10) "goal_parts" (Value.none) "ledgerspeak.sorting" 265 76),
   (83, { cls := Value.type "code", data := Data.fields #[Value.str (Str.ofString "sort_parts") 275, Value.str (Str.ofString "sort_parts") 276, Value.str (Str.ofString "/claim/cut.py") 277, Value.int 50 0, Value.int 1 0, Value.int 0 0, Value.int 0 0, Value.int 3 0, Value.ref 78, Value.bool true, Value.int 181 0, Value.ref 79, Value.none, Value.ref 80, Value.ref 81, Value.ref 82, Value.int 283 0, Value.int 50 0, Value.str (Str.ofString "/claim/cut.py") 284] }),
   (84, fobj (topS 11) "sort_parts" (Value.none) "ledgerspeak.sorting" 265 83),
   (85, { cls := Value.type "tuple", data := Data.seq #[Value.str (Str.ofString "arith") 288, Value.str (Str.ofString "divide") 289, Value.str (Str.ofString "corr") 290, Value.str (Str.ofString "search") 291, Value.str (Str.ofString "search-all") 292, Value.str (Str.ofString "string") 293, Value.str (Str.ofString "unstring") 294, Value.str (Str.ofString "read") 295, Value.str (Str.ofString "write") 296, Value.str (Str.ofString "rewrite") 297, Value.str (Str.ofString "delete") 298, Value.str (Str.ofString "start") 299, Value.str (Str.ofString "return") 300, Value.str (Str.ofString "call") 301] }),
   (89, { cls := Value.type "code", data := Data.fields #[Value.str (Str.ofString "branches_of") 303, Value.str (Str.ofString "branches_of") 304, Value.str (Str.ofString "/claim/cut.py") 305, Value.int 65 0, Value.int 1 0, Value.int 0 0, Value.int 0 0, Value.int 3 0, Value.ref 86, Value.bool true, Value.int 181 0, Value.ref 87, Value.none, Value.none, Value.none, Value.ref 88, Value.int 306 0, Value.int 65 0, Value.str (Str.ofString "/claim/cut.py") 307] }),
   (90, fobj (topS 14) "branches_of" (Value.none) "ledgerspeak.tree" 286 89),
   (91, { cls := Value.type "tuple", data := Data.seq #[Value.str (Str.ofString "not") 311, Value.str (Str.ofString "and") 312, Value.str (Str.ofString "or") 313] }),
   (92, { cls := Value.type "tuple", data := Data.seq #[Value.str (Str.ofString "ref") 315, Value.str (Str.ofString "number") 316, Value.str (Str.ofString "text") 317, Value.str (Str.ofString "figure") 318, Value.str (Str.ofString "all") 319] }),
   (93, { cls := Value.type "tuple", data := Data.seq #[Value.str (Str.ofString "exit") 321, Value.str (Str.ofString "continue") 322] }),
   (106, { cls := Value.type "code", data := Data.fields #[Value.str (Str.ofString "__init__") 339, Value.str (Str.ofString "Code.__init__") 340, Value.str (Str.ofString "/claim/cut.py") 341, Value.int 76 0, Value.int 3 0, Value.int 0 0, Value.int 0 0, Value.int 3 0, Value.ref 101, Value.bool true, Value.int 181 0, Value.ref 102, Value.none, Value.ref 103, Value.ref 104, Value.ref 105, Value.int 345 0, Value.int 76 0, Value.str (Str.ofString "/claim/cut.py") 346] }),
   (107, fobj (inC 20 0) "Code.__init__" (Value.none) "ledgerspeak.codes" 309 106),
   (113, { cls := Value.type "code", data := Data.fields #[Value.str (Str.ofString "told") 348, Value.str (Str.ofString "Code.told") 349, Value.str (Str.ofString "/claim/cut.py") 350, Value.int 80 0, Value.int 1 0, Value.int 0 0, Value.int 0 0, Value.int 3 0, Value.ref 108, Value.bool true, Value.int 181 0, Value.ref 109, Value.none, Value.ref 110, Value.ref 111, Value.ref 112, Value.int 352 0, Value.int 80 0, Value.str (Str.ofString "/claim/cut.py") 353] }),
   (114, fobj (inC 20 1) "Code.told" (Value.none) "ledgerspeak.codes" 309 113),
   (116, { cls := Value.type "dict", data := Data.dict #[{ hash := PyData.keyHash P (Str.ofString "__module__"), key := Value.str (Str.ofString "__module__") 334, val := Value.str (Str.ofString "ledgerspeak.codes") 309 }, { hash := PyData.keyHash P (Str.ofString "__firstlineno__"), key := Value.str (Str.ofString "__firstlineno__") 338, val := Value.int 74 337 }, { hash := PyData.keyHash P (Str.ofString "__init__"), key := Value.str (Str.ofString "__init__") 347, val := Value.ref 107 }, { hash := PyData.keyHash P (Str.ofString "told"), key := Value.str (Str.ofString "told") 354, val := Value.ref 114 }, { hash := PyData.keyHash P (Str.ofString "__static_attributes__"), key := Value.str (Str.ofString "__static_attributes__") 357, val := Value.ref 115 }, { hash := PyData.keyHash P (Str.ofString "__dict__"), key := Value.str (Str.ofString "__dict__") 359, val := Value.ref 118 }, { hash := PyData.keyHash P (Str.ofString "__weakref__"), key := Value.str (Str.ofString "__weakref__") 361, val := Value.ref 119 }, { hash := PyData.keyHash P (Str.ofString "__doc__"), key := Value.str (Str.ofString "__doc__") 362, val := Value.none }] 4 }),
   (117, { cls := Value.type "type", data := Data.cls { name := Str.ofString "Code", bases := [Value.type "object"], mro := [Value.ref 117, Value.type "object"], ns := 116, qualname := Str.ofString "Code" }, slots := #[none, none, some (Value.str (Str.ofString "Code") 327), some (Value.str (Str.ofString "Code") 335), some (Value.builtin "object.__new__"), some (Value.bool true)] }),
   (118, { cls := Value.type "getset_descriptor", data := Data.fields #[Value.str (Str.ofString "__dict__") 358, Value.ref 117, Value.builtin "function.__dict__", Value.builtin "function.__dict__#set"] }),
   (119, { cls := Value.type "getset_descriptor", data := Data.fields #[Value.str (Str.ofString "__weakref__") 360, Value.ref 117, Value.builtin "ExceptionGroup.__weakref__", Value.none] }),
   (127, { cls := Value.type "code", data := Data.fields #[Value.str (Str.ofString "labels_of") 365, Value.str (Str.ofString "labels_of") 366, Value.str (Str.ofString "/claim/cut.py") 367, Value.int 82 0, Value.int 1 0, Value.int 0 0, Value.int 0 0, Value.int 3 0, Value.ref 122, Value.bool true, Value.int 181 0, Value.ref 123, Value.none, Value.ref 124, Value.ref 125, Value.ref 126, Value.int 369 0, Value.int 82 0, Value.str (Str.ofString "/claim/cut.py") 370] }),
   (128, fobj (topS 21) "labels_of" (Value.none) "ledgerspeak.codes" 309 127),
   (132, { cls := Value.type "code", data := Data.fields #[Value.str (Str.ofString "relabelled") 372, Value.str (Str.ofString "relabelled") 373, Value.str (Str.ofString "/claim/cut.py") 374, Value.int 90 0, Value.int 2 0, Value.int 0 0, Value.int 0 0, Value.int 3 0, Value.ref 129, Value.bool true, Value.int 181 0, Value.ref 130, Value.none, Value.none, Value.none, Value.ref 131, Value.int 375 0, Value.int 90 0, Value.str (Str.ofString "/claim/cut.py") 376] }),
   (133, fobj (topS 22) "relabelled" (Value.none) "ledgerspeak.codes" 309 132),
   (139, { cls := Value.type "code", data := Data.fields #[Value.str (Str.ofString "goes_on") 378, Value.str (Str.ofString "goes_on") 379, Value.str (Str.ofString "/claim/cut.py") 380, Value.int 98 0, Value.int 1 0, Value.int 0 0, Value.int 0 0, Value.int 3 0, Value.ref 134, Value.bool true, Value.int 181 0, Value.ref 135, Value.none, Value.ref 136, Value.ref 137, Value.ref 138, Value.int 382 0, Value.int 98 0, Value.str (Str.ofString "/claim/cut.py") 383] }),
   (140, fobj (topS 23) "goes_on" (Value.none) "ledgerspeak.codes" 309 139),
   (151, { cls := Value.type "code", data := Data.fields #[Value.str (Str.ofString "__init__") 397, Value.str (Str.ofString "Draft.__init__") 398, Value.str (Str.ofString "/claim/cut.py") 399, Value.int 102 0, Value.int 2 0, Value.int 0 0, Value.int 0 0, Value.int 3 0, Value.ref 148, Value.bool true, Value.int 181 0, Value.ref 149, Value.none, Value.none, Value.none, Value.ref 150, Value.int 400 0, Value.int 102 0, Value.str (Str.ofString "/claim/cut.py") 401] }),
   (152, fobj (inC 24 0) "Draft.__init__" (Value.none) "ledgerspeak.codes" 309 151),
   (158, { cls := Value.type "code", data := Data.fields #[Value.str (Str.ofString "fresh") 403, Value.str (Str.ofString "Draft.fresh") 404, Value.str (Str.ofString "/claim/cut.py") 405, Value.int 109 0, Value.int 1 0, Value.int 0 0, Value.int 0 0, Value.int 3 0, Value.ref 153, Value.bool true, Value.int 181 0, Value.ref 154, Value.none, Value.ref 155, Value.ref 156, Value.ref 157, Value.int 407 0, Value.int 109 0, Value.str (Str.ofString "/claim/cut.py") 408] }),
   (159, fobj (inC 24 1) "Draft.fresh" (Value.none) "ledgerspeak.codes" 309 158),
   (165, { cls := Value.type "code", data := Data.fields #[Value.str (Str.ofString "here") 410, Value.str (Str.ofString "Draft.here") 411, Value.str (Str.ofString "/claim/cut.py") 412, Value.int 113 0, Value.int 2 0, Value.int 0 0, Value.int 0 0, Value.int 3 0, Value.ref 160, Value.bool true, Value.int 181 0, Value.ref 161, Value.none, Value.ref 162, Value.ref 163, Value.ref 164, Value.int 415 0, Value.int 113 0, Value.str (Str.ofString "/claim/cut.py") 416] }),
   (166, fobj (inC 24 2) "Draft.here" (Value.none) "ledgerspeak.codes" 309 165),
   (172, { cls := Value.type "code", data := Data.fields #[Value.str (Str.ofString "put") 418, Value.str (Str.ofString "Draft.put") 419, Value.str (Str.ofString "/claim/cut.py") 420, Value.int 116 0, Value.int 2 0, Value.int 0 0, Value.int 0 0, Value.int 3 0, Value.ref 167, Value.bool true, Value.int 181 0, Value.ref 168, Value.none, Value.ref 169, Value.ref 170, Value.ref 171, Value.int 423 0, Value.int 116 0, Value.str (Str.ofString "/claim/cut.py") 424] }),
   (173, fobj (inC 24 3) "Draft.put" (Value.none) "ledgerspeak.codes" 309 172),
   (179, { cls := Value.type "code", data := Data.fields #[Value.str (Str.ofString "slot") 426, Value.str (Str.ofString "Draft.slot") 427, Value.str (Str.ofString "/claim/cut.py") 428, Value.int 119 0, Value.int 1 0, Value.int 0 0, Value.int 0 0, Value.int 3 0, Value.ref 174, Value.bool true, Value.int 181 0, Value.ref 175, Value.none, Value.ref 176, Value.ref 177, Value.ref 178, Value.int 430 0, Value.int 119 0, Value.str (Str.ofString "/claim/cut.py") 431] }),
   (180, fobj (inC 24 4) "Draft.slot" (Value.none) "ledgerspeak.codes" 309 179),
   (186, { cls := Value.type "code", data := Data.fields #[Value.str (Str.ofString "head_of") 433, Value.str (Str.ofString "Draft.head_of") 434, Value.str (Str.ofString "/claim/cut.py") 435, Value.int 123 0, Value.int 2 0, Value.int 0 0, Value.int 0 0, Value.int 3 0, Value.ref 181, Value.bool true, Value.int 181 0, Value.ref 182, Value.none, Value.ref 183, Value.ref 184, Value.ref 185, Value.int 438 0, Value.int 123 0, Value.str (Str.ofString "/claim/cut.py") 439] }),
   (187, fobj (inC 24 5) "Draft.head_of" (Value.none) "ledgerspeak.codes" 309 186),
   (191, { cls := Value.type "code", data := Data.fields #[Value.str (Str.ofString "finished") 441, Value.str (Str.ofString "Draft.finished") 442, Value.str (Str.ofString "/claim/cut.py") 443, Value.int 126 0, Value.int 1 0, Value.int 0 0, Value.int 0 0, Value.int 3 0, Value.ref 188, Value.bool true, Value.int 181 0, Value.ref 189, Value.none, Value.none, Value.none, Value.ref 190, Value.int 444 0, Value.int 126 0, Value.str (Str.ofString "/claim/cut.py") 445] }),
   (192, fobj (inC 24 6) "Draft.finished" (Value.none) "ledgerspeak.codes" 309 191),
   (194, { cls := Value.type "dict", data := Data.dict #[{ hash := PyData.keyHash P (Str.ofString "__module__"), key := Value.str (Str.ofString "__module__") 392, val := Value.str (Str.ofString "ledgerspeak.codes") 309 }, { hash := PyData.keyHash P (Str.ofString "__firstlineno__"), key := Value.str (Str.ofString "__firstlineno__") 396, val := Value.int 100 395 }, { hash := PyData.keyHash P (Str.ofString "__init__"), key := Value.str (Str.ofString "__init__") 402, val := Value.ref 152 }, { hash := PyData.keyHash P (Str.ofString "fresh"), key := Value.str (Str.ofString "fresh") 409, val := Value.ref 159 }, { hash := PyData.keyHash P (Str.ofString "here"), key := Value.str (Str.ofString "here") 417, val := Value.ref 166 }, { hash := PyData.keyHash P (Str.ofString "put"), key := Value.str (Str.ofString "put") 425, val := Value.ref 173 }, { hash := PyData.keyHash P (Str.ofString "slot"), key := Value.str (Str.ofString "slot") 432, val := Value.ref 180 }, { hash := PyData.keyHash P (Str.ofString "head_of"), key := Value.str (Str.ofString "head_of") 440, val := Value.ref 187 }, { hash := PyData.keyHash P (Str.ofString "finished"), key := Value.str (Str.ofString "finished") 446, val := Value.ref 192 }, { hash := PyData.keyHash P (Str.ofString "__static_attributes__"), key := Value.str (Str.ofString "__static_attributes__") 452, val := Value.ref 193 }, { hash := PyData.keyHash P (Str.ofString "__dict__"), key := Value.str (Str.ofString "__dict__") 454, val := Value.ref 196 }, { hash := PyData.keyHash P (Str.ofString "__weakref__"), key := Value.str (Str.ofString "__weakref__") 456, val := Value.ref 197 }, { hash := PyData.keyHash P (Str.ofString "__doc__"), key := Value.str (Str.ofString "__doc__") 457, val := Value.none }] 4 }),
   (195, { cls := Value.type "type", data := Data.cls { name := Str.ofString "Draft", bases := [Value.type "object"], mro := [Value.ref 195, Value.type "object"], ns := 194, qualname := Str.ofString "Draft" }, slots := #[none, none, some (Value.str (Str.ofString "Draft") 385), some (Value.str (Str.ofString "Draft") 393), some (Value.builtin "object.__new__"), some (Value.bool true)] }),
   (196, { cls := Value.type "getset_descriptor", data := Data.fields #[Value.str (Str.ofString "__dict__") 453, Value.ref 195, Value.builtin "function.__dict__", Value.builtin "function.__dict__#set"] }),
   (197, { cls := Value.type "getset_descriptor", data := Data.fields #[Value.str (Str.ofString "__weakref__") 455, Value.ref 195, Value.builtin "ExceptionGroup.__weakref__", Value.none] }),
   (205, { cls := Value.type "code", data := Data.fields #[Value.str (Str.ofString "put_expression") 460, Value.str (Str.ofString "put_expression") 461, Value.str (Str.ofString "/claim/cut.py") 462, Value.int 129 0, Value.int 3 0, Value.int 0 0, Value.int 0 0, Value.int 3 0, Value.ref 200, Value.bool true, Value.int 181 0, Value.ref 201, Value.none, Value.ref 202, Value.ref 203, Value.ref 204, Value.int 466 0, Value.int 129 0, Value.str (Str.ofString "/claim/cut.py") 467] }),
   (206, fobj (topS 25) "put_expression" (Value.none) "ledgerspeak.codes" 309 205),
   (212, { cls := Value.type "code", data := Data.fields #[Value.str (Str.ofString "put_condition") 469, Value.str (Str.ofString "put_condition") 470, Value.str (Str.ofString "/claim/cut.py") 471, Value.int 139 0, Value.int 4 0, Value.int 0 0, Value.int 0 0, Value.int 3 0, Value.ref 207, Value.bool true, Value.int 181 0, Value.ref 208, Value.none, Value.ref 209, Value.ref 210, Value.ref 211, Value.int 477 0, Value.int 139 0, Value.str (Str.ofString "/claim/cut.py") 478] }),
   (213, fobj (topS 26) "put_condition" (Value.none) "ledgerspeak.codes" 309 212),
   (219, { cls := Value.type "code", data := Data.fields #[Value.str (Str.ofString "put_statements") 480, Value.str (Str.ofString "put_statements") 481, Value.str (Str.ofString "/claim/cut.py") 482, Value.int 157 0, Value.int 2 0, Value.int 0 0, Value.int 0 0, Value.int 3 0, Value.ref 214, Value.bool true, Value.int 181 0, Value.ref 215, Value.none, Value.ref 216, Value.ref 217, Value.ref 218, Value.int 486 0, Value.int 157 0, Value.str (Str.ofString "/claim/cut.py") 487] }),
   (220, fobj (topS 27) "put_statements" (Value.none) "ledgerspeak.codes" 309 219),
   (224, { cls := Value.type "code", data := Data.fields #[Value.str (Str.ofString "put_statement") 489, Value.str (Str.ofString "put_statement") 490, Value.str (Str.ofString "/claim/cut.py") 491, Value.int 160 0, Value.int 2 0, Value.int 0 0, Value.int 0 0, Value.int 3 0, Value.ref 221, Value.bool true, Value.int 181 0, Value.ref 222, Value.none, Value.none, Value.none, Value.ref 223, Value.int 492 0, Value.int 160 0, Value.str (Str.ofString "/claim/cut.py") 493] }),
   (225, fobj (topS 28) "put_statement" (Value.none) "ledgerspeak.codes" 309 224),
   (231, { cls := Value.type "code", data := Data.fields #[Value.str (Str.ofString "put_if") 495, Value.str (Str.ofString "put_if") 496, Value.str (Str.ofString "/claim/cut.py") 497, Value.int 183 0, Value.int 2 0, Value.int 0 0, Value.int 0 0, Value.int 3 0, Value.ref 226, Value.bool true, Value.int 181 0, Value.ref 227, Value.none, Value.ref 228, Value.ref 229, Value.ref 230, Value.int 502 0, Value.int 183 0, Value.str (Str.ofString "/claim/cut.py") 503] }),
   (232, fobj (topS 29) "put_if" (Value.none) "ledgerspeak.codes" 309 231),
   (238, { cls := Value.type "code", data := Data.fields #[Value.str (Str.ofString "put_arith") 505, Value.str (Str.ofString "put_arith") 506, Value.str (Str.ofString "/claim/cut.py") 507, Value.int 195 0, Value.int 2 0, Value.int 0 0, Value.int 0 0, Value.int 3 0, Value.ref 233, Value.bool true, Value.int 181 0, Value.ref 234, Value.none, Value.ref 235, Value.ref 236, Value.ref 237, Value.int 514 0, Value.int 195 0, Value.str (Str.ofString "/claim/cut.py") 515] }),
   (239, fobj (topS 30) "put_arith" (Value.none) "ledgerspeak.codes" 309 238),
   (243, { cls := Value.type "code", data := Data.fields #[Value.str (Str.ofString "put_deed") 517, Value.str (Str.ofString "put_deed") 518, Value.str (Str.ofString "/claim/cut.py") 519, Value.int 210 0, Value.int 2 0, Value.int 0 0, Value.int 0 0, Value.int 3 0, Value.ref 240, Value.bool true, Value.int 181 0, Value.ref 241, Value.none, Value.none, Value.none, Value.ref 242, Value.int 520 0, Value.int 210 0, Value.str (Str.ofString "/claim/cut.py") 521] }),
   (244, fobj (topS 31) "put_deed" (Value.none) "ledgerspeak.codes" 309 243),
   (250, { cls := Value.type "code", data := Data.fields #[Value.str (Str.ofString "put_sort") 523, Value.str (Str.ofString "put_sort") 524, Value.str (Str.ofString "/claim/cut.py") 525, Value.int 222 0, Value.int 2 0, Value.int 0 0, Value.int 0 0, Value.int 3 0, Value.ref 245, Value.bool true, Value.int 181 0, Value.ref 246, Value.none, Value.ref 247, Value.ref 248, Value.ref 249, Value.int 529 0, Value.int 222 0, Value.str (Str.ofString "/claim/cut.py") 530] }),
   (251, fobj (topS 32) "put_sort" (Value.none) "ledgerspeak.codes" 309 250),
   (257, { cls := Value.type "code", data := Data.fields #[Value.str (Str.ofString "put_range") 532, Value.str (Str.ofString "put_range") 533, Value.str (Str.ofString "/claim/cut.py") 534, Value.int 228 0, Value.int 3 0, Value.int 0 0, Value.int 0 0, Value.int 3 0, Value.ref 252, Value.bool true, Value.int 181 0, Value.ref 253, Value.none, Value.ref 254, Value.ref 255, Value.ref 256, Value.int 539 0, Value.int 228 0, Value.str (Str.ofString "/claim/cut.py") 540] }),
   (258, fobj (topS 33) "put_range" (Value.none) "ledgerspeak.codes" 309 257),
   (264, { cls := Value.type "code", data := Data.fields #[Value.str (Str.ofString "put_goal") 542, Value.str (Str.ofString "put_goal") 543, Value.str (Str.ofString "/claim/cut.py") 544, Value.int 231 0, Value.int 2 0, Value.int 0 0, Value.int 0 0, Value.int 3 0, Value.ref 259, Value.bool true, Value.int 181 0, Value.ref 260, Value.none, Value.ref 261, Value.ref 262, Value.ref 263, Value.int 547 0, Value.int 231 0, Value.str (Str.ofString "/claim/cut.py") 548] }),
   (265, fobj (topS 34) "put_goal" (Value.none) "ledgerspeak.codes" 309 264),
   (271, { cls := Value.type "code", data := Data.fields #[Value.str (Str.ofString "put_perform") 550, Value.str (Str.ofString "put_perform") 551, Value.str (Str.ofString "/claim/cut.py") 552, Value.int 236 0, Value.int 2 0, Value.int 0 0, Value.int 0 0, Value.int 3 0, Value.ref 266, Value.bool true, Value.int 181 0, Value.ref 267, Value.none, Value.ref 268, Value.ref 269, Value.ref 270, Value.int 557 0, Value.int 236 0, Value.str (Str.ofString "/claim/cut.py") 558] }),
   (272, fobj (topS 35) "put_perform" (Value.none) "ledgerspeak.codes" 309 271),
   (278, { cls := Value.type "code", data := Data.fields #[Value.str (Str.ofString "put_times") 560, Value.str (Str.ofString "put_times") 561, Value.str (Str.ofString "/claim/cut.py") 562, Value.int 248 0, Value.int 3 0, Value.int 0 0, Value.int 0 0, Value.int 3 0, Value.ref 273, Value.bool true, Value.int 181 0, Value.ref 274, Value.none, Value.ref 275, Value.ref 276, Value.ref 277, Value.int 569 0, Value.int 248 0, Value.str (Str.ofString "/claim/cut.py") 570] }),
   (279, fobj (topS 36) "put_times" (Value.none) "ledgerspeak.codes" 309 278),
   (285, { cls := Value.type "code", data := Data.fields #[Value.str (Str.ofString "put_until") 572, Value.str (Str.ofString "put_until") 573, Value.str (Str.ofString "/claim/cut.py") 574, Value.int 258 0, Value.int 4 0, Value.int 0 0, Value.int 0 0, Value.int 3 0, Value.ref 280, Value.bool true, Value.int 181 0, Value.ref 281, Value.none, Value.ref 282, Value.ref 283, Value.ref 284, Value.int 581 0, Value.int 258 0, Value.str (Str.ofString "/claim/cut.py") 582] }),
   (286, fobj (topS 37) "put_until" (Value.none) "ledgerspeak.codes" 309 285),
   (292, { cls := Value.type "code", data := Data.fields #[Value.str (Str.ofString "put_step") 584, Value.str (Str.ofString "put_step") 585, Value.str (Str.ofString "/claim/cut.py") 586, Value.int 269 0, Value.int 4 0, Value.int 0 0, Value.int 0 0, Value.int 3 0, Value.ref 287, Value.bool true, Value.int 181 0, Value.ref 288, Value.none, Value.ref 289, Value.ref 290, Value.ref 291, Value.int 592 0, Value.int 269 0, Value.str (Str.ofString "/claim/cut.py") 593] }),
   (293, fobj (topS 38) "put_step" (Value.none) "ledgerspeak.codes" 309 292),
   (297, { cls := Value.type "code", data := Data.fields #[Value.str (Str.ofString "put_varying") 595, Value.str (Str.ofString "put_varying") 596, Value.str (Str.ofString "/claim/cut.py") 597, Value.int 274 0, Value.int 3 0, Value.int 0 0, Value.int 0 0, Value.int 3 0, Value.ref 294, Value.bool true, Value.int 181 0, Value.ref 295, Value.none, Value.none, Value.none, Value.ref 296, Value.int 598 0, Value.int 274 0, Value.str (Str.ofString "/claim/cut.py") 599] }),
   (298, fobj (topS 39) "put_varying" (Value.none) "ledgerspeak.codes" 309 297),
   (304, { cls := Value.type "code", data := Data.fields #[Value.str (Str.ofString "put_varying_after") 601, Value.str (Str.ofString "put_varying_after") 602, Value.str (Str.ofString "/claim/cut.py") 603, Value.int 291 0, Value.int 3 0, Value.int 0 0, Value.int 0 0, Value.int 3 0, Value.ref 299, Value.bool true, Value.int 181 0, Value.ref 300, Value.none, Value.ref 301, Value.ref 302, Value.ref 303, Value.int 615 0, Value.int 291 0, Value.str (Str.ofString "/claim/cut.py") 616] }),
   (305, fobj (topS 40) "put_varying_after" (Value.none) "ledgerspeak.codes" 309 304),
   (311, { cls := Value.type "code", data := Data.fields #[Value.str (Str.ofString "compiled") 618, Value.str (Str.ofString "compiled") 619, Value.str (Str.ofString "/claim/cut.py") 620, Value.int 305 0, Value.int 1 0, Value.int 0 0, Value.int 0 0, Value.int 3 0, Value.ref 306, Value.bool true, Value.int 181 0, Value.ref 307, Value.none, Value.ref 308, Value.ref 309, Value.ref 310, Value.int 624 0, Value.int 305 0, Value.str (Str.ofString "/claim/cut.py") 625] }),
   (312, fobj (topS 41) "compiled" (Value.none) "ledgerspeak.codes" 309 311),
   (313, { cls := Value.type "tuple", data := Data.seq #[Value.int 0 629] }),
   (319, { cls := Value.type "code", data := Data.fields #[Value.str (Str.ofString "decimal") 630, Value.str (Str.ofString "decimal") 631, Value.str (Str.ofString "/claim/cut.py") 632, Value.int 314 0, Value.int 2 0, Value.int 0 0, Value.int 0 0, Value.int 3 0, Value.ref 314, Value.bool true, Value.int 181 0, Value.ref 315, Value.none, Value.ref 316, Value.ref 317, Value.ref 318, Value.int 635 0, Value.int 314 0, Value.str (Str.ofString "/claim/cut.py") 636] }),
   (320, fobj (topS 43) "decimal" (Value.ref 313) "ledgerspeak.decimals" 627 319),
   (321, { cls := Value.type "dict", data := Data.dict #[{ hash := PyData.keyHash P (Str.ofString "push"), key := Value.str (Str.ofString "push") 643, val := Value.int 2 644 }, { hash := PyData.keyHash P (Str.ofString "calc"), key := Value.str (Str.ofString "calc") 645, val := Value.int 2 646 }, { hash := PyData.keyHash P (Str.ofString "put"), key := Value.str (Str.ofString "put") 647, val := Value.int 2 648 }, { hash := PyData.keyHash P (Str.ofString "do"), key := Value.str (Str.ofString "do") 649, val := Value.int 1 650 }, { hash := PyData.keyHash P (Str.ofString "key"), key := Value.str (Str.ofString "key") 651, val := Value.int 2 652 }, { hash := PyData.keyHash P (Str.ofString "test"), key := Value.str (Str.ofString "test") 653, val := Value.int 2 654 }, { hash := PyData.keyHash P (Str.ofString "jump"), key := Value.str (Str.ofString "jump") 655, val := Value.int 1 656 }, { hash := PyData.keyHash P (Str.ofString "choose"), key := Value.str (Str.ofString "choose") 657, val := Value.int 1 658 }, { hash := PyData.keyHash P (Str.ofString "perform"), key := Value.str (Str.ofString "perform") 659, val := Value.int 2 660 }, { hash := PyData.keyHash P (Str.ofString "leave"), key := Value.str (Str.ofString "leave") 661, val := Value.int 1 662 }, { hash := PyData.keyHash P (Str.ofString "count"), key := Value.str (Str.ofString "count") 663, val := Value.int 1 664 }, { hash := PyData.keyHash P (Str.ofString "less"), key := Value.str (Str.ofString "less") 665, val := Value.int 2 666 }, { hash := PyData.keyHash P (Str.ofString "stop"), key := Value.str (Str.ofString "stop") 667, val := Value.int 1 668 }] 13 }),
   (327, { cls := Value.type "code", data := Data.fields #[Value.str (Str.ofString "labels_in") 683, Value.str (Str.ofString "labels_in") 684, Value.str (Str.ofString "/claim/cut.py") 685, Value.int 324 0, Value.int 1 0, Value.int 0 0, Value.int 0 0, Value.int 3 0, Value.ref 322, Value.bool true, Value.int 181 0, Value.ref 323, Value.none, Value.ref 324, Value.ref 325, Value.ref 326, Value.int 687 0, Value.int 324 0, Value.str (Str.ofString "/claim/cut.py") 688] }),
   (328, fobj (topS 47) "labels_in" (Value.none) "ledgerspeak.machine" 638 327),
   (332, { cls := Value.type "code", data := Data.fields #[Value.str (Str.ofString "form_fault") 690, Value.str (Str.ofString "form_fault") 691, Value.str (Str.ofString "/claim/cut.py") 692, Value.int 330 0, Value.int 2 0, Value.int 0 0, Value.int 0 0, Value.int 3 0, Value.ref 329, Value.bool true, Value.int 181 0, Value.ref 330, Value.none, Value.none, Value.none, Value.ref 331, Value.int 693 0, Value.int 330 0, Value.str (Str.ofString "/claim/cut.py") 694] }),
   (333, fobj (topS 48) "form_fault" (Value.none) "ledgerspeak.machine" 638 332),
   (339, { cls := Value.type "code", data := Data.fields #[Value.str (Str.ofString "taken_by") 696, Value.str (Str.ofString "taken_by") 697, Value.str (Str.ofString "/claim/cut.py") 698, Value.int 342 0, Value.int 1 0, Value.int 0 0, Value.int 0 0, Value.int 3 0, Value.ref 334, Value.bool true, Value.int 181 0, Value.ref 335, Value.none, Value.ref 336, Value.ref 337, Value.ref 338, Value.int 700 0, Value.int 342 0, Value.str (Str.ofString "/claim/cut.py") 701] }),
   (340, fobj (topS 49) "taken_by" (Value.none) "ledgerspeak.machine" 638 339),
   (346, { cls := Value.type "code", data := Data.fields #[Value.str (Str.ofString "height_behind") 703, Value.str (Str.ofString "height_behind") 704, Value.str (Str.ofString "/claim/cut.py") 705, Value.int 346 0, Value.int 2 0, Value.int 0 0, Value.int 0 0, Value.int 3 0, Value.ref 341, Value.bool true, Value.int 181 0, Value.ref 342, Value.none, Value.ref 343, Value.ref 344, Value.ref 345, Value.int 708 0, Value.int 346 0, Value.str (Str.ofString "/claim/cut.py") 709] }),
   (347, fobj (topS 50) "height_behind" (Value.none) "ledgerspeak.machine" 638 346),
   (351, { cls := Value.type "code", data := Data.fields #[Value.str (Str.ofString "ways_behind") 711, Value.str (Str.ofString "ways_behind") 712, Value.str (Str.ofString "/claim/cut.py") 713, Value.int 350 0, Value.int 3 0, Value.int 0 0, Value.int 0 0, Value.int 3 0, Value.ref 348, Value.bool true, Value.int 181 0, Value.ref 349, Value.none, Value.none, Value.none, Value.ref 350, Value.int 714 0, Value.int 350 0, Value.str (Str.ofString "/claim/cut.py") 715] }),
   (352, fobj (topS 51) "ways_behind" (Value.none) "ledgerspeak.machine" 638 351),
   (356, { cls := Value.type "code", data := Data.fields #[Value.str (Str.ofString "height_faults") 717, Value.str (Str.ofString "height_faults") 718, Value.str (Str.ofString "/claim/cut.py") 719, Value.int 355 0, Value.int 1 0, Value.int 0 0, Value.int 0 0, Value.int 3 0, Value.ref 353, Value.bool true, Value.int 181 0, Value.ref 354, Value.none, Value.none, Value.none, Value.ref 355, Value.int 720 0, Value.int 355 0, Value.str (Str.ofString "/claim/cut.py") 721] }),
   (357, fobj (topS 52) "height_faults" (Value.none) "ledgerspeak.machine" 638 356),
   (363, { cls := Value.type "code", data := Data.fields #[Value.str (Str.ofString "well_formed") 723, Value.str (Str.ofString "well_formed") 724, Value.str (Str.ofString "/claim/cut.py") 725, Value.int 377 0, Value.int 1 0, Value.int 0 0, Value.int 0 0, Value.int 3 0, Value.ref 358, Value.bool true, Value.int 181 0, Value.ref 359, Value.none, Value.ref 360, Value.ref 361, Value.ref 362, Value.int 731 0, Value.int 377 0, Value.str (Str.ofString "/claim/cut.py") 732] }),
   (364, fobj (topS 53) "well_formed" (Value.none) "ledgerspeak.machine" 638 363),
   (379, { cls := Value.type "code", data := Data.fields #[Value.str (Str.ofString "__init__") 750, Value.str (Str.ofString "LedgerError.__init__") 751, Value.str (Str.ofString "/claim/cut.py") 752, Value.int 392 0, Value.int 3 0, Value.int 0 0, Value.int 0 0, Value.int 3 0, Value.ref 374, Value.bool true, Value.int 181 0, Value.ref 375, Value.none, Value.ref 376, Value.ref 377, Value.ref 378, Value.int 756 0, Value.int 392 0, Value.str (Str.ofString "/claim/cut.py") 757] }),
   (386, { cls := Value.type "code", data := Data.fields #[Value.str (Str.ofString "told") 759, Value.str (Str.ofString "LedgerError.told") 760, Value.str (Str.ofString "/claim/cut.py") 761, Value.int 397 0, Value.int 1 0, Value.int 0 0, Value.int 0 0, Value.int 3 0, Value.ref 381, Value.bool true, Value.int 181 0, Value.ref 382, Value.none, Value.ref 383, Value.ref 384, Value.ref 385, Value.int 763 0, Value.int 397 0, Value.str (Str.ofString "/claim/cut.py") 764] }),
   (418, { cls := Value.type "code", data := Data.fields #[Value.str (Str.ofString "__init__") 806, Value.str (Str.ofString "Paragraph.__init__") 807, Value.str (Str.ofString "/claim/cut.py") 808, Value.int 404 0, Value.int 4 0, Value.int 0 0, Value.int 0 0, Value.int 3 0, Value.ref 413, Value.bool true, Value.int 181 0, Value.ref 414, Value.none, Value.ref 415, Value.ref 416, Value.ref 417, Value.int 813 0, Value.int 404 0, Value.str (Str.ofString "/claim/cut.py") 814] }),
   (419, fobj (inC 58 0) "Paragraph.__init__" (Value.none) "ledgerspeak.procread" 792 418),
   (425, { cls := Value.type "code", data := Data.fields #[Value.str (Str.ofString "told") 816, Value.str (Str.ofString "Paragraph.told") 817, Value.str (Str.ofString "/claim/cut.py") 818, Value.int 409 0, Value.int 1 0, Value.int 0 0, Value.int 0 0, Value.int 3 0, Value.ref 420, Value.bool true, Value.int 181 0, Value.ref 421, Value.none, Value.ref 422, Value.ref 423, Value.ref 424, Value.int 820 0, Value.int 409 0, Value.str (Str.ofString "/claim/cut.py") 821] }),
   (426, fobj (inC 58 1) "Paragraph.told" (Value.none) "ledgerspeak.procread" 792 425),
   (428, { cls := Value.type "dict", data := Data.dict #[{ hash := PyData.keyHash P (Str.ofString "__module__"), key := Value.str (Str.ofString "__module__") 801, val := Value.str (Str.ofString "ledgerspeak.procread") 792 }, { hash := PyData.keyHash P (Str.ofString "__firstlineno__"), key := Value.str (Str.ofString "__firstlineno__") 805, val := Value.int 402 804 }, { hash := PyData.keyHash P (Str.ofString "__init__"), key := Value.str (Str.ofString "__init__") 815, val := Value.ref 419 }, { hash := PyData.keyHash P (Str.ofString "told"), key := Value.str (Str.ofString "told") 822, val := Value.ref 426 }, { hash := PyData.keyHash P (Str.ofString "__static_attributes__"), key := Value.str (Str.ofString "__static_attributes__") 826, val := Value.ref 427 }, { hash := PyData.keyHash P (Str.ofString "__dict__"), key := Value.str (Str.ofString "__dict__") 828, val := Value.ref 430 }, { hash := PyData.keyHash P (Str.ofString "__weakref__"), key := Value.str (Str.ofString "__weakref__") 830, val := Value.ref 431 }, { hash := PyData.keyHash P (Str.ofString "__doc__"), key := Value.str (Str.ofString "__doc__") 831, val := Value.none }] 4 }),
   (429, { cls := Value.type "type", data := Data.cls { name := Str.ofString "Paragraph", bases := [Value.type "object"], mro := [Value.ref 429, Value.type "object"], ns := 428, qualname := Str.ofString "Paragraph" }, slots := #[none, none, some (Value.str (Str.ofString "Paragraph") 794), some (Value.str (Str.ofString "Paragraph") 802), some (Value.builtin "object.__new__"), some (Value.bool true)] }),
   (430, { cls := Value.type "getset_descriptor", data := Data.fields #[Value.str (Str.ofString "__dict__") 827, Value.ref 429, Value.builtin "function.__dict__", Value.builtin "function.__dict__#set"] }),
   (431, { cls := Value.type "getset_descriptor", data := Data.fields #[Value.str (Str.ofString "__weakref__") 829, Value.ref 429, Value.builtin "ExceptionGroup.__weakref__", Value.none] }),
   (446, { cls := Value.type "code", data := Data.fields #[Value.str (Str.ofString "__init__") 846, Value.str (Str.ofString "Procedures.__init__") 847, Value.str (Str.ofString "/claim/cut.py") 848, Value.int 413 0, Value.int 3 0, Value.int 0 0, Value.int 0 0, Value.int 3 0, Value.ref 441, Value.bool true, Value.int 181 0, Value.ref 442, Value.none, Value.ref 443, Value.ref 444, Value.ref 445, Value.int 852 0, Value.int 413 0, Value.str (Str.ofString "/claim/cut.py") 853] }),
   (447, fobj (inC 59 0) "Procedures.__init__" (Value.none) "ledgerspeak.procread" 792 446),
   (451, { cls := Value.type "code", data := Data.fields #[Value.str (Str.ofString "told") 855, Value.str (Str.ofString "Procedures.told") 856, Value.str (Str.ofString "/claim/cut.py") 857, Value.int 417 0, Value.int 1 0, Value.int 0 0, Value.int 0 0, Value.int 3 0, Value.ref 448, Value.bool true, Value.int 181 0, Value.ref 449, Value.none, Value.none, Value.none, Value.ref 450, Value.int 858 0, Value.int 417 0, Value.str (Str.ofString "/claim/cut.py") 859] }),
   (452, fobj (inC 59 1) "Procedures.told" (Value.none) "ledgerspeak.procread" 792 451),
   (458, { cls := Value.type "code", data := Data.fields #[Value.str (Str.ofString "section_end") 861, Value.str (Str.ofString "Procedures.section_end") 862, Value.str (Str.ofString "/claim/cut.py") 863, Value.int 420 0, Value.int 2 0, Value.int 0 0, Value.int 0 0, Value.int 3 0, Value.ref 453, Value.bool true, Value.int 181 0, Value.ref 454, Value.none, Value.ref 455, Value.ref 456, Value.ref 457, Value.int 867 0, Value.int 420 0, Value.str (Str.ofString "/claim/cut.py") 868] }),
   (459, fobj (inC 59 2) "Procedures.section_end" (Value.none) "ledgerspeak.procread" 792 458),
   (465, { cls := Value.type "code", data := Data.fields #[Value.str (Str.ofString "range_of") 870, Value.str (Str.ofString "Procedures.range_of") 871, Value.str (Str.ofString "/claim/cut.py") 872, Value.int 426 0, Value.int 2 0, Value.int 0 0, Value.int 0 0, Value.int 3 0, Value.ref 460, Value.bool true, Value.int 181 0, Value.ref 461, Value.none, Value.ref 462, Value.ref 463, Value.ref 464, Value.int 880 0, Value.int 426 0, Value.str (Str.ofString "/claim/cut.py") 881] }),
   (466, fobj (inC 59 3) "Procedures.range_of" (Value.none) "ledgerspeak.procread" 792 465),
   (468, { cls := Value.type "dict", data := Data.dict #[{ hash := PyData.keyHash P (Str.ofString "__module__"), key := Value.str (Str.ofString "__module__") 841, val := Value.str (Str.ofString "ledgerspeak.procread") 792 }, { hash := PyData.keyHash P (Str.ofString "__firstlineno__"), key := Value.str (Str.ofString "__firstlineno__") 845, val := Value.int 411 844 }, { hash := PyData.keyHash P (Str.ofString "__init__"), key := Value.str (Str.ofString "__init__") 854, val := Value.ref 447 }, { hash := PyData.keyHash P (Str.ofString "told"), key := Value.str (Str.ofString "told") 860, val := Value.ref 452 }, { hash := PyData.keyHash P (Str.ofString "section_end"), key := Value.str (Str.ofString "section_end") 869, val := Value.ref 459 }, { hash := PyData.keyHash P (Str.ofString "range_of"), key := Value.str (Str.ofString "range_of") 882, val := Value.ref 466 }, { hash := PyData.keyHash P (Str.ofString "__static_attributes__"), key := Value.str (Str.ofString "__static_attributes__") 885, val := Value.ref 467 }, { hash := PyData.keyHash P (Str.ofString "__dict__"), key := Value.str (Str.ofString "__dict__") 887, val := Value.ref 470 }, { hash := PyData.keyHash P (Str.ofString "__weakref__"), key := Value.str (Str.ofString "__weakref__") 889, val := Value.ref 471 }, { hash := PyData.keyHash P (Str.ofString "__doc__"), key := Value.str (Str.ofString "__doc__") 890, val := Value.none }] 4 }),
   (469, { cls := Value.type "type", data := Data.cls { name := Str.ofString "Procedures", bases := [Value.type "object"], mro := [Value.ref 469, Value.type "object"], ns := 468, qualname := Str.ofString "Procedures" }, slots := #[none, none, some (Value.str (Str.ofString "Procedures") 834), some (Value.str (Str.ofString "Procedures") 842), some (Value.builtin "object.__new__"), some (Value.bool true)] }),
   (470, { cls := Value.type "getset_descriptor", data := Data.fields #[Value.str (Str.ofString "__dict__") 886, Value.ref 469, Value.builtin "function.__dict__", Value.builtin "function.__dict__#set"] }),
   (471, { cls := Value.type "getset_descriptor", data := Data.fields #[Value.str (Str.ofString "__weakref__") 888, Value.ref 469, Value.builtin "ExceptionGroup.__weakref__", Value.none] }),
   (477, { cls := Value.type "code", data := Data.fields #[Value.str (Str.ofString "_law_pen") 895, Value.str (Str.ofString "_law_pen") 896, Value.str (Str.ofString "/claim/cut.py") 897, Value.int 441 0, Value.int 1 0, Value.int 0 0, Value.int 0 0, Value.int 3 0, Value.ref 474, Value.bool true, Value.int 181 0, Value.ref 475, Value.none, Value.none, Value.none, Value.ref 476, Value.int 898 0, Value.int 441 0, Value.str (Str.ofString "/claim/cut.py") 899] }),
   (478, fobj (topS 61) "_law_pen" (Value.none) "law_pb0272_01" 893 477),
   (484, { cls := Value.type "code", data := Data.fields #[Value.str (Str.ofString "_law_draw") 901, Value.str (Str.ofString "_law_draw") 902, Value.str (Str.ofString "/claim/cut.py") 903, Value.int 443 0, Value.int 2 0, Value.int 0 0, Value.int 0 0, Value.int 3 0, Value.ref 479, Value.bool true, Value.int 181 0, Value.ref 480, Value.none, Value.ref 481, Value.ref 482, Value.ref 483, Value.int 911 0, Value.int 443 0, Value.str (Str.ofString "/claim/cut.py") 912] }),
   (485, fobj (topS 62) "_law_draw" (Value.none) "law_pb0272_01" 893 484),
   (491, { cls := Value.type "code", data := Data.fields #[Value.str (Str.ofString "_law_ref") 914, Value.str (Str.ofString "_law_ref") 915, Value.str (Str.ofString "/claim/cut.py") 916, Value.int 460 0, Value.int 1 0, Value.int 0 0, Value.int 0 0, Value.int 3 0, Value.ref 486, Value.bool true, Value.int 181 0, Value.ref 487, Value.none, Value.ref 488, Value.ref 489, Value.ref 490, Value.int 918 0, Value.int 460 0, Value.str (Str.ofString "/claim/cut.py") 919] }),
   (492, fobj (topS 63) "_law_ref" (Value.none) "law_pb0272_01" 893 491),
   (498, { cls := Value.type "code", data := Data.fields #[Value.str (Str.ofString "_law_expr") 921, Value.str (Str.ofString "_law_expr") 922, Value.str (Str.ofString "/claim/cut.py") 923, Value.int 462 0, Value.int 2 0, Value.int 0 0, Value.int 0 0, Value.int 3 0, Value.ref 493, Value.bool true, Value.int 181 0, Value.ref 494, Value.none, Value.ref 495, Value.ref 496, Value.ref 497, Value.int 927 0, Value.int 462 0, Value.str (Str.ofString "/claim/cut.py") 928] }),
   (499, fobj (topS 64) "_law_expr" (Value.none) "law_pb0272_01" 893 498),
   (505, { cls := Value.type "code", data := Data.fields #[Value.str (Str.ofString "_law_cond") 930, Value.str (Str.ofString "_law_cond") 931, Value.str (Str.ofString "/claim/cut.py") 932, Value.int 469 0, Value.int 2 0, Value.int 0 0, Value.int 0 0, Value.int 3 0, Value.ref 500, Value.bool true, Value.int 181 0, Value.ref 501, Value.none, Value.ref 502, Value.ref 503, Value.ref 504, Value.int 936 0, Value.int 469 0, Value.str (Str.ofString "/claim/cut.py") 937] }),
   (506, fobj (topS 65) "_law_cond" (Value.none) "law_pb0272_01" 893 505),
   (512, { cls := Value.type "code", data := Data.fields #[Value.str (Str.ofString "_law_pair") 939, Value.str (Str.ofString "_law_pair") 940, Value.str (Str.ofString "/claim/cut.py") 941, Value.int 476 0, Value.int 2 0, Value.int 0 0, Value.int 0 0, Value.int 3 0, Value.ref 507, Value.bool true, Value.int 181 0, Value.ref 508, Value.none, Value.ref 509, Value.ref 510, Value.ref 511, Value.int 944 0, Value.int 476 0, Value.str (Str.ofString "/claim/cut.py") 945] }),
   (513, fobj (topS 66) "_law_pair" (Value.none) "law_pb0272_01" 893 512),
   (517, { cls := Value.type "code", data := Data.fields #[Value.str (Str.ofString "_law_loop") 947, Value.str (Str.ofString "_law_loop") 948, Value.str (Str.ofString "/claim/cut.py") 949, Value.int 478 0, Value.int 1 0, Value.int 0 0, Value.int 0 0, Value.int 3 0, Value.ref 514, Value.bool true, Value.int 181 0, Value.ref 515, Value.none, Value.none, Value.none, Value.ref 516, Value.int 950 0, Value.int 478 0, Value.str (Str.ofString "/claim/cut.py") 951] }),
   (518, fobj (topS 67) "_law_loop" (Value.none) "law_pb0272_01" 893 517),
   (522, { cls := Value.type "code", data := Data.fields #[Value.str (Str.ofString "_law_statement") 953, Value.str (Str.ofString "_law_statement") 954, Value.str (Str.ofString "/claim/cut.py") 955, Value.int 488 0, Value.int 3 0, Value.int 0 0, Value.int 0 0, Value.int 3 0, Value.ref 519, Value.bool true, Value.int 181 0, Value.ref 520, Value.none, Value.none, Value.none, Value.ref 521, Value.int 956 0, Value.int 488 0, Value.str (Str.ofString "/claim/cut.py") 957] }),
   (523, fobj (topS 68) "_law_statement" (Value.none) "law_pb0272_01" 893 522),
   (527, { cls := Value.type "code", data := Data.fields #[Value.str (Str.ofString "_law_statements") 959, Value.str (Str.ofString "_law_statements") 960, Value.str (Str.ofString "/claim/cut.py") 961, Value.int 513 0, Value.int 3 0, Value.int 0 0, Value.int 0 0, Value.int 3 0, Value.ref 524, Value.bool true, Value.int 181 0, Value.ref 525, Value.none, Value.none, Value.none, Value.ref 526, Value.int 962 0, Value.int 513 0, Value.str (Str.ofString "/claim/cut.py") 963] }),
   (528, fobj (topS 69) "_law_statements" (Value.none) "law_pb0272_01" 893 527),
   (532, { cls := Value.type "code", data := Data.fields #[Value.str (Str.ofString "_law_op_right") 965, Value.str (Str.ofString "_law_op_right") 966, Value.str (Str.ofString "/claim/cut.py") 967, Value.int 515 0, Value.int 2 0, Value.int 0 0, Value.int 0 0, Value.int 3 0, Value.ref 529, Value.bool true, Value.int 181 0, Value.ref 530, Value.none, Value.none, Value.none, Value.ref 531, Value.int 968 0, Value.int 515 0, Value.str (Str.ofString "/claim/cut.py") 969] }),
   (533, fobj (topS 70) "_law_op_right" (Value.none) "law_pb0272_01" 893 532),
   (537, { cls := Value.type "code", data := Data.fields #[Value.str (Str.ofString "law") 971, Value.str (Str.ofString "law") 972, Value.str (Str.ofString "/claim/cut.py") 973, Value.int 528 0, Value.int 1 0, Value.int 0 0, Value.int 0 0, Value.int 3 0, Value.ref 534, Value.bool true, Value.int 181 0, Value.ref 535, Value.none, Value.none, Value.none, Value.ref 536, Value.int 974 0, Value.int 528 0, Value.str (Str.ofString "/claim/cut.py") 975] }),
   (538, fobj (topS 71) "law" (Value.none) "law_pb0272_01" 893 537)]
end
section
open PySem PySem.W PySem.Calls PyProof.Rows PySem.Spec
set_option genInjectivity false in
structure FnAt (K : Params → Frag) (a : Addr) where
  fd : FuncData
  od : Option Addr
  osl : Array (Option Value)
  body : List Stmt
  at_ : ∀ P, (K P).lookup a = some ⟨.type "function", od, .func fd, osl⟩
  code : ∀ P, codeIn (K P) fd.code fd.qualname = true
  bod : fd.body = .stmts body
noncomputable def GL (x : Str) (X : V) : Prop := ∃ v, (∀ P, nsIn (KK P) mainGlobals x = some (some v)) ∧ ∀ C : Cx, C.K = KK C.w.params → Rep C.h₀ v X
noncomputable def BL (x : Str) (X : V) : Prop := ∃ v, (∀ P, nsIn (KK P) mainGlobals x = some none) ∧ bootBuiltins x = some v ∧ x ≠ "__name__" ∧ ∀ h, Rep h v X
noncomputable def KP (a : Addr) : Prop := ∀ P, keepIn (KK P) (.ref a) = true
noncomputable def OA (c : Addr) (x : Str) : Prop := ∀ P, OwnAttr (KK P) c x
noncomputable def MA (c : Addr) (x : Str) (f : Addr) : Prop := ∀ P, MethAttr (KK P) c x f
noncomputable def SA (c : Addr) (x : Str) : Prop := ∀ P, findIn (KK P) (.ref c) "__setattr__" = some (some (.builtin "object.__setattr__")) ∧ plainOver (KK P) c = true ∧ takerIn (KK P) c x = some none ∧ hasDictIn (KK P) c = true
noncomputable def MK (c : Addr) (f : Addr) : Prop := ∀ P, makesIn (KK P) c = true ∧ findIn (KK P) (.ref c) "__init__" = some (some (.ref f)) ∧ typeIn (KK P) (.ref f) = some (.type "function")
theorem gref {x : Str} {a : Addr} (h : ∀ P, nsIn (KK P) mainGlobals x = some (some (.ref a))) : GL x (.ref a) := ⟨_, h, fun _ _ => .ref a⟩
theorem gint {x : Str} {i : Int} {t : Tok} (h : ∀ P, nsIn (KK P) mainGlobals x = some (some (.int i t))) : GL x (.int i) := ⟨_, h, fun _ _ => .int i t⟩
theorem gtup {x : Str} {a : Addr} {vs : List Value} {Xs : List V} (h : ∀ P, nsIn (KK P) mainGlobals x = some (some (.ref a))) (ho : ∀ P, (KK P).lookup a = some { cls := .type "tuple", data := .seq vs.toArray }) (hr : ∀ h, RepL h vs Xs) : GL x (.tuple Xs) :=
  ⟨_, h, fun C e => .tuple ⟨_, C.kin a _ (by rw [e]; exact ho _), rfl, _, rfl⟩ (hr _)⟩

theorem g_always : GL "always" (.ref 21) := gref fun P => rfl
theorem k_always : KP 21 := fun P => rfl
noncomputable def f_negated_if : FnAt KK 28 := ⟨_, _, _, _, fun P => rfl, fun P => rfl, rfl⟩
theorem g_negated_if : GL "negated_if" (.ref 28) := gref fun P => rfl
theorem k_negated_if : KP 28 := fun P => rfl
theorem g_truth_of : GL "truth_of" (.ref 35) := gref fun P => rfl
theorem k_truth_of : KP 35 := fun P => rfl
theorem g_alike_truths : GL "alike_truths" (.ref 42) := gref fun P => rfl
theorem k_alike_truths : KP 42 := fun P => rfl
noncomputable def f_object_cond : FnAt KK 49 := ⟨_, _, _, _, fun P => rfl, fun P => rfl, rfl⟩
theorem g_object_cond : GL "object_cond" (.ref 49) := gref fun P => rfl
theorem k_object_cond : KP 49 := fun P => rfl
noncomputable def f_row_cond : FnAt KK 56 := ⟨_, _, _, _, fun P => rfl, fun P => rfl, rfl⟩
theorem g_row_cond : GL "row_cond" (.ref 56) := gref fun P => rfl
theorem k_row_cond : KP 56 := fun P => rfl
noncomputable def f_rows_cond : FnAt KK 63 := ⟨_, _, _, _, fun P => rfl, fun P => rfl, rfl⟩
theorem g_rows_cond : GL "rows_cond" (.ref 63) := gref fun P => rfl
theorem k_rows_cond : KP 63 := fun P => rfl
noncomputable def f_as_ifs : FnAt KK 70 := ⟨_, _, _, _, fun P => rfl, fun P => rfl, rfl⟩
theorem g_as_ifs : GL "as_ifs" (.ref 70) := gref fun P => rfl
theorem k_as_ifs : KP 70 := fun P => rfl
noncomputable def f_goal_parts : FnAt KK 77 := ⟨_, _, _, _, fun P => rfl, fun P => rfl, rfl⟩
theorem g_goal_parts : GL "goal_parts" (.ref 77) := gref fun P => rfl
theorem k_goal_parts : KP 77 := fun P => rfl
noncomputable def f_sort_parts : FnAt KK 84 := ⟨_, _, _, _, fun P => rfl, fun P => rfl, rfl⟩
theorem g_sort_parts : GL "sort_parts" (.ref 84) := gref fun P => rfl
theorem k_sort_parts : KP 84 := fun P => rfl
noncomputable def f_branches_of : FnAt KK 90 := ⟨_, _, _, _, fun P => rfl, fun P => rfl, rfl⟩
theorem g_branches_of : GL "branches_of" (.ref 90) := gref fun P => rfl
theorem k_branches_of : KP 90 := fun P => rfl
noncomputable def f_Code_init : FnAt KK 107 := ⟨_, _, _, _, fun P => rfl, fun P => rfl, rfl⟩
noncomputable def f_Code_told : FnAt KK 114 := ⟨_, _, _, _, fun P => rfl, fun P => rfl, rfl⟩
noncomputable def f_labels_of : FnAt KK 128 := ⟨_, _, _, _, fun P => rfl, fun P => rfl, rfl⟩
theorem g_labels_of : GL "labels_of" (.ref 128) := gref fun P => rfl
theorem k_labels_of : KP 128 := fun P => rfl
noncomputable def f_relabelled : FnAt KK 133 := ⟨_, _, _, _, fun P => rfl, fun P => rfl, rfl⟩
theorem g_relabelled : GL "relabelled" (.ref 133) := gref fun P => rfl
theorem k_relabelled : KP 133 := fun P => rfl
noncomputable def f_goes_on : FnAt KK 140 := ⟨_, _, _, _, fun P => rfl, fun P => rfl, rfl⟩
theorem g_goes_on : GL "goes_on" (.ref 140) := gref fun P => rfl
theorem k_goes_on : KP 140 := fun P => rfl
noncomputable def f_Draft_init : FnAt KK 152 := ⟨_, _, _, _, fun P => rfl, fun P => rfl, rfl⟩
noncomputable def f_Draft_fresh : FnAt KK 159 := ⟨_, _, _, _, fun P => rfl, fun P => rfl, rfl⟩
noncomputable def f_Draft_here : FnAt KK 166 := ⟨_, _, _, _, fun P => rfl, fun P => rfl, rfl⟩
noncomputable def f_Draft_put : FnAt KK 173 := ⟨_, _, _, _, fun P => rfl, fun P => rfl, rfl⟩
noncomputable def f_Draft_slot : FnAt KK 180 := ⟨_, _, _, _, fun P => rfl, fun P => rfl, rfl⟩
noncomputable def f_Draft_head_of : FnAt KK 187 := ⟨_, _, _, _, fun P => rfl, fun P => rfl, rfl⟩
noncomputable def f_Draft_finished : FnAt KK 192 := ⟨_, _, _, _, fun P => rfl, fun P => rfl, rfl⟩
noncomputable def f_put_expression : FnAt KK 206 := ⟨_, _, _, _, fun P => rfl, fun P => rfl, rfl⟩
theorem g_put_expression : GL "put_expression" (.ref 206) := gref fun P => rfl
theorem k_put_expression : KP 206 := fun P => rfl
noncomputable def f_put_condition : FnAt KK 213 := ⟨_, _, _, _, fun P => rfl, fun P => rfl, rfl⟩
theorem g_put_condition : GL "put_condition" (.ref 213) := gref fun P => rfl
theorem k_put_condition : KP 213 := fun P => rfl
noncomputable def f_put_statements : FnAt KK 220 := ⟨_, _, _, _, fun P => rfl, fun P => rfl, rfl⟩
theorem g_put_statements : GL "put_statements" (.ref 220) := gref fun P => rfl
theorem k_put_statements : KP 220 := fun P => rfl
noncomputable def f_put_statement : FnAt KK 225 := ⟨_, _, _, _, fun P => rfl, fun P => rfl, rfl⟩
theorem g_put_statement : GL "put_statement" (.ref 225) := gref fun P => rfl
theorem k_put_statement : KP 225 := fun P => rfl
noncomputable def f_put_if : FnAt KK 232 := ⟨_, _, _, _, fun P => rfl, fun P => rfl, rfl⟩
theorem g_put_if : GL "put_if" (.ref 232) := gref fun P => rfl
theorem k_put_if : KP 232 := fun P => rfl
noncomputable def f_put_arith : FnAt KK 239 := ⟨_, _, _, _, fun P => rfl, fun P => rfl, rfl⟩
theorem g_put_arith : GL "put_arith" (.ref 239) := gref fun P => rfl
theorem k_put_arith : KP 239 := fun P => rfl
noncomputable def f_put_deed : FnAt KK 244 := ⟨_, _, _, _, fun P => rfl, fun P => rfl, rfl⟩
theorem g_put_deed : GL "put_deed" (.ref 244) := gref fun P => rfl
theorem k_put_deed : KP 244 := fun P => rfl
noncomputable def f_put_sort : FnAt KK 251 := ⟨_, _, _, _, fun P => rfl, fun P => rfl, rfl⟩
theorem g_put_sort : GL "put_sort" (.ref 251) := gref fun P => rfl
theorem k_put_sort : KP 251 := fun P => rfl
noncomputable def f_put_range : FnAt KK 258 := ⟨_, _, _, _, fun P => rfl, fun P => rfl, rfl⟩
theorem g_put_range : GL "put_range" (.ref 258) := gref fun P => rfl
theorem k_put_range : KP 258 := fun P => rfl
noncomputable def f_put_goal : FnAt KK 265 := ⟨_, _, _, _, fun P => rfl, fun P => rfl, rfl⟩
theorem g_put_goal : GL "put_goal" (.ref 265) := gref fun P => rfl
theorem k_put_goal : KP 265 := fun P => rfl
noncomputable def f_put_perform : FnAt KK 272 := ⟨_, _, _, _, fun P => rfl, fun P => rfl, rfl⟩
theorem g_put_perform : GL "put_perform" (.ref 272) := gref fun P => rfl
theorem k_put_perform : KP 272 := fun P => rfl
noncomputable def f_put_times : FnAt KK 279 := ⟨_, _, _, _, fun P => rfl, fun P => rfl, rfl⟩
theorem g_put_times : GL "put_times" (.ref 279) := gref fun P => rfl
theorem k_put_times : KP 279 := fun P => rfl
noncomputable def f_put_until : FnAt KK 286 := ⟨_, _, _, _, fun P => rfl, fun P => rfl, rfl⟩
theorem g_put_until : GL "put_until" (.ref 286) := gref fun P => rfl
theorem k_put_until : KP 286 := fun P => rfl
noncomputable def f_put_step : FnAt KK 293 := ⟨_, _, _, _, fun P => rfl, fun P => rfl, rfl⟩
theorem g_put_step : GL "put_step" (.ref 293) := gref fun P => rfl
theorem k_put_step : KP 293 := fun P => rfl
noncomputable def f_put_varying : FnAt KK 298 := ⟨_, _, _, _, fun P => rfl, fun P => rfl, rfl⟩
theorem g_put_varying : GL "put_varying" (.ref 298) := gref fun P => rfl
theorem k_put_varying : KP 298 := fun P => rfl
noncomputable def f_put_varying_after : FnAt KK 305 := ⟨_, _, _, _, fun P => rfl, fun P => rfl, rfl⟩
theorem g_put_varying_after : GL "put_varying_after" (.ref 305) := gref fun P => rfl
theorem k_put_varying_after : KP 305 := fun P => rfl
noncomputable def f_compiled : FnAt KK 312 := ⟨_, _, _, _, fun P => rfl, fun P => rfl, rfl⟩
theorem g_compiled : GL "compiled" (.ref 312) := gref fun P => rfl
theorem k_compiled : KP 312 := fun P => rfl
noncomputable def f_decimal : FnAt KK 320 := ⟨_, _, _, _, fun P => rfl, fun P => rfl, rfl⟩
theorem g_decimal : GL "decimal" (.ref 320) := gref fun P => rfl
theorem k_decimal : KP 320 := fun P => rfl
noncomputable def f_labels_in : FnAt KK 328 := ⟨_, _, _, _, fun P => rfl, fun P => rfl, rfl⟩
theorem g_labels_in : GL "labels_in" (.ref 328) := gref fun P => rfl
theorem k_labels_in : KP 328 := fun P => rfl
noncomputable def f_form_fault : FnAt KK 333 := ⟨_, _, _, _, fun P => rfl, fun P => rfl, rfl⟩
theorem g_form_fault : GL "form_fault" (.ref 333) := gref fun P => rfl
theorem k_form_fault : KP 333 := fun P => rfl
noncomputable def f_taken_by : FnAt KK 340 := ⟨_, _, _, _, fun P => rfl, fun P => rfl, rfl⟩
theorem g_taken_by : GL "taken_by" (.ref 340) := gref fun P => rfl
theorem k_taken_by : KP 340 := fun P => rfl
noncomputable def f_height_behind : FnAt KK 347 := ⟨_, _, _, _, fun P => rfl, fun P => rfl, rfl⟩
theorem g_height_behind : GL "height_behind" (.ref 347) := gref fun P => rfl
theorem k_height_behind : KP 347 := fun P => rfl
noncomputable def f_ways_behind : FnAt KK 352 := ⟨_, _, _, _, fun P => rfl, fun P => rfl, rfl⟩
theorem g_ways_behind : GL "ways_behind" (.ref 352) := gref fun P => rfl
theorem k_ways_behind : KP 352 := fun P => rfl
noncomputable def f_height_faults : FnAt KK 357 := ⟨_, _, _, _, fun P => rfl, fun P => rfl, rfl⟩
theorem g_height_faults : GL "height_faults" (.ref 357) := gref fun P => rfl
theorem k_height_faults : KP 357 := fun P => rfl
noncomputable def f_well_formed : FnAt KK 364 := ⟨_, _, _, _, fun P => rfl, fun P => rfl, rfl⟩
theorem g_well_formed : GL "well_formed" (.ref 364) := gref fun P => rfl
theorem k_well_formed : KP 364 := fun P => rfl
noncomputable def f_Paragraph_init : FnAt KK 419 := ⟨_, _, _, _, fun P => rfl, fun P => rfl, rfl⟩
noncomputable def f_Procedures_init : FnAt KK 447 := ⟨_, _, _, _, fun P => rfl, fun P => rfl, rfl⟩
noncomputable def f_Procedures_range_of : FnAt KK 466 := ⟨_, _, _, _, fun P => rfl, fun P => rfl, rfl⟩
noncomputable def f_law_pen : FnAt KK 478 := ⟨_, _, _, _, fun P => rfl, fun P => rfl, rfl⟩
theorem g_law_pen : GL "_law_pen" (.ref 478) := gref fun P => rfl
theorem k_law_pen : KP 478 := fun P => rfl
noncomputable def f_law_draw : FnAt KK 485 := ⟨_, _, _, _, fun P => rfl, fun P => rfl, rfl⟩
theorem g_law_draw : GL "_law_draw" (.ref 485) := gref fun P => rfl
theorem k_law_draw : KP 485 := fun P => rfl
noncomputable def f_law_ref : FnAt KK 492 := ⟨_, _, _, _, fun P => rfl, fun P => rfl, rfl⟩
theorem g_law_ref : GL "_law_ref" (.ref 492) := gref fun P => rfl
theorem k_law_ref : KP 492 := fun P => rfl
noncomputable def f_law_expr : FnAt KK 499 := ⟨_, _, _, _, fun P => rfl, fun P => rfl, rfl⟩
theorem g_law_expr : GL "_law_expr" (.ref 499) := gref fun P => rfl
theorem k_law_expr : KP 499 := fun P => rfl
noncomputable def f_law_cond : FnAt KK 506 := ⟨_, _, _, _, fun P => rfl, fun P => rfl, rfl⟩
theorem g_law_cond : GL "_law_cond" (.ref 506) := gref fun P => rfl
theorem k_law_cond : KP 506 := fun P => rfl
noncomputable def f_law_pair : FnAt KK 513 := ⟨_, _, _, _, fun P => rfl, fun P => rfl, rfl⟩
theorem g_law_pair : GL "_law_pair" (.ref 513) := gref fun P => rfl
theorem k_law_pair : KP 513 := fun P => rfl
noncomputable def f_law_loop : FnAt KK 518 := ⟨_, _, _, _, fun P => rfl, fun P => rfl, rfl⟩
theorem g_law_loop : GL "_law_loop" (.ref 518) := gref fun P => rfl
theorem k_law_loop : KP 518 := fun P => rfl
noncomputable def f_law_statement : FnAt KK 523 := ⟨_, _, _, _, fun P => rfl, fun P => rfl, rfl⟩
theorem g_law_statement : GL "_law_statement" (.ref 523) := gref fun P => rfl
theorem k_law_statement : KP 523 := fun P => rfl
noncomputable def f_law_statements : FnAt KK 528 := ⟨_, _, _, _, fun P => rfl, fun P => rfl, rfl⟩
theorem g_law_statements : GL "_law_statements" (.ref 528) := gref fun P => rfl
theorem k_law_statements : KP 528 := fun P => rfl
noncomputable def f_law_op_right : FnAt KK 533 := ⟨_, _, _, _, fun P => rfl, fun P => rfl, rfl⟩
theorem g_law_op_right : GL "_law_op_right" (.ref 533) := gref fun P => rfl
theorem k_law_op_right : KP 533 := fun P => rfl
noncomputable def f_law : FnAt KK 538 := ⟨_, _, _, _, fun P => rfl, fun P => rfl, rfl⟩
theorem g_Code : GL "Code" (.ref 117) := gref fun P => rfl
theorem k_Code : KP 117 := fun P => rfl
theorem m_Code : MK 117 107 := fun P => ⟨rfl, rfl, rfl⟩
theorem g_Draft : GL "Draft" (.ref 195) := gref fun P => rfl
theorem k_Draft : KP 195 := fun P => rfl
theorem m_Draft : MK 195 152 := fun P => ⟨rfl, rfl, rfl⟩
theorem g_Paragraph : GL "Paragraph" (.ref 429) := gref fun P => rfl
theorem k_Paragraph : KP 429 := fun P => rfl
theorem m_Paragraph : MK 429 419 := fun P => ⟨rfl, rfl, rfl⟩
theorem g_Procedures : GL "Procedures" (.ref 469) := gref fun P => rfl
theorem k_Procedures : KP 469 := fun P => rfl
theorem m_Procedures : MK 469 447 := fun P => ⟨rfl, rfl, rfl⟩
theorem o_Code_ops : OA 117 "ops" := fun P => ⟨rfl, rfl, rfl⟩
theorem s_Code_ops : SA 117 "ops" := fun P => ⟨rfl, rfl, rfl, rfl⟩
theorem o_Code_begins : OA 117 "begins" := fun P => ⟨rfl, rfl, rfl⟩
theorem s_Code_begins : SA 117 "begins" := fun P => ⟨rfl, rfl, rfl, rfl⟩
theorem o_Draft_procedures : OA 195 "procedures" := fun P => ⟨rfl, rfl, rfl⟩
theorem s_Draft_procedures : SA 195 "procedures" := fun P => ⟨rfl, rfl, rfl, rfl⟩
theorem o_Draft_ops : OA 195 "ops" := fun P => ⟨rfl, rfl, rfl⟩
theorem s_Draft_ops : SA 195 "ops" := fun P => ⟨rfl, rfl, rfl, rfl⟩
theorem o_Draft_places : OA 195 "places" := fun P => ⟨rfl, rfl, rfl⟩
theorem s_Draft_places : SA 195 "places" := fun P => ⟨rfl, rfl, rfl, rfl⟩
theorem o_Draft_slots : OA 195 "slots" := fun P => ⟨rfl, rfl, rfl⟩
theorem s_Draft_slots : SA 195 "slots" := fun P => ⟨rfl, rfl, rfl, rfl⟩
theorem o_Draft_heads : OA 195 "heads" := fun P => ⟨rfl, rfl, rfl⟩
theorem s_Draft_heads : SA 195 "heads" := fun P => ⟨rfl, rfl, rfl, rfl⟩
theorem o_Paragraph_name : OA 429 "name" := fun P => ⟨rfl, rfl, rfl⟩
theorem s_Paragraph_name : SA 429 "name" := fun P => ⟨rfl, rfl, rfl, rfl⟩
theorem o_Paragraph_section : OA 429 "section" := fun P => ⟨rfl, rfl, rfl⟩
theorem s_Paragraph_section : SA 429 "section" := fun P => ⟨rfl, rfl, rfl, rfl⟩
theorem o_Paragraph_statements : OA 429 "statements" := fun P => ⟨rfl, rfl, rfl⟩
theorem s_Paragraph_statements : SA 429 "statements" := fun P => ⟨rfl, rfl, rfl, rfl⟩
theorem o_Procedures_rows : OA 469 "rows" := fun P => ⟨rfl, rfl, rfl⟩
theorem s_Procedures_rows : SA 469 "rows" := fun P => ⟨rfl, rfl, rfl, rfl⟩
theorem s_Procedures_using : SA 469 "using" := fun P => ⟨rfl, rfl, rfl, rfl⟩
theorem a_Code_told : MA 117 "told" 114 := fun P => ⟨rfl, rfl, rfl, rfl⟩
theorem a_Draft_fresh : MA 195 "fresh" 159 := fun P => ⟨rfl, rfl, rfl, rfl⟩
theorem a_Draft_here : MA 195 "here" 166 := fun P => ⟨rfl, rfl, rfl, rfl⟩
theorem a_Draft_put : MA 195 "put" 173 := fun P => ⟨rfl, rfl, rfl, rfl⟩
theorem a_Draft_slot : MA 195 "slot" 180 := fun P => ⟨rfl, rfl, rfl, rfl⟩
theorem a_Draft_head_of : MA 195 "head_of" 187 := fun P => ⟨rfl, rfl, rfl, rfl⟩
theorem a_Draft_finished : MA 195 "finished" 192 := fun P => ⟨rfl, rfl, rfl, rfl⟩
theorem a_Procedures_range_of : MA 469 "range_of" 466 := fun P => ⟨rfl, rfl, rfl, rfl⟩
theorem g_LET : GL "LET" (.int (-1)) := gint fun P => rfl
theorem g_NO_LABEL : GL "NO_LABEL" (.int (-1)) := gint fun P => rfl
theorem g_ARGUMENTS : GL "ARGUMENTS" (.ref 321) := gref fun P => rfl
theorem g_BRANCHED : GL "BRANCHED" (.tuple ((["arith", "divide", "corr", "search", "search-all", "string", "unstring", "read", "write", "rewrite", "delete", "start", "return", "call"] : List Str).map V.str)) := gtup (a := 85) (fun P => rfl) (fun P => rfl) (fun h => .cons (.str _ _) (.cons (.str _ _) (.cons (.str _ _) (.cons (.str _ _) (.cons (.str _ _) (.cons (.str _ _) (.cons (.str _ _) (.cons (.str _ _) (.cons (.str _ _) (.cons (.str _ _) (.cons (.str _ _) (.cons (.str _ _) (.cons (.str _ _) (.cons (.str _ _) (.nil)))))))))))))))
theorem g_JOINERS : GL "JOINERS" (.tuple ((["not", "and", "or"] : List Str).map V.str)) := gtup (a := 91) (fun P => rfl) (fun P => rfl) (fun h => .cons (.str _ _) (.cons (.str _ _) (.cons (.str _ _) (.nil))))
theorem g_OPERANDS : GL "OPERANDS" (.tuple ((["ref", "number", "text", "figure", "all"] : List Str).map V.str)) := gtup (a := 92) (fun P => rfl) (fun P => rfl) (fun h => .cons (.str _ _) (.cons (.str _ _) (.cons (.str _ _) (.cons (.str _ _) (.cons (.str _ _) (.nil))))))
theorem g_QUIET : GL "QUIET" (.tuple ((["exit", "continue"] : List Str).map V.str)) := gtup (a := 93) (fun P => rfl) (fun P => rfl) (fun h => .cons (.str _ _) (.cons (.str _ _) (.nil)))
theorem b_len : BL "len" (.bltn "len") := ⟨_, fun P => rfl, rfl, by decide, fun h => .bltn _⟩
theorem b_range : BL "range" (.typ "range") := ⟨_, fun P => rfl, rfl, by decide, fun h => .typ _⟩
theorem b_tuple : BL "tuple" (.typ "tuple") := ⟨_, fun P => rfl, rfl, by decide, fun h => .typ _⟩
theorem b_list : BL "list" (.typ "list") := ⟨_, fun P => rfl, rfl, by decide, fun h => .typ _⟩
theorem b_zip : BL "zip" (.typ "zip") := ⟨_, fun P => rfl, rfl, by decide, fun h => .typ _⟩
theorem b_set : BL "set" (.typ "set") := ⟨_, fun P => rfl, rfl, by decide, fun h => .typ _⟩
theorem b_sorted : BL "sorted" (.bltn "sorted") := ⟨_, fun P => rfl, rfl, by decide, fun h => .bltn _⟩
theorem b_int : BL "int" (.typ "int") := ⟨_, fun P => rfl, rfl, by decide, fun h => .typ _⟩
theorem b_abs : BL "abs" (.bltn "abs") := ⟨_, fun P => rfl, rfl, by decide, fun h => .bltn _⟩
theorem b_str : BL "str" (.typ "str") := ⟨_, fun P => rfl, rfl, by decide, fun h => .typ _⟩
theorem b_max : BL "max" (.bltn "max") := ⟨_, fun P => rfl, rfl, by decide, fun h => .bltn _⟩
end
section
open PySem PySem.W PySem.Calls PyProof.Rows PySem.Spec
theorem if_t {c : Bool} {P Q : Prop} (h : c = true) (p : P) : if c = true then P else Q := by rw [if_pos h]; exact p
theorem if_f {c : Bool} {P Q : Prop} (h : c = false) (q : Q) : if c = true then P else Q := by rw [if_neg (by rw [h]; decide)]; exact q
section
variable {C : Cx} {n : Nat} {env : Env} {ρ : Loc} {σ : Store}
theorem TE_gl {x : Str} {X : V} {pos : Pos} {Φ : V → Store → Prop} (hK : C.K = KK C.w.params) (g : GL x X) (hk : env.scope.kind = .function) (hl : env.kindOf x = some .globalImplicit) (hg : env.globals = mainGlobals) (h : Φ X σ)
    (hd : (x == ("__debug__" : Str)) = false := by decide) : TE C n env ρ σ (.Name x pos) Φ := by
  obtain ⟨v, a, b⟩ := g
  exact TE_glob hk hl hg (by rw [hK]; exact a _) (b C hK) h hd
theorem TE_bl {x : Str} {X : V} {pos : Pos} {Φ : V → Store → Prop} (hK : C.K = KK C.w.params) (g : BL x X) (hk : env.scope.kind = .function) (hl : env.kindOf x = some .globalImplicit) (hg : env.globals = mainGlobals) (hb : env.builtins = builtinsNs) (h : Φ X σ)
    (hd : (x == ("__debug__" : Str)) = false := by decide) : TE C n env ρ σ (.Name x pos) Φ := by
  obtain ⟨v, a, b, c, d⟩ := g
  exact TE_bltn hk hl hg hb (by rw [hK]; exact a _) b (d _) h c hd
theorem KP.at {a : Addr} (hK : C.K = KK C.w.params) (k : KP a) : keepIn C.K (.ref a) = true := by rw [hK]; exact k _
theorem OA.at {c : Addr} {x : Str} (hK : C.K = KK C.w.params) (k : OA c x) : OwnAttr C.K c x := by rw [hK]; exact k _
theorem MA.at {c f : Addr} {x : Str} (hK : C.K = KK C.w.params) (k : MA c x f) : MethAttr C.K c x f := by rw [hK]; exact k _
theorem TC_fn {a : Addr} (f : FnAt KK a) (names : List Str) {Xs : List V} {Φ : V → Store → Prop} (hK : C.K = KK C.w.params) (hlen : names.length = Xs.length)
    (hbind : ∀ vs : List Value, vs.length = names.length → bindArgs f.fd ⟨vs, []⟩ = pure (names.zip vs))
    (hcell : ∀ x ∈ f.fd.scope.names, x.2 ≠ .cell) (hloc : ∀ x ∈ names, f.fd.scope.names.lookup x = some .local) {body : List Stmt} (hb : f.body = body)
    (h : ∀ L, σ L = none → TSS C n (callEnv f.fd L a) (Loc.binds names Xs Loc.none) σ body (RetOf Φ))
    (hco : f.fd.scope.isCoroutine = false := by rfl) (hgen : f.fd.scope.isGenerator = false := by rfl) (hk : f.fd.scope.kind = .function := by rfl) (hgl : f.fd.globals = mainGlobals := by rfl) (hbl : f.fd.builtins = builtinsNs := by rfl) : TCc C (n + 1) σ a Xs Φ := by
  refine TC_def (names := names) (ds := []) (Ds := []) (fd := f.fd) (by rw [hK]; exact f.at_ _) (by rw [hK]; exact f.code _) f.bod .nil (by simpa using hlen) ?_ hcell hloc ?_ hco hgen hk hgl hbl
  · intro s hs vs hv
    exact BindsTo.of_eq (by simpa using hbind vs (by rw [hv, hlen]))
  · intro L hL
    rw [hb]
    simpa using h L hL
theorem TC_fnC {a : Addr} (f : FnAt KK a) (names : List Str) {Xs : List V} {Φ : V → Store → Prop} (hK : C.K = KK C.w.params) (hlen : names.length = Xs.length)
    (hbind : ∀ vs : List Value, vs.length = names.length → bindArgs f.fd ⟨vs, []⟩ = pure (names.zip vs))
    (hclo : f.fd.closure = []) (hkind : ∀ k, ∀ x ∈ names, f.fd.scope.names.lookup x = some .local ∨ (f.fd.scope.names.lookup x = some .cell ∧ ((cellsFrom k f.fd.scope.names []).lookup x).isSome = true))
    (hnd : ∀ k, ((cellsFrom k f.fd.scope.names []).map (·.1)).Nodup) {body : List Stmt} (hb : f.body = body)
    (h : ∀ L, σ L = none → (∀ c, L < c → σ c = none) → TSS C n (callEnvC f.fd L a) (Loc.bindsK (callEnvC f.fd L a).kindOf names Xs Loc.none) (cellStore σ (cellsFrom (L + 1) f.fd.scope.names []) (Loc.bindsC (callEnvC f.fd L a).kindOf names Xs Loc.none)) body (RetOf Φ))
    (hco : f.fd.scope.isCoroutine = false := by rfl) (hgen : f.fd.scope.isGenerator = false := by rfl) (hk : f.fd.scope.kind = .function := by rfl) (hgl : f.fd.globals = mainGlobals := by rfl) (hbl : f.fd.builtins = builtinsNs := by rfl) : TCc C (n + 1) σ a Xs Φ :=
  TC_defC (names := names) (fd := f.fd) (by rw [hK]; exact f.at_ _) (by rw [hK]; exact f.code _) f.bod hlen (fun vs hv => hbind vs (by rw [hv, hlen])) hclo hkind hnd (by rw [hb]; exact h) hco hgen hk hgl hbl
theorem TCc.less {m : Nat} {f : Addr} {Xs : List V} {Φ : V → Store → Prop} (h : TCc C m σ f Xs Φ) (hm : m ≤ n) : TCc C n σ f Xs Φ :=
  fun A s vs Q E R H r q => h A s vs Q E (R.less hm) H r q
theorem TC_use {m : Nat} {f : Addr} {Xs : List V} {Φ Ψ : V → Store → Prop} (h : TCc C m σ f Xs Ψ) (hm : m ≤ n) (k : ∀ R σ', Ψ R σ' → Φ R σ') : TC C n σ (.ref f) Xs Φ := ((h.less hm).mono k).tc
theorem Drop.eq {Φ : V → Store → Prop} {X : V} (h : Φ X σ) : Drop Φ X σ := Drop.all h
end
end
section
open PySem PySem.W PySem.Calls PyProof.Rows PySem.Spec
inductive Op where
  | push (x : V) (l : Int)
  | calc (o : Str) (l : Int)
  | put (x : V) (l : Int)
  | key (s : Str) (l : Int)
  | test (x : V) (l : Int)
  | less (s : Int) (l : Int)
  | jump (l : Int)
  | choose (ls : List Int)
  | dod (x : V)
  | count (s : Int)
  | perform (a b : Int)
  | leave (a : Int)
  | stop (w : Str)
noncomputable def Op.v : Op → V
  | .push x l => .tuple [.str "push", x, .int l]
  | .calc o l => .tuple [.str "calc", .str o, .int l]
  | .put x l => .tuple [.str "put", x, .int l]
  | .key s l => .tuple [.str "key", .str s, .int l]
  | .test x l => .tuple [.str "test", x, .int l]
  | .less s l => .tuple [.str "less", .int s, .int l]
  | .jump l => .tuple [.str "jump", .int l]
  | .choose ls => .tuple [.str "choose", .tuple (ls.map V.int)]
  | .dod x => .tuple [.str "do", x]
  | .count s => .tuple [.str "count", .int s]
  | .perform a b => .tuple [.str "perform", .int a, .int b]
  | .leave a => .tuple [.str "leave", .int a]
  | .stop w => .tuple [.str "stop", .str w]
noncomputable def lab (l : Int) : List Int := if l = -1 then [] else [l]
noncomputable def Op.labels : Op → List Int
  | .push _ l => lab l
  | .calc _ l => lab l
  | .put _ l => lab l
  | .key _ l => lab l
  | .test _ l => lab l
  | .less _ l => lab l
  | .jump l => [l]
  | .choose ls => ls
  | _ => []
noncomputable def turnl (f : Int → Int) (l : Int) : Int := if l = -1 then -1 else f l
noncomputable def Op.turn (f : Int → Int) : Op → Op
  | .push x l => .push x (turnl f l)
  | .calc o l => .calc o (turnl f l)
  | .put x l => .put x (turnl f l)
  | .key s l => .key s (turnl f l)
  | .test x l => .test x (turnl f l)
  | .less s l => .less s (turnl f l)
  | .jump l => .jump (f l)
  | .choose ls => .choose (ls.map f)
  | o => o
noncomputable def Op.goesOn : Op → Bool
  | .jump _ => false
  | .stop _ => false
  | _ => true

section
variable {C : Cx} {n : Nat} {env : Env} {ρ : Loc} {σ : Store}
noncomputable def notAttr (e : Expr) : Bool := !Nat.beq e.ctorIdx 20
theorem notAttr_of {f : Expr} (h : notAttr f = true) : ∀ o n p, f ≠ .Attribute o n p := fun o n p e => by subst e; cases h
theorem ty_append : typeOf (.builtin "list.append") = pure (.type "method_descriptor") := rfl
theorem ty_extend : typeOf (.builtin "list.extend") = pure (.type "method_descriptor") := rfl
theorem ty_pop : typeOf (.builtin "list.pop") = pure (.type "method_descriptor") := rfl
theorem ty_get : typeOf (.builtin "dict.get") = pure (.type "method_descriptor") := rfl
noncomputable def strsOf : List V → List Str
  | [] => []
  | .str x :: r => x :: strsOf r
  | _ :: r => strsOf r
theorem O_inT2 {x : Str} {Ys : List V} {Φ : V → Store → Prop} (h : Φ (.bool ((strsOf Ys).any (· == x))) σ) (hy : Ys = (strsOf Ys).map V.str := by rfl) : TO2 C n σ (compareOp .In) (.str x) (.tuple Ys) Φ := by
  rw [hy]; exact O_inT h
theorem two_local {n1 n2 : Str} (h1 : env.kindOf n1 = some .local) (h2 : env.kindOf n2 = some .local) : ∀ x ∈ [n1, n2], env.kindOf x = some .local := by
  intro x hx
  rcases List.mem_cons.mp hx with rfl | hx
  · exact h1
  · rw [List.mem_singleton.mp hx]; exact h2
theorem TS_swap2 {elts : List Expr} {k : Nat} {tpos pos : Pos} {e : Expr} {n1 n2 : Str} {Φ : Fl → Loc → Store → Prop}
    (h : TE C n env ρ σ e fun X σ₁ => ∃ Y Z, X = .tuple [Y, Z] ∧ Φ .next ((ρ.set n2 Z).set n1 Y) σ₁)
    (hw : swappedStores [.Tuple elts k tpos] e env = pure (some [n1, n2])) (hk : env.scope.kind = .function) (hl : ∀ x ∈ [n1, n2], env.kindOf x = some .local)
    (hs : swapsWithSole [.Tuple elts k tpos] e pos.line env = pure false) : TS C n env ρ σ (.Assign [.Tuple elts k tpos] e pos) Φ := by
  refine TS_swap (names := [n1, n2]) ?_ hk hl hs hw
  intro A s Q E R H F q
  refine h A s Q E R H F fun r R' σ' h' tk' r' H' F' G' p => q r R' σ' h' tk' r' H' F' G' ?_
  obtain ⟨Y, Z, rfl, p⟩ := p
  exact ⟨_, rfl, rfl, p⟩
theorem O_notInT2 {x : Str} {Ys : List V} {Φ : V → Store → Prop} (hx : PyData.strOk x = true) (hs : (strsOf Ys).all PyData.strOk = true) (h : Φ (.bool (!(strsOf Ys).any (· == x))) σ) (hy : Ys = (strsOf Ys).map V.str := by rfl) : TO2 C n σ (compareOp .NotIn) (.str x) (.tuple Ys) Φ := by
  rw [hy]; exact O_notInT hx hs h
end
end
section
open PySem PySem.W PySem.Calls PyProof.Rows PySem.Spec
structure D where
  ops : List Op
  places : List Int
  slots : Nat
structure DA where
  x : Addr
  dx : Addr
  o : Addr
  p : Addr
  h : Addr
  pr : Addr
noncomputable def heads (cnt : Nat) : List V := (List.range cnt).map fun (i : Nat) => V.int i
noncomputable def DA.ns (a : DA) (d : D) : List (Str × V) := [("procedures", .ref a.pr), ("ops", .ref a.o), ("places", .ref a.p), ("slots", .int d.slots), ("heads", .ref a.h)]
noncomputable def DA.has (a : DA) (b : Addr) : Prop := b = a.x ∨ b = a.dx ∨ b = a.o ∨ b = a.p ∨ b = a.h
noncomputable def dst (σ : Store) (a : DA) (cnt : Nat) (d : D) : Store := fun b =>
  if b = a.x then some (.inst 195 a.dx) else if b = a.dx then some (.ns (a.ns d)) else if b = a.o then some (.list (d.ops.map Op.v)) else if b = a.p then some (.list (d.places.map V.int)) else if b = a.h then some (.list (heads cnt)) else σ b
structure DA.Apart (a : DA) (σ : Store) : Prop where
  x_dx : a.x ≠ a.dx
  x_o : a.x ≠ a.o
  x_p : a.x ≠ a.p
  x_h : a.x ≠ a.h
  dx_o : a.dx ≠ a.o
  dx_p : a.dx ≠ a.p
  dx_h : a.dx ≠ a.h
  o_p : a.o ≠ a.p
  o_h : a.o ≠ a.h
  p_h : a.p ≠ a.h
  off : ∀ b, a.has b → σ b = none

section
variable {σ : Store} {a : DA} {cnt : Nat} {d d' : D}
theorem DA.Apart.ne (A : a.Apart σ) {b : Addr} {x : AObj} (h : σ b = some x) : ¬ a.has b := fun q => by rw [A.off b q] at h; cases h
theorem dst_off {b : Addr} (h : ¬ a.has b) : dst σ a cnt d b = σ b := by
  simp only [DA.has, not_or] at h
  simp only [dst, if_neg h.1, if_neg h.2.1, if_neg h.2.2.1, if_neg h.2.2.2.1, if_neg h.2.2.2.2]
theorem dst_at (A : a.Apart σ) {b : Addr} {x : AObj} (h : σ b = some x) : dst σ a cnt d b = some x := (dst_off (A.ne h)).trans h
theorem dst_x : dst σ a cnt d a.x = some (.inst 195 a.dx) := by simp [dst]
theorem dst_dx (A : a.Apart σ) : dst σ a cnt d a.dx = some (.ns (a.ns d)) := by simp [dst, A.x_dx.symm]
theorem dst_o (A : a.Apart σ) : dst σ a cnt d a.o = some (.list (d.ops.map Op.v)) := by simp [dst, A.x_o.symm, A.dx_o.symm]
theorem dst_p (A : a.Apart σ) : dst σ a cnt d a.p = some (.list (d.places.map V.int)) := by simp [dst, A.x_p.symm, A.dx_p.symm, A.o_p.symm]
theorem dst_h (A : a.Apart σ) : dst σ a cnt d a.h = some (.list (heads cnt)) := by simp [dst, A.x_h.symm, A.dx_h.symm, A.o_h.symm, A.p_h.symm]
theorem dst_none {b : Addr} (h : dst σ a cnt d b = none) : ¬ a.has b ∧ σ b = none := by
  have : ¬ a.has b := by
    intro q
    simp only [dst] at h
    repeat' split at h
    all_goals first | cases h | (rcases q with q | q | q | q | q <;> contradiction)
  exact ⟨this, (dst_off this).symm.trans h⟩
theorem dst_ops (A : a.Apart σ) : (dst σ a cnt d).set a.o (.list (d'.ops.map Op.v)) = dst σ a cnt { d with ops := d'.ops } := by
  funext b
  simp only [Store.set, dst]
  by_cases q : b = a.o
  · subst q; simp [A.x_o.symm, A.dx_o.symm]
  · simp [q, DA.ns]
theorem dst_places (A : a.Apart σ) {ps : List Int} : (dst σ a cnt d).set a.p (.list (ps.map V.int)) = dst σ a cnt { d with places := ps } := by
  funext b
  simp only [Store.set, dst]
  by_cases q : b = a.p
  · subst q; simp [A.x_p.symm, A.dx_p.symm, A.o_p.symm]
  · simp [q, DA.ns]
theorem dst_ns (A : a.Apart σ) {k : Nat} : (dst σ a cnt d).set a.dx (.ns (a.ns { d with slots := k })) = dst σ a cnt { d with slots := k } := by
  funext b
  simp only [Store.set, dst]
  by_cases q : b = a.dx
  · subst q; simp [A.x_dx.symm]
  · simp [q]
theorem dst_set {c : Addr} {y : AObj} (h : ¬ a.has c) : (dst σ a cnt d).set c y = dst (σ.set c y) a cnt d := by
  simp only [DA.has, not_or] at h
  obtain ⟨h1, h2, h3, h4, h5⟩ := h
  funext b
  simp only [Store.set, dst]
  by_cases q : b = c
  · subst q; simp [h1, h2, h3, h4, h5]
  · simp [q]
theorem DA.Apart.set (A : a.Apart σ) {c : Addr} {y : AObj} (h : ¬ a.has c) : a.Apart (σ.set c y) :=
  ⟨A.x_dx, A.x_o, A.x_p, A.x_h, A.dx_o, A.dx_p, A.dx_h, A.o_p, A.o_h, A.p_h, fun b hb => by
    have : b ≠ c := fun q => h (q ▸ hb)
    simp only [Store.set, if_neg this]; exact A.off b hb⟩
theorem dst_sub {σ₀ : Store} (A : a.Apart σ) (h : ∀ b x, σ₀ b = some x → σ b = some x) : ∀ b x, dst σ₀ a cnt d b = some x → dst σ a cnt d b = some x := by
  intro b x e
  by_cases q : a.has b
  · have : dst σ₀ a cnt d b = dst σ a cnt d b := by
      rcases q with q | q | q | q | q <;> subst q <;> simp [dst, A.x_dx.symm, A.x_o.symm, A.dx_o.symm, A.x_p.symm, A.dx_p.symm, A.o_p.symm, A.x_h.symm, A.dx_h.symm, A.o_h.symm, A.p_h.symm]
    rw [← this]; exact e
  · rw [dst_off q] at e ⊢; exact h b x e
theorem set_sub {c : Addr} {y : AObj} (h : σ c = none) : ∀ b x, σ b = some x → (σ.set c y) b = some x := fun b x e => by
  have : b ≠ c := fun q => by rw [q, h] at e; cases e
  simp only [Store.set, if_neg this]; exact e
theorem sub_trans {σ₁ σ₂ σ₃ : Store} (h : ∀ b x, σ₁ b = some x → σ₂ b = some x) (k : ∀ b x, σ₂ b = some x → σ₃ b = some x) : ∀ b x, σ₁ b = some x → σ₃ b = some x := fun b x e => k b x (h b x e)

theorem set_del {c : Addr} {y : AObj} (h : σ c = none) : (σ.set c y).del c = σ := by
  funext b
  simp only [Store.set, Store.del]
  by_cases q : b = c
  · subst q; simp [h]
  · simp [q]
theorem set_set {c : Addr} {y z : AObj} : (σ.set c y).set c z = σ.set c z := by
  funext b
  simp only [Store.set]
  by_cases q : b = c
  · simp [q]
  · simp [q]
theorem set_self {c : Addr} {y : AObj} : (σ.set c y) c = some y := by simp [Store.set]
theorem set_at {c b : Addr} {y x : AObj} (h : σ c = none) (e : σ b = some x) : (σ.set c y) b = some x := set_sub h b x e
theorem rng_small {k : Nat} (h : k ≤ 100000) : Builtin.Range.small 0 (k : Int) 1 = true ∧ Builtin.Range.rangeSize 0 (k : Int) 1 = (k : Int) := by
  have e : Builtin.Range.rangeSize 0 (k : Int) 1 = (k : Int) := by unfold Builtin.Range.rangeSize; simp; omega
  refine ⟨?_, e⟩
  unfold Builtin.Range.small
  rw [e]
  simp [Builtin.Range.rangeFitsLong]
  omega
noncomputable def pname (i : Nat) : Str := ("P" : Str) ++ (toString (i : Int) : Str)
theorem pname_eq : ∀ i, i < 4 → ∀ j, j < 4 → (pname i == pname j) = decide (i = j) := by decide +kernel
theorem pname_ne : ∀ i, i < 4 → (pname i != ("" : Str)) = true ∧ (pname i == ("" : Str)) = false ∧ PyData.strOk (pname i) = true := by decide +kernel
structure ParaAt (σ : Store) (p : Addr) (i : Nat) (X : V) : Prop where
  at_ : ∃ dp, σ p = some (.inst 429 dp) ∧ σ dp = some (.ns [("name", .str (pname i)), ("section", .str ""), ("statements", X)])
noncomputable def ProcsAt (σ : Store) (pr : Addr) (Xs : List V) : Prop :=
  ∃ (dp rl : Addr) (ps : List Addr), σ pr = some (.inst 469 dp) ∧ σ dp = some (.ns [("rows", .ref rl), ("using", .tuple [])]) ∧ σ rl = some (.list (ps.map V.ref)) ∧ ps.length = Xs.length ∧ ∀ i (p : Addr) X, ps[i]? = some p → Xs[i]? = some X → ParaAt σ p i X
theorem ParaAt.mono {σ₁ : Store} {p : Addr} {i : Nat} {X : V} (h : ∀ b x, σ b = some x → σ₁ b = some x) (P : ParaAt σ p i X) : ParaAt σ₁ p i X := by
  obtain ⟨dp, a, b⟩ := P.at_; exact ⟨dp, h _ _ a, h _ _ b⟩
theorem ProcsAt.mono {σ₁ : Store} {pr : Addr} {Xs : List V} (h : ∀ b x, σ b = some x → σ₁ b = some x) (P : ProcsAt σ pr Xs) : ProcsAt σ₁ pr Xs := by
  obtain ⟨dp, rl, ps, a, b, c, l, r⟩ := P
  exact ⟨dp, rl, ps, h _ _ a, h _ _ b, h _ _ c, l, fun i p X e1 e2 => (r i p X e1 e2).mono h⟩

noncomputable def D.fresh (d : D) : D := { d with places := d.places ++ [-1] }
noncomputable def D.here (d : D) (l : Nat) : D := { d with places := d.places.set l d.ops.length }
noncomputable def D.put (d : D) (o : Op) : D := { d with ops := d.ops ++ [o] }
noncomputable def D.slot (d : D) : D := { d with slots := d.slots + 1 }
noncomputable def D.app (d : D) (os : List Op) : D := { d with ops := d.ops ++ os }
structure Sm (d : D) : Prop where
  ops : d.ops.length ≤ 60000
  pl : d.places.length ≤ 60000
structure Gr (k : Nat) (d e : D) : Prop where
  o1 : d.ops.length ≤ e.ops.length
  o2 : e.ops.length ≤ d.ops.length + k
  p1 : d.places.length ≤ e.places.length
  p2 : e.places.length ≤ d.places.length + k
noncomputable def Grows (k : Nat) (f : D → D) : Prop := ∀ d, Gr k d (f d)
end
section
variable {d e : D} {k j : Nat} {f : D → D} {o : Op} {l : Nat} {os : List Op}
theorem len_here : (d.here l).places.length = d.places.length := List.length_set
theorem len_fresh : d.fresh.places.length = d.places.length + 1 := List.length_append
theorem ops_put : (d.put o).ops.length = d.ops.length + 1 := List.length_append
theorem ops_app : (d.app os).ops.length = d.ops.length + os.length := List.length_append
theorem Gr.refl : Gr 0 d d := ⟨Nat.le_refl _, Nat.le_refl _, Nat.le_refl _, Nat.le_refl _⟩
theorem Gr.trans {c : D} (g : Gr k d e) (h : Gr j e c) : Gr (k + j) d c :=
  ⟨Nat.le_trans g.o1 h.o1, Nat.le_trans h.o2 (Nat.add_assoc .. ▸ Nat.add_le_add_right g.o2 j), Nat.le_trans g.p1 h.p1, Nat.le_trans h.p2 (Nat.add_assoc .. ▸ Nat.add_le_add_right g.p2 j)⟩
theorem Gr.less (g : Gr k d e) (h : k ≤ j) : Gr j d e := ⟨g.o1, Nat.le_trans g.o2 (Nat.add_le_add_left h _), g.p1, Nat.le_trans g.p2 (Nat.add_le_add_left h _)⟩
theorem Gr.put (g : Gr k d e) : Gr (k + 1) d (e.put o) := g.trans ⟨ops_put ▸ Nat.le_succ _, Nat.le_of_eq ops_put, Nat.le_refl _, Nat.le_succ _⟩
theorem Gr.fresh (g : Gr k d e) : Gr (k + 1) d e.fresh := g.trans ⟨Nat.le_refl _, Nat.le_succ _, len_fresh ▸ Nat.le_succ _, Nat.le_of_eq len_fresh⟩
theorem Gr.here (g : Gr k d e) : Gr k d (e.here l) := ⟨g.o1, g.o2, Nat.le_trans g.p1 (Nat.le_of_eq len_here.symm), Nat.le_trans (Nat.le_of_eq len_here) g.p2⟩
theorem Gr.slot (g : Gr k d e) : Gr k d e.slot := ⟨g.o1, g.o2, g.p1, g.p2⟩
theorem Gr.app (h : os.length ≤ j) (g : Gr k d e) : Gr (k + j) d (e.app os) := g.trans ⟨ops_app ▸ Nat.le_add_right _ _, ops_app ▸ Nat.add_le_add_left h _, Nat.le_refl _, Nat.le_add_right _ _⟩
theorem Gr.run (G : Grows j f) (g : Gr k d e) : Gr (k + j) d (f e) := g.trans (G e)
theorem Gr.lt (g : Gr k d e) (h : l < d.places.length) : l < e.places.length := Nat.lt_of_lt_of_le h g.p1
theorem lt_fresh : d.places.length < d.fresh.places.length := len_fresh ▸ Nat.lt_succ_self _
theorem Gr.sm (g : Gr k d e) (h : Sm e) : Sm d := ⟨Nat.le_trans g.o1 h.ops, Nat.le_trans g.p1 h.pl⟩
theorem Sm.put (h : Sm (d.put o)) : Sm d := (Gr.put Gr.refl).sm h
theorem Sm.fresh (h : Sm d.fresh) : Sm d := (Gr.fresh Gr.refl).sm h
theorem Sm.here (h : Sm (d.here l)) : Sm d := (Gr.here Gr.refl).sm h
theorem Sm.app (h : Sm (d.app os)) : Sm d := (Gr.app (Nat.le_refl _) Gr.refl).sm h
theorem Grows.sm (G : Grows k f) (h : Sm (f d)) : Sm d := (G d).sm h
theorem Sm.o1 (h : Sm d) : d.ops.length ≤ 100000 := Nat.le_trans h.ops (by decide)
theorem Sm.p1 (h : Sm d) : d.places.length ≤ 100000 := Nat.le_trans h.pl (by decide)
theorem Grows.less (G : Grows k f) (h : k ≤ j) : Grows j f := fun d => (G d).less h
theorem grows_put : Grows 1 (fun d => d.put o) := fun _ => Gr.put Gr.refl
theorem grows_id : Grows 0 (fun d : D => d) := fun _ => Gr.refl
end
section
variable {σ : Store} {a : DA} {cnt : Nat} {d d' : D}
structure Around' (σ : Store) (a : DA) (Xs : List V) : Prop where
  apart : a.Apart σ
  procs : ProcsAt σ a.pr Xs
theorem Around'.set {Xs : List V} (A : Around' σ a Xs) {c : Addr} {y : AObj} (h : dst σ a cnt d c = none) : Around' (σ.set c y) a Xs :=
  ⟨A.apart.set (dst_none h).1, A.procs.mono (set_sub (dst_none h).2)⟩
end
end
section
open PySem PySem.W PySem.Calls PyProof.Rows PySem.Spec
structure PlainF (env : Env) : Prop where
  kind : env.scope.kind = .function
  gl : env.globals = mainGlobals
  bl : env.builtins = builtinsNs
  dbg : env.kindOf "__debug__" = none
noncomputable def scode (x : Str) : Nat := x.cps.toList.foldr (fun c n => c + 256 * n) 0
noncomputable def gfind (c : Nat) : List (Nat × Str × V) → Option (Str × V)
  | [] => none
  | p :: r => match Nat.beq c p.1 with
    | true => some p.2
    | false => gfind c r
noncomputable def gname (l : List (Nat × Str × V)) (x : Str) : Option V := match gfind (scode x) l with
  | some p => if p.1 = x then some p.2 else none
  | none => none
theorem gfind_mem {c : Nat} : ∀ {l : List (Nat × Str × V)} {p : Str × V}, gfind c l = some p → ∃ k, (k, p) ∈ l
  | [], _, h => by cases h
  | q :: r, p, h => by
    unfold gfind at h
    split at h
    · cases h; exact ⟨q.1, .head _⟩
    · obtain ⟨k, hk⟩ := gfind_mem h; exact ⟨k, .tail _ hk⟩
theorem gname_of {l : List (Nat × Str × V)} {P : Str → V → Prop} (hl : ∀ q ∈ l, P q.2.1 q.2.2) {x : Str} {X : V} (h : gname l x = some X) : P x X := by
  unfold gname at h
  split at h
  · rename_i p hp
    split at h
    · rename_i e
      cases h
      obtain ⟨k, hk⟩ := gfind_mem hp
      exact e ▸ hl _ hk
    · cases h
  · cases h
noncomputable def kJ (N : Loc → Store → Prop) (J : Fl → Loc → Store → Prop) : Fl → Loc → Store → Prop := fun f => match f with | .next => N | f => J f
noncomputable def Callable (X : V) : Prop := match X with
  | .ref a => KP a
  | .bltn _ => True
  | .typ _ => True
  | _ => False

section
variable (C : Cx) (n : Nat)
structure SE (env : Env) (ρ : Loc) (e : Expr) (Φ : V → Store → Prop) (σ : Store) : Prop where
  run : TE C n env ρ σ e Φ
structure SS (env : Env) (ρ : Loc) (st : Stmt) (N : Loc → Store → Prop) (J : Fl → Loc → Store → Prop) (σ : Store) : Prop where
  run : TS C n env ρ σ st (kJ N J)
structure SAs (env : Env) (ρ : Loc) (t : Expr) (X : V) (N : Loc → Store → Prop) (σ : Store) : Prop where
  run : TA C n env ρ σ t X N
structure SC (f : V) (Xs : List V) (Φ : V → Store → Prop) (σ : Store) : Prop where
  run : TC C n σ f Xs Φ
structure SO (op : Value → Value → Sem Value) (X Y : V) (Φ : V → Store → Prop) (σ : Store) : Prop where
  run : TO2 C n σ op X Y Φ
structure SB (op : CmpOp) (X Y : V) (Φ : Bool → Store → Prop) (σ : Store) : Prop where
  run : TO2 C n σ (compareOp op) X Y fun Z σ' => ∃ b, Z = .bool b ∧ Φ b σ'
structure ST (X : V) (Φ : Bool → Store → Prop) (σ : Store) : Prop where
  run : TT C n σ X Φ
inductive MethOk (σ : Store) : V → Str → V → Prop
  | own {x Cl dx f : Addr} {es : List (Str × V)} {name : Str} : σ x = some (.inst Cl dx) → σ dx = some (.ns es) → lkE name es = none → MethAttr C.K Cl name f → MethOk σ (.ref x) name (.ref f)
  | append {x : Addr} {xs : List V} : σ x = some (.list xs) → MethOk σ (.ref x) "append" (.bltn "list.append")
  | extend {x : Addr} {xs : List V} : σ x = some (.list xs) → MethOk σ (.ref x) "extend" (.bltn "list.extend")
  | pop {x : Addr} {xs : List V} : σ x = some (.list xs) → MethOk σ (.ref x) "pop" (.bltn "list.pop")
  | get {x : Addr} {es : List (Str × V)} : σ x = some (.sdict es) → MethOk σ (.ref x) "get" (.bltn "dict.get")
structure SM (X : V) (name : Str) (K : V → Prop) (σ : Store) : Prop where
  run : ∃ f, MethOk C σ X name f ∧ K f
structure SMeth (X : V) (name : Str) (Xs : List V) (Φ : V → Store → Prop) (σ : Store) : Prop where
  run : ∃ f, MethOk C σ X name f ∧ TC C n σ f (X :: Xs) Φ
structure SAtt (X : V) (name : Str) (Φ : V → Store → Prop) (σ : Store) : Prop where
  run : ∃ x Cl dx es Y, X = .ref x ∧ σ x = some (.inst Cl dx) ∧ σ dx = some (.ns es) ∧ OwnAttr C.K Cl name ∧ lkE name es = some Y ∧ Y.handed = true ∧ Φ Y σ
end
structure SCell (c : Addr) (Φ : V → Store → Prop) (σ : Store) : Prop where
  run : ∃ X, σ c = some (.cell (some X)) ∧ Φ X σ
structure SNew (L : Addr) (y : AObj) (Φ : V → Store → Prop) (σ : Store) : Prop where
  run : ∀ a, σ a = none → a ≠ L → Φ (.ref a) (σ.set a y)
noncomputable def wIf (c : Bool) (P Q : Prop) : Prop := match c with
  | true => P
  | false => Q
theorem wIf_s {c : Bool} {P Q : Prop} (p : c = true → P) (q : c = false → Q) : wIf c P Q := by cases c; exact q rfl; exact p rfl
theorem wIf_t {c : Bool} {P Q : Prop} (h : c = true) (p : P) : wIf c P Q := by subst h; exact p
theorem wIf_f {c : Bool} {P Q : Prop} (h : c = false) (q : Q) : wIf c P Q := by subst h; exact q
noncomputable def wLen (Xs : List V) (P : Prop) : Prop := match Nat.ble Xs.length 1000 with
  | true => P
  | false => Xs.length ≤ 100000 ∧ P
theorem wLen_of {Xs : List V} {P : Prop} (h : wLen Xs P) : Xs.length ≤ 100000 ∧ P := by
  unfold wLen at h
  split at h
  · rename_i e; exact ⟨Nat.le_trans (Nat.le_of_ble_eq_true e) (by decide), h⟩
  · exact h
structure SPick (Xs : List V) (k : Int) (Φ : V → Store → Prop) (σ : Store) : Prop where
  run : 0 ≤ k ∧ k < 2 ^ 63 ∧ ∃ Y, Xs[k.toNat]? = some Y ∧ Φ Y σ
noncomputable def closA (cells : List (Str × Addr)) : List (Str × NameKind) → List (Str × Addr) → Option (List (Str × Addr))
  | [], acc => some acc
  | p :: r, acc => match p.2 with
    | .free => (match cells.lookup p.1 with
      | some c => closA cells r ((p.1, c) :: acc)
      | none => none)
    | _ => closA cells r acc
section
variable (C : Cx) (n : Nat) (env : Env) (ρ : Loc)
structure SComp (scope : Scope) (cl : List (Str × Addr)) (x : Str) (elt : Expr) (ifs : List Expr) (X : V) (Φ : V → Store → Prop) (σ : Store) : Prop where
  run : CompOf C n env scope cl x elt ifs X σ (Drop Φ)
structure SCompT (scope : Scope) (cl : List (Str × Addr)) (x : Str) (elt : Expr) (ifs : List Expr) (X : V) (Φ : V → Store → Prop) (σ : Store) : Prop where
  run : ∃ Ys σ₂ f, ∃ J : Nat → List V → Store → Prop, Src C σ X Ys σ₂ f ∧ Ys.length ≤ 100000 ∧ J 0 [] σ₂ ∧
    (∀ Ca i Y Zs σ', Dead σ σ₂ σ' → Ys[i]? = some Y → J i Zs σ' → TIf C n (compEnvC scope cl Ca env) (Loc.none.set x Y) σ' ifs fun ok σ₃ => if ok = true then TE C n (compEnvC scope cl Ca env) (Loc.none.set x Y) σ₃ elt fun Z σ₄ => J (i + 1) (Zs ++ [Z]) σ₄ else J (i + 1) Zs σ₃) ∧
    (∀ Zs σ', Dead σ σ₂ σ' → J Ys.length Zs σ' → Drop Φ (.tuple Zs) (f σ'))
noncomputable def Loc.le (ρ' ρ : Loc) : Prop := ∀ x X, ρ' x = some X → ρ x = some X
noncomputable def wk (N : Loc → Store → Prop) : Loc → Store → Prop := fun ρ σ => ∃ ρ' σ', Loc.le ρ' ρ ∧ (∀ a x, σ' a = some x → σ a = some x) ∧ N ρ' σ'
structure SFor (target : Expr) (body : List Stmt) (X : V) (N : Loc → Store → Prop) (J : Fl → Loc → Store → Prop) (σ : Store) : Prop where
  run : ∃ Ys σ₂ f, ∃ I : Nat → Loc → Store → Prop, Src C σ X Ys σ₂ f ∧ I 0 ρ σ₂ ∧
      (∀ i Y ρ' σ', Ys[i]? = some Y → I i ρ' σ' → TA C n env ρ' σ' target Y fun ρ₂ τ => TSS C n env ρ₂ τ body (forK (I (i + 1)) (fun ρ₃ σ₃ => Dead σ σ₂ σ₃ → wk N ρ₃ (f σ₃)) (fun V ρ₃ σ₃ => Dead σ σ₂ σ₃ → wk (J (.ret V)) ρ₃ (f σ₃)))) ∧
      (∀ ρ' σ', Dead σ σ₂ σ' → I Ys.length ρ' σ' → wk N ρ' (f σ'))
end
noncomputable def noStar (e : Expr) : Bool := !Nat.beq e.ctorIdx 22
noncomputable def noComp (e : Expr) : Bool := !(Nat.beq e.ctorIdx 8 || Nat.beq e.ctorIdx 9 || Nat.beq e.ctorIdx 10)
noncomputable def notSet (e : Expr) : Bool := !Nat.beq e.ctorIdx 7
noncomputable def notSlice (e : Expr) : Bool := !Nat.beq e.ctorIdx 26
noncomputable def okBase (e : Expr) : Bool := Nat.beq e.ctorIdx 20 || Nat.beq e.ctorIdx 21 || Nat.beq e.ctorIdx 23
noncomputable def notTuple (e : Expr) : Bool := !(Nat.beq e.ctorIdx 22 || Nat.beq e.ctorIdx 24 || Nat.beq e.ctorIdx 25)
noncomputable def strOkL (x : Str) : Bool := x.cps.toList.all fun c => Nat.blt c 0x110000
theorem strOkL_of {x : Str} (h : strOkL x = true) : PyData.strOk x = true := by
  unfold PyData.strOk
  rw [← Array.all_toList]
  rw [List.all_eq_true]
  intro c hc
  have := List.all_eq_true.mp h c hc
  simpa [Nat.blt_eq] using this
noncomputable def allStr : List V → Bool
  | [] => true
  | .str _ :: r => allStr r
  | _ :: _ => false
noncomputable def compOk (scope : Scope) (x : Str) (iter : Expr) : Bool :=
  scope.names.all (fun y => y.2 != .cell) && scope.kind == .function && scope.names.all (fun y => y.2 != .local || scope.names.lookup y.1 == some .local) && scope.names.lookup x == some .local && notSet iter
noncomputable def swOk (env : Env) (y : Str) (py : Pos) (scope : Scope) (pos : Pos) : Bool :=
  env.kindOf y == some .local && Nat.beq py.line pos.line && !(scope.names.any fun q => q.1 == y && (q.2 == .local || q.2 == .cell))
noncomputable def swapOk (env : Env) (n1 n2 : Str) (p1 p2 : Pos) (e1 e2 : Expr) : Bool :=
  env.kindOf n1 == some .local && env.kindOf n2 == some .local && Nat.beq p1.line p2.line && !(n1 == n2) && noStar e1 && noStar e2 && !([e1, e2].all (foldedForSure 8)) && !([e1, e2].all (constantsAlone 8))
noncomputable def isZip : Expr → Bool
  | .Call f _ _ _ => (match f with
    | .Name x _ => x == "zip"
    | _ => false)
  | _ => false
noncomputable def plainT (e : Expr) : Bool := !(Nat.beq e.ctorIdx 0 || Nat.beq e.ctorIdx 3 || Nat.beq e.ctorIdx 5 || Nat.beq e.ctorIdx 15)
end
section
open PySem PySem.W PySem.Calls PyProof.Rows PySem.Spec
section
variable {C : Cx} {n : Nat} {env : Env} {ρ : Loc} {σ : Store}
theorem TB.mono {e : Expr} {Φ Ψ : Bool → Store → Prop} (h : TB C n env ρ σ e Φ) (k : ∀ R σ', Φ R σ' → Ψ R σ') : TB C n env ρ σ e Ψ :=
  fun A s Q E r H F q => h A s Q E r H F fun a σ' h' tk' H' F' G p => q a σ' h' tk' H' F' G (k _ _ p)
theorem TL.mono {p : Pos} {e : List Expr} {Φ Ψ : List V → Store → Prop} (h : TL C n env ρ σ p e Φ) (k : ∀ R σ', Φ R σ' → Ψ R σ') : TL C n env ρ σ p e Ψ :=
  fun A s Q E r H F q => h A s Q E r H F fun a R σ' h' tk' x H' F' G p => q a R σ' h' tk' x H' F' G (k _ _ p)
theorem TO2.mono {op : Value → Value → Sem Value} {X Y : V} {Φ Ψ : V → Store → Prop} (h : TO2 C n σ op X Y Φ) (k : ∀ R σ', Φ R σ' → Ψ R σ') : TO2 C n σ op X Y Ψ :=
  fun A s a b Q E r H x y q => h A s a b Q E r H x y fun a R σ' h' tk' x H' G p => q a R σ' h' tk' x H' G (k _ _ p)
theorem TT.mono {X : V} {Φ Ψ : Bool → Store → Prop} (h : TT C n σ X Φ) (k : ∀ R σ', Φ R σ' → Ψ R σ') : TT C n σ X Ψ :=
  fun A s a Q E r H x q => h A s a Q E r H x fun a σ' h' tk' H' G p => q a σ' h' tk' H' G (k _ _ p)
theorem TA.mono {t : Expr} {X : V} {Φ Ψ : Loc → Store → Prop} (h : TA C n env ρ σ t X Φ) (k : ∀ R σ', Φ R σ' → Ψ R σ') : TA C n env ρ σ t X Ψ :=
  fun A s v Q E r H F x q => h A s v Q E r H F x fun a σ' h' tk' H' F' G p => q a σ' h' tk' H' F' G (k _ _ p)
theorem TS.mono {st : Stmt} {Φ Ψ : Fl → Loc → Store → Prop} (h : TS C n env ρ σ st Φ) (k : ∀ f R σ', Φ f R σ' → Ψ f R σ') : TS C n env ρ σ st Ψ :=
  fun A s Q E r H F q => h A s Q E r H F fun f X ρ' σ' h' tk' x H' F' G p => q f X ρ' σ' h' tk' x H' F' G (k _ _ _ p)
theorem TSS.mono {st : List Stmt} {Φ Ψ : Fl → Loc → Store → Prop} (h : TSS C n env ρ σ st Φ) (k : ∀ f R σ', Φ f R σ' → Ψ f R σ') : TSS C n env ρ σ st Ψ :=
  fun A s Q E r H F q => h A s Q E r H F fun f X ρ' σ' h' tk' x H' F' G p => q f X ρ' σ' h' tk' x H' F' G (k _ _ _ p)
theorem noStar_each {e : Expr} (h : noStar e = true) (es : List Expr) : starEach (e :: es) env = (false, eval e env) :: starEach es env := by
  cases e <;> first | rfl | cases h
theorem noStar_hst {args : List Expr} (h : args.all noStar = true) : args = [] ∨ ∃ e es, args = e :: es ∧ starEach (e :: es) env = (false, eval e env) :: starEach es env := by
  cases args with
  | nil => exact .inl rfl
  | cons e es => rw [List.all_cons, Bool.and_eq_true] at h; exact .inr ⟨e, es, rfl, noStar_each h.1 es⟩
theorem noStar_plain {pos : Pos} : ∀ {args : List Expr}, args.all noStar = true → (backTo pos (starEach args env)).any (·.1) = false
  | [], _ => rfl
  | e :: es, h => by
    rw [List.all_cons, Bool.and_eq_true] at h
    rw [noStar_each h.1]
    exact noStar_plain (args := es) h.2
theorem noStar_form {pos : Pos} : ∀ {args : List Expr}, args.all noStar = true → (backTo pos (starEach args env)).all (!·.1) = true
  | [], _ => rfl
  | e :: es, h => by
    rw [List.all_cons, Bool.and_eq_true] at h
    rw [noStar_each h.1]
    exact noStar_form (args := es) h.2
theorem okBase_of {o : Expr} (h : okBase o = true) (name : Str) (m : Sem Value) : attributeBase o name env m = m := by
  cases o <;> first | rfl | cases h
theorem meth_eval {o : Expr} {name : Str} {apos pos : Pos} {args : List Expr} (ho : okBase o = true) (hl : Nat.beq apos.endLine pos.line = true) (ha : args.all noStar = true) (hn : Nat.ble args.length 20 = true) :
    eval (.Call (.Attribute o name apos) args [] pos) env = (do
      let ov ← eval o env
      standAt apos.atName
      let (f, first) ← holding [ov] (getMethod ov name (do return (← importBound o env).getD true))
      callWith pos f first (backTo pos (starEach args env)) []) := by
  show (do
    let ov ← attributeBase o name env (eval o env)
    standAt apos.atName
    methodCall o name apos pos env ov (args.length + 0) (backTo pos (starEach args env)) []) = _
  have e : methodCallForm (args.length + 0) (backTo pos (starEach args env)) [] = true := by
    unfold methodCallForm
    rw [noStar_form ha]
    have := Nat.le_of_ble_eq_true hn
    simp; omega
  have e2 : (apos.endLine == pos.line) = true := beq_iff_eq.mpr (Nat.eq_of_beq_eq_true hl)
  rw [okBase_of ho]
  unfold methodCall methodCallPos calleeOf
  rw [e, e2]
  rfl
theorem notSet_marks {op : CmpOp} {r : Expr} (h : notSet r = true) : behindInMarks op r = false := by
  cases r <;> first | rfl | cases h
theorem notSlice_sub {i : Expr} {o x : Value} (h : notSlice i = true) : subscripted i false o x = operate [o, x] (getItem o x) := by
  cases i <;> first | rfl | cases h
theorem attr_eval {o : Expr} {name : Str} {pos : Pos} (ho : okBase o = true) : eval (.Attribute o name pos) env = (do
      let o' ← eval o env
      standAt pos.atName
      let r ← holding [o'] (getAttr o' name true)
      letTemporaryGo o o' r
      pure r) := by
  show (do
    let o' ← attributeBase o name env (eval o env)
    standAt pos.atName
    let r ← holding [o'] (getAttr o' name true)
    letTemporaryGo o o' r
    pure r) = _
  rw [okBase_of ho]
theorem noComp_swaps {e : Expr} (h : noComp e = true) (t : Option Expr) (l : Nat) : swapsWith e t l env = pure false := by
  cases e <;> first | rfl | cases h
theorem notTuple_stores {t e : Expr} (h : (notTuple t || notTuple e) = true) : swappedStores [t] e env = pure none := by
  cases t <;> first | rfl | (cases e <;> first | rfl | cases h)
theorem noStar_assign {t : Expr} (h : noStar t = true) (ts : List Expr) : assignEach (t :: ts) env = (false, assign t env) :: assignEach ts env := by
  cases t <;> first | rfl | cases h
theorem strs_of : ∀ {Ys : List V}, allStr Ys = true → Ys = (strsOf Ys).map V.str
  | [], _ => rfl
  | .str x :: r, h => congrArg (V.str x :: ·) (strs_of (Ys := r) h)
  | .none :: _, h => by cases h
  | .bool _ :: _, h => by cases h
  | .int _ :: _, h => by cases h
  | .tuple _ :: _, h => by cases h
  | .ref _ :: _, h => by cases h
  | .bltn _ :: _, h => by cases h
  | .typ _ :: _, h => by cases h
theorem TE_methX {o : Expr} {name : Str} {apos pos : Pos} {args : List Expr} {Φ : V → Store → Prop}
    (h : TE C n env ρ σ o fun X σ₁ => ∃ Fv, MethOk C σ₁ X name Fv ∧ TL C n env ρ σ₁ pos args fun Xs σ₂ => TC C n σ₂ Fv (X :: Xs) Φ)
    {pl : Sem Bool}
    (he : eval (.Call (.Attribute o name apos) args [] pos) env = (do
      let ov ← eval o env
      standAt apos.atName
      let (f, first) ← holding [ov] (getMethod ov name pl)
      callWith pos f first (backTo pos (starEach args env)) []))
    (ha : args.all noStar = true) : TE C n env ρ σ (.Call (.Attribute o name apos) args [] pos) Φ := by
  intro A s Q E R H F q
  refine MethodCall_ (pl := pl) (h A s _ E R H F fun v X σ₁ h₁ tk₁ r₁ H₁ F₁ G₁ p₁ => ?_) he
  obtain ⟨Fv, m, p⟩ := p₁
  have go : ∀ {x : Addr} {fv : Value}, X = .ref x → v = .ref x → Rep h₁ fv Fv → (∀ h', C.K.In h' → HKeep h₁ h' ∨ True → Kept C h' fv) → wpAny (model C.prog C.w) A (callWith pos fv [v] (backTo pos (starEach args env)) []) Q E { s with heap := h₁, toks := tk₁ } := fun {x fv} e1 e2 rf hk => by
    subst e1; subst e2
    exact TC_go (s := { s with heap := h₁, toks := tk₁ }) (Ys := [.ref x]) R H₁ F₁ rf (.cons (.ref x) .nil) (fun σ' h' H' _ _ _ => hk h' H'.kin (.inr trivial)) p (noStar_hst ha) (noStar_plain ha) fun r R' σ' h' tk' r' H' F' G' p => q r R' σ' h' tk' r' H' F' (G₁.trans G') p
  have bl : ∀ {id : String} (h' : Heap), C.K.In h' → HKeep h₁ h' ∨ True → Kept C h' (.builtin id) := fun {id} h' _ _ => .plain fun _ e => by cases e
  have li : ∀ {x : Addr} {xs : List V} {id : String}, X = .ref x → σ₁ x = some (.list xs) → Fv = .bltn id → Slot "list" name id → typeOf (.builtin id) = pure (.type "method_descriptor") → wpAny (model C.prog C.w) A (getMethod v name pl) (fun fx s₂ => wpAny (model C.prog C.w) A (callWith pos fx.1 fx.2 (backTo pos (starEach args env)) []) Q E s₂) E { s with heap := h₁, toks := tk₁ } := fun {x xs id} e1 hx e2 sl ty => by
    subst e1; subst e2; obtain rfl := r₁.ref_inv
    obtain ⟨vs, k, e, rl⟩ := H₁.obj _ _ hx
    exact getMethod_builtin (s := { s with heap := h₁, toks := tk₁ }) ⟨_, e, rfl⟩ PySem.F.plainAttrs_list sl ty (fun a q => by cases q; exact ⟨_, e, rfl⟩) (go rfl rfl (.bltn id) bl)
  cases m with
  | own hx hd hl M =>
    obtain rfl := r₁.ref_inv
    obtain ⟨l, k, I, r⟩ := inst_at H₁ hx hd
    exact method_fn (s := { s with heap := h₁, toks := tk₁ }) H₁.kin I (plainGet_of M.plain).1 (plainGet_of M.plain).2 M.find (beq_iff_eq.mp M.fn) (by show (lookIn _ (dictOf l k)).map _ = _; rw [lookIn_dict, r.getL_none hl]; rfl) (go rfl rfl (.ref _) fun h' k _ => .of_K M.keep k)
  | append hx => exact li rfl hx rfl PySem.F.slot_list_append ty_append
  | extend hx => exact li rfl hx rfl PySem.F.slot_list_extend ty_extend
  | pop hx => exact li rfl hx rfl PySem.F.slot_list_pop ty_pop
  | get hx =>
    obtain rfl := r₁.ref_inv
    obtain ⟨kvs, hd, rl⟩ := H₁.obj _ _ hx
    obtain ⟨o, es, ep, e, hex, _⟩ := id hd
    exact getMethod_builtin (s := { s with heap := h₁, toks := tk₁ }) ⟨_, e, hex.1⟩ PySem.F.plainAttrs_dict PySem.F.slot_dict_get ty_get (fun a q => by cases q; exact ⟨_, e, hex.2.1⟩) (go rfl rfl (.bltn _) bl)
theorem sub_off {σ' : Store} {a : Addr} (k : ∀ a x, σ' a = some x → σ a = some x) (n : σ a = none) : σ' a = none := by
  cases z : σ' a with
  | none => rfl
  | some y => have := k _ _ z; rw [n] at this; cases this
theorem sub_on {σ' : Store} (k : ∀ a x, σ' a = some x → σ a = some x) (a : Addr) (e : σ' a ≠ none) : σ a ≠ none := fun n => e (sub_off k n)
theorem TE_drop {e : Expr} {Φ : V → Store → Prop} (h : TE C n env ρ σ e (Drop Φ)) : TE C n env ρ σ e Φ := by
  intro A s Q E R H F q
  refine h A s Q E R H F fun r X σ' h' tk' x H' F' G p => ?_
  obtain ⟨σ'', k, p⟩ := p
  exact q r X σ'' h' tk' x (H'.sub k) (F'.sub (sub_off k F'.off)) (G.sub (sub_on k)) p
theorem Go.beside {σ₂ : Store} {P : Addr → Prop} {h h₂ h₃ : Heap} {a : Addr} {x : AObj} (g : Go σ P h σ₂ h₂) (k : Go (σ₂.set a x) (fun _ => False) h₂ (σ₂.set a x) h₃) (n : h.get? a = none) : Go σ P h σ₂ h₃ where
  keep := fun b o e nb f => by
    have q : b ≠ a := fun q => by rw [q, n] at e; cases e
    exact k.keep b o (g.keep b o e nb f) (by simp only [Store.set, if_neg q]; exact live_ne g e nb) fun f => f
  tup := fun b o i m e c d => k.tup b o i m (g.tup b o i m e c d) c d
  live := fun b o e => by obtain ⟨o', e'⟩ := g.live b o e; exact k.live b o' e'
  dom := g.dom
theorem TE_listSub {es : List Expr} {i : Expr} {p pos : Pos} {Φ : V → Store → Prop} (hi : notSlice i = true)
    (h : TL C n env ρ σ p es fun Xs σ₁ => Xs.length ≤ 100000 ∧ TE C n env ρ σ₁ i fun I σ₂ => ∃ k, I = .int k ∧ SPick Xs k Φ σ₂) : TE C n env ρ σ (.Subscript (.List es p) i pos) Φ := by
  intro A s Q E R H F q
  refine Subscript_ (List_ (h A s _ E R H F fun vs Xs σ₁ h₁ tk₁ r₁ H₁ F₁ G₁ p₁ => ?_))
  have k := HKeep.push h₁ { cls := .type "list", data := .seq vs.toArray }
  have nw := heap_new h₁
  have ne : h₁.objs.size ≠ env.locals := fun e => by
    obtain ⟨⟨m, hm, _⟩, _⟩ := F₁
    have hl := hm.lt
    rw [← e] at hl
    exact Nat.lt_irrefl _ hl
  have G := Go.of_keep (σ := σ₁) (F := fun _ => False) k
  have at1 : (h₁.push { cls := .type "list", data := .seq vs.toArray }).get? h₁.objs.size = some (listOf vs.toArray 0) := Heap.get?_push_size _ rfl
  refine wpAny_newObj_type (p₁.2 A { s with heap := h₁.push { cls := .type "list", data := .seq vs.toArray }, toks := tk₁ } (fun I s₂ => wpAny (model C.prog C.w) A (subscriptTail (.List es p) i (.ref h₁.objs.size) I) Q E s₂) E R (H₁.keeps k) (F₁.go G) fun iv I σ₂ h₂ tk₂ r₂ H₂ F₂ G₂ p₂ => ?_) ?_
  · obtain ⟨k', rfl, hk⟩ := p₂
    obtain ⟨h0, h1, Y, hY, pY⟩ := hk.run
    have at2 := G₂.keep _ _ at1 (H₁.off_new nw) ne
    have o2 : σ₂ h₁.objs.size = none := live_ne G₂ at1 (H₁.off_new nw)
    have sub : ∀ a x, σ₂ a = some x → (σ₂.set h₁.objs.size (.list Xs)) a = some x := fun a x e => by
      have : a ≠ h₁.objs.size := fun q => by rw [q, o2] at e; cases e
      simp only [Store.set, if_neg this]; exact e
    have HS : Holds C (σ₂.set h₁.objs.size (.list Xs)) h₂ := H₂.take ⟨vs, 0, at2, (r₁.mono k.tup).mono G₂.tup⟩ (H₁.base_new nw)
    have FS : Frm C (σ₂.set h₁.objs.size (.list Xs)) h₂ env.locals ρ := F₂.sub (by simp only [Store.set, if_neg (Ne.symm ne)]; exact F₂.off)
    have to : TO2 C n (σ₂.set h₁.objs.size (.list Xs)) (subscriptTail (.List es p) i) (.ref h₁.objs.size) (.int k') fun Z σ' => Z = Y ∧ σ' = σ₂.set h₁.objs.size (.list Xs) := O_itemL (by simp [Store.set]) h0 h1 hY ⟨rfl, rfl⟩ fun t u => notSlice_sub hi
    refine to A { s with heap := h₂, toks := tk₂ } (.ref h₁.objs.size) iv Q E R HS (.ref _) r₂ fun r Z σ₃ h₃ tk₃ r₃ H₃ G₃ p₃ => ?_
    obtain ⟨rfl, rfl⟩ := p₃
    exact q r _ σ₂ h₃ tk₃ r₃ (H₃.sub sub) ((FS.go G₃).sub F₂.off) (((G₁.trans (frm_go F₁ G)).trans G₂).beside G₃ (by
      cases z : s.heap.get? h₁.objs.size with
      | none => rfl
      | some o => obtain ⟨o', e'⟩ := G₁.live _ o z; rw [nw] at e'; cases e')) pY
  · show vs.toArray.size ≤ sizeLine
    rw [List.size_toArray, r₁.length]; exact Nat.le_trans p₁.1 sizeLine_big
theorem TE_tupComp {f : Expr} {elt iter : Expr} {x : Str} {px : Pos} {ifs : List Expr} {scope : Scope} {cl : List (Str × Addr)} {cp pos : Pos} {Φ : V → Store → Prop}
    (hf : ∀ {σ : Store} {Φ : V → Store → Prop}, Φ (.typ "tuple") σ → TE C n env ρ σ f Φ) (hfa : notAttr f = true)
    (h : TE C n env ρ σ iter fun X σ₁ => SCompT C n env scope cl x elt ifs X Φ σ₁)
    (hclos : closureFor scope env = pure cl) (hcell : ∀ y ∈ scope.names, y.2 ≠ .cell) (hkind : scope.kind = .function)
    (hnames : ∀ y ∈ scope.names, y.2 = .local → scope.names.lookup y.1 = some .local) (hx : scope.names.lookup x = some .local)
    (hs : ∀ x, foldedSetIterable iter env x = pure x) : TE C n env ρ σ (.Call f [.ListComp elt [⟨.Name x px, iter, ifs, 0⟩] scope cp] [] pos) Φ := by
  refine TE_drop (TE_call (hf ⟨trivial, TL_cons (TE_comp (h.mono fun X σ₁ p => ?_) hclos hcell hkind hnames hx hs)⟩) (notAttr_of hfa) (.inr ⟨_, _, rfl, rfl⟩))
  obtain ⟨Ys, σ₂, f, J, S, hz, j0, turn, done⟩ := p.run
  refine ⟨Ys, σ₂, f, J, S, Nat.le_trans hz sizeLine_big, j0, turn, fun D Zs σ' dd j hl fD _ => TL_nil (B_tupleL (Xs := Zs) (by simp [Store.set]) (Nat.le_trans (Nat.le_trans hl hz) sizeLine_big) ?_)⟩
  obtain ⟨τ, hτ, p⟩ := done Zs σ' dd j
  refine ⟨τ, fun a y e => ?_, p⟩
  have e := hτ a y e
  have : a ≠ D := fun q => by rw [q, fD] at e; cases e
  simp only [Store.set, if_neg this]; exact e
theorem closA_for {cells : List (Str × Addr)} {cl : List (Str × Addr)} {g : Str × NameKind → List (Str × Addr) → Sem (ForInStep (List (Str × Addr)))} (h1 : ∀ x k r, k ≠ .free → g (x, k) r = pure (.yield r)) (h2 : ∀ x r c, cells.lookup x = some c → g (x, .free) r = pure (.yield ((x, c) :: r))) :
    ∀ (l : List (Str × NameKind)) (acc : List (Str × Addr)), closA cells l acc = some cl → forIn l acc g = pure cl
  | [], acc, h => by cases h; rfl
  | (x, k) :: l, acc, h => by
    unfold closA at h
    rw [List.forIn_cons]
    split at h
    · rename_i q
      have q : k = .free := q
      subst q
      split at h
      · rename_i c hc
        rw [h2 x acc c hc]
        exact closA_for h1 h2 l _ h
      · cases h
    · rename_i q
      rw [h1 x k acc (fun e => q (by exact e))]
      exact closA_for h1 h2 l _ h
theorem closA_closure {scope : Scope} {cl : List (Str × Addr)} (h : closA env.cells scope.names [] = some cl) : closureFor scope env = pure cl := by
  unfold closureFor
  dsimp only
  rw [closA_for (cells := env.cells) (cl := cl) (fun x k r hk => ?_) (fun x r c hc => ?_) scope.names [] h]
  · rfl
  · have : (k == NameKind.free) = false := by simpa using hk
    simp only [this, Bool.false_eq_true, if_false]
  · unfold cellOf
    simp only [hc]
    rfl
theorem Frm.weak {h : Heap} {L : Addr} {ρ' : Loc} (k : Loc.le ρ' ρ) (F : Frm C σ h L ρ) : Frm C σ h L ρ' := by
  obtain ⟨⟨m, a, b⟩, c, d⟩ := F
  exact ⟨⟨m, a, fun x X e => b x X (k x X e)⟩, c, d⟩
theorem TS_weak {st : Stmt} {N : Loc → Store → Prop} {J : Fl → Loc → Store → Prop} (h : TS C n env ρ σ st fun f => wk (kJ N J f)) : TS C n env ρ σ st (kJ N J) :=
  fun A s Q E r H F q => h A s Q E r H F fun f X ρ' σ' h' tk' x H' F' G p => by
    obtain ⟨ρ'', σ'', k, s, p⟩ := p
    exact q f X ρ'' σ'' h' tk' x (H'.sub s) ((F'.weak k).sub (sub_off s F'.off)) (G.sub (sub_on s)) p
theorem TA.weak {ρ' : Loc} (k : Loc.le ρ' ρ) {t : Expr} {X : V} {N : Loc → Store → Prop} (h : TA C n env ρ' σ t X N) : TA C n env ρ σ t X N :=
  fun A s v Q E r H F x q => h A s v Q E r H (F.weak k) x q
end
end
section
open PySem PySem.W PySem.Calls PyProof.Rows PySem.Spec
structure Tabs (T F : List (Nat × Str × V)) : Prop where
  gl : ∀ q ∈ T, GL q.2.1 q.2.2 ∨ BL q.2.1 q.2.2
  fn : ∀ q ∈ F, (GL q.2.1 q.2.2 ∨ BL q.2.1 q.2.2) ∧ Callable q.2.2
noncomputable def tabT : List (Nat × Str × V) := (126965163453537, "always", (V.ref 21)) :: (483625163110925113714030, "negated_if", (V.ref 28)) :: (7381223216518623860, "truth_of", (V.ref 35)) :: (35717054375722995547202219105, "alike_truths", (V.ref 42)) :: (121414097023740662998786671, "object_cond", (V.ref 49)) :: (7236844123825074034, "row_cond", (V.ref 56)) :: (1852632095699152367474, "rows_cond", (V.ref 63)) :: (126883691721569, "as_ifs", (V.ref 70)) :: (545220209834907714809703, "goal_parts", (V.ref 77)) :: (545220209834907850141555, "sort_parts", (V.ref 84)) :: (123836377036144772118573666, "branches_of", (V.ref 90)) :: (1889593155488766386540, "labels_of", (V.ref 128)) :: (474107582169335982744946, "relabelled", (V.ref 133)) :: (31084703186775911, "goes_on", (V.ref 140)) :: (2239892017938211097926400581334384, "put_expression", (V.ref 206)) :: (8749578199608962958723801970032, "put_condition", (V.ref 213)) :: (2341701737240794344846147372479856, "put_statements", (V.ref 220)) :: (9224632820852246092213474588016, "put_statement", (V.ref 225)) :: (112602759066992, "put_if", (V.ref 232)) :: (1926849745209286489456, "put_arith", (V.ref 239)) :: (7234299858213172592, "put_deed", (V.ref 244)) :: (8390891597058045296, "put_sort", (V.ref 251)) :: (1870574153021865096560, "put_range", (V.ref 258)) :: (7809645718610933104, "put_goal", (V.ref 265)) :: (132313319087708173883438448, "put_perform", (V.ref 272)) :: (2128684182195429209456, "put_times", (V.ref 279)) :: (1999847179882304140656, "put_until", (V.ref 286)) :: (8099007543767233904, "put_step", (V.ref 293)) :: (125040765392714392440960368, "put_varying", (V.ref 298)) :: (38927046239517288831045343782998769956208, "put_varying_after", (V.ref 305)) :: (7234307576554155875, "compiled", (V.ref 312)) :: (30506420032202084, "decimal", (V.ref 320)) :: (2036734762514215231852, "labels_in", (V.ref 328)) :: (549795218526974699007846, "form_fault", (V.ref 333)) :: (8746658354059501940, "taken_by", (V.ref 340)) :: (7956987032714165135195496867176, "height_behind", (V.ref 347)) :: (121413986705233232638075255, "ways_behind", (V.ref 352)) :: (9147270068581782644785230210408, "height_faults", (V.ref 357)) :: (121371559917258788743964023, "well_formed", (V.ref 364)) :: (7954887872146926687, "_law_pen", (V.ref 478)) :: (2202184329901648211039, "_law_draw", (V.ref 485)) :: (7378429318866758751, "_law_ref", (V.ref 492)) :: (2111033163393041263711, "_law_expr", (V.ref 499)) :: (1852632095699218033759, "_law_cond", (V.ref 506)) :: (2110522298404939328607, "_law_pair", (V.ref 513)) :: (2074065092073375231071, "_law_loop", (V.ref 518)) :: (2361506002138174999606649543552095, "_law_statement", (V.ref 523)) :: (599475644733643352280613727403863135, "_law_statements", (V.ref 528)) :: (9222778309993789999605916724319, "_law_op_right", (V.ref 533)) :: (1701080899, "Code", (V.ref 117)) :: (499933868612, "Draft", (V.ref 195)) :: (1926559263059124314448, "Paragraph", (V.ref 429)) :: (544943514290133085942352, "Procedures", (V.ref 469)) :: (5522764, "LET", (V.int (-1))) :: (5495871768497180494, "NO_LABEL", (V.int (-1))) :: (1537154627263707697729, "ARGUMENTS", (V.ref 321)) :: (4919417621885047362, "BRANCHED", (V.tuple ((["arith", "divide", "corr", "search", "search-all", "string", "unstring", "read", "write", "rewrite", "delete", "start", "return", "call"] : List Str).map V.str))) :: (23452880686632778, "JOINERS", (V.tuple ((["not", "and", "or"] : List Str).map V.str))) :: (6000006646024458319, "OPERANDS", (V.tuple ((["ref", "number", "text", "figure", "all"] : List Str).map V.str))) :: (361939686737, "QUIET", (V.tuple ((["exit", "continue"] : List Str).map V.str))) :: (7234924, "len", (V.bltn "len")) :: (435526984050, "range", (V.typ "range")) :: (435611006324, "tuple", (V.typ "tuple")) :: (1953720684, "list", (V.typ "list")) :: (7367034, "zip", (V.typ "zip")) :: (7628147, "set", (V.typ "set")) :: (110386908131187, "sorted", (V.bltn "sorted")) :: (7630441, "int", (V.typ "int")) :: (7561825, "abs", (V.bltn "abs")) :: (7500915, "str", (V.typ "str")) :: (7889261, "max", (V.bltn "max")) :: []
noncomputable def tabF : List (Nat × Str × V) := (126965163453537, "always", (V.ref 21)) :: (483625163110925113714030, "negated_if", (V.ref 28)) :: (7381223216518623860, "truth_of", (V.ref 35)) :: (35717054375722995547202219105, "alike_truths", (V.ref 42)) :: (121414097023740662998786671, "object_cond", (V.ref 49)) :: (7236844123825074034, "row_cond", (V.ref 56)) :: (1852632095699152367474, "rows_cond", (V.ref 63)) :: (126883691721569, "as_ifs", (V.ref 70)) :: (545220209834907714809703, "goal_parts", (V.ref 77)) :: (545220209834907850141555, "sort_parts", (V.ref 84)) :: (123836377036144772118573666, "branches_of", (V.ref 90)) :: (1889593155488766386540, "labels_of", (V.ref 128)) :: (474107582169335982744946, "relabelled", (V.ref 133)) :: (31084703186775911, "goes_on", (V.ref 140)) :: (2239892017938211097926400581334384, "put_expression", (V.ref 206)) :: (8749578199608962958723801970032, "put_condition", (V.ref 213)) :: (2341701737240794344846147372479856, "put_statements", (V.ref 220)) :: (9224632820852246092213474588016, "put_statement", (V.ref 225)) :: (112602759066992, "put_if", (V.ref 232)) :: (1926849745209286489456, "put_arith", (V.ref 239)) :: (7234299858213172592, "put_deed", (V.ref 244)) :: (8390891597058045296, "put_sort", (V.ref 251)) :: (1870574153021865096560, "put_range", (V.ref 258)) :: (7809645718610933104, "put_goal", (V.ref 265)) :: (132313319087708173883438448, "put_perform", (V.ref 272)) :: (2128684182195429209456, "put_times", (V.ref 279)) :: (1999847179882304140656, "put_until", (V.ref 286)) :: (8099007543767233904, "put_step", (V.ref 293)) :: (125040765392714392440960368, "put_varying", (V.ref 298)) :: (38927046239517288831045343782998769956208, "put_varying_after", (V.ref 305)) :: (7234307576554155875, "compiled", (V.ref 312)) :: (30506420032202084, "decimal", (V.ref 320)) :: (2036734762514215231852, "labels_in", (V.ref 328)) :: (549795218526974699007846, "form_fault", (V.ref 333)) :: (8746658354059501940, "taken_by", (V.ref 340)) :: (7956987032714165135195496867176, "height_behind", (V.ref 347)) :: (121413986705233232638075255, "ways_behind", (V.ref 352)) :: (9147270068581782644785230210408, "height_faults", (V.ref 357)) :: (121371559917258788743964023, "well_formed", (V.ref 364)) :: (7954887872146926687, "_law_pen", (V.ref 478)) :: (2202184329901648211039, "_law_draw", (V.ref 485)) :: (7378429318866758751, "_law_ref", (V.ref 492)) :: (2111033163393041263711, "_law_expr", (V.ref 499)) :: (1852632095699218033759, "_law_cond", (V.ref 506)) :: (2110522298404939328607, "_law_pair", (V.ref 513)) :: (2074065092073375231071, "_law_loop", (V.ref 518)) :: (2361506002138174999606649543552095, "_law_statement", (V.ref 523)) :: (599475644733643352280613727403863135, "_law_statements", (V.ref 528)) :: (9222778309993789999605916724319, "_law_op_right", (V.ref 533)) :: (1701080899, "Code", (V.ref 117)) :: (499933868612, "Draft", (V.ref 195)) :: (1926559263059124314448, "Paragraph", (V.ref 429)) :: (544943514290133085942352, "Procedures", (V.ref 469)) :: (7234924, "len", (V.bltn "len")) :: (435526984050, "range", (V.typ "range")) :: (435611006324, "tuple", (V.typ "tuple")) :: (1953720684, "list", (V.typ "list")) :: (7367034, "zip", (V.typ "zip")) :: (7628147, "set", (V.typ "set")) :: (110386908131187, "sorted", (V.bltn "sorted")) :: (7630441, "int", (V.typ "int")) :: (7561825, "abs", (V.bltn "abs")) :: (7500915, "str", (V.typ "str")) :: (7889261, "max", (V.bltn "max")) :: []
noncomputable def AllT (P : Str → V → Prop) : List (Nat × Str × V) → Prop
  | [] => True
  | q :: r => P q.2.1 q.2.2 ∧ AllT P r
theorem AllT.of {P : Str → V → Prop} : ∀ {l : List (Nat × Str × V)}, AllT P l → ∀ q ∈ l, P q.2.1 q.2.2
  | q :: r, h, _, .head _ => h.1
  | q :: r, h, _, .tail _ m => AllT.of (l := r) h.2 _ m
theorem tabs : Tabs tabT tabF := ⟨AllT.of (P := fun x X => GL x X ∨ BL x X) (l := tabT) ⟨.inl g_always, .inl g_negated_if, .inl g_truth_of, .inl g_alike_truths, .inl g_object_cond, .inl g_row_cond, .inl g_rows_cond, .inl g_as_ifs, .inl g_goal_parts, .inl g_sort_parts, .inl g_branches_of, .inl g_labels_of, .inl g_relabelled, .inl g_goes_on, .inl g_put_expression, .inl g_put_condition, .inl g_put_statements, .inl g_put_statement, .inl g_put_if, .inl g_put_arith, .inl g_put_deed, .inl g_put_sort, .inl g_put_range, .inl g_put_goal, .inl g_put_perform, .inl g_put_times, .inl g_put_until, .inl g_put_step, .inl g_put_varying, .inl g_put_varying_after, .inl g_compiled, .inl g_decimal, .inl g_labels_in, .inl g_form_fault, .inl g_taken_by, .inl g_height_behind, .inl g_ways_behind, .inl g_height_faults, .inl g_well_formed, .inl g_law_pen, .inl g_law_draw, .inl g_law_ref, .inl g_law_expr, .inl g_law_cond, .inl g_law_pair, .inl g_law_loop, .inl g_law_statement, .inl g_law_statements, .inl g_law_op_right, .inl g_Code, .inl g_Draft, .inl g_Paragraph, .inl g_Procedures, .inl g_LET, .inl g_NO_LABEL, .inl g_ARGUMENTS, .inl g_BRANCHED, .inl g_JOINERS, .inl g_OPERANDS, .inl g_QUIET, .inr b_len, .inr b_range, .inr b_tuple, .inr b_list, .inr b_zip, .inr b_set, .inr b_sorted, .inr b_int, .inr b_abs, .inr b_str, .inr b_max, trivial⟩, AllT.of (P := fun x X => (GL x X ∨ BL x X) ∧ Callable X) (l := tabF) ⟨⟨.inl g_always, k_always⟩, ⟨.inl g_negated_if, k_negated_if⟩, ⟨.inl g_truth_of, k_truth_of⟩, ⟨.inl g_alike_truths, k_alike_truths⟩, ⟨.inl g_object_cond, k_object_cond⟩, ⟨.inl g_row_cond, k_row_cond⟩, ⟨.inl g_rows_cond, k_rows_cond⟩, ⟨.inl g_as_ifs, k_as_ifs⟩, ⟨.inl g_goal_parts, k_goal_parts⟩, ⟨.inl g_sort_parts, k_sort_parts⟩, ⟨.inl g_branches_of, k_branches_of⟩, ⟨.inl g_labels_of, k_labels_of⟩, ⟨.inl g_relabelled, k_relabelled⟩, ⟨.inl g_goes_on, k_goes_on⟩, ⟨.inl g_put_expression, k_put_expression⟩, ⟨.inl g_put_condition, k_put_condition⟩, ⟨.inl g_put_statements, k_put_statements⟩, ⟨.inl g_put_statement, k_put_statement⟩, ⟨.inl g_put_if, k_put_if⟩, ⟨.inl g_put_arith, k_put_arith⟩, ⟨.inl g_put_deed, k_put_deed⟩, ⟨.inl g_put_sort, k_put_sort⟩, ⟨.inl g_put_range, k_put_range⟩, ⟨.inl g_put_goal, k_put_goal⟩, ⟨.inl g_put_perform, k_put_perform⟩, ⟨.inl g_put_times, k_put_times⟩, ⟨.inl g_put_until, k_put_until⟩, ⟨.inl g_put_step, k_put_step⟩, ⟨.inl g_put_varying, k_put_varying⟩, ⟨.inl g_put_varying_after, k_put_varying_after⟩, ⟨.inl g_compiled, k_compiled⟩, ⟨.inl g_decimal, k_decimal⟩, ⟨.inl g_labels_in, k_labels_in⟩, ⟨.inl g_form_fault, k_form_fault⟩, ⟨.inl g_taken_by, k_taken_by⟩, ⟨.inl g_height_behind, k_height_behind⟩, ⟨.inl g_ways_behind, k_ways_behind⟩, ⟨.inl g_height_faults, k_height_faults⟩, ⟨.inl g_well_formed, k_well_formed⟩, ⟨.inl g_law_pen, k_law_pen⟩, ⟨.inl g_law_draw, k_law_draw⟩, ⟨.inl g_law_ref, k_law_ref⟩, ⟨.inl g_law_expr, k_law_expr⟩, ⟨.inl g_law_cond, k_law_cond⟩, ⟨.inl g_law_pair, k_law_pair⟩, ⟨.inl g_law_loop, k_law_loop⟩, ⟨.inl g_law_statement, k_law_statement⟩, ⟨.inl g_law_statements, k_law_statements⟩, ⟨.inl g_law_op_right, k_law_op_right⟩, ⟨.inl g_Code, k_Code⟩, ⟨.inl g_Draft, k_Draft⟩, ⟨.inl g_Paragraph, k_Paragraph⟩, ⟨.inl g_Procedures, k_Procedures⟩, ⟨.inr b_len, trivial⟩, ⟨.inr b_range, trivial⟩, ⟨.inr b_tuple, trivial⟩, ⟨.inr b_list, trivial⟩, ⟨.inr b_zip, trivial⟩, ⟨.inr b_set, trivial⟩, ⟨.inr b_sorted, trivial⟩, ⟨.inr b_int, trivial⟩, ⟨.inr b_abs, trivial⟩, ⟨.inr b_str, trivial⟩, ⟨.inr b_max, trivial⟩, trivial⟩⟩
theorem gl_of {x : Str} {X : V} (h : gname tabT x = some X) : GL x X ∨ BL x X := gname_of (P := fun x X => GL x X ∨ BL x X) tabs.gl h
theorem fn_of {x : Str} {X : V} (h : gname tabF x = some X) : (GL x X ∨ BL x X) ∧ Callable X := gname_of (P := fun x X => (GL x X ∨ BL x X) ∧ Callable X) tabs.fn h
section
variable {C : Cx} {n : Nat} {env : Env} {ρ : Loc} {σ : Store}
theorem kOf_dbg (hE : PlainF env) {x : Str} {k : NameKind} (h : env.kindOf x = some k) : (x == ("__debug__" : Str)) = false := by
  cases q : x == ("__debug__" : Str) with
  | false => rfl
  | true => rw [beq_iff_eq.mp q, hE.dbg] at h; cases h
theorem name_glob (hK : C.K = KK C.w.params) (hE : PlainF env) {x : Str} {p : Pos} {X : V} {Φ : V → Store → Prop} (hk : env.kindOf x = some .globalImplicit) (g : GL x X ∨ BL x X) (h : Φ X σ) : TE C n env ρ σ (.Name x p) Φ :=
  g.elim (fun g => TE_gl hK g hE.kind hk hE.gl h (kOf_dbg hE hk)) fun g => TE_bl hK g hE.kind hk hE.gl hE.bl h (kOf_dbg hE hk)
theorem b_wrap {X : Bool} {Φ : Bool → Store → Prop} (h : Φ X σ) : ∃ b, V.bool X = .bool b ∧ Φ b σ := ⟨X, rfl, h⟩
theorem notSet_fold {iter : Expr} (h : notSet iter = true) : ∀ x, foldedSetIterable iter env x = pure x := by
  intro x; cases iter <;> first | rfl | cases h
theorem compOk_of {scope : Scope} {x : Str} {iter : Expr} (h : compOk scope x iter = true) : (∀ y ∈ scope.names, y.2 ≠ .cell) ∧ scope.kind = .function ∧ (∀ y ∈ scope.names, y.2 = .local → scope.names.lookup y.1 = some .local) ∧ scope.names.lookup x = some .local ∧ notSet iter = true := by
  unfold compOk at h
  simp only [Bool.and_eq_true] at h
  obtain ⟨⟨⟨⟨h1, h2⟩, h3⟩, h4⟩, h5⟩ := h
  refine ⟨fun y hy => by simpa using List.all_eq_true.mp h1 y hy, beq_iff_eq.mp h2, fun y hy e => ?_, beq_iff_eq.mp h4, h5⟩
  have := List.all_eq_true.mp h3 y hy
  rw [e] at this
  exact beq_iff_eq.mp (by simpa using this)
theorem noStar_cons {t : Expr} {ts : List Expr} (h : (t :: ts).all noStar = true) : noStar t = true ∧ ts.all noStar = true := by rwa [List.all_cons, Bool.and_eq_true] at h
theorem each_len : ∀ {ts : List Expr}, (assignEach ts env).length = ts.length
  | [] => rfl
  | t :: ts => by
    have := each_len (ts := ts)
    cases t <;> (show (_ :: assignEach ts env).length = _; simp [this])
theorem each_star : ∀ {ts : List Expr}, ts.all noStar = true → (assignEach ts env).findIdx? (·.1) = none
  | [], _ => rfl
  | t :: ts, h => by
    rw [List.all_cons, Bool.and_eq_true] at h
    rw [noStar_assign h.1, List.findIdx?_cons, each_star h.2]
    rfl
theorem swap_stores (hE : PlainF env) {n1 n2 : Str} {p1 p2 tp ep : Pos} {k k2 : Nat} {e1 e2 : Expr} (h : swapOk env n1 n2 p1 p2 e1 e2 = true) : swappedStores [.Tuple [.Name n1 p1, .Name n2 p2] k tp] (.Tuple [e1, e2] k2 ep) env = pure (some [n1, n2]) := by
  unfold swapOk at h
  simp only [Bool.and_eq_true, Bool.not_eq_true'] at h
  obtain ⟨⟨⟨⟨⟨⟨⟨h1, h2⟩, h3⟩, h4⟩, h5⟩, h6⟩, h7⟩, h8⟩ := h
  have b : (env.blockKind != .function) = false := by unfold Env.blockKind; rw [hE.kind]; rfl
  have s : ∀ {g : Expr → Bool}, g e1 = false → g e2 = false → [e1, e2].any g = false := fun {g} a b => by
    rw [List.any_cons, List.any_cons, List.any_nil, a, b]; rfl
  have l : (p1.line == p2.line) = true := beq_iff_eq.mpr (Nat.eq_of_beq_eq_true h3)
  have f : ∀ {g : Expr → Option Str}, g (.Name n1 p1) = some n1 → g (.Name n2 p2) = some n2 → ([.Name n1 p1, .Name n2 p2] : List Expr).filterMap g = [n1, n2] := fun {g} a b => by
    rw [List.filterMap_cons, a, List.filterMap_cons, b]; rfl
  have d : [n1, n2].eraseDups = [n1, n2] := by
    have : n1 ≠ n2 := fun e => by rw [e, beq_self_eq_true] at h4; cases h4
    have : ¬ n2 = n1 := fun e => this e.symm
    simp [List.eraseDups_cons, this]
  unfold swappedStores
  dsimp only
  rw [f (if_pos (by rw [h1, Bool.true_and]; exact beq_self_eq_true _)) (if_pos (by rw [h2, Bool.true_and, BEq.comm]; exact l)), d, b, s (by cases e1 <;> first | rfl | exact (Bool.false_ne_true h5).elim) (by cases e2 <;> first | rfl | exact (Bool.false_ne_true h6).elim), h7, h8]
  rfl
theorem swaps_comp (hE : PlainF env) {y : Str} {py : Pos} {elt : Expr} {gens : List Comprehension} {scope : Scope} {q : Pos} (l : Nat) (h : swOk env y py scope q = true) : swapsWith (.ListComp elt gens scope q) (some (.Name y py)) l env = pure true := by
  unfold swOk at h
  rw [Bool.and_eq_true, Bool.and_eq_true] at h
  have b : (env.blockKind == .function) = true := by unfold Env.blockKind; rw [hE.kind]; rfl
  have e2 : (py.line == q.line) = true := beq_iff_eq.mpr (Nat.eq_of_beq_eq_true h.1.2)
  show (pure (env.blockKind == .function && env.kindOf y == some .local && py.line == q.line && !(scope.names.any fun (n, k) => n == y && (k == .local || k == .cell))) : Sem Bool) = pure true
  rw [b, h.1.1, e2]
  exact congrArg pure h.2
theorem plainT_of {x : Expr} (h : plainT x = true) : isTrue x env (eval x env) = (do let v ← eval x env; standAt x.pos; holding [v] (truthy v)) := by
  cases x <;> first | rfl | cases h
theorem call_keep (hK : C.K = KK C.w.params) {Fv : V} : Callable Fv → (match Fv with | .ref a => keepIn C.K (.ref a) = true | .bltn _ => True | .typ _ => True | _ => False) := fun c => by
  cases Fv <;> first | exact KP.at hK c | exact c
end
set_option genInjectivity false in
structure Cert (G : Prop) where
  p : Prop
  ok : p → G
section
variable (C : Cx) (n : Nat)
noncomputable def Un (env : Env) (G : Prop) : Prop := C.K = KK C.w.params → PlainF env → G
set_option genInjectivity false in
structure Wp where
  ce : ∀ env ρ x (Φ : V → Store → Prop) σ, Cert (Un C env (TE C n env ρ σ x Φ))
  cl : ∀ env ρ xs (Φ : List V → Store → Prop) σ, Cert (Un C env (∀ p, TL C n env ρ σ p xs Φ))
  cb : ∀ env ρ x (Φ : Bool → Store → Prop) σ, Cert (Un C env (TB C n env ρ σ x Φ))
  ca : ∀ env ρ t X (N : Loc → Store → Prop) σ, Cert (Un C env (TA C n env ρ σ t X N))
  cs : ∀ env ρ st (N : Loc → Store → Prop) (J : Fl → Loc → Store → Prop) σ, Cert (Un C env (TS C n env ρ σ st (kJ N J)))
  css : ∀ env ρ st (N : Loc → Store → Prop) (J : Fl → Loc → Store → Prop) σ, Cert (Un C env (TSS C n env ρ σ st (kJ N J)))
end
section
variable {C : Cx} {n : Nat} (w : Wp C n) (env : Env) (ρ : Loc)
noncomputable abbrev Wp.e (x : Expr) (Φ : V → Store → Prop) (σ : Store) : Prop := (w.ce env ρ x Φ σ).p
noncomputable abbrev Wp.l (x : List Expr) (Φ : List V → Store → Prop) (σ : Store) : Prop := (w.cl env ρ x Φ σ).p
noncomputable abbrev Wp.b (x : Expr) (Φ : Bool → Store → Prop) (σ : Store) : Prop := (w.cb env ρ x Φ σ).p
noncomputable abbrev Wp.a (t : Expr) (X : V) (N : Loc → Store → Prop) (σ : Store) : Prop := (w.ca env ρ t X N σ).p
noncomputable abbrev Wp.s (st : Stmt) (N : Loc → Store → Prop) (J : Fl → Loc → Store → Prop) (σ : Store) : Prop := (w.cs env ρ st N J σ).p
noncomputable abbrev Wp.ss (st : List Stmt) (N : Loc → Store → Prop) (J : Fl → Loc → Store → Prop) (σ : Store) : Prop := (w.css env ρ st N J σ).p
structure Sound (C : Cx) (n : Nat) (w : Wp C n) : Prop where
  e : ∀ {env ρ x Φ σ}, PlainF env → w.e env ρ x Φ σ → TE C n env ρ σ x Φ
  l : ∀ {env ρ x Φ σ} (p : Pos), PlainF env → w.l env ρ x Φ σ → TL C n env ρ σ p x Φ
  b : ∀ {env ρ x Φ σ}, PlainF env → w.b env ρ x Φ σ → TB C n env ρ σ x Φ
  a : ∀ {env ρ t X N σ}, PlainF env → w.a env ρ t X N σ → TA C n env ρ σ t X N
  s : ∀ {env ρ st N J σ}, PlainF env → w.s env ρ st N J σ → TS C n env ρ σ st (kJ N J)
  ss : ∀ {env ρ st N J σ}, PlainF env → w.ss env ρ st N J σ → TSS C n env ρ σ st (kJ N J)
theorem Wp.sound (hK : C.K = KK C.w.params) : Sound C n w :=
  ⟨fun hE h => (w.ce ..).ok h hK hE, fun p hE h => (w.cl ..).ok h hK hE p, fun hE h => (w.cb ..).ok h hK hE, fun hE h => (w.ca ..).ok h hK hE, fun hE h => (w.cs ..).ok h hK hE, fun hE h => (w.css ..).ok h hK hE⟩
end
section
variable (C : Cx) (n : Nat)
noncomputable def cBin (op : Operator) (X Y : V) (Φ : V → Store → Prop) (σ : Store) : Cert (TO2 C n σ (binaryOp op) X Y Φ) := match op, X, Y with
  | .Add, .int a, .int b => ⟨Φ (.int (a + b)) σ, O_add⟩
  | .Sub, .int a, .int b => ⟨Φ (.int (a - b)) σ, O_sub⟩
  | op, X, Y => ⟨SO C n (binaryOp op) X Y Φ σ, SO.run⟩
noncomputable def wBin (op : Operator) (X Y : V) (Φ : V → Store → Prop) (σ : Store) : Prop := (cBin C n op X Y Φ σ).p
noncomputable abbrev CB (op : CmpOp) (X Y : V) (Φ : Bool → Store → Prop) (σ : Store) := Cert (TO2 C n σ (compareOp op) X Y fun Z σ' => ∃ b, Z = .bool b ∧ Φ b σ')
noncomputable abbrev cB0 (op : CmpOp) (X Y : V) (Φ : Bool → Store → Prop) (σ : Store) : CB C n op X Y Φ σ := ⟨SB C n op X Y Φ σ, SB.run⟩
noncomputable def cEq (X Y : V) (Φ : Bool → Store → Prop) (σ : Store) : CB C n .Eq X Y Φ σ := match X, Y with
  | .int a, .int b => ⟨Φ (a == b) σ, fun h => O_eqInt (b_wrap h)⟩
  | .str a, .str b => ⟨Φ (a == b) σ, fun h => O_eqStr (b_wrap h)⟩
  | .bool a, .bool b => ⟨Φ (a == b) σ, fun h => O_eqData rfl rfl (b_wrap (by cases a <;> cases b <;> exact h))⟩
  | X, Y => cB0 C n .Eq X Y Φ σ
noncomputable def wEq (X Y : V) (Φ : Bool → Store → Prop) (σ : Store) : Prop := (cEq C n X Y Φ σ).p
noncomputable def cNe (X Y : V) (Φ : Bool → Store → Prop) (σ : Store) : CB C n .NotEq X Y Φ σ := match X, Y with
  | .int a, .int b => ⟨Φ (a != b) σ, fun h => O_neInt (b_wrap h)⟩
  | .str a, .str b => ⟨Φ (a != b) σ, fun h => O_neStr (b_wrap h)⟩
  | X, Y => cB0 C n .NotEq X Y Φ σ
noncomputable def cIn (X Y : V) (Φ : Bool → Store → Prop) (σ : Store) : CB C n .In X Y Φ σ := match X, Y with
  | .str x, .tuple Ys => (match e : allStr Ys with
    | true => ⟨Φ ((strsOf Ys).any (· == x)) σ, fun h => O_inT2 (b_wrap h) (strs_of e)⟩
    | false => cB0 C n .In (.str x) (.tuple Ys) Φ σ)
  | X, Y => cB0 C n .In X Y Φ σ
theorem strs_ok {x : Str} {Ys : List V} (e : (allStr Ys && (strOkL x && (strsOf Ys).all strOkL)) = true) : allStr Ys = true ∧ PyData.strOk x = true ∧ (strsOf Ys).all PyData.strOk = true := by
  rw [Bool.and_eq_true, Bool.and_eq_true] at e
  exact ⟨e.1, strOkL_of e.2.1, List.all_eq_true.mpr fun y hy => strOkL_of (List.all_eq_true.mp e.2.2 y hy)⟩
noncomputable def cNotInT (x : Str) (Ys : List V) (Φ : Bool → Store → Prop) (σ : Store) (b : Bool) (e : (allStr Ys && (strOkL x && (strsOf Ys).all strOkL)) = b) : CB C n .NotIn (.str x) (.tuple Ys) Φ σ := match b, e with
  | true, e => ⟨Φ (!(strsOf Ys).any (· == x)) σ, fun h => O_notInT2 (strs_ok e).2.1 (strs_ok e).2.2 (b_wrap h) (strs_of (strs_ok e).1)⟩
  | false, _ => cB0 C n .NotIn (.str x) (.tuple Ys) Φ σ
noncomputable def cNotIn (X Y : V) (Φ : Bool → Store → Prop) (σ : Store) : CB C n .NotIn X Y Φ σ := match X, Y with
  | .str x, .tuple Ys => cNotInT C n x Ys Φ σ _ rfl
  | X, Y => cB0 C n .NotIn X Y Φ σ
noncomputable def wNotIn (X Y : V) (Φ : Bool → Store → Prop) (σ : Store) : Prop := (cNotIn C n X Y Φ σ).p
noncomputable def cCmp (op : CmpOp) (X Y : V) (Φ : Bool → Store → Prop) (σ : Store) : CB C n op X Y Φ σ := match op with
  | .Eq => ⟨wEq C n X Y Φ σ, (cEq C n X Y Φ σ).ok⟩
  | .NotEq => cNe C n X Y Φ σ
  | .In => cIn C n X Y Φ σ
  | .NotIn => ⟨wNotIn C n X Y Φ σ, (cNotIn C n X Y Φ σ).ok⟩
  | .Lt => (match X, Y with
    | .int a, .int b => ⟨Φ (decide (a < b)) σ, fun h => O_lt (b_wrap h)⟩
    | X, Y => cB0 C n .Lt X Y Φ σ)
  | .LtE => (match X, Y with
    | .int a, .int b => ⟨Φ (decide (a ≤ b)) σ, fun h => O_le (b_wrap h)⟩
    | X, Y => cB0 C n .LtE X Y Φ σ)
  | .Gt => (match X, Y with
    | .int a, .int b => ⟨Φ (decide (a > b)) σ, fun h => O_gt (b_wrap h)⟩
    | X, Y => cB0 C n .Gt X Y Φ σ)
  | .GtE => (match X, Y with
    | .int a, .int b => ⟨Φ (decide (a ≥ b)) σ, fun h => O_ge (b_wrap h)⟩
    | X, Y => cB0 C n .GtE X Y Φ σ)
  | .Is => (match Y with
    | .none => ⟨Φ X.isNone σ, fun h => O_is (b_wrap h)⟩
    | Y => cB0 C n .Is X Y Φ σ)
  | .IsNot => (match Y with
    | .none => ⟨Φ (!X.isNone) σ, fun h => O_isNot (b_wrap h)⟩
    | Y => cB0 C n .IsNot X Y Φ σ)
theorem cNotInT_at {x : Str} {Ys : List V} {Φ : Bool → Store → Prop} {σ : Store} (h : Φ (!(strsOf Ys).any (· == x)) σ) : ∀ b (e : (allStr Ys && (strOkL x && (strsOf Ys).all strOkL)) = b), b = true → (cNotInT C n x Ys Φ σ b e).p := fun b e q => by subst q; exact h
noncomputable def wCmp (op : CmpOp) (X Y : V) (Φ : Bool → Store → Prop) (σ : Store) : Prop := (cCmp C n op X Y Φ σ).p
theorem seqIdx {j m : Nat} (h : j < m) : seqIndex? (j : Int) m = some j := by
  have h0 : ¬ ((j : Int) < 0) := Int.not_lt.mpr (Int.natCast_nonneg j)
  unfold seqIndex?
  simp only [if_neg h0, decide_eq_true (Int.natCast_nonneg j), decide_eq_true (Int.ofNat_lt.mpr h), Bool.and_self, if_true, Int.toNat_natCast]
theorem itemT_ok {v i : Expr} {Xs : List V} {j : Nat} {Z : V} {Φ : V → Store → Prop} {σ : Store} (hi : notSlice i = true) (z1 : Nat.ble j 100 = true) (hz : Xs[j]? = some Z) (h : Φ Z σ) : TO2 C n σ (subscriptTail v i) (.tuple Xs) (.int (.ofNat j)) Φ := by
  have z1 := Nat.le_of_ble_eq_true z1
  have l := (List.getElem?_eq_some_iff.mp hz).1
  exact O_itemT (j := j) (Int.le_trans (by decide) (Int.natCast_nonneg j)) (Int.lt_of_le_of_lt (Int.ofNat_le.mpr z1) (by decide)) (seqIdx l) hz h fun t u => notSlice_sub hi
noncomputable def cSub (v i : Expr) (hi : notSlice i = true) (X Y : V) (Φ : V → Store → Prop) (σ : Store) : Cert (TO2 C n σ (subscriptTail v i) X Y Φ) := match X, Y with
  | .tuple Xs, .int (.ofNat j) => (match z : Nat.ble j 100 with
    | true => (match hz : Xs[j]? with
      | some Z => ⟨Φ Z σ, itemT_ok C n hi z hz⟩
      | none => ⟨SO C n (subscriptTail v i) (.tuple Xs) (.int (.ofNat j)) Φ σ, SO.run⟩)
    | false => ⟨SO C n (subscriptTail v i) (.tuple Xs) (.int (.ofNat j)) Φ σ, SO.run⟩)
  | X, Y => ⟨SO C n (subscriptTail v i) X Y Φ σ, SO.run⟩
noncomputable abbrev wSub (v i : Expr) (hi : notSlice i = true) (X Y : V) (Φ : V → Store → Prop) (σ : Store) : Prop := (cSub C n v i hi X Y Φ σ).p
noncomputable def cTruth (X : V) (Φ : Bool → Store → Prop) (σ : Store) : Cert (TT C n σ X Φ) := match X with
  | .bool b => ⟨Φ b σ, T_bool⟩
  | X => ⟨ST C n X Φ σ, ST.run⟩
noncomputable def wTruth (X : V) (Φ : Bool → Store → Prop) (σ : Store) : Prop := (cTruth C n X Φ σ).p
noncomputable def cNeg (X : V) (Φ : V → Store → Prop) (σ : Store) : Cert (∃ i, X = .int i ∧ Φ (.int (-i)) σ) := match X with
  | .int i => ⟨Φ (.int (-i)) σ, fun h => ⟨i, rfl, h⟩⟩
  | _ => ⟨False, False.elim⟩
end
section
variable {C : Cx} {n : Nat}
noncomputable abbrev PV (C : Cx) (n : Nat) (env : Env) (ρ : Loc) (e : Expr) := { X : V // ∀ {σ : Store} {Φ : V → Store → Prop}, Φ X σ → Un C env (TE C n env ρ σ e Φ) }
noncomputable abbrev PVs (C : Cx) (n : Nat) (env : Env) (ρ : Loc) (es : List Expr) := { Xs : List V // es.all noStar = true → ∀ (p : Pos) {σ : Store} {Φ : List V → Store → Prop}, Φ Xs σ → Un C env (TL C n env ρ σ p es Φ) }
noncomputable def pL (env : Env) (ρ : Loc) (g : ∀ e, Option (PV C n env ρ e)) (es : List Expr) : Option (PVs C n env ρ es) := @List.rec Expr (fun es => Option (PVs C n env ρ es)) (some ⟨[], fun _ _ _ _ h _ _ => TL_nil h⟩)
  (fun e es r => match g e, r with
    | some ⟨X, a⟩, some ⟨Xs, b⟩ => some ⟨X :: Xs, fun hs p _ _ h hK hE => TL_cons (a (b (noStar_cons hs).2 p h hK hE) hK hE) (noStar_each (noStar_cons hs).1 es)⟩
    | _, _ => none) es
noncomputable def pName (env : Env) (ρ : Loc) (x : Str) (p : Pos) : Option (PV C n env ρ (.Name x p)) := match hk : env.kindOf x with
  | some .local => (match hx : ρ x with
    | some X => some ⟨X, fun h _ hE => TE_local hE.kind hk hx h (kOf_dbg hE hk)⟩
    | none => none)
  | some .globalImplicit => (match hx : gname tabT x with
    | some X => some ⟨X, fun h hK hE => name_glob hK hE hk (gl_of hx) h⟩
    | none => none)
  | _ => none
noncomputable def pConst (env : Env) (ρ : Loc) (c : Const) (k : Nat) (p : Pos) : Option (PV C n env ρ (.Constant c k p)) := match c with
  | .int i => some ⟨.int i, fun h _ _ => TE_int h⟩
  | .str x => some ⟨.str x, fun h _ _ => TE_str h⟩
  | .bool b => some ⟨.bool b, fun h _ _ => TE_bool h⟩
  | .none => some ⟨.none, fun h _ _ => TE_none h⟩
  | _ => none
noncomputable def pS (g : ∀ env ρ e, Option (PV C n env ρ e)) (env : Env) (ρ : Loc) (e : Expr) : Option (PV C n env ρ e) := match e with
  | .Name x p => pName env ρ x p
  | .Constant c k p => pConst env ρ c k p
  | .Tuple es k p => (match hs : es.all noStar, pL env ρ (g env ρ) es with
    | true, some ⟨Xs, b⟩ => (match hz : Nat.ble Xs.length 1000 with
      | true => some ⟨.tuple Xs, fun h hK hE => TE_tuple (b hs _ ⟨Nat.le_trans (Nat.le_of_ble_eq_true hz) (by decide), h⟩ hK hE)⟩
      | false => none)
    | _, _ => none)
  | .Subscript v i p => (match hi : notSlice i, g env ρ v, g env ρ i with
    | true, some ⟨.tuple Xs, a⟩, some ⟨.int (.ofNat j), b⟩ => (match z : Nat.ble j 100, hz : Xs[j]? with
      | true, some Z => some ⟨Z, fun h hK hE => TE_sub (a (b (itemT_ok C n hi z hz h) hK hE) hK hE)⟩
      | _, _ => none)
    | _, _, _ => none)
  | .BinOp l op r p => (match op, g env ρ l, g env ρ r with
    | .Add, some ⟨.int x, a⟩, some ⟨.int y, b⟩ => some ⟨.int (x + y), fun h hK hE => TE_bin (a (b (O_add h) hK hE) hK hE)⟩
    | .Sub, some ⟨.int x, a⟩, some ⟨.int y, b⟩ => some ⟨.int (x - y), fun h hK hE => TE_bin (a (b (O_sub h) hK hE) hK hE)⟩
    | _, _, _ => none)
  | .UnaryOp .USub y p => (match g env ρ y with
    | some ⟨.int x, a⟩ => some ⟨.int (-x), fun h hK hE => TE_neg (a ⟨x, rfl, h⟩ hK hE)⟩
    | _ => none)
  | _ => none
noncomputable def pE : Nat → ∀ env ρ e, Option (PV C n env ρ e) := Nat.rec (fun _ _ _ => none) (fun _ g => pS g)
end
section
variable {C : Cx} {n : Nat} (w : Wp C n) (env : Env) (ρ : Loc)
noncomputable abbrev stE (x : Expr) (Φ : V → Store → Prop) (σ : Store) : Cert (Un C env (TE C n env ρ σ x Φ)) := ⟨SE C n env ρ x Φ σ, fun h _ _ => h.run⟩
noncomputable abbrev stS (st : Stmt) (N : Loc → Store → Prop) (J : Fl → Loc → Store → Prop) (σ : Store) : Cert (Un C env (TS C n env ρ σ st (kJ N J))) := ⟨SS C n env ρ st N J σ, fun h _ _ => h.run⟩
noncomputable abbrev stA (t : Expr) (X : V) (N : Loc → Store → Prop) (σ : Store) : Cert (Un C env (TA C n env ρ σ t X N)) := ⟨SAs C n env ρ t X N σ, fun h _ _ => h.run⟩
noncomputable def cLoc (x : Str) (p : Pos) (Φ : V → Store → Prop) (σ : Store) (hk : env.kindOf x = some .local) (o : Option V) (hx : ρ x = o) : Cert (Un C env (TE C n env ρ σ (.Name x p) Φ)) := match o, hx with
  | some X, hx => ⟨Φ X σ, fun h _ hE => TE_local hE.kind hk hx h (kOf_dbg hE hk)⟩
  | none, _ => stE env ρ (.Name x p) Φ σ
noncomputable def cNameK (x : Str) (p : Pos) (Φ : V → Store → Prop) (σ : Store) (k : Option NameKind) (hk : env.kindOf x = k) : Cert (Un C env (TE C n env ρ σ (.Name x p) Φ)) := match k, hk with
  | some .local, hk => cLoc env ρ x p Φ σ hk (ρ x) rfl
  | some .globalImplicit, hk => (match hx : gname tabT x with
    | some X => ⟨Φ X σ, fun h hK hE => name_glob hK hE hk (gl_of hx) h⟩
    | none => stE env ρ (.Name x p) Φ σ)
  | some .cell, hk => (match hx : env.cells.lookup x with
    | some c => ⟨SCell c Φ σ, fun h _ hE => h.run.elim fun X q => TE_cell hE.kind hk hx q.1 q.2 (kOf_dbg hE hk)⟩
    | none => stE env ρ (.Name x p) Φ σ)
  | _, _ => stE env ρ (.Name x p) Φ σ
noncomputable def cName (x : Str) (p : Pos) (Φ : V → Store → Prop) (σ : Store) : Cert (Un C env (TE C n env ρ σ (.Name x p) Φ)) := cNameK env ρ x p Φ σ (env.kindOf x) rfl
noncomputable def cConst (c : Const) (k : Nat) (p : Pos) (Φ : V → Store → Prop) (σ : Store) : Cert (Un C env (TE C n env ρ σ (.Constant c k p) Φ)) := match c with
  | .int i => ⟨Φ (.int i) σ, fun h _ _ => TE_int h⟩
  | .str x => ⟨Φ (.str x) σ, fun h _ _ => TE_str h⟩
  | .bool b => ⟨Φ (.bool b) σ, fun h _ _ => TE_bool h⟩
  | .none => ⟨Φ .none σ, fun h _ _ => TE_none h⟩
  | c => stE env ρ (.Constant c k p) Φ σ
variable {env ρ} {w}
theorem Wp.e.ok {x : Expr} {Φ : V → Store → Prop} {σ : Store} (h : w.e env ρ x Φ σ) : Un C env (TE C n env ρ σ x Φ) := (w.ce env ρ x Φ σ).ok h
theorem Wp.l.ok {x : List Expr} {Φ : List V → Store → Prop} {σ : Store} (h : w.l env ρ x Φ σ) : Un C env (∀ p, TL C n env ρ σ p x Φ) := (w.cl env ρ x Φ σ).ok h
theorem Wp.b.ok {x : Expr} {Φ : Bool → Store → Prop} {σ : Store} (h : w.b env ρ x Φ σ) : Un C env (TB C n env ρ σ x Φ) := (w.cb env ρ x Φ σ).ok h
theorem Wp.a.ok {x : Expr} {X : V} {Φ : Loc → Store → Prop} {σ : Store} (h : w.a env ρ x X Φ σ) : Un C env (TA C n env ρ σ x X Φ) := (w.ca env ρ x X Φ σ).ok h
theorem Wp.s.ok {st : Stmt} {N : Loc → Store → Prop} {J : Fl → Loc → Store → Prop} {σ : Store} (h : w.s env ρ st N J σ) : Un C env (TS C n env ρ σ st (kJ N J)) := (w.cs env ρ st N J σ).ok h
theorem Wp.ss.ok {st : List Stmt} {N : Loc → Store → Prop} {J : Fl → Loc → Store → Prop} {σ : Store} (h : w.ss env ρ st N J σ) : Un C env (TSS C n env ρ σ st (kJ N J)) := (w.css env ρ st N J σ).ok h
theorem comp_ok {elt iter : Expr} {x : Str} {px : Pos} {ifs : List Expr} {scope : Scope} {cl : List (Str × Addr)} {p : Pos} {Φ : V → Store → Prop} {σ : Store} (c1 : compOk scope x iter = true) (c2 : closA env.cells scope.names [] = some cl)
    (h : w.e env ρ iter (fun X => SComp C n env scope cl x elt ifs X Φ) σ) : Un C env (TE C n env ρ σ (.ListComp elt [⟨.Name x px, iter, ifs, 0⟩] scope p) Φ) := fun hK hE =>
  have d := compOk_of c1
  TE_drop (TE_comp ((h.ok hK hE).mono fun X σ' h => h.run) (closA_closure c2) d.1 d.2.1 d.2.2.1 d.2.2.2.1 (notSet_fold d.2.2.2.2))
theorem compT_ok {f elt iter : Expr} {x : Str} {px : Pos} {ifs : List Expr} {scope : Scope} {cl : List (Str × Addr)} {cp p : Pos} {Φ : V → Store → Prop} {σ : Store} (hf : ∀ {σ : Store} {Φ : V → Store → Prop}, Φ (.typ "tuple") σ → Un C env (TE C n env ρ σ f Φ)) (hfa : notAttr f = true)
    (c1 : compOk scope x iter = true) (c2 : closA env.cells scope.names [] = some cl)
    (h : w.e env ρ iter (fun X => SCompT C n env scope cl x elt ifs X Φ) σ) : Un C env (TE C n env ρ σ (.Call f [.ListComp elt [⟨.Name x px, iter, ifs, 0⟩] scope cp] [] p) Φ) := fun hK hE =>
  have d := compOk_of c1
  TE_tupComp (fun q => hf q hK hE) hfa (h.ok hK hE) (closA_closure c2) d.1 d.2.1 d.2.2.1 d.2.2.2.1 (notSet_fold d.2.2.2.2)
theorem args_ok {f : Expr} {Fv : V} {args : List Expr} {p : Pos} {Φ : V → Store → Prop} {σ : Store} (hc : Callable Fv) (hf : ∀ {σ : Store} {Φ : V → Store → Prop}, Φ Fv σ → Un C env (TE C n env ρ σ f Φ)) (hfa : notAttr f = true) (ha : args.all noStar = true)
    (h : w.l env ρ args (fun Xs => SC C n Fv Xs Φ) σ) : Un C env (TE C n env ρ σ (.Call f args [] p) Φ) := fun hK hE =>
  TE_call (hf ⟨call_keep hK hc, (h.ok hK hE p).mono fun Xs σ' h => h.run⟩ hK hE) (notAttr_of hfa) (noStar_hst ha) (noStar_plain ha)
variable (w env ρ)
noncomputable def cComp (elt : Expr) (gens : List Comprehension) (scope : Scope) (p : Pos) (Φ : V → Store → Prop) (σ : Store) : Cert (Un C env (TE C n env ρ σ (.ListComp elt gens scope p) Φ)) := match gens with
  | [⟨.Name x px, iter, ifs, 0⟩] => (match c1 : compOk scope x iter, c2 : closA env.cells scope.names [] with
    | true, some cl => ⟨w.e env ρ iter (fun X => SComp C n env scope cl x elt ifs X Φ) σ, comp_ok c1 c2⟩
    | _, _ => stE env ρ (.ListComp elt [⟨.Name x px, iter, ifs, 0⟩] scope p) Φ σ)
  | gens => stE env ρ (.ListComp elt gens scope p) Φ σ
noncomputable def cArgs (f : Expr) (Fv : V) (args : List Expr) (p : Pos) (Φ : V → Store → Prop) (σ : Store) (hc : Callable Fv) (hf : ∀ {σ : Store} {Φ : V → Store → Prop}, Φ Fv σ → Un C env (TE C n env ρ σ f Φ)) (hfa : notAttr f = true) (ha : args.all noStar = true) : Cert (Un C env (TE C n env ρ σ (.Call f args [] p) Φ)) :=
  match args, Fv with
  | [.ListComp elt [⟨.Name x px, iter, ifs, 0⟩] scope cp], .typ t => (match ht : t == "tuple", c1 : compOk scope x iter, c2 : closA env.cells scope.names [] with
    | true, true, some cl => ⟨w.e env ρ iter (fun X => SCompT C n env scope cl x elt ifs X Φ) σ, fun h => compT_ok (fun q => hf (beq_iff_eq.mp ht ▸ q)) hfa c1 c2 h⟩
    | _, _, _ => ⟨w.l env ρ [.ListComp elt [⟨.Name x px, iter, ifs, 0⟩] scope cp] (fun Xs => SC C n (.typ t) Xs Φ) σ, args_ok hc hf hfa ha⟩)
  | args, Fv => ⟨w.l env ρ args (fun Xs => SC C n Fv Xs Φ) σ, args_ok hc hf hfa ha⟩
noncomputable def cMeth (X : V) (name : Str) (args : List Expr) (p : Pos) (ha : args.all noStar = true) (Φ : V → Store → Prop) (σ : Store) : Cert (Un C env (∃ Fv, MethOk C σ X name Fv ∧ TL C n env ρ σ p args fun Xs σ₂ => TC C n σ₂ Fv (X :: Xs) Φ)) :=
  match pL env ρ (pE (C := C) (n := n) 20 env ρ) args with
  | some ⟨Xs, a⟩ => ⟨SMeth C n X name Xs Φ σ, fun h hK hE => h.run.elim fun Fv q => ⟨Fv, q.1, a ha p q.2 hK hE⟩⟩
  | none => ⟨SM C X name (fun Fv => w.l env ρ args (fun Xs => SC C n Fv (X :: Xs) Φ) σ) σ, fun h hK hE => h.run.elim fun Fv q => ⟨Fv, q.1, (q.2.ok hK hE p).mono fun Xs σ' h => h.run⟩⟩
theorem meth_ok {o : Expr} {name : Str} {q p : Pos} {args : List Expr} {Φ : V → Store → Prop} {σ : Store} (ha : args.all noStar = true) (c : (okBase o && Nat.beq q.endLine p.line && Nat.ble args.length 20) = true) (h : w.e env ρ o (fun X σ₁ => (cMeth w env ρ X name args p ha Φ σ₁).p) σ) :
    Un C env (TE C n env ρ σ (.Call (.Attribute o name q) args [] p) Φ) := fun hK hE => by
  rw [Bool.and_eq_true, Bool.and_eq_true] at c
  exact TE_methX ((h.ok hK hE).mono fun X σ₁ h => (cMeth w env ρ X name args p ha Φ σ₁).ok h hK hE) (meth_eval c.1.1 c.1.2 ha c.2) ha
noncomputable def cCall (f : Expr) (args : List Expr) (kw : List Keyword) (p : Pos) (Φ : V → Store → Prop) (σ : Store) : Cert (Un C env (TE C n env ρ σ (.Call f args kw p) Φ)) := match kw, ha : args.all noStar, f with
  | [], true, .Name x q => (match hk : env.kindOf x, hx : gname tabF x with
    | some .globalImplicit, some Fv => cArgs w env ρ (.Name x q) Fv args p Φ σ (fn_of hx).2 (fun h hK hE => name_glob hK hE hk (fn_of hx).1 h) rfl ha
    | _, _ => stE env ρ (.Call (.Name x q) args [] p) Φ σ)
  | [], true, .Attribute o name q => (match c : okBase o && Nat.beq q.endLine p.line && Nat.ble args.length 20 with
    | true => ⟨w.e env ρ o (fun X σ₁ => (cMeth w env ρ X name args p ha Φ σ₁).p) σ, meth_ok w env ρ ha c⟩
    | false => stE env ρ (.Call (.Attribute o name q) args [] p) Φ σ)
  | kw, _, f => stE env ρ (.Call f args kw p) Φ σ
noncomputable def cBool (op : BoolOp) (vs : List Expr) (p : Pos) (Φ : V → Store → Prop) (σ : Store) : Cert (Un C env (TE C n env ρ σ (.BoolOp op vs p) Φ)) := match op, vs with
  | op, [] => ⟨False, False.elim⟩
  | op, [e] => ⟨w.e env ρ e Φ σ, fun h hK hE => TE_last (h.ok hK hE)⟩
  | .And, e₁ :: e₂ :: r => ⟨w.e env ρ e₁ (fun X => wTruth C n X (fun b σ₂ => wIf b (w.e env ρ (.BoolOp .And (e₂ :: r) p) Φ σ₂) (Φ X σ₂))) σ, fun h hK hE => TE_and ((h.ok hK hE).mono fun X σ' h => ((cTruth ..).ok h).mono fun b σ'' h => by cases b; exact h; exact Wp.e.ok h hK hE)⟩
  | .Or, e₁ :: e₂ :: r => ⟨w.e env ρ e₁ (fun X => wTruth C n X (fun b σ₂ => wIf b (Φ X σ₂) (w.e env ρ (.BoolOp .Or (e₂ :: r) p) Φ σ₂))) σ, fun h hK hE => TE_or ((h.ok hK hE).mono fun X σ' h => ((cTruth ..).ok h).mono fun b σ'' h => by cases b; exact Wp.e.ok h hK hE; exact h)⟩
noncomputable def cPick (Xs : List V) (Y : V) (Φ : V → Store → Prop) (σ : Store) : Cert (∃ k, Y = .int k ∧ SPick Xs k Φ σ) := match Y with
  | .int k => ⟨SPick Xs k Φ σ, fun h => ⟨k, rfl, h⟩⟩
  | _ => ⟨False, False.elim⟩
noncomputable def cSubs (v i : Expr) (p : Pos) (Φ : V → Store → Prop) (σ : Store) : Cert (Un C env (TE C n env ρ σ (.Subscript v i p) Φ)) := match hi : notSlice i, v with
  | true, .List es q => ⟨w.l env ρ es (fun Xs σ₁ => wLen Xs (w.e env ρ i (fun Y σ' => (cPick Xs Y Φ σ').p) σ₁)) σ, fun h hK hE => TE_listSub hi ((h.ok hK hE _).mono fun Xs σ' h => ⟨(wLen_of h).1, (Wp.e.ok (wLen_of h).2 hK hE).mono fun Y σ'' h => (cPick ..).ok h⟩)⟩
  | true, v => ⟨w.e env ρ v (fun X => w.e env ρ i (fun Y σ' => (cSub C n v i hi X Y Φ σ').p)) σ, fun h hK hE => TE_sub ((h.ok hK hE).mono fun X σ' h => (h.ok hK hE).mono fun Y σ'' h => (cSub ..).ok h)⟩
  | false, v => stE env ρ (.Subscript v i p) Φ σ
theorem cmp_ok {op : CmpOp} {l r : Expr} {p : Pos} {Φ : V → Store → Prop} {σ : Store} (hr : notSet r = true) (h : w.e env ρ l (fun X => w.e env ρ r (fun Y => wCmp C n op X Y (fun b => Φ (.bool b)))) σ) : Un C env (TE C n env ρ σ (.Compare l [op] [r] p) Φ) := fun hK hE =>
  TE_cmp ((h.ok hK hE).mono fun X σ' h => (h.ok hK hE).mono fun Y σ'' h => ((cCmp ..).ok h).mono fun Z σ₃ h => h.elim fun b q => q.1 ▸ q.2) (notSet_marks hr)
noncomputable def cE (x : Expr) (Φ : V → Store → Prop) (σ : Store) : Cert (Un C env (TE C n env ρ σ x Φ)) := match x with
  | .Name x p => cName env ρ x p Φ σ
  | .Constant c k p => cConst env ρ c k p Φ σ
  | .Tuple es _ _ => ⟨w.l env ρ es (fun Xs σ' => wLen Xs (Φ (.tuple Xs) σ')) σ, fun h hK hE => TE_tuple ((h.ok hK hE _).mono fun Xs σ' h => wLen_of h)⟩
  | .List es _ => ⟨w.l env ρ es (fun Xs σ' => wLen Xs (SNew env.locals (.list Xs) Φ σ')) σ, fun h hK hE => TE_list ((h.ok hK hE _).mono fun Xs σ' h => ⟨(wLen_of h).1, SNew.run (wLen_of h).2⟩)⟩
  | .Subscript v i p => cSubs w env ρ v i p Φ σ
  | .ListComp elt gens scope p => cComp w env ρ elt gens scope p Φ σ
  | .BinOp l op r _ => ⟨w.e env ρ l (fun X => w.e env ρ r (fun Y => wBin C n op X Y Φ)) σ, fun h hK hE => TE_bin ((h.ok hK hE).mono fun X σ' h => (h.ok hK hE).mono fun Y σ'' h => (cBin ..).ok h)⟩
  | .UnaryOp .USub y p => ⟨w.e env ρ y (fun X σ' => (cNeg X Φ σ').p) σ, fun h hK hE => TE_neg ((h.ok hK hE).mono fun X σ' h => (cNeg ..).ok h)⟩
  | .UnaryOp .Not y p => ⟨w.e env ρ y (fun X => wTruth C n X (fun b => Φ (.bool (!b)))) σ, fun h hK hE => TE_not ((h.ok hK hE).mono fun X σ' h => (cTruth ..).ok h)⟩
  | .Compare l [op] [r] p => (match hr : notSet r with
    | true => ⟨w.e env ρ l (fun X => w.e env ρ r (fun Y => wCmp C n op X Y (fun b => Φ (.bool b)))) σ, cmp_ok w env ρ hr⟩
    | false => stE env ρ (.Compare l [op] [r] p) Φ σ)
  | .IfExp t b o _ => ⟨w.b env ρ t (fun c σ₁ => wIf c (w.e env ρ b Φ σ₁) (w.e env ρ o Φ σ₁)) σ, fun h hK hE => TE_ifexp ((h.ok hK hE).mono fun c σ' h => by cases c; exact Wp.e.ok h hK hE; exact Wp.e.ok h hK hE)⟩
  | .BoolOp op vs p => cBool w env ρ op vs p Φ σ
  | .Attribute o name p => (match ho : okBase o with
    | true => ⟨w.e env ρ o (fun X => SAtt C X name Φ) σ, fun h hK hE => TE_attr ((h.ok hK hE).mono fun X σ' h => h.run) (attr_eval ho)⟩
    | false => stE env ρ (.Attribute o name p) Φ σ)
  | .Call f args kw p => cCall w env ρ f args kw p Φ σ
  | x => stE env ρ x Φ σ
noncomputable def cL (es : List Expr) (Φ : List V → Store → Prop) (σ : Store) : Cert (Un C env (∀ p, TL C n env ρ σ p es Φ)) := match es with
  | [] => ⟨Φ [] σ, fun h _ _ p => TL_nil h⟩
  | e :: es => (match he : noStar e with
    | true => ⟨w.e env ρ e (fun X => w.l env ρ es (fun Xs => Φ (X :: Xs))) σ, fun h hK hE p => TL_cons ((h.ok hK hE).mono fun X σ' h => h.ok hK hE p) (noStar_each he _)⟩
    | false => ⟨False, False.elim⟩)
theorem chain_ok {o₁ o₂ : CmpOp} {l r₁ r₂ : Expr} {p : Pos} {Φ : Bool → Store → Prop} {σ : Store} (hr : notSet r₂ = true)
    (h : w.e env ρ l (fun X => w.e env ρ r₁ (fun Y => wCmp C n o₁ X Y (fun b σ₃ => wIf b (w.e env ρ r₂ (fun Z => wCmp C n o₂ Y Z Φ) σ₃) (Φ false σ₃)))) σ) : Un C env (TB C n env ρ σ (.Compare l [o₁, o₂] [r₁, r₂] p) Φ) := fun hK hE =>
  TB_chain ((h.ok hK hE).mono fun X σ' h => (h.ok hK hE).mono fun Y σ'' h => ((cCmp ..).ok h).mono fun Z σ₃ h => h.elim fun b q => ⟨b, q.1, by
    have q := q.2
    cases b
    · exact q
    · exact (Wp.e.ok q hK hE).mono fun Z σ₄ h => (cCmp ..).ok h⟩) (notSet_marks hr)
noncomputable def cB (x : Expr) (Φ : Bool → Store → Prop) (σ : Store) : Cert (Un C env (TB C n env ρ σ x Φ)) := match x with
  | .Compare l [op] [r] p => (match hr : notSet r with
    | true => ⟨w.e env ρ l (fun X => w.e env ρ r (fun Y => wCmp C n op X Y Φ)) σ, fun h hK hE => TB_cmp ((h.ok hK hE).mono fun X σ' h => (h.ok hK hE).mono fun Y σ'' h => (cCmp ..).ok h) (notSet_marks hr)⟩
    | false => ⟨False, False.elim⟩)
  | .Compare l [o₁, o₂] [r₁, r₂] p => (match hr : notSet r₂ with
    | true => ⟨w.e env ρ l (fun X => w.e env ρ r₁ (fun Y => wCmp C n o₁ X Y (fun b σ₃ => wIf b (w.e env ρ r₂ (fun Z => wCmp C n o₂ Y Z Φ) σ₃) (Φ false σ₃)))) σ, chain_ok w env ρ hr⟩
    | false => ⟨False, False.elim⟩)
  | .BoolOp .And [] p => ⟨Φ true σ, fun h _ _ => TB_and_nil h⟩
  | .BoolOp .Or [] p => ⟨Φ false σ, fun h _ _ => TB_or_nil h⟩
  | .BoolOp .And (e :: r) p => ⟨w.b env ρ e (fun b σ' => wIf b (w.b env ρ (.BoolOp .And r p) Φ σ') (Φ false σ')) σ, fun h hK hE => TB_and ((h.ok hK hE).mono fun b σ' h => by cases b; exact h; exact Wp.b.ok h hK hE)⟩
  | .BoolOp .Or (e :: r) p => ⟨w.b env ρ e (fun b σ' => wIf b (Φ true σ') (w.b env ρ (.BoolOp .Or r p) Φ σ')) σ, fun h hK hE => TB_or ((h.ok hK hE).mono fun b σ' h => by cases b; exact Wp.b.ok h hK hE; exact h)⟩
  | .UnaryOp .Not y p => ⟨w.b env ρ y (fun b => Φ (!b)) σ, fun h hK hE => TB_not (h.ok hK hE)⟩
  | x => (match hp : plainT x with
    | true => ⟨w.e env ρ x (fun X => wTruth C n X Φ) σ, fun h hK hE => TB_val ((h.ok hK hE).mono fun X σ' h => (cTruth ..).ok h) (plainT_of hp)⟩
    | false => ⟨False, False.elim⟩)
noncomputable def cAN (x : Str) (p : Pos) (X : V) (N : Loc → Store → Prop) (σ : Store) (k : Option NameKind) (hk : env.kindOf x = k) : Cert (Un C env (TA C n env ρ σ (.Name x p) X N)) := match k, hk with
  | some .local, hk => ⟨N (ρ.set x X) σ, fun h _ hE => TA_local hk hE.kind h⟩
  | _, _ => stA env ρ (.Name x p) X N σ
noncomputable def cA (t : Expr) (X : V) (N : Loc → Store → Prop) (σ : Store) : Cert (Un C env (TA C n env ρ σ t X N)) := match t with
  | .Name x p => cAN env ρ x p X N σ (env.kindOf x) rfl
  | t => stA env ρ t X N σ
theorem cAN_at {x : Str} {p : Pos} {X : V} {N : Loc → Store → Prop} {σ : Store} (h : N (ρ.set x X) σ) : ∀ (k : Option NameKind) (hk : env.kindOf x = k), k = some .local → (cAN (C := C) (n := n) env ρ x p X N σ k hk).p := fun k hk q => by subst q; exact h
noncomputable def cTs (ts : List Expr) : ∀ (ρ : Loc) (Xs : List V) (N : Loc → Store → Prop) (σ : Store), Cert (Un C env (ts.all noStar = true → TAs C n env ρ σ ts Xs N)) :=
  @List.rec Expr (fun ts => ∀ (ρ : Loc) (Xs : List V) (N : Loc → Store → Prop) (σ : Store), Cert (Un C env (ts.all noStar = true → TAs C n env ρ σ ts Xs N)))
    (fun ρ Xs N σ => match Xs with
      | [] => ⟨N ρ σ, fun h _ _ _ => TAs_nil h⟩
      | _ :: _ => ⟨False, False.elim⟩)
    (fun t ts r ρ Xs N σ => match Xs with
      | X :: Xs => ⟨w.a env ρ t X (fun ρ' σ' => (r ρ' Xs N σ').p) σ, fun h hK hE hs => TAs_cons ((h.ok hK hE).mono fun ρ' σ' h => (r ρ' Xs N σ').ok h hK hE (noStar_cons hs).2) (noStar_assign (noStar_cons hs).1 _)⟩
      | [] => ⟨False, False.elim⟩) ts
noncomputable def cAt (t : Expr) (X : V) (N : Loc → Store → Prop) (σ : Store) : Cert (Un C env (TA C n env ρ σ t X N)) := match t, X with
  | .Tuple ts k p, .tuple Xs => (match hs : ts.all noStar, hl : Nat.beq ts.length Xs.length with
    | true, true => ⟨(cTs w env ts ρ Xs N σ).p, fun h hK hE => TA_tuple (each_len.trans (Nat.eq_of_beq_eq_true hl)) ((cTs w env ts ρ Xs N σ).ok h hK hE hs) (each_star hs)⟩
    | _, _ => stA env ρ (.Tuple ts k p) (.tuple Xs) N σ)
  | t, X => cA env ρ t X N σ
theorem swap_ok {n1 n2 : Str} {p1 p2 : Pos} {e1 e2 : Expr} {k k2 : Nat} {tp ep p : Pos} {N : Loc → Store → Prop} {J : Fl → Loc → Store → Prop} {σ : Store} (c : swapOk env n1 n2 p1 p2 e1 e2 = true)
    (h : w.e env ρ e1 (fun Y => w.e env ρ e2 (fun Z => N ((ρ.set n2 Z).set n1 Y))) σ) : Un C env (TS C n env ρ σ (.Assign [.Tuple [.Name n1 p1, .Name n2 p2] k tp] (.Tuple [e1, e2] k2 ep) p) (kJ N J)) := fun hK hE => by
  have c' := c
  unfold swapOk at c'
  simp only [Bool.and_eq_true] at c'
  obtain ⟨⟨⟨⟨⟨⟨⟨h1, h2⟩, h3⟩, h4⟩, h5⟩, h6⟩, h7⟩, h8⟩ := c'
  exact TS_swap2 (TE_tuple (TL_cons ((h.ok hK hE).mono fun Y σ' h => TL_cons ((h.ok hK hE).mono fun Z σ'' h => TL_nil ⟨Nat.le_of_ble_eq_true rfl, Y, Z, rfl, h⟩) (noStar_each h6 _)) (noStar_each h5 _))) (swap_stores hE c) hE.kind (two_local (beq_iff_eq.mp h1) (beq_iff_eq.mp h2)) rfl
noncomputable def cSwap (t e : Expr) (p : Pos) (N : Loc → Store → Prop) (J : Fl → Loc → Store → Prop) (σ : Store) : Cert (Un C env (TS C n env ρ σ (.Assign [t] e p) (kJ N J))) := match t, e with
  | .Tuple [.Name n1 p1, .Name n2 p2] k tp, .Tuple [e1, e2] k2 ep => (match c : swapOk env n1 n2 p1 p2 e1 e2 with
    | true => ⟨w.e env ρ e1 (fun Y => w.e env ρ e2 (fun Z => N ((ρ.set n2 Z).set n1 Y))) σ, swap_ok w env ρ c⟩
    | false => stS env ρ (.Assign [.Tuple [.Name n1 p1, .Name n2 p2] k tp] (.Tuple [e1, e2] k2 ep) p) N J σ)
  | t, e => stS env ρ (.Assign [t] e p) N J σ
theorem asC_ok {y : Str} {py q : Pos} {elt iter : Expr} {x : Str} {px : Pos} {ifs : List Expr} {scope : Scope} {cl : List (Str × Addr)} {p : Pos} {N : Loc → Store → Prop} {J : Fl → Loc → Store → Prop} {σ : Store} (c : swOk env y py scope q = true) (c1 : compOk scope x iter = true) (c2 : closA env.cells scope.names [] = some cl)
    (h : w.e env ρ iter (fun X => SComp C n env scope cl x elt ifs X (fun Z => N (ρ.set y Z))) σ) : Un C env (TS C n env ρ σ (.Assign [.Name y py] (.ListComp elt [⟨.Name x px, iter, ifs, 0⟩] scope q) p) (kJ N J)) := fun hK hE => by
  have d := compOk_of c1
  have c' := c
  unfold swOk at c'
  rw [Bool.and_eq_true, Bool.and_eq_true] at c'
  exact TS_weak (TS_compL ((h.ok hK hE).mono fun X σ₁ p => p.run.elim fun Ys q => q.elim fun σ₂ q => q.elim fun f q => q.elim fun J' q => ⟨Ys, σ₂, f, J', q.1, q.2.1, q.2.2.1, q.2.2.2.1, fun D Zs σ' dd j hl fD LD => (q.2.2.2.2 D Zs σ' dd j hl fD LD).elim fun τ r => ⟨_, τ, fun _ _ e => e, r⟩⟩) (swaps_comp hE _ c) (beq_iff_eq.mp c'.1.1) hE.kind (closA_closure c2) d.1 d.2.1 d.2.2.1 d.2.2.2.1 (notSet_fold d.2.2.2.2))
noncomputable def cAsC (t : Expr) (elt : Expr) (gens : List Comprehension) (scope : Scope) (q p : Pos) (N : Loc → Store → Prop) (J : Fl → Loc → Store → Prop) (σ : Store) : Cert (Un C env (TS C n env ρ σ (.Assign [t] (.ListComp elt gens scope q) p) (kJ N J))) := match t, gens with
  | .Name y py, [⟨.Name x px, iter, ifs, 0⟩] => (match c : swOk env y py scope q, c1 : compOk scope x iter, c2 : closA env.cells scope.names [] with
    | true, true, some cl => ⟨w.e env ρ iter (fun X => SComp C n env scope cl x elt ifs X (fun Z => N (ρ.set y Z))) σ, asC_ok w env ρ c c1 c2⟩
    | _, _, _ => stS env ρ (.Assign [.Name y py] (.ListComp elt [⟨.Name x px, iter, ifs, 0⟩] scope q) p) N J σ)
  | .Attribute o x pa, gens => ⟨w.e env ρ (.ListComp elt gens scope q) (fun X => w.a env ρ (.Attribute o x pa) X N) σ, fun h hK hE => TS_assign ((h.ok hK hE).mono fun X σ' h => h.ok hK hE)⟩
  | t, gens => stS env ρ (.Assign [t] (.ListComp elt gens scope q) p) N J σ
noncomputable def cSwapC (t e : Expr) (p : Pos) (N : Loc → Store → Prop) (J : Fl → Loc → Store → Prop) (σ : Store) : Cert (Un C env (TS C n env ρ σ (.Assign [t] e p) (kJ N J))) := match e with
  | .ListComp elt gens scope q => cAsC w env ρ t elt gens scope q p N J σ
  | e => cSwap w env ρ t e p N J σ
noncomputable def cS (st : Stmt) (N : Loc → Store → Prop) (J : Fl → Loc → Store → Prop) (σ : Store) : Cert (Un C env (TS C n env ρ σ st (kJ N J))) := match st with
  | .Expr e p => (match hc : noComp e with
    | true => ⟨w.e env ρ e (fun _ σ' => N ρ σ') σ, fun h hK hE => TS_expr (h.ok hK hE) (by unfold interactive; rw [hE.kind]; rfl) (noComp_swaps hc _ _)⟩
    | false => stS env ρ (.Expr e p) N J σ)
  | .Assign [t] e p => (match c : noComp e, c1 : notTuple t || notTuple e, c2 : noStar t with
    | true, true, true => ⟨w.e env ρ e (fun X => w.a env ρ t X N) σ, fun h hK hE => TS_assign ((h.ok hK hE).mono fun X σ' h => h.ok hK hE) (noStar_assign c2 _) (noComp_swaps c _ _) (notTuple_stores c1)⟩
    | _, _, _ => cSwapC w env ρ t e p N J σ)
  | .If t b o _ => ⟨w.b env ρ t (fun c σ' => wIf c (w.ss env ρ b N J σ') (w.ss env ρ o N J σ')) σ, fun h hK hE => TS_if ((h.ok hK hE).mono fun c σ' h => by cases c; exact Wp.ss.ok h hK hE; exact Wp.ss.ok h hK hE)⟩
  | .Return (some e) _ => ⟨w.e env ρ e (fun X => J (.ret X) ρ) σ, fun h hK hE => TS_ret (h.ok hK hE)⟩
  | .Return none _ => ⟨J (.ret .none) ρ σ, fun h _ _ => TS_ret0 h⟩
  | .Continue _ => ⟨J .cont ρ σ, fun h _ _ => TS_cont h⟩
  | .For target iter body [] p => (match c : notSet iter, isZip iter with
    | true, false => ⟨w.e env ρ iter (fun X => SFor C n env ρ target body X N J) σ, fun h hK hE => TS_weak (TS_for ((h.ok hK hE).mono fun X σ' h => h.run) (notSet_fold c))⟩
    | _, _ => stS env ρ (.For target iter body [] p) N J σ)
  | st => stS env ρ st N J σ
noncomputable def cSS (st : List Stmt) (N : Loc → Store → Prop) (J : Fl → Loc → Store → Prop) (σ : Store) : Cert (Un C env (TSS C n env ρ σ st (kJ N J))) := match st with
  | [] => ⟨N ρ σ, fun h _ _ => TSS_nil h⟩
  | s :: r => ⟨w.s env ρ s (fun ρ' => w.ss env ρ' r N J) J σ, fun h hK hE => TSS_cons ((h.ok hK hE).mono fun f ρ' σ' h => by
      cases f <;> first | exact Wp.ss.ok h hK hE | exact h)⟩
end
section
variable (C : Cx) (n : Nat)
noncomputable def wp0 : Wp C n where
  ce := fun env ρ x Φ σ => stE env ρ x Φ σ
  cl := fun _ _ _ _ _ => ⟨False, False.elim⟩
  cb := fun _ _ _ _ _ => ⟨False, False.elim⟩
  ca := fun env ρ t X N σ => stA env ρ t X N σ
  cs := fun env ρ st N J σ => stS env ρ st N J σ
  css := fun _ _ _ _ _ _ => ⟨False, False.elim⟩
noncomputable def wpS (w : Wp C n) : Wp C n where
  ce := cE w
  cl := cL w
  cb := cB w
  ca := cAt w
  cs := cS w
  css := cSS w
noncomputable def wp : Nat → Wp C n := Nat.rec (wp0 C n) (fun _ w => wpS C n w)
end
end
section
open PySem PySem.W PySem.Calls PyProof.Rows PySem.Spec
noncomputable def DetK (x : V) (t : Store) : V → Store → Prop := fun X σ' => X = x ∧ σ' = t
noncomputable def Det (C : Cx) (n : Nat) (σ : Store) (a : Addr) (Xs : List V) (x : V) (t : Store) : Prop := TCc C n σ a Xs (DetK x t)
theorem len0 {P : List Value → Prop} (h : P []) : ∀ vs : List Value, vs.length = 0 → P vs := fun vs hv => List.eq_nil_of_length_eq_zero hv ▸ h
theorem lenS {P : List Value → Prop} {n : Nat} (h : ∀ v, ∀ vs : List Value, vs.length = n → P (v :: vs)) : ∀ vs : List Value, vs.length = n + 1 → P vs := fun vs hv => by
  cases vs with
  | nil => cases hv
  | cons v r => exact h v r (Nat.succ.inj hv)
theorem len1 {P : List Value → Prop} (h : ∀ v, P [v]) : ∀ vs : List Value, vs.length = 1 → P vs := lenS fun v => len0 (h v)
theorem len2 {P : List Value → Prop} (h : ∀ v w, P [v, w]) : ∀ vs : List Value, vs.length = 2 → P vs := lenS fun v => len1 (h v)
theorem len3 {P : List Value → Prop} (h : ∀ v w u, P [v, w, u]) : ∀ vs : List Value, vs.length = 3 → P vs := lenS fun v => len2 (h v)
theorem len4 {P : List Value → Prop} (h : ∀ v w u t, P [v, w, u, t]) : ∀ vs : List Value, vs.length = 4 → P vs := lenS fun v => len3 (h v)
structure FnOk {a : Addr} (f : FnAt KK a) (names : List Str) : Prop where
  bind : ∀ vs : List Value, vs.length = names.length → bindArgs f.fd ⟨vs, []⟩ = pure (names.zip vs)
  cell : (f.fd.scope.names.all fun x => x.2 != .cell) = true
  loc : (names.all fun x => f.fd.scope.names.lookup x == some .local) = true
  dbg : f.fd.scope.names.lookup ("__debug__" : Str) = none
  co : f.fd.scope.isCoroutine = false
  gen : f.fd.scope.isGenerator = false
  kd : f.fd.scope.kind = .function
  gl : f.fd.globals = mainGlobals
  bl : f.fd.builtins = builtinsNs
structure FnOkC {a : Addr} (f : FnAt KK a) (names : List Str) (x : Str) : Prop where
  bind : ∀ vs : List Value, vs.length = names.length → bindArgs f.fd ⟨vs, []⟩ = pure (names.zip vs)
  clo : f.fd.closure = []
  kind : (names.all fun y => f.fd.scope.names.lookup y == some .local || (f.fd.scope.names.lookup y == some .cell && y == x)) = true
  cc : ∀ k, cellsFrom k f.fd.scope.names [] = [(x, k)]
  dbg : f.fd.scope.names.lookup ("__debug__" : Str) = none
  co : f.fd.scope.isCoroutine = false
  gen : f.fd.scope.isGenerator = false
  kd : f.fd.scope.kind = .function
  gl : f.fd.globals = mainGlobals
  bl : f.fd.builtins = builtinsNs
noncomputable abbrev W (C : Cx) (n : Nat) : Wp C n := wp C n 9999
noncomputable def Loc.of : List (Str × V) → Loc
  | [], _ => Option.none
  | p :: r, x => if x = p.1 then some p.2 else Loc.of r x
noncomputable def Loc.has : List (Str × V) → Loc → Prop
  | [], _ => True
  | p :: r, ρ => ρ p.1 = some p.2 ∧ Loc.has r ρ
theorem Loc.has_le {ρ : Loc} : ∀ {l : List (Str × V)}, Loc.has l ρ → Loc.le (Loc.of l) ρ
  | [], _, x, X, e => by cases e
  | p :: r, h, x, X, e => by
    unfold Loc.of at e
    split at e
    · rename_i q; cases e; rw [q]; exact h.1
    · exact Loc.has_le (l := r) h.2 x X e
section
variable {C : Cx} {n : Nat} {σ : Store} {env : Env} {ρ : Loc}
theorem W_sound (hK : C.K = KK C.w.params) : Sound C n (W C n) := (W C n).sound hK
structure SRet (Φ : V → Store → Prop) (X : V) (σ : Store) : Prop where
  run : Drop Φ X σ
noncomputable def RetN (Φ : V → Store → Prop) : Loc → Store → Prop := fun _ σ => SRet Φ .none σ
noncomputable def RetJ (Φ : V → Store → Prop) : Fl → Loc → Store → Prop := fun f _ σ => match f with
  | .ret X => SRet Φ X σ
  | _ => SRet Φ .none σ
theorem kJ_ret {Φ : V → Store → Prop} {f : Fl} {ρ : Loc} {σ' : Store} (h : kJ (RetN Φ) (RetJ Φ) f ρ σ') : RetOf Φ f ρ σ' := by cases f <;> exact h.run
theorem FnOk.plain {a : Addr} {f : FnAt KK a} {names : List Str} (ok : FnOk f names) (L : Addr) : PlainF (callEnv f.fd L a) := ⟨ok.kd, ok.gl, ok.bl, ok.dbg⟩
theorem FnOkC.plain {a : Addr} {f : FnAt KK a} {names : List Str} {x : Str} (ok : FnOkC f names x) (L : Addr) : PlainF (callEnvC f.fd L a) := ⟨ok.kd, ok.gl, ok.bl, ok.dbg⟩
theorem fnX {a : Addr} {f : FnAt KK a} {names : List Str} (ok : FnOk f names) (hK : C.K = KK C.w.params) {Xs : List V} {Φ : V → Store → Prop}
    (h : ∀ L, σ L = none → (W C n).ss (callEnv f.fd L a) (Loc.binds names Xs Loc.none) f.body (RetN Φ) (RetJ Φ) σ) (hl : names.length = Xs.length := by rfl) : TCc C (n + 1) σ a Xs Φ :=
  TC_fn f names hK hl ok.bind (fun x hx => by have := List.all_eq_true.mp ok.cell x hx; simpa using this) (fun x hx => by have := List.all_eq_true.mp ok.loc x hx; simpa using this) rfl
    (fun L hL => ((W_sound hK).ss (ok.plain L) (h L hL)).mono fun _ _ _ h => kJ_ret h) ok.co ok.gen ok.kd ok.gl ok.bl
theorem cellStore_one' {σ : Store} {x : Str} {c : Addr} {ρ : Loc} : cellStore σ [(x, c)] ρ = σ.set c (.cell (ρ x)) := by
  funext b
  unfold cellStore Store.set
  by_cases q : c = b
  · subst q; simp
  · have q' : ¬ b = c := fun e => q e.symm
    simp [q, q']
theorem fnXC {a : Addr} {f : FnAt KK a} {names : List Str} {x : Str} (ok : FnOkC f names x) (hK : C.K = KK C.w.params) {X : V} {Xs : List V} {ρ₀ : Loc} {Φ : V → Store → Prop}
    (h : ∀ L, σ L = none → σ (L + 1) = none → (W C n).ss (callEnvC f.fd L a) ρ₀ f.body (RetN Φ) (RetJ Φ) (σ.set (L + 1) (.cell (some X))))
    (hρ : ∀ L, Loc.bindsK (callEnvC f.fd L a).kindOf names Xs Loc.none = ρ₀ := by intro _; rfl) (hX : ∀ L, Loc.bindsC (callEnvC f.fd L a).kindOf names Xs Loc.none x = some X := by intro _; rfl) (hl : names.length = Xs.length := by rfl) : TCc C (n + 1) σ a Xs Φ := by
  refine TC_fnC f names hK hl ok.bind ok.clo (fun k y hy => ?_) (fun k => by rw [ok.cc]; simp) rfl (fun L hL hc1 => ?_) ok.co ok.gen ok.kd ok.gl ok.bl
  · have := List.all_eq_true.mp ok.kind y hy
    rw [Bool.or_eq_true, Bool.and_eq_true] at this
    rcases this with h1 | ⟨h1, h2⟩
    · exact .inl (beq_iff_eq.mp h1)
    · exact .inr ⟨beq_iff_eq.mp h1, by rw [ok.cc, beq_iff_eq.mp h2]; simp⟩
  · rw [ok.cc, cellStore_one', hρ, hX]
    exact ((W_sound hK).ss (ok.plain L) (h L hL (hc1 (L + 1) (Nat.lt_succ_self L)))).mono fun _ _ _ h => kJ_ret h
theorem SC.det {m : Nat} {a : Addr} {Xs : List V} {x : V} {t : Store} {Φ : V → Store → Prop} (d : Det C m σ a Xs x t) (k : Φ x t) (hm : m ≤ n) : SC C n (.ref a) Xs Φ σ := ⟨TC_use d hm fun R σ' e => e.1 ▸ e.2 ▸ k⟩
theorem SC.use {m : Nat} {a : Addr} {Xs : List V} {Φ Ψ : V → Store → Prop} (d : TCc C m σ a Xs Ψ) (k : ∀ R σ', Ψ R σ' → Φ R σ') (hm : m ≤ n) : SC C n (.ref a) Xs Φ σ := ⟨TC_use d hm k⟩
theorem SMeth.det {X : V} {name : Str} {f : Addr} {Xs : List V} {x : V} {t : Store} {Φ : V → Store → Prop} (m : MethOk C σ X name (.ref f)) (h : Det C n σ f (X :: Xs) x t) (k : Φ x t) : SMeth C n X name Xs Φ σ :=
  ⟨_, m, TC_use h (Nat.le_refl _) fun R σ' e => e.1 ▸ e.2 ▸ k⟩
theorem fin {x : V} {t : Store} : SRet (DetK x t) x t := ⟨Drop.eq ⟨rfl, rfl⟩⟩
theorem finS {x : V} {t t' : Store} (h : ∀ a y, t a = some y → t' a = some y) : SRet (DetK x t) x t' := ⟨t, h, rfl, rfl⟩
theorem finE {x x' : V} {t t' : Store} (h : x' = x) (k : t' = t) : SRet (DetK x t) x' t' := h ▸ k ▸ fin
theorem SCell.at {c : Addr} {X : V} {Φ : V → Store → Prop} (h : σ c = some (.cell (some X))) (k : Φ X σ) : SCell c Φ σ := ⟨X, h, k⟩
theorem SAtt.at {x Cl dx : Addr} {name : Str} {es : List (Str × V)} {Y : V} {Φ : V → Store → Prop} (o : OwnAttr C.K Cl name) (h1 : σ x = some (.inst Cl dx)) (h2 : σ dx = some (.ns es)) (k : Φ Y σ) (h3 : lkE name es = some Y := by rfl) (h4 : Y.handed = true := by rfl) : SAtt C (.ref x) name Φ σ :=
  ⟨x, Cl, dx, es, Y, rfl, h1, h2, o, h3, h4, k⟩
theorem S_append {a : Addr} {Xs : List V} {Y : V} {Φ : V → Store → Prop} (h : σ a = some (.list Xs)) (hz : Xs.length ≤ 100000) (k : Φ .none (σ.set a (.list (Xs ++ [Y])))) : SMeth C n (.ref a) "append" [Y] Φ σ := ⟨_, .append h, B_append h (Nat.le_trans hz sizeLine_big) k⟩
theorem S_lenT {Xs : List V} {Φ : V → Store → Prop} (hz : Xs.length ≤ 100000) (k : Φ (.int Xs.length) σ) : SC C n (.bltn "len") [.tuple Xs] Φ σ := ⟨B_lenT (by omega) k⟩
theorem S_lenL {a : Addr} {Xs : List V} {Φ : V → Store → Prop} (h : σ a = some (.list Xs)) (hz : Xs.length ≤ 100000) (k : Φ (.int Xs.length) σ) : SC C n (.bltn "len") [.ref a] Φ σ := ⟨B_lenL h (by omega) k⟩
theorem S_tupT {Xs : List V} {Φ : V → Store → Prop} (k : Φ (.tuple Xs) σ) : SC C n (.typ "tuple") [.tuple Xs] Φ σ := ⟨B_tupleT k⟩
theorem S_tupL {a : Addr} {Xs : List V} {Φ : V → Store → Prop} (h : σ a = some (.list Xs)) (hz : Xs.length ≤ 100000) (k : Φ (.tuple Xs) σ) : SC C n (.typ "tuple") [.ref a] Φ σ := ⟨B_tupleL h (Nat.le_trans hz sizeLine_big) k⟩
theorem I_list {v i : Expr} {a : Addr} {Xs : List V} {j : Nat} {Y : V} {Φ : V → Store → Prop} (h : σ a = some (.list Xs)) (hy : Xs[j]? = some Y) (hz : Xs.length ≤ 100000) (k : Φ Y σ)
    (hs : ∀ t u, subscripted i false (.ref t) (.int j u) = operate [.ref t, .int j u] (getItem (.ref t) (.int j u)) := by intro _ _; rfl) : SO C n (subscriptTail v i) (.ref a) (.int j) Φ σ :=
  ⟨O_itemL h (Int.natCast_nonneg _) (by have := (List.getElem?_eq_some_iff.mp hy).1; omega) (by simpa using hy) k hs⟩
theorem I_list0 {v i : Expr} {a : Addr} {Xs : List V} {Y : V} {Φ : V → Store → Prop} (h : σ a = some (.list (Y :: Xs))) (k : Φ Y σ)
    (hs : ∀ t u, subscripted i false (.ref t) (.int 0 u) = operate [.ref t, .int 0 u] (getItem (.ref t) (.int 0 u)) := by intro _ _; rfl) : SO C n (subscriptTail v i) (.ref a) (.int 0) Φ σ :=
  ⟨O_itemL h (by decide) (by decide) rfl k hs⟩
theorem S_truthL {a : Addr} {Xs : List V} {Φ : Bool → Store → Prop} (h : σ a = some (.list Xs)) (hz : Xs.length ≤ 100000) (k : Φ (!Xs.isEmpty) σ) : ST C n (.ref a) Φ σ := ⟨T_list h (by omega) k⟩
theorem SFor.det {target : Expr} {body : List Stmt} {X : V} {N : Loc → Store → Prop} {J : Fl → Loc → Store → Prop} {Ys : List V} {σ₂ : Store} {f : Store → Store} (hK : C.K = KK C.w.params) (hE : PlainF env) (S : Src C σ X Ys σ₂ f)
    (l : List (Str × V)) (τ : Nat → Store) (h0 : Loc.has l ρ) (i0 : σ₂ = τ 0)
    (turn : ∀ i Y, Ys[i]? = some Y → (W C n).a env (Loc.of l) target Y (fun ρ₂ => (W C n).ss env ρ₂ body (fun ρ₃ σ₃ => Loc.has l ρ₃ ∧ σ₃ = τ (i + 1)) (forK (fun ρ₃ σ₃ => Loc.has l ρ₃ ∧ σ₃ = τ (i + 1)) (fun ρ₃ σ₃ => N ρ₃ (f σ₃)) (fun V ρ₃ σ₃ => J (.ret V) ρ₃ (f σ₃)))) (τ i))
    (done : N (Loc.of l) (f (τ Ys.length))) : SFor C n env ρ target body X N J σ := by
  refine ⟨Ys, σ₂, f, fun i ρ' σ' => Loc.has l ρ' ∧ σ' = τ i, S, ⟨h0, i0⟩, fun i Y ρ' σ' hY ⟨hl, hi⟩ => ?_, fun ρ' σ' _ ⟨hl, hi⟩ => ⟨Loc.of l, _, Loc.has_le hl, fun _ _ e => e, hi ▸ done⟩⟩
  subst hi
  refine TA.weak (Loc.has_le hl) (((W_sound hK).a hE (turn i Y hY)).mono fun ρ₂ σ₂ h => ((W_sound hK).ss hE h).mono fun fl ρ₃ σ₃ h => ?_)
  cases fl with
  | next => exact h
  | cont => exact h
  | brk => exact fun _ => ⟨ρ₃, _, fun _ _ e => e, fun _ _ e => e, h⟩
  | ret V => exact fun _ => ⟨ρ₃, _, fun _ _ e => e, fun _ _ e => e, h⟩
theorem SFor.detL {target : Expr} {body : List Stmt} {X : V} {N : Loc → Store → Prop} {J : Fl → Loc → Store → Prop} {Ys : List V} {σ₂ : Store} {f : Store → Store} (hK : C.K = KK C.w.params) (hE : PlainF env) (S : Src C σ X Ys σ₂ f)
    (l : Nat → List (Str × V)) (τ : Nat → Store) (h0 : Loc.has (l 0) ρ) (i0 : σ₂ = τ 0)
    (turn : ∀ i Y, Ys[i]? = some Y → (W C n).a env (Loc.of (l i)) target Y (fun ρ₂ => (W C n).ss env ρ₂ body (fun ρ₃ σ₃ => Loc.has (l (i + 1)) ρ₃ ∧ σ₃ = τ (i + 1)) (forK (fun ρ₃ σ₃ => Loc.has (l (i + 1)) ρ₃ ∧ σ₃ = τ (i + 1)) (fun ρ₃ σ₃ => N ρ₃ (f σ₃)) (fun V ρ₃ σ₃ => J (.ret V) ρ₃ (f σ₃)))) (τ i))
    (done : N (Loc.of (l Ys.length)) (f (τ Ys.length))) : SFor C n env ρ target body X N J σ := by
  refine ⟨Ys, σ₂, f, fun i ρ' σ' => Loc.has (l i) ρ' ∧ σ' = τ i, S, ⟨h0, i0⟩, fun i Y ρ' σ' hY ⟨hl, hi⟩ => ?_, fun ρ' σ' _ ⟨hl, hi⟩ => ⟨Loc.of _, _, Loc.has_le hl, fun _ _ e => e, hi ▸ done⟩⟩
  subst hi
  refine TA.weak (Loc.has_le hl) (((W_sound hK).a hE (turn i Y hY)).mono fun ρ₂ σ₂ h => ((W_sound hK).ss hE h).mono fun fl ρ₃ σ₃ h => ?_)
  cases fl with
  | next => exact h
  | cont => exact h
  | brk => exact fun _ => ⟨ρ₃, _, fun _ _ e => e, fun _ _ e => e, h⟩
  | ret V => exact fun _ => ⟨ρ₃, _, fun _ _ e => e, fun _ _ e => e, h⟩
theorem src_rng {r : Addr} {a b c : Int} {k : Nat} (hr : σ r = none) (hs : Builtin.Range.small a b c = true) (hk : Builtin.Range.rangeSize a b c = (k : Int)) : Src C (σ.set r (.rng a b c)) (.ref r) (rngVs a c k) σ id := by
  have := Src.rng (C := C) (σ := σ.set r (.rng a b c)) (r := r) (by simp [Store.set]) hs hk
  rwa [set_del hr] at this
theorem SFor.rng {target : Expr} {body : List Stmt} {N : Loc → Store → Prop} {J : Fl → Loc → Store → Prop} {r : Addr} {a b c : Int} {k : Nat} (hr : σ r = none) (hs : Builtin.Range.small a b c = true) (hk : Builtin.Range.rangeSize a b c = (k : Int))
    (h : SFor C n env ρ target body (.tuple (rngVs a c k)) N J σ) : SFor C n env ρ target body (.ref r) N J (σ.set r (.rng a b c)) := by
  obtain ⟨Ys, σ₂, f, I, S, i0, turn, done⟩ := h.run
  cases S
  refine ⟨_, σ, id, I, src_rng hr hs hk, i0, fun i Y ρ' σ' hY j => (turn i Y ρ' σ' hY j).mono fun ρ₂ τ h => h.mono fun fl ρ₃ σ₃ h => ?_, fun ρ' σ' _ j => done ρ' σ' (fun _ a b => absurd b a) j⟩
  cases fl with
  | next => exact h
  | cont => exact h
  | brk => exact fun _ => h fun _ a b => absurd b a
  | ret V => exact fun _ => h fun _ a b => absurd b a
theorem SFor.fresh {target : Expr} {body : List Stmt} {N : Loc → Store → Prop} {J : Fl → Loc → Store → Prop} {c : Addr} {Ys : List V} (hc : σ c = none)
    (h : SFor C n env ρ target body (.tuple Ys) N J σ) : SFor C n env ρ target body (.ref c) N J (σ.set c (.list Ys)) := by
  obtain ⟨Ys, σ₂, f, I, S, i0, turn, done⟩ := h.run
  cases S
  have S : Src C (σ.set c (.list Ys)) (.ref c) Ys σ (fun τ => τ.set c (.list Ys)) := by
    have := Src.list (C := C) (σ := σ.set c (.list Ys)) (l := c) set_self
    rwa [set_del hc] at this
  have dr : ∀ {M : Loc → Store → Prop} {ρ₃ σ₃}, wk M ρ₃ σ₃ → Dead (σ.set c (.list Ys)) σ σ₃ → wk M ρ₃ (σ₃.set c (.list Ys)) := fun ⟨ρ', σ', a, b, k⟩ dd => ⟨ρ', σ', a, fun x y e => set_sub (dd c (by rw [set_self]; simp) hc) x y (b x y e), k⟩
  refine ⟨_, σ, _, I, S, i0, fun i Y ρ' σ' hY j => (turn i Y ρ' σ' hY j).mono fun ρ₂ τ h => h.mono fun fl ρ₃ σ₃ h => ?_, fun ρ' σ' dd j => dr (done ρ' σ' (fun _ a b => absurd b a) j) dd⟩
  cases fl with
  | next => exact h
  | cont => exact h
  | brk => exact fun dd => dr (h fun _ a b => absurd b a) dd
  | ret V => exact fun dd => dr (h fun _ a b => absurd b a) dd
theorem SComp.rng {scope : Scope} {cl : List (Str × Addr)} {x : Str} {elt : Expr} {ifs : List Expr} {Φ : V → Store → Prop} {r : Addr} {a b c : Int} {k : Nat} (hr : σ r = none) (hs : Builtin.Range.small a b c = true) (hk : Builtin.Range.rangeSize a b c = (k : Int))
    (h : SComp C n env scope cl x elt ifs (.tuple (rngVs a c k)) Φ σ) : SComp C n env scope cl x elt ifs (.ref r) Φ (σ.set r (.rng a b c)) := by
  obtain ⟨Ys, σ₂, f, I, S, hz, j0, turn, done⟩ := h.run
  cases S
  exact ⟨_, σ, id, I, src_rng hr hs hk, hz, j0, fun Ca i Y Zs σ' _ => turn Ca i Y Zs σ' fun _ a b => absurd b a, fun D Zs σ' _ => done D Zs σ' fun _ a b => absurd b a⟩
theorem SCompT.rng {scope : Scope} {cl : List (Str × Addr)} {x : Str} {elt : Expr} {ifs : List Expr} {Φ : V → Store → Prop} {r : Addr} {a b c : Int} {k : Nat} (hr : σ r = none) (hs : Builtin.Range.small a b c = true) (hk : Builtin.Range.rangeSize a b c = (k : Int))
    (h : SCompT C n env scope cl x elt ifs (.tuple (rngVs a c k)) Φ σ) : SCompT C n env scope cl x elt ifs (.ref r) Φ (σ.set r (.rng a b c)) := by
  obtain ⟨Ys, σ₂, f, I, S, hz, j0, turn, done⟩ := h.run
  cases S
  exact ⟨_, σ, id, I, src_rng hr hs hk, hz, j0, fun Ca i Y Zs σ' _ => turn Ca i Y Zs σ' fun _ a b => absurd b a, fun Zs σ' _ => done Zs σ' fun _ a b => absurd b a⟩
theorem S_range {k : Nat} {T : V → Store → Prop} (hz : k ≤ 100000) (hT : ∀ r, σ r = none → Builtin.Range.small 0 (k : Int) 1 = true → Builtin.Range.rangeSize 0 (k : Int) 1 = (k : Int) → T (.ref r) (σ.set r (.rng 0 k 1))) : SC C n (.typ "range") [.int k] T σ :=
  ⟨B_range1 fun r hr => hT r hr (rng_small hz).1 (rng_small hz).2⟩
theorem rngVs_nat {m i : Nat} {Y : V} (h : (rngVs 0 1 m)[i]? = some Y) : i < m ∧ Y = .int i := by
  have hi : i < m := by
    have := (List.getElem?_eq_some_iff.mp h).1
    simpa [rngVs] using this
  refine ⟨hi, ?_⟩
  have : (rngVs 0 1 m)[i]? = some (.int ((0 : Int) + (i : Int) * 1)) := by simp [rngVs, hi]
  rw [h] at this
  have e := Option.some.inj this
  rw [e, Int.mul_one, Int.zero_add]
theorem rngVs_len {a c : Int} {m : Nat} : (rngVs a c m).length = m := by simp [rngVs]
theorem S_forR {target : Expr} {body : List Stmt} {N : Loc → Store → Prop} {J : Fl → Loc → Store → Prop} {k : Nat} (hK : C.K = KK C.w.params) (hE : PlainF env) (hz : k ≤ 100000)
    (l : List (Str × V)) (τ : Nat → Store) (h0 : Loc.has l ρ) (i0 : σ = τ 0)
    (turn : ∀ i : Nat, i < k → (W C n).a env (Loc.of l) target (.int i) (fun ρ₂ => (W C n).ss env ρ₂ body (fun ρ₃ σ₃ => Loc.has l ρ₃ ∧ σ₃ = τ (i + 1)) (forK (fun ρ₃ σ₃ => Loc.has l ρ₃ ∧ σ₃ = τ (i + 1)) N (fun V => J (.ret V)))) (τ i))
    (done : N (Loc.of l) (τ k)) : SC C n (.typ "range") [.int k] (fun X => SFor C n env ρ target body X N J) σ :=
  S_range hz fun r hr s1 s2 => SFor.rng hr s1 s2 (SFor.det hK hE (.tup _) l τ h0 i0 (fun i Y hY => (rngVs_nat hY).2 ▸ turn i (rngVs_nat hY).1) (by rw [rngVs_len]; exact done))
theorem rng_downZ {m j : Nat} (h : m ≤ 1000) (hj : j ≤ m) (b : Int) (hb : b = (j : Int) - 1) : Builtin.Range.small ((m : Int) - 1) b (-1) = true ∧ Builtin.Range.rangeSize ((m : Int) - 1) b (-1) = ((m - j : Nat) : Int) := by
  have e : Builtin.Range.rangeSize ((m : Int) - 1) b (-1) = ((m - j : Nat) : Int) := by
    unfold Builtin.Range.rangeSize
    rw [if_neg (by decide)]
    split
    · simp; omega
    · omega
  refine ⟨?_, e⟩
  unfold Builtin.Range.small
  rw [e]
  simp [Builtin.Range.rangeFitsLong]
  omega
theorem rng_upZ {a m : Nat} (h : m ≤ 1000) (ha : a ≤ m) : Builtin.Range.small (a : Int) (m : Int) 1 = true ∧ Builtin.Range.rangeSize (a : Int) (m : Int) 1 = ((m - a : Nat) : Int) := by
  have e : Builtin.Range.rangeSize (a : Int) (m : Int) 1 = ((m - a : Nat) : Int) := by
    unfold Builtin.Range.rangeSize
    rw [if_pos (by decide)]
    split
    · simp; omega
    · omega
  refine ⟨?_, e⟩
  unfold Builtin.Range.small
  rw [e]
  simp [Builtin.Range.rangeFitsLong]
  omega
theorem rngVs_get {a c : Int} {m i : Nat} {Y : V} (h : (rngVs a c m)[i]? = some Y) : i < m ∧ Y = .int (a + (i : Int) * c) := by
  have hi : i < m := by
    have := (List.getElem?_eq_some_iff.mp h).1
    simpa [rngVs] using this
  refine ⟨hi, ?_⟩
  have : (rngVs a c m)[i]? = some (.int (a + (i : Int) * c)) := by simp [rngVs, hi]
  rw [h] at this
  exact Option.some.inj this
theorem S_forDown {target : Expr} {body : List Stmt} {N : Loc → Store → Prop} {J : Fl → Loc → Store → Prop} {m : Nat} (j : Nat) {b : Int} (hK : C.K = KK C.w.params) (hE : PlainF env) (hz : m ≤ 1000) (hj : j ≤ m) (hb : b = (j : Int) - 1)
    (l : List (Str × V)) (τ : Nat → Store) (h0 : Loc.has l ρ) (i0 : σ = τ 0)
    (turn : ∀ i : Nat, i < m - j → (W C n).a env (Loc.of l) target (.int (m - 1 - i : Nat)) (fun ρ₂ => (W C n).ss env ρ₂ body (fun ρ₃ σ₃ => Loc.has l ρ₃ ∧ σ₃ = τ (i + 1)) (forK (fun ρ₃ σ₃ => Loc.has l ρ₃ ∧ σ₃ = τ (i + 1)) N (fun V => J (.ret V)))) (τ i))
    (done : N (Loc.of l) (τ (m - j))) : SC C n (.typ "range") [.int ((m : Int) - 1), .int b, .int (-1)] (fun X => SFor C n env ρ target body X N J) σ :=
  ⟨B_range3 (by decide) (by decide) (by omega) fun r hr => SFor.rng hr (rng_downZ hz hj b hb).1 (rng_downZ hz hj b hb).2 (SFor.det hK hE (.tup _) l τ h0 i0 (fun i Y hY => by
    have h1 := (rngVs_get hY).1
    have e : (m : Int) - 1 + (i : Int) * -1 = ((m - 1 - i : Nat) : Int) := by omega
    rw [(rngVs_get hY).2, e]
    exact turn i h1) (by rw [rngVs_len]; exact done))⟩
theorem S_forUp {target : Expr} {body : List Stmt} {N : Loc → Store → Prop} {J : Fl → Loc → Store → Prop} {m : Nat} (a : Nat) {a' : Int} (hK : C.K = KK C.w.params) (hE : PlainF env) (hz : m ≤ 1000) (ha : a ≤ m) (ha' : a' = a)
    (l : List (Str × V)) (τ : Nat → Store) (h0 : Loc.has l ρ) (i0 : σ = τ 0)
    (turn : ∀ i : Nat, i < m - a → (W C n).a env (Loc.of l) target (.int (a + i : Nat)) (fun ρ₂ => (W C n).ss env ρ₂ body (fun ρ₃ σ₃ => Loc.has l ρ₃ ∧ σ₃ = τ (i + 1)) (forK (fun ρ₃ σ₃ => Loc.has l ρ₃ ∧ σ₃ = τ (i + 1)) N (fun V => J (.ret V)))) (τ i))
    (done : N (Loc.of l) (τ (m - a))) : SC C n (.typ "range") [.int a', .int m] (fun X => SFor C n env ρ target body X N J) σ :=
  ha' ▸ ⟨B_range2 fun r hr => SFor.rng hr (rng_upZ hz ha).1 (rng_upZ hz ha).2 (SFor.det hK hE (.tup _) l τ h0 i0 (fun i Y hY => by
    have h1 := (rngVs_get hY).1
    have e : (a : Int) + (i : Int) * 1 = ((a + i : Nat) : Int) := by omega
    rw [(rngVs_get hY).2, e]
    exact turn i h1) (by rw [rngVs_len]; exact done))⟩
theorem S_forMap {α : Type} {g : α → V} {xs : List α} {target : Expr} {body : List Stmt} {N : Loc → Store → Prop} {J : Fl → Loc → Store → Prop} (hK : C.K = KK C.w.params) (hE : PlainF env)
    (l : List (Str × V)) (τ : Nat → Store) (h0 : Loc.has l ρ) (i0 : σ = τ 0)
    (turn : ∀ (i : Nat) x, xs[i]? = some x → (W C n).a env (Loc.of l) target (g x) (fun ρ₂ => (W C n).ss env ρ₂ body (fun ρ₃ σ₃ => Loc.has l ρ₃ ∧ σ₃ = τ (i + 1)) (forK (fun ρ₃ σ₃ => Loc.has l ρ₃ ∧ σ₃ = τ (i + 1)) N (fun V => J (.ret V)))) (τ i))
    (done : N (Loc.of l) (τ xs.length)) : SFor C n env ρ target body (.tuple (xs.map g)) N J σ :=
  SFor.det hK hE (.tup _) l τ h0 i0 (fun i Y hY => by
    rw [List.getElem?_map, Option.map_eq_some_iff] at hY
    obtain ⟨x, hx, rfl⟩ := hY
    exact turn i x hx) (by rw [List.length_map]; exact done)
theorem I_tup {v i : Expr} {Xs : List V} {j : Nat} {Y : V} {Φ : V → Store → Prop} {hi : notSlice i = true} (hy : Xs[j]? = some Y) (hz : Xs.length ≤ 100000) (k : Φ Y σ) : wSub C n v i hi (.tuple Xs) (.int j) Φ σ := by
  show (match z : Nat.ble j 100 with | true => (match hz : Xs[j]? with | some Z => (⟨Φ Z σ, itemT_ok C n hi z hz⟩ : Cert _) | none => ⟨SO C n (subscriptTail v i) (.tuple Xs) (.int j) Φ σ, SO.run⟩) | false => ⟨SO C n (subscriptTail v i) (.tuple Xs) (.int j) Φ σ, SO.run⟩ : Cert (TO2 C n σ (subscriptTail v i) (.tuple Xs) (.int j) Φ)).p
  split
  · split
    · rename_i h; rw [hy] at h; cases h; exact k
    · rename_i h; rw [hy] at h; cases h
  · have hj := (List.getElem?_eq_some_iff.mp hy).1
    exact ⟨O_itemT (j := j) (by omega) (by omega) (seqIdx hj) hy k fun t u => notSlice_sub hi⟩
theorem I_tupE {v i : Expr} {Xs : List V} {j : Nat} {q : Int} {Y : V} {Φ : V → Store → Prop} {hi : notSlice i = true} (e : q = (j : Int)) (hy : Xs[j]? = some Y) (hz : Xs.length ≤ 100000) (k : Φ Y σ) : wSub C n v i hi (.tuple Xs) (.int q) Φ σ := e ▸ I_tup hy hz k
theorem I_listE {v i : Expr} {a : Addr} {Xs : List V} {j : Nat} {q : Int} {Y : V} {Φ : V → Store → Prop} (e : q = (j : Int)) (h : σ a = some (.list Xs)) (hy : Xs[j]? = some Y) (hz : Xs.length ≤ 100000) (k : Φ Y σ) (hi : notSlice i = true := by rfl) : SO C n (subscriptTail v i) (.ref a) (.int q) Φ σ := e ▸ I_list h hy hz k fun t u => notSlice_sub hi
theorem I_last {v i : Expr} {Ys : List V} {Y : V} {Φ : V → Store → Prop} (hz : Ys.length ≤ 1000) (hy : Ys[Ys.length - 1]? = some Y) (h : Φ Y σ) (hi : notSlice i = true := by rfl) : SO C n (subscriptTail v i) (.tuple Ys) (.int (-1)) Φ σ := by
  have hl : 0 < Ys.length := by
    have := (List.getElem?_eq_some_iff.mp hy).1
    omega
  refine ⟨O_itemT (j := Ys.length - 1) (by decide) (by decide) ?_ hy h fun t u => notSlice_sub hi⟩
  unfold seqIndex?
  have h2 : (0 : Int) ≤ -1 + Ys.length := by omega
  have h3 : -1 + (Ys.length : Int) < Ys.length := by omega
  simp only [show ((-1 : Int) < 0) from by decide, if_true, h2, h3, decide_true, Bool.and_self]
  congr 1
  omega
theorem I_lastL {v i : Expr} {a : Addr} {Xs : List V} {Y : V} {Φ : V → Store → Prop} (h : σ a = some (.list Xs)) (hz : Xs.length ≤ 100000) (hy : Xs[Xs.length - 1]? = some Y) (k : Φ Y σ) (hi : notSlice i = true := by rfl) : SO C n (subscriptTail v i) (.ref a) (.int (-1)) Φ σ := by
  have hl := (List.getElem?_eq_some_iff.mp hy).1
  exact ⟨O_itemLneg h (by decide) (by omega) (by decide) (by rw [show ((-1 : Int) + Xs.length).toNat = Xs.length - 1 from by omega]; exact hy) k fun t u => notSlice_sub hi⟩
theorem compE_ok {scope : Scope} {cl : List (Str × Addr)} {Ca : Addr} (hE : PlainF env) (hk : scope.kind = .function) (hd' : (relabel scope env).names.lookup ("__debug__" : Str) = none) : PlainF (compEnvC scope cl Ca env) := ⟨hk, hE.gl, hE.bl, hd'⟩
theorem SComp.gen {scope : Scope} {cl : List (Str × Addr)} {x : Str} {elt : Expr} {X : V} {Φ : V → Store → Prop} {Ys : List V} {σ₂ : Store} {f : Store → Store} (hK : C.K = KK C.w.params) (hE : ∀ Ca, PlainF (compEnvC scope cl Ca env)) (S : Src C σ X Ys σ₂ f) (hz : Ys.length ≤ 100000)
    (J : Nat → List V → Store → Prop) (j0 : J 0 [] σ₂)
    (turn : ∀ Ca i Y Zs σ', Ys[i]? = some Y → J i Zs σ' → (W C n).e (compEnvC scope cl Ca env) (Loc.none.set x Y) elt (fun Z σ₄ => J (i + 1) (Zs ++ [Z]) σ₄) σ')
    (done : ∀ D Zs σ', J Ys.length Zs σ' → (f σ') D = none → D ≠ env.locals → Drop Φ (.ref D) ((f σ').set D (.list Zs))) : SComp C n env scope cl x elt [] X Φ σ :=
  ⟨Ys, σ₂, f, J, S, Nat.le_trans hz sizeLine_big, j0, fun Ca i Y Zs σ' _ hY j => TIf_nil (if_t rfl ((W_sound hK).e (hE Ca) (turn Ca i Y Zs σ' hY j))), fun D Zs σ' _ j _ a b => done D Zs σ' j a b⟩
theorem SCompT.gen {scope : Scope} {cl : List (Str × Addr)} {x : Str} {elt : Expr} {X : V} {Φ : V → Store → Prop} {Ys : List V} {σ₂ : Store} {f : Store → Store} (hK : C.K = KK C.w.params) (hE : ∀ Ca, PlainF (compEnvC scope cl Ca env)) (S : Src C σ X Ys σ₂ f) (hz : Ys.length ≤ 100000)
    (J : Nat → List V → Store → Prop) (j0 : J 0 [] σ₂)
    (turn : ∀ Ca i Y Zs σ', Ys[i]? = some Y → J i Zs σ' → (W C n).e (compEnvC scope cl Ca env) (Loc.none.set x Y) elt (fun Z σ₄ => J (i + 1) (Zs ++ [Z]) σ₄) σ')
    (done : ∀ Zs σ', J Ys.length Zs σ' → Φ (.tuple Zs) (f σ')) : SCompT C n env scope cl x elt [] X Φ σ :=
  ⟨Ys, σ₂, f, J, S, hz, j0, fun Ca i Y Zs σ' _ hY j => TIf_nil (if_t rfl ((W_sound hK).e (hE Ca) (turn Ca i Y Zs σ' hY j))), fun Zs σ' _ j => Drop.all (done Zs σ' j)⟩
theorem SCompT.map {α : Type} {g h : α → V} {ys : List α} {scope : Scope} {cl : List (Str × Addr)} {x : Str} {elt : Expr} {Φ : V → Store → Prop} (hK : C.K = KK C.w.params) (hE : ∀ Ca, PlainF (compEnvC scope cl Ca env)) (hz : ys.length ≤ 100000)
    (turn : ∀ Ca (i : Nat) y Ψ, ys[i]? = some y → Ψ (h y) σ → (W C n).e (compEnvC scope cl Ca env) (Loc.none.set x (g y)) elt Ψ σ) (done : Φ (.tuple (ys.map h)) σ) : SCompT C n env scope cl x elt [] (.tuple (ys.map g)) Φ σ :=
  SCompT.gen hK hE (.tup _) (by rwa [List.length_map]) (fun i Zs σ' => σ' = σ ∧ Zs = (ys.take i).map h) ⟨rfl, rfl⟩ (fun Ca i Y Zs σ' hY j => by
    rw [List.getElem?_map, Option.map_eq_some_iff] at hY
    obtain ⟨y, hy, rfl⟩ := hY
    obtain ⟨rfl, rfl⟩ := j
    exact turn Ca i y _ hy ⟨rfl, by rw [List.take_add_one, hy, List.map_append]; rfl⟩) fun Zs σ' j => by
    obtain ⟨rfl, rfl⟩ := j
    rw [List.length_map, List.take_length]; exact done
noncomputable def NewR (σ : Store) (y : AObj) : V → Store → Prop := fun X σ' => ∃ c, X = .ref c ∧ σ c = none ∧ σ' = σ.set c y
theorem finN {c : Addr} {y : AObj} (h : σ c = none) : SRet (NewR σ y) (.ref c) (σ.set c y) := ⟨Drop.eq ⟨c, rfl, h, rfl⟩⟩
theorem set_none {τ : Store} {c x : Addr} {y : AObj} (h : (τ.set c y) x = none) : τ x = none := by
  unfold Store.set at h; split at h
  · cases h
  · exact h
theorem set_both {τ : Store} {c : Addr} {y : AObj} (h : ∀ a x, σ a = some x → τ a = some x) : ∀ a x, (σ.set c y) a = some x → (τ.set c y) a = some x := fun a x e => by
  unfold Store.set at e ⊢; split at e
  · rename_i q; rw [if_pos q]; exact e
  · rename_i q; rw [if_neg q]; exact h a x e
theorem finNS {c : Addr} {y : AObj} {τ : Store} (h : σ c = none) (s : ∀ a x, (σ.set c y) a = some x → τ a = some x) : SRet (NewR σ y) (.ref c) τ := ⟨_, s, c, rfl, h, rfl⟩
theorem S_listAdd {a b : Addr} {Xs Ys : List V} {Φ : V → Store → Prop} (h1 : σ a = some (.list Xs)) (h2 : σ b = some (.list Ys)) (hz : Xs.length + Ys.length ≤ 100000) (k : ∀ c, σ c = none → Φ (.ref c) (σ.set c (.list (Xs ++ Ys)))) : SO C n (binaryOp .Add) (.ref a) (.ref b) Φ σ :=
  ⟨O_listAdd h1 h2 (Nat.le_trans hz sizeLine_big) k⟩
theorem SC.new {m : Nat} {a : Addr} {Xs : List V} {y : AObj} {Φ : V → Store → Prop} (d : TCc C m σ a Xs (NewR σ y)) (k : ∀ c, σ c = none → Φ (.ref c) (σ.set c y)) (hm : m ≤ n) : SC C n (.ref a) Xs Φ σ :=
  ⟨TC_use d hm fun R σ' ⟨c, e1, h, e2⟩ => e1 ▸ e2 ▸ k c h⟩
theorem S_get {x : Addr} {es : List (Str × V)} {key : Str} {X Y : V} {Φ : V → Store → Prop} (h : σ x = some (.sdict es)) (e : (lkD key es).getD X = Y) (k : Φ Y σ) : SMeth C n (.ref x) "get" [.str key, X] Φ σ := ⟨_, .get h, B_get h (e ▸ k)⟩
end
end
section
open PySem PySem.W PySem.Calls PyProof.Rows PySem.Spec
theorem ok_negated_if : FnOk f_negated_if ["cond", "is_not"] := ⟨len2 fun _ _ => rfl, rfl, rfl, rfl, rfl, rfl, rfl, rfl, rfl⟩
theorem ok_object_cond : FnOk f_object_cond ["subject", "thing"] := ⟨len2 fun _ _ => rfl, rfl, rfl, rfl, rfl, rfl, rfl, rfl, rfl⟩
theorem ok_row_cond : FnOk f_row_cond ["subjects", "things"] := ⟨len2 fun _ _ => rfl, rfl, rfl, rfl, rfl, rfl, rfl, rfl, rfl⟩
theorem ok_rows_cond : FnOk f_rows_cond ["subjects", "rows"] := ⟨len2 fun _ _ => rfl, rfl, rfl, rfl, rfl, rfl, rfl, rfl, rfl⟩
theorem ok_as_ifs : FnOk f_as_ifs ["evaluate"] := ⟨len1 fun _ => rfl, rfl, rfl, rfl, rfl, rfl, rfl, rfl, rfl⟩
theorem ok_goal_parts : FnOk f_goal_parts ["file", "goal"] := ⟨len2 fun _ _ => rfl, rfl, rfl, rfl, rfl, rfl, rfl, rfl, rfl⟩
theorem ok_sort_parts : FnOk f_sort_parts ["statement"] := ⟨len1 fun _ => rfl, rfl, rfl, rfl, rfl, rfl, rfl, rfl, rfl⟩
theorem ok_branches_of : FnOk f_branches_of ["statement"] := ⟨len1 fun _ => rfl, rfl, rfl, rfl, rfl, rfl, rfl, rfl, rfl⟩
theorem ok_Code_init : FnOk f_Code_init ["self", "ops", "begins"] := ⟨len3 fun _ _ _ => rfl, rfl, rfl, rfl, rfl, rfl, rfl, rfl, rfl⟩
theorem ok_Code_told : FnOk f_Code_told ["self"] := ⟨len1 fun _ => rfl, rfl, rfl, rfl, rfl, rfl, rfl, rfl, rfl⟩
theorem ok_labels_of : FnOk f_labels_of ["op"] := ⟨len1 fun _ => rfl, rfl, rfl, rfl, rfl, rfl, rfl, rfl, rfl⟩
theorem ok_relabelled : FnOkC f_relabelled ["op", "change"] "change" := ⟨len2 fun _ _ => rfl, rfl, rfl, fun _ => rfl, rfl, rfl, rfl, rfl, rfl, rfl⟩
theorem ok_goes_on : FnOk f_goes_on ["op"] := ⟨len1 fun _ => rfl, rfl, rfl, rfl, rfl, rfl, rfl, rfl, rfl⟩
theorem ok_Draft_init : FnOkC f_Draft_init ["self", "procedures"] "self" := ⟨len2 fun _ _ => rfl, rfl, rfl, fun _ => rfl, rfl, rfl, rfl, rfl, rfl, rfl⟩
theorem ok_Draft_fresh : FnOk f_Draft_fresh ["self"] := ⟨len1 fun _ => rfl, rfl, rfl, rfl, rfl, rfl, rfl, rfl, rfl⟩
theorem ok_Draft_here : FnOk f_Draft_here ["self", "label"] := ⟨len2 fun _ _ => rfl, rfl, rfl, rfl, rfl, rfl, rfl, rfl, rfl⟩
theorem ok_Draft_put : FnOk f_Draft_put ["self", "op"] := ⟨len2 fun _ _ => rfl, rfl, rfl, rfl, rfl, rfl, rfl, rfl, rfl⟩
theorem ok_Draft_slot : FnOk f_Draft_slot ["self"] := ⟨len1 fun _ => rfl, rfl, rfl, rfl, rfl, rfl, rfl, rfl, rfl⟩
theorem ok_Draft_head_of : FnOk f_Draft_head_of ["self", "pair"] := ⟨len2 fun _ _ => rfl, rfl, rfl, rfl, rfl, rfl, rfl, rfl, rfl⟩
theorem ok_Draft_finished : FnOkC f_Draft_finished ["self"] "self" := ⟨len1 fun _ => rfl, rfl, rfl, fun _ => rfl, rfl, rfl, rfl, rfl, rfl, rfl⟩
theorem ok_put_expression : FnOk f_put_expression ["draft", "expr", "label"] := ⟨len3 fun _ _ _ => rfl, rfl, rfl, rfl, rfl, rfl, rfl, rfl, rfl⟩
theorem ok_put_condition : FnOk f_put_condition ["draft", "cond", "is_wanted", "label"] := ⟨len4 fun _ _ _ _ => rfl, rfl, rfl, rfl, rfl, rfl, rfl, rfl, rfl⟩
theorem ok_put_statements : FnOk f_put_statements ["draft", "statements"] := ⟨len2 fun _ _ => rfl, rfl, rfl, rfl, rfl, rfl, rfl, rfl, rfl⟩
theorem ok_put_statement : FnOkC f_put_statement ["draft", "statement"] "draft" := ⟨len2 fun _ _ => rfl, rfl, rfl, fun _ => rfl, rfl, rfl, rfl, rfl, rfl, rfl⟩
theorem ok_put_if : FnOk f_put_if ["draft", "statement"] := ⟨len2 fun _ _ => rfl, rfl, rfl, rfl, rfl, rfl, rfl, rfl, rfl⟩
theorem ok_put_arith : FnOk f_put_arith ["draft", "statement"] := ⟨len2 fun _ _ => rfl, rfl, rfl, rfl, rfl, rfl, rfl, rfl, rfl⟩
theorem ok_put_deed : FnOk f_put_deed ["draft", "statement"] := ⟨len2 fun _ _ => rfl, rfl, rfl, rfl, rfl, rfl, rfl, rfl, rfl⟩
theorem ok_put_sort : FnOk f_put_sort ["draft", "statement"] := ⟨len2 fun _ _ => rfl, rfl, rfl, rfl, rfl, rfl, rfl, rfl, rfl⟩
theorem ok_put_range : FnOk f_put_range ["draft", "first", "last"] := ⟨len3 fun _ _ _ => rfl, rfl, rfl, rfl, rfl, rfl, rfl, rfl, rfl⟩
theorem ok_put_goal : FnOk f_put_goal ["draft", "goal"] := ⟨len2 fun _ _ => rfl, rfl, rfl, rfl, rfl, rfl, rfl, rfl, rfl⟩
theorem ok_put_perform : FnOk f_put_perform ["draft", "statement"] := ⟨len2 fun _ _ => rfl, rfl, rfl, rfl, rfl, rfl, rfl, rfl, rfl⟩
theorem ok_put_times : FnOk f_put_times ["draft", "goal", "operand"] := ⟨len3 fun _ _ _ => rfl, rfl, rfl, rfl, rfl, rfl, rfl, rfl, rfl⟩
theorem ok_put_until : FnOk f_put_until ["draft", "goal", "is_after", "cond"] := ⟨len4 fun _ _ _ _ => rfl, rfl, rfl, rfl, rfl, rfl, rfl, rfl, rfl⟩
theorem ok_put_step : FnOk f_put_step ["draft", "ref", "expr", "way"] := ⟨len4 fun _ _ _ _ => rfl, rfl, rfl, rfl, rfl, rfl, rfl, rfl, rfl⟩
theorem ok_put_varying : FnOkC f_put_varying ["draft", "goal", "rows"] "draft" := ⟨len3 fun _ _ _ => rfl, rfl, rfl, fun _ => rfl, rfl, rfl, rfl, rfl, rfl, rfl⟩
theorem ok_put_varying_after : FnOk f_put_varying_after ["draft", "goal", "rows"] := ⟨len3 fun _ _ _ => rfl, rfl, rfl, rfl, rfl, rfl, rfl, rfl, rfl⟩
theorem ok_compiled : FnOk f_compiled ["procedures"] := ⟨len1 fun _ => rfl, rfl, rfl, rfl, rfl, rfl, rfl, rfl, rfl⟩
theorem ok_labels_in : FnOk f_labels_in ["op"] := ⟨len1 fun _ => rfl, rfl, rfl, rfl, rfl, rfl, rfl, rfl, rfl⟩
theorem ok_form_fault : FnOkC f_form_fault ["code", "op"] "code" := ⟨len2 fun _ _ => rfl, rfl, rfl, fun _ => rfl, rfl, rfl, rfl, rfl, rfl, rfl⟩
theorem ok_taken_by : FnOk f_taken_by ["op"] := ⟨len1 fun _ => rfl, rfl, rfl, rfl, rfl, rfl, rfl, rfl, rfl⟩
theorem ok_height_behind : FnOk f_height_behind ["op", "height"] := ⟨len2 fun _ _ => rfl, rfl, rfl, rfl, rfl, rfl, rfl, rfl, rfl⟩
theorem ok_height_faults : FnOk f_height_faults ["code"] := ⟨len1 fun _ => rfl, rfl, rfl, rfl, rfl, rfl, rfl, rfl, rfl⟩
theorem ok_well_formed : FnOk f_well_formed ["code"] := ⟨len1 fun _ => rfl, rfl, rfl, rfl, rfl, rfl, rfl, rfl, rfl⟩
theorem ok_Paragraph_init : FnOk f_Paragraph_init ["self", "name", "section", "statements"] := ⟨len4 fun _ _ _ _ => rfl, rfl, rfl, rfl, rfl, rfl, rfl, rfl, rfl⟩
theorem ok_Procedures_init : FnOk f_Procedures_init ["self", "rows", "using"] := ⟨len3 fun _ _ _ => rfl, rfl, rfl, rfl, rfl, rfl, rfl, rfl, rfl⟩
theorem ok_Procedures_range_of : FnOk f_Procedures_range_of ["self", "pair"] := ⟨len2 fun _ _ => rfl, rfl, rfl, rfl, rfl, rfl, rfl, rfl, rfl⟩
theorem ok_law_pen : FnOk f_law_pen ["script"] := ⟨len1 fun _ => rfl, rfl, rfl, rfl, rfl, rfl, rfl, rfl, rfl⟩
theorem ok_law_draw : FnOk f_law_draw ["pen", "many"] := ⟨len2 fun _ _ => rfl, rfl, rfl, rfl, rfl, rfl, rfl, rfl, rfl⟩
theorem ok_law_ref : FnOk f_law_ref ["pen"] := ⟨len1 fun _ => rfl, rfl, rfl, rfl, rfl, rfl, rfl, rfl, rfl⟩
theorem ok_law_expr : FnOk f_law_expr ["pen", "deep"] := ⟨len2 fun _ _ => rfl, rfl, rfl, rfl, rfl, rfl, rfl, rfl, rfl⟩
theorem ok_law_cond : FnOk f_law_cond ["pen", "deep"] := ⟨len2 fun _ _ => rfl, rfl, rfl, rfl, rfl, rfl, rfl, rfl, rfl⟩
theorem ok_law_pair : FnOk f_law_pair ["pen", "count"] := ⟨len2 fun _ _ => rfl, rfl, rfl, rfl, rfl, rfl, rfl, rfl, rfl⟩
theorem ok_law_loop : FnOkC f_law_loop ["pen"] "pen" := ⟨len1 fun _ => rfl, rfl, rfl, fun _ => rfl, rfl, rfl, rfl, rfl, rfl, rfl⟩
theorem ok_law_op_right : FnOkC f_law_op_right ["op", "size"] "size" := ⟨len2 fun _ _ => rfl, rfl, rfl, fun _ => rfl, rfl, rfl, rfl, rfl, rfl, rfl⟩
end
section
open PySem PySem.W PySem.Calls PyProof.Rows PySem.Spec
set_option backward.isDefEq.lazyWhnfCore false
section
variable {C : Cx} {n : Nat} {σ : Store} {a : DA} {d : D} {cnt : Nat}
theorem dst_put (A : a.Apart σ) {o : Op} : (dst σ a cnt d).set a.o (.list (d.ops.map Op.v ++ [o.v])) = dst σ a cnt (d.put o) := by
  have := dst_ops (cnt := cnt) (d := d) (d' := d.put o) A
  rwa [D.put, List.map_append] at this
theorem dst_fresh (A : a.Apart σ) : (dst σ a cnt d).set a.p (.list (d.places.map V.int ++ [.int (-1)])) = dst σ a cnt d.fresh := by
  have := dst_places (cnt := cnt) (d := d) (ps := d.places ++ [-1]) A
  rwa [List.map_append] at this
theorem dst_here (A : a.Apart σ) {l : Nat} : (dst σ a cnt d).set a.p (.list ((d.places.map V.int).set l (.int d.ops.length))) = dst σ a cnt (d.here l) := by
  have := dst_places (cnt := cnt) (d := d) (ps := d.places.set l d.ops.length) A
  rwa [List.map_set] at this
theorem dst_slot (A : a.Apart σ) : (dst σ a cnt d).set a.dx (.ns (putE "slots" (.int (d.slots + 1)) (a.ns d))) = dst σ a cnt d.slot := dst_ns (k := d.slots + 1) A
theorem mapl {α : Type} {f : α → V} {l : List α} {k : Nat} (h : l.length ≤ k) : (l.map f).length ≤ k := by rwa [List.length_map]
theorem D_ops (hK : C.K = KK C.w.params) (A : a.Apart σ) {Φ : V → Store → Prop} (k : Φ (.ref a.o) (dst σ a cnt d)) : SAtt C (.ref a.x) "ops" Φ (dst σ a cnt d) := SAtt.at (OA.at hK o_Draft_ops) dst_x (dst_dx A) k
theorem D_places (hK : C.K = KK C.w.params) (A : a.Apart σ) {Φ : V → Store → Prop} (k : Φ (.ref a.p) (dst σ a cnt d)) : SAtt C (.ref a.x) "places" Φ (dst σ a cnt d) := SAtt.at (OA.at hK o_Draft_places) dst_x (dst_dx A) k
theorem D_slots (hK : C.K = KK C.w.params) (A : a.Apart σ) {Φ : V → Store → Prop} (k : Φ (.int d.slots) (dst σ a cnt d)) : SAtt C (.ref a.x) "slots" Φ (dst σ a cnt d) := SAtt.at (OA.at hK o_Draft_slots) dst_x (dst_dx A) k
theorem D_heads (hK : C.K = KK C.w.params) (A : a.Apart σ) {Φ : V → Store → Prop} (k : Φ (.ref a.h) (dst σ a cnt d)) : SAtt C (.ref a.x) "heads" Φ (dst σ a cnt d) := SAtt.at (OA.at hK o_Draft_heads) dst_x (dst_dx A) k
theorem D_procs (hK : C.K = KK C.w.params) (A : a.Apart σ) {Φ : V → Store → Prop} (k : Φ (.ref a.pr) (dst σ a cnt d)) : SAtt C (.ref a.x) "procedures" Φ (dst σ a cnt d) := SAtt.at (OA.at hK o_Draft_procedures) dst_x (dst_dx A) k
theorem A_attr {env : Env} {ρ : Loc} {o : Expr} {name : Str} {pos : Pos} {X : V} {N : Loc → Store → Prop} (hK : C.K = KK C.w.params) (hE : PlainF env) {x Cl dx : Addr} {es : List (Str × V)} (sa : SA Cl name)
    (h : (W C n).e env ρ o (fun O σ₁ => O = .ref x ∧ σ₁ x = some (.inst Cl dx) ∧ σ₁ dx = some (.ns es) ∧ es.length ≤ 900 ∧ N ρ (σ₁.set dx (.ns (putE name X es)))) σ) : SAs C n env ρ (.Attribute o name pos) X N σ := by
  have s := sa C.w.params
  rw [← hK] at s
  exact ⟨TA_attr (((W_sound hK).e hE h).mono fun O σ₁ ⟨e, h1, h2, h3, k⟩ => ⟨x, Cl, dx, es, e, h1, h2, h3, s.1, s.2.1, s.2.2.1, s.2.2.2, k⟩)⟩
theorem A_item {env : Env} {ρ : Loc} {o i : Expr} {pos : Pos} {Y : V} {N : Loc → Store → Prop} (hK : C.K = KK C.w.params) (hE : PlainF env)
    (h : (W C n).e env ρ o (fun X => (W C n).e env ρ i (fun I σ₂ => ∃ a j Xs, X = .ref a ∧ I = .int (Int.ofNat j) ∧ σ₂ a = some (.list Xs) ∧ Xs.length ≤ 100000 ∧ j < Xs.length ∧ N ρ (σ₂.set a (.list (Xs.set j Y))))) σ) : SAs C n env ρ (.Subscript o i pos) Y N σ :=
  ⟨TA_itemL (((W_sound hK).e hE h).mono fun X σ₁ h => ((W_sound hK).e hE h).mono fun I σ₂ ⟨a, j, Xs, e1, e2, h1, hz, hj, k⟩ => ⟨a, (j : Nat), Xs, e1, e2, h1, Int.natCast_nonneg _, by omega, by omega, by simpa using k⟩)⟩
variable (hK : C.K = KK C.w.params) (A : a.Apart σ)
include hK A
theorem c_put (o : Op) (hz : d.ops.length ≤ 100000) : Det C (n + 1) (dst σ a cnt d) 173 [.ref a.x, o.v] .none (dst σ a cnt (d.put o)) :=
  fnX ok_Draft_put hK fun L hL => D_ops hK A (S_append (dst_o A) (mapl hz) (finE rfl (dst_put A)))
theorem c_fresh (hz : d.places.length ≤ 60000) : Det C (n + 1) (dst σ a cnt d) 159 [.ref a.x] (.int d.places.length) (dst σ a cnt d.fresh) :=
  fnX ok_Draft_fresh hK fun L hL => D_places hK A (S_append (dst_p A) (mapl (Nat.le_trans hz (by decide))) (by
    rw [dst_fresh A]
    refine D_places hK A (S_lenL (dst_p A) (mapl (by rw [len_fresh]; omega)) (finE ?_ rfl))
    rw [List.length_map, len_fresh]
    exact congrArg V.int (by omega)))
theorem c_slot : Det C (n + 1) (dst σ a cnt d) 180 [.ref a.x] (.int d.slots) (dst σ a cnt d.slot) :=
  fnX ok_Draft_slot hK fun L hL => D_slots hK A (A_attr hK (ok_Draft_slot.plain L) s_Draft_slots ⟨rfl, dst_x, dst_dx A, Nat.le_of_ble_eq_true rfl, by
    rw [dst_slot A]
    exact D_slots hK A (finE (congrArg V.int (by show ((d.slots + 1 : Nat) : Int) - 1 = _; omega)) rfl)⟩)
theorem c_here (l : Nat) (hl : l < d.places.length) (hz : d.places.length ≤ 100000) (ho : d.ops.length ≤ 100000) : Det C (n + 1) (dst σ a cnt d) 166 [.ref a.x, .int l] .none (dst σ a cnt (d.here l)) :=
  fnX ok_Draft_here hK fun L hL => D_ops hK A (S_lenL (dst_o A) (mapl ho) (A_item hK (ok_Draft_here.plain L) (D_places hK A ⟨_, _, _, rfl, rfl, dst_p A, mapl hz, by rwa [List.length_map], finE rfl (by rw [List.length_map]; exact dst_here A)⟩)))
theorem S_put (o : Op) (hz : Sm (d.put o)) {Φ : V → Store → Prop} (next : Φ .none (dst σ a cnt (d.put o))) : SMeth C (n + 1) (.ref a.x) "put" [o.v] Φ (dst σ a cnt d) :=
  SMeth.det (.own dst_x (dst_dx A) rfl (MA.at hK a_Draft_put)) (c_put hK A o hz.put.o1) next
theorem SM_put {K : V → Prop} (k : K (.ref 173)) : SM C (.ref a.x) "put" K (dst σ a cnt d) := ⟨_, .own dst_x (dst_dx A) rfl (MA.at hK a_Draft_put), k⟩
theorem SM_here {K : V → Prop} (k : K (.ref 166)) : SM C (.ref a.x) "here" K (dst σ a cnt d) := ⟨_, .own dst_x (dst_dx A) rfl (MA.at hK a_Draft_here), k⟩
theorem C_put (o : Op) (hz : Sm (d.put o)) {Φ : V → Store → Prop} (next : Φ .none (dst σ a cnt (d.put o))) : SC C (n + 1) (.ref 173) [.ref a.x, o.v] Φ (dst σ a cnt d) := SC.det (c_put (n := n) hK A o hz.put.o1) next (Nat.le_refl _)
theorem C_putE (o : Op) {X : V} (e : o.v = X) (hz : Sm (d.put o)) {Φ : V → Store → Prop} (next : Φ .none (dst σ a cnt (d.put o))) : SC C (n + 1) (.ref 173) [.ref a.x, X] Φ (dst σ a cnt d) := e ▸ C_put hK A o hz next
theorem C_here (l : Nat) (hz : Sm (d.here l)) (hl : l < d.places.length) {Φ : V → Store → Prop} (next : Φ .none (dst σ a cnt (d.here l))) : SC C (n + 1) (.ref 166) [.ref a.x, .int l] Φ (dst σ a cnt d) := SC.det (c_here (n := n) hK A l hl hz.here.p1 hz.here.o1) next (Nat.le_refl _)
theorem S_fresh (hz : Sm d.fresh) {Φ : V → Store → Prop} (next : Φ (.int d.places.length) (dst σ a cnt d.fresh)) : SMeth C (n + 1) (.ref a.x) "fresh" [] Φ (dst σ a cnt d) :=
  SMeth.det (.own dst_x (dst_dx A) rfl (MA.at hK a_Draft_fresh)) (c_fresh hK A hz.fresh.pl) next
theorem S_slot {Φ : V → Store → Prop} (next : Φ (.int d.slots) (dst σ a cnt d.slot)) : SMeth C (n + 1) (.ref a.x) "slot" [] Φ (dst σ a cnt d) :=
  SMeth.det (.own dst_x (dst_dx A) rfl (MA.at hK a_Draft_slot)) (c_slot hK A) next
theorem S_here (l : Nat) (hz : Sm (d.here l)) (hl : l < d.places.length) {Φ : V → Store → Prop} (next : Φ .none (dst σ a cnt (d.here l))) : SMeth C (n + 1) (.ref a.x) "here" [.int l] Φ (dst σ a cnt d) :=
  SMeth.det (.own dst_x (dst_dx A) rfl (MA.at hK a_Draft_here)) (c_here hK A l hl hz.here.p1 hz.here.o1) next
end
end
section
open PySem PySem.W PySem.Calls PyProof.Rows PySem.Spec
set_option backward.isDefEq.lazyWhnfCore false
section
variable {C : Cx} {n : Nat} {σ : Store} (hK : C.K = KK C.w.params)
include hK
theorem P_name {p dp : Addr} {i : Nat} {X : V} {Φ : V → Store → Prop} (h1 : σ p = some (.inst 429 dp)) (h2 : σ dp = some (.ns [("name", .str (pname i)), ("section", .str ""), ("statements", X)])) (k : Φ (.str (pname i)) σ) : SAtt C (.ref p) "name" Φ σ :=
  SAtt.at (OA.at hK o_Paragraph_name) h1 h2 k
theorem P_section {p dp : Addr} {i : Nat} {X : V} {Φ : V → Store → Prop} (h1 : σ p = some (.inst 429 dp)) (h2 : σ dp = some (.ns [("name", .str (pname i)), ("section", .str ""), ("statements", X)])) (k : Φ (.str "") σ) : SAtt C (.ref p) "section" Φ σ :=
  SAtt.at (OA.at hK o_Paragraph_section) h1 h2 k
theorem P_rows {pr dp rl : Addr} {Φ : V → Store → Prop} (h1 : σ pr = some (.inst 469 dp)) (h2 : σ dp = some (.ns [("rows", .ref rl), ("using", .tuple [])])) (k : Φ (.ref rl) σ) : SAtt C (.ref pr) "rows" Φ σ :=
  SAtt.at (OA.at hK o_Procedures_rows) h1 h2 k
theorem c_range_of {pr : Addr} {Xs : List V} (P : ProcsAt σ pr Xs) (i : Nat) (hi : i < Xs.length) (hX : Xs.length ≤ 4) : Det C (n + 1) σ 466 [.ref pr, .tuple [.str (pname i), .str ""]] (.tuple [.int i, .int i]) σ := by
  obtain ⟨dp, rl, ps, h1, h2, h3, hlen, hp⟩ := P
  refine fnX ok_Procedures_range_of hK fun L hL => ⟨fun F hF _ => ?_⟩
  have nF : ∀ {x : AObj} {b : Addr} {y : AObj}, σ b = some y → (σ.set F x) b = some y := fun e => set_at hF e
  have e4 : ∀ k, k < (ps.map V.ref).length → k < 4 := fun k h => by rw [List.length_map] at h; omega
  refine P_rows hK (nF h1) (nF h2) (S_lenL (nF h3) (by simp; omega) (S_forR hK (ok_Procedures_range_of.plain L) (by simp; omega) [("self", .ref pr), ("name", .str (pname i)), ("section", .str ""), ("found", .ref F)]
    (fun k => σ.set F (.list (if i < k then [.tuple [.int i, .int i]] else []))) ⟨rfl, rfl, rfl, rfl, trivial⟩ rfl (fun k hk => ?_) ?_))
  · obtain ⟨p, hp'⟩ : ∃ p, ps[k]? = some p := ⟨_, List.getElem?_eq_getElem (by simpa using hk)⟩
    obtain ⟨X, hX'⟩ : ∃ X, Xs[k]? = some X := ⟨_, List.getElem?_eq_getElem (by rw [List.length_map] at hk; omega)⟩
    obtain ⟨pd, e1, e2⟩ := (hp k p X hp' hX').at_
    have pn := pname_ne k (e4 k hk)
    have pe := pname_eq k (e4 k hk) i (Nat.lt_of_lt_of_le hi hX)
    refine P_rows hK (nF h1) (nF h2) (I_list (nF h3) (Y := .ref p) (by rw [List.getElem?_map, hp']; rfl) (by simp; omega) (P_name hK (nF e1) (nF e2) ?_))
    by_cases q : k = i
    · subst q
      rw [if_neg (Nat.lt_irrefl k), if_pos (Nat.lt_succ_self k)]
      refine wIf_t (by rw [pe]; simp) (wIf_t pn.1 (P_section hK (nF e1) (nF e2) (S_append set_self (Nat.zero_le _) ?_)))
      rw [set_set]
      exact P_name hK (nF e1) (nF e2) (wIf_f pn.2.1 ⟨⟨rfl, rfl, rfl, rfl, trivial⟩, rfl⟩)
    · refine wIf_f (by rw [pe]; simp [q]) (P_name hK (nF e1) (nF e2) (wIf_f pn.2.1 ⟨⟨rfl, rfl, rfl, rfl, trivial⟩, ?_⟩))
      have : (i < k) = (i < k + 1) := by rw [eq_iff_iff]; omega
      simp only [this]
  · rw [if_pos (by rw [List.length_map]; omega)]
    exact S_truthL set_self (Nat.le_of_ble_eq_true rfl) (S_lenL set_self (Nat.le_of_ble_eq_true rfl) (I_list0 set_self (finS (set_sub hF))))
end
section
variable {C : Cx} {n : Nat} {σ : Store} {a : DA} {d : D} {Xs : List V} (hK : C.K = KK C.w.params) (A : Around' σ a Xs) (h4 : Xs.length ≤ 4)
include hK A h4
noncomputable def pairV (i : Nat) : V := .tuple [.str (pname i), .str ""]
theorem c_range_at (i : Nat) (hi : i < Xs.length) : Det C (n + 1) (dst σ a Xs.length d) 466 [.ref a.pr, pairV i] (.tuple [.int i, .int i]) (dst σ a Xs.length d) :=
  c_range_of hK (A.procs.mono fun b x e => dst_at A.apart e) i hi h4
theorem S_range_of (i : Nat) (hi : i < Xs.length) {Φ : V → Store → Prop} (next : Φ (.tuple [.int i, .int i]) (dst σ a Xs.length d)) : SMeth C (n + 1) (.ref a.pr) "range_of" [pairV i] Φ (dst σ a Xs.length d) := by
  obtain ⟨dp, rl, ps, h1, h2, h3, _⟩ := A.procs
  exact SMeth.det (.own (dst_at A.apart h1) (dst_at A.apart h2) rfl (MA.at hK a_Procedures_range_of)) (c_range_at hK A h4 i hi) next
theorem c_head_of (i : Nat) (hi : i < Xs.length) : Det C (n + 2) (dst σ a Xs.length d) 187 [.ref a.x, pairV i] (.int i) (dst σ a Xs.length d) :=
  fnX ok_Draft_head_of hK fun L hL => D_heads hK A.apart (D_procs hK A.apart (S_range_of hK A h4 i hi (I_list (dst_h A.apart) (by simp [heads, hi]) (by simp [heads]; omega) fin)))
theorem S_head_of (i : Nat) (hi : i < Xs.length) {Φ : V → Store → Prop} (next : Φ (.int i) (dst σ a Xs.length d)) : SMeth C (n + 2) (.ref a.x) "head_of" [pairV i] Φ (dst σ a Xs.length d) :=
  SMeth.det (.own dst_x (dst_dx A.apart) rfl (MA.at hK a_Draft_head_of)) (c_head_of hK A h4 i hi) next
theorem c_put_range (i j : Nat) (hi : i < Xs.length) (hj : j < Xs.length) (hz : Sm (d.put (.perform i j))) : Det C (n + 2) (dst σ a Xs.length d) 258 [.ref a.x, pairV i, pairV j] .none (dst σ a Xs.length (d.put (.perform i j))) :=
  fnX ok_put_range hK fun L hL => D_procs hK A.apart (S_range_of hK A h4 i hi (SM_put hK A.apart (D_procs hK A.apart (S_range_of hK A h4 j hj (C_put hK A.apart (.perform i j) hz fin)))))
end
end
section
open PySem PySem.W PySem.Calls PyProof.Rows PySem.Spec
set_option backward.isDefEq.lazyWhnfCore false
theorem app_put {d : D} {os : List Op} {o : Op} : (d.app os).put o = d.app (os ++ [o]) := by simp [D.app, D.put]
theorem app_app {d : D} {os ps : List Op} : (d.app os).app ps = d.app (os ++ ps) := by simp [D.app]
theorem le1 {n : Nat} : n ≤ n + 1 := Nat.le_succ n
theorem leL {n m k : Nat} : n ≤ max n m + k := Nat.le_trans (Nat.le_max_left n m) (Nat.le_add_right _ _)
theorem leR {n m k : Nat} : m ≤ max n m + k := Nat.le_trans (Nat.le_max_right n m) (Nat.le_add_right _ _)
structure ERun (C : Cx) (Xs : List V) (n k : Nat) (E : V) (code : Int → List Op) : Prop where
  len : ∀ l, (code l).length ≤ k
  run : ∀ σ a d l, Around' σ a Xs → Sm (d.app (code l)) → Det C n (dst σ a Xs.length d) 206 [.ref a.x, E, .int l] .none (dst σ a Xs.length (d.app (code l)))
structure CRun (C : Cx) (Xs : List V) (n k : Nat) (c : V) (f : Bool → Int → D → D) : Prop where
  grows : ∀ w l, Grows k (f w l)
  run : ∀ σ a d w l, Around' σ a Xs → Sm (f w l d) → Det C n (dst σ a Xs.length d) 213 [.ref a.x, c, .bool w, .int l] .none (dst σ a Xs.length (f w l d))
structure Runs (C : Cx) (Xs : List V) (n k : Nat) (Fn : Addr) (args : List V) (f : D → D) : Prop where
  grows : Grows k f
  run : ∀ σ a d, Around' σ a Xs → Sm (f d) → Det C n (dst σ a Xs.length d) Fn (.ref a.x :: args) .none (dst σ a Xs.length (f d))
theorem Det.less {C : Cx} {n m : Nat} {σ : Store} {a : Addr} {Xs : List V} {x : V} {t : Store} (h : Det C n σ a Xs x t) (hn : n ≤ m) : Det C m σ a Xs x t := TCc.less h hn
theorem ERun.less {C : Cx} {Xs : List V} {n m k j : Nat} {E : V} {code : Int → List Op} (R : ERun C Xs n k E code) (hn : n ≤ m) (hk : k ≤ j) : ERun C Xs m j E code := ⟨fun l => Nat.le_trans (R.len l) hk, fun σ a d l A h => (R.run σ a d l A h).less hn⟩
theorem CRun.less {C : Cx} {Xs : List V} {n m k j : Nat} {c : V} {f : Bool → Int → D → D} (R : CRun C Xs n k c f) (hn : n ≤ m) (hk : k ≤ j) : CRun C Xs m j c f := ⟨fun w l => (R.grows w l).less hk, fun σ a d w l A h => (R.run σ a d w l A h).less hn⟩
theorem Runs.less {C : Cx} {Xs : List V} {n m k j : Nat} {Fn : Addr} {args : List V} {f : D → D} (R : Runs C Xs n k Fn args f) (hn : n ≤ m) (hk : k ≤ j) : Runs C Xs m j Fn args f := ⟨R.grows.less hk, fun σ a d A h => (R.run σ a d A h).less hn⟩
noncomputable def relF (c : V) : Bool → Int → D → D
  | true, l, d => ((d.fresh.put (.test c d.places.length)).put (.jump l)).here d.places.length
  | false, l, d => d.put (.test c l)
noncomputable def notF (f : Bool → Int → D → D) (w : Bool) (l : Int) (d : D) : D := f (!w) l d
noncomputable def joinF (isor : Bool) (f g : Bool → Int → D → D) (w : Bool) (l : Int) (d : D) : D :=
  if isor = w then g w l (f w l d) else (g w l (f (!w) d.places.length d.fresh)).here d.places.length
theorem relF_grows (c : V) : ∀ w l, Grows 3 (relF c w l)
  | true, _ => fun _ => Gr.here (Gr.put (Gr.put (Gr.fresh Gr.refl)))
  | false, _ => fun _ => Gr.less (Gr.put Gr.refl) (Nat.le_of_ble_eq_true rfl)
theorem joinF_t {f g : Bool → Int → D → D} {b w : Bool} {l : Int} {d : D} (h : b = w) : joinF b f g w l d = g w l (f w l d) := if_pos h
theorem joinF_f {f g : Bool → Int → D → D} {b w : Bool} {l : Int} {d : D} (h : b ≠ w) : joinF b f g w l d = (g w l (f (!w) d.places.length d.fresh)).here d.places.length := if_neg h
theorem joinF_grows {isor : Bool} {f g : Bool → Int → D → D} {k j : Nat} (F : ∀ w l, Grows k (f w l)) (G : ∀ w l, Grows j (g w l)) (w : Bool) (l : Int) : Grows (1 + k + j) (joinF isor f g w l) := fun d => by
  by_cases q : isor = w
  · rw [joinF_t q]; exact (Gr.run (G w l) (Gr.run (F w l) Gr.refl)).less (by omega)
  · rw [joinF_f q]; exact (Gr.here (Gr.run (G w l) (Gr.run (F _ _) (Gr.fresh Gr.refl)))).less (by omega)
noncomputable def runAll (fs : List (D → D)) (d : D) : D := fs.foldl (fun d f => f d) d
theorem runAll_snoc {fs : List (D → D)} {f : D → D} {d : D} : runAll (fs ++ [f]) d = f (runAll fs d) := List.foldl_append ..
theorem runAll_take {fs : List (D → D)} {i : Nat} {f : D → D} (h : fs[i]? = some f) (d : D) : runAll (fs.take (i + 1)) d = f (runAll (fs.take i) d) := by
  rw [List.take_add_one, h]; exact runAll_snoc
theorem runAll_gr {k : Nat} {d : D} : ∀ (fs : List (D → D)) {e : D} {j : Nat}, (∀ f ∈ fs, Grows k f) → Gr j d e → Gr (j + k * fs.length) d (runAll fs e)
  | [], _, _, _, g => g
  | f :: fs, e, j, h, g => (runAll_gr fs (fun x hx => h x (.tail _ hx)) (Gr.run (h f (.head _)) g)).less (by rw [List.length_cons, Nat.mul_succ]; omega)
theorem runAll_grows {k : Nat} {fs : List (D → D)} (h : ∀ f ∈ fs, Grows k f) : Grows (k * fs.length) (runAll fs) := fun d => by
  have := runAll_gr fs h (Gr.refl (d := d)); rwa [Nat.zero_add] at this
theorem runAll_split {fs : List (D → D)} (i : Nat) (d : D) : runAll fs d = runAll (fs.drop i) (runAll (fs.take i) d) := by
  show _ = List.foldl _ (List.foldl _ d _) _
  rw [← List.foldl_append, List.take_append_drop]; rfl
theorem runAll_sm {k : Nat} {fs : List (D → D)} {d : D} (h : ∀ f ∈ fs, Grows k f) (hs : Sm (runAll fs d)) (i : Nat) : Sm (runAll (fs.take i) d) := by
  rw [runAll_split i] at hs
  exact (runAll_gr (fs.drop i) (fun f hf => h f (List.mem_of_mem_drop hf)) Gr.refl).sm hs
theorem runAll_sm1 {k : Nat} {fs : List (D → D)} {d : D} {i : Nat} {f : D → D} (h : ∀ f ∈ fs, Grows k f) (hs : Sm (runAll fs d)) (hf : fs[i]? = some f) : Sm (f (runAll (fs.take i) d)) := runAll_take hf d ▸ runAll_sm h hs (i + 1)
noncomputable def ifF (fc : Bool → Int → D → D) (fa : D → D) (fb : Option (D → D)) (d : D) : D :=
  match fb with
  | none => (fa (fc false d.places.length d.fresh)).here d.places.length
  | some fb => (fb (((fa (fc false d.places.length d.fresh)).fresh.put (.jump (fa (fc false d.places.length d.fresh)).places.length)).here d.places.length)).here (fa (fc false d.places.length d.fresh)).places.length
theorem ifF_grows {fc : Bool → Int → D → D} {fa : D → D} {fb : Option (D → D)} {k₁ k₂ k₃ : Nat} (F : ∀ w l, Grows k₁ (fc w l)) (G : Grows k₂ fa) (H : ∀ f, fb = some f → Grows k₃ f) : Grows (k₁ + k₂ + k₃ + 3) (ifF fc fa fb) := fun d => by
  cases fb with
  | none => exact (Gr.here (Gr.run G (Gr.run (F _ _) (Gr.fresh Gr.refl)))).less (by omega)
  | some f => exact (Gr.here (Gr.run (H f rfl) (Gr.here (Gr.put (Gr.fresh (Gr.run G (Gr.run (F _ _) (Gr.fresh Gr.refl)))))))).less (by omega)
noncomputable def stepOp (r : V) (way : Str) (l : Int) : Op := .put (.tuple [.tuple [r, .bool false, .str way]]) l
noncomputable def stepF (r : V) (code : Int → List Op) (way : Str) (d : D) : D := (((d.fresh.app (code d.places.length)).put (stepOp r way d.places.length))).here d.places.length
noncomputable def timesF (x : V) (fg : D → D) (d : D) : D :=
  ((fg (((((d.slot.fresh.fresh).put (.push x (-1))).put (.count d.slots)).here d.places.length).put (.less d.slots (d.fresh.places.length : Nat)))).put (.jump d.places.length)).here d.fresh.places.length
noncomputable def untilF (after : Bool) (fc : Bool → Int → D → D) (fg : D → D) (d : D) : D :=
  if after = true then (fc false d.places.length (fg ((d.fresh.fresh).here d.places.length))).here d.fresh.places.length
  else ((fg (fc true (d.fresh.places.length : Nat) ((d.fresh.fresh).here d.places.length))).put (.jump d.places.length)).here d.fresh.places.length
theorem stepF_grows {r : V} {code : Int → List Op} {way : Str} {k : Nat} (h : ∀ l, (code l).length ≤ k) : Grows (k + 2) (stepF r code way) := fun d => (Gr.here (Gr.put (Gr.app (h _) (Gr.fresh Gr.refl)))).less (by omega)
theorem timesF_grows {x : V} {fg : D → D} {k : Nat} (G : Grows k fg) : Grows (k + 6) (timesF x fg) := fun d => (Gr.here (Gr.put (Gr.run G (Gr.put (Gr.here (Gr.put (Gr.put (Gr.fresh (Gr.fresh (Gr.slot Gr.refl)))))))))).less (by omega)
theorem untilF_grows {after : Bool} {fc : Bool → Int → D → D} {fg : D → D} {k j : Nat} (F : ∀ w l, Grows k (fc w l)) (G : Grows j fg) : Grows (k + j + 3) (untilF after fc fg) := fun d => by
  cases after
  · exact (Gr.here (Gr.put (Gr.run G (Gr.run (F _ _) (Gr.here (Gr.fresh (Gr.fresh Gr.refl))))))).less (by omega)
  · exact (Gr.here (Gr.run (F _ _) (Gr.run G (Gr.here (Gr.fresh (Gr.fresh Gr.refl)))))).less (by omega)
section
variable {C : Cx} {Xs : List V} (hK : C.K = KK C.w.params)
include hK
theorem e_leaf (w : Str) (r : List V) (hw : (["ref", "number", "text", "figure", "all"] : List Str).any (· == w) = true) : ERun C Xs 2 1 (.tuple (.str w :: r)) fun l => [.push (.tuple (.str w :: r)) l] :=
  ⟨fun l => Nat.le_refl _, fun σ a d l A hf => fnX ok_put_expression hK fun L hL => wIf_t hw (S_put hK A.apart (.push (.tuple (.str w :: r)) l) hf fin)⟩
theorem e_neg {n k : Nat} {e : V} {code : Int → List Op} (R : ERun C Xs n k e code) : ERun C Xs (n + 2) (k + 1) (.tuple [.str "neg", e]) fun l => code l ++ [.calc "neg" l] :=
  ⟨fun l => by rw [List.length_append]; exact Nat.add_le_add_right (R.len l) 1, fun σ a d l A hf => by
    rw [← app_put] at hf ⊢
    exact fnX ok_put_expression hK fun L hL => SC.det (R.run σ a d l A hf.put) (S_put hK A.apart (.calc "neg" l) hf fin) le1⟩
theorem e_bin {n₁ k₁ n₂ k₂ : Nat} {o : Str} {e₁ e₂ : V} {c₁ c₂ : Int → List Op} (ho : o = "+" ∨ o = "-" ∨ o = "*" ∨ o = "/") (R₁ : ERun C Xs n₁ k₁ e₁ c₁) (R₂ : ERun C Xs n₂ k₂ e₂ c₂) :
    ERun C Xs (max n₁ n₂ + 2) (k₁ + k₂ + 1) (.tuple [.str o, e₁, e₂]) fun l => c₁ l ++ c₂ l ++ [.calc o l] :=
  ⟨fun l => by rw [List.length_append, List.length_append]; exact Nat.add_le_add_right (Nat.add_le_add (R₁.len l) (R₂.len l)) 1, fun σ a d l A hf => by
    rw [← app_put, ← app_app] at hf ⊢
    have h1 : (["ref", "number", "text", "figure", "all"] : List Str).any (· == o) = false := by rcases ho with rfl | rfl | rfl | rfl <;> decide +kernel
    have h2 : (o == ("neg" : Str)) = false := by rcases ho with rfl | rfl | rfl | rfl <;> decide +kernel
    exact fnX ok_put_expression hK fun L hL => wIf_f h1 (wIf_f h2 (SC.det (R₁.run σ a d l A hf.put.app) (SC.det (R₂.run σ a _ l A hf.put) (S_put hK A.apart (.calc o l) hf fin) leR) leL))⟩
theorem c_rel (r : List V) : CRun C Xs 2 3 (.tuple (.str "rel" :: r)) (relF (.tuple (.str "rel" :: r))) :=
  ⟨relF_grows _, fun σ a d w l A hf => by
    cases w
    · exact fnX ok_put_condition hK fun L hL => S_put hK A.apart (.test _ l) hf fin
    · exact fnX ok_put_condition hK fun L hL => S_fresh hK A.apart hf.here.put.put (S_put hK A.apart (.test _ d.places.length) hf.here.put (S_put hK A.apart (.jump l) hf.here (S_here hK A.apart d.places.length hf ((Gr.put (Gr.put Gr.refl)).lt lt_fresh) fin)))⟩
theorem c_not {n k : Nat} {c : V} {f : Bool → Int → D → D} (R : CRun C Xs n k c f) : CRun C Xs (n + 2) k (.tuple [.str "not", c]) (notF f) :=
  ⟨fun w l => R.grows _ l, fun σ a d w l A hf => fnX ok_put_condition hK fun L hL => SC.det (R.run σ a d (!w) l A hf) fin le1⟩
theorem c_join {n₁ k₁ n₂ k₂ : Nat} {c₁ c₂ : V} {f₁ f₂ : Bool → Int → D → D} (isor : Bool) (R₁ : CRun C Xs n₁ k₁ c₁ f₁) (R₂ : CRun C Xs n₂ k₂ c₂ f₂) :
    CRun C Xs (max n₁ n₂ + 2) (1 + k₁ + k₂) (.tuple [.str (if isor then "or" else "and"), c₁, c₂]) (joinF isor f₁ f₂) :=
  ⟨joinF_grows R₁.grows R₂.grows, fun σ a d w l A hf => by
    by_cases q : isor = w
    · rw [joinF_t q] at hf ⊢
      cases isor <;> cases q
      all_goals exact fnX ok_put_condition hK fun L hL => SC.det (R₁.run σ a _ _ l A ((R₂.grows _ _).sm hf)) (SC.det (R₂.run σ a _ _ l A hf) fin leR) leL
    · rw [joinF_f q] at hf ⊢
      cases isor <;> cases w
      all_goals first
        | exact absurd rfl q
        | exact fnX ok_put_condition hK fun L hL => S_fresh hK A.apart ((R₁.grows _ _).sm ((R₂.grows _ _).sm hf.here)) (SC.det (R₁.run σ a _ _ _ A ((R₂.grows _ _).sm hf.here))
            (SC.det (R₂.run σ a _ _ l A hf.here) (S_here hK A.apart d.places.length hf ((Gr.run (R₂.grows _ _) (Gr.run (R₁.grows _ _) Gr.refl)).lt lt_fresh) fin) leR) leL)⟩
theorem r_statements {n k : Nat} {sts : List V} {fs : List (D → D)} (hl : fs.length = sts.length) (h : ∀ (i : Nat) X f, sts[i]? = some X → fs[i]? = some f → Runs C Xs n k 225 [X] f) :
    Runs C Xs (n + 2) (k * sts.length) 220 [.tuple sts] (runAll fs) := by
  have hg : ∀ f ∈ fs, Grows k f := fun f hf => by
    obtain ⟨i, hi, e⟩ := List.getElem_of_mem hf
    exact (h i _ f (List.getElem?_eq_getElem (by omega)) (by rw [List.getElem?_eq_getElem hi, e])).grows
  refine ⟨hl ▸ runAll_grows hg, fun σ a d A hf => fnX ok_put_statements hK fun L hL => ?_⟩
  refine SFor.det hK (ok_put_statements.plain L) (.tup _) [("draft", .ref a.x)] (fun i => dst σ a Xs.length (runAll (fs.take i) d)) ⟨rfl, trivial⟩ rfl (fun i Y hY => ?_) (finE rfl (by rw [← hl, List.take_length]; rfl))
  obtain ⟨f, hfi⟩ : ∃ f, fs[i]? = some f := ⟨_, List.getElem?_eq_getElem (by have := (List.getElem?_eq_some_iff.mp hY).1; omega)⟩
  exact SC.det ((h i Y f hY hfi).run σ a _ A (runAll_sm1 hg hf hfi)) ⟨⟨rfl, trivial⟩, by rw [runAll_take hfi]⟩ le1
theorem r_if {n₁ k₁ n₂ k₂ n₃ k₃ : Nat} {c a' : V} {bs : List V} {fc : Bool → Int → D → D} {fa : D → D} {fb : Option (D → D)} (Rc : CRun C Xs n₁ k₁ c fc) (Ra : Runs C Xs n₂ k₂ 220 [a'] fa)
    (hb : bs = [] ↔ fb = none) (hz : bs.length ≤ 1000) (Rb : ∀ f, fb = some f → Runs C Xs n₃ k₃ 220 [.tuple bs] f) : Runs C Xs (n₁ + n₂ + n₃ + 2) (k₁ + k₂ + k₃ + 3) 232 [.tuple [.str "if", c, a', .tuple bs]] (ifF fc fa fb) := by
  refine ⟨ifF_grows Rc.grows Ra.grows fun f e => (Rb f e).grows, fun σ a d A hf => ?_⟩
  have b1 : n₁ ≤ n₁ + n₂ + n₃ + 1 := by omega
  have b2 : n₂ ≤ n₁ + n₂ + n₃ + 1 := by omega
  have b3 : n₃ ≤ n₁ + n₂ + n₃ + 1 := by omega
  cases fb with
  | none =>
    have hs : Sm (fa (fc false d.places.length d.fresh)) := hf.here
    obtain rfl := hb.mpr rfl
    exact fnX ok_put_if hK fun L hL => S_fresh hK A.apart ((Rc.grows _ _).sm (Ra.grows.sm hs)) (SC.det (Rc.run σ a _ false _ A (Ra.grows.sm hs)) (SC.det (Ra.run σ a _ A hs) (S_lenT (Nat.zero_le _)
      (S_here hK A.apart d.places.length hf ((Gr.run Ra.grows (Gr.run (Rc.grows _ _) Gr.refl)).lt lt_fresh) fin)) b2) b1)
  | some f =>
    have R := Rb f rfl
    have h1 : Sm (f (((fa (fc false d.places.length d.fresh)).fresh.put (.jump (fa (fc false d.places.length d.fresh)).places.length)).here d.places.length)) := hf.here
    have h2 := R.grows.sm h1
    have hs := h2.here.put.fresh
    have hne : bs ≠ [] := fun e => by cases hb.mp e
    refine fnX ok_put_if hK fun L hL => S_fresh hK A.apart ((Rc.grows _ _).sm (Ra.grows.sm hs)) (SC.det (Rc.run σ a _ false _ A (Ra.grows.sm hs)) (SC.det (Ra.run σ a _ A hs) (S_lenT (Nat.le_trans hz (by decide)) (wIf_f ?_
      (S_fresh hK A.apart h2.here.put (S_put hK A.apart (.jump _) h2.here (S_here hK A.apart d.places.length h2 ((Gr.put (Gr.fresh (Gr.run Ra.grows (Gr.run (Rc.grows _ _) Gr.refl)))).lt lt_fresh)
        (SC.det (R.run σ a _ A h1) (S_here hK A.apart _ hf ((Gr.run R.grows (Gr.here (Gr.put Gr.refl))).lt lt_fresh) fin) b3)))))) b2) b1)
    cases bs with
    | nil => exact absurd rfl hne
    | cons b r => exact beq_false_of_ne (by simp; omega)
theorem r_step {n k : Nat} {r e : V} {code : Int → List Op} {way : Str} (R : ERun C Xs n k e code) : Runs C Xs (n + 2) (k + 2) 293 [r, e, .str way] (stepF r code way) :=
  ⟨stepF_grows R.len, fun σ a d A hf => fnX ok_put_step hK fun L hL => S_fresh hK A.apart hf.here.put.app (SC.det (R.run σ a _ _ A hf.here.put) (S_put hK A.apart (stepOp r way d.places.length) hf.here
    (S_here hK A.apart d.places.length hf ((Gr.put (Gr.app (Nat.le_refl _) Gr.refl)).lt lt_fresh) fin)) le1)⟩
theorem r_goal_body {n k : Nat} {s : V} {f : D → D} (R : Runs C Xs n k 220 [s] f) : Runs C Xs (n + 2) k 265 [.tuple [.str "body", s]] f :=
  ⟨R.grows, fun σ a d A hf => fnX ok_put_goal hK fun L hL => SC.det (R.run σ a _ A hf) fin le1⟩
theorem r_goal_range (h4 : Xs.length ≤ 4) (i j : Nat) (hi : i < Xs.length) (hj : j < Xs.length) : Runs C Xs 4 1 265 [.tuple [.str "range", pairV i, pairV j]] fun d => d.put (.perform i j) :=
  ⟨grows_put, fun σ a d A hf => fnX ok_put_goal hK fun L hL => SC.det (c_put_range (n := 1) hK A h4 i j hi hj hf) fin (Nat.le_refl _)⟩
theorem r_times {n k : Nat} {g x : V} {fg : D → D} (R : Runs C Xs n k 265 [g] fg) : Runs C Xs (n + 2) (k + 6) 279 [g, x] (timesF x fg) := by
  refine ⟨timesF_grows R.grows, fun σ a d A hf => ?_⟩
  have s1 := R.grows.sm hf.here.put
  have s2 := s1.put.here.put
  exact fnX ok_put_times hK fun L hL => S_slot hK A.apart (S_fresh hK A.apart s2.put.fresh (S_fresh hK A.apart s2.put (S_put hK A.apart (.push x (-1)) s2 (S_put hK A.apart (.count d.slots) s1.put.here
    (S_here hK A.apart d.places.length s1.put ((Gr.put (Gr.put (Gr.fresh (Gr.refl (d := d.slot.fresh))))).lt (lt_fresh (d := d.slot))) (S_put hK A.apart (.less d.slots (d.fresh.places.length : Nat)) s1
      (SC.det (R.run σ a _ A hf.here.put) (S_put hK A.apart (.jump d.places.length) hf.here (S_here hK A.apart d.fresh.places.length hf ((Gr.put (Gr.run R.grows (Gr.put (Gr.here (Gr.put (Gr.put Gr.refl)))))).lt (lt_fresh (d := d.slot.fresh))) fin)) le1)))))))
theorem r_until {n k m j : Nat} {g c : V} {fg : D → D} {fc : Bool → Int → D → D} (after : Bool) (R : Runs C Xs n k 265 [g] fg) (Rc : CRun C Xs m j c fc) : Runs C Xs (n + m + 2) (j + k + 3) 286 [g, .bool after, c] (untilF after fc fg) := by
  refine ⟨untilF_grows Rc.grows R.grows, fun σ a d A hf => ?_⟩
  have b1 : n ≤ n + m + 1 := by omega
  have b2 : m ≤ n + m + 1 := by omega
  cases after
  · have s1 : Sm (fc true (d.fresh.places.length : Nat) ((d.fresh.fresh).here d.places.length)) := R.grows.sm hf.here.put
    have s2 := (Rc.grows _ _).sm s1
    exact fnX ok_put_until hK fun L hL => S_fresh hK A.apart s2.here.fresh (S_fresh hK A.apart s2.here (S_here hK A.apart d.places.length s2 ((Gr.fresh Gr.refl).lt lt_fresh)
      (SC.det (Rc.run σ a _ true _ A s1) (SC.det (R.run σ a _ A hf.here.put) (S_put hK A.apart (.jump d.places.length) hf.here (S_here hK A.apart d.fresh.places.length hf ((Gr.put (Gr.run R.grows (Gr.run (Rc.grows _ _) (Gr.here Gr.refl)))).lt lt_fresh) fin)) b1) b2)))
  · have s1 : Sm (fg ((d.fresh.fresh).here d.places.length)) := (Rc.grows _ _).sm hf.here
    have s2 := R.grows.sm s1
    exact fnX ok_put_until hK fun L hL => S_fresh hK A.apart s2.here.fresh (S_fresh hK A.apart s2.here (S_here hK A.apart d.places.length s2 ((Gr.fresh Gr.refl).lt lt_fresh)
      (SC.det (R.run σ a _ A s1) (SC.det (Rc.run σ a _ false _ A hf.here) (S_here hK A.apart d.fresh.places.length hf ((Gr.run (Rc.grows _ _) (Gr.run R.grows (Gr.here Gr.refl))).lt lt_fresh) fin) b2) b1)))
end
end
section
open PySem PySem.W PySem.Calls PyProof.Rows PySem.Spec
set_option backward.isDefEq.lazyWhnfCore false
structure Row where
  ref : V
  b : V
  bc : Int → List Op
  ad : V
  ac : Int → List Op
  c : V
  fc : Bool → Int → D → D
noncomputable def Row.v (r : Row) : V := .tuple [r.ref, r.b, r.ad, r.c]
structure RowOk (C : Cx) (Xs : List V) (n k : Nat) (r : Row) : Prop where
  eb : ERun C Xs n k r.b r.bc
  ea : ERun C Xs n k r.ad r.ac
  ec : CRun C Xs n k r.c r.fc
noncomputable def Row.beg (r : Row) : D → D := stepF r.ref r.bc "="
noncomputable def Row.add (r : Row) : D → D := stepF r.ref r.ac "+"
theorem fold_gr {α : Type} {g : D → α → D} {T : Nat} {d : D} (h : ∀ e x, Gr T e (g e x)) : ∀ (l : List α) {e : D} {j : Nat}, Gr j d e → Gr (j + T * l.length) d (l.foldl g e)
  | [], _, _, k => k
  | x :: l, e, j, k => (fold_gr h l (k.trans (h e x))).less (by rw [List.length_cons, Nat.mul_succ]; omega)
theorem fold_take {α : Type} {g : D → α → D} {l : List α} {i : Nat} {x : α} (h : l[i]? = some x) (d : D) : (l.take (i + 1)).foldl g d = g ((l.take i).foldl g d) x := by
  rw [List.take_add_one, h]; exact List.foldl_append ..
theorem fold_sm {α : Type} {g : D → α → D} {T : Nat} {d : D} {l : List α} (h : ∀ e x, Gr T e (g e x)) (hs : Sm (l.foldl g d)) (i : Nat) : Sm ((l.take i).foldl g d) := by
  rw [← List.take_append_drop i l, List.foldl_append] at hs
  exact (fold_gr h (l.drop i) Gr.refl).sm hs
noncomputable def afterTurn (rows : List Row) (again : Nat) (d : D) (j : Nat) : D :=
  match rows[j]? with
  | none => d
  | some r => ((runAll ((rows.drop (j + 1)).map Row.beg) (r.add (r.fc true d.places.length d.fresh))).put (.jump again)).here d.places.length
theorem afterTurn_at {rows : List Row} {again j : Nat} {d : D} {r : Row} (h : rows[j]? = some r) : afterTurn rows again d j = ((runAll ((rows.drop (j + 1)).map Row.beg) (r.add (r.fc true d.places.length d.fresh))).put (.jump again)).here d.places.length := by
  unfold afterTurn; rw [h]
noncomputable def downs (m : Nat) : List Nat := (List.range m).map fun i => m - 1 - i
theorem downs_at {m i : Nat} (h : i < m) : (downs m)[i]? = some (m - 1 - i) := by simp [downs, h]
theorem downs_len {m : Nat} : (downs m).length = m := by simp [downs]
noncomputable def varyAfterF (rows : List Row) (fg : D → D) (d : D) : D :=
  (downs rows.length).foldl (afterTurn rows (runAll (rows.map Row.beg) d).places.length) (fg ((runAll (rows.map Row.beg) d).fresh.here (runAll (rows.map Row.beg) d).places.length))
section
variable {C : Cx} {Xs : List V} {n k : Nat} {rows : List Row} (h : ∀ r ∈ rows, RowOk C Xs n k r)
include h
theorem begs_all : ∀ f ∈ rows.map Row.beg, Grows (k + 2) f := fun f hf => by
  obtain ⟨r, hr, rfl⟩ := List.mem_map.mp hf
  exact stepF_grows (h r hr).eb.len
theorem begs_grows : Grows ((k + 2) * rows.length) (runAll (rows.map Row.beg)) := by
  have := runAll_grows (begs_all h); rwa [List.length_map] at this
theorem drop_ok (j : Nat) : ∀ r ∈ rows.drop j, RowOk C Xs n k r := fun r hr => h r (List.mem_of_mem_drop hr)
theorem add_grows {r : Row} {i : Nat} (e : rows[i]? = some r) : Grows (k + 2) r.add := stepF_grows (h r (List.mem_of_getElem? e)).ea.len
theorem beg_grows {r : Row} {i : Nat} (e : rows[i]? = some r) : Grows (k + 2) r.beg := stepF_grows (h r (List.mem_of_getElem? e)).eb.len
theorem afterTurn_gr (again : Nat) (d : D) (j : Nat) : Gr (2 * k + 4 + (k + 2) * rows.length) d (afterTurn rows again d j) := by
  cases e : rows[j]? with
  | none => unfold afterTurn; rw [e]; exact Gr.refl.less (Nat.zero_le _)
  | some r =>
    have e3 : (k + 2) * (rows.drop (j + 1)).length ≤ (k + 2) * rows.length := Nat.mul_le_mul_left _ (by simp)
    rw [afterTurn_at e]
    exact (Gr.here (Gr.put (Gr.run (begs_grows (drop_ok h (j + 1))) (Gr.run (add_grows h e) (Gr.run ((h r (List.mem_of_getElem? e)).ec.grows _ _) (Gr.fresh Gr.refl)))))).less (by omega)
theorem varyAfterF_grows {j : Nat} {fg : D → D} (G : Grows j fg) (hm : rows.length ≤ 3) : Grows (18 * k + 40 + j) (varyAfterF rows fg) := fun d => by
  have e1 : (k + 2) * rows.length ≤ (k + 2) * 3 := Nat.mul_le_mul_left _ hm
  have e2 : (2 * k + 4 + (k + 2) * rows.length) * rows.length ≤ (2 * k + 4 + (k + 2) * 3) * 3 := Nat.mul_le_mul (by omega) hm
  exact (fold_gr (afterTurn_gr h _) (downs rows.length) (Gr.run G (Gr.here (Gr.fresh (Gr.run (begs_grows h) Gr.refl))))).less (by rw [downs_len]; omega)
end
section
variable {C : Cx} {Xs : List V} (hK : C.K = KK C.w.params)
include hK
theorem r_vary_after {n k m j : Nat} {rows : List Row} {g : V} {fg : D → D} (h : ∀ r ∈ rows, RowOk C Xs n k r) (hm : rows.length ≤ 3) (R : Runs C Xs m j 265 [g] fg) :
    Runs C Xs (n + m + 4) (18 * k + 40 + j) 305 [g, .tuple (rows.map Row.v)] (varyAfterF rows fg) := by
  refine ⟨varyAfterF_grows h R.grows hm, fun σ a d A hf => fnX ok_put_varying_after hK fun L hL => ?_⟩
  have hE := ok_put_varying_after.plain L
  have b1 : n + 2 ≤ n + m + 3 := by omega
  have b2 : n ≤ n + m + 3 := by omega
  have b3 : m ≤ n + m + 3 := by omega
  have hz : (rows.map Row.v).length ≤ 1000 := mapl (Nat.le_trans hm (by decide))
  have hr : ∀ {i : Nat} {r : Row}, rows[i]? = some r → RowOk C Xs n k r := fun e => h _ (List.mem_of_getElem? e)
  have hv : ∀ {i : Nat} {r : Row}, rows[i]? = some r → (rows.map Row.v)[i]? = some r.v := fun e => by rw [List.getElem?_map, e]; rfl
  have s1 : Sm (fg ((runAll (rows.map Row.beg) d).fresh.here (runAll (rows.map Row.beg) d).places.length)) := (fold_gr (afterTurn_gr h _) _ Gr.refl).sm hf
  have s2 := R.grows.sm s1
  refine S_forMap hK hE [("draft", .ref a.x), ("goal", g), ("rows", .tuple (rows.map Row.v))] (fun i => dst σ a Xs.length (runAll ((rows.map Row.beg).take i) d)) ⟨rfl, rfl, rfl, trivial⟩ rfl (fun i r e => ?_) ?_
  · have hb : (rows.map Row.beg)[i]? = some r.beg := by rw [List.getElem?_map, e]; rfl
    exact SC.det ((r_step hK (r := r.ref) (way := "=") (hr e).eb).run σ a _ A (runAll_sm1 (f := r.beg) (begs_all h) s2.here.fresh hb)) ⟨⟨rfl, rfl, rfl, trivial⟩, by rw [runAll_take hb]; rfl⟩ b1
  · rw [List.take_of_length_le (by simp)]
    refine S_fresh hK A.apart s2.here (S_here hK A.apart _ s2 lt_fresh (SC.det (R.run σ a _ A s1) (S_lenT (Nat.le_trans hz (by decide)) ?_) b3))
    refine S_forDown 0 hK hE hz (Nat.zero_le _) rfl [("draft", .ref a.x), ("rows", .tuple (rows.map Row.v)), ("again", .int (runAll (rows.map Row.beg) d).places.length)]
      (fun i => dst σ a Xs.length (((downs rows.length).take i).foldl (afterTurn rows (runAll (rows.map Row.beg) d).places.length) (fg ((runAll (rows.map Row.beg) d).fresh.here (runAll (rows.map Row.beg) d).places.length)))) ⟨rfl, rfl, rfl, trivial⟩ rfl (fun i hi => ?_) ?_
    · rw [List.length_map] at hi ⊢
      have dt := downs_at (m := rows.length) (i := i) (by omega)
      have ht : rows.length - 1 - i < rows.length := by omega
      have hq := fold_sm (afterTurn_gr h _) hf (i + 1)
      rw [fold_take dt] at hq ⊢
      generalize ((downs rows.length).take i).foldl (afterTurn rows (runAll (rows.map Row.beg) d).places.length) (fg ((runAll (rows.map Row.beg) d).fresh.here (runAll (rows.map Row.beg) d).places.length)) = dd at hq ⊢
      generalize (runAll (rows.map Row.beg) d).places.length = c at hq ⊢
      generalize rows.length - 1 - i = t at ht hq ⊢
      obtain ⟨r, e⟩ : ∃ r, rows[t]? = some r := ⟨_, List.getElem?_eq_getElem ht⟩
      rw [afterTurn_at e] at hq ⊢
      have q1 : Sm (r.add (r.fc true dd.places.length dd.fresh)) := (runAll_grows (begs_all (drop_ok h (t + 1)))).sm hq.here.put
      refine S_fresh hK A.apart (((hr e).ec.grows _ _).sm ((add_grows h e).sm q1)) (I_tup (hv e) (Nat.le_trans hz (by decide)) (SC.det ((hr e).ec.run σ a _ true _ A ((add_grows h e).sm q1)) (I_tup (hv e) (Nat.le_trans hz (by decide)) (I_tup (hv e) (Nat.le_trans hz (by decide))
        (SC.det ((r_step hK (r := r.ref) (way := "+") (hr e).ea).run σ a _ A q1) (S_lenT (Nat.le_trans hz (by decide)) ?_) b1))) b2))
      refine S_forUp (t + 1) hK hE hz (by rw [List.length_map]; exact ht) rfl [("draft", .ref a.x), ("rows", .tuple (rows.map Row.v)), ("again", .int c), ("over", .int dd.places.length)]
        (fun i => dst σ a Xs.length (runAll (((rows.drop (t + 1)).map Row.beg).take i) (r.add (r.fc true dd.places.length dd.fresh)))) ⟨rfl, rfl, rfl, rfl, trivial⟩ rfl (fun i hi => ?_) ?_
      · obtain ⟨r', e'⟩ : ∃ r', rows[t + 1 + i]? = some r' := ⟨_, List.getElem?_eq_getElem (by rw [List.length_map] at hi; omega)⟩
        have hb : ((rows.drop (t + 1)).map Row.beg)[i]? = some r'.beg := by rw [List.getElem?_map, List.getElem?_drop, e']; rfl
        exact I_tup (hv e') (Nat.le_trans hz (by decide)) (I_tup (hv e') (Nat.le_trans hz (by decide)) (SC.det ((r_step hK (r := r'.ref) (way := "=") (hr e').eb).run σ a _ A (runAll_sm1 (f := r'.beg) (begs_all (drop_ok h (t + 1))) hq.here.put hb))
          ⟨⟨rfl, rfl, rfl, rfl, trivial⟩, by rw [runAll_take hb]; rfl⟩ b1))
      · rw [List.take_of_length_le (by simp)]
        exact S_put hK A.apart (.jump c) hq.here (S_here hK A.apart dd.places.length hq ((Gr.put (Gr.run (runAll_grows (begs_all (drop_ok h (t + 1)))) (Gr.run (add_grows h e) (Gr.run ((hr e).ec.grows _ _) Gr.refl)))).lt lt_fresh) ⟨⟨rfl, rfl, rfl, trivial⟩, rfl⟩)
    · rw [List.length_map, Nat.sub_zero, List.take_of_length_le (by simp [downs_len])]
      exact fin
end
end
section
open PySem PySem.W PySem.Calls PyProof.Rows PySem.Spec
set_option backward.isDefEq.lazyWhnfCore false
theorem newD {σ : Store} {a : DA} {Xs : List V} {d : D} {c : Addr} {y : AObj} (hc : dst σ a Xs.length d c = none) (A : Around' σ a Xs) {P : Store → Prop}
    (h : ∀ σ1, Around' σ1 a Xs → σ1 c = some y → (∀ b x, σ b = some x → σ1 b = some x) → P (dst σ1 a Xs.length d)) : P ((dst σ a Xs.length d).set c y) := by
  rw [dst_set (dst_none hc).1]
  exact h _ (A.set hc) set_self (set_sub (dst_none hc).2)
theorem fnXD {C : Cx} {n : Nat} {σ : Store} {a : DA} {Xs : List V} {d : D} {ad : Addr} {f : FnAt KK ad} {names : List Str} (ok : FnOkC f names "draft") (hK : C.K = KK C.w.params) (A : Around' σ a Xs) {args : List V} {ρ₀ : Loc} {x : V} {t : Store}
    (h : ∀ L σ', Around' σ' a Xs → σ' (L + 1) = some (.cell (some (.ref a.x))) → (∀ {d' : D} b x, dst σ a Xs.length d' b = some x → dst σ' a Xs.length d' b = some x) → (W C n).ss (callEnvC f.fd L ad) ρ₀ f.body (RetN (DetK x t)) (RetJ (DetK x t)) (dst σ' a Xs.length d))
    (hρ : ∀ L, Loc.bindsK (callEnvC f.fd L ad).kindOf names (.ref a.x :: args) Loc.none = ρ₀ := by intro _; rfl) (hX : ∀ L, Loc.bindsC (callEnvC f.fd L ad).kindOf names (.ref a.x :: args) Loc.none "draft" = some (.ref a.x) := by intro _; rfl) (hl : names.length = (V.ref a.x :: args).length := by rfl) :
    Det C (n + 1) (dst σ a Xs.length d) ad (.ref a.x :: args) x t :=
  fnXC ok hK (fun L hL hL1 => newD hL1 A fun σ1 A1 hc hs => h L σ1 A1 hc fun {d'} b x e => dst_sub A1.apart hs b x e) hρ hX hl
noncomputable def freshN (i : Nat) (d : D) : D := { d with places := d.places ++ List.replicate i (-1) }
theorem freshN_succ (i : Nat) (d : D) : (freshN i d).fresh = freshN (i + 1) d := by simp [freshN, D.fresh, List.replicate_succ']
theorem len_freshN (i : Nat) (d : D) : (freshN i d).places.length = d.places.length + i := by simp [freshN]
theorem freshN_gr {k i j : Nat} {d e : D} (h : i ≤ j) (g : Gr k d e) : Gr (k + j) d (freshN i e) := g.trans ⟨Nat.le_refl _, Nat.le_add_right _ _, by rw [len_freshN]; omega, by rw [len_freshN]; omega⟩
theorem freshN_sm {i j : Nat} {d : D} (h : Sm (freshN j d)) (hi : i ≤ j) : Sm (freshN i d) := ⟨h.ops, Nat.le_trans (by rw [len_freshN, len_freshN]; omega) h.pl⟩
noncomputable def labs (c m : Nat) : List V := (List.range m).map fun (t : Nat) => V.int ((c + t : Nat) : Int)
theorem labs_len {c m : Nat} : (labs c m).length = m := by simp [labs]
theorem labs_succ (c m : Nat) : labs c m ++ [.int ((c + m : Nat) : Int)] = labs c (m + 1) := by simp [labs, List.range_succ]
theorem labs_at {c m t : Nat} (h : t < m) : (labs c m)[t]? = some (.int ((c + t : Nat) : Int)) := by simp [labs, h]
noncomputable def checkTurn (rows : List Row) (c0 : Nat) (d : D) (t : Nat) : D :=
  match rows[t]? with
  | none => d
  | some r => r.fc true ((c0 + rows.length + t : Nat) : Int) (d.here (c0 + t))
theorem checkTurn_at {rows : List Row} {c0 t : Nat} {d : D} {r : Row} (h : rows[t]? = some r) : checkTurn rows c0 d t = r.fc true ((c0 + rows.length + t : Nat) : Int) (d.here (c0 + t)) := by unfold checkTurn; rw [h]
noncomputable def backTurn (rows : List Row) (c0 : Nat) (d : D) (t : Nat) : D :=
  match rows[t]?, rows[t - 1]? with
  | some r, some q => (r.beg (q.add (d.here (c0 + rows.length + t)))).put (.jump ((c0 + (t - 1) : Nat) : Int))
  | _, _ => d
theorem backTurn_at {rows : List Row} {c0 t : Nat} {d : D} {r q : Row} (h : rows[t]? = some r) (h2 : rows[t - 1]? = some q) : backTurn rows c0 d t = (r.beg (q.add (d.here (c0 + rows.length + t)))).put (.jump ((c0 + (t - 1) : Nat) : Int)) := by
  unfold backTurn; rw [h, h2]
noncomputable def lastF (rows : List Row) (c0 : Nat) (d : D) : D :=
  match rows[rows.length - 1]? with
  | none => d
  | some r => (r.add d).put (.jump ((c0 + (rows.length - 1) : Nat) : Int))
theorem lastF_at {rows : List Row} {c0 : Nat} {d : D} {r : Row} (h : rows[rows.length - 1]? = some r) : lastF rows c0 d = (r.add d).put (.jump ((c0 + (rows.length - 1) : Nat) : Int)) := by unfold lastF; rw [h]
noncomputable def ups (m : Nat) : List Nat := (List.range (m - 1)).map fun i => m - 1 - i
theorem ups_at {m i : Nat} (h : i < m - 1) : (ups m)[i]? = some (m - 1 - i) := by simp [ups, h]
theorem ups_len {m : Nat} : (ups m).length = m - 1 := by simp [ups]
noncomputable def varyF (rows : List Row) (fg : D → D) (d : D) : D :=
  ((ups rows.length).foldl (backTurn rows (runAll (rows.map Row.beg) d).places.length) (lastF rows (runAll (rows.map Row.beg) d).places.length (fg ((List.range rows.length).foldl (checkTurn rows (runAll (rows.map Row.beg) d).places.length)
    (freshN rows.length (freshN rows.length (runAll (rows.map Row.beg) d))))))).here ((runAll (rows.map Row.beg) d).places.length + rows.length)
section
variable {C : Cx} {Xs : List V} {n k : Nat} {rows : List Row} (h : ∀ r ∈ rows, RowOk C Xs n k r)
include h
theorem checkTurn_gr (c0 : Nat) (d : D) (t : Nat) : Gr k d (checkTurn rows c0 d t) := by
  cases e : rows[t]? with
  | none => unfold checkTurn; rw [e]; exact Gr.refl.less (Nat.zero_le _)
  | some r => rw [checkTurn_at e]; exact (Gr.run ((h r (List.mem_of_getElem? e)).ec.grows _ _) (Gr.here Gr.refl)).less (by omega)
theorem backTurn_gr (c0 : Nat) (d : D) (t : Nat) : Gr (2 * k + 5) d (backTurn rows c0 d t) := by
  unfold backTurn
  cases e : rows[t]? with
  | none => exact Gr.refl.less (Nat.zero_le _)
  | some r =>
    cases e2 : rows[t - 1]? with
    | none => exact Gr.refl.less (Nat.zero_le _)
    | some q => exact (Gr.put (Gr.run (beg_grows h e) (Gr.run (add_grows h e2) (Gr.here Gr.refl)))).less (by omega)
theorem lastF_gr (c0 : Nat) (d : D) : Gr (k + 3) d (lastF rows c0 d) := by
  cases e : rows[rows.length - 1]? with
  | none => unfold lastF; rw [e]; exact Gr.refl.less (Nat.zero_le _)
  | some r => rw [lastF_at e]; exact (Gr.put (Gr.run (add_grows h e) Gr.refl)).less (by omega)
theorem varyF_grows {j : Nat} {fg : D → D} (G : Grows j fg) (hm : rows.length ≤ 3) : Grows (12 * k + 40 + j) (varyF rows fg) := fun d => by
  have e1 : (k + 2) * rows.length ≤ (k + 2) * 3 := Nat.mul_le_mul_left _ hm
  have e2 : k * (List.range rows.length).length ≤ k * 3 := Nat.mul_le_mul_left _ (by simpa using hm)
  have e3 : (2 * k + 5) * (ups rows.length).length ≤ (2 * k + 5) * 2 := Nat.mul_le_mul_left _ (by rw [ups_len]; omega)
  exact (Gr.here (fold_gr (backTurn_gr h _) (ups rows.length) ((Gr.run G (fold_gr (checkTurn_gr h _) (List.range rows.length) (freshN_gr hm (freshN_gr hm (Gr.run (begs_grows h) Gr.refl))))).trans (lastF_gr h _ _)))).less (by omega)
end
section
variable {C : Cx} {Xs : List V} (hK : C.K = KK C.w.params)
include hK
omit hK in
theorem R_dr {σ : Store} {a : DA} {cnt : Nat} {d : D} {c : Addr} {Φ : V → Store → Prop} (A : Around' σ a Xs) (hc : σ c = some (.cell (some (.ref a.x)))) (k : Φ (.ref a.x) (dst σ a cnt d)) : SCell c Φ (dst σ a cnt d) := SCell.at (dst_at A.apart hc) k
theorem S_freshs {n m : Nat} {env : Env} {σ : Store} {a : DA} {d : D} {scope : Scope} {cl : List (Str × Addr)} {x : Str} {elt : Expr} {Ys : List V} {Φ : V → Store → Prop} {c : Addr} (hE : ∀ Ca, PlainF (compEnvC scope cl Ca env)) (A : Around' σ a Xs) (hc : σ c = some (.cell (some (.ref a.x)))) (hm : Ys.length = m) (hz : m ≤ 1000) (hs : Sm (freshN m d))
    (elt_ok : ∀ {Ca : Addr} {Y : V} {τ : Store} {Ψ : V → Store → Prop}, SCell c (fun X σ' => SMeth C (n + 1) X "fresh" [] Ψ σ') τ → (W C (n + 1)).e (compEnvC scope cl Ca env) (Loc.none.set x Y) elt Ψ τ)
    (k : ∀ D σ1, Around' σ1 a Xs → σ1 D = some (.list (labs d.places.length m)) → (∀ b x, σ b = some x → σ1 b = some x) → Φ (.ref D) (dst σ1 a Xs.length (freshN m d))) : SComp C (n + 1) env scope cl x elt [] (.tuple Ys) Φ (dst σ a Xs.length d) :=
  SComp.gen hK hE (.tup _) (hm ▸ Nat.le_trans hz (by decide)) (fun i Zs σ' => σ' = dst σ a Xs.length (freshN i d) ∧ Zs = labs d.places.length i) ⟨by simp [freshN], rfl⟩
    (fun Ca i Y Zs σ' hY j => by
      obtain ⟨rfl, rfl⟩ := j
      have hi := (List.getElem?_eq_some_iff.mp hY).1
      refine elt_ok (SCell.at (dst_at A.apart hc) (S_fresh hK A.apart (freshN_succ i d ▸ freshN_sm hs (by omega)) ⟨by rw [freshN_succ], by rw [len_freshN, labs_succ]⟩)))
    fun D Zs σ' j hD _ => by
      obtain ⟨rfl, rfl⟩ := j
      rw [hm] at hD ⊢
      exact Drop.all (newD (P := Φ (.ref D)) hD A fun σ1 A1 h1 hs => k D σ1 A1 h1 hs)
theorem r_vary {n k m j : Nat} {rows : List Row} {g : V} {fg : D → D} (h : ∀ r ∈ rows, RowOk C Xs n k r) (hm : rows.length ≤ 3) (h0 : rows ≠ []) (R : Runs C Xs m j 265 [g] fg) :
    Runs C Xs (n + m + 4) (12 * k + 40 + j) 298 [g, .tuple (rows.map Row.v)] (varyF rows fg) := by
  refine ⟨varyF_grows h R.grows hm, fun σ0 a d A0 hf => fnXD ok_put_varying hK A0 (ρ₀ := (Loc.none.set "goal" g).set "rows" (.tuple (rows.map Row.v))) fun L σ A hc hs => ?_⟩
  have hE := ok_put_varying.plain L
  have b1 : n + 2 ≤ n + m + 3 := by omega
  have b2 : n ≤ n + m + 3 := by omega
  have b3 : m ≤ n + m + 3 := by omega
  have hz : (rows.map Row.v).length ≤ 1000 := mapl (Nat.le_trans hm (by decide))
  have hz' : (rows.map Row.v).length ≤ 100000 := Nat.le_trans hz (by decide)
  have hr : ∀ {i : Nat} {r : Row}, rows[i]? = some r → RowOk C Xs n k r := fun e => h _ (List.mem_of_getElem? e)
  have hv : ∀ {i : Nat} {r : Row}, rows[i]? = some r → (rows.map Row.v)[i]? = some r.v := fun e => by rw [List.getElem?_map, e]; rfl
  have hp : 0 < rows.length := List.length_pos_iff.mpr h0
  have s1 := (fold_gr (backTurn_gr h _) _ Gr.refl).sm hf.here
  have s2 := R.grows.sm ((lastF_gr h _ _).sm s1)
  have s3 := (fold_gr (checkTurn_gr h _) _ Gr.refl).sm s2
  have s4 := (freshN_gr (Nat.le_refl _) Gr.refl).sm s3
  have s5 := (freshN_gr (Nat.le_refl _) Gr.refl).sm s4
  refine S_forMap hK hE [("goal", g), ("rows", .tuple (rows.map Row.v))] (fun i => dst σ a Xs.length (runAll ((rows.map Row.beg).take i) d)) ⟨rfl, rfl, trivial⟩ rfl (fun i r e => ?_) ?_
  · have hb : (rows.map Row.beg)[i]? = some r.beg := by rw [List.getElem?_map, e]; rfl
    exact R_dr A hc (SC.det ((r_step hK (r := r.ref) (way := "=") (hr e).eb).run σ a _ A (runAll_sm1 (f := r.beg) (begs_all h) s5 hb)) ⟨⟨rfl, rfl, trivial⟩, by rw [runAll_take hb]; rfl⟩ b1)
  · rw [List.take_of_length_le (by simp)]
    refine S_freshs hK (m := rows.length) (fun Ca => ⟨rfl, rfl, rfl, rfl⟩) A hc (by rw [List.length_map]) (Nat.le_trans hm (by decide)) s4 (fun q => q) fun D1 σ1 A1 hl1 hs1 => ?_
    refine S_freshs hK (m := rows.length) (fun Ca => ⟨rfl, rfl, rfl, rfl⟩) A1 (hs1 _ _ hc) (by rw [List.length_map]) (Nat.le_trans hm (by decide)) s3 (fun q => q) fun D2 σ2 A2 hl2 hs2 => ?_
    rw [len_freshN] at hl2
    have hlen : (freshN rows.length (freshN rows.length (runAll (rows.map Row.beg) d))).places.length = (runAll (rows.map Row.beg) d).places.length + rows.length + rows.length := by rw [len_freshN, len_freshN]
    have hl1' := fun {d : D} => dst_at (cnt := Xs.length) (a := a) (d := d) A2.apart (hs2 _ _ hl1)
    have hl2' := fun {d : D} => dst_at (cnt := Xs.length) (a := a) (d := d) A2.apart hl2
    have hc2 := hs2 _ _ (hs1 _ _ hc)
    have lz : ∀ c, (labs c rows.length).length ≤ 100000 := fun c => by rw [labs_len]; omega
    refine S_lenT hz' (S_forR hK hE hz' [("goal", g), ("rows", .tuple (rows.map Row.v)), ("checks", .ref D1), ("overs", .ref D2)] (fun i => dst σ2 a Xs.length (((List.range rows.length).take i).foldl (checkTurn rows (runAll (rows.map Row.beg) d).places.length) (freshN rows.length (freshN rows.length (runAll (rows.map Row.beg) d))))) ⟨rfl, rfl, rfl, rfl, trivial⟩ rfl (fun t ht => ?_) ?_)
    · rw [List.length_map] at ht
      have dt : (List.range rows.length)[t]? = some t := List.getElem?_range ht
      have l3 := (fold_gr (checkTurn_gr h (runAll (rows.map Row.beg) d).places.length) ((List.range rows.length).take t) (Gr.refl (d := freshN rows.length (freshN rows.length (runAll (rows.map Row.beg) d))))).p1
      have hq := fold_sm (checkTurn_gr h _) s2 (t + 1)
      rw [fold_take dt] at hq ⊢
      obtain ⟨r, e⟩ : ∃ r, rows[t]? = some r := ⟨_, List.getElem?_eq_getElem ht⟩
      rw [checkTurn_at e] at hq ⊢
      exact R_dr A2 hc2 (SM_here hK A2.apart (I_list hl1' (labs_at ht) (lz _) (C_here hK A2.apart _ (((hr e).ec.grows _ _).sm hq) (by omega) (R_dr A2 hc2 (I_tup (hv e) hz' (I_list hl2' (labs_at ht) (lz _)
        (SC.det ((hr e).ec.run σ2 a _ true _ A2 hq) ⟨⟨rfl, rfl, rfl, rfl, trivial⟩, rfl⟩ b2)))))))
    · rw [List.length_map, List.take_of_length_le (by simp)]
      have l3 := (Gr.run R.grows (fold_gr (checkTurn_gr h (runAll (rows.map Row.beg) d).places.length) (List.range rows.length) (Gr.refl (d := freshN rows.length (freshN rows.length (runAll (rows.map Row.beg) d)))))).p1
      obtain ⟨r, e⟩ : ∃ r, rows[rows.length - 1]? = some r := ⟨_, List.getElem?_eq_getElem (by omega)⟩
      have el : (rows.map Row.v)[(rows.map Row.v).length - 1]? = some r.v := by rw [List.length_map]; exact hv e
      have s7 := s1
      rw [lastF_at e] at s7
      refine R_dr A2 hc2 (SC.det (R.run σ2 a _ A2 ((lastF_gr h _ _).sm s1)) (R_dr A2 hc2 (I_last hz el (I_last hz el (SC.det ((r_step hK (r := r.ref) (way := "+") (hr e).ea).run σ2 a _ A2 s7.put) (R_dr A2 hc2 (SM_put hK A2.apart
        (I_lastL hl1' (lz _) (by rw [labs_len]; exact labs_at (by omega)) (C_put hK A2.apart (.jump _) s7 ?_)))) b1)))) b3)
      rw [← lastF_at (c0 := (runAll (rows.map Row.beg) d).places.length) e]
      have l6 := (lastF_gr h (runAll (rows.map Row.beg) d).places.length (fg ((List.range rows.length).foldl (checkTurn rows (runAll (rows.map Row.beg) d).places.length) (freshN rows.length (freshN rows.length (runAll (rows.map Row.beg) d)))))).p1
      refine S_lenT hz' (S_forDown 1 hK hE hz (by rw [List.length_map]; exact hp) rfl [("goal", g), ("rows", .tuple (rows.map Row.v)), ("checks", .ref D1), ("overs", .ref D2)]
        (fun i => dst σ2 a Xs.length (((ups rows.length).take i).foldl (backTurn rows (runAll (rows.map Row.beg) d).places.length) (lastF rows (runAll (rows.map Row.beg) d).places.length (fg ((List.range rows.length).foldl (checkTurn rows (runAll (rows.map Row.beg) d).places.length) (freshN rows.length (freshN rows.length (runAll (rows.map Row.beg) d)))))))) ⟨rfl, rfl, rfl, rfl, trivial⟩ rfl (fun i hi => ?_) ?_)
      · rw [List.length_map] at hi ⊢
        have dt := ups_at hi
        have ht : rows.length - 1 - i < rows.length := by omega
        have ht1 : 1 ≤ rows.length - 1 - i := by omega
        have hq := fold_sm (backTurn_gr h _) hf.here (i + 1)
        have l8 := (fold_gr (backTurn_gr h (runAll (rows.map Row.beg) d).places.length) ((ups rows.length).take i) (Gr.refl (d := lastF rows (runAll (rows.map Row.beg) d).places.length (fg ((List.range rows.length).foldl (checkTurn rows (runAll (rows.map Row.beg) d).places.length) (freshN rows.length (freshN rows.length (runAll (rows.map Row.beg) d)))))))).p1
        rw [fold_take dt] at hq ⊢
        generalize rows.length - 1 - i = t at ht ht1 hq ⊢
        obtain ⟨r0, e0⟩ : ∃ r, rows[t]? = some r := ⟨_, List.getElem?_eq_getElem ht⟩
        obtain ⟨r1, e1⟩ : ∃ r, rows[t - 1]? = some r := ⟨_, List.getElem?_eq_getElem (by omega)⟩
        rw [backTurn_at e0 e1] at hq ⊢
        have et : (t : Int) - 1 = ((t - 1 : Nat) : Int) := by omega
        have q1 := (beg_grows h e0).sm hq.put
        exact R_dr A2 hc2 (SM_here hK A2.apart (I_list hl2' (labs_at ht) (lz _) (C_here hK A2.apart _ ((add_grows h e1).sm q1) (by omega) (R_dr A2 hc2 (I_tupE et (hv e1) hz' (I_tupE et (hv e1) hz'
          (SC.det ((r_step hK (r := r1.ref) (way := "+") (hr e1).ea).run σ2 a _ A2 q1) (R_dr A2 hc2 (I_tup (hv e0) hz' (I_tup (hv e0) hz' (SC.det ((r_step hK (r := r0.ref) (way := "=") (hr e0).eb).run σ2 a _ A2 hq.put)
          (R_dr A2 hc2 (SM_put hK A2.apart (I_listE et hl1' (labs_at (by omega)) (lz _) (C_put hK A2.apart (.jump _) hq ⟨⟨rfl, rfl, rfl, rfl, trivial⟩, rfl⟩)))) b1)))) b1)))))))
      · rw [List.length_map, List.take_of_length_le (by rw [ups_len]; exact Nat.le_refl _)]
        have l9 := (fold_gr (backTurn_gr h (runAll (rows.map Row.beg) d).places.length) (ups rows.length) (Gr.refl (d := lastF rows (runAll (rows.map Row.beg) d).places.length (fg ((List.range rows.length).foldl (checkTurn rows (runAll (rows.map Row.beg) d).places.length) (freshN rows.length (freshN rows.length (runAll (rows.map Row.beg) d)))))))).p1
        exact R_dr A2 hc2 (SM_here hK A2.apart (I_list (j := 0) hl2' (labs_at hp) (lz _) (C_here hK A2.apart _ hf (by omega) (finS (fun b x e => dst_sub A2.apart (fun b x e => hs2 _ _ (hs1 _ _ e)) b x (hs b x e))))))
end
end
section
open PySem PySem.W PySem.Calls PyProof.Rows PySem.Spec
set_option backward.isDefEq.lazyWhnfCore false
noncomputable def partV : Op → V
  | .dod x => .tuple [.str "do", x]
  | .perform i j => .tuple [.str "range", pairV i.toNat, pairV j.toNat]
  | _ => .none
noncomputable def sortV (inp out : Option (Nat × Nat)) : V := .tuple [.str "sort", .str "F", .tuple [.tuple [.bool true, .str "K"]], .bool false,
  (match inp with | none => .tuple [.str "files", .tuple [.str "G"]] | some (i, j) => .tuple [.str "range", pairV i, pairV j]),
  (match out with | none => .tuple [.str "files", .tuple [.str "H"]] | some (i, j) => .tuple [.str "range", pairV i, pairV j])]
noncomputable def inOp : Option (Nat × Nat) → Op
  | none => .dod (.tuple [.str "sort-take", .str "F", .tuple [.str "G"]])
  | some (i, j) => .perform i j
noncomputable def outOp : Option (Nat × Nat) → Op
  | none => .dod (.tuple [.str "sort-give", .str "F", .tuple [.str "H"]])
  | some (i, j) => .perform i j
noncomputable def sortOps (inp out : Option (Nat × Nat)) : List Op :=
  [.dod (.tuple [.str "sort-begin", .str "F"]), inOp inp, .dod (.tuple [.str "sort-order", .str "F", .tuple [.tuple [.bool true, .str "K"]]]), outOp out, .dod (.tuple [.str "sort-end", .str "F"])]
noncomputable def pairsV (ps : List (Str × V)) : V := .tuple (ps.map fun p => V.tuple [.str p.1, p.2])
noncomputable def arithV (e t : V) (ps : List (Str × V)) : V := .tuple [.str "arith", e, t, pairsV ps]
noncomputable def readV (ps : List (Str × V)) : V := .tuple [.str "read", .str "F", .bool true, .none, .none, pairsV ps]
noncomputable def moveV (x y : V) : V := .tuple [.str "move", x, .tuple [y]]
noncomputable def arithF (t : V) (code : Int → List Op) (fn : D → D) (fs : Option (D → D)) (d : D) : D :=
  match fs with
  | none => (fn ((d.fresh.app (code d.places.length)).put (.put t d.places.length))).here d.places.length
  | some f => (f (((fn ((d.fresh.app (code d.places.length)).put (.put t d.places.length))).fresh.put (.jump (fn ((d.fresh.app (code d.places.length)).put (.put t d.places.length))).places.length)).here d.places.length)).here (fn ((d.fresh.app (code d.places.length)).put (.put t d.places.length))).places.length
theorem arithF_grows {t : V} {code : Int → List Op} {fn : D → D} {fs : Option (D → D)} {k₁ k₂ k₃ : Nat} (F : ∀ l, (code l).length ≤ k₁) (G : Grows k₂ fn) (H : ∀ f, fs = some f → Grows k₃ f) : Grows (k₁ + k₂ + k₃ + 4) (arithF t code fn fs) := fun d => by
  cases fs with
  | none => exact (Gr.here (Gr.run G (Gr.put (Gr.app (F _) (Gr.fresh Gr.refl))))).less (by omega)
  | some f => exact (Gr.here (Gr.run (H f rfl) (Gr.here (Gr.put (Gr.fresh (Gr.run G (Gr.put (Gr.app (F _) (Gr.fresh Gr.refl))))))))).less (by omega)
section
variable {C : Cx} {Xs : List V} (hK : C.K = KK C.w.params)
include hK
theorem r_perform {n k : Nat} {g : V} {ls : List V} {Fn : Addr} {args : List V} {f : D → D} (w : Str)
    (R : Runs C Xs n k Fn args f)
    (h : (w = "once" ∧ Fn = 265 ∧ args = [g] ∧ ls = []) ∨ (w = "times" ∧ Fn = 279 ∧ ∃ x, args = [g, x] ∧ ls = [x]) ∨ (w = "until" ∧ Fn = 286 ∧ ∃ b c, args = [g, .bool b, c] ∧ ls = [.bool b, c]) ∨
      (w = "varying" ∧ Fn = 305 ∧ ∃ r, args = [g, r] ∧ ls = [.bool true, r]) ∨ (w = "varying" ∧ Fn = 298 ∧ ∃ r, args = [g, r] ∧ ls = [.bool false, r])) :
    Runs C Xs (n + 2) k 272 [.tuple [.str "perform", g, .tuple (.str w :: ls)]] f := by
  refine ⟨R.grows, fun σ a d A hf => ?_⟩
  rcases h with ⟨rfl, rfl, rfl, rfl⟩ | ⟨rfl, rfl, x, rfl, rfl⟩ | ⟨rfl, rfl, b, c, rfl, rfl⟩ | ⟨rfl, rfl, r, rfl, rfl⟩ | ⟨rfl, rfl, r, rfl, rfl⟩
  all_goals exact fnX ok_put_perform hK fun L hL => SC.det (R.run σ a d A hf) fin le1
theorem c_goal_parts {n : Nat} {σ : Store} (out : Option (Nat × Nat)) : TCc C (n + 1) σ 77 [.str "F", (match out with | none => .tuple [.str "files", .tuple [.str "H"]] | some (i, j) => .tuple [.str "range", pairV i, pairV j])] (NewR σ (.list [partV (outOp out)])) := by
  rcases out with _ | ⟨i, j⟩
  all_goals exact fnX ok_goal_parts hK fun L hL => ⟨fun c hc _ => finN hc⟩
theorem c_sort_parts {n : Nat} {σ : Store} (inp out : Option (Nat × Nat)) : TCc C (n + 2) σ 84 [sortV inp out] (NewR σ (.list ((sortOps inp out).map partV))) := by
  rcases inp with _ | ⟨i, j⟩
  all_goals
    refine fnX ok_sort_parts hK fun L hL => ⟨fun F hF _ => S_append set_self (Nat.le_of_ble_eq_true rfl) (S_append set_self (Nat.le_of_ble_eq_true rfl) ?_)⟩
    rw [set_set, set_set]
    exact SC.new (c_goal_parts hK (n := n) out) (fun c1 h1 => S_listAdd (set_at h1 set_self) set_self (Nat.le_of_ble_eq_true rfl) fun c2 h2 => ⟨fun c3 h3 _ => S_listAdd (set_at h3 set_self) set_self (Nat.le_of_ble_eq_true rfl) fun c4 h4 =>
      finNS (set_none (set_none (set_none (set_none h4)))) (set_both fun b x e => set_at h3 (set_at h2 (set_at h1 (set_at hF e))))⟩) (Nat.le_refl _)
theorem r_sort (h4 : Xs.length ≤ 4) (inp out : Option (Nat × Nat)) (hi : ∀ i j, inp = some (i, j) → i < Xs.length ∧ j < Xs.length) (ho : ∀ i j, out = some (i, j) → i < Xs.length ∧ j < Xs.length) : Runs C Xs 5 5 251 [sortV inp out] fun d => d.app (sortOps inp out) := by
  refine ⟨fun d => (Gr.app (Nat.le_refl _) Gr.refl).less (by simp [sortOps]), fun σ a d A hf => fnX ok_put_sort hK fun L hL => SC.new (c_sort_parts hK (n := 2) inp out) (fun c hc => SFor.fresh hc ?_) (Nat.le_refl _)⟩
  have key : ∀ o ∈ sortOps inp out, (∃ x, o = .dod x) ∨ ∃ p q : Nat, o = .perform p q ∧ p < Xs.length ∧ q < Xs.length := fun o h => by
    have io : ∀ (r : Option (Nat × Nat)) (f : Option (Nat × Nat) → Op), (∀ i j, r = some (i, j) → i < Xs.length ∧ j < Xs.length) → (f = inOp ∨ f = outOp) → (∃ x, f r = .dod x) ∨ ∃ p q : Nat, f r = .perform p q ∧ p < Xs.length ∧ q < Xs.length := fun r f hr hf => by
      rcases r with _ | ⟨i, j⟩
      · left; rcases hf with rfl | rfl <;> exact ⟨_, rfl⟩
      · right; rcases hf with rfl | rfl <;> exact ⟨i, j, rfl, hr i j rfl⟩
    unfold sortOps at h
    simp only [List.mem_cons, List.not_mem_nil, or_false] at h
    rcases h with rfl | rfl | rfl | rfl | rfl
    · exact .inl ⟨_, rfl⟩
    · exact io _ _ hi (.inl rfl)
    · exact .inl ⟨_, rfl⟩
    · exact io _ _ ho (.inr rfl)
    · exact .inl ⟨_, rfl⟩
  refine S_forMap hK (ok_put_sort.plain L) [("draft", .ref a.x)] (fun i => dst σ a Xs.length (d.app ((sortOps inp out).take i))) ⟨rfl, trivial⟩ (by simp [D.app]) (fun i o e => ?_) (by rw [List.take_length]; exact fin)
  have st : (d.app ((sortOps inp out).take i)).put o = d.app ((sortOps inp out).take (i + 1)) := by rw [app_put, List.take_add_one, e]; rfl
  have sm : Sm ((d.app ((sortOps inp out).take i)).put o) := by
    rw [st]
    have e2 : d.app (sortOps inp out) = (d.app ((sortOps inp out).take (i + 1))).app ((sortOps inp out).drop (i + 1)) := by rw [app_app, List.take_append_drop]
    exact (e2 ▸ hf : Sm _).app
  rw [← st]
  rcases key o (List.mem_of_getElem? e) with ⟨x, rfl⟩ | ⟨p, q, rfl, hp, hq⟩
  · exact S_put hK A.apart (.dod x) sm ⟨⟨rfl, trivial⟩, rfl⟩
  · exact SC.det (c_put_range (n := 2) hK A h4 p q hp hq sm) ⟨⟨rfl, trivial⟩, rfl⟩ (Nat.le_refl _)
theorem c_branches {n : Nat} {σ : Store} {X : V} {ps : List (Str × V)} (h : (∃ e t, X = arithV e t ps) ∨ X = readV ps ∨ (∃ x y, X = moveV x y ∧ ps = [])) (hz : ps.length ≤ 1000) (hn : (ps.map (·.1)).Nodup) :
    TCc C (n + 1) σ 90 [X] (NewR σ (.sdict ps)) := by
  rcases h with ⟨e, t, rfl⟩ | rfl | ⟨x, y, rfl, rfl⟩
  · exact fnX ok_branches_of hK fun L hL => ⟨TE_dcomp ((W_sound hK).e (ok_branches_of.plain L) (I_last (Nat.le_of_ble_eq_true rfl) rfl ⟨ps, rfl, hz, hn, fun c hc _ => finN hc⟩))⟩
  · exact fnX ok_branches_of hK fun L hL => ⟨TE_dcomp ((W_sound hK).e (ok_branches_of.plain L) (I_last (Nat.le_of_ble_eq_true rfl) rfl ⟨ps, rfl, hz, hn, fun c hc _ => finN hc⟩))⟩
  · exact fnX ok_branches_of hK fun L hL => ⟨TE_dict0S fun c hc _ => finN hc⟩
end
end
section
open PySem PySem.W PySem.Calls PyProof.Rows PySem.Spec
set_option backward.isDefEq.lazyWhnfCore false
noncomputable def isNot (x : Str) : Bool := Txt.slice x none (some 4) == ("not " : Str)
noncomputable def keyTurn (quiet : List Str) (F : Str → D → D) (behind : Nat) (d : D) (key : Str) : D :=
  ((F key (d.fresh.put (.key (if quiet.any (· == key) = true then "" else key) d.places.length))).put (.jump behind)).here d.places.length
noncomputable def deedF (st : V) (noisy quiet : List Str) (F : Str → D → D) (d : D) : D :=
  ((noisy ++ quiet.take 1).foldl (keyTurn quiet F d.places.length) ((d.put (.dod st)).fresh)).here d.places.length
theorem keyTurn_gr {quiet : List Str} {F : Str → D → D} {k : Nat} (G : ∀ s, Grows k (F s)) (behind : Nat) (d : D) (key : Str) : Gr (k + 3) d (keyTurn quiet F behind d key) :=
  (Gr.here (Gr.put (Gr.run (G key) (Gr.put (Gr.fresh Gr.refl))))).less (by omega)
theorem deedF_grows {st : V} {noisy quiet : List Str} {F : Str → D → D} {k : Nat} (G : ∀ s, Grows k (F s)) (h : (noisy ++ quiet.take 1).length ≤ 2) : Grows (2 * k + 8) (deedF st noisy quiet F) := fun d => by
  have e : (k + 3) * (noisy ++ quiet.take 1).length ≤ (k + 3) * 2 := Nat.mul_le_mul_left _ h
  exact (Gr.here (fold_gr (keyTurn_gr G _) _ (Gr.fresh (Gr.put Gr.refl)))).less (by omega)
theorem del_set {σ : Store} {c : Addr} {y : AObj} (h : σ c = some y) : (σ.del c).set c y = σ := by
  funext b
  simp only [Store.set, Store.del]
  by_cases q : b = c
  · subst q; simp [h]
  · simp [q]
theorem filter_take {p : Str → Bool} {ks : List Str} {i : Nat} {x : Str} (h : ks[i]? = some x) : (ks.take (i + 1)).filter p = (ks.take i).filter p ++ (if p x = true then [x] else []) := by
  rw [List.take_add_one, h, List.filter_append]
  congr 1
  show List.filter p [x] = _
  cases q : p x <;> simp [q]
theorem filter_two (l : List Str) : (l.filter fun x => !isNot x).length + (l.filter isNot).length = l.length := by
  induction l with
  | nil => rfl
  | cons x l ih => by_cases q : isNot x = true <;> simp [q] <;> omega
section
variable {C : Cx} {Xs : List V} (hK : C.K = KK C.w.params)
include hK
theorem r_arith {n₁ k₁ n₂ k₂ n₃ k₃ : Nat} {e t N : V} {S : List V} {ps : List (Str × V)} {code : Int → List Op} {fn : D → D} {fs : Option (D → D)} (Re : ERun C Xs n₁ k₁ e code) (Rn : Runs C Xs n₂ k₂ 220 [N] fn)
    (hz : ps.length ≤ 1000) (hn : (ps.map (·.1)).Nodup) (hN : (lkD ("not size" : Str) ps).getD (.tuple []) = N) (hS : (lkD ("size" : Str) ps).getD (.tuple []) = .tuple S)
    (hb : S = [] ↔ fs = none) (hSz : S.length ≤ 1000) (Rs : ∀ f, fs = some f → Runs C Xs n₃ k₃ 220 [.tuple S] f) : Runs C Xs (n₁ + n₂ + n₃ + 2) (k₁ + k₂ + k₃ + 4) 239 [arithV e t ps] (arithF t code fn fs) := by
  refine ⟨arithF_grows Re.len Rn.grows fun f e => (Rs f e).grows, fun σ0 a d A0 hf => ?_⟩
  have b1 : n₁ ≤ n₁ + n₂ + n₃ + 1 := by omega
  have b2 : n₂ ≤ n₁ + n₂ + n₃ + 1 := by omega
  have b3 : n₃ ≤ n₁ + n₂ + n₃ + 1 := by omega
  cases fs with
  | none =>
    have s1 : Sm (fn ((d.fresh.app (code d.places.length)).put (.put t d.places.length))) := hf.here
    have s2 := Rn.grows.sm s1
    have hS' : (lkD ("size" : Str) ps).getD (.tuple []) = .tuple [] := hS.trans (by rw [hb.mpr rfl])
    exact fnX ok_put_arith hK fun L hL => S_fresh hK A0.apart s2.put.app (SC.new (c_branches hK (n := n₁ + n₂ + n₃) (.inl ⟨e, t, rfl⟩) hz hn) (fun c hc => newD hc A0 fun σ A hcs hs => SC.det (Re.run σ a _ _ A s2.put) (S_put hK A.apart (.put t d.places.length) s2
      (S_get (dst_at A.apart hcs) hN (SC.det (Rn.run σ a _ A s1) (S_get (dst_at A.apart hcs) hS' (S_lenT (Nat.zero_le _) (S_here hK A.apart d.places.length hf ((Gr.run Rn.grows (Gr.put (Gr.app (Nat.le_refl _) Gr.refl))).lt lt_fresh) (finS (dst_sub A.apart hs))))) b2))) b1) (Nat.le_refl _))
  | some f =>
    have R := Rs f rfl
    have h1 : Sm (f (((fn ((d.fresh.app (code d.places.length)).put (.put t d.places.length))).fresh.put (.jump (fn ((d.fresh.app (code d.places.length)).put (.put t d.places.length))).places.length)).here d.places.length)) := hf.here
    have h2 := R.grows.sm h1
    have s1 := h2.here.put.fresh
    have s2 := Rn.grows.sm s1
    have hne : (((S.length : Nat) : Int) == 0) = false := by
      cases S with
      | nil => cases hb.mp rfl
      | cons b r => exact beq_false_of_ne (by simp; omega)
    exact fnX ok_put_arith hK fun L hL => S_fresh hK A0.apart s2.put.app (SC.new (c_branches hK (n := n₁ + n₂ + n₃) (.inl ⟨e, t, rfl⟩) hz hn) (fun c hc => newD hc A0 fun σ A hcs hs => SC.det (Re.run σ a _ _ A s2.put) (S_put hK A.apart (.put t d.places.length) s2
      (S_get (dst_at A.apart hcs) hN (SC.det (Rn.run σ a _ A s1) (S_get (dst_at A.apart hcs) hS (S_lenT (Nat.le_trans hSz (by decide)) (wIf_f hne (S_fresh hK A.apart h2.here.put (S_put hK A.apart (.jump _) h2.here
        (S_here hK A.apart d.places.length h2 ((Gr.put (Gr.fresh (Gr.run Rn.grows (Gr.put (Gr.app (Nat.le_refl _) Gr.refl))))).lt lt_fresh) (SC.det (R.run σ a _ A h1) (S_here hK A.apart _ hf ((Gr.run R.grows (Gr.here (Gr.put Gr.refl))).lt lt_fresh) (finS (dst_sub A.apart hs))) b3))))))) b2))) b1) (Nat.le_refl _))
theorem S_keys {n : Nat} {env : Env} {σ : Store} {c : Addr} {ps : List (Str × V)} {p : Str → Bool} {x : Str} {px : Pos} {test : Expr} {scope : Scope} {cl : List (Str × Addr)} {Φ : V → Store → Prop} (hE : ∀ Ca, PlainF (compEnvC scope cl Ca env)) (hc : σ c = some (.sdict ps)) (hz : ps.length ≤ 1000)
    (elt : ∀ {Ca : Addr} {s : Str} {τ : Store} {Ψ : V → Store → Prop}, Ψ (.str s) τ → (W C n).e (compEnvC scope cl Ca env) (Loc.none.set x (.str s)) (.Name x px) Ψ τ)
    (tst : ∀ {Ca : Addr} {s : Str} {τ : Store} {Ψ : Bool → Store → Prop}, s ∈ ps.map (·.1) → Ψ (p s) τ → (W C n).b (compEnvC scope cl Ca env) (Loc.none.set x (.str s)) test Ψ τ)
    (done : ∀ D, σ D = none → Φ (.ref D) (σ.set D (.list (((ps.map (·.1)).filter p).map V.str)))) : SComp C n env scope cl x (.Name x px) [test] (.ref c) Φ σ := by
  refine ⟨_, _, _, fun i Zs σ' => σ' = σ.del c ∧ Zs = (((ps.map (·.1)).take i).filter p).map V.str, .dict hc, by rw [List.length_map]; exact Nat.le_trans hz (Nat.le_trans (by decide) sizeLine_big), ⟨rfl, by simp⟩, fun Ca i Y Zs σ' _ hY ⟨e1, e2⟩ => ?_, fun D Zs σ' _ ⟨e1, e2⟩ _ hD _ => ?_⟩
  · subst e1; subst e2
    rw [List.getElem?_map, Option.map_eq_some_iff] at hY
    obtain ⟨q, hq, rfl⟩ := hY
    have hx : (ps.map (·.1))[i]? = some q.1 := by rw [List.getElem?_map, hq]; rfl
    have ft := filter_take (p := p) hx
    refine TIf_one ((W_sound hK).b (hE Ca) (tst (List.mem_of_getElem? hx) ?_))
    cases hp : p q.1
    · exact ⟨rfl, by rw [ft, hp]; simp⟩
    · exact (W_sound hK).e (hE Ca) (elt ⟨rfl, by rw [ft, hp]; simp⟩)
  · subst e1; subst e2
    have hD : ((σ.del c).set c (.sdict ps)) D = none := hD
    show Drop Φ (.ref D) (((σ.del c).set c (.sdict ps)).set D _)
    rw [del_set hc] at hD ⊢
    rw [List.take_of_length_le (by simp)]
    exact Drop.all (done D hD)
theorem r_deed {n k : Nat} {X : V} {ps : List (Str × V)} {F : Str → D → D} (hX : (∃ e t, X = arithV e t ps) ∨ X = readV ps ∨ (∃ x y, X = moveV x y ∧ ps = []))
    (hz : ps.length ≤ 2) (hn : (ps.map (·.1)).Nodup) (hlen : ∀ s ∈ ps.map (·.1), s.length ≤ 100)
    (G : ∀ s, Grows k (F s)) (R : ∀ s B, lkD s ps = some B → Runs C Xs n k 220 [B] (F s)) (hk : ∀ s ∈ ps.map (·.1), ∃ B, lkD s ps = some B) :
    Runs C Xs (n + 3) (2 * k + 8) 244 [X] (deedF X ((ps.map (·.1)).filter fun x => !isNot x) ((ps.map (·.1)).filter isNot) F) := by
  have hl2 : (((ps.map (·.1)).filter fun x => !isNot x) ++ ((ps.map (·.1)).filter isNot).take 1).length ≤ 2 := by
    have := filter_two (ps.map (·.1))
    rw [List.length_map] at this
    rw [List.length_append, List.length_take]; omega
  have hmem : ∀ s ∈ ((ps.map (·.1)).filter fun x => !isNot x) ++ ((ps.map (·.1)).filter isNot).take 1, s ∈ ps.map (·.1) := fun s hs => by
    rcases List.mem_append.mp hs with h1 | h1
    · exact (List.mem_filter.mp h1).1
    · exact (List.mem_filter.mp (List.mem_of_mem_take h1)).1
  have sl : ∀ {m : Nat} {env : Env} {ρ : Loc} {τ : Store} {kk : Nat} {nm : Str} {s : Str} {p p1 p2 pos : Pos} {Ψ : V → Store → Prop}, PlainF env → s ∈ ps.map (·.1) → ((W C m).e env ρ (.Name nm p2) (fun Y τ' => ∃ x, Y = .str x ∧ x.length ≤ sizeLine ∧ Ψ (.str (Txt.slice x none (some 4))) τ') τ) → SE C m env ρ (.Subscript (.Name nm p2) (.Slice none (some (.Constant (.int 4) kk p1)) none p) pos) Ψ τ :=
    fun hE hs h => ⟨TE_sliceS (a := 4) ((W_sound hK).e hE h)⟩
  have h100 : ∀ s ∈ ps.map (·.1), s.length ≤ sizeLine := fun s hs => Nat.le_trans (hlen s hs) (Nat.le_trans (by decide) sizeLine_big)
  refine ⟨deedF_grows G hl2, fun σ0 a d A0 hf => fnX ok_put_deed hK fun L hL => ?_⟩
  have hE := ok_put_deed.plain L
  have s1 : Sm (d.put (.dod X)).fresh := (fold_gr (keyTurn_gr G _) _ Gr.refl).sm hf.here
  refine S_put hK A0.apart (.dod X) s1.fresh (S_fresh hK A0.apart s1 (SC.new (c_branches hK (n := n + 1) hX (Nat.le_trans hz (by decide)) hn) (fun c hc => newD hc A0 fun σ1 A1 hc1 hs1 => ?_) (Nat.le_refl _)))
  refine S_keys hK (p := isNot) (fun Ca => ⟨rfl, rfl, rfl, rfl⟩) (dst_at A1.apart hc1) (Nat.le_trans hz (by decide)) (fun q => q) (fun hs q => sl ⟨rfl, rfl, rfl, rfl⟩ hs ⟨_, rfl, h100 _ hs, q⟩) fun Q hQ => newD hQ A1 fun σ2 A2 hq2 hs2 => ?_
  refine S_keys hK (p := fun x => !isNot x) (fun Ca => ⟨rfl, rfl, rfl, rfl⟩) (dst_at A2.apart (hs2 _ _ hc1)) (Nat.le_trans hz (by decide)) (fun q => q) (fun hs q => sl ⟨rfl, rfl, rfl, rfl⟩ hs ⟨_, rfl, h100 _ hs, q⟩) fun Q' hQ' => newD hQ' A2 fun σ3 A3 hq3 hs3 => ?_
  refine ⟨TE_sliceL (a := 1) ((W_sound hK).e hE ⟨_, _, rfl, dst_at A3.apart (hs3 _ _ hq2), mapl (Nat.le_trans (List.length_filter_le ..) (by rw [List.length_map]; omega)), fun c3 hc3 _ => newD hc3 A3 fun σ4 A4 hq4 hs4 => ?_⟩)⟩
  refine S_listAdd (dst_at A4.apart (hs4 _ _ hq3)) (dst_at A4.apart hq4) (by rw [← List.length_append, ← List.map_take, ← List.map_append, List.length_map]; omega) fun c5 hc5 => ?_
  rw [← List.map_take, ← List.map_append]
  have hqd : ∀ {d : D}, dst σ4 a Xs.length d Q = some (.list (((ps.map (·.1)).filter isNot).map V.str)) := fun {d} => dst_at A4.apart (hs4 _ _ (hs3 _ _ hq2))
  have hcd : ∀ {d : D}, dst σ4 a Xs.length d c = some (.sdict ps) := fun {d} => dst_at A4.apart (hs4 _ _ (hs3 _ _ (hs2 _ _ hc1)))
  refine SFor.fresh hc5 (S_forMap hK hE [("draft", .ref a.x), ("behind", .int (d.put (.dod X)).places.length), ("branches", .ref c), ("quiet", .ref Q)]
    (fun i => dst σ4 a Xs.length (((((ps.map (·.1)).filter fun x => !isNot x) ++ ((ps.map (·.1)).filter isNot).take 1).take i).foldl (keyTurn ((ps.map (·.1)).filter isNot) F d.places.length) (d.put (.dod X)).fresh)) ⟨rfl, rfl, rfl, rfl, trivial⟩ rfl (fun i s hs => ?_) ?_)
  · obtain ⟨B, hB⟩ := hk s (hmem s (List.mem_of_getElem? hs))
    have RB := R s B hB
    have hq := fold_sm (keyTurn_gr G _) hf.here (i + 1)
    rw [fold_take hs] at hq ⊢
    have q2 : Sm (F s _) := hq.here.put
    refine S_fresh hK A4.apart (RB.grows.sm q2).put (SM_put hK A4.apart ⟨O_inL (ys := (ps.map (·.1)).filter isNot) hqd ⟨_, rfl, ?_⟩⟩)
    cases hany : ((ps.map (·.1)).filter isNot).any (· == s)
    all_goals
      unfold keyTurn at hq q2 ⊢
      rw [hany] at hq q2 ⊢
      exact C_put hK A4.apart (.key _ _) (RB.grows.sm q2) ⟨O_itemSD hcd hB (SC.det (RB.run σ4 a _ A4 q2) (S_put hK A4.apart (.jump _) hq.here (S_here hK A4.apart _ hq ((Gr.put (Gr.run RB.grows (Gr.put Gr.refl))).lt lt_fresh) ⟨⟨rfl, rfl, rfl, rfl, trivial⟩, rfl⟩)) (by omega))⟩
  · rw [List.take_length]
    exact S_here hK A4.apart d.places.length hf ((fold_gr (keyTurn_gr G _) _ Gr.refl).lt (lt_fresh (d := d.put (.dod X)))) (finS (dst_sub A4.apart fun b x e => hs4 _ _ (hs3 _ _ (hs2 _ _ (hs1 _ _ e)))))
end
end
section
open PySem PySem.W PySem.Calls PyProof.Rows PySem.Spec
set_option backward.isDefEq.lazyWhnfCore false
noncomputable def notIf (c : V) (b : Bool) : V := if b = true then .tuple [.str "not", c] else c
structure When where
  e : V
  b : Bool
  sts : List V
noncomputable def When.thing (w : When) : V := .tuple [.str "is", w.e, .bool w.b]
noncomputable def When.v (w : When) : V := .tuple [.tuple [.tuple [w.thing]], .tuple w.sts]
noncomputable def When.cond (e : V) (w : When) : V := notIf (.tuple [.str "rel", .str "=", e, w.e]) w.b
noncomputable def ifsV (e : V) : List When → List V → List V
  | [], os => os
  | w :: ws, os => [.tuple [.str "if", w.cond e, .tuple w.sts, .tuple (ifsV e ws os)]]
noncomputable def evalV (e : V) (ws : List When) (os : List V) : V := .tuple [.str "evaluate", .tuple [.tuple [.str "worth", e]], .tuple (ws.map When.v), .tuple os]
theorem cond_some (e : V) (w : When) : (w.cond e).isNone = false := by
  unfold When.cond notIf
  cases w.b <;> rfl
section
variable {C : Cx} {Xs : List V} (hK : C.K = KK C.w.params)
include hK
theorem S_zip {n : Nat} {env : Env} {ρ : Loc} {σ : Store} {e₁ e₂ : Expr} {ts : List Expr} {k : Nat} {np cp tp pos : Pos} {body : List Stmt} {N : Loc → Store → Prop} {J : Fl → Loc → Store → Prop} (hE : PlainF env)
    (h : (W C n).e env ρ (.Name "zip" np) (fun Z σ₀ => Z = .typ "zip" ∧ (W C n).l env ρ [e₁, e₂] (fun Xs σ₂ => ∃ S T, Xs = [.tuple [S], .tuple [T]] ∧ (W C n).a env ρ (.Tuple ts k tp) (.tuple [S, T]) (fun ρ₂ => (W C n).ss env ρ₂ body N (forK N N fun V => J (.ret V))) σ₂) σ₀) σ)
    (hplain : (backTo cp (starEach [e₁, e₂] env)).any (·.1) = false := by rfl) (hst : starEach [e₁, e₂] env = (false, eval e₁ env) :: starEach [e₂] env := by rfl) : SS C n env ρ (.For (.Tuple ts k tp) (.Call (.Name "zip" np) [e₁, e₂] [] cp) body [] pos) N J σ :=
  ⟨TS_forZ (((W_sound hK).e hE h).mono fun Z σ₀ h => ⟨h.1, ((W_sound hK).l cp hE h.2).mono fun Xs σ₂ ⟨S, T, e, h⟩ => ⟨S, T, e, ((W_sound hK).a hE h).mono fun ρ₂ σ₃ h => ((W_sound hK).ss hE h).mono fun f ρ₃ σ₄ h => by cases f <;> exact h⟩⟩) hplain hst fun _ => rfl⟩
theorem c_negated {n : Nat} {σ : Store} (c : V) (b : Bool) : Det C (n + 1) σ 28 [c, .bool b] (notIf c b) σ := by
  cases b
  all_goals exact fnX ok_negated_if hK fun L hL => fin
theorem c_object {n : Nat} {σ : Store} (e : V) (w : When) : Det C (n + 2) σ 49 [.tuple [.str "worth", e], w.thing] (w.cond e) σ :=
  fnX ok_object_cond hK fun L hL => SC.det (c_negated hK (n := n) _ w.b) fin (Nat.le_refl _)
theorem c_row {n : Nat} {σ : Store} (e : V) (w : When) : Det C (n + 3) σ 56 [.tuple [.tuple [.str "worth", e]], .tuple [w.thing]] (w.cond e) σ :=
  fnX ok_row_cond hK fun L hL => S_zip hK (ok_row_cond.plain L) ⟨rfl, _, _, rfl, SC.det (c_object hK (n := n) e w) (wIf_t (by rw [cond_some]; rfl) (wIf_f (cond_some e w) fin)) (Nat.le_refl _)⟩
theorem c_rows {n : Nat} {σ : Store} (e : V) (w : When) : Det C (n + 4) σ 63 [.tuple [.tuple [.str "worth", e]], .tuple [.tuple [w.thing]]] (w.cond e) σ := by
  refine fnX ok_rows_cond hK fun L hL => SFor.detL hK (ok_rows_cond.plain L) (.tup _) (fun i => [("subjects", .tuple [.tuple [.str "worth", e]]), ("found", if i = 0 then .none else w.cond e)]) (fun _ => σ) ⟨rfl, rfl, trivial⟩ rfl (fun i Y hY => ?_) fin
  cases i with
  | zero =>
    cases hY
    exact SC.det (c_row hK (n := n) e w) ⟨⟨rfl, rfl, trivial⟩, rfl⟩ (Nat.le_refl _)
  | succ i => simp at hY
theorem c_as_ifs {n : Nat} {σ : Store} (e : V) (w : When) (ws : List When) (os : List V) (hz : (w :: ws).length ≤ 1000) (ho : os.length ≤ 1000) :
    Det C (n + 5) σ 70 [evalV e (w :: ws) os] (.tuple [.str "if", w.cond e, .tuple w.sts, .tuple (ifsV e ws os)]) σ := by
  generalize hq : w :: ws = qs at hz
  refine fnX ok_as_ifs hK fun L hL => ⟨TE_sliceT ((W_sound hK).e (ok_as_ifs.plain L) ⟨_, rfl, Nat.le_refl 1, Nat.le_of_ble_eq_true rfl, Nat.le_of_ble_eq_true rfl, S_tupT ⟨TE_sliceRev ((W_sound hK).e (ok_as_ifs.plain L) ⟨_, rfl, mapl (Nat.le_trans hz (by decide)), ?_⟩)⟩⟩)⟩
  refine SFor.detL hK (ok_as_ifs.plain L) (.tup _) (fun i => [("subjects", .tuple [.tuple [.str "worth", e]]), ("whens", .tuple (qs.map When.v)), ("found", .tuple (ifsV e (qs.drop (qs.length - i)) os))]) (fun _ => σ) ⟨rfl, rfl, by rw [Nat.sub_zero, List.drop_length]; rfl, trivial⟩ rfl (fun i Y hY => ?_) ?_
  · have hi : i < qs.length := by
      have := (List.getElem?_eq_some_iff.mp hY).1
      simpa using this
    obtain ⟨q, hw⟩ : ∃ q, qs[qs.length - 1 - i]? = some q := ⟨_, List.getElem?_eq_getElem (by omega)⟩
    rw [List.getElem?_reverse (by simpa using hi), List.length_map, List.getElem?_map, hw] at hY
    cases hY
    have dr : qs.drop (qs.length - (i + 1)) = q :: qs.drop (qs.length - i) := by
      have e1 : qs.length - (i + 1) = qs.length - 1 - i := by omega
      have e2 : qs.length - i = qs.length - 1 - i + 1 := by omega
      have hlt : qs.length - 1 - i < qs.length := by omega
      rw [e1, e2, List.drop_eq_getElem_cons hlt]
      rw [List.getElem?_eq_getElem hlt] at hw
      rw [Option.some.inj hw]
    exact SC.det (c_rows hK (n := n) e q) (S_tupT ⟨⟨rfl, rfl, by rw [dr]; rfl, trivial⟩, rfl⟩) (Nat.le_refl _)
  · subst hq
    have e3 : (w :: ws).length - ((w :: ws).map When.v).reverse.length = 0 := by simp
    rw [e3, List.drop_zero]
    refine S_lenT (mapl (Nat.le_trans hz (by decide))) (wIf_t (decide_eq_true (by simp)) fin)
theorem stX {n : Nat} {σ0 : Store} {a : DA} {d : D} {X x : V} {t : Store} (A0 : Around' σ0 a Xs)
    (h : ∀ L σ, Around' σ a Xs → σ (L + 1) = some (.cell (some (.ref a.x))) → (∀ {d' : D} b x, dst σ0 a Xs.length d' b = some x → dst σ a Xs.length d' b = some x) → (W C n).ss (callEnvC f_put_statement.fd L 225) (Loc.none.set "statement" X) f_put_statement.body (RetN (DetK x t)) (RetJ (DetK x t)) (dst σ a Xs.length d)) :
    Det C (n + 1) (dst σ0 a Xs.length d) 225 [.ref a.x, X] x t := fnXD ok_put_statement hK A0 h
theorem r_st_via {n k : Nat} {w : Str} {r : List V} {Fn : Addr} {f : D → D} (R : Runs C Xs n k Fn [.tuple (.str w :: r)] f)
    (h : (w = "if" ∧ Fn = 232) ∨ (w = "arith" ∧ Fn = 239) ∨ (w = "perform" ∧ Fn = 272) ∨ (w = "sort" ∧ Fn = 251) ∨ (w = "read" ∧ Fn = 244) ∨ (w = "move" ∧ Fn = 244)) : Runs C Xs (n + 2) k 225 [.tuple (.str w :: r)] f := by
  refine ⟨R.grows, fun σ0 a d A0 hf => ?_⟩
  rcases h with ⟨rfl, rfl⟩ | ⟨rfl, rfl⟩ | ⟨rfl, rfl⟩ | ⟨rfl, rfl⟩ | ⟨rfl, rfl⟩ | ⟨rfl, rfl⟩
  all_goals exact stX hK A0 fun L σ A hc hs => R_dr A hc (SC.det (R.run σ a d A hf) (finS hs) le1)
theorem r_st_eval {n k : Nat} {e : V} {w : When} {ws : List When} {os : List V} {f : D → D} (hz : (w :: ws).length ≤ 1000) (ho : os.length ≤ 1000)
    (R : Runs C Xs n k 225 [.tuple [.str "if", w.cond e, .tuple w.sts, .tuple (ifsV e ws os)]] f) : Runs C Xs (n + 7) k 225 [evalV e (w :: ws) os] f :=
  ⟨R.grows, fun σ0 a d A0 hf => stX hK A0 fun L σ A hc hs => R_dr A hc (SC.det (c_as_ifs hK (n := n + 1) e w ws os hz ho) (SC.det (R.run σ a d A hf) (finS hs) (Nat.le_add_right n 6)) (Nat.le_refl _))⟩
theorem r_st_exit {n : Nat} : Runs C Xs (n + 2) 0 225 [.tuple [.str "exit"]] fun d => d :=
  ⟨grows_id, fun σ0 a d A0 hf => stX hK A0 fun L σ A hc hs => finS hs⟩
theorem r_st_stop {n : Nat} (b : Bool) : Runs C Xs (n + 3) 1 225 [.tuple [.str (if b = true then "stop" else "exit-program")]] fun d => d.put (.stop (if b = true then "stop" else "exit")) := by
  refine ⟨grows_put, fun σ0 a d A0 hf => ?_⟩
  cases b
  all_goals exact stX hK A0 fun L σ A hc hs => R_dr A hc (SM_put hK A.apart (C_put hK A.apart (.stop _) hf (finS hs)))
theorem r_st_goto {n : Nat} (h4 : Xs.length ≤ 4) (i : Nat) (hi : i < Xs.length) : Runs C Xs (n + 4) 1 225 [.tuple [.str "goto", pairV i]] fun d => d.put (.jump i) :=
  ⟨grows_put, fun σ0 a d A0 hf => stX hK A0 fun L σ A hc hs => R_dr A hc (SM_put hK A.apart (R_dr A hc (S_head_of hK A h4 i hi (C_put hK A.apart (.jump i) hf (finS hs)))))⟩
noncomputable def gotoDepF (r : V) (js : List Nat) (d : D) : D := (d.put (.push r (-1))).put (.choose (js.map fun (j : Nat) => (j : Int)))
omit hK in
theorem choose_v (js : List Nat) : (Op.choose (js.map fun (j : Nat) => (j : Int))).v = .tuple [.str "choose", .tuple (js.map fun (j : Nat) => V.int j)] := by
  simp [Op.v]
theorem r_st_dep {n : Nat} (h4 : Xs.length ≤ 4) {r : V} (R : ERun C Xs 2 1 r fun l => [.push r l]) (js : List Nat) (hj : ∀ j ∈ js, j < Xs.length) (hz : js.length ≤ 1000) : Runs C Xs (n + 4) 2 225 [.tuple [.str "goto-dep", .tuple (js.map pairV), r]] (gotoDepF r js) := by
  refine ⟨fun d => Gr.put (Gr.put Gr.refl), fun σ0 a d A0 hf => stX hK A0 fun L σ A hc hs => ?_⟩
  have hf' : Sm ((d.put (.push r (-1))).put (.choose (js.map fun (j : Nat) => (j : Int)))) := hf
  refine R_dr A hc (SC.det (R.run σ a d (-1) A hf'.put) (R_dr A hc (SM_put hK A.apart (SCompT.map hK (h := fun (j : Nat) => V.int j) (fun Ca => ⟨rfl, rfl, rfl, rfl⟩) (Nat.le_trans hz (by decide)) (fun Ca i j Ψ e q => R_dr (d := d.put (.push r (-1))) A hc (S_head_of hK A h4 j (hj j (List.mem_of_getElem? e)) q)) ?_))) (by omega))
  exact C_putE hK A.apart (.choose (js.map fun (j : Nat) => (j : Int))) (choose_v js) hf' (finS hs)
end
end
section
open PySem PySem.W PySem.Calls PyProof.Rows PySem.Spec
set_option backward.isDefEq.lazyWhnfCore false
theorem lab_at {l : Int} (h : (l != -1) = true) : lab l = [l] := if_neg (by simpa using h)
theorem lab_no {l : Int} (h : (l != -1) = false) : lab l = [] := if_pos (by simpa using h)
theorem turnl_at {f : Int → Int} {l : Int} (h : (l != -1) = true) : turnl f l = f l := if_neg (by simpa using h)
theorem turnl_no {f : Int → Int} {l : Int} (h : (l != -1) = false) : turnl f l = l := by rw [show l = -1 by simpa using h]; rfl
theorem S_raw {C : Cx} {n : Nat} {σ : Store} {env : Env} {ρ : Loc} {x : Str} {q pos : Pos} {e : Expr} {Φ : V → Store → Prop} {f : Addr} {o : Obj} {fd : FuncData} (hK : C.K = KK C.w.params) (hE : PlainF env) (ho : σ f = some (.raw o)) (hd : o.data = .func fd)
    (hn : ∀ {Ψ : V → Store → Prop}, Ψ (.ref f) σ → TE C n env ρ σ (.Name x q) Ψ) (h : (W C n).e env ρ e (fun X σ₂ => σ₂ f = some (.raw o) ∧ SC C n (.ref f) [X] Φ σ₂) σ) (hs : noStar e = true) : SE C n env ρ (.Call (.Name x q) [e] [] pos) Φ σ :=
  ⟨TE_callRaw (hn ⟨f, o, fd, rfl, ho, hd, TL_cons (((W_sound hK).e hE h).mono fun X σ₂ k => TL_nil ⟨k.1, k.2.run⟩) (noStar_each hs [])⟩) (notAttr_of rfl) ⟨e, [], rfl, noStar_each hs []⟩ (noStar_plain (by rw [List.all_cons, hs]; rfl))⟩
theorem S_rawC {C : Cx} {n : Nat} {σ : Store} {env : Env} {ρ : Loc} {x : Str} {q pos : Pos} {e : Expr} {Φ : V → Store → Prop} {c f : Addr} {o : Obj} {fd : FuncData} (hK : C.K = KK C.w.params) (hE : PlainF env) (hx : σ c = some (.cell (some (.ref f)))) (ho : σ f = some (.raw o)) (hd : o.data = .func fd)
    (h : (W C n).e env ρ e (fun X σ₂ => σ₂ f = some (.raw o) ∧ SC C n (.ref f) [X] Φ σ₂) σ) (hk : env.kindOf x = some .cell := by rfl) (hc : env.cells.lookup x = some c := by rfl) (hs : noStar e = true := by rfl) (h1 : (x == ("__debug__" : Str)) = false := by rfl) : SE C n env ρ (.Call (.Name x q) [e] [] pos) Φ σ :=
  S_raw hK hE ho hd (fun k => TE_cell hE.kind hk hc hx k h1) h hs
theorem B_eqD {C : Cx} {n : Nat} {σ : Store} {X Y : V} (b : Bool) {Φ : Bool → Store → Prop} (h : Φ b σ) (e : PyData.eqv X.py Y.py = b := by rfl) (hx : X.data 40 = true := by rfl) (hy : Y.data 40 = true := by rfl) : SB C n .Eq X Y Φ σ := ⟨O_eqData hx hy ⟨b, congrArg V.bool e, h⟩⟩
structure Turns (C : Cx) (m : Nat) (σ : Store) (g : Addr) (f : Int → Int) (ls : List Int) : Prop where
  obj : ∃ o fd, σ g = some (.raw o) ∧ o.data = .func fd
  run : ∀ σ' : Store, (∀ b x, σ b = some x → σ' b = some x) → ∀ l ∈ ls, Det C m σ' g [.int l] (.int (f l)) σ'
section
variable {C : Cx} (hK : C.K = KK C.w.params)
include hK
theorem c_labels_of {n : Nat} {σ : Store} (o : Op) (hz : o.labels.length ≤ 1000) : Det C (n + 1) σ 128 [o.v] (.tuple (o.labels.map V.int)) σ :=
  fnX ok_labels_of hK fun L hL => by
    cases o with
    | choose ls => exact S_tupT fin
    | jump l => exact fin
    | dod x => exact fin
    | count x => exact fin
    | perform x y => exact fin
    | leave x => exact fin
    | stop x => exact fin
    | _ x l => exact wIf_s (fun h => finE (congrArg (fun ls => V.tuple (ls.map V.int)) (lab_at h).symm) rfl) (fun h => finE (congrArg (fun ls => V.tuple (ls.map V.int)) (lab_no h).symm) rfl)
theorem c_relabelled {m : Nat} {σ : Store} (o : Op) (hz : o.labels.length ≤ 1000) (g : Addr) (f : Int → Int) (T : Turns C m σ g f o.labels) : Det C (m + 2) σ 133 [o.v, .ref g] (o.turn f).v σ := by
  obtain ⟨⟨og, fdg, hg, hgd⟩, hT⟩ := T
  refine fnXC ok_relabelled hK (ρ₀ := Loc.none.set "op" o.v) fun L hL hL1 => ?_
  have hs := set_sub (σ := σ) (y := .cell (some (.ref g))) hL1
  have hc : (σ.set (L + 1) (.cell (some (.ref g)))) (L + 1) = some (.cell (some (.ref g))) := set_self
  generalize σ.set (L + 1) (.cell (some (.ref g))) = τ at hs hc
  have hE := ok_relabelled.plain L
  have cl := c_labels_of hK (n := m) (σ := τ) o hz
  have tc : ∀ {Φ : V → Store → Prop} l, l ∈ o.labels → Φ (.int (f l)) τ → SC C (m + 1) (.ref g) [.int l] Φ τ := fun l hl k => SC.det (hT τ hs l hl) k (Nat.le_succ m)
  cases o with
  | choose ls => exact SCompT.map hK (h := fun l => V.int (f l)) (fun Ca => ⟨rfl, rfl, rfl, rfl⟩) (Nat.le_trans hz (by decide)) (fun Ca i l Ψ hl k => S_rawC hK ⟨rfl, rfl, rfl, rfl⟩ hc (hs _ _ hg) hgd ⟨hs _ _ hg, tc l (List.mem_of_getElem? hl) k⟩) ⟨_, hs, by rw [show ls.map (fun l => V.int (f l)) = (ls.map f).map V.int from (List.map_map ..).symm]; rfl, rfl⟩
  | jump l => exact S_rawC hK hE hc (hs _ _ hg) hgd ⟨hs _ _ hg, tc l (.head _) (finS hs)⟩
  | dod x => exact SC.det cl (B_eqD true (finS hs)) (Nat.le_refl _)
  | count x => exact SC.det cl (B_eqD true (finS hs)) (Nat.le_refl _)
  | perform x y => exact SC.det cl (B_eqD true (finS hs)) (Nat.le_refl _)
  | leave x => exact SC.det cl (B_eqD true (finS hs)) (Nat.le_refl _)
  | stop x => exact SC.det cl (B_eqD true (finS hs)) (Nat.le_refl _)
  | _ x l =>
    have cl : Det C (m + 1) τ 128 [_] (.tuple ((lab l).map V.int)) τ := cl
    have tc : ∀ {Φ : V → Store → Prop} y, y ∈ lab l → Φ (.int (f y)) τ → SC C (m + 1) (.ref g) [.int y] Φ τ := tc
    cases q : l != -1
    · rw [lab_no q] at cl
      exact SC.det cl (B_eqD true ⟨_, hs, congrArg (fun z => V.tuple [_, _, .int z]) (turnl_no q).symm, rfl⟩) (Nat.le_refl _)
    · rw [lab_at q] at cl tc
      exact SC.det cl (B_eqD false (S_rawC hK hE hc (hs _ _ hg) hgd ⟨hs _ _ hg, tc l (.head _) ⟨_, hs, congrArg (fun z => V.tuple [_, _, .int z]) (turnl_at q).symm, rfl⟩⟩)) (Nat.le_refl _)
end
end
section
open PySem PySem.W PySem.Calls PyProof.Rows PySem.Spec
set_option backward.isDefEq.lazyWhnfCore false
theorem set_ne {τ : Store} {c b : Addr} {y : AObj} {r : Option AObj} (h : b ≠ c) (e : τ b = r) : (τ.set c y) b = r := by simp only [Store.set, if_neg h]; exact e
theorem del_ne {τ : Store} {c b : Addr} {r : Option AObj} (h : b ≠ c) (e : τ b = r) : (τ.del c) b = r := by simp only [Store.del, if_neg h]; exact e
theorem ne_of_none {τ : Store} {c b : Addr} {y : AObj} (h : τ c = none) (e : τ b = some y) : b ≠ c := fun q => by rw [q, h] at e; cases e
structure Kp (σ τ : Store) (P : List (Addr × AObj)) : Prop where
  at_ : ∀ q ∈ P, τ q.1 = some q.2
  nd : (P.map fun q => q.1).Nodup
  sub : ∀ b y, σ b = some y → τ b = some y
  off : ∀ q ∈ P, σ q.1 = none
theorem Kp.one {σ : Store} {a : Addr} {y : AObj} (h : σ a = none) : Kp σ (σ.set a y) [(a, y)] :=
  ⟨fun q hq => by rw [List.mem_singleton.mp hq]; exact set_self, by simp, set_sub h, fun q hq => by rw [List.mem_singleton.mp hq]; exact h⟩
theorem Kp.off0 {σ τ : Store} {P : List (Addr × AObj)} {e : Addr} (K : Kp σ τ P) (h : τ e = none) : σ e = none := by
  cases z : σ e with
  | none => rfl
  | some y => rw [K.sub _ _ z] at h; cases h
theorem Kp.new {σ τ : Store} {p : Addr × AObj} {P : List (Addr × AObj)} {e : Addr} {y : AObj} (K : Kp σ τ (p :: P)) (h : τ e = none) : Kp σ (τ.set e y) (p :: (e, y) :: P) := by
  have hp := K.at_ p (.head _)
  have n1 := List.nodup_cons.mp K.nd
  have d : ∀ q ∈ p :: P, q.1 ≠ e := fun q hq e' => by rw [← e', K.at_ q hq] at h; cases h
  refine ⟨fun q hq => ?_, ?_, sub_trans K.sub (set_sub h), fun q hq => ?_⟩
  · rcases List.mem_cons.mp hq with rfl | hq
    · exact set_at h hp
    · rcases List.mem_cons.mp hq with rfl | hq
      · exact set_self
      · exact set_at h (K.at_ q (.tail _ hq))
  · refine List.nodup_cons.mpr ⟨fun hm => ?_, List.nodup_cons.mpr ⟨fun hm => ?_, n1.2⟩⟩
    · rcases List.mem_cons.mp hm with e' | hm
      · exact d p (.head _) e'
      · exact n1.1 hm
    · obtain ⟨q, hq, e'⟩ := List.mem_map.mp hm
      exact d q (.tail _ hq) e'
  · rcases List.mem_cons.mp hq with rfl | hq
    · exact K.off _ (.head _)
    · rcases List.mem_cons.mp hq with rfl | hq
      · exact K.off0 h
      · exact K.off q (.tail _ hq)
theorem Kp.upd {σ τ : Store} (P : List (Addr × AObj)) {Q : List (Addr × AObj)} {a : Addr} {y z : AObj} (K : Kp σ τ (P ++ (a, y) :: Q)) : Kp σ (τ.set a z) (P ++ (a, z) :: Q) := by
  have nd := K.nd
  rw [List.map_append, List.map_cons] at nd
  have n2 := List.nodup_append.mp nd
  have n3 := List.nodup_cons.mp n2.2.1
  refine ⟨fun q hq => ?_, by rw [List.map_append, List.map_cons]; exact nd, fun b y e => set_ne (fun q => ?_) (K.sub b y e), fun q hq => ?_⟩
  · rcases List.mem_append.mp hq with hq | hq
    · exact set_ne (n2.2.2 _ (List.mem_map_of_mem hq) _ (.head _)) (K.at_ q (List.mem_append_left _ hq))
    · rcases List.mem_cons.mp hq with rfl | hq
      · exact set_self
      · exact set_ne (fun e => n3.1 (by rw [show (a, y).1 = q.1 from e.symm]; exact List.mem_map_of_mem hq)) (K.at_ q (List.mem_append_right _ (.tail _ hq)))
  · have := K.off (a, _) (List.mem_append_right _ (.head _))
    rw [← q, e] at this; cases this
  · rcases List.mem_append.mp hq with hq | hq
    · exact K.off q (List.mem_append_left _ hq)
    · rcases List.mem_cons.mp hq with rfl | hq
      · exact K.off (a, y) (List.mem_append_right _ (.head _))
      · exact K.off q (List.mem_append_right _ (.tail _ hq))
theorem Kp.upd0 {σ τ : Store} {Q : List (Addr × AObj)} {a : Addr} {y z : AObj} (K : Kp σ τ ((a, y) :: Q)) : Kp σ (τ.set a z) ((a, z) :: Q) := Kp.upd [] K
theorem Kp.upd1 {σ τ : Store} {q : Addr × AObj} {Q : List (Addr × AObj)} {a : Addr} {y z : AObj} (K : Kp σ τ (q :: (a, y) :: Q)) : Kp σ (τ.set a z) (q :: (a, z) :: Q) := Kp.upd [q] K
theorem Kp.ne {σ τ : Store} {P : List (Addr × AObj)} (K : Kp σ τ P) (i j : Nat) {a b : Addr × AObj} (hi : P[i]? = some a := by rfl) (hj : P[j]? = some b := by rfl) (h : i < j := by decide) : a.1 ≠ b.1 := by
  have h1 := List.getElem?_eq_some_iff.mp hi
  have h2 := List.getElem?_eq_some_iff.mp hj
  have := (List.pairwise_iff_getElem.mp K.nd) i j (by rw [List.length_map]; exact h1.1) (by rw [List.length_map]; exact h2.1) h
  rw [List.getElem_map, List.getElem_map, h1.2, h2.2] at this
  exact this
theorem Kp.del {σ τ : Store} {P : List (Addr × AObj)} (K : Kp σ τ P) {r : Addr} {y : AObj} (h : σ r = some y) {q : Addr × AObj} (hq : q ∈ P) : (τ.del r) q.1 = some q.2 := del_ne (fun e => by have := K.off q hq; rw [e, h] at this; cases this) (K.at_ q hq)
theorem del_setP {τ : Store} {r p : Addr} {y z : AObj} (h : τ r = some y) (hp : p ≠ r) : ((τ.del r).set p z).set r y = τ.set p z := by
  funext b
  by_cases q : b = r
  · rw [q, set_self, set_ne hp.symm h]
  · rw [set_ne q rfl]
    by_cases q' : b = p
    · rw [q', set_self, set_self]
    · rw [set_ne q' rfl, set_ne q' rfl, del_ne q rfl]
theorem dst_le {σ τ : Store} {a : DA} {cnt : Nat} {d : D} (hx : τ a.x = some (.inst 195 a.dx)) (hdx : τ a.dx = some (.ns (a.ns d))) (ho : τ a.o = some (.list (d.ops.map Op.v))) (hp : τ a.p = some (.list (d.places.map V.int))) (hh : τ a.h = some (.list (heads cnt)))
    (hs : ∀ b y, σ b = some y → τ b = some y) : ∀ b y, dst σ a cnt d b = some y → τ b = some y := fun b y e => by
  unfold dst at e
  by_cases q1 : b = a.x
  · rw [if_pos q1] at e; rw [q1, hx]; exact e
  rw [if_neg q1] at e
  by_cases q2 : b = a.dx
  · rw [if_pos q2] at e; rw [q2, hdx]; exact e
  rw [if_neg q2] at e
  by_cases q3 : b = a.o
  · rw [if_pos q3] at e; rw [q3, ho]; exact e
  rw [if_neg q3] at e
  by_cases q4 : b = a.p
  · rw [if_pos q4] at e; rw [q4, hp]; exact e
  rw [if_neg q4] at e
  by_cases q5 : b = a.h
  · rw [if_pos q5] at e; rw [q5, hh]; exact e
  rw [if_neg q5] at e
  exact hs b y e
section
variable {C : Cx} (hK : C.K = KK C.w.params)
include hK
theorem MK.at {c f : Addr} (m : MK c f) : makesIn C.K c = true ∧ findIn C.K (.ref c) "__init__" = some (some (.ref f)) ∧ typeIn C.K (.ref f) = some (.type "function") := by
  rw [hK]; exact m _
variable {n : Nat} {σ : Store} {x dx : Addr}
theorem c_code_init {o b : V} (hx : σ x = some (.inst 117 dx)) (hd' : σ dx = some (.ns [])) (hne : x ≠ dx) : Det C (n + 1) σ 107 [.ref x, o, b] .none (σ.set dx (.ns [("ops", o), ("begins", b)])) :=
  fnX ok_Code_init hK fun L hL => A_attr hK (ok_Code_init.plain L) s_Code_ops ⟨rfl, hx, hd', Nat.le_of_ble_eq_true rfl, A_attr hK (ok_Code_init.plain L) s_Code_begins ⟨rfl, set_ne hne hx, set_self, Nat.le_of_ble_eq_true rfl, finE rfl set_set⟩⟩
theorem c_proc_init {o b : V} (hx : σ x = some (.inst 469 dx)) (hd' : σ dx = some (.ns [])) (hne : x ≠ dx) : Det C (n + 1) σ 447 [.ref x, o, b] .none (σ.set dx (.ns [("rows", o), ("using", b)])) :=
  fnX ok_Procedures_init hK fun L hL => A_attr hK (ok_Procedures_init.plain L) s_Procedures_rows ⟨rfl, hx, hd', Nat.le_of_ble_eq_true rfl, A_attr hK (ok_Procedures_init.plain L) s_Procedures_using ⟨rfl, set_ne hne hx, set_self, Nat.le_of_ble_eq_true rfl, finE rfl set_set⟩⟩
theorem c_para_init {o b c : V} (hx : σ x = some (.inst 429 dx)) (hd' : σ dx = some (.ns [])) (hne : x ≠ dx) : Det C (n + 1) σ 419 [.ref x, o, b, c] .none (σ.set dx (.ns [("name", o), ("section", b), ("statements", c)])) :=
  fnX ok_Paragraph_init hK fun L hL => A_attr hK (ok_Paragraph_init.plain L) s_Paragraph_name ⟨rfl, hx, hd', Nat.le_of_ble_eq_true rfl, A_attr hK (ok_Paragraph_init.plain L) s_Paragraph_section ⟨rfl, set_ne hne hx, set_self, Nat.le_of_ble_eq_true rfl,
    A_attr hK (ok_Paragraph_init.plain L) s_Paragraph_statements ⟨rfl, set_ne hne (set_ne hne hx), set_self, Nat.le_of_ble_eq_true rfl, finE rfl (set_set.trans set_set)⟩⟩⟩
theorem c_told {os bs : List V} (hx : σ x = some (.inst 117 dx)) (hd' : σ dx = some (.ns [("ops", .tuple os), ("begins", .tuple bs)])) : Det C (n + 1) σ 114 [.ref x] (.tuple [.tuple os, .tuple bs]) σ :=
  fnX ok_Code_told hK fun L hL => SAtt.at (OA.at hK o_Code_ops) hx hd' (S_tupT (SAtt.at (OA.at hK o_Code_begins) hx hd' (S_tupT fin)))
theorem c_fresh0 {p : Addr} {es : List (Str × V)} {Zs : List V} (hx : σ x = some (.inst 195 dx)) (hd' : σ dx = some (.ns es)) (hp : lkE "places" es = some (.ref p)) (hl : σ p = some (.list Zs)) (hz : Zs.length ≤ 1000) (hxp : x ≠ p) (hdp : dx ≠ p) :
    Det C (n + 1) σ 159 [.ref x] (.int Zs.length) (σ.set p (.list (Zs ++ [.int (-1)]))) :=
  fnX ok_Draft_fresh hK fun L hL => SAtt.at (OA.at hK o_Draft_places) hx hd' (S_append hl (Nat.le_trans hz (by decide)) (SAtt.at (OA.at hK o_Draft_places) (set_ne hxp hx) (set_ne hdp hd')
    (S_lenL set_self (by rw [List.length_append, List.length_singleton]; omega) (finE (congrArg V.int (by rw [List.length_append, List.length_singleton]; omega)) rfl)) hp)) hp
theorem c_draft_init {pr : Addr} {Xs : List V} (hx : σ x = none) (hd' : σ dx = none) (hne : x ≠ dx) (P : ProcsAt σ pr Xs) (hz : Xs.length ≤ 4) :
    TCc C (n + 2) ((σ.set dx (.ns [])).set x (.inst 195 dx)) 152 [.ref x, .ref pr] fun X σ' => X = .none ∧ ∃ o p h, DA.Apart ⟨x, dx, o, p, h, pr⟩ σ ∧ σ' = dst σ ⟨x, dx, o, p, h, pr⟩ Xs.length ⟨[], List.replicate Xs.length (-1), 0⟩ := by
  obtain ⟨dp, rl, ps, h1, h2, h3, hlen, hps⟩ := P
  refine fnXC ok_Draft_init hK (ρ₀ := Loc.none.set "procedures" (.ref pr)) fun L hL hL1 => ?_
  have hE := ok_Draft_init.plain L
  have K0 : Kp σ (((σ.set dx (.ns [])).set x (.inst 195 dx)).set (L + 1) (.cell (some (.ref x)))) [(dx, .ns []), (L + 1, .cell (some (.ref x))), (x, .inst 195 dx)] := Kp.new (Kp.new (Kp.one hd') (set_ne hne hx)) hL1
  generalize ((σ.set dx (.ns [])).set x (.inst 195 dx)).set (L + 1) (.cell (some (.ref x))) = τ0 at K0
  refine A_attr hK hE s_Draft_procedures (SCell.at (K0.at_ (_, _) (.tail _ (.head _))) ⟨rfl, K0.at_ (_, _) (.tail _ (.tail _ (.head _))), K0.at_ (_, _) (.head _), Nat.le_of_ble_eq_true rfl, ?_⟩)
  have K1 := K0.upd0 (z := .ns (putE "procedures" (.ref pr) []))
  refine ⟨fun o ho _ => ?_⟩
  have K2 := K1.new (y := .list []) ho
  refine A_attr hK hE s_Draft_ops (SCell.at (K2.at_ (_, _) (.tail _ (.tail _ (.head _)))) ⟨rfl, K2.at_ (_, _) (.tail _ (.tail _ (.tail _ (.head _)))), K2.at_ (_, _) (.head _), Nat.le_of_ble_eq_true rfl, ?_⟩)
  have K3 := K2.upd0 (z := .ns (putE "ops" (.ref o) (putE "procedures" (.ref pr) [])))
  refine ⟨fun p hp _ => ?_⟩
  have K4 := K3.new (y := .list []) hp
  refine A_attr hK hE s_Draft_places (SCell.at (K4.at_ (_, _) (.tail _ (.tail _ (.tail _ (.head _))))) ⟨rfl, K4.at_ (_, _) (.tail _ (.tail _ (.tail _ (.tail _ (.head _))))), K4.at_ (_, _) (.head _), Nat.le_of_ble_eq_true rfl, ?_⟩)
  have K5 := K4.upd0 (z := .ns (putE "places" (.ref p) (putE "ops" (.ref o) (putE "procedures" (.ref pr) []))))
  refine A_attr hK hE s_Draft_slots (SCell.at (K5.at_ (_, _) (.tail _ (.tail _ (.tail _ (.head _))))) ⟨rfl, K5.at_ (_, _) (.tail _ (.tail _ (.tail _ (.tail _ (.head _))))), K5.at_ (_, _) (.head _), Nat.le_of_ble_eq_true rfl, ?_⟩)
  have K6 := K5.upd0 (z := .ns (putE "slots" (.int 0) (putE "places" (.ref p) (putE "ops" (.ref o) (putE "procedures" (.ref pr) [])))))
  generalize Store.set _ dx (.ns (putE "slots" (.int 0) (putE "places" (.ref p) (putE "ops" (.ref o) (putE "procedures" (.ref pr) []))))) = τ at K6 ⊢
  have R := K6.sub _ _ h3
  have pr' : p ≠ rl := fun e => by have := K6.off _ (.tail _ (.head _)); rw [e, h3] at this; cases this
  refine SAtt.at (OA.at hK o_Procedures_rows) (K6.sub _ _ h1) (K6.sub _ _ h2) (SComp.gen hK (fun Ca => ⟨rfl, rfl, rfl, rfl⟩) (.list R) (by rw [List.length_map, hlen]; omega) (fun i Zs σ' => σ' = (τ.del rl).set p (.list (List.replicate i (.int (-1)))) ∧ Zs = heads i) ⟨?_, rfl⟩ (fun Ca i Y Zs σ' hY j => ?_) (fun h Zs σ' j hh _ => ?_))
  · funext b
    by_cases q : b = p
    · rw [q, set_self, del_ne pr' (K6.at_ _ (.tail _ (.head _)))]; rfl
    · rw [set_ne q rfl]
  · obtain ⟨rfl, rfl⟩ := j
    have hi := (List.getElem?_eq_some_iff.mp hY).1
    rw [List.length_map, hlen] at hi
    have g1 := set_ne (y := .list (List.replicate i (.int (-1)))) ((K6.ne 1 4).symm) (K6.del h3 (.tail _ (.tail _ (.tail _ (.tail _ (.head _))))))
    have g2 := set_ne (y := .list (List.replicate i (.int (-1)))) (K6.ne 0 1) (K6.del h3 (.head _))
    have g3 := set_ne (y := .list (List.replicate i (.int (-1)))) ((K6.ne 1 3).symm) (K6.del h3 (.tail _ (.tail _ (.tail _ (.head _)))))
    refine SCell.at g3 (SMeth.det (.own g1 g2 rfl (MA.at hK a_Draft_fresh)) (c_fresh0 hK g1 g2 rfl set_self (by rw [List.length_replicate]; omega) ((K6.ne 1 4).symm) (K6.ne 0 1)) ⟨?_, ?_⟩)
    · rw [set_set, List.replicate_succ']
    · rw [List.length_replicate, heads, heads, List.range_succ, List.map_append]; rfl
  · obtain ⟨rfl, rfl⟩ := j
    rw [List.length_map, hlen] at hh ⊢
    rw [del_setP R pr'] at hh ⊢
    have K7 := K6.upd1 (z := .list (List.replicate Xs.length (.int (-1))))
    have K8 := K7.new (y := .list (heads Xs.length)) hh
    refine Drop.eq (A_attr hK hE s_Draft_heads (SCell.at (K8.at_ (_, _) (.tail _ (.tail _ (.tail _ (.tail _ (.head _)))))) ⟨rfl, K8.at_ (_, _) (.tail _ (.tail _ (.tail _ (.tail _ (.tail _ (.head _)))))), K8.at_ (_, _) (.head _), Nat.le_of_ble_eq_true rfl, ?_⟩))
    have K9 := K8.upd0 (z := .ns [("procedures", .ref pr), ("ops", .ref o), ("places", .ref p), ("slots", .int 0), ("heads", .ref h)])
    refine ⟨⟨dst σ ⟨x, dx, o, p, h, pr⟩ Xs.length ⟨[], List.replicate Xs.length (-1), 0⟩, dst_le (K9.at_ (_, _) (.tail _ (.tail _ (.tail _ (.tail _ (.tail _ (.head _))))))) (K9.at_ (_, _) (.head _)) (K9.at_ (_, _) (.tail _ (.tail _ (.tail _ (.head _))))) ?_ (K9.at_ (_, _) (.tail _ (.head _))) K9.sub, rfl, o, p, h,
      ⟨(K9.ne 0 5).symm, (K9.ne 3 5).symm, (K9.ne 2 5).symm, (K9.ne 1 5).symm, K9.ne 0 3, K9.ne 0 2, K9.ne 0 1, (K9.ne 2 3).symm, (K9.ne 1 3).symm, (K9.ne 1 2).symm, fun b hb => ?_⟩, rfl⟩⟩
    · rw [List.map_replicate]; exact K9.at_ (_, _) (.tail _ (.tail _ (.head _)))
    · rcases hb with rfl | rfl | rfl | rfl | rfl
      · exact hx
      · exact hd'
      · exact K9.off (_, _) (.tail _ (.tail _ (.tail _ (.head _))))
      · exact K9.off (_, _) (.tail _ (.tail _ (.head _)))
      · exact K9.off (_, _) (.tail _ (.head _))
end
end
section
open PySem PySem.W PySem.Calls PyProof.Rows PySem.Spec
set_option backward.isDefEq.lazyWhnfCore false
noncomputable def Op.labelsIn : Op → List Int
  | .push _ l => lab l
  | .calc _ l => lab l
  | .put _ l => [l]
  | .key _ l => [l]
  | .test _ l => [l]
  | .less _ l => [l]
  | .jump l => [l]
  | .choose ls => ls
  | _ => []
noncomputable def Op.taken : Op → Nat
  | .put .. => 1
  | .choose .. => 1
  | .count .. => 1
  | .calc o _ => if o = "neg" then 1 else 2
  | _ => 0
noncomputable def Op.gives : Op → Nat
  | .push .. => 1
  | .calc .. => 1
  | _ => 0
theorem taken_neg {s : Str} {l : Int} (h : (s == "neg") = true) : (Op.calc s l).taken = 1 := if_pos (eq_of_beq h)
theorem taken_two {s : Str} {l : Int} (h : (s == "neg") = false) : (Op.calc s l).taken = 2 := if_neg (fun e => by rw [e] at h; cases h)
section
variable {C : Cx} {n : Nat} {σ : Store}
theorem finNE {c : Addr} {y y' : AObj} (h : σ c = none) (e : y' = y) : SRet (NewR σ y) (.ref c) (σ.set c y') := e ▸ finN h
theorem S_listT {Xs : List V} {Φ : V → Store → Prop} (hz : Xs.length ≤ 100000) (k : ∀ c, σ c = none → Φ (.ref c) (σ.set c (.list Xs))) : SC C n (.typ "list") [.tuple Xs] Φ σ := ⟨B_listT (Nat.le_trans hz sizeLine_big) k⟩
theorem S_appendC {a : Addr} {Xs : List V} {Y : V} {Φ : V → Store → Prop} (h : σ a = some (.list Xs)) (hz : Xs.length ≤ 100000) (k : Φ .none (σ.set a (.list (Xs ++ [Y])))) : SC C n (.bltn "list.append") [.ref a, Y] Φ σ := ⟨B_append h (Nat.le_trans hz sizeLine_big) k⟩
theorem N_notIn {x : Str} {Ys : List V} {Φ : Bool → Store → Prop} {b c : Bool} {q : (allStr Ys && (strOkL x && (strsOf Ys).all strOkL)) = c} (hx : strOkL x = true) (e : (!(strsOf Ys).any (· == x)) = b) (k : Φ b σ) (h1 : allStr Ys = true := by rfl) (h2 : (strsOf Ys).all strOkL = true := by rfl) : (cNotInT C n x Ys Φ σ c q).p :=
  cNotInT_at C n (e ▸ k) _ q (q.symm.trans (by rw [h1, hx, h2]; rfl))
theorem SComp.fresh {env : Env} {scope : Scope} {cl : List (Str × Addr)} {x : Str} {elt : Expr} {ifs : List Expr} {Φ : V → Store → Prop} {c : Addr} {Ys : List V} (hc : σ c = none) (h : SComp C n env scope cl x elt ifs (.tuple Ys) Φ σ) : SComp C n env scope cl x elt ifs (.ref c) Φ (σ.set c (.list Ys)) := by
  obtain ⟨Ys, σ₂, f, J, S, hz, j0, turn, done⟩ := h.run
  cases S
  have S : Src C (σ.set c (.list Ys)) (.ref c) Ys σ (fun τ => τ.set c (.list Ys)) := by
    have := Src.list (C := C) (σ := σ.set c (.list Ys)) (l := c) set_self
    rwa [set_del hc] at this
  refine ⟨_, σ, _, J, S, hz, j0, fun Ca i Y Zs σ' _ => turn Ca i Y Zs σ' fun _ a b => absurd b a, fun D Zs σ' dd j hl hn hne => ?_⟩
  have n1 := set_none hn
  obtain ⟨σ₁, s1, k⟩ := done D Zs σ' (fun _ a b => absurd b a) j hl n1 hne
  exact ⟨σ₁, fun b y e => set_both (set_sub (dd c (by rw [set_self]; exact fun h => by cases h) hc)) _ _ (s1 b y e), k⟩
theorem cellStore_two {τ : Store} {x y : Str} {c e : Addr} {ρ : Loc} (h : c ≠ e) : cellStore τ [(x, c), (y, e)] ρ = (τ.set e (.cell (ρ y))).set c (.cell (ρ x)) := by
  funext b
  unfold cellStore Store.set
  by_cases q : b = c
  · subst q; simp
  · have h1 : (c == b) = false := by simpa using Ne.symm q
    by_cases q2 : b = e
    · subst q2; simp [h1, q]
    · have h2 : (e == b) = false := by simpa using Ne.symm q2
      simp [h1, h2, q, q2]
theorem fnXC2 {a : Addr} (f : FnAt KK a) {names : List Str} {x y : Str} (hK : C.K = KK C.w.params) {X Y : V} {Xs : List V} {ρ₀ : Loc} {Φ : V → Store → Prop}
    (bind : ∀ vs : List Value, vs.length = names.length → bindArgs f.fd ⟨vs, []⟩ = pure (names.zip vs)) (hxy : x ≠ y)
    (h : ∀ L, σ L = none → σ (L + 1) = none → σ (L + 2) = none → (W C n).ss (callEnvC f.fd L a) ρ₀ f.body (RetN Φ) (RetJ Φ) ((σ.set (L + 1) (.cell (some Y))).set (L + 2) (.cell (some X))))
    (cc : ∀ k, cellsFrom k f.fd.scope.names [] = [(x, k + 1), (y, k)] := by intro _; rfl) (clo : f.fd.closure = [] := by rfl)
    (kind : (names.all fun z => f.fd.scope.names.lookup z == some .local || (f.fd.scope.names.lookup z == some .cell && (z == x || z == y))) = true := by rfl)
    (hρ : ∀ L, Loc.bindsK (callEnvC f.fd L a).kindOf names Xs Loc.none = ρ₀ := by intro _; rfl) (hX : ∀ L, Loc.bindsC (callEnvC f.fd L a).kindOf names Xs Loc.none x = some X := by intro _; rfl) (hY : ∀ L, Loc.bindsC (callEnvC f.fd L a).kindOf names Xs Loc.none y = some Y := by intro _; rfl)
    (hl : names.length = Xs.length := by rfl) (dbg : f.fd.scope.names.lookup ("__debug__" : Str) = none := by rfl) (co : f.fd.scope.isCoroutine = false := by rfl) (gen : f.fd.scope.isGenerator = false := by rfl) (kd : f.fd.scope.kind = .function := by rfl) (gl : f.fd.globals = mainGlobals := by rfl) (bl : f.fd.builtins = builtinsNs := by rfl) : TCc C (n + 1) σ a Xs Φ := by
  refine TC_fnC f names hK hl bind clo (fun k z hz => ?_) (fun k => by rw [cc]; simp [hxy]) rfl (fun L hL hc1 => ?_) co gen kd gl bl
  · have := List.all_eq_true.mp kind z hz
    rw [Bool.or_eq_true, Bool.and_eq_true, Bool.or_eq_true] at this
    rcases this with h1 | ⟨h1, h2⟩
    · exact .inl (beq_iff_eq.mp h1)
    · refine .inr ⟨beq_iff_eq.mp h1, ?_⟩
      rw [cc]
      rcases h2 with h2 | h2 <;> rw [beq_iff_eq.mp h2]
      · simp
      · have : (y == x) = false := by simpa using Ne.symm hxy
        simp [List.lookup_cons, this]
  · rw [cc, cellStore_two (Nat.succ_ne_self _), hρ, hX, hY]
    exact ((W_sound hK).ss (show PlainF (callEnvC f.fd L a) from ⟨kd, gl, bl, dbg⟩) (h L hL (hc1 (L + 1) (Nat.lt_succ_self L)) (hc1 (L + 2) (Nat.lt_succ_of_lt (Nat.lt_succ_self L))))).mono fun _ _ _ h => kJ_ret h
end
section
variable {C : Cx} (hK : C.K = KK C.w.params) {n : Nat} {σ : Store}
include hK
theorem c_taken (o : Op) : Det C (n + 1) σ 340 [o.v] (.int o.taken) σ :=
  fnX ok_taken_by hK fun L hL => by
    cases o with
    | «calc» s l => exact wIf_s (fun h => finE (congrArg (fun k : Nat => V.int k) (taken_neg h).symm) rfl) (fun h => finE (congrArg (fun k : Nat => V.int k) (taken_two h).symm) rfl)
    | _ => exact fin
theorem c_labels_in (o : Op) (hz : o.labelsIn.length ≤ 1000) : TCc C (n + 1) σ 328 [o.v] (NewR σ (.list (o.labelsIn.map V.int))) :=
  fnX ok_labels_in hK fun L hL => by
    cases o with
    | choose ls => exact S_listT (mapl (Nat.le_trans hz (by decide))) fun c hc => finN hc
    | push x l => exact wIf_s (fun h => ⟨fun c hc _ => finNE hc (congrArg (fun ls => AObj.list (ls.map V.int)) (lab_at h).symm)⟩) (fun h => ⟨fun c hc _ => finNE hc (congrArg (fun ls => AObj.list (ls.map V.int)) (lab_no h).symm)⟩)
    | «calc» x l => exact wIf_s (fun h => ⟨fun c hc _ => finNE hc (congrArg (fun ls => AObj.list (ls.map V.int)) (lab_at h).symm)⟩) (fun h => ⟨fun c hc _ => finNE hc (congrArg (fun ls => AObj.list (ls.map V.int)) (lab_no h).symm)⟩)
    | _ => exact ⟨fun c hc _ => finN hc⟩
end
noncomputable def Op.word : Op → Str
  | .push .. => "push"
  | .calc .. => "calc"
  | .put .. => "put"
  | .key .. => "key"
  | .test .. => "test"
  | .less .. => "less"
  | .jump .. => "jump"
  | .choose .. => "choose"
  | .dod .. => "do"
  | .count .. => "count"
  | .perform .. => "perform"
  | .leave .. => "leave"
  | .stop .. => "stop"
noncomputable def Op.rest : Op → List V
  | .push x l => [x, .int l]
  | .calc o l => [.str o, .int l]
  | .put x l => [x, .int l]
  | .key s l => [.str s, .int l]
  | .test x l => [x, .int l]
  | .less s l => [.int s, .int l]
  | .jump l => [.int l]
  | .choose ls => [.tuple (ls.map V.int)]
  | .dod x => [x]
  | .count s => [.int s]
  | .perform a b => [.int a, .int b]
  | .leave a => [.int a]
  | .stop w => [.str w]
theorem Op.v_eq (o : Op) : o.v = .tuple (.str o.word :: o.rest) := by cases o <;> rfl
theorem Op.word_ok (o : Op) : strOkL o.word = true := by cases o <;> rfl
theorem Op.word_gives (o : Op) : (strsOf [.str "push", .str "calc"]).any (· == o.word) = decide (o.gives = 1) := by cases o <;> rfl
theorem Op.word_goes (o : Op) : (!(strsOf [.str "jump", .str "stop"]).any (· == o.word)) = o.goesOn := by cases o <;> rfl
theorem Op.gives_le (o : Op) : o.gives = if o.gives = 1 then 1 else 0 := by cases o <;> rfl
noncomputable def wayOf (o : Op) (b l : Int) : Int × Int := (l, if o.gives = 1 then 0 else b)
noncomputable def waysOf (o : Op) (p b : Int) : List (Int × Int) := (o.labelsIn.map (wayOf o b)) ++ (if o.goesOn then [(p + 1, b)] else [])
noncomputable def pairI (p : Int × Int) : V := .tuple [.int p.1, .int p.2]
theorem take_map {α β : Type} {f : α → β} {l : List α} {i : Nat} {x : α} {y : β} (h : l[i]? = some x) (e : y = f x) : (l.take i).map f ++ [y] = (l.take (i + 1)).map f := by
  rw [List.take_add_one, h, List.map_append, e]; rfl
section
variable {C : Cx} (hK : C.K = KK C.w.params) {n : Nat} {σ : Store}
include hK
theorem c_height (o : Op) (h : Nat) : Det C (n + 2) σ 347 [o.v, .int h] (.int (if h < o.taken then -1 else (h : Int) - o.taken + o.gives)) σ := by
  have ct := c_taken hK (n := n) (σ := σ) o
  rw [Op.v_eq] at ct ⊢
  refine fnX ok_height_behind hK fun L hL => SC.det ct (wIf_s (fun hc => finE ?_ rfl) (fun hc => SC.det ct (wIf_s (fun hg => finE ?_ rfl) (fun hg => finE ?_ rfl)) (Nat.le_refl _))) (Nat.le_refl _)
  · rw [if_pos (by have := of_decide_eq_true hc; omega)]
  · rw [if_neg (by have := of_decide_eq_false hc; omega)]
    have g := of_decide_eq_true ((Op.word_gives o).symm.trans hg)
    rw [g]; rfl
  · rw [if_neg (by have := of_decide_eq_false hc; omega)]
    have g := of_decide_eq_false ((Op.word_gives o).symm.trans hg)
    rw [Op.gives_le, if_neg g]; rfl
theorem c_ways (o : Op) (p b : Int) (hz : o.labelsIn.length ≤ 1000) : TCc C (n + 2) σ 352 [o.v, .int p, .int b] (NewR σ (.list ((waysOf o p b).map pairI))) := by
  refine fnXC2 f_ways_behind (x := "height") (y := "op") (names := ["op", "place", "height"]) hK (ρ₀ := Loc.none.set "place" (.int p)) (len3 fun _ _ _ => rfl) (by decide) fun L hL hL1 hL2 => ?_
  have n2 : (σ.set (L + 1) (.cell (some o.v))) (L + 2) = none := set_ne (Nat.succ_ne_self _) hL2
  have hop : ((σ.set (L + 1) (.cell (some o.v))).set (L + 2) (.cell (some (.int b)))) (L + 1) = some (.cell (some o.v)) := set_at n2 set_self
  have hhe : ((σ.set (L + 1) (.cell (some o.v))).set (L + 2) (.cell (some (.int b)))) (L + 2) = some (.cell (some (.int b))) := set_self
  have hsub := sub_trans (set_sub (y := .cell (some o.v)) hL1) (set_sub (y := .cell (some (.int b))) n2)
  generalize (σ.set (L + 1) (.cell (some o.v))).set (L + 2) (.cell (some (.int b))) = τ at hop hhe hsub
  have cl := c_labels_in hK (n := n) (σ := τ) o hz
  rw [Op.v_eq] at hop cl
  refine SCell.at hop (SC.new cl (fun c0 hc0 => SComp.fresh hc0 (SComp.gen hK (fun Ca => ⟨rfl, rfl, rfl, rfl⟩) (.tup _) (mapl (Nat.le_trans hz (by decide))) (fun i Zs σ' => σ' = τ ∧ Zs = (o.labelsIn.take i).map fun l => pairI (wayOf o b l)) ⟨rfl, rfl⟩ (fun Ca i Y Zs σ' hY j => ?_) (fun D Zs σ' j hD _ => ?_))) (Nat.le_refl _))
  · obtain ⟨rfl, rfl⟩ := j
    rw [List.getElem?_map, Option.map_eq_some_iff] at hY
    obtain ⟨l, hl, rfl⟩ := hY
    refine SCell.at hop (wIf_s (fun hg => ⟨rfl, take_map hl ?_⟩) (fun hg => SCell.at hhe ⟨rfl, take_map hl ?_⟩))
    · rw [wayOf, if_pos (of_decide_eq_true ((Op.word_gives o).symm.trans hg))]; rfl
    · rw [wayOf, if_neg (of_decide_eq_false ((Op.word_gives o).symm.trans hg))]; rfl
  · obtain ⟨rfl, rfl⟩ := j
    rw [List.length_map, List.take_length]
    have hD : σ' D = none := hD
    have s1 := fun y => set_both (y := y) (c := D) hsub
    have nD : σ D = none := by
      cases z : σ D with
      | none => rfl
      | some y => rw [hsub _ _ z] at hD; cases hD
    refine Drop.eq (SCell.at (set_at hD hop) (N_notIn (Op.word_ok o) (Op.word_goes o) (wIf_s (fun hg => ⟨_, .append set_self, SCell.at (set_at hD hhe) (S_appendC set_self (mapl (Nat.le_trans hz (by decide))) ?_)⟩) (fun hg => ?_))))
    · rw [set_set]
      exact ⟨_, s1 _, D, rfl, nD, by rw [waysOf, hg, if_pos rfl, List.map_append, List.map_map]; rfl⟩
    · exact ⟨_, s1 _, D, rfl, nD, by rw [waysOf, hg, if_neg (by decide), List.append_nil, List.map_map]; rfl⟩
end
end
section
open PySem PySem.W PySem.Calls PyProof.Rows PySem.Spec
set_option backward.isDefEq.lazyWhnfCore false
structure Pen where
  cells : List Int
  spot : Nat
  great : Int
structure PA where
  p : Addr
  c : Addr
noncomputable def pst (σ : Store) (a : PA) (P : Pen) : Store := fun b => if b = a.p then some (.list [.ref a.c, .int P.spot, .int P.great]) else if b = a.c then some (.list (P.cells.map V.int)) else σ b
structure PA.Apart (a : PA) (σ : Store) : Prop where
  pc : a.p ≠ a.c
  p : σ a.p = none
  c : σ a.c = none
theorem pst_p {σ : Store} {a : PA} {P : Pen} : pst σ a P a.p = some (.list [.ref a.c, .int P.spot, .int P.great]) := if_pos rfl
theorem pst_c {σ : Store} {a : PA} {P : Pen} (A : a.Apart σ) : pst σ a P a.c = some (.list (P.cells.map V.int)) := (if_neg A.pc.symm).trans (if_pos rfl)
theorem pst_at {σ : Store} {a : PA} {P : Pen} (A : a.Apart σ) {b : Addr} {x : AObj} (e : σ b = some x) : pst σ a P b = some x :=
  (if_neg (fun q => by rw [q, A.p] at e; cases e)).trans ((if_neg (fun q => by rw [q, A.c] at e; cases e)).trans e)
theorem pst_set {σ : Store} {a : PA} {P P' : Pen} (h : P'.cells = P.cells) : (pst σ a P).set a.p (.list [.ref a.c, .int P'.spot, .int P'.great]) = pst σ a P' := by
  funext b
  simp only [Store.set, pst]
  by_cases q : b = a.p
  · simp [q]
  · simp [q, h]
theorem pst_great {σ : Store} {a : PA} {P : Pen} {g : Int} : (pst σ a P).set a.p (.list [.ref a.c, .int P.spot, .int g]) = pst σ a { P with great := g } := pst_set (P' := { P with great := g }) rfl
theorem pst_spot {σ : Store} {a : PA} {P : Pen} : (pst σ a P).set a.p (.list [.ref a.c, .int ((P.spot : Int) + 1), .int P.great]) = pst σ a { P with spot := P.spot + 1 } := pst_set (P' := { P with spot := P.spot + 1 }) rfl
theorem pst_none {σ : Store} {a : PA} {P : Pen} {b : Addr} (h : pst σ a P b = none) : b ≠ a.p ∧ b ≠ a.c ∧ σ b = none := by
  simp only [pst] at h
  split at h
  · cases h
  · split at h
    · cases h
    · rename_i q1 q2; exact ⟨q1, q2, h⟩
theorem pst_new {σ : Store} {a : PA} {P : Pen} {c : Addr} {y : AObj} (h1 : c ≠ a.p) (h2 : c ≠ a.c) : (pst σ a P).set c y = pst (σ.set c y) a P := by
  funext b
  simp only [Store.set, pst]
  by_cases q : b = c
  · subst q; simp [h1, h2]
  · simp [q]
theorem PA.Apart.set {σ : Store} {a : PA} (A : a.Apart σ) {c : Addr} {y : AObj} (h1 : c ≠ a.p) (h2 : c ≠ a.c) : a.Apart (σ.set c y) := ⟨A.pc, set_ne h1.symm A.p, set_ne h2.symm A.c⟩
theorem pst_sub {σ σ' : Store} {a : PA} {P : Pen} (A : a.Apart σ') (h : ∀ b x, σ b = some x → σ' b = some x) : ∀ b x, pst σ a P b = some x → pst σ' a P b = some x := by
  intro b x e
  by_cases q1 : b = a.p
  · subst q1; simp only [pst, if_true] at e ⊢; exact e
  · by_cases q2 : b = a.c
    · subst q2; simp only [pst, if_neg q1, if_true] at e ⊢; exact e
    · simp only [pst, if_neg q1, if_neg q2] at e ⊢; exact h _ _ e
theorem newP {σ : Store} {a : PA} {P : Pen} {c : Addr} {y : AObj} (hc : pst σ a P c = none) (A : a.Apart σ) {Q : Store → Prop}
    (h : ∀ σ1, a.Apart σ1 → σ1 c = some y → (∀ b x, σ b = some x → σ1 b = some x) → Q (pst σ1 a P)) : Q ((pst σ a P).set c y) := by
  have n := pst_none hc
  rw [pst_new n.1 n.2.1]
  exact h _ (A.set n.1 n.2.1) set_self (set_sub n.2.2)
theorem Loc.set_set {ρ : Loc} {x : Str} {X Y : V} : (ρ.set x X).set x Y = ρ.set x Y := by
  funext y
  unfold Loc.set
  by_cases q : y = x
  · rw [if_pos q, if_pos q]
  · rw [if_neg q, if_neg q, if_neg q]
section
variable {C : Cx} {n : Nat} {σ : Store} {a b : Int} {Φ : V → Store → Prop}
theorem S_int (h : Φ (.int a) σ) : SC C n (.typ "int") [.int a] Φ σ := ⟨B_int h⟩
theorem S_abs (h : Φ (.int (if a < 0 then -a else a)) σ) : SC C n (.bltn "abs") [.int a] Φ σ := ⟨B_abs h⟩
theorem S_mod (hb : b ≠ 0) (h : Φ (.int (a.fmod b)) σ) : SO C n (binaryOp .Mod) (.int a) (.int b) Φ σ := ⟨O_mod hb h⟩
theorem S_mul (hm : IntMulOk a b) (h : Φ (.int (a * b)) σ) : SO C n (binaryOp .Mult) (.int a) (.int b) Φ σ := ⟨O_mul hm h⟩
theorem S_fdiv (hb : b ≠ 0) (hn : 51 ≤ n) (h : Φ (.int (a.fdiv b)) σ) : SO C n (binaryOp .FloorDiv) (.int a) (.int b) Φ σ := ⟨O_fdiv hb hn h⟩
theorem S_pow (k : Nat) {x : Int} (hx : x = a ^ k) (h1 : (k : Int) ≤ 1000000) (ha : a.natAbs < 2 ^ 64) (h : Φ (.int x) σ) : SO C n (binaryOp .Pow) (.int a) (.int (Int.ofNat k)) Φ σ := ⟨O_pow (Int.natCast_nonneg k) h1 ha (hx ▸ h)⟩
end
theorem ints_data : ∀ (l : List Int), V.datas 38 (l.map V.int) = true
  | [] => rfl
  | x :: l => by
    simp only [List.map_cons, V.datas, ints_data l, Bool.and_true]
    rfl
theorem bits64 {x : Int} (h : x.natAbs < 2 ^ 63) : Builtin.Int.intBits x ≤ 64 := by
  unfold Builtin.Int.intBits
  split
  · omega
  · rename_i h0
    have hx : x.natAbs ≠ 0 := by simpa using h0
    have := (Nat.log2_lt hx).mpr h
    omega
theorem mulOk {x y : Int} (h : x.natAbs < 2 ^ 63) : IntMulOk x y := IntMulOk.of_left (bits64 h)
theorem mod_in (x : Int) {m : Int} (h : 0 < m) : 0 ≤ x.fmod m ∧ x.fmod m < m := ⟨Int.fmod_nonneg_of_pos x h, Int.fmod_lt_of_pos x h⟩
theorem aName {C : Cx} {n : Nat} {w : Wp C n} {σ : Store} {env : Env} {ρ : Loc} {x : Str} {p : Pos} {X : V} {N : Loc → Store → Prop} (h : N (ρ.set x X) σ) (hk : env.kindOf x = some .local := by rfl) : (wpS C n w).a env ρ (.Name x p) X N σ := by
  exact cAN_at env ρ h _ rfl hk
theorem ssNil {C : Cx} {n : Nat} {w : Wp C n} {σ : Store} {env : Env} {ρ : Loc} {N : Loc → Store → Prop} {J : Fl → Loc → Store → Prop} (h : N ρ σ) : (wpS C n w).ss env ρ [] N J σ := h
theorem A_pen {C : Cx} {n : Nat} {σ : Store} {a : PA} {P P' : Pen} {Y : V} (j : Nat) {env : Env} {ρ : Loc} {o i : Expr} {pos : Pos} {N : Loc → Store → Prop} (hK : C.K = KK C.w.params) (hE : PlainF env) (hj : j < 3) (e : (pst σ a P).set a.p (.list ([.ref a.c, .int P.spot, .int P.great].set j Y)) = pst σ a P')
    (h : (W C n).e env ρ o (fun X => (W C n).e env ρ i (fun I σ₂ => X = .ref a.p ∧ I = .int (Int.ofNat j) ∧ σ₂ = pst σ a P ∧ N ρ (pst σ a P'))) (pst σ a P)) : SAs C n env ρ (.Subscript o i pos) Y N (pst σ a P) :=
  ⟨TA_itemL (((W_sound hK).e hE h).mono fun X σ₁ h => ((W_sound hK).e hE h).mono fun I σ₂ k => ⟨a.p, (j : Nat), [.ref a.c, .int P.spot, .int P.great], k.1, k.2.1, k.2.2.1 ▸ pst_p, Int.natCast_nonneg j, Int.lt_trans (Int.ofNat_lt.mpr hj) (by decide), Int.ofNat_lt.mpr hj, by
    rw [k.2.2.1, Int.toNat_natCast, e]; exact k.2.2.2⟩)⟩
theorem eqv_cells {l : List Int} : (!(PyData.list (V.pys (l.map V.int))).eqv (.list (V.pys []))) = !l.isEmpty := by
  cases l <;> rfl
noncomputable abbrev Wk (C : Cx) (n k : Nat) : Wp C n := wp C n (k + 60)
section
variable {C : Cx} (hK : C.K = KK C.w.params) {n k spot : Nat} {σ : Store} {L : Addr} {many z : Int} {a : PA} {P : Pen} {N : Loc → Store → Prop} {J : Fl → Loc → Store → Prop}
noncomputable abbrev drawL (a : PA) (many z : Int) (spot : Nat) : Loc := ((Loc.binds ["pen", "many"] [.ref a.p, .int many] Loc.none).set "spot" (.int spot)).set "cell" (.int z)
theorem sp_le (hs : spot ≤ 20000) : 0 ≤ (spot : Int) * spot ∧ (spot : Int) * spot ≤ 400000000 :=
  ⟨Int.mul_nonneg (Int.natCast_nonneg _) (Int.natCast_nonneg _), Int.le_trans (Int.mul_le_mul (b := (spot : Int)) (Int.ofNat_le.mpr hs) (Int.ofNat_le.mpr hs) (Int.natCast_nonneg _) (by decide)) (by decide)⟩
theorem ch_le {c s : Int} (h : 0 ≤ c ∧ c < 2147483629) (h0 : 0 ≤ s) (hs : s ≤ 20000) : 0 ≤ c * (2 * s + 3011) ∧ c * (2 * s + 3011) ≤ 92365418768719 :=
  ⟨Int.mul_nonneg h.1 (by omega), Int.le_trans (Int.mul_le_mul (show c ≤ 2147483629 by omega) (show 2 * s + 3011 ≤ 43011 by omega) (by omega) (by omega)) (by decide)⟩
theorem pow5_in {c s : Int} (h : 0 ≤ c ∧ c < 2147483587) (h0 : 0 ≤ s) (hs : s ≤ 20000) : (c + 80117 * s + 6007).natAbs < 2 ^ 64 := by omega
theorem pow3_in {c s : Int} (h : 0 ≤ c ∧ c ≤ 92365418768719) (hs : 0 ≤ s * s ∧ s * s ≤ 400000000) : (c + 701 * s * s + 37).natAbs < 2 ^ 64 := by
  rw [Int.mul_assoc 701]
  generalize s * s = q at hs
  omega
theorem small_in {c b : Int} (h : 0 ≤ c ∧ c ≤ b) (hb : b < 2 ^ 63) : c.natAbs < 2 ^ 63 := by omega
theorem sp7_in {s : Int} (h0 : 0 ≤ s) (hs : s ≤ 20000) : (701 * s).natAbs < 2 ^ 63 := by omega
theorem draw_tail (hm : 0 < many) (hs : spot ≤ 20000) (h : ∀ d : Int, 0 ≤ d ∧ d < many → ∀ ρ', J (.ret (.int d)) ρ' σ) : (Wk C (n + 59) k).ss (callEnv f_law_draw.fd L 485) (drawL a many z spot) (f_law_draw.body.drop 6) N J σ :=
  have s0 : (0 : Int) ≤ spot := Int.natCast_nonneg _
  have s1 : (spot : Int) ≤ 20000 := Int.ofNat_le.mpr hs
  S_int (S_mod (by decide) (S_mul (mulOk (by decide)) (S_pow 5 rfl (by decide) (pow5_in (mod_in _ (by decide)) s0 s1) (S_int (S_mod (by decide) (S_mul (mulOk (by decide)) (S_mul (mulOk (small_in ⟨(mod_in _ (by decide)).1, Int.le_of_lt (mod_in _ (by decide)).2⟩ (by decide))) (S_mul (mulOk (by decide)) (S_mul (mulOk (sp7_in s0 s1)) (S_pow 3 rfl (by decide) (pow3_in (ch_le (mod_in _ (by decide)) s0 s1) (sp_le hs))
    (S_int (S_mod (by decide) (S_fdiv (by decide) (Nat.le_add_left 51 (n + 8)) (S_int (S_mod (Int.ne_of_gt hm) (h _ (mod_in _ hm) _))))))))))))))))
include hK
theorem draw_mid (A : a.Apart σ) (hm : 0 < many) (hs : spot ≤ 20000) (hc : P.cells.length ≤ 63) (h : ∀ d : Int, 0 ≤ d ∧ d < many → ∀ ρ' g, J (.ret (.int d)) ρ' (pst σ a { P with great := g })) :
    (Wk C (n + 59) (k + 20)).ss (callEnv f_law_draw.fd L 485) (drawL a many z spot) (f_law_draw.body.drop 5) N J (pst σ a P) := by
  have tail := fun (k : Nat) => draw_tail (C := C) (n := n) (k := k) (L := L) (z := z) (a := a) (N := N) (J := J) (σ := pst σ a P) hm hs (fun d hd ρ' => h d hd ρ' P.great)
  refine I_list0 pst_p (S_lenL (pst_c A) (mapl (Nat.le_trans hc (by decide))) (wIf_s (fun _ => S_abs (S_pow 18 rfl (by decide) (by decide) (wIf_s (fun _ => ?_) (fun _ => wIf_f rfl (ssNil (tail (k + 19))))))) (fun _ => wIf_f rfl (ssNil (tail (k + 19))))))
  exact S_abs (S_pow 18 rfl (by decide) (by decide) (S_int (S_fdiv (Int.ne_of_gt hm) (Nat.le_add_left 51 (n + 8)) (A_pen 2 hK ⟨rfl, rfl, rfl, rfl⟩ (by decide) pst_great ⟨rfl, rfl, rfl, S_int (S_mod (Int.ne_of_gt hm) (h _ (mod_in _ hm) _ _))⟩))))
theorem draw_great (A : a.Apart σ) (hm : 0 < many) (hg : 0 < P.great) : TCc C (n + 60) (pst σ a P) 485 [.ref a.p, .int many] fun X σ' => ∃ d : Int, X = .int d ∧ (0 ≤ d ∧ d < many) ∧ ∃ g, σ' = pst σ a { P with great := g } :=
  fnX ok_law_draw hK fun L hL => I_list pst_p rfl (Nat.le_of_ble_eq_true rfl) (wIf_t (decide_eq_true hg) (I_list pst_p rfl (Nat.le_of_ble_eq_true rfl) (S_int (S_mod (Int.ne_of_gt hm) (I_list pst_p rfl (Nat.le_of_ble_eq_true rfl) (S_int (S_fdiv (Int.ne_of_gt hm) (Nat.le_add_left 51 (n + 8)) (A_pen 2 hK (ok_law_draw.plain L) (by decide) pst_great ⟨rfl, rfl, rfl, ⟨Drop.eq ⟨_, rfl, mod_in _ hm, _, rfl⟩⟩⟩))))))))
theorem draw_small (A : a.Apart σ) (hm : 0 < many) (hg : P.great ≤ 0) (hs : P.spot ≤ 20000) (hc : P.cells.length ≤ 63) :
    TCc C (n + 60) (pst σ a P) 485 [.ref a.p, .int many] fun X σ' => ∃ d : Int, X = .int d ∧ (0 ≤ d ∧ d < many) ∧ ∃ g, σ' = pst σ a { P with spot := P.spot + 1, great := g } := by
  refine fnX ok_law_draw hK fun L hL => I_list pst_p rfl (Nat.le_of_ble_eq_true rfl) (wIf_f (decide_eq_false (Int.not_lt.mpr hg)) (I_list pst_p rfl (Nat.le_of_ble_eq_true rfl) (A_pen 1 hK (ok_law_draw.plain L) (by decide) pst_spot ⟨rfl, rfl, rfl, I_list0 pst_p ⟨fun c1 hc1 _ => newP hc1 A fun σ1 A1 hl1 hsub => ?_⟩⟩)))
  have fin : ∀ d : Int, 0 ≤ d ∧ d < many → ∀ (ρ' : Loc) g, RetJ (fun X σ' => ∃ d : Int, X = .int d ∧ (0 ≤ d ∧ d < many) ∧ ∃ g, σ' = pst σ a { P with spot := P.spot + 1, great := g }) (.ret (.int d)) ρ' (pst σ1 a { P with spot := P.spot + 1, great := g }) :=
    fun d hd ρ' g => ⟨_, pst_sub A1 hsub, d, rfl, hd, g, rfl⟩
  refine ⟨O_neL (pst_c A1) (pst_at A1 hl1) (ints_data _) rfl ⟨_, rfl, wIf_s (fun hb => ?_) (fun hb => ssNil (draw_mid (k := 9914) hK (P := { P with spot := P.spot + 1 }) (z := 0) A1 hm hs hc fin))⟩⟩
  have hb := (eqv_cells (l := P.cells)).symm.trans hb
  have hlen : 0 < P.cells.length := by
    cases h : P.cells with
    | nil => rw [h] at hb; cases hb
    | cons x l => exact Nat.succ_pos _
  have hne : ((P.cells.map V.int).length : Int) ≠ 0 := by rw [List.length_map]; omega
  have m := mod_in (P.spot : Int) (m := (P.cells.length : Int)) (by omega)
  obtain ⟨j, hj⟩ : ∃ j : Nat, (P.spot : Int).fmod (P.cells.length : Int) = (j : Int) := ⟨_, (Int.toNat_of_nonneg m.1).symm⟩
  obtain ⟨z, hz⟩ : ∃ z, P.cells[j]? = some z := ⟨_, List.getElem?_eq_getElem (by omega)⟩
  refine I_list0 pst_p (S_int (I_list0 pst_p (S_lenL (pst_c A1) (mapl (Nat.le_trans hc (by decide))) (S_mod hne (I_listE (j := j) (by rw [List.length_map]; exact hj) (pst_c A1) (by rw [List.getElem?_map, hz]; rfl) (mapl (Nat.le_trans hc (by decide))) ?_)))))
  refine aName (ssNil ?_)
  rw [Loc.set_set]
  exact draw_mid (k := 9914) hK (P := { P with spot := P.spot + 1 }) (z := z) A1 hm hs hc fin
end
end
section
open PySem PySem.W PySem.Calls PyProof.Rows PySem.Spec
set_option backward.isDefEq.lazyWhnfCore false
noncomputable def Pen.Fit (k : Nat) (P : Pen) : Prop := P.cells.length ≤ 63 ∧ P.spot + k ≤ 20000
theorem Pen.Fit.less {k j : Nat} {P : Pen} (h : P.Fit k) (hj : j ≤ k) : P.Fit j := ⟨h.1, Nat.le_trans (Nat.add_le_add_left hj _) h.2⟩
theorem Pen.Fit.split {a b j : Nat} {P : Pen} (h : P.Fit (a + b + j)) : P.Fit (a + (b + j)) := Nat.add_assoc a b j ▸ h
noncomputable def Gen (C : Cx) (n k : Nat) (Fn : Addr) (args : List V) (Good : V → Prop) : Prop :=
  ∀ σ a P j, a.Apart σ → P.Fit (k + j) → TCc C n (pst σ a P) Fn (.ref a.p :: args) fun X σ' => Good X ∧ ∃ P' : Pen, P'.Fit j ∧ σ' = pst σ a P'
theorem SC.gen {C : Cx} {n m k j : Nat} {Fn : Addr} {args : List V} {Good : V → Prop} {σ : Store} {a : PA} {P : Pen} {Φ : V → Store → Prop} (G : Gen C m k Fn args Good) (A : a.Apart σ) (hf : P.Fit (k + j))
    (h : ∀ X P', Good X → P'.Fit j → Φ X (pst σ a P')) (hm : m ≤ n) : SC C n (.ref Fn) (.ref a.p :: args) Φ (pst σ a P) :=
  SC.use (G σ a P j A hf) (fun X σ' q => q.2.elim fun P' r => r.2 ▸ h X P' q.1 r.1) hm
mutual
theorem V.data_mono : ∀ (d e : Nat) (x : V), d ≤ e → x.data d = true → x.data e = true
  | _, e, .none, _, _ => by cases e <;> rfl
  | _, e, .bool _, _, _ => by cases e <;> rfl
  | _, e, .int _, _, _ => by cases e <;> rfl
  | d, e, .str x, _, h => by cases d <;> cases e <;> exact h
  | 0, _, .tuple _, _, h => by simp [V.data] at h
  | d + 1, 0, .tuple xs, hd, h => by omega
  | d + 1, e + 1, .tuple xs, hd, h => by
    simp only [V.data] at h ⊢
    exact V.datas_mono d e xs (by omega) h
  | d, _, .ref _, _, h => by cases d <;> simp [V.data] at h
  | d, _, .bltn _, _, h => by cases d <;> simp [V.data] at h
  | d, _, .typ _, _, h => by cases d <;> simp [V.data] at h
theorem V.datas_mono : ∀ (d e : Nat) (xs : List V), d ≤ e → V.datas d xs = true → V.datas e xs = true
  | _, _, [], _, _ => by simp [V.datas]
  | d, e, x :: xs, hd, h => by
    simp only [V.datas, Bool.and_eq_true] at h ⊢
    exact ⟨V.data_mono d e x hd h.1, V.datas_mono d e xs hd h.2⟩
end
theorem V.datas_all {d : Nat} : ∀ {xs : List V}, (∀ x ∈ xs, x.data d = true) → V.datas d xs = true
  | [], _ => by simp [V.datas]
  | x :: xs, h => by simp only [V.datas, Bool.and_eq_true]; exact ⟨h x (.head _), V.datas_all fun y hy => h y (.tail _ hy)⟩
theorem V.data_tup {d : Nat} {xs : List V} (h : V.datas d xs = true) : (V.tuple xs).data (d + 1) = true := by
  simp only [V.data]; exact h
theorem V.datas_cons {d : Nat} {x : V} {xs : List V} (h : x.data d = true) (k : V.datas d xs = true) : V.datas d (x :: xs) = true := by
  simp only [V.datas, Bool.and_eq_true]; exact ⟨h, k⟩
theorem V.datas_nil {d : Nat} : V.datas d [] = true := by simp [V.datas]
theorem str_data {s : Str} (h : PyData.strOk s = true) (d : Nat) : (V.str s).data d = true := by cases d <;> exact h
noncomputable def IsRef (X : V) : Prop := ∃ s : Str, (s = "A" ∨ s = "B") ∧ X = .tuple [.str "ref", .str s, .tuple [], .tuple [], .none]
theorem IsRef.data {X : V} (h : IsRef X) : X.data 2 = true := by
  obtain ⟨s, h, rfl⟩ := h
  rcases h with rfl | rfl <;> decide +kernel
theorem dfl_decimal : ∃ t n, ∀ P, (KK P).lookup 313 = some { cls := .type "tuple", dict := none, data := .seq #[.int 0 t] n, slots := #[] } := ⟨_, _, fun P => rfl⟩
theorem bind_decimal {t : Tok} {n : Nat} {s : Shared} (h : s.heap.get? 313 = some { cls := .type "tuple", dict := none, data := .seq #[.int 0 t] n, slots := #[] }) (vs : List Value) (hv : vs.length = 1) : BindsTo s f_decimal.fd ⟨vs, []⟩ ((["units", "scale"] : List Str).zip (vs ++ [.int 0 t])) :=
  len1 (P := fun vs => BindsTo s f_decimal.fd ⟨vs, []⟩ ((["units", "scale"] : List Str).zip (vs ++ [.int 0 t]))) (fun v => BindsTo.of_defaults rfl h rfl rfl rfl) vs hv
theorem pick2 {σ : Store} {d : Int} {X Y : V} {Φ : V → Store → Prop} (h : 0 ≤ d ∧ d < 2) (p0 : Φ X σ) (p1 : Φ Y σ) : SPick [X, Y] d Φ σ := by
  rcases (show d = 0 ∨ d = 1 from by omega) with rfl | rfl
  · exact ⟨by decide, by decide, X, rfl, p0⟩
  · exact ⟨by decide, by decide, Y, rfl, p1⟩
theorem pick4 {σ : Store} {d : Int} {X Y Z U : V} {Φ : V → Store → Prop} (h : 0 ≤ d ∧ d < 4) (p0 : Φ X σ) (p1 : Φ Y σ) (p2 : Φ Z σ) (p3 : Φ U σ) : SPick [X, Y, Z, U] d Φ σ := by
  rcases (show d = 0 ∨ d = 1 ∨ d = 2 ∨ d = 3 from by omega) with rfl | rfl | rfl | rfl
  · exact ⟨by decide, by decide, X, rfl, p0⟩
  · exact ⟨by decide, by decide, Y, rfl, p1⟩
  · exact ⟨by decide, by decide, Z, rfl, p2⟩
  · exact ⟨by decide, by decide, U, rfl, p3⟩
section
variable {C : Cx} (hK : C.K = KK C.w.params)
include hK
theorem c_draw (many : Int) (hm : 0 < many) : Gen C 60 1 485 [.int many] fun X => ∃ d : Int, X = .int d ∧ (0 ≤ d ∧ d < many) := fun σ a P j A hf => by
  by_cases hg : 0 < P.great
  · exact (draw_great (n := 0) hK A hm hg).mono fun X σ' q => q.elim fun d r => ⟨⟨d, r.1, r.2.1⟩, r.2.2.elim fun g e => ⟨{ P with great := g }, hf.less (Nat.le_add_left j 1), e⟩⟩
  · refine (draw_small (n := 0) hK A hm (Int.not_lt.mp hg) (Nat.le_trans (Nat.le_add_right _ _) hf.2) hf.1).mono fun X σ' q => q.elim fun d r => ⟨⟨d, r.1, r.2.1⟩, r.2.2.elim fun g e => ⟨{ P with spot := P.spot + 1, great := g }, ⟨hf.1, ?_⟩, e⟩⟩
    exact Nat.add_assoc P.spot 1 j ▸ hf.2
theorem S_draw {n j : Nat} {many : Int} {σ : Store} {a : PA} {P : Pen} {Φ : V → Store → Prop} (hm : 0 < many) (A : a.Apart σ) (hf : P.Fit (1 + j)) (h : ∀ d : Int, 0 ≤ d ∧ d < many → ∀ P' : Pen, P'.Fit j → Φ (.int d) (pst σ a P')) (hn : 60 ≤ n) : SC C n (.ref 485) [.ref a.p, .int many] Φ (pst σ a P) :=
  SC.gen (c_draw hK many hm) A hf (fun X P' q f => q.elim fun d r => r.1 ▸ h d r.2 P' f) hn
theorem c_ref : Gen C 61 1 492 [] IsRef := fun σ a P j A hf =>
  fnX ok_law_ref hK fun L hL => S_draw hK (by decide) A hf (fun d hd P' f => pick2 hd ⟨Drop.eq ⟨⟨_, .inl rfl, rfl⟩, P', f, rfl⟩⟩ ⟨Drop.eq ⟨⟨_, .inr rfl, rfl⟩, P', f, rfl⟩⟩) (Nat.le_refl _)
theorem c_decimal {n : Nat} {σ : Store} (u : Int) : Det C (n + 1) σ 320 [.int u] (.tuple [.int u, .int 0]) σ := by
  obtain ⟨t, k, ht⟩ := dfl_decimal
  refine TC_def (names := ["units", "scale"]) (Ds := [.int 0]) (ds := [.int 0 t]) (fd := f_decimal.fd) (by rw [hK]; exact f_decimal.at_ _) (by rw [hK]; exact f_decimal.code _) f_decimal.bod (.cons (.int 0 t) .nil) rfl
    (fun s hs vs hv => bind_decimal (hs 313 _ (by rw [hK]; exact ht _)) vs hv) (by decide +kernel) (by decide +kernel) fun L hL => ((W_sound hK).ss (show PlainF (callEnv f_decimal.fd L 320) from ⟨rfl, rfl, rfl, rfl⟩) (N := RetN (DetK _ σ)) (J := RetJ (DetK _ σ)) ?_).mono fun _ _ _ h => kJ_ret h
  refine ⟨TS_while (fun k ρ' σ' => ρ' = Loc.binds ["units", "scale"] [.int u, .int 0] Loc.none ∧ σ' = σ) 0 ⟨rfl, rfl⟩ fun k ρ' σ' q => ?_⟩
  obtain ⟨rfl, rfl⟩ := q
  refine TB.mono (Φ := fun b σ₁ => b = false ∧ σ₁ = σ') ((W_sound hK).b (show PlainF (callEnv f_decimal.fd L 320) from ⟨rfl, rfl, rfl, rfl⟩) ?_) fun b σ₁ q => ?_
  · exact ⟨rfl, rfl⟩
  · rw [q.1, q.2]; exact fin
end
end
section
open PySem PySem.W PySem.Calls PyProof.Rows PySem.Spec
noncomputable def hstep (o : Op) (h : Nat) : Option Nat :=
  if o.gives = 1 then (if o.taken ≤ h then some (h - o.taken + 1) else none) else if h = o.taken then some 0 else none
noncomputable def hrun (os : List Op) (h : Nat) : Option Nat := os.foldl (fun r o => r.bind (hstep o)) (some h)
theorem hrun_none : ∀ os : List Op, os.foldl (fun r o => r.bind (hstep o)) none = none
  | [] => rfl
  | _ :: r => hrun_none r
theorem hrun_cons {o : Op} {r : List Op} {h k : Nat} (e : hstep o h = some k) : hrun (o :: r) h = hrun r k := congrArg (fun z => List.foldl _ z r) e
theorem hrun_bad {o : Op} {r : List Op} {h : Nat} (e : hstep o h = none) : hrun (o :: r) h = none := by
  show List.foldl _ (hstep o h) r = none
  rw [e]; exact hrun_none r
theorem hrun_at {a b : List Op} {h k : Nat} (e : hrun a h = some k) : hrun (a ++ b) h = hrun b k := (List.foldl_append ..).trans (congrArg (fun z => List.foldl _ z b) e)
theorem hrun_one {o : Op} {h k : Nat} (e : hstep o h = some k) : hrun [o] h = some k := hrun_cons e
noncomputable def signs : List Str := ["+", "-", "*", "/", "neg"]
noncomputable def Op.ok (cnt : Nat) (L : Int → Prop) : Op → Prop
  | .push x l => x.data 24 = true ∧ (l = -1 ∨ L l)
  | .calc o l => o ∈ signs ∧ (l = -1 ∨ L l)
  | .put x l => x.data 24 = true ∧ L l
  | .key s l => PyData.strOk s = true ∧ L l
  | .test x l => x.data 24 = true ∧ L l
  | .less _ l => L l
  | .jump l => L l
  | .choose ls => ls.length ≤ 3 ∧ ∀ l ∈ ls, L l
  | .dod x => x.data 24 = true
  | .count _ => True
  | .perform a b => 0 ≤ a ∧ a < cnt ∧ 0 ≤ b ∧ b < cnt
  | .leave _ => False
  | .stop w => w = "stop" ∨ w = "exit"
theorem Op.ok_mono {cnt : Nat} {L M : Int → Prop} (h : ∀ x, L x → M x) {o : Op} (k : o.ok cnt L) : o.ok cnt M := by
  cases o with
  | push x l => exact ⟨k.1, k.2.imp id (h l)⟩
  | «calc» x l => exact ⟨k.1, k.2.imp id (h l)⟩
  | put x l => exact ⟨k.1, h l k.2⟩
  | key x l => exact ⟨k.1, h l k.2⟩
  | test x l => exact ⟨k.1, h l k.2⟩
  | less x l => exact h l k
  | jump l => exact h l k
  | choose ls => exact ⟨k.1, fun l hl => h l (k.2 l hl)⟩
  | dod x => exact k
  | count x => exact k
  | perform a b => exact k
  | leave a => exact k
  | stop w => exact k
noncomputable def noS : Nat → Prop := fun _ => False
structure Pc (cnt : Nat) (out : Int → Prop) (K P : Nat → Prop) (d e : D) : Prop where
  len : d.places.length ≤ e.places.length
  kn : ∀ l, K l → d.places.length ≤ l ∧ l < e.places.length
  old : ∀ l, l < d.places.length → e.places[l]? = d.places[l]?
  new : ∃ ns, e.ops = d.ops ++ ns ∧ hrun ns 0 = some 0 ∧ (∀ o ∈ ns, o.ok cnt fun x => out x ∨ ∃ l : Nat, (d.places.length ≤ l ∧ l < e.places.length) ∧ x = l) ∧
    ∀ l, d.places.length ≤ l → l < e.places.length → P l ∨ ∃ j, j ≤ ns.length ∧ e.places[l]? = some ((d.ops.length + j : Nat) : Int) ∧ hrun (ns.take j) 0 = some 0
noncomputable def Kn (out : Int → Prop) (K : Nat → Prop) (x : Int) : Prop := out x ∨ ∃ l : Nat, K l ∧ x = l
section
variable {cnt : Nat} {out out₂ : Int → Prop} {K K₂ P P₂ : Nat → Prop} {d e f : D}
theorem Kn.self {l : Int} : Kn (fun x => x = l) K l := .inl rfl
theorem Kn.at {l : Nat} (h : K l) : Kn out K (l : Int) := .inr ⟨l, h, rfl⟩
theorem Pc.refl : Pc cnt out noS noS d d := ⟨Nat.le_refl _, fun _ h => h.elim, fun _ _ => rfl, [], (List.append_nil _).symm, rfl, (fun _ h => by cases h), fun l a b => absurd b (Nat.not_lt.mpr a)⟩
theorem Pc.done (E : Pc cnt out K P d e) : Pc cnt out noS P d e := ⟨E.len, fun _ h => h.elim, E.old, E.new⟩
theorem Pc.then (E : Pc cnt out K P d e) (F : Pc cnt out₂ K₂ noS e f) (h : ∀ x, out₂ x → Kn out K x) : Pc cnt out K P d f := by
  obtain ⟨ns, a, b, c, p⟩ := E.new
  obtain ⟨ms, a2, b2, c2, p2⟩ := F.new
  refine ⟨Nat.le_trans E.len F.len, fun l k => ⟨(E.kn l k).1, Nat.lt_of_lt_of_le (E.kn l k).2 F.len⟩, fun l k => (F.old l (Nat.lt_of_lt_of_le k E.len)).trans (E.old l k), ns ++ ms, by rw [a2, a, List.append_assoc], (hrun_at b).trans b2, fun o ho => ?_, fun l k1 k2 => ?_⟩
  · rcases List.mem_append.mp ho with ho | ho
    · exact Op.ok_mono (fun x hx => hx.imp id fun ⟨l, q, r⟩ => ⟨l, ⟨q.1, Nat.lt_of_lt_of_le q.2 F.len⟩, r⟩) (c o ho)
    · refine Op.ok_mono (fun x hx => ?_) (c2 o ho)
      rcases hx with hx | ⟨l, q, r⟩
      · exact (h x hx).imp id fun ⟨l, q, r⟩ => ⟨l, ⟨(E.kn l q).1, Nat.lt_of_lt_of_le (E.kn l q).2 F.len⟩, r⟩
      · exact .inr ⟨l, ⟨Nat.le_trans E.len q.1, q.2⟩, r⟩
  · rcases Nat.lt_or_ge l e.places.length with q | q
    · refine (p l k1 q).imp id fun ⟨j, h1, h2, h3⟩ => ⟨j, Nat.le_trans h1 (by rw [List.length_append]; exact Nat.le_add_right _ _), (F.old l q).trans h2, ?_⟩
      rw [List.take_append_of_le_length h1]; exact h3
    · refine (p2 l q k2).elim (fun z => z.elim) fun ⟨j, h1, h2, h3⟩ => .inr ⟨ns.length + j, by rw [List.length_append]; exact Nat.add_le_add_left h1 _, ?_, ?_⟩
      · rw [h2, a, List.length_append, Nat.add_assoc]
      · rw [List.take_length_add_append]; exact (hrun_at b).trans h3
theorem Pc.ap {ns : List Op} (E : Pc cnt out K P d e) (h : hrun ns 0 = some 0) (k : ∀ o ∈ ns, o.ok cnt (Kn out K)) : Pc cnt out K P d (e.app ns) :=
  E.then (out₂ := Kn out K) (K₂ := noS) ⟨Nat.le_refl _, fun _ h => h.elim, fun _ _ => rfl, ns, rfl, h, fun o ho => Op.ok_mono (fun _ => .inl) (k o ho), fun l a b => absurd b (Nat.not_lt.mpr a)⟩ fun _ h => h
theorem Pc.pt {o : Op} (E : Pc cnt out K P d e) (h : hstep o 0 = some 0) (k : o.ok cnt (Kn out K)) : Pc cnt out K P d (e.put o) :=
  E.ap (ns := [o]) (hrun_one h) fun p hp => List.mem_singleton.mp hp ▸ k
theorem Pc.sl (E : Pc cnt out K P d e) : Pc cnt out K P d e.slot := ⟨E.len, E.kn, E.old, E.new⟩
theorem Pc.frN {c m : Nat} (E : Pc cnt out K P d e) (hc : e.places.length = c) (e' : D) (hp : e'.places = e.places ++ List.replicate m (-1)) (ho : e'.ops = e.ops) : Pc cnt out (fun l => (c ≤ l ∧ l < c + m) ∨ K l) (fun l => (c ≤ l ∧ l < c + m) ∨ P l) d e' := by
  subst hc
  have hl : e'.places.length = e.places.length + m := by rw [hp, List.length_append, List.length_replicate]
  have le : e.places.length ≤ e'.places.length := hl ▸ Nat.le_add_right _ _
  have at_ : ∀ l, l < e.places.length → e'.places[l]? = e.places[l]? := fun l h => by rw [hp, List.getElem?_append_left h]
  obtain ⟨ns, a, b, c, p⟩ := E.new
  refine ⟨Nat.le_trans E.len le, fun l k => ?_, fun l k => (at_ l (Nat.lt_of_lt_of_le k E.len)).trans (E.old l k), ns, ho.trans a, b, fun o h => Op.ok_mono (fun x hx => hx.imp id fun ⟨l, q, r⟩ => ⟨l, ⟨q.1, Nat.lt_of_lt_of_le q.2 le⟩, r⟩) (c o h), fun l k1 k2 => ?_⟩
  · rcases k with k | k
    · exact ⟨Nat.le_trans E.len k.1, hl ▸ k.2⟩
    · exact ⟨(E.kn l k).1, Nat.lt_of_lt_of_le (E.kn l k).2 le⟩
  · rcases Nat.lt_or_ge l e.places.length with q | q
    · exact (p l k1 q).imp .inr fun ⟨j, h1, h2, h3⟩ => ⟨j, h1, (at_ l q).trans h2, h3⟩
    · exact .inl (.inl ⟨q, hl ▸ k2⟩)
theorem Pc.fr (E : Pc cnt out K P d e) : Pc cnt out (fun l => l = e.places.length ∨ K l) (fun l => l = e.places.length ∨ P l) d e.fresh := by
  have := E.frN (m := 1) rfl e.fresh rfl rfl
  have one : ∀ l, (e.places.length ≤ l ∧ l < e.places.length + 1) ↔ l = e.places.length := fun l => by omega
  simp only [one] at this
  exact this
theorem Pc.hr {l : Nat} (E : Pc cnt out K P d e) (k : K l) (h : ∀ x, P x → x = l ∨ P₂ x) : Pc cnt out K P₂ d (e.here l) := by
  obtain ⟨ns, a, b, c, p⟩ := E.new
  have el : (e.here l).places.length = e.places.length := len_here
  have kl := E.kn l k
  refine ⟨el ▸ E.len, fun x q => el ▸ E.kn x q, fun x q => ?_, ns, a, b, by rw [el]; exact c, fun x q1 q2 => ?_⟩
  · rw [D.here, List.getElem?_set_ne (Nat.ne_of_gt (Nat.lt_of_lt_of_le q kl.1))]; exact E.old x q
  · rw [el] at q2
    by_cases q : l = x
    · subst q
      refine .inr ⟨ns.length, Nat.le_refl _, ?_, by rw [List.take_length]; exact b⟩
      rw [D.here, List.getElem?_set_self kl.2, a, List.length_append]
    · refine (p x q1 q2).imp (fun z => (h x z).resolve_left (Ne.symm q)) fun ⟨j, h1, h2, h3⟩ => ⟨j, h1, ?_, h3⟩
      rw [D.here, List.getElem?_set_ne q]; exact h2
end
noncomputable def heads0 (cnt : Nat) : Int → Prop := fun x => 0 ≤ x ∧ x < cnt
noncomputable def NiceS (cnt : Nat) (f : D → D) : Prop := ∀ d, cnt ≤ d.places.length → Pc cnt (heads0 cnt) noS noS d (f d)
noncomputable def NiceC (cnt : Nat) (f : Bool → Int → D → D) : Prop := ∀ w l d, Pc cnt (· = l) noS noS d (f w l d)
noncomputable def NiceE (cnt : Nat) (code : Int → List Op) : Prop := ∀ l, (∀ h, hrun (code l) h = some (h + 1)) ∧ ∀ L : Int → Prop, (l = -1 ∨ L l) → ∀ o ∈ code l, o.ok cnt L
theorem hs_0 {o : Op} (h1 : o.gives = 0) (h2 : o.taken = 0) : hstep o 0 = some 0 := by unfold hstep; rw [h1, h2]; rfl
theorem hs_1 {o : Op} (h1 : o.gives = 0) (h2 : o.taken = 1) : hstep o 1 = some 0 := by unfold hstep; rw [h1, h2]; rfl
theorem hs_g {o : Op} {h : Nat} (h1 : o.gives = 1) (h2 : o.taken ≤ h) : hstep o h = some (h - o.taken + 1) := by unfold hstep; rw [if_pos h1, if_pos h2]
section
variable {cnt : Nat} {out : Int → Prop} {K P : Nat → Prop} {d e : D}
theorem Pc.run {f : D → D} (E : Pc cnt out K P d e) (hf : NiceS cnt f) (hd : cnt ≤ d.places.length) (ho : ∀ x, heads0 cnt x → out x) : Pc cnt out K P d (f e) := E.then (hf e (Nat.le_trans hd E.len)) fun x hx => .inl (ho x hx)
theorem Pc.runS {f : D → D} (E : Pc cnt (heads0 cnt) K P d e) (hf : NiceS cnt f) (hd : cnt ≤ d.places.length) : Pc cnt (heads0 cnt) K P d (f e) := E.run hf hd fun _ h => h
theorem Pc.cond {f : Bool → Int → D → D} {w : Bool} {l : Int} (E : Pc cnt out K P d e) (hf : NiceC cnt f) (kl : Kn out K l) : Pc cnt out K P d (f w l e) := E.then (hf w l e) fun x hx => hx ▸ kl
theorem Pc.condK {f : Bool → Int → D → D} {w : Bool} {l : Nat} (E : Pc cnt out K P d e) (hf : NiceC cnt f) (kl : K l) : Pc cnt out K P d (f w l e) := E.cond hf (Kn.at kl)
theorem Pc.ex {c : Int → List Op} {l : Int} {o : Op} (E : Pc cnt out K P d e) (h : NiceE cnt c) (hl : l = -1 ∨ Kn out K l) (h1 : o.gives = 0) (h2 : o.taken = 1) (k : o.ok cnt (Kn out K)) : Pc cnt out K P d ((e.app (c l)).put o) := by
  have e1 : (e.app (c l)).put o = e.app (c l ++ [o]) := by rw [D.put, D.app, D.app, List.append_assoc]
  rw [e1]
  exact E.ap ((hrun_at ((h l).1 0)).trans (hrun_one (hs_1 h1 h2))) fun p hp => (List.mem_append.mp hp).elim ((h l).2 _ hl p) fun q => List.mem_singleton.mp q ▸ k
theorem Pc.jmp {l : Nat} (E : Pc cnt out K P d e) (h : K l) : Pc cnt out K P d (e.put (.jump l)) := E.pt (hs_0 rfl rfl) (Kn.at h)
theorem ne_leaf {x : V} (h : x.data 24 = true) : NiceE cnt fun l => [.push x l] := fun l => ⟨fun k => hrun_one (hs_g rfl (Nat.zero_le k)), fun L hl o ho => List.mem_singleton.mp ho ▸ ⟨h, hl⟩⟩
theorem ne_neg {c : Int → List Op} (h : NiceE cnt c) : NiceE cnt fun l => c l ++ [.calc "neg" l] := fun l =>
  ⟨fun k => (hrun_at ((h l).1 k)).trans (hrun_one (hs_g rfl (Nat.succ_le_succ (Nat.zero_le k)))), fun L hl o ho => (List.mem_append.mp ho).elim ((h l).2 L hl o) fun q => List.mem_singleton.mp q ▸ ⟨.tail _ (.tail _ (.tail _ (.tail _ (.head _)))), hl⟩⟩
theorem ne_bin {c e : Int → List Op} {s : Str} (hs : s ∈ signs) (hn : s ≠ "neg") (h : NiceE cnt c) (k : NiceE cnt e) : NiceE cnt fun l => c l ++ e l ++ [.calc s l] := fun l =>
  ⟨fun i => (hrun_at ((hrun_at ((h l).1 i)).trans ((k l).1 (i + 1)))).trans (hrun_one (by
    have t : (Op.calc s l).taken = 2 := if_neg hn
    rw [hs_g rfl (by rw [t]; exact Nat.le_add_left 2 i), t]; rfl)), fun L hl o ho => (List.mem_append.mp ho).elim (fun ho => (List.mem_append.mp ho).elim ((h l).2 L hl o) ((k l).2 L hl o)) fun q => List.mem_singleton.mp q ▸ ⟨hs, hl⟩⟩
theorem nc_rel {c : V} (h : c.data 24 = true) : NiceC cnt (relF c) := fun w l d => by
  cases w with
  | false => exact Pc.refl.pt (hs_0 rfl rfl) ⟨h, Kn.self⟩
  | true => exact ((((Pc.refl (cnt := cnt) (out := fun x => x = l) (d := d)).fr.pt (o := .test c d.places.length) (hs_0 rfl rfl) ⟨h, Kn.at (.inl rfl)⟩).pt (o := .jump l) (hs_0 rfl rfl) Kn.self).hr (.inl rfl) fun x hx => hx).done
theorem nc_not {f : Bool → Int → D → D} (h : NiceC cnt f) : NiceC cnt (notF f) := fun w l d => h (!w) l d
theorem nc_join {b : Bool} {f g : Bool → Int → D → D} (h : NiceC cnt f) (k : NiceC cnt g) : NiceC cnt (joinF b f g) := fun w l d => by
  by_cases q : b = w
  · rw [joinF_t q]; exact (Pc.refl.cond h Kn.self).cond k Kn.self
  · rw [joinF_f q]; exact (((Pc.refl.fr.condK h (.inl rfl)).cond k Kn.self).hr (.inl rfl) fun x hx => hx).done
theorem ns_id : NiceS cnt fun d => d := fun d _ => Pc.refl
theorem ns_put {o : Op} (h : hstep o 0 = some 0) (k : o.ok cnt (heads0 cnt)) : NiceS cnt fun d => d.put o := fun d _ => Pc.refl.pt h (Op.ok_mono (fun _ => .inl) k)
theorem ns_app {os : List Op} (h : hrun os 0 = some 0) (k : ∀ o ∈ os, o.ok cnt (heads0 cnt)) : NiceS cnt fun d => d.app os := fun d _ => Pc.refl.ap h fun o ho => Op.ok_mono (fun _ => .inl) (k o ho)
theorem Pc.all (hd : cnt ≤ d.places.length) (ho : ∀ x, heads0 cnt x → out x) : ∀ (fs : List (D → D)) {e : D}, Pc cnt out K P d e → (∀ f ∈ fs, NiceS cnt f) → Pc cnt out K P d (runAll fs e)
  | [], e, E, _ => E
  | f :: fs, e, E, h => Pc.all hd ho fs (E.run (h f (.head _)) hd ho) fun g hg => h g (.tail _ hg)
theorem ns_runAll {fs : List (D → D)} (h : ∀ f ∈ fs, NiceS cnt f) : NiceS cnt (runAll fs) := fun d hd => Pc.all hd (fun _ h => h) fs Pc.refl h
theorem ns_if {fc : Bool → Int → D → D} {fa : D → D} {fb : Option (D → D)} (hc : NiceC cnt fc) (ha : NiceS cnt fa) (hb : ∀ f, fb = some f → NiceS cnt f) : NiceS cnt (ifF fc fa fb) := fun d hd => by
  have E := (Pc.refl (cnt := cnt) (out := heads0 cnt) (d := d)).fr.condK (w := false) hc (.inl rfl) |>.runS ha hd
  cases fb with
  | none => exact (E.hr (.inl rfl) fun x h => h).done
  | some f => exact ((((E.fr.jmp (.inl rfl)).hr (.inr (.inl rfl)) fun x h => or_left_comm.mp h).runS (hb f rfl) hd).hr (.inl rfl) fun x h => h).done
theorem ns_arith {t : V} {code : Int → List Op} {fn : D → D} {fs : Option (D → D)} (he : NiceE cnt code) (ht : t.data 24 = true) (hn : NiceS cnt fn) (hs : ∀ f, fs = some f → NiceS cnt f) : NiceS cnt (arithF t code fn fs) := fun d hd => by
  have E := (Pc.refl (cnt := cnt) (out := heads0 cnt) (d := d)).fr.ex (l := d.places.length) (o := .put t d.places.length) he (.inr (Kn.at (.inl rfl))) rfl rfl ⟨ht, Kn.at (.inl rfl)⟩ |>.runS hn hd
  cases fs with
  | none => exact (E.hr (.inl rfl) fun x h => h).done
  | some f => exact ((((E.fr.jmp (.inl rfl)).hr (.inr (.inl rfl)) fun x h => or_left_comm.mp h).runS (hs f rfl) hd).hr (.inl rfl) fun x h => h).done
theorem key_ok {quiet : List Str} {s : Str} (h : PyData.strOk s = true) : PyData.strOk (if quiet.any (· == s) = true then ("" : Str) else s) = true := by
  by_cases q : quiet.any (· == s) = true
  · rw [if_pos q]; decide +kernel
  · rw [if_neg q]; exact h
theorem Pc.keys {quiet : List Str} {F : Str → D → D} {b : Nat} (hb : K b) (hd : cnt ≤ d.places.length) : ∀ (ks : List Str) {e : D}, Pc cnt (heads0 cnt) K P d e → (∀ s ∈ ks, NiceS cnt (F s)) → (∀ s ∈ ks, PyData.strOk s = true) → Pc cnt (heads0 cnt) K P d (ks.foldl (keyTurn quiet F b) e)
  | [], e, E, _, _ => E
  | s :: ks, e, E, h1, h2 => Pc.keys hb hd ks (by
    have := ((((E.fr.pt (o := .key _ e.places.length) (hs_0 rfl rfl) ⟨key_ok (quiet := quiet) (h2 s (.head _)), Kn.at (.inl rfl)⟩).runS (h1 s (.head _)) hd).jmp (.inr hb)).hr (.inl rfl) fun x h => h)
    exact ⟨this.len, fun l q => this.kn l (.inr q), this.old, this.new⟩) (fun s hs => h1 s (.tail _ hs)) fun s hs => h2 s (.tail _ hs)
theorem ns_deed {st : V} {noisy quiet : List Str} {F : Str → D → D} (hst : st.data 24 = true) (hF : ∀ s ∈ noisy ++ quiet.take 1, NiceS cnt (F s)) (hk : ∀ s ∈ noisy ++ quiet.take 1, PyData.strOk s = true) : NiceS cnt (deedF st noisy quiet F) := fun d hd =>
  ((Pc.keys (.inl rfl) hd (noisy ++ quiet.take 1) (Pc.refl.pt (o := .dod st) (hs_0 rfl rfl) hst).fr hF hk).hr (.inl rfl) fun x h => h).done
theorem step_data {r : V} {way : Str} (hr : r.data 20 = true) (hw : PyData.strOk way = true) : (V.tuple [.tuple [r, .bool false, .str way]]).data 24 = true :=
  V.data_tup (V.datas_cons (V.data_tup (V.datas_cons (V.data_mono 20 22 r (by decide) hr) (V.datas_cons rfl (V.datas_cons hw V.datas_nil)))) V.datas_nil)
theorem ns_step {r : V} {code : Int → List Op} {way : Str} (he : NiceE cnt code) (hr : r.data 20 = true) (hw : PyData.strOk way = true) : NiceS cnt (stepF r code way) := fun d hd =>
  (((Pc.refl.fr.ex (l := d.places.length) (o := stepOp r way d.places.length) he (.inr (Kn.at (.inl rfl))) rfl rfl ⟨step_data hr hw, Kn.at (.inl rfl)⟩)).hr (.inl rfl) fun x h => h).done
theorem ns_times {x : V} {fg : D → D} (hx : x.data 24 = true) (hg : NiceS cnt fg) : NiceS cnt (timesF x fg) := fun d hd =>
  (((((((Pc.refl.sl.fr.fr.ex (c := fun l => [.push x l]) (l := -1) (o := .count d.slots) (ne_leaf hx) (.inl rfl) rfl rfl trivial).hr (l := d.places.length) (.inr (.inl rfl)) fun x h => or_left_comm.mp h).pt (o := .less d.slots d.fresh.places.length) (hs_0 rfl rfl) (Kn.at (.inl rfl))).runS hg hd).jmp (l := d.places.length) (.inr (.inl rfl)))).hr (l := d.fresh.places.length) (.inl rfl) fun x h => h).done
theorem ns_until {after : Bool} {fc : Bool → Int → D → D} {fg : D → D} (hc : NiceC cnt fc) (hg : NiceS cnt fg) : NiceS cnt (untilF after fc fg) := fun d hd => by
  have E := (Pc.refl (cnt := cnt) (out := heads0 cnt) (d := d)).fr.fr.hr (l := d.places.length) (P₂ := fun l => l = d.fresh.places.length ∨ noS l) (.inr (.inl rfl)) fun x h => or_left_comm.mp h
  cases after
  · exact ((((E.condK (w := true) hc (.inl rfl)).runS hg hd).jmp (.inr (.inl rfl))).hr (.inl rfl) fun x h => h).done
  · exact (((E.runS hg hd).condK (w := false) hc (.inr (.inl rfl))).hr (.inl rfl) fun x h => h).done
theorem ns_gotoDep {r : V} {js : List Nat} (hr : r.data 24 = true) (hj : ∀ j ∈ js, j < cnt) (hl : js.length ≤ 3) : NiceS cnt (gotoDepF r js) := fun d hd =>
  Pc.refl.ex (c := fun l => [.push r l]) (l := -1) (o := .choose (js.map fun (j : Nat) => (j : Int))) (ne_leaf hr) (.inl rfl) rfl rfl ⟨by rw [List.length_map]; exact hl, fun l hl => by
    obtain ⟨j, h1, rfl⟩ := List.mem_map.mp hl
    exact .inl ⟨Int.natCast_nonneg j, Int.ofNat_lt.mpr (hj j h1)⟩⟩
theorem sort_ok {inp : Option (Nat × Nat)} {x : V} (hx : x.data 24 = true) (hi : ∀ i j, inp = some (i, j) → i < cnt ∧ j < cnt) : (match inp with | none => Op.dod x | some (i, j) => .perform i j).ok cnt (heads0 cnt) := by
  cases inp with
  | none => exact hx
  | some p => exact ⟨Int.natCast_nonneg _, Int.ofNat_lt.mpr (hi p.1 p.2 rfl).1, Int.natCast_nonneg _, Int.ofNat_lt.mpr (hi p.1 p.2 rfl).2⟩
theorem sort_hs {inp : Option (Nat × Nat)} {x : V} : hstep (match inp with | none => Op.dod x | some (i, j) => .perform i j) 0 = some 0 := by
  cases inp with
  | none => exact hs_0 rfl rfl
  | some p => exact hs_0 rfl rfl
theorem ns_sort {inp ou : Option (Nat × Nat)} (hi : ∀ i j, inp = some (i, j) → i < cnt ∧ j < cnt) (ho : ∀ i j, ou = some (i, j) → i < cnt ∧ j < cnt) : NiceS cnt fun d => d.app (sortOps inp ou) := by
  refine ns_app ((hrun_cons (hs_0 rfl rfl)).trans ((hrun_cons sort_hs).trans ((hrun_cons (hs_0 rfl rfl)).trans ((hrun_cons sort_hs).trans (hrun_one (hs_0 rfl rfl)))))) fun o h => ?_
  rcases List.mem_cons.mp h with rfl | h
  · show V.data 24 _ = true; decide +kernel
  rcases List.mem_cons.mp h with rfl | h
  · exact sort_ok (by decide +kernel) hi
  rcases List.mem_cons.mp h with rfl | h
  · show V.data 24 _ = true; decide +kernel
  rcases List.mem_cons.mp h with rfl | h
  · exact sort_ok (by decide +kernel) ho
  rw [List.mem_singleton.mp h]; show V.data 24 _ = true; decide +kernel
end
end
section
open PySem PySem.W PySem.Calls PyProof.Rows PySem.Spec
theorem fold_inv {α β : Type} {g : α → β → α} {φ : Nat → β} {J : Nat → α → Prop} : ∀ (k : Nat) (d : α), J 0 d → (∀ i d, i < k → J i d → J (i + 1) (g d (φ i))) → J k (((List.range k).map φ).foldl g d)
  | 0, d, h, _ => h
  | k + 1, d, h, s => by
    rw [List.range_succ, List.map_append, List.foldl_append]
    exact s k _ (Nat.lt_succ_self k) (fold_inv k d h fun i d hi => s i d (Nat.lt_succ_of_lt hi))
structure RowNice (cnt : Nat) (r : Row) : Prop where
  ref : r.ref.data 20 = true
  nb : NiceE cnt r.bc
  na : NiceE cnt r.ac
  nc : NiceC cnt r.fc
section
variable {cnt : Nat} {out : Int → Prop} {K P P₂ : Nat → Prop} {d e : D}
theorem Pc.less {K₂ : Nat → Prop} (E : Pc cnt out K P d e) (h : ∀ l, K₂ l → K l) (k : ∀ l, P l → P₂ l) : Pc cnt out K₂ P₂ d e :=
  ⟨E.len, fun l q => E.kn l (h l q), E.old, E.new.elim fun ns a => ⟨ns, a.1, a.2.1, a.2.2.1, fun l x y => (a.2.2.2 l x y).imp (k l) id⟩⟩
theorem RowNice.beg {r : Row} (h : RowNice cnt r) : NiceS cnt r.beg := ns_step h.nb h.ref (by decide +kernel)
theorem RowNice.add {r : Row} (h : RowNice cnt r) : NiceS cnt r.add := ns_step h.na h.ref (by decide +kernel)
theorem begs_nice {rows : List Row} (h : ∀ r ∈ rows, RowNice cnt r) : ∀ f ∈ rows.map Row.beg, NiceS cnt f := fun f hf => (List.mem_map.mp hf).elim fun r q => q.2 ▸ (h r q.1).beg
theorem Pc.afterT {rows : List Row} {again : Nat} (E : Pc cnt (heads0 cnt) K P d e) (h : ∀ r ∈ rows, RowNice cnt r) (ha : K again) (hd : cnt ≤ d.places.length) (j : Nat) : Pc cnt (heads0 cnt) K P d (afterTurn rows again e j) := by
  cases hr : rows[j]? with
  | none => unfold afterTurn; rw [hr]; exact E
  | some r =>
    have rn := h r (List.mem_of_getElem? hr)
    rw [afterTurn_at hr]
    exact ((((Pc.all hd (fun _ h => h) _ ((E.fr.condK (w := true) rn.nc (.inl rfl)).runS rn.add hd) (begs_nice fun r hr => h r (List.mem_of_mem_drop hr))).jmp (.inr ha)).hr (.inl rfl) fun x h => h)).less (fun l => .inr) fun l h => h
theorem ns_varyAfter {rows : List Row} {fg : D → D} (h : ∀ r ∈ rows, RowNice cnt r) (hg : NiceS cnt fg) : NiceS cnt (varyAfterF rows fg) := fun d hd =>
  (fold_inv (g := afterTurn rows (runAll (rows.map Row.beg) d).places.length) (J := fun _ e => Pc cnt (heads0 cnt) (fun l => l = (runAll (rows.map Row.beg) d).places.length ∨ noS l) noS d e) rows.length _
    (((Pc.all hd (fun _ h => h) (rows.map Row.beg) Pc.refl (begs_nice h)).fr.hr (.inl rfl) fun x h => h).runS hg hd) fun i e hi E => E.afterT h (.inl rfl) hd _).done
theorem Pc.frsN (E : Pc cnt out K P d e) {c m : Nat} (hc : e.places.length = c) : Pc cnt out (fun l => (c ≤ l ∧ l < c + m) ∨ K l) (fun l => (c ≤ l ∧ l < c + m) ∨ P l) d (freshN m e) := E.frN hc _ rfl rfl
theorem ns_vary {rows : List Row} {fg : D → D} (h : ∀ r ∈ rows, RowNice cnt r) (h0 : rows ≠ []) (hg : NiceS cnt fg) : NiceS cnt (varyF rows fg) := fun d hd => by
  have hm : 1 ≤ rows.length := List.length_pos_iff.mpr h0
  have at_ : ∀ i, i < rows.length → ∃ r, rows[i]? = some r ∧ RowNice cnt r := fun i hi => ⟨_, List.getElem?_eq_getElem hi, h _ (List.getElem_mem hi)⟩
  have e0 := Pc.all hd (fun _ h => h) (rows.map Row.beg) (Pc.refl (cnt := cnt) (out := heads0 cnt) (d := d)) (begs_nice h)
  unfold varyF
  generalize runAll (rows.map Row.beg) d = d1 at *
  generalize hc : d1.places.length = c at *
  have e1 := (e0.frsN (m := rows.length) hc).frsN (m := rows.length) (by rw [len_freshN, hc])
  generalize hm' : rows.length = m at *
  -- K: all the labels
  have e2 : Pc cnt (heads0 cnt) (fun l => c ≤ l ∧ l < c + m + m) (fun l => c + 0 ≤ l ∧ l < c + m + m) d (freshN m (freshN m d1)) := e1.less (fun l q => by omega) fun l q => by
    rcases q with q | q | q
    · omega
    · omega
    · exact q.elim
  have e3 := fold_inv (g := checkTurn rows c) (φ := fun i => i) (J := fun i e => Pc cnt (heads0 cnt) (fun l => c ≤ l ∧ l < c + m + m) (fun l => c + i ≤ l ∧ l < c + m + m) d e) m _ e2 fun i e hi E => by
    obtain ⟨r, hr, rn⟩ := at_ i hi
    rw [checkTurn_at hr, hm']
    exact (E.hr (l := c + i) ⟨by omega, by omega⟩ fun x hx => by omega).condK rn.nc ⟨by omega, by omega⟩
  rw [List.map_id'] at e3
  obtain ⟨r, hr, rn⟩ := at_ (m - 1) (by omega)
  have e4 := ((e3.runS hg hd).runS rn.add hd).jmp (l := c + (m - 1)) ⟨by omega, by omega⟩
  rw [lastF_at (by rw [hm']; exact hr), hm']
  have e5 := fold_inv (g := backTurn rows c) (φ := fun i => m - 1 - i) (J := fun i e => Pc cnt (heads0 cnt) (fun l => c ≤ l ∧ l < c + m + m) (fun l => c + m ≤ l ∧ l < c + m + (m - i)) d e) (m - 1) _ e4 fun i e hi E => by
    obtain ⟨r, hr, rn⟩ := at_ (m - 1 - i) (by omega)
    obtain ⟨q, hq, qn⟩ := at_ (m - 1 - i - 1) (by omega)
    rw [backTurn_at hr hq, hm']
    exact (((E.hr (l := c + m + (m - 1 - i)) ⟨by omega, by omega⟩ fun x hx => by omega).runS qn.add hd).runS rn.beg hd).jmp ⟨by omega, by omega⟩
  exact (e5.hr (l := c + m) (P₂ := noS) ⟨by omega, by omega⟩ fun x hx => .inl (by omega)).done
end
end
section
open PySem PySem.W PySem.Calls PyProof.Rows PySem.Spec
inductive Op.okT (cnt : Nat) (L : Int → Prop) : Op → Prop
  | ok {o : Op} : o.ok cnt L → Op.okT cnt L o
  | leave {a : Nat} : a < cnt → Op.okT cnt L (.leave a)
  | fin : Op.okT cnt L (.stop "end")
noncomputable def Op.leaveOf : Op → Option Int
  | .leave a => some a
  | _ => none
section
variable {cnt : Nat} {L M : Int → Prop} {o : Op} {p : Int → Int}
theorem Op.ok_noLeave (h : o.ok cnt L) : o.leaveOf = none := by
  cases o with
  | leave a => exact h.elim
  | _ => rfl
theorem Op.okT_mono (h : ∀ x, L x → M x) (k : o.okT cnt L) : o.okT cnt M := by
  cases k with
  | ok k => exact .ok (Op.ok_mono h k)
  | leave k => exact .leave k
  | fin => exact .fin
theorem turnl_in (h0 : ∀ x, L x → x ≠ -1) (h : ∀ x, L x → M (p x)) {x : Int} (k : L x) : M (turnl p x) := by
  unfold turnl; rw [if_neg (h0 x k)]; exact h x k
theorem turnl_or (h0 : ∀ x, L x → x ≠ -1) (h : ∀ x, L x → M (p x)) {x : Int} (k : x = -1 ∨ L x) : turnl p x = -1 ∨ M (turnl p x) :=
  k.imp (fun e => if_pos e) (turnl_in h0 h)
theorem Op.ok_turn (h0 : ∀ x, L x → x ≠ -1) (h : ∀ x, L x → M (p x)) (k : o.ok cnt L) : (o.turn p).ok cnt M := by
  cases o with
  | push x l => exact ⟨k.1, turnl_or h0 h k.2⟩
  | «calc» x l => exact ⟨k.1, turnl_or h0 h k.2⟩
  | put x l => exact ⟨k.1, turnl_in h0 h k.2⟩
  | key x l => exact ⟨k.1, turnl_in h0 h k.2⟩
  | test x l => exact ⟨k.1, turnl_in h0 h k.2⟩
  | less x l => exact turnl_in h0 h k
  | jump l => exact h _ k
  | choose ls => exact ⟨Nat.le_trans (Nat.le_of_eq (List.length_map _)) k.1, fun l hl => (List.mem_map.mp hl).elim fun x q => q.2 ▸ h x (k.2 x q.1)⟩
  | dod x => exact k
  | count x => exact k
  | perform a b => exact k
  | leave a => exact k
  | stop w => exact k
theorem Op.okT_turn (h0 : ∀ x, L x → x ≠ -1) (h : ∀ x, L x → M (p x)) (k : o.okT cnt L) : (o.turn p).okT cnt M := by
  cases k with
  | ok k => exact .ok (Op.ok_turn h0 h k)
  | leave k => exact .leave k
  | fin => exact .fin
theorem lab_in {l : Int} (h : l = -1 ∨ L l) : ∀ x ∈ lab l, L x := fun x hx => by
  unfold lab at hx
  split at hx
  · cases hx
  · rename_i q; rw [List.mem_singleton.mp hx]; exact h.resolve_left q
theorem one_in {l : Int} (h : L l) : ∀ x ∈ [l], L x := fun x hx => List.mem_singleton.mp hx ▸ h
theorem nil_in : ∀ x ∈ ([] : List Int), L x := fun x hx => by cases hx
theorem Op.ok_labels (k : o.ok cnt L) : (∀ l ∈ o.labelsIn, L l) ∧ ∀ l ∈ o.labels, L l := by
  cases o with
  | push x l => exact ⟨lab_in k.2, lab_in k.2⟩
  | «calc» x l => exact ⟨lab_in k.2, lab_in k.2⟩
  | put x l => exact ⟨one_in k.2, lab_in (.inr k.2)⟩
  | key x l => exact ⟨one_in k.2, lab_in (.inr k.2)⟩
  | test x l => exact ⟨one_in k.2, lab_in (.inr k.2)⟩
  | less x l => exact ⟨one_in k, lab_in (.inr k)⟩
  | jump l => exact ⟨one_in k, one_in k⟩
  | choose ls => exact ⟨k.2, k.2⟩
  | _ => exact ⟨nil_in, nil_in⟩
theorem Op.okT_labels (k : o.okT cnt L) : (∀ l ∈ o.labelsIn, L l) ∧ ∀ l ∈ o.labels, L l := by
  cases k with
  | ok k => exact Op.ok_labels k
  | leave k => exact ⟨nil_in, nil_in⟩
  | fin => exact ⟨nil_in, nil_in⟩
theorem lab_len (l : Int) : (lab l).length ≤ 1 := by unfold lab; split <;> simp
theorem Op.ok_len (k : o.ok cnt L) : o.labelsIn.length ≤ 3 ∧ o.labels.length ≤ 3 := by
  have h : ∀ l, (lab l).length ≤ 3 := fun l => Nat.le_trans (lab_len l) (by decide)
  cases o with
  | choose ls => exact ⟨k.1, k.1⟩
  | push x l => exact ⟨h l, h l⟩
  | «calc» x l => exact ⟨h l, h l⟩
  | put x l => exact ⟨Nat.le_of_ble_eq_true rfl, h l⟩
  | key x l => exact ⟨Nat.le_of_ble_eq_true rfl, h l⟩
  | test x l => exact ⟨Nat.le_of_ble_eq_true rfl, h l⟩
  | less x l => exact ⟨Nat.le_of_ble_eq_true rfl, h l⟩
  | _ => exact ⟨Nat.le_of_ble_eq_true rfl, Nat.le_of_ble_eq_true rfl⟩
theorem Op.okT_len (k : o.okT cnt L) : o.labelsIn.length ≤ 3 ∧ o.labels.length ≤ 3 := by
  cases k with
  | ok k => exact Op.ok_len k
  | leave k => exact ⟨Nat.zero_le _, Nat.zero_le _⟩
  | fin => exact ⟨Nat.zero_le _, Nat.zero_le _⟩
end
theorem hstep_turn (p : Int → Int) (o : Op) (h : Nat) : hstep (o.turn p) h = hstep o h := by cases o <;> rfl
theorem hrun_turn (p : Int → Int) (os : List Op) (h : Nat) : hrun (os.map (Op.turn p)) h = hrun os h := by
  unfold hrun
  rw [List.foldl_map]
  have : (fun (r : Option Nat) o => r.bind (hstep (Op.turn p o))) = fun r o => r.bind (hstep o) := funext fun r => funext fun o => congrArg r.bind (funext (hstep_turn p o))
  rw [this]
theorem leaveOf_turn (p : Int → Int) (o : Op) : (o.turn p).leaveOf = o.leaveOf := by cases o <;> rfl
noncomputable def plc (ps : List Int) (l : Int) : Int := ps.getD l.toNat 0
theorem plc_of {ps : List Int} {j : Nat} {z : Int} (h : ps[j]? = some z) : plc ps j = z := by
  rw [plc, Int.toNat_natCast, List.getD_eq_getElem?_getD, h]; rfl
theorem plc_at {ps : List Int} {j : Nat} (h : j < ps.length) : (ps.map V.int)[j]? = some (.int (plc ps j)) := by
  rw [List.getElem?_map, plc_of (List.getElem?_eq_getElem h), List.getElem?_eq_getElem h]; rfl
noncomputable def finOps (d : D) : List Op := d.ops.map (Op.turn (plc d.places))
noncomputable def finBegins (cnt : Nat) (d : D) : List Int := (List.range cnt).map fun (i : Nat) => plc d.places i
noncomputable def turnP (d : D) (i : Nat) (f : D → D) : D := (f (d.here i)).put (.leave i)
noncomputable def parD (fs : List (D → D)) (i : Nat) : D := Nat.rec (motive := fun _ => D) ⟨[], List.replicate fs.length (-1), 0⟩ (fun i d => match fs[i]? with
  | some f => turnP d i f
  | none => d) i
theorem parD_succ {fs : List (D → D)} {i : Nat} {f : D → D} (h : fs[i]? = some f) : parD fs (i + 1) = turnP (parD fs i) i f := by
  show (match fs[i]? with
    | some f => turnP (parD fs i) i f
    | none => parD fs i) = _
  rw [h]
noncomputable def compD (fs : List (D → D)) : D := (parD fs fs.length).put (.stop "end")
structure PInv (cnt i : Nat) (d : D) : Prop where
  run : hrun d.ops 0 = some 0
  ok : ∀ o ∈ d.ops, o.okT cnt fun x => ∃ l : Nat, x = l ∧ l < d.places.length
  placed : ∀ l, l < d.places.length → (cnt ≤ l ∨ l < i) → ∃ j : Nat, j ≤ d.ops.length ∧ d.places[l]? = some (j : Int) ∧ hrun (d.ops.take j) 0 = some 0
  len : cnt ≤ d.places.length
  leaves : d.ops.filterMap Op.leaveOf = (List.range i).map fun (k : Nat) => (k : Int)
  beg : ∃ b : Nat → Nat, b 0 = 0 ∧ b i = d.ops.length ∧ ∀ k, k < i → d.places[k]? = some ((b k : Nat) : Int) ∧ b k < b (k + 1) ∧ b (k + 1) ≤ d.ops.length ∧ d.ops[b (k + 1) - 1]? = some (.leave k)
theorem pinv_step {cnt i : Nat} {d : D} {f : D → D} (I : PInv cnt i d) (hi : i < cnt) (hf : NiceS cnt f) : PInv cnt (i + 1) (turnP d i f) := by
  have lh : (d.here i).places.length = d.places.length := len_here
  have E := hf (d.here i) (lh ▸ I.len)
  obtain ⟨ns, a, b, c, e⟩ := E.new
  have o := E.old
  have len := E.len
  rw [lh] at c e o len
  have hil : i < d.places.length := Nat.lt_of_lt_of_le hi I.len
  have hat : (d.here i).places[i]? = some ((d.ops.length : Nat) : Int) := List.getElem?_set_self hil
  have hother : ∀ k, k ≠ i → (d.here i).places[k]? = d.places[k]? := fun k hk => List.getElem?_set_ne (Ne.symm hk)
  clear E lh
  have a : (f (d.here i)).ops = d.ops ++ ns := a
  have e : ∀ l, d.places.length ≤ l → l < (f (d.here i)).places.length → noS l ∨ ∃ j, j ≤ ns.length ∧ (f (d.here i)).places[l]? = some ((d.ops.length + j : Nat) : Int) ∧ hrun (ns.take j) 0 = some 0 := e
  unfold turnP
  generalize f (d.here i) = d2 at *
  have ops : (d2.put (.leave i)).ops = d.ops ++ (ns ++ [.leave i]) := by rw [D.put, a, List.append_assoc]
  have lops : (d2.put (.leave i)).ops.length = d.ops.length + (ns.length + 1) := by rw [ops, List.length_append, List.length_append]; rfl
  have take1 : ∀ j, j ≤ d.ops.length → (d2.put (.leave i)).ops.take j = d.ops.take j := fun j hj => by rw [ops, List.take_append_of_le_length hj]
  have take2 : ∀ j, j ≤ ns.length → (d2.put (.leave i)).ops.take (d.ops.length + j) = d.ops ++ ns.take j := fun j hj => by rw [ops, List.take_length_add_append, List.take_append_of_le_length hj]
  refine ⟨?_, ?_, ?_, Nat.le_trans I.len len, ?_, ?_⟩
  · rw [ops]; exact (hrun_at I.run).trans ((hrun_at b).trans (hrun_one (hs_0 rfl rfl)))
  · intro p hp
    rw [ops] at hp
    rcases List.mem_append.mp hp with hp | hp
    · exact Op.okT_mono (fun x hx => hx.elim fun l q => ⟨l, q.1, Nat.lt_of_lt_of_le q.2 len⟩) (I.ok p hp)
    · rcases List.mem_append.mp hp with hp | hp
      · refine .ok (Op.ok_mono (fun x hx => ?_) (c p hp))
        rcases hx with hx | ⟨l, q, r⟩
        · exact ⟨x.toNat, (Int.toNat_of_nonneg hx.1).symm, Nat.lt_of_lt_of_le ((Int.toNat_lt hx.1).mpr hx.2) (Nat.le_trans I.len len)⟩
        · exact ⟨l, r, q.2⟩
      · rw [List.mem_singleton.mp hp]; exact .leave hi
  · intro k hk hk2
    rw [lops]
    show ∃ j : Nat, _ ∧ d2.places[k]? = _ ∧ _
    rcases Nat.lt_or_ge k d.places.length with q | q
    · rw [o k q]
      by_cases q2 : k = i
      · subst q2
        exact ⟨d.ops.length, Nat.le_add_right _ _, hat, by rw [take1 _ (Nat.le_refl _), List.take_length]; exact I.run⟩
      · rw [hother k q2]
        obtain ⟨j, h1, h2, h3⟩ := I.placed k q (hk2.imp id fun z => Nat.lt_of_le_of_ne (Nat.le_of_lt_succ z) q2)
        exact ⟨j, Nat.le_trans h1 (Nat.le_add_right _ _), h2, by rw [take1 j h1]; exact h3⟩
    · refine (e k q hk).elim (fun z => z.elim) fun ⟨j, h1, h2, h3⟩ => ⟨d.ops.length + j, Nat.add_le_add_left (Nat.le_succ_of_le h1) _, h2, by rw [take2 j h1]; exact (hrun_at I.run).trans h3⟩
  · have e0 : ns.filterMap Op.leaveOf = [] := List.filterMap_eq_nil_iff.mpr fun p hp => Op.ok_noLeave (c p hp)
    rw [ops, List.filterMap_append, List.filterMap_append, e0, I.leaves, List.range_succ, List.map_append]
    rfl
  · obtain ⟨bf, b0, b1, b2⟩ := I.beg
    have bi : ∀ k, k ≤ i → (if k ≤ i then bf k else d.ops.length + (ns.length + 1)) = bf k := fun k h => if_pos h
    have bl : (if i + 1 ≤ i then bf (i + 1) else d.ops.length + (ns.length + 1)) = d.ops.length + (ns.length + 1) := if_neg (Nat.not_succ_le_self i)
    refine ⟨fun k => if k ≤ i then bf k else d.ops.length + (ns.length + 1), b0, by dsimp only; rw [bl, lops], fun k hk => ?_⟩
    dsimp only
    rw [bi k (Nat.le_of_lt_succ hk), lops]
    show d2.places[k]? = _ ∧ _
    rw [o k (by omega)]
    by_cases q : k = i
    · subst q
      rw [bl, b1]
      refine ⟨hat, by omega, Nat.le_refl _, ?_⟩
      rw [ops, ← List.append_assoc, List.getElem?_append_right (by rw [List.length_append]; omega), List.length_append, show d.ops.length + (ns.length + 1) - 1 - (d.ops.length + ns.length) = 0 by omega]
      rfl
    · obtain ⟨c0, c1, c2, c3⟩ := b2 k (Nat.lt_of_le_of_ne (Nat.le_of_lt_succ hk) q)
      rw [bi (k + 1) (by omega), hother k q]
      refine ⟨c0, c1, Nat.le_trans c2 (Nat.le_add_right _ _), ?_⟩
      rw [ops, List.getElem?_append_left (by omega)]
      exact c3
theorem pinv_par {fs : List (D → D)} (h : ∀ f ∈ fs, NiceS fs.length f) : ∀ i, i ≤ fs.length → PInv fs.length i (parD fs i)
  | 0, _ => ⟨rfl, (fun _ h => by cases h), fun l h1 h2 => h2.elim (fun z => absurd (Nat.lt_of_lt_of_le h1 (Nat.le_of_eq List.length_replicate)) (Nat.not_lt.mpr z)) fun z => absurd z (Nat.not_lt_zero l), Nat.le_of_eq List.length_replicate.symm, rfl, fun _ => 0, rfl, rfl, fun k hk => absurd hk (Nat.not_lt_zero k)⟩
  | i + 1, hi => by
    rw [parD_succ (List.getElem?_eq_getElem hi)]
    exact pinv_step (pinv_par h i (Nat.le_of_succ_le hi)) hi (h _ (List.getElem_mem hi))
noncomputable def Spot (os : List Op) (x : Int) : Prop := ∃ j : Nat, x = j ∧ j < os.length ∧ hrun (os.take j) 0 = some 0
structure CodeOk (cnt : Nat) (os : List Op) (bs : List Int) : Prop where
  run : hrun os 0 = some 0
  ok : ∀ o ∈ os, o.okT cnt (Spot os)
  last : os[os.length - 1]? = some (.stop "end")
  size : 1 ≤ os.length
  leaves : os.filterMap Op.leaveOf = (List.range cnt).map fun (k : Nat) => (k : Int)
  blen : bs.length = cnt
  beg : ∃ b : Nat → Nat, b 0 = 0 ∧ b cnt = os.length - 1 ∧ ∀ k, k < cnt → bs[k]? = some ((b k : Nat) : Int) ∧ hrun (os.take (b k)) 0 = some 0 ∧ b k < b (k + 1) ∧ b (k + 1) ≤ os.length - 1 ∧ os[b (k + 1) - 1]? = some (.leave k)
theorem codeOk_of {fs : List (D → D)} (h : ∀ f ∈ fs, NiceS fs.length f) : CodeOk fs.length (finOps (compD fs)) (finBegins fs.length (compD fs)) := by
  have I := pinv_par h fs.length (Nat.le_refl _)
  unfold compD
  generalize parD fs fs.length = d at I
  have eo : finOps (d.put (.stop "end")) = d.ops.map (Op.turn (plc d.places)) ++ [.stop "end"] := List.map_append
  have lm : (d.ops.map (Op.turn (plc d.places))).length = d.ops.length := List.length_map _
  have lo : (finOps (d.put (.stop "end"))).length = d.ops.length + 1 := by rw [eo, List.length_append, lm]; rfl
  have tk : ∀ j, j ≤ d.ops.length → hrun ((finOps (d.put (.stop "end"))).take j) 0 = hrun (d.ops.take j) 0 := fun j hj => by
    rw [eo, List.take_append_of_le_length (lm.symm ▸ hj), ← List.map_take, hrun_turn]
  obtain ⟨b, b0, b1, b2⟩ := I.beg
  refine ⟨?_, ?_, ?_, by rw [lo]; exact Nat.succ_le_succ (Nat.zero_le _), ?_, by rw [finBegins, List.length_map, List.length_range], b, b0, by rw [lo, b1]; rfl, fun k hk => ?_⟩
  · rw [eo]; exact (hrun_at ((hrun_turn _ _ _).trans I.run)).trans (hrun_one (hs_0 rfl rfl))
  · intro o ho
    rw [eo] at ho
    rcases List.mem_append.mp ho with ho | ho
    · obtain ⟨p, hp, rfl⟩ := List.mem_map.mp ho
      refine Op.okT_turn (fun x hx => ?_) (fun x hx => ?_) (I.ok p hp)
      · obtain ⟨l, rfl, -⟩ := hx; exact fun e => nomatch e
      · obtain ⟨l, rfl, hl⟩ := hx
        obtain ⟨j, h1, h2, h3⟩ := I.placed l hl (Nat.lt_or_ge l fs.length).symm
        exact ⟨j, plc_of h2, by rw [lo]; exact Nat.lt_succ_of_le h1, by rw [tk j h1]; exact h3⟩
    · rw [List.mem_singleton.mp ho]; exact .fin
  · rw [lo, Nat.add_sub_cancel, eo, List.getElem?_append_right (Nat.le_of_eq lm), lm, Nat.sub_self]; rfl
  · rw [eo, List.filterMap_append, List.filterMap_map]
    have : (Op.leaveOf ∘ Op.turn (plc d.places)) = Op.leaveOf := funext fun o => leaveOf_turn _ o
    rw [this, I.leaves]; exact List.append_nil _
  · obtain ⟨c0, c1, c2, c3⟩ := b2 k hk
    obtain ⟨j, h2, h3, h4⟩ := I.placed k (Nat.lt_of_lt_of_le hk I.len) (.inr hk)
    rw [c0] at h3
    have ej : b k = j := Int.ofNat.inj (Option.some.inj h3)
    refine ⟨?_, by rw [tk _ (ej ▸ h2), ej]; exact h4, c1, by rw [lo]; exact c2, ?_⟩
    · rw [finBegins, List.getElem?_map, List.getElem?_range hk]; exact congrArg some (plc_of c0)
    · rw [eo, List.getElem?_append_left (by rw [lm]; omega), List.getElem?_map, c3]; rfl
theorem hrun_mid {os : List Op} (h : hrun os 0 = some 0) {p x : Nat} {o : Op} (hp : os[p]? = some o) (hx : hrun (os.take p) 0 = some x) : ∃ y, hstep o x = some y ∧ hrun (os.take (p + 1)) 0 = some y := by
  have e2 : os.take (p + 1) = os.take p ++ [o] := by rw [List.take_add_one, hp]; rfl
  cases hz : hstep o x with
  | some y => exact ⟨y, rfl, by rw [e2]; exact (hrun_at hx).trans (hrun_one hz)⟩
  | none =>
    rw [← List.take_append_drop (p + 1) os, e2, List.append_assoc, hrun_at hx] at h
    rw [show [o] ++ os.drop (p + 1) = o :: os.drop (p + 1) from rfl, hrun_bad hz] at h
    cases h
noncomputable def GP (os : List Op) (q : Int × Int) : Prop := ∃ p h : Nat, q = ((p : Int), (h : Int)) ∧ p < os.length ∧ hrun (os.take p) 0 = some h
theorem gives_or (o : Op) : o.gives = 0 ∨ o.gives = 1 := by cases o <;> first | exact .inl rfl | exact .inr rfl
theorem hstep_inv {o : Op} {h y : Nat} (k : hstep o h = some y) : o.taken ≤ h ∧ (o.gives ≠ 1 → h = o.taken) ∧ (y : Int) = (h : Int) - o.taken + o.gives := by
  unfold hstep at k
  rcases gives_or o with g | g
  · rw [if_neg (by rw [g]; decide)] at k
    by_cases q : h = o.taken
    · rw [if_pos q] at k
      have := Option.some.inj k
      exact ⟨Nat.le_of_eq q.symm, fun _ => q, by omega⟩
    · rw [if_neg q] at k; cases k
  · rw [if_pos g] at k
    by_cases q : o.taken ≤ h
    · rw [if_pos q] at k
      have := Option.some.inj k
      exact ⟨q, fun z => absurd g z, by omega⟩
    · rw [if_neg q] at k; cases k
theorem ways_good {cnt : Nat} {os : List Op} {bs : List Int} (K : CodeOk cnt os bs) {p h : Nat} {o : Op} (hp : os[p]? = some o) (hh : hrun (os.take p) 0 = some h) :
    o.taken ≤ h ∧ (o.gives ≠ 1 → h = o.taken) ∧ ∀ q ∈ waysOf o p ((h : Int) - o.taken + o.gives), GP os q := by
  obtain ⟨y, h2, h3⟩ := hrun_mid K.run hp hh
  obtain ⟨a1, a2, a3⟩ := hstep_inv h2
  have hpl := (List.getElem?_eq_some_iff.mp hp).1
  refine ⟨a1, a2, fun q hq => ?_⟩
  rw [← a3] at hq
  rcases List.mem_append.mp hq with hq | hq
  · obtain ⟨l, hl, rfl⟩ := List.mem_map.mp hq
    obtain ⟨j, rfl, j1, j2⟩ := (Op.okT_labels (K.ok o (List.mem_of_getElem? hp))).1 l hl
    refine ⟨j, 0, congrArg (Prod.mk _) ?_, j1, j2⟩
    by_cases g : o.gives = 1
    · exact if_pos g
    · rw [if_neg g, a3, a2 g, (gives_or o).resolve_right g]; simp
  · by_cases g : o.goesOn = true
    · rw [if_pos g] at hq
      rw [List.mem_singleton.mp hq]
      have hne : p ≠ os.length - 1 := fun e => by
        have hl := K.last
        rw [← e, hp] at hl
        cases hl; cases g
      exact ⟨p + 1, y, rfl, by omega, h3⟩
    · rw [if_neg g] at hq; cases hq
theorem ways_len {cnt : Nat} {L : Int → Prop} {o : Op} (k : o.okT cnt L) (p b : Int) : (waysOf o p b).length ≤ 4 := by
  have := (Op.okT_len k).1
  rw [waysOf, List.length_append, List.length_map]
  by_cases g : o.goesOn = true
  · rw [if_pos g]; exact Nat.succ_le_succ this
  · rw [if_neg g]; exact Nat.le_succ_of_le this
end
section
open PySem PySem.W PySem.Calls PyProof.Rows PySem.Spec
set_option backward.isDefEq.lazyWhnfCore false
noncomputable def kE : Nat → Nat
  | 0 => 1
  | d + 1 => kE d + kE d + 1
noncomputable def gE : Nat → Nat
  | 0 => 1 + (1 + 1)
  | d + 1 => 1 + (1 + (gE d + gE d))
noncomputable def kC : Nat → Nat
  | 0 => 3
  | d + 1 => 1 + kC d + kC d
noncomputable def gC : Nat → Nat
  | 0 => 1 + (1 + gE 1)
  | d + 1 => 1 + (gC d + gC d)
theorem kE_pos : ∀ d, 1 ≤ kE d
  | 0 => Nat.le_refl _
  | d + 1 => Nat.le_add_left _ _
theorem kC_le {d e : Nat} (h : d ≤ e) : kC d ≤ kC e := by
  induction h with
  | refl => exact Nat.le_refl _
  | step _ ih => exact Nat.le_trans ih (Nat.le_add_left _ _)
theorem gE_pos : ∀ d, 3 ≤ gE d
  | 0 => Nat.le_refl _
  | d + 1 => by have := gE_pos d; rw [gE]; omega
theorem gC_pos : ∀ d, 10 ≤ gC d
  | 0 => by decide +kernel
  | d + 1 => by have := gC_pos d; rw [gC]; omega
structure ECode (C : Cx) (d : Nat) (X : V) (code : Int → List Op) : Prop where
  data : X.data (d + 3) = true
  nice : ∀ cnt, NiceE cnt code
  run : ∀ Xs, ERun C Xs (2 * d + 2) (kE d) X code
noncomputable def EGood (C : Cx) (d : Nat) (X : V) : Prop := ∃ code, ECode C d X code
structure CCode (C : Cx) (d : Nat) (X : V) (f : Bool → Int → D → D) : Prop where
  data : X.data (d + 6) = true
  nice : ∀ cnt, NiceC cnt f
  run : ∀ Xs, CRun C Xs (2 * d + 2) (kC d) X f
noncomputable def CGood (C : Cx) (d : Nat) (X : V) : Prop := ∃ f, CCode C d X f
section
variable {C : Cx} {d e : Nat} {X Y : V}
theorem EGood.data (h : EGood C d X) : X.data (d + 3) = true := h.elim fun _ h => h.data
theorem CGood.data (h : CGood C d X) : X.data (d + 6) = true := h.elim fun _ h => h.data
theorem EGood.up (h : EGood C 0 X) : EGood C d X := h.elim fun code h => ⟨code, V.data_mono _ _ _ (Nat.le_add_left 3 d) h.data, h.nice, fun Xs => (h.run Xs).less (Nat.le_add_left _ _) (kE_pos d)⟩
theorem CGood.up (h : CGood C d X) (hd : d ≤ e) : CGood C e X := h.elim fun f h => ⟨f, V.data_mono _ _ _ (Nat.add_le_add_right hd 6) h.data, h.nice, fun Xs => (h.run Xs).less (Nat.add_le_add_right (Nat.mul_le_mul_left 2 hd) 2) (kC_le hd)⟩
theorem max_self {k : Nat} : max k k + 2 ≤ k + 2 := Nat.add_le_add_right (Nat.max_le.mpr ⟨Nat.le_refl k, Nat.le_refl k⟩) 2
section
variable (hK : C.K = KK C.w.params)
include hK
theorem eg_ref (h : IsRef X) : EGood C 0 X := by
  have hd := h.data
  obtain ⟨s, hs, rfl⟩ := h
  exact ⟨_, V.data_mono 2 _ _ (by decide) hd, fun cnt => ne_leaf (V.data_mono 2 _ _ (by decide) hd), fun Xs => e_leaf hK "ref" _ (by decide +kernel)⟩
theorem eg_num (u : Int) : EGood C 0 (.tuple [.str "number", .tuple [.int u, .int 0]]) :=
  have hd : (V.tuple [.str "number", .tuple [.int u, .int 0]]).data 2 = true := V.data_tup (V.datas_cons (str_data (by decide +kernel) _) (V.datas_cons (V.data_tup (V.datas_cons rfl (V.datas_cons rfl V.datas_nil))) V.datas_nil))
  ⟨_, V.data_mono 2 _ _ (by decide) hd, fun cnt => ne_leaf (V.data_mono 2 _ _ (by decide) hd), fun Xs => e_leaf hK "number" _ (by decide +kernel)⟩
theorem eg_neg (h : EGood C d X) : EGood C (d + 1) (.tuple [.str "neg", X]) := h.elim fun code h =>
  ⟨_, V.data_tup (V.datas_cons (str_data (by decide +kernel) _) (V.datas_cons h.data V.datas_nil)), fun cnt => ne_neg (h.nice cnt), fun Xs => (e_neg hK (h.run Xs)).less (Nat.le_refl _) (Nat.add_le_add_right (Nat.le_add_left _ _) 1)⟩
theorem eg_bin {s : Str} (hs : s = "+" ∨ s = "-" ∨ s = "*" ∨ s = "/") (h : EGood C d X) (k : EGood C d Y) : EGood C (d + 1) (.tuple [.str s, X, Y]) := h.elim fun code h => k.elim fun code2 k =>
  ⟨_, V.data_tup (V.datas_cons (str_data (by rcases hs with rfl | rfl | rfl | rfl <;> decide +kernel) _) (V.datas_cons h.data (V.datas_cons k.data V.datas_nil))),
    fun cnt => ne_bin (by rcases hs with rfl | rfl | rfl | rfl <;> decide +kernel) (by rcases hs with rfl | rfl | rfl | rfl <;> decide +kernel) (h.nice cnt) (k.nice cnt), fun Xs => (e_bin hK hs (h.run Xs) (k.run Xs)).less max_self (Nat.le_refl _)⟩
theorem cg_rel (h : IsRef X) (k : EGood C 1 Y) : CGood C 0 (.tuple [.str "rel", .str "=", X, Y]) :=
  have hd : (V.tuple [.str "rel", .str "=", X, Y]).data 5 = true := V.data_tup (V.datas_cons (str_data (by decide +kernel) _) (V.datas_cons (str_data (by decide +kernel) _) (V.datas_cons (V.data_mono 2 _ _ (by decide) h.data) (V.datas_cons k.data V.datas_nil))))
  ⟨_, V.data_mono 5 _ _ (by decide) hd, fun cnt => nc_rel (V.data_mono 5 _ _ (by decide) hd), fun Xs => c_rel hK _⟩
theorem cg_not (h : CGood C d X) : CGood C (d + 1) (.tuple [.str "not", X]) := h.elim fun f h =>
  ⟨_, V.data_tup (V.datas_cons (str_data (by decide +kernel) _) (V.datas_cons h.data V.datas_nil)), fun cnt => nc_not (h.nice cnt), fun Xs => (c_not hK (h.run Xs)).less (Nat.le_refl _) (Nat.le_add_left _ _)⟩
theorem cg_join (isor : Bool) (h : CGood C d X) (k : CGood C d Y) : CGood C (d + 1) (.tuple [.str (if isor then "or" else "and"), X, Y]) := h.elim fun f h => k.elim fun g k =>
  ⟨_, V.data_tup (V.datas_cons (str_data (by cases isor <;> decide +kernel) _) (V.datas_cons h.data (V.datas_cons k.data V.datas_nil))), fun cnt => nc_join (h.nice cnt) (k.nice cnt), fun Xs => (c_join hK isor (h.run Xs) (k.run Xs)).less max_self (Nat.le_refl _)⟩
end
end
theorem le60 {d k : Nat} (h : 60 ≤ k) : 60 ≤ d + k := Nat.le_trans h (Nat.le_add_left k d)
theorem sign_at {u : Int} (h : 0 ≤ u ∧ u < 4) : ∃ c, ("+-*/" : Str).cps[u.toNat]? = some c ∧ ((⟨#[c]⟩ : Str) = "+" ∨ (⟨#[c]⟩ : Str) = "-" ∨ (⟨#[c]⟩ : Str) = "*" ∨ (⟨#[c]⟩ : Str) = "/") := by
  rcases (show u = 0 ∨ u = 1 ∨ u = 2 ∨ u = 3 from by omega) with rfl | rfl | rfl | rfl <;> exact ⟨_, rfl, by decide +kernel⟩
theorem down_one {d : Nat} : ((d + 1 : Nat) : Int) - 1 = (d : Int) := by omega
theorem SC.genE {C : Cx} {n m k j : Nat} {Fn : Addr} {args ys : List V} {Good : V → Prop} {σ : Store} {a : PA} {P : Pen} {Φ : V → Store → Prop} (G : Gen C m k Fn args Good) (e : ys = args) (A : a.Apart σ) (hf : P.Fit (k + j))
    (h : ∀ X P', Good X → P'.Fit j → Φ X (pst σ a P')) (hm : m ≤ n) : SC C n (.ref Fn) (.ref a.p :: ys) Φ (pst σ a P) := e ▸ SC.gen G A hf h hm
theorem down1 {d : Nat} : [V.int (((d + 1 : Nat) : Int) - 1)] = [V.int d] := congrArg (fun z => [V.int z]) down_one
theorem S_sign {C : Cx} {n : Nat} {v i : Expr} {u : Int} {σ : Store} {Φ : V → Store → Prop} (h : 0 ≤ u ∧ u < 4) (k : ∀ s : Str, (s = "+" ∨ s = "-" ∨ s = "*" ∨ s = "/") → Φ (.str s) σ) (hi : notSlice i = true := by rfl) : SO C n (subscriptTail v i) (.str "+-*/") (.int u) Φ σ :=
  (sign_at h).elim fun c q => ⟨O_itemS h.1 (Int.lt_trans h.2 (by decide)) q.1 (k _ q.2) fun t u => notSlice_sub hi⟩
theorem pickAO {σ : Store} {z : Int} {Φ : V → Store → Prop} (h : 0 ≤ z ∧ z < 2) (k : ∀ isor : Bool, Φ (.str (if isor then "or" else "and")) σ) : SPick [.str "and", .str "or"] z Φ σ := pick2 h (k false) (k true)
theorem two_more {w : Int} (h : 0 ≤ w ∧ w < 4) (h0 : (w == 0) = false) (h1 : (w == 1) = false) : 0 ≤ w - 2 ∧ w - 2 < 2 := by
  have a : w ≠ 0 := by simpa using h0
  have b : w ≠ 1 := by simpa using h1
  omega
theorem beq_0 {w : Int} (h : 0 ≤ w ∧ w < 1) : (w == 0) = true := by have : w = 0 := by omega
                                                                    rw [this]; rfl
theorem log_4 : ∀ i, i < 4 → ((i : Nat) : Int).natAbs.log2 < 1920 := by decide
theorem len_4 : ∀ i : Nat, i < 4 → ("P" : Str).length + (toString ((i : Nat) : Int) : Str).length ≤ 1000 := by decide +kernel
section
variable {C : Cx} (hK : C.K = KK C.w.params)
include hK
theorem S_ref {n j : Nat} {σ : Store} {a : PA} {P : Pen} {Φ : V → Store → Prop} (A : a.Apart σ) (hf : P.Fit (1 + j)) (h : ∀ X P', IsRef X → P'.Fit j → Φ X (pst σ a P')) (hn : 61 ≤ n) : SC C n (.ref 492) [.ref a.p] Φ (pst σ a P) := SC.gen (c_ref hK) A hf h hn
theorem c_expr : ∀ d : Nat, Gen C (d + 63) (gE d) 499 [.int d] (EGood C d)
  | 0 => fun σ a P j A hf => fnX ok_law_expr hK fun L hL => S_draw hK (by decide) A (Pen.Fit.split (a := 1) (b := 1 + 1) hf) (fun way hw P1 f1 => wIf_t (decide_eq_true hw.2)
      (S_ref hK A f1.split (fun X P2 hX f2 => S_draw hK (by decide) A f2 (fun u hu P3 f3 => SC.det (c_decimal (n := 60) hK u) (pick2 hw ⟨Drop.eq ⟨eg_ref hK hX, P3, f3, rfl⟩⟩ ⟨Drop.eq ⟨eg_num hK u, P3, f3, rfl⟩⟩) (by decide)) (by decide)) (by decide))) (by decide)
  | d + 1 => fun σ a P j A hf => fnX ok_law_expr hK fun L hL => wIf_t (decide_eq_true (Int.natCast_pos.mpr (Nat.succ_pos d))) (S_draw hK (by decide) A (Pen.Fit.split (a := 1) (b := 1 + (gE d + gE d)) hf) (fun way hw P1 f1 => wIf_s
      (fun h2 => S_ref hK A (j := 1 + j) (f1.less (by have := gE_pos d; omega)) (fun X P2 hX f2 => S_draw hK (by decide) A f2 (fun u hu P3 f3 => SC.det (c_decimal (n := d + 60) hK u) (pick2 ⟨hw.1, of_decide_eq_true h2⟩ ⟨Drop.eq ⟨(eg_ref hK hX).up, P3, f3, rfl⟩⟩ ⟨Drop.eq ⟨(eg_num hK u).up, P3, f3, rfl⟩⟩) (by omega)) (le60 (by decide))) (by omega))
      (fun h2 => wIf_s
        (fun h3 => SC.genE (c_expr d) down1 A (f1.less (j := gE d + j) (by omega)) (fun X P2 hX f2 => ⟨Drop.eq ⟨eg_neg hK hX, P2, f2, rfl⟩⟩) (by omega))
        (fun h3 => S_draw hK (by decide) A f1.split (fun u hu P2 f2 => S_sign hu fun s hs => SC.genE (c_expr d) down1 A f2.split (fun X P3 hX f3 => SC.genE (c_expr d) down1 A f3 (fun Y P4 hY f4 => ⟨Drop.eq ⟨eg_bin hK hs hX hY, P4, f4, rfl⟩⟩) (by omega)) (by omega)) (le60 (by decide))))) (le60 (by decide)))
theorem c_cond : ∀ d : Nat, Gen C (d + 66) (gC d) 506 [.int d] (CGood C d)
  | 0 => fun σ a P j A hf => fnX ok_law_cond hK fun L hL => S_draw hK (by decide) A (Pen.Fit.split (a := 1) (b := 1 + gE 1) hf) (fun way hw P1 f1 => wIf_t (beq_0 hw)
      (S_ref hK A f1.split (fun X P2 hX f2 => SC.gen (c_expr hK 1) A f2 (fun Y P3 hY f3 => ⟨Drop.eq ⟨cg_rel hK hX hY, P3, f3, rfl⟩⟩) (by decide)) (by decide))) (by decide)
  | d + 1 => fun σ a P j A hf => fnX ok_law_cond hK fun L hL => wIf_t (decide_eq_true (Int.natCast_pos.mpr (Nat.succ_pos d))) (S_draw hK (by decide) A (Pen.Fit.split (a := 1) (b := gC d + gC d) hf) (fun way hw P1 f1 => wIf_s
      (fun h2 => S_ref hK A (j := gE 1 + j) (f1.less (by have := gC_pos d; have : gE 1 = 8 := by decide +kernel
                                                         omega)) (fun X P2 hX f2 => SC.gen (c_expr hK 1) A f2 (fun Y P3 hY f3 => ⟨Drop.eq ⟨(cg_rel hK hX hY).up (Nat.zero_le _), P3, f3, rfl⟩⟩) (by omega)) (by omega))
      (fun h2 => wIf_s
        (fun h3 => SC.genE (c_cond d) down1 A (f1.less (j := gC d + j) (by omega)) (fun X P2 hX f2 => ⟨Drop.eq ⟨cg_not hK hX, P2, f2, rfl⟩⟩) (by omega))
        (fun h3 => pickAO (two_more hw h2 h3) fun isor => SC.genE (c_cond d) down1 A f1.split (fun X P3 hX f3 => SC.genE (c_cond d) down1 A f3 (fun Y P4 hY f4 => ⟨Drop.eq ⟨cg_join hK isor hX hY, P4, f4, rfl⟩⟩) (by omega)) (by omega)))) (le60 (by decide)))
theorem c_pair (cnt : Nat) (h1 : 1 ≤ cnt) (h4 : cnt ≤ 4) : Gen C 61 1 513 [.int cnt] fun X => ∃ i, i < cnt ∧ X = pairV i := fun σ a P j A hf =>
  fnX ok_law_pair hK fun L hL => S_draw hK (Int.natCast_pos.mpr h1) A hf (fun d hd P1 f1 => by
    obtain ⟨i, rfl⟩ : ∃ i : Nat, d = i := ⟨d.toNat, (Int.toNat_of_nonneg hd.1).symm⟩
    have hi := Int.ofNat_lt.mp hd.2
    have h := Nat.lt_of_lt_of_le hi h4
    exact ⟨B_str (log_4 i h) ⟨O_strAdd (Nat.le_trans (len_4 i h) (Nat.le_trans (by decide) sizeLine_big)) ⟨Drop.eq ⟨⟨i, hi, rfl⟩, P1, f1, rfl⟩⟩⟩⟩) (Nat.le_refl _)
end
end
section
open PySem PySem.W PySem.Calls PyProof.Rows PySem.Spec
set_option backward.isDefEq.lazyWhnfCore false
theorem kC1 : kC 1 = 7 := by decide +kernel
theorem gE1 : gE 1 = 8 := by decide +kernel
theorem gC1 : gC 1 = 21 := by decide +kernel
structure RowG (C : Cx) (r : Row) : Prop where
  data : r.v.data 9 = true
  nice : ∀ cnt, RowNice cnt r
  ok : ∀ Xs, RowOk C Xs 4 7 r
structure LCode (C : Cx) (X : V) (tf : (D → D) → D → D) : Prop where
  data : X.data 12 = true
  nice : ∀ cnt fg, NiceS cnt fg → NiceS cnt (tf fg)
  run : ∀ Xs g m j fg, Runs C Xs m j 265 [g] fg → Runs C Xs (m + 12) (j + 166) 272 [.tuple [.str "perform", g, X]] (tf fg)
noncomputable def LGood (C : Cx) (X : V) : Prop := ∃ tf, LCode C X tf
section
variable {C : Cx} (hK : C.K = KK C.w.params)
include hK
omit hK in
theorem rowG_of {X Y Z W : V} (hX : IsRef X) (hY : EGood C 1 Y) (hZ : EGood C 1 Z) (hW : CGood C 1 W) : ∃ r : Row, .tuple [X, Y, Z, W] = r.v ∧ RowG C r :=
  hY.elim fun bc y => hZ.elim fun ac z => hW.elim fun fc w => ⟨⟨X, Y, bc, Z, ac, W, fc⟩, rfl,
    V.data_tup (V.datas_cons (V.data_mono 2 8 _ (by decide) hX.data) (V.datas_cons (V.data_mono 4 8 _ (by decide) y.data) (V.datas_cons (V.data_mono 4 8 _ (by decide) z.data) (V.datas_cons (V.data_mono 7 8 _ (by decide) w.data) V.datas_nil)))),
    fun cnt => ⟨V.data_mono 2 _ _ (by decide) hX.data, y.nice cnt, z.nice cnt, w.nice cnt⟩, fun Xs => ⟨(y.run Xs).less (by decide) (by decide +kernel), (z.run Xs).less (by decide) (by decide +kernel), (w.run Xs).less (by decide) (by decide +kernel)⟩⟩
theorem lg_once : LGood C (.tuple [.str "once"]) :=
  ⟨fun fg => fg, by decide +kernel, fun cnt fg h => h, fun Xs g m j fg R => (r_perform hK (ls := []) "once" R (.inl ⟨rfl, rfl, rfl, rfl⟩)).less (Nat.le_add_right (m + 2) 10) (Nat.le_add_right j 166)⟩
theorem lg_times {X : V} (hX : IsRef X) : LGood C (.tuple [.str "times", X]) :=
  ⟨timesF X, V.data_mono 3 12 _ (by decide) (V.data_tup (V.datas_cons (str_data (by decide +kernel) _) (V.datas_cons hX.data V.datas_nil))), fun cnt fg h => ns_times (V.data_mono 2 _ _ (by decide) hX.data) h,
    fun Xs g m j fg R => (r_perform hK (ls := [X]) "times" (r_times hK R) (.inr (.inl ⟨rfl, rfl, _, rfl, rfl⟩))).less (Nat.le_add_right (m + 2 + 2) 8) (Nat.le_add_right (j + 6) 160)⟩
theorem lg_until {b : Bool} {X : V} (hX : CGood C 1 X) : LGood C (.tuple [.str "until", .bool b, X]) := hX.elim fun fc w =>
  ⟨untilF b fc, V.data_mono 8 12 _ (by decide) (V.data_tup (V.datas_cons (str_data (by decide +kernel) _) (V.datas_cons rfl (V.datas_cons w.data V.datas_nil)))), fun cnt fg h => ns_until (w.nice cnt) h,
    fun Xs g m j fg R => (r_perform hK (ls := [.bool b, X]) "until" (r_until hK b R (w.run Xs)) (.inr (.inr (.inl ⟨rfl, rfl, _, _, rfl, rfl⟩)))).less (by omega) (by rw [kC1]; omega)⟩
omit hK in
theorem rows_data {rs : List Row} (hr : ∀ r ∈ rs, RowG C r) : V.datas 9 (rs.map Row.v) = true := V.datas_all fun y hy => (List.mem_map.mp hy).elim fun r q => q.2 ▸ (hr r q.1).data
theorem lg_vary {b : Bool} {rs : List Row} (hr : ∀ r ∈ rs, RowG C r) (h0 : rs ≠ []) (h3 : rs.length ≤ 3) : LGood C (.tuple [.str "varying", .bool b, .tuple (rs.map Row.v)]) := by
  have hd := V.data_mono 11 12 _ (by decide) (V.data_tup (V.datas_cons (x := .str "varying") (str_data (by decide +kernel) _) (V.datas_cons (x := .bool b) rfl (V.datas_cons (V.data_tup (rows_data hr)) V.datas_nil))))
  cases b
  · exact ⟨varyF rs, hd, fun cnt fg h => ns_vary (fun r h => (hr r h).nice cnt) h0 h, fun Xs g m j fg R => (r_perform hK (ls := [.bool false, .tuple (rs.map Row.v)]) "varying" (r_vary hK (fun r h => (hr r h).ok Xs) h3 h0 R) (.inr (.inr (.inr (.inr ⟨rfl, rfl, _, rfl, rfl⟩))))).less (by omega) (by omega)⟩
  · exact ⟨varyAfterF rs, hd, fun cnt fg h => ns_varyAfter (fun r h => (hr r h).nice cnt) h, fun Xs g m j fg R => (r_perform hK (ls := [.bool true, .tuple (rs.map Row.v)]) "varying" (r_vary_after hK (fun r h => (hr r h).ok Xs) h3 R) (.inr (.inr (.inr (.inl ⟨rfl, rfl, _, rfl, rfl⟩))))).less (by omega) (by omega)⟩
end
theorem fnXP {C : Cx} {n : Nat} {σ : Store} {a : PA} {P : Pen} {ad : Addr} {f : FnAt KK ad} {names : List Str} (ok : FnOkC f names "pen") (hK : C.K = KK C.w.params) (A : a.Apart σ) {args : List V} {ρ₀ : Loc} {Φ : V → Store → Prop}
    (h : ∀ L σ', a.Apart σ' → σ' (L + 1) = some (.cell (some (.ref a.p))) → (∀ b x, σ b = some x → σ' b = some x) → (W C n).ss (callEnvC f.fd L ad) ρ₀ f.body (RetN Φ) (RetJ Φ) (pst σ' a P))
    (hρ : ∀ L, Loc.bindsK (callEnvC f.fd L ad).kindOf names (.ref a.p :: args) Loc.none = ρ₀ := by intro _; rfl) (hX : ∀ L, Loc.bindsC (callEnvC f.fd L ad).kindOf names (.ref a.p :: args) Loc.none "pen" = some (.ref a.p) := by intro _; rfl) (hl : names.length = (V.ref a.p :: args).length := by rfl) : TCc C (n + 1) (pst σ a P) ad (.ref a.p :: args) Φ :=
  fnXC ok hK (fun L hL hL1 => newP hL1 A fun σ1 A1 hc hs => h L σ1 A1 hc hs) hρ hX hl
theorem S_rangeE {C : Cx} {n : Nat} {σ : Store} {k : Nat} {z : Int} {T : V → Store → Prop} (e : z = (k : Int)) (hz : k ≤ 100000) (hT : ∀ r, σ r = none → Builtin.Range.small 0 (k : Int) 1 = true → Builtin.Range.rangeSize 0 (k : Int) 1 = (k : Int) → T (.ref r) (σ.set r (.rng 0 k 1))) : SC C n (.typ "range") [.int z] T σ := e ▸ S_range hz hT
structure LJ (C : Cx) (σ : Store) (a : PA) (j m i : Nat) (Zs : List V) (τ : Store) (P : Pen) (rs : List Row) : Prop where
  fit : P.Fit (38 * (m - i) + (1 + j))
  st : τ = pst σ a P
  vs : Zs = rs.map Row.v
  len : rs.length = i
  ok : ∀ r ∈ rs, RowG C r
theorem fit_row {j m i : Nat} {P : Pen} (h : P.Fit (38 * (m - i) + (1 + j))) (hi : i < m) : P.Fit (1 + (gE 1 + (gE 1 + (gC 1 + (38 * (m - (i + 1)) + (1 + j)))))) := h.less (by
  rw [gE1, gC1]; omega)
theorem mem_snoc {α : Type} {p : α → Prop} {l : List α} {x : α} (h : ∀ y ∈ l, p y) (k : p x) : ∀ y ∈ l ++ [x], p y := fun y hy => (List.mem_append.mp hy).elim (h y) fun q => List.mem_singleton.mp q ▸ k
section
variable {C : Cx} (hK : C.K = KK C.w.params)
include hK
theorem c_loop : Gen C 72 120 518 [] (LGood C) := fun σ a P j A0 hf => fnXP ok_law_loop hK A0 (ρ₀ := Loc.none) fun L σc A hc hs => by
  refine SCell.at (pst_at A hc) (S_draw hK (by decide) A (j := 119 + j) (hf.less (by omega)) (fun way hw P1 f1 => wIf_s
    (fun h => ⟨_, pst_sub A hs, lg_once hK, P1, f1.less (Nat.le_add_left _ _), rfl⟩)
    (fun h0 => wIf_s
      (fun h => SCell.at (pst_at A hc) (S_ref hK A (j := j) (f1.less (by omega)) (fun X P2 hX f2 => ⟨_, pst_sub A hs, lg_times hK hX, P2, f2, rfl⟩) (by decide)))
      (fun h1 => wIf_s
        (fun h => SCell.at (pst_at A hc) (S_draw hK (by decide) A (j := gC 1 + j) (f1.less (by rw [gC1]; omega)) (fun u hu P2 f2 => SCell.at (pst_at A hc) (SC.gen (c_cond hK 1) A f2 (fun X P3 hX f3 => ⟨_, pst_sub A hs, lg_until hK hX, P3, f3, rfl⟩) (by decide))) (by decide)))
        (fun h2 => SCell.at (pst_at A hc) (S_draw hK (by decide) A (j := 117 + j) (f1.less (by omega)) (fun u hu P2 f2 => ?_) (by decide)))))) (by decide))
  obtain ⟨m, e⟩ : ∃ m : Nat, 1 + u = m := ⟨(1 + u).toNat, by omega⟩
  have hm : 1 ≤ m ∧ m ≤ 3 := by omega
  refine S_rangeE e (Nat.le_trans hm.2 (by decide)) fun r hr s1 s2 => SComp.rng hr s1 s2 (SComp.gen hK (fun Ca => ⟨rfl, rfl, rfl, rfl⟩) (.tup _) (by rw [rngVs_len]; exact Nat.le_trans hm.2 (by decide)) (fun i Zs τ => ∃ P rs, LJ C σc a j m i Zs τ P rs)
    ⟨P2, [], f2.less (by omega), rfl, rfl, rfl, fun _ h => by cases h⟩ (fun Ca i Y Zs τ hY ⟨P3, rs, J⟩ => ?_) fun D Zs τ ⟨P3, rs, J⟩ hD _ => ?_)
  · rw [J.st]
    refine SCell.at (pst_at A hc) (S_ref hK A (fit_row J.fit (rngVs_nat hY).1) (fun X P4 hX f4 => SCell.at (pst_at A hc) (SC.gen (c_expr hK 1) A f4 (fun Y P5 hY f5 => SCell.at (pst_at A hc) (SC.gen (c_expr hK 1) A f5 (fun Z P6 hZ f6 => SCell.at (pst_at A hc) (SC.gen (c_cond hK 1) A f6 (fun W P7 hW f7 => ?_) (by decide))) (by decide))) (by decide))) (by decide))
    exact (rowG_of hX hY hZ hW).elim fun q h => ⟨P7, rs ++ [q], f7, rfl, by rw [J.vs, h.1, List.map_append]; rfl, by rw [List.length_append, J.len]; rfl, mem_snoc J.ok h.2⟩
  · have hl := J.len
    rw [rngVs_len] at hl
    have hD := hD
    rw [J.st] at hD ⊢
    rw [J.vs]
    refine Drop.eq (newP hD A fun σ1 A1 hl1 hs1 => SCell.at (pst_at A1 (hs1 _ _ hc)) (S_draw hK (by decide) A1 (j := j) (J.fit.less (by omega)) (fun u hu P4 f4 => S_tupL (pst_at A1 hl1) (mapl (by omega)) ⟨_, pst_sub A1 (sub_trans hs hs1), lg_vary hK J.ok (fun e => ?_) (by omega), P4, f4, rfl⟩) (by decide)))
    rw [e] at hl
    exact absurd hl.symm (Nat.ne_of_gt hm.1)
end
end
section
open PySem PySem.W PySem.Calls PyProof.Rows PySem.Spec
set_option backward.isDefEq.lazyWhnfCore false
noncomputable def dS (d : Nat) : Nat := 13 + 4 * d
noncomputable def nS : Nat → Nat
  | 0 => 18
  | d + 1 => 3 * nS d + 36
noncomputable def kS : Nat → Nat
  | 0 => 167
  | d + 1 => 6 * kS d + 167
theorem nS_pos : ∀ d, 18 ≤ nS d
  | 0 => Nat.le_refl _
  | d + 1 => Nat.le_trans (by decide) (Nat.le_add_left 36 _)
theorem kS_pos : ∀ d, 167 ≤ kS d
  | 0 => Nat.le_refl _
  | d + 1 => Nat.le_add_left 167 _
theorem dS_pos (d : Nat) : 13 ≤ dS d := Nat.le_add_right 13 _
theorem dS_up (d : Nat) : dS d + 4 = dS (d + 1) := rfl
structure SCode (C : Cx) (cnt d : Nat) (X : V) (f : D → D) : Prop where
  data : X.data (dS d) = true
  nice : NiceS cnt f
  run : ∀ Xs : List V, Xs.length = cnt → Runs C Xs (nS d) (kS d) 225 [X] f
noncomputable def SGood (C : Cx) (cnt d : Nat) (X : V) : Prop := ∃ f, SCode C cnt d X f
structure SsCode (C : Cx) (cnt d : Nat) (sts : List V) (f : D → D) : Prop where
  len : sts.length ≤ 2
  data : V.datas (dS d) sts = true
  nice : NiceS cnt f
  run : ∀ Xs : List V, Xs.length = cnt → Runs C Xs (nS d + 2) (2 * kS d) 220 [.tuple sts] f
noncomputable def SsGood (C : Cx) (cnt d : Nat) (X : V) : Prop := ∃ sts f, X = .tuple sts ∧ SsCode C cnt d sts f
theorem SGood.up {C : Cx} {cnt d : Nat} {X : V} (h : SGood C cnt 0 X) : SGood C cnt d X := h.elim fun f h => ⟨f, V.data_mono _ _ _ (dS_pos d) h.data, h.nice, fun Xs hX => (h.run Xs hX).less (nS_pos d) (kS_pos d)⟩
theorem SsGood.data {C : Cx} {cnt d : Nat} {X : V} (h : SsGood C cnt d X) : X.data (dS d + 1) = true := h.elim fun sts h => h.elim fun f h => h.1 ▸ V.data_tup h.2.data
theorem tup_in {d e : Nat} {xs : List V} (h : V.datas d xs = true) (he : d + 1 ≤ e) : (V.tuple xs).data e = true := V.data_mono _ _ _ he (V.data_tup h)
theorem d1 {d : Nat} {x : V} (h : x.data d = true) : V.datas d [x] = true := V.datas_cons h V.datas_nil
theorem pair_data {i : Nat} (h : i < 4) : (pairV i).data 1 = true := V.data_tup (V.datas_cons (str_data (pname_ne i h).2.2 _) (d1 (str_data (by decide +kernel) _)))
theorem range_data {i j : Nat} (hi : i < 4) (hj : j < 4) : (V.tuple [.str "range", pairV i, pairV j]).data 2 = true := V.data_tup (V.datas_cons (str_data (by decide +kernel) _) (V.datas_cons (pair_data hi) (d1 (pair_data hj))))
noncomputable def optF (bs : List V) (f : D → D) : Option (D → D) := match bs with
  | [] => none
  | _ :: _ => some f
theorem optF_iff {bs : List V} {f : D → D} : bs = [] ↔ optF bs f = none := by
  cases bs with
  | nil => exact ⟨fun _ => rfl, fun _ => rfl⟩
  | cons x r => exact ⟨(fun h => by cases h), (fun h => by cases h)⟩
theorem optF_all {bs : List V} {f : D → D} {P : (D → D) → Prop} (h : P f) : ∀ g, optF bs f = some g → P g := fun g e => by
  cases bs with
  | nil => cases e
  | cons x r => cases e; exact h
section
variable {C : Cx} (hK : C.K = KK C.w.params) {cnt d : Nat}
include hK
omit hK in
theorem ss_list : ∀ sts : List V, (∀ X ∈ sts, SGood C cnt d X) → ∃ fs : List (D → D), fs.length = sts.length ∧ (∀ f ∈ fs, NiceS cnt f) ∧ ∀ (i : Nat) X f, sts[i]? = some X → fs[i]? = some f → ∀ Xs : List V, Xs.length = cnt → Runs C Xs (nS d) (kS d) 225 [X] f
  | [], _ => ⟨[], rfl, (fun _ h => by cases h), fun i X f e => by cases e⟩
  | x :: r, h => (ss_list r fun X hX => h X (.tail _ hX)).elim fun fs q => (h x (.head _)).elim fun f g => ⟨f :: fs, congrArg Nat.succ q.1, fun k hk => (List.mem_cons.mp hk).elim (fun e => e ▸ g.nice) (q.2.1 k), fun i X k e1 e2 => by
      cases i with
      | zero => cases e1; cases e2; exact g.run
      | succ i => exact q.2.2 i X k e1 e2⟩
theorem ss_of {sts : List V} (h : ∀ X ∈ sts, SGood C cnt d X) (hl : sts.length ≤ 2) : SsGood C cnt d (.tuple sts) := (ss_list sts h).elim fun fs q =>
  ⟨sts, runAll fs, rfl, hl, V.datas_all fun x hx => (h x hx).elim fun _ g => g.data, ns_runAll q.2.1, fun Xs hX => (r_statements hK q.1 fun i X f a b => q.2.2 i X f a b Xs hX).less (Nat.le_refl _) (Nat.mul_comm .. ▸ Nat.mul_le_mul_right _ hl)⟩
theorem ss_nil : SsGood C cnt d (.tuple []) := ss_of hK (fun _ h => by cases h) (Nat.zero_le _)
theorem sg_exit : SGood C cnt 0 (.tuple [.str "exit"]) := ⟨_, by decide +kernel, ns_id, fun Xs hX => (r_st_exit hK (n := 0)).less (by decide) (by decide)⟩
theorem sg_stop : SGood C cnt 0 (.tuple [.str "stop"]) := ⟨_, by decide +kernel, ns_put (o := .stop "stop") (hs_0 rfl rfl) (.inl rfl), fun Xs hX => (r_st_stop hK (n := 0) true).less (by decide) (by decide)⟩
theorem sg_exitp : SGood C cnt 0 (.tuple [.str "exit-program"]) := ⟨_, by decide +kernel, ns_put (o := .stop "exit") (hs_0 rfl rfl) (.inr rfl), fun Xs hX => (r_st_stop hK (n := 0) false).less (by decide) (by decide)⟩
theorem sg_goto {i : Nat} (h4 : cnt ≤ 4) (hi : i < cnt) : SGood C cnt 0 (.tuple [.str "goto", pairV i]) :=
  ⟨_, tup_in (d := 1) (V.datas_cons (str_data (by decide +kernel) _) (d1 (pair_data (Nat.lt_of_lt_of_le hi h4)))) (by decide), ns_put (o := .jump i) (hs_0 rfl rfl) ⟨Int.natCast_nonneg i, Int.ofNat_lt.mpr hi⟩, fun Xs hX => (r_st_goto hK (n := 0) (hX ▸ h4) i (hX ▸ hi)).less (by decide) (by decide)⟩
theorem sg_dep (h4 : cnt ≤ 4) {X : V} (hX : IsRef X) {js : List Nat} (hj : ∀ j ∈ js, j < cnt) (hl : js.length ≤ 3) : SGood C cnt 0 (.tuple [.str "goto-dep", .tuple (js.map pairV), X]) :=
  ⟨gotoDepF X js, tup_in (d := 2) (V.datas_cons (str_data (by decide +kernel) _) (V.datas_cons (V.data_tup (V.datas_all fun y hy => (List.mem_map.mp hy).elim fun j q => q.2 ▸ pair_data (Nat.lt_of_lt_of_le (hj j q.1) h4))) (d1 hX.data))) (by decide), ns_gotoDep (V.data_mono 2 _ _ (by decide) hX.data) hj hl,
    fun Xs hx => (r_st_dep hK (n := 0) (hx ▸ h4) (r := X) (by obtain ⟨s, hs, rfl⟩ := hX; exact e_leaf hK "ref" _ (by decide +kernel)) js (hx ▸ hj) (Nat.le_trans hl (by decide))).less (by decide) (by decide)⟩
theorem sg_move {X Y : V} (hX : IsRef X) (hY : IsRef Y) : SGood C cnt 0 (.tuple [.str "move", X, .tuple [Y]]) := by
  have hdt : (moveV X Y).data 4 = true := V.data_tup (V.datas_cons (str_data (by decide +kernel) _) (V.datas_cons (V.data_mono 2 _ _ (by decide) hX.data) (d1 (V.data_tup (d1 hY.data)))))
  refine ⟨deedF (moveV X Y) [] [] (fun _ d => d), V.data_mono 4 _ _ (by decide) hdt, ns_deed (V.data_mono 4 _ _ (by decide) hdt) (fun s hs => ns_id) (fun s hs => by cases hs), fun Xs hx => ?_⟩
  have r := r_deed hK (Xs := Xs) (n := 0) (k := 0) (ps := []) (F := fun _ d => d) (.inr (.inr ⟨X, Y, rfl, rfl⟩)) (by decide) (by decide) (fun s hs => by cases hs) (fun s => grows_id) (fun s B h => by cases h) (fun s hs => by cases hs)
  exact (r_st_via hK (w := "move") (r := [X, .tuple [Y]]) r (.inr (.inr (.inr (.inr (.inr ⟨rfl, rfl⟩)))))).less (by decide) (by decide)
theorem sg_perf {e n k m : Nat} {g L : V} {fg : D → D} (hL : LGood C L) (hg : g.data m = true) (hm : m + 1 ≤ dS e) (nf : NiceS cnt fg) (R : ∀ Xs : List V, Xs.length = cnt → Runs C Xs n k 265 [g] fg) (hn : n + 12 + 2 ≤ nS e) (hk : k + 166 ≤ kS e) :
    SGood C cnt e (.tuple [.str "perform", g, L]) := hL.elim fun tf h =>
  ⟨tf fg, V.data_mono (max m 12 + 1) _ _ (by have := dS_pos e; omega) (V.data_tup (V.datas_cons (str_data (by decide +kernel) _) (V.datas_cons (V.data_mono _ _ _ (Nat.le_max_left m 12) hg) (d1 (V.data_mono _ _ _ (Nat.le_max_right m 12) h.data))))), h.nice cnt fg nf,
    fun Xs hx => (r_st_via hK (w := "perform") (r := [g, L]) (h.run Xs g n k fg (R Xs hx)) (.inr (.inr (.inl ⟨rfl, rfl⟩)))).less hn hk⟩
theorem sg_perf_range {i j : Nat} (h4 : cnt ≤ 4) (hi : i < cnt) (hj : j < cnt) {L : V} (hL : LGood C L) : SGood C cnt 0 (.tuple [.str "perform", .tuple [.str "range", pairV i, pairV j], L]) :=
  sg_perf hK hL (range_data (Nat.lt_of_lt_of_le hi h4) (Nat.lt_of_lt_of_le hj h4)) (by decide) (ns_put (o := .perform i j) (hs_0 rfl rfl) ⟨Int.natCast_nonneg _, Int.ofNat_lt.mpr hi, Int.natCast_nonneg _, Int.ofNat_lt.mpr hj⟩) (fun Xs hX => r_goal_range hK (hX ▸ h4) i j (hX ▸ hi) (hX ▸ hj)) (by decide) (by decide)
theorem sg_perf_body {B : V} (hB : SsGood C cnt d B) {L : V} (hL : LGood C L) : SGood C cnt (d + 1) (.tuple [.str "perform", .tuple [.str "body", B], L]) :=
  have hd := hB.data
  hB.elim fun sts h => h.elim fun f h => sg_perf hK hL (m := dS d + 2) (V.data_tup (V.datas_cons (str_data (by decide +kernel) _) (d1 hd))) (Nat.le_succ _) h.2.nice (fun Xs hX => r_goal_body hK (h.1 ▸ h.2.run Xs hX)) (by rw [nS]; omega) (by rw [kS]; omega)
omit hK in
theorem sort_data {out : Option (Nat × Nat)} {x : Str} (hx : PyData.strOk x = true) (h : ∀ i j, out = some (i, j) → i < 4 ∧ j < 4) : (match out with | none => V.tuple [.str "files", .tuple [.str x]] | some (i, j) => .tuple [.str "range", pairV i, pairV j]).data 2 = true := by
  cases out with
  | none => exact V.data_tup (V.datas_cons (str_data (by decide +kernel) _) (d1 (V.data_tup (d1 (str_data hx _)))))
  | some p => exact range_data (h p.1 p.2 rfl).1 (h p.1 p.2 rfl).2
theorem sg_sort (h4 : cnt ≤ 4) (inp out : Option (Nat × Nat)) (hi : ∀ i j, inp = some (i, j) → i < cnt ∧ j < cnt) (ho : ∀ i j, out = some (i, j) → i < cnt ∧ j < cnt) : SGood C cnt 0 (sortV inp out) :=
  ⟨fun d => d.app (sortOps inp out), tup_in (d := 2) (V.datas_cons (str_data (by decide +kernel) _) (V.datas_cons (str_data (by decide +kernel) _) (V.datas_cons (by decide +kernel) (V.datas_cons rfl (V.datas_cons (sort_data (by decide +kernel) fun i j e => ⟨Nat.lt_of_lt_of_le (hi i j e).1 h4, Nat.lt_of_lt_of_le (hi i j e).2 h4⟩) (d1 (sort_data (by decide +kernel) fun i j e => ⟨Nat.lt_of_lt_of_le (ho i j e).1 h4, Nat.lt_of_lt_of_le (ho i j e).2 h4⟩))))))) (by decide), ns_sort hi ho,
    fun Xs hX => (r_st_via hK (w := "sort") (r_sort hK (hX ▸ h4) inp out (hX ▸ hi) (hX ▸ ho)) (.inr (.inr (.inr (.inl ⟨rfl, rfl⟩))))).less (by decide) (by decide)⟩
theorem sg_if {c A B : V} (hc : CGood C 2 c) (hA : SsGood C cnt d A) (hB : SsGood C cnt d B) : SGood C cnt (d + 1) (.tuple [.str "if", c, A, B]) := by
  have dt : (V.tuple [.str "if", c, A, B]).data (dS (d + 1)) = true := tup_in (V.datas_cons (str_data (by decide +kernel) _) (V.datas_cons (V.data_mono 8 _ _ (by have := dS_pos d; omega) hc.data) (V.datas_cons hA.data (d1 hB.data)))) (by rw [← dS_up]; omega)
  obtain ⟨fc, hc⟩ := hc
  obtain ⟨as, fa, rfl, hA⟩ := hA
  obtain ⟨bs, fb, rfl, hB⟩ := hB
  have kc2 : kC 2 = 15 := by decide +kernel
  exact ⟨ifF fc fa (optF bs fb), dt, ns_if (hc.nice cnt) hA.nice (optF_all hB.nice), fun Xs hX => (r_st_via hK (w := "if") (r_if hK (hc.run Xs) (hA.run Xs hX) optF_iff (Nat.le_trans hB.len (by decide)) (optF_all (hB.run Xs hX))) (.inl ⟨rfl, rfl⟩)).less (by rw [nS]; omega) (by rw [kS, kc2]; omega)⟩
end
structure BrG (C : Cx) (cnt d : Nat) (keys : List Str) (ps : List (Str × V)) : Prop where
  sub : (ps.map (·.1)).Sublist keys
  ok : ∀ p ∈ ps, SsGood C cnt d p.2
theorem lkD_mem {s : Str} {ps : List (Str × V)} {B : V} (h : lkD s ps = some B) : ∃ p ∈ ps, p.2 = B := by
  unfold lkD at h
  obtain ⟨p, h1, h2⟩ := Option.map_eq_some_iff.mp h
  exact ⟨p, List.mem_of_find?_eq_some h1, h2⟩
theorem lkD_has {ps : List (Str × V)} {p : Str × V} (hp : p ∈ ps) : ∃ B, lkD p.1 ps = some B := by
  cases e : lkD p.1 ps with
  | some B => exact ⟨B, rfl⟩
  | none =>
    unfold lkD at e
    rw [Option.map_eq_none_iff, List.find?_eq_none] at e
    have := e p hp
    simp at this
section
variable {C : Cx} (hK : C.K = KK C.w.params) {cnt d : Nat}
include hK
theorem br_get {keys : List Str} {ps : List (Str × V)} (h : BrG C cnt d keys ps) (s : Str) : SsGood C cnt d ((lkD s ps).getD (.tuple [])) := by
  cases e : lkD s ps with
  | none => exact ss_nil hK
  | some B => exact (lkD_mem e).elim fun p q => q.2 ▸ h.ok p q.1
omit hK in
theorem br_data {keys : List Str} {ps : List (Str × V)} (h : BrG C cnt d keys ps) (hk : ∀ k ∈ keys, PyData.strOk k = true) : (pairsV ps).data (dS d + 3) = true :=
  V.data_tup (V.datas_all fun x hx => (List.mem_map.mp hx).elim fun p q => q.2 ▸ V.data_tup (V.datas_cons (str_data (hk _ (h.sub.subset (List.mem_map_of_mem q.1))) _) (d1 (h.ok p q.1).data)))
omit hK in
theorem br_len {a b : Str} {ps : List (Str × V)} (h : BrG C cnt d [a, b] ps) : ps.length ≤ 2 := by
  have := h.sub.length_le; rwa [List.length_map] at this
theorem sg_arith {E R : V} {ps : List (Str × V)} (hE : EGood C 2 E) (hR : IsRef R) (h : BrG C cnt d ["size", "not size"] ps) : SGood C cnt (d + 1) (arithV E (.tuple [.tuple [R, .bool false, .str "="]]) ps) := by
  have h13 := dS_pos d
  have hrt : (V.tuple [.tuple [R, .bool false, .str "="]]).data 4 = true := V.data_tup (d1 (V.data_tup (V.datas_cons hR.data (V.datas_cons rfl (d1 (str_data (by decide +kernel) _))))))
  have dt : (arithV E (.tuple [.tuple [R, .bool false, .str "="]]) ps).data (dS (d + 1)) = true := tup_in (V.datas_cons (str_data (by decide +kernel) _) (V.datas_cons (V.data_mono 5 _ _ (by omega) hE.data) (V.datas_cons (V.data_mono 4 _ _ (by omega) hrt) (d1 (br_data h (by decide +kernel)))))) (Nat.le_refl _)
  obtain ⟨code, hE⟩ := hE
  obtain ⟨ns, fn, eN, hN⟩ := br_get hK h "not size"
  obtain ⟨ss, fs, eS, hS⟩ := br_get hK h "size"
  have ke2 : kE 2 = 7 := by decide +kernel
  exact ⟨arithF (.tuple [.tuple [R, .bool false, .str "="]]) code fn (optF ss fs), dt, ns_arith (hE.nice cnt) (V.data_mono 4 _ _ (by decide) hrt) hN.nice (optF_all hS.nice),
    fun Xs hX => (r_st_via hK (w := "arith") (r_arith hK (hE.run Xs) (hN.run Xs hX) (Nat.le_trans (br_len h) (by decide)) (h.sub.nodup (by decide +kernel)) eN eS optF_iff (Nat.le_trans hS.len (by decide)) (optF_all (hS.run Xs hX))) (.inr (.inl ⟨rfl, rfl⟩))).less (by rw [nS]; omega) (by rw [kS, ke2]; omega)⟩
theorem sg_read {ps : List (Str × V)} (hd1 : d ≤ 1) (h : BrG C cnt d ["end", "not end"] ps) : SGood C cnt (d + 1) (readV ps) := by
  have rdt : (readV ps).data (dS d + 4) = true := V.data_tup (V.datas_cons (str_data (by decide +kernel) _) (V.datas_cons (str_data (by decide +kernel) _) (V.datas_cons rfl (V.datas_cons rfl (V.datas_cons rfl (d1 (br_data h (by decide +kernel))))))))
  have ex : ∀ s, ∃ f, NiceS cnt f ∧ ∀ Xs : List V, Xs.length = cnt → Runs C Xs (nS d + 2) (2 * kS d) 220 [(lkD s ps).getD (.tuple [])] f := fun s => (br_get hK h s).elim fun sts q => q.elim fun f q => ⟨f, q.2.nice, fun Xs hX => q.1 ▸ q.2.run Xs hX⟩
  obtain ⟨F, hF⟩ := Classical.axiomOfChoice ex
  have sub : ∀ s ∈ ps.map (·.1), s ∈ (["end", "not end"] : List Str) := fun s hs => h.sub.subset hs
  have ok : ∀ s ∈ (["end", "not end"] : List Str), PyData.strOk s = true ∧ s.length ≤ 100 := by decide +kernel
  have mem2 : ∀ s ∈ ((ps.map (·.1)).filter fun x => !isNot x) ++ ((ps.map (·.1)).filter isNot).take 1, s ∈ ps.map (·.1) := fun s hs => (List.mem_append.mp hs).elim (fun hs => (List.mem_filter.mp hs).1) fun hs => (List.mem_filter.mp (List.mem_of_mem_take hs)).1
  have hd24 : dS d + 4 ≤ 24 := Nat.le_trans (Nat.add_le_add_right (Nat.add_le_add_left (Nat.mul_le_mul_left 4 hd1) 13) 4) (by decide)
  refine ⟨deedF (readV ps) ((ps.map (·.1)).filter fun x => !isNot x) ((ps.map (·.1)).filter isNot) F, rdt, ns_deed (V.data_mono _ _ _ hd24 rdt) (fun s _ => (hF s).1) (fun s hs => (ok s (sub s (mem2 s hs))).1), fun Xs hX => ?_⟩
  have r := r_deed hK (Xs := Xs) (ps := ps) (F := F) (.inr (.inl rfl)) (br_len h) (h.sub.nodup (by decide +kernel)) (fun s hs => (ok s (sub s hs)).2) (fun s => ((hF s).2 Xs hX).grows) (fun s B hB => by have := (hF s).2 Xs hX; rw [hB] at this; exact this) (fun s hs => (List.mem_map.mp hs).elim fun p q => q.2 ▸ lkD_has q.1)
  exact (r_st_via hK (w := "read") r (.inr (.inr (.inr (.inr (.inl ⟨rfl, rfl⟩)))))).less (by rw [nS]; omega) (by rw [kS]; omega)
end
end
section
open PySem PySem.W PySem.Calls PyProof.Rows PySem.Spec
set_option backward.isDefEq.lazyWhnfCore false
section
variable {C : Cx} (hK : C.K = KK C.w.params) {cnt d : Nat}
include hK
theorem when_cond {E : V} {w : When} (hE : EGood C 1 E) (hw : EGood C 1 w.e) : ∃ fc, NiceC cnt fc ∧ ∀ Xs, CRun C Xs 4 3 (w.cond E) fc := by
  have hdd : (V.tuple [.str "rel", .str "=", E, w.e]).data 24 = true := tup_in (d := 4) (V.datas_cons (str_data (by decide +kernel) _) (V.datas_cons (str_data (by decide +kernel) _) (V.datas_cons hE.data (d1 hw.data)))) (by decide)
  unfold When.cond notIf
  cases w.b
  · exact ⟨_, nc_rel hdd, fun Xs => (c_rel hK _).less (by decide) (Nat.le_refl _)⟩
  · exact ⟨_, nc_not (nc_rel hdd), fun Xs => c_not hK (c_rel hK _)⟩
theorem if_when {E : V} {w : When} {fa f : D → D} {bs : List V} {n k : Nat} (hE : EGood C 1 E) (hw : EGood C 1 w.e) (ha : SsCode C cnt d w.sts fa) (lb : bs.length ≤ 1000) (nf : NiceS cnt f) (R : ∀ Xs : List V, Xs.length = cnt → Runs C Xs n k 220 [.tuple bs] f) :
    ∃ g, NiceS cnt g ∧ ∀ Xs : List V, Xs.length = cnt → Runs C Xs (nS d + 10 + n) (2 * kS d + 6 + k) 225 [.tuple [.str "if", w.cond E, .tuple w.sts, .tuple bs]] g :=
  (when_cond hK (cnt := cnt) hE hw).elim fun fc c => ⟨ifF fc fa (optF bs f), ns_if c.1 ha.nice (optF_all nf), fun Xs hX => (r_st_via hK (w := "if") (r_if hK (c.2 Xs) (ha.run Xs hX) optF_iff lb (optF_all (R Xs hX))) (.inl ⟨rfl, rfl⟩)).less (by omega) (by omega)⟩
theorem one_st {X : V} {f : D → D} {n k : Nat} (nf : NiceS cnt f) (R : ∀ Xs : List V, Xs.length = cnt → Runs C Xs n k 225 [X] f) : NiceS cnt (runAll [f]) ∧ ∀ Xs : List V, Xs.length = cnt → Runs C Xs (n + 2) (k * 1) 220 [.tuple [X]] (runAll [f]) :=
  ⟨ns_runAll fun g hg => List.mem_singleton.mp hg ▸ nf, fun Xs hX => r_statements hK (sts := [X]) (fs := [f]) rfl fun i Y g a b => by
    cases i with
    | zero => cases a; cases b; exact R Xs hX
    | succ i => cases a⟩
omit hK in
theorem when_data {ws : List When} (hw : ∀ w ∈ ws, EGood C 1 w.e ∧ SsGood C cnt d (.tuple w.sts)) : V.datas (dS d + 2) (ws.map When.v) = true :=
  V.datas_all fun y hy => (List.mem_map.mp hy).elim fun w q => q.2 ▸ V.data_tup (V.datas_cons (V.data_mono 7 _ _ (by have := dS_pos d; omega) (V.data_tup (d1 (V.data_tup (d1 (V.data_tup (V.datas_cons (str_data (by decide +kernel) _) (V.datas_cons (hw w q.1).1.data (d1 rfl)))))))))
    (d1 (hw w q.1).2.data))
theorem sg_eval {E : V} {ws : List When} {os : List V} (hE : EGood C 1 E) (hos : SsGood C cnt d (.tuple os)) (h0 : ws ≠ []) (hl : ws.length ≤ 2) (hw : ∀ w ∈ ws, EGood C 1 w.e ∧ SsGood C cnt d (.tuple w.sts)) : SGood C cnt (d + 1) (evalV E ws os) := by
  have h13 := dS_pos d
  have dt : (evalV E ws os).data (dS (d + 1)) = true := tup_in (d := dS d + 3) (V.datas_cons (str_data (by decide +kernel) _) (V.datas_cons (tup_in (d := 5) (d1 (V.data_tup (V.datas_cons (str_data (by decide +kernel) _) (d1 hE.data)))) (by omega)) (V.datas_cons (V.data_tup (when_data hw)) (d1 (V.data_mono _ _ _ (by omega) hos.data))))) (Nat.le_refl _)
  obtain ⟨os', fo, e, ho⟩ := hos
  cases e
  have os2 := Nat.le_trans ho.len (by decide : 2 ≤ 1000)
  match ws, h0, hl, hw with
  | [w], _, _, hw =>
    obtain ⟨we, sts, fa, e, ha⟩ := hw w (.head _)
    cases e
    obtain ⟨g, ng, R⟩ := if_when hK hE we ha os2 ho.nice ho.run
    exact ⟨g, dt, ng, fun Xs hX => (r_st_eval hK (ws := []) (Nat.le_of_ble_eq_true rfl) os2 (R Xs hX)).less (by rw [nS]; omega) (by rw [kS]; omega)⟩
  | [w, v], _, _, hw =>
    obtain ⟨we, sts, fa, e, ha⟩ := hw w (.head _)
    cases e
    obtain ⟨ve, sts, fv, e, hv⟩ := hw v (.tail _ (.head _))
    cases e
    obtain ⟨g, ng, R⟩ := if_when hK hE ve hv os2 ho.nice ho.run
    obtain ⟨ng1, R1⟩ := one_st hK ng R
    obtain ⟨g2, ng2, R2⟩ := if_when hK hE we ha (Nat.le_of_ble_eq_true rfl) ng1 R1
    exact ⟨g2, dt, ng2, fun Xs hX => (r_st_eval hK (ws := [v]) (Nat.le_of_ble_eq_true rfl) os2 (R2 Xs hX)).less (by rw [nS]; omega) (by rw [kS]; omega)⟩
  | _ :: _ :: _ :: _, _, hl, _ => exact absurd hl (by simp)
end
end
section
open PySem PySem.W PySem.Calls PyProof.Rows PySem.Spec
set_option backward.isDefEq.lazyWhnfCore false
theorem noFind {cs : List (Str × Addr)} {b : Addr} (h : ∀ p ∈ cs, p.2 ≠ b) : cs.find? (fun p => p.2 == b) = none := List.find?_eq_none.mpr fun p hp => by simpa using h p hp
theorem cellStore_no {σ : Store} {cs : List (Str × Addr)} {ρ : Loc} {b : Addr} (h : ∀ p ∈ cs, p.2 ≠ b) : cellStore σ cs ρ b = σ b := by unfold cellStore; rw [noFind h]
theorem cellStore_is {σ : Store} {cs : List (Str × Addr)} {ρ : Loc} {b : Addr} {p : Str × Addr} (h : cs.find? (fun p => p.2 == b) = some p) : cellStore σ cs ρ b = some (.cell (ρ p.1)) := by unfold cellStore; rw [h]
theorem cells_pst {σ : Store} {a : PA} {P : Pen} {cs : List (Str × Addr)} {ρ : Loc} (h : ∀ p ∈ cs, pst σ a P p.2 = none) : cellStore (pst σ a P) cs ρ = pst (cellStore σ cs ρ) a P := by
  funext b
  by_cases q1 : b = a.p
  · rw [cellStore_no fun p hp e => (pst_none (h p hp)).1 (e.trans q1), pst, pst, if_pos q1, if_pos q1]
  by_cases q2 : b = a.c
  · rw [cellStore_no fun p hp e => (pst_none (h p hp)).2.1 (e.trans q2), pst, pst, if_neg q1, if_neg q1, if_pos q2, if_pos q2]
  · unfold cellStore
    rw [pst, pst, if_neg q1, if_neg q1, if_neg q2, if_neg q2]
theorem cells_apart {σ : Store} {a : PA} {P : Pen} {cs : List (Str × Addr)} {ρ : Loc} (A : a.Apart σ) (h : ∀ p ∈ cs, pst σ a P p.2 = none) : a.Apart (cellStore σ cs ρ) :=
  ⟨A.pc, (cellStore_no fun p hp e => (pst_none (h p hp)).1 e).trans A.p, (cellStore_no fun p hp e => (pst_none (h p hp)).2.1 e).trans A.c⟩
theorem cells_sub {σ : Store} {cs : List (Str × Addr)} {ρ : Loc} (h : ∀ p ∈ cs, σ p.2 = none) : ∀ b x, σ b = some x → cellStore σ cs ρ b = some x := fun b x e => (cellStore_no fun p hp q => by have := h p hp; rw [q, e] at this; cases this).trans e
structure Cells (σ : Store) (L : Addr) (a : PA) (cnt d : Int) : Prop where
  pen : σ (L + 1) = some (.cell (some (.ref a.p)))
  count : σ (L + 1 + 1) = some (.cell (some (.int cnt)))
  deep : σ (L + 1 + 2) = some (.cell (some (.int d)))
theorem fnXS {C : Cx} {n : Nat} {σ : Store} {a : PA} {P : Pen} {cnt d : Int} {ad : Addr} (f : FnAt KK ad) (hK : C.K = KK C.w.params) (A : a.Apart σ) {Φ : V → Store → Prop}
    (h : ∀ L σ', a.Apart σ' → Cells σ' L a cnt d → (∀ b x, σ b = some x → σ' b = some x) → (W C n).ss (callEnvC f.fd L ad) Loc.none f.body (RetN Φ) (RetJ Φ) (pst σ' a P))
    (bind : ∀ vs : List Value, vs.length = 3 → bindArgs f.fd ⟨vs, []⟩ = pure ((["pen", "count", "deep"] : List Str).zip vs) := by exact len3 fun _ _ _ => rfl) (cc : ∀ k, cellsFrom k f.fd.scope.names [] = ([("deep", k + 2), ("count", k + 1), ("pen", k)] : List (Str × Addr)) := by intro _; rfl)
    (hk : ((["pen", "count", "deep"] : List Str).all fun x => f.fd.scope.names.lookup x == some .cell) = true := by rfl)
    (hρ : ∀ L, Loc.bindsK (callEnvC f.fd L ad).kindOf (["pen", "count", "deep"] : List Str) [.ref a.p, .int cnt, .int d] Loc.none = Loc.none := by intro _; rfl)
    (h1 : ∀ L, Loc.bindsC (callEnvC f.fd L ad).kindOf (["pen", "count", "deep"] : List Str) [.ref a.p, .int cnt, .int d] Loc.none "pen" = some (.ref a.p) := by intro _; rfl)
    (h2 : ∀ L, Loc.bindsC (callEnvC f.fd L ad).kindOf (["pen", "count", "deep"] : List Str) [.ref a.p, .int cnt, .int d] Loc.none "count" = some (.int cnt) := by intro _; rfl)
    (h3 : ∀ L, Loc.bindsC (callEnvC f.fd L ad).kindOf (["pen", "count", "deep"] : List Str) [.ref a.p, .int cnt, .int d] Loc.none "deep" = some (.int d) := by intro _; rfl)
    (clo : f.fd.closure = [] := by rfl) (dbg : f.fd.scope.names.lookup ("__debug__" : Str) = none := by rfl) (co : f.fd.scope.isCoroutine = false := by rfl) (gen : f.fd.scope.isGenerator = false := by rfl) (kd : f.fd.scope.kind = .function := by rfl) (gl : f.fd.globals = mainGlobals := by rfl) (bl : f.fd.builtins = builtinsNs := by rfl) :
    TCc C (n + 1) (pst σ a P) ad [.ref a.p, .int cnt, .int d] Φ := by
  refine TC_fnC f ["pen", "count", "deep"] hK rfl bind clo (fun k z hz => .inr ⟨beq_iff_eq.mp (List.all_eq_true.mp hk z hz), ?_⟩) (fun k => by rw [cc]; simp only [List.map_cons, List.map_nil]; decide +kernel) rfl (fun L hL hc1 => ?_) co gen kd gl bl
  · rw [cc]
    have : ∀ z ∈ (["pen", "count", "deep"] : List Str), ((["deep", "count", "pen"] : List Str).any fun y => z == y) = true := by decide +kernel
    have := this z hz
    rw [List.lookup_isSome_iff]
    obtain ⟨y, hy, e⟩ := List.any_eq_true.mp this
    rw [beq_iff_eq.mp e]
    rcases List.mem_cons.mp hy with rfl | hy
    · exact ⟨(_, _), .head _, beq_self_eq_true _⟩
    rcases List.mem_cons.mp hy with rfl | hy
    · exact ⟨(_, _), .tail _ (.head _), beq_self_eq_true _⟩
    rw [List.mem_singleton.mp hy]
    exact ⟨(_, _), .tail _ (.tail _ (.head _)), beq_self_eq_true _⟩
  · rw [cc, hρ]
    have off : ∀ p ∈ ([("deep", L + 1 + 2), ("count", L + 1 + 1), ("pen", L + 1)] : List (Str × Addr)), pst σ a P p.2 = none := fun p hp => by
      rcases List.mem_cons.mp hp with rfl | hp
      · exact hc1 _ (Nat.lt_succ_of_le (Nat.le_add_right L 2))
      rcases List.mem_cons.mp hp with rfl | hp
      · exact hc1 _ (Nat.lt_succ_of_le (Nat.le_add_right L 1))
      rw [List.mem_singleton.mp hp]; exact hc1 _ (Nat.lt_succ_self L)
    rw [cells_pst off]
    refine ((W_sound hK).ss (show PlainF (callEnvC f.fd L ad) from ⟨kd, gl, bl, dbg⟩) (h L _ (cells_apart A off) ⟨?_, ?_, ?_⟩ (cells_sub fun p hp => (pst_none (off p hp)).2.2))).mono fun _ _ _ h => kJ_ret h
    · rw [cellStore_is (p := ("pen", L + 1)) (by simp [List.find?_cons]), h1]
    · rw [cellStore_is (p := ("count", L + 1 + 1)) (by simp [List.find?_cons]), h2]
    · rw [cellStore_is (p := ("deep", L + 1 + 2)) (by simp [List.find?_cons]), h3]
end
section
open PySem PySem.W PySem.Calls PyProof.Rows PySem.Spec
set_option backward.isDefEq.lazyWhnfCore false
noncomputable def gS : Nat → Nat
  | 0 => 1 + 122
  | d + 1 => 1 + (6 * gS d + 59)
theorem gS_pos : ∀ d, 123 ≤ gS d
  | 0 => Nat.le_refl _
  | d + 1 => by have := gS_pos d; rw [gS]; omega
noncomputable def sideV (x : Str) (o : Option (Nat × Nat)) : V := match o with
  | none => .tuple [.str "files", .tuple [.str x]]
  | some (i, j) => .tuple [.str "range", pairV i, pairV j]
theorem pickS {σ : Store} {x : Str} {cnt i j : Nat} {d : Int} {Φ : V → Store → Prop} (h : 0 ≤ d ∧ d < 2) (hi : i < cnt) (hj : j < cnt) (k : ∀ o : Option (Nat × Nat), (∀ x y, o = some (x, y) → x < cnt ∧ y < cnt) → Φ (sideV x o) σ) : SPick [.tuple [.str "files", .tuple [.str x]], .tuple [.str "range", pairV i, pairV j]] d Φ σ :=
  pick2 h (k none fun _ _ e => by cases e) (k (some (i, j)) fun _ _ e => by cases e; exact ⟨hi, hj⟩)
structure PJ (σ : Store) (a : PA) (cnt j m i : Nat) (Zs : List V) (τ : Store) (P : Pen) (js : List Nat) : Prop where
  fit : P.Fit (m - i + (1 + j))
  st : τ = pst σ a P
  vs : Zs = js.map pairV
  len : js.length = i
  ok : ∀ x ∈ js, x < cnt
theorem fit_pair {m i r : Nat} {P : Pen} (h : P.Fit (m - i + r)) (hi : i < m) : P.Fit (1 + (m - (i + 1) + r)) := h.less (by omega)
section
variable {C : Cx} (hK : C.K = KK C.w.params) {n k j cnt : Nat} {σ : Store} {L : Addr} {a : PA} {P : Pen} {way d : Int} {N : Loc → Store → Prop} {J : Fl → Loc → Store → Prop}
include hK
theorem S_pair {Φ : V → Store → Prop} (h1 : 1 ≤ cnt) (h4 : cnt ≤ 4) (A : a.Apart σ) (hf : P.Fit (1 + j)) (h : ∀ i, i < cnt → ∀ P' : Pen, P'.Fit j → Φ (pairV i) (pst σ a P')) (hn : 61 ≤ n) : SC C n (.ref 513) [.ref a.p, .int cnt] Φ (pst σ a P) :=
  SC.gen (c_pair hK cnt h1 h4) A hf (fun X P' q f => q.elim fun i r => r.2 ▸ h i r.1 P' f) hn
theorem stmt_low (A : a.Apart σ) (c : Cells σ L a cnt d) (h1 : 1 ≤ cnt) (h4 : cnt ≤ 4) (hf : P.Fit (122 + j)) (h : ∀ X P', SGood C cnt 0 X → P'.Fit j → ∀ ρ', J (.ret X) ρ' (pst σ a P'))
    (hi : (way == 0) = false → (way == 1) = false → (way == 2) = false → (way == 3) = false → (way == 4) = false → (Wk C (n + 73) (k + 15)).ss (callEnvC f_law_statement.fd L 523) (Loc.none.set "way" (.int way)) (f_law_statement.body.drop 6) N J (pst σ a P)) :
    (Wk C (n + 73) (k + 20)).ss (callEnvC f_law_statement.fd L 523) (Loc.none.set "way" (.int way)) (f_law_statement.body.drop 1) N J (pst σ a P) := by
  have cp : ∀ P : Pen, _ := fun P => pst_at (P := P) A c.pen
  have cc : ∀ P : Pen, _ := fun P => pst_at (P := P) A c.count
  refine wIf_s (fun q => SCell.at (cp _) (S_ref hK A (j := 1 + j) (hf.less (by omega)) (fun X P1 hX f1 => SCell.at (cp _) (S_ref hK A f1 (fun Y P2 hY f2 => h _ _ (sg_move hK hX hY) f2 _) (by omega))) (by omega)))
    (fun q0 => wIf_s
      (fun q => SCell.at (cp _) (SCell.at (cc _) (S_pair hK h1 h4 A (j := 1 + j) (hf.less (by omega)) (fun i hi P1 f1 => SCell.at (cp _) (S_draw hK (by decide) A f1 (fun u hu P2 f2 => pick4 hu (h _ _ (sg_goto hK h4 hi) f2 _) (h _ _ (sg_stop hK) f2 _) (h _ _ (sg_exitp hK) f2 _) (h _ _ (sg_exit hK) f2 _)) (by omega))) (by omega))))
      (fun q1 => wIf_s
        (fun q => SCell.at (cp _) (S_draw hK (by decide) A (j := 121 + j) (hf.less (by omega)) (fun u hu P2 f2 => ?_) (by omega)))
        (fun q2 => wIf_s
          (fun q => SCell.at (cp _) (SCell.at (cc _) (S_pair hK h1 h4 A (j := 121 + j) (hf.less (by omega)) (fun i hi P1 f1 => SCell.at (cp _) (SCell.at (cc _) (S_pair hK h1 h4 A (j := 120 + j) (f1.less (by omega)) (fun i2 hi2 P2 f2 => SCell.at (cp _) (SC.gen (c_loop hK) A f2 (fun X P3 hX f3 => h _ _ (sg_perf_range hK h4 hi hi2 hX) f3 _) (by omega))) (by omega)))) (by omega))))
          (fun q3 => wIf_s
            (fun q => SCell.at (cp _) (SCell.at (cc _) (S_pair hK h1 h4 A (j := 1 + (1 + (1 + j))) (hf.less (by omega)) (fun i hi P1 f1 => SCell.at (cp _) (SCell.at (cc _) (S_pair hK h1 h4 A f1 (fun i2 hi2 P2 f2 => SCell.at (cp _) (S_draw hK (by decide) A f2 (fun u hu P3 f3 => pickS hu hi hi2 fun inp hin => SCell.at (cp _) (S_draw hK (by decide) A f3 (fun v hv P4 f4 => pickS hv hi hi2 fun out hou => h _ _ (sg_sort hK h4 inp out hin hou) f4 _) (by omega))) (by omega))) (by omega)))) (by omega))))
            (fun q4 => ssNil (hi q0 q1 q2 q3 q4))))))
  obtain ⟨m, e⟩ : ∃ m : Nat, 1 + u = m := ⟨(1 + u).toNat, by omega⟩
  have hm : 1 ≤ m ∧ m ≤ 3 := by omega
  refine S_rangeE e (Nat.le_trans hm.2 (by decide)) fun r hr s1 s2 => SCompT.rng hr s1 s2 (SCompT.gen hK (fun Ca => ⟨rfl, rfl, rfl, rfl⟩) (.tup _) (by rw [rngVs_len]; exact Nat.le_trans hm.2 (by decide)) (fun i Zs τ => ∃ P js, PJ σ a cnt j m i Zs τ P js)
    ⟨P2, [], f2.less (by omega), rfl, rfl, rfl, fun _ h => by cases h⟩ (fun Ca i Y Zs τ hY ⟨P3, js, J⟩ => ?_) fun Zs τ ⟨P3, js, J⟩ => ?_)
  · rw [J.st]
    exact SCell.at (cp _) (SCell.at (cc _) (S_pair hK h1 h4 A (fit_pair J.fit (rngVs_nat hY).1) (fun x hx P4 f4 => ⟨P4, js ++ [x], f4, rfl, by rw [J.vs, List.map_append]; rfl, by rw [List.length_append, J.len]; rfl, mem_snoc J.ok hx⟩) (by omega)))
  · have hl := J.len
    rw [rngVs_len] at hl
    rw [J.st, J.vs]
    exact SCell.at (cp _) (S_ref hK A (j := j) (J.fit.less (by omega)) (fun X P4 hX f4 => h _ _ (sg_dep hK h4 hX J.ok (by omega)) f4 _) (by omega))
end
end
section
open PySem PySem.W PySem.Calls PyProof.Rows PySem.Spec
set_option backward.isDefEq.lazyWhnfCore false
theorem SComp.gen1 {C : Cx} {n : Nat} {σ : Store} {env : Env} {scope : Scope} {cl : List (Str × Addr)} {x : Str} {elt test : Expr} {X : V} {Φ : V → Store → Prop} {Ys : List V} {σ₂ : Store} {f : Store → Store} (hK : C.K = KK C.w.params) (hE : ∀ Ca, PlainF (compEnvC scope cl Ca env)) (S : Src C σ X Ys σ₂ f) (hz : Ys.length ≤ 100000)
    (J : Nat → List V → Store → Prop) (j0 : J 0 [] σ₂)
    (turn : ∀ Ca i Y Zs σ', Ys[i]? = some Y → J i Zs σ' → (W C n).b (compEnvC scope cl Ca env) (Loc.none.set x Y) test (fun b σ₁ => wIf b ((W C n).e (compEnvC scope cl Ca env) (Loc.none.set x Y) elt (fun Z σ₄ => J (i + 1) (Zs ++ [Z]) σ₄) σ₁) (J (i + 1) Zs σ₁)) σ')
    (done : ∀ D Zs σ', J Ys.length Zs σ' → (f σ') D = none → D ≠ env.locals → Drop Φ (.ref D) ((f σ').set D (.list Zs))) : SComp C n env scope cl x elt [test] X Φ σ :=
  ⟨Ys, σ₂, f, J, S, Nat.le_trans hz sizeLine_big, j0, fun Ca i Y Zs σ' _ hY j => TIf_one (((W_sound hK).b (hE Ca) (turn Ca i Y Zs σ' hY j)).mono fun b σ₁ h => by
    cases b
    · exact if_f rfl h
    · exact if_t rfl ((W_sound hK).e (hE Ca) h)), fun D Zs σ' _ j _ a b => done D Zs σ' j a b⟩
structure BJ (C : Cx) (σ : Store) (a : PA) (cnt d j : Nat) (keys : List Str) (i : Nat) (Zs : List V) (τ : Store) (P : Pen) (ps : List (Str × V)) : Prop where
  fit : P.Fit ((2 + 2 * gS d) * (2 - i) + (19 + j))
  st : τ = pst σ a P
  vs : Zs = ps.map fun p => V.tuple [.str p.1, p.2]
  br : BrG C cnt d (keys.take i) ps
theorem fit_br {g i r : Nat} {P : Pen} (h : P.Fit ((2 + 2 * g) * (2 - i) + r)) (hi : i < 2) : P.Fit (1 + ((1 + 2 * g) + ((2 + 2 * g) * (2 - (i + 1)) + r))) := by
  rw [show 2 - i = (2 - (i + 1)) + 1 from by omega, Nat.mul_succ] at h
  exact h.less (by omega)
theorem BJ.keep {C : Cx} {σ : Store} {a : PA} {cnt d j : Nat} {keys : List Str} {i : Nat} {Zs : List V} {τ : Store} {P P' : Pen} {ps : List (Str × V)} (B : BJ C σ a cnt d j keys i Zs τ P ps) (f : P'.Fit (1 + 2 * gS d + ((2 + 2 * gS d) * (2 - (i + 1)) + (19 + j)))) : ∃ P ps, BJ C σ a cnt d j keys (i + 1) Zs (pst σ a P') P ps :=
  ⟨P', ps, f.less (Nat.le_add_left _ _), rfl, B.vs, B.br.sub.trans (by rw [List.take_add_one]; exact List.sublist_append_left _ _), B.br.ok⟩
theorem BJ.take {C : Cx} {σ : Store} {a : PA} {cnt d j : Nat} {keys : List Str} {i : Nat} {Zs : List V} {τ : Store} {P P' : Pen} {ps : List (Str × V)} {key : Str} {X : V} (B : BJ C σ a cnt d j keys i Zs τ P ps) (hk : keys[i]? = some key) (hX : SsGood C cnt d X) (f : P'.Fit ((2 + 2 * gS d) * (2 - (i + 1)) + (19 + j))) : ∃ P ps, BJ C σ a cnt d j keys (i + 1) (Zs ++ [.tuple [.str key, X]]) (pst σ a P') P ps :=
  ⟨P', ps ++ [(key, X)], f, rfl, by rw [B.vs, List.map_append]; rfl, by rw [List.take_add_one, hk, List.map_append]; exact B.br.sub.append (List.Sublist.refl _), mem_snoc B.br.ok hX⟩
structure WJ (C : Cx) (σ : Store) (a : PA) (cnt d j m i : Nat) (Zs : List V) (τ : Store) (P : Pen) (ws : List When) : Prop where
  fit : P.Fit ((10 + 2 * gS d) * (m - i) + (9 + 2 * gS d + j))
  st : τ = pst σ a P
  vs : Zs = ws.map When.v
  len : ws.length = i
  ok : ∀ w ∈ ws, EGood C 1 w.e ∧ SsGood C cnt d (.tuple w.sts)
theorem fit_when {g m i r : Nat} {P : Pen} (h : P.Fit ((10 + 2 * g) * (m - i) + r)) (hi : i < m) : P.Fit (gE 1 + (1 + ((1 + 2 * g) + ((10 + 2 * g) * (m - (i + 1)) + r)))) := by
  rw [show m - i = (m - (i + 1)) + 1 from by omega, Nat.mul_succ] at h
  exact h.less (by rw [gE1]; omega)
theorem keys_at {keys : List Str} {i : Nat} {Y : V} (h : (keys.map V.str)[i]? = some Y) : ∃ key, keys[i]? = some key ∧ Y = .str key := by
  rw [List.getElem?_map, Option.map_eq_some_iff] at h
  exact h.elim fun key q => ⟨key, q.1, q.2.symm⟩
section
variable {C : Cx} (hK : C.K = KK C.w.params) {n k j cnt d m : Nat} {σ : Store} {L : Addr} {a : PA} {P : Pen} {way : Int} {N : Loc → Store → Prop} {J : Fl → Loc → Store → Prop}
include hK
omit hK in
theorem S_stmts {Φ : V → Store → Prop} (IH : Gen C m (1 + 2 * gS d) 528 [.int cnt, .int d] (SsGood C cnt d)) (A : a.Apart σ) (hf : P.Fit (1 + 2 * gS d + j)) (h : ∀ X P', SsGood C cnt d X → P'.Fit j → Φ X (pst σ a P')) (hm : m ≤ n) : SC C n (.ref 528) [.ref a.p, .int cnt, .int (((d + 1 : Nat) : Int) - 1)] Φ (pst σ a P) :=
  SC.genE IH (congrArg (fun z => [V.int cnt, .int z]) down_one) A hf h hm
theorem stmt_high (A : a.Apart σ) (c : Cells σ L a cnt ((d + 1 : Nat) : Int)) (hd1 : d ≤ 1) (hm : m ≤ n + 73) (IH : Gen C m (1 + 2 * gS d) 528 [.int cnt, .int d] (SsGood C cnt d)) (hf : P.Fit (6 * gS d + 59 + j))
    (h : ∀ X P' σ1, SGood C cnt (d + 1) X → P'.Fit j → (∀ b x, σ b = some x → σ1 b = some x) → a.Apart σ1 → ∀ ρ', J (.ret X) ρ' (pst σ1 a P')) :
    (Wk C (n + 73) (k + 20)).ss (callEnvC f_law_statement.fd L 523) (Loc.none.set "way" (.int way)) (f_law_statement.body.drop 6) N J (pst σ a P) := by
  have cp : ∀ P : Pen, _ := fun P => pst_at (P := P) A c.pen
  have cc : ∀ P : Pen, _ := fun P => pst_at (P := P) A c.count
  have cd : ∀ P : Pen, _ := fun P => pst_at (P := P) A c.deep
  have g := gS_pos d
  have gc2 : gC 2 = 43 := by decide +kernel
  have ge2 : gE 2 = 18 := by decide +kernel
  have h' : ∀ X P', SGood C cnt (d + 1) X → P'.Fit j → ∀ ρ', J (.ret X) ρ' (pst σ a P') := fun X P' q f => h X P' σ q f (fun _ _ e => e) A
  refine wIf_s (fun q => SCell.at (cp _) (SC.gen (c_cond hK 2) A (j := (1 + 2 * gS d) + ((1 + 2 * gS d) + j)) (hf.less (by rw [gc2]; omega)) (fun X P1 hX f1 => SCell.at (cp _) (SCell.at (cc _) (SCell.at (cd _) (S_stmts IH A f1 (fun Y P2 hY f2 => SCell.at (cp _) (SCell.at (cc _) (SCell.at (cd _) (S_stmts IH A f2 (fun Z P3 hZ f3 => h' _ _ (sg_if hK hX hY hZ) f3 _) hm)))) hm)))) (by omega)))
    (fun q0 => wIf_s
      (fun q => ⟨fun D hD _ => SComp.fresh hD (SComp.gen1 hK (fun Ca => ⟨rfl, rfl, rfl, rfl⟩) (.tup _) (Nat.le_of_ble_eq_true rfl) (fun i Zs τ => ∃ P ps, BJ C σ a cnt d j ["size", "not size"] i Zs τ P ps) ⟨P, [], hf.less (by omega), rfl, rfl, .slnil, fun _ h => by cases h⟩ (fun Ca i Y Zs τ hY B => ?_) fun D Zs τ B hD _ => ?_)⟩)
      (fun q1 => wIf_s
        (fun q => ⟨fun D hD _ => SComp.fresh hD (SComp.gen1 hK (fun Ca => ⟨rfl, rfl, rfl, rfl⟩) (.tup _) (Nat.le_of_ble_eq_true rfl) (fun i Zs τ => ∃ P ps, BJ C σ a cnt d j ["end", "not end"] i Zs τ P ps) ⟨P, [], hf.less (by omega), rfl, rfl, .slnil, fun _ h => by cases h⟩ (fun Ca i Y Zs τ hY B => ?_) fun D Zs τ B hD _ => ?_)⟩)
        (fun q2 => wIf_s
          (fun q => SCell.at (cp _) (SCell.at (cc _) (SCell.at (cd _) (S_stmts IH A (j := 120 + j) (hf.less (by omega)) (fun Y P2 hY f2 => SCell.at (cp _) (SC.gen (c_loop hK) A f2 (fun X P3 hX f3 => h' _ _ (sg_perf_body hK hY hX) f3 _) (by omega))) hm))))
          (fun q3 => SCell.at (cp _) (S_draw hK (by decide) A (j := 6 * gS d + 58 + j) (hf.less (by omega)) (fun u hu P2 f2 => ?_) (by omega))))))
  · obtain ⟨P3, ps, B⟩ := B
    obtain ⟨key, hk, rfl⟩ := keys_at (keys := ["size", "not size"]) hY
    rw [B.st]
    exact SCell.at (cp _) (S_draw hK (by decide) A (fit_br B.fit (List.getElem?_eq_some_iff.mp hk).1) (fun u hu P4 f4 => wIf_s (fun q => SCell.at (cp _) (SCell.at (cc _) (SCell.at (cd _) (S_stmts IH A f4 (fun X P5 hX f5 => B.take hk hX f5) hm)))) (fun q => B.keep f4)) (by omega))
  · obtain ⟨P3, ps, B⟩ := B
    have hD := hD
    rw [B.st] at hD ⊢
    rw [B.vs]
    refine Drop.eq (newP hD A fun σ1 A1 hl hs => SCell.at (pst_at A1 (hs _ _ c.pen)) (SC.gen (c_expr hK 2) A1 (j := 1 + j) (B.fit.less (Nat.le_trans (show gE 2 + (1 + j) ≤ 19 + j by rw [ge2]; omega) (Nat.le_add_left _ _))) (fun X P4 hX f4 => SCell.at (pst_at A1 (hs _ _ c.pen)) (S_ref hK A1 f4 (fun Y P5 hY f5 => S_tupL (pst_at A1 hl) (mapl (Nat.le_trans (br_len B.br) (by decide))) (h _ _ σ1 (sg_arith hK hX hY B.br) f5 hs A1 _)) (by omega))) (by omega)))
  · obtain ⟨P3, ps, B⟩ := B
    obtain ⟨key, hk, rfl⟩ := keys_at (keys := ["end", "not end"]) hY
    rw [B.st]
    exact SCell.at (cp _) (S_draw hK (by decide) A (fit_br B.fit (List.getElem?_eq_some_iff.mp hk).1) (fun u hu P4 f4 => wIf_s (fun q => SCell.at (cp _) (SCell.at (cc _) (SCell.at (cd _) (S_stmts IH A f4 (fun X P5 hX f5 => B.take hk hX f5) hm)))) (fun q => B.keep f4)) (by omega))
  · obtain ⟨P3, ps, B⟩ := B
    have hD := hD
    rw [B.st] at hD ⊢
    rw [B.vs]
    refine Drop.eq (newP hD A fun σ1 A1 hl hs => S_tupL (pst_at A1 hl) (mapl (Nat.le_trans (br_len B.br) (by decide))) (h _ _ σ1 (sg_read hK hd1 B.br) (B.fit.less (by omega)) hs A1 _))
  · obtain ⟨m', e⟩ : ∃ m : Nat, 1 + u = m := ⟨(1 + u).toNat, by omega⟩
    have hm' : 1 ≤ m' ∧ m' ≤ 2 := by omega
    have hmul : (10 + 2 * gS d) * (m' - 0) ≤ (10 + 2 * gS d) * 2 := Nat.mul_le_mul_left _ hm'.2
    refine S_rangeE e (Nat.le_trans hm'.2 (by decide)) fun r hr s1 s2 => SComp.rng hr s1 s2 (SComp.gen hK (fun Ca => ⟨rfl, rfl, rfl, rfl⟩) (.tup _) (by rw [rngVs_len]; exact Nat.le_trans hm'.2 (by decide)) (fun i Zs τ => ∃ P ws, WJ C σ a cnt d j m' i Zs τ P ws)
      ⟨P2, [], f2.less (by omega), rfl, rfl, rfl, fun _ h => by cases h⟩ (fun Ca i Y Zs τ hY B => ?_) fun D Zs τ B hD _ => ?_)
    · obtain ⟨P3, ws, B⟩ := B
      rw [B.st]
      refine SCell.at (cp _) (SC.gen (c_expr hK 1) A (fit_when B.fit (rngVs_nat hY).1) (fun E P4 hE f4 => SCell.at (cp _) (S_draw hK (by decide) A f4 (fun v hv P5 f5 => SCell.at (cp _) (SCell.at (cc _) (SCell.at (cd _) (S_stmts IH A f5 (fun X P6 hX f6 => ?_) hm)))) (by omega))) (by omega))
      obtain ⟨sts, f, rfl, hs⟩ := id hX
      exact ⟨P6, ws ++ [⟨E, v == 1, sts⟩], f6, rfl, by rw [B.vs, List.map_append]; rfl, by rw [List.length_append, B.len]; rfl, mem_snoc B.ok ⟨hE, hX⟩⟩
    · obtain ⟨P3, ws, B⟩ := B
      have hl := B.len
      rw [rngVs_len] at hl
      have hD := hD
      rw [B.st] at hD ⊢
      rw [B.vs]
      refine Drop.eq (newP hD A fun σ1 A1 hl1 hs => SCell.at (pst_at A1 (hs _ _ c.pen)) (SC.gen (c_expr hK 1) A1 (j := (1 + 2 * gS d) + j) (B.fit.less (by rw [gE1]; omega)) (fun E P4 hE f4 => S_tupL (pst_at A1 hl1) (mapl (by omega)) (SCell.at (pst_at A1 (hs _ _ c.pen)) (SCell.at (pst_at A1 (hs _ _ c.count)) (SCell.at (pst_at A1 (hs _ _ c.deep)) (S_stmts IH A1 f4 (fun X P5 hX f5 => ?_) hm))))) (by omega)))
      obtain ⟨os, f, rfl, ho⟩ := id hX
      exact h _ _ σ1 (sg_eval hK hE hX (fun e => by rw [e] at hl; exact absurd hl.symm (Nat.ne_of_gt hm'.1)) (hl ▸ hm'.2) B.ok) f5 hs A1 _
theorem c_statements_of {d : Nat} (hm : 60 ≤ m) (S : Gen C m (gS d) 523 [.int cnt, .int d] (SGood C cnt d)) : Gen C (m + 1) (1 + 2 * gS d) 528 [.int cnt, .int d] (SsGood C cnt d) := fun σ a P j A0 hf =>
  fnXS f_law_statements hK A0 fun L σ A c hs => SCell.at (pst_at A c.pen) (S_draw hK (by decide) A (j := 2 * gS d + j) (hf.less (by omega)) (fun u hu P2 f2 => by
    obtain ⟨k, e⟩ : ∃ k : Nat, u = k := ⟨u.toNat, by omega⟩
    have hk : k ≤ 2 := by omega
    have hmul : gS d * (k - 0) ≤ gS d * 2 := Nat.mul_le_mul_left _ hk
    refine S_rangeE e (Nat.le_trans hk (by decide)) fun r hr s1 s2 => SCompT.rng hr s1 s2 (SCompT.gen hK (fun Ca => ⟨rfl, rfl, rfl, rfl⟩) (.tup _) (by rw [rngVs_len]; exact Nat.le_trans hk (by decide)) (fun i Zs τ => ∃ P : Pen, P.Fit (gS d * (k - i) + j) ∧ τ = pst σ a P ∧ Zs.length = i ∧ ∀ x ∈ Zs, SGood C cnt d x)
      ⟨P2, f2.less (by omega), rfl, rfl, fun _ h => by cases h⟩ (fun Ca i Y Zs τ hY B => ?_) fun Zs τ B => ?_)
    · obtain ⟨P3, f3, rfl, hl, hg⟩ := B
      have hi := (rngVs_nat hY).1
      rw [show k - i = (k - (i + 1)) + 1 from by omega, Nat.mul_succ] at f3
      exact SCell.at (pst_at A c.pen) (SCell.at (pst_at A c.count) (SCell.at (pst_at A c.deep) (SC.gen S A (j := gS d * (k - (i + 1)) + j) (f3.less (by omega)) (fun X P4 hX f4 => ⟨P4, f4, rfl, by rw [List.length_append, hl]; rfl, mem_snoc hg hX⟩) (Nat.le_refl _))))
    · obtain ⟨P3, f3, rfl, hl, hg⟩ := B
      rw [rngVs_len] at hl
      exact ⟨_, pst_sub A hs, ss_of hK hg (hl ▸ hk), P3, f3.less (Nat.le_add_left _ _), rfl⟩) hm)
omit hK in
theorem beq_no {w b : Int} (h : w < b) (h0 : 0 ≤ w) (q0 : (w == 0) = false) (q1 : (w == 1) = false) (q2 : (w == 2) = false) (q3 : (w == 3) = false) (q4 : (w == 4) = false) : ¬ b ≤ 5 := by
  have := ne_of_beq_false q0
  have := ne_of_beq_false q1
  have := ne_of_beq_false q2
  have := ne_of_beq_false q3
  have := ne_of_beq_false q4
  omega
theorem c_stmt0 (h1 : 1 ≤ cnt) (h4 : cnt ≤ 4) : Gen C 74 (gS 0) 523 [.int cnt, .int ((0 : Nat) : Int)] (SGood C cnt 0) := fun σ a P j A0 hf =>
  fnXS f_law_statement hK A0 fun L σ A c hs => SCell.at (pst_at A c.pen) (SCell.at (pst_at A c.deep) (S_draw hK (by decide) A (Pen.Fit.split (a := 1) (b := 122) hf) (fun w hw P1 f1 => aName (stmt_low (n := 0) (k := 9918) hK A c h1 h4 f1 (fun X P' g f ρ' => ⟨_, pst_sub A hs, g, P', f, rfl⟩)
    fun q0 q1 q2 q3 q4 => absurd (Int.le_refl 5) (beq_no hw.2 hw.1 q0 q1 q2 q3 q4))) (by decide)))
theorem c_stmtS (hd1 : d ≤ 1) (h1 : 1 ≤ cnt) (h4 : cnt ≤ 4) (IH : Gen C m (1 + 2 * gS d) 528 [.int cnt, .int d] (SsGood C cnt d)) (hm : m = n + 73) : Gen C (m + 1) (gS (d + 1)) 523 [.int cnt, .int ((d + 1 : Nat) : Int)] (SGood C cnt (d + 1)) := fun σ a P j A0 hf => by
  subst hm
  have g := gS_pos d
  exact fnXS f_law_statement hK A0 fun L σ A c hs => SCell.at (pst_at A c.pen) (SCell.at (pst_at A c.deep) (wIf_t (decide_eq_true (Int.natCast_pos.mpr (Nat.succ_pos d))) (S_draw hK (by decide) A (Pen.Fit.split (a := 1) (b := 6 * gS d + 59) hf) (fun w hw P1 f1 => aName (stmt_low (n := n) (k := 9918) hK A c h1 h4 (j := j) (f1.less (by omega)) (fun X P' g f ρ' => ⟨_, pst_sub A hs, g.up, P', f, rfl⟩)
    fun q0 q1 q2 q3 q4 => stmt_high (k := 9913) hK A c hd1 (Nat.le_refl _) IH f1 fun X P' σ1 g f s1 A1 ρ' => ⟨_, pst_sub A1 (sub_trans hs s1), g, P', f, rfl⟩)) (by omega))))
theorem c_statements0 (h1 : 1 ≤ cnt) (h4 : cnt ≤ 4) : Gen C 75 (1 + 2 * gS 0) 528 [.int cnt, .int ((0 : Nat) : Int)] (SsGood C cnt 0) := c_statements_of hK (by decide) (c_stmt0 hK h1 h4)
theorem c_statements1 (h1 : 1 ≤ cnt) (h4 : cnt ≤ 4) : Gen C 77 (1 + 2 * gS 1) 528 [.int cnt, .int ((1 : Nat) : Int)] (SsGood C cnt 1) := c_statements_of hK (by decide) (c_stmtS hK (n := 2) (by decide) h1 h4 (c_statements0 hK h1 h4) rfl)
theorem c_statements2 (h1 : 1 ≤ cnt) (h4 : cnt ≤ 4) : Gen C 79 (1 + 2 * gS 2) 528 [.int cnt, .int ((2 : Nat) : Int)] (SsGood C cnt 2) := c_statements_of hK (by decide) (c_stmtS hK (n := 4) (by decide) h1 h4 (c_statements1 hK h1 h4) rfl)
end
end
section
open PySem PySem.W PySem.Calls PyProof.Rows PySem.Spec
set_option backward.isDefEq.lazyWhnfCore false
section
variable {C : Cx} (hK : C.K = KK C.w.params)
include hK
theorem c_pen {n : Nat} {σ : Store} {l : Addr} {vs : List Value} {xs : List Int} (hl : C.h₀.IsList l vs.toArray) (hr : RepL C.h₀ vs (xs.map V.int)) (hz : xs.length ≤ 63) : TCc C (n + 2) σ 478 [.ref l] fun X σ' => ∃ a P, X = .ref a.p ∧ PA.Apart a σ ∧ P.Fit 20000 ∧ σ' = pst σ a P :=
  fnX ok_law_pen hK fun L hL => ⟨TE_sliceB (a := 63) ((W_sound hK).e (ok_law_pen.plain L) ⟨l, vs, xs.map V.int, rfl, hl, hr, mapl (Nat.le_trans hz (by decide)), fun c hc _ => SComp.fresh hc (SComp.gen hK (fun Ca => ⟨rfl, rfl, rfl, rfl⟩) (.tup _) (by rw [List.take_of_length_le (by rw [List.length_map]; exact hz)]; exact mapl (Nat.le_trans hz (by decide))) (fun i Zs σ' => σ' = σ ∧ Zs = (xs.take i).map V.int) ⟨rfl, rfl⟩
    (fun Ca i Y Zs σ' hY j => by
      rw [List.take_of_length_le (by rw [List.length_map]; exact hz), List.getElem?_map, Option.map_eq_some_iff] at hY
      obtain ⟨z, hz', rfl⟩ := hY
      obtain ⟨rfl, rfl⟩ := j
      exact S_int ⟨rfl, take_map hz' rfl⟩)
    fun D Zs σ' j hD _ => by
      obtain ⟨rfl, rfl⟩ := j
      have et : xs.take (List.take 63 (xs.map V.int)).length = xs := by rw [List.take_of_length_le (l := xs.map V.int) (by rw [List.length_map]; exact hz), List.length_map, List.take_length]
      rw [et]
      refine Drop.eq ⟨fun p hp _ => ?_⟩
      have hD : σ' D = none := hD
      have np : p ≠ D := fun e => by rw [e] at hp; exact absurd hp (by rw [show (Store.set (id σ') D (.list (xs.map V.int))) D = some _ from set_self]; exact fun h => by cases h)
      have A1 : PA.Apart ⟨p, D⟩ σ' := ⟨np, set_none (τ := σ') hp, hD⟩
      refine ⟨pst σ' (⟨p, D⟩ : PA) (⟨xs, 0, 0⟩ : Pen), fun b x e => ?_, ⟨p, D⟩, ⟨xs, 0, 0⟩, rfl, A1, ⟨hz, Nat.le_of_eq (Nat.zero_add _)⟩, rfl⟩
      by_cases q1 : b = p
      · subst q1
        rw [pst_p] at e
        rw [set_self]; exact e
      · by_cases q2 : b = D
        · subst q2
          rw [pst_c A1] at e
          rw [set_ne q1 set_self]; exact e
        · rw [pst, if_neg q1, if_neg q2] at e
          exact set_ne q1 (set_ne q2 e))⟩)⟩
end
theorem TabQ.mono {σ σ' : Store} {P : Addr} {q : Str} (h : TabQ σ P q) (k : ∀ b x, σ b = some x → σ' b = some x) : TabQ σ' P q := by
  obtain ⟨ps, a, b, c⟩ := h
  refine ⟨ps, k _ _ a, b, fun pos cv e => ?_⟩
  obtain ⟨c', o, e1, e2, e3, e4⟩ := c pos cv e
  exact ⟨c', o, e1, k _ _ e2, e3, e4⟩
theorem TabQ.raw {σ σ' : Store} {P : Addr} {q : Str} (h : TabQ σ P q) (k : ∀ b o, σ b = some (.raw o) → σ' b = some (.raw o)) : TabQ σ' P q := by
  obtain ⟨ps, a, b, c⟩ := h
  refine ⟨ps, k _ _ a, b, fun pos cv e => ?_⟩
  obtain ⟨c', o, e1, e2, e3, e4⟩ := c pos cv e
  exact ⟨c', o, e1, k _ _ e2, e3, e4⟩
theorem TabQ.del {σ : Store} {P e : Addr} {q : Str} {xs : List V} (h : TabQ σ P q) (k : σ e = some (.list xs)) : TabQ (σ.del e) P q :=
  h.raw fun b o hb => del_ne (fun q => by rw [q, k] at hb; cases hb) hb
theorem TabStep.new {σ σ' : Store} {P c : Addr} {y : AObj} (h : TabStep P σ σ') (n : σ' c = none) : TabStep P σ (σ'.set c y) := fun b hb hs => by
  have := h b hb hs
  have hne : b ≠ c := fun q => by rw [q, n] at this; rw [q] at hs; exact hs this.symm
  rw [set_ne hne this]
theorem TabStep.at {σ σ' : Store} {P b : Addr} {x : AObj} (h : TabStep P σ σ') (hb : b ≠ P) (e : σ b = some x) : σ' b = some x := by
  rw [h b hb (by rw [e]; simp), e]
theorem TabQ.ne {σ : Store} {P b : Addr} {q : Str} {y : AObj} (T : TabQ σ P q) (h : σ b = some y) (hy : ∀ o, y ≠ .raw o) : b ≠ P := fun e => by
  obtain ⟨ps, t, -⟩ := T
  rw [e, t] at h; cases h; exact hy _ rfl
theorem TabStep.off {σ σ' : Store} {P b : Addr} {q : Str} (h : TabStep P σ σ') (T : TabQ σ' P q) (e : σ' b = none) : σ b = none := by
  cases z : σ b with
  | none => rfl
  | some x =>
    by_cases hb : b = P
    · obtain ⟨ps, a, -⟩ := T
      rw [hb, a] at e; cases e
    · rw [h.at hb z] at e; cases e
theorem LamAt.mono {σ σ' : Store} {f : Addr} {q : Str} {params : Arguments} {body : Expr} {scope : Scope} {clos : List (Str × Addr)} (h : LamAt σ f q params body scope clos) (k : ∀ b x, σ b = some x → σ' b = some x) : LamAt σ' f q params body scope clos := by
  obtain ⟨o, c, oc, pm, ctv, a, b, c', d⟩ := h
  exact ⟨o, c, oc, pm, ctv, k _ _ a, b, k _ _ c', d⟩
theorem LamAt.obj {σ : Store} {f : Addr} {q : Str} {params : Arguments} {body : Expr} {scope : Scope} {clos : List (Str × Addr)} (h : LamAt σ f q params body scope clos) : ∃ o fd, σ f = some (.raw o) ∧ o.data = .func fd := by
  obtain ⟨o, c, oc, pm, ctv, a, b, -⟩ := h
  exact ⟨o, _, a, b⟩
noncomputable abbrev qFin : Str := "Draft.finished.<locals>.<lambda>"
structure CodeAt (σ : Store) (x : Addr) (os : List Op) (bs : List Int) : Prop where
  at_ : ∃ dx, σ x = some (.inst 117 dx) ∧ σ dx = some (.ns [("ops", .tuple (os.map Op.v)), ("begins", .tuple (bs.map V.int))])
theorem CodeAt.mono {σ σ' : Store} {x : Addr} {os : List Op} {bs : List Int} (h : CodeAt σ x os bs) (k : ∀ b y, σ b = some y → σ' b = some y) : CodeAt σ' x os bs := h.at_.elim fun dx q => ⟨dx, k _ _ q.1, k _ _ q.2⟩
section
variable {C : Cx} {n : Nat} {σ : Store}
theorem S_cls (hK : C.K = KK C.w.params) {Cl fI : Addr} {Xs : List V} {Φ : V → Store → Prop} (m : MK Cl fI) (h : ∀ x dx, σ x = none → σ dx = none → x ≠ dx → TCc C n ((σ.set dx (.ns [])).set x (.inst Cl dx)) fI (.ref x :: Xs) fun X σ' => X = .none ∧ Φ (.ref x) σ') : SC C (n + 1) (.ref Cl) Xs Φ σ :=
  have mk := MK.at hK m
  ⟨TC_cls mk.1 mk.2.1 mk.2.2 h⟩
theorem inst_swap {x dx Cl : Addr} {es es' : List (Str × V)} (h : x ≠ dx) : ((σ.set dx (.ns es)).set x (.inst Cl dx)).set dx (.ns es') = (σ.set dx (.ns es')).set x (.inst Cl dx) := by
  funext b
  by_cases q : b = dx
  · rw [q, set_self, set_ne h.symm set_self]
  · by_cases q2 : b = x
    · rw [q2, set_ne h set_self, set_self]
    · rw [set_ne q (set_ne q2 (set_ne q rfl)), set_ne q2 (set_ne q rfl)]
theorem S_obj (hK : C.K = KK C.w.params) {m : Nat} {Cl fI : Addr} {Xs : List V} {es : List (Str × V)} {Φ : V → Store → Prop} (mk : MK Cl fI) (d : ∀ {τ : Store} {x dx : Addr}, τ x = some (.inst Cl dx) → τ dx = some (.ns []) → x ≠ dx → Det C m τ fI (.ref x :: Xs) .none (τ.set dx (.ns es)))
    (k : ∀ x dx, σ x = none → σ dx = none → x ≠ dx → Φ (.ref x) ((σ.set dx (.ns es)).set x (.inst Cl dx))) (hm : m ≤ n) : SC C (n + 1) (.ref Cl) Xs Φ σ :=
  S_cls hK mk fun x dx hx hdx hne => ((d set_self (set_ne hne.symm set_self) hne).less hm).mono fun X σ' q => ⟨q.1, by rw [q.2, inst_swap hne]; exact k x dx hx hdx hne⟩
theorem S_free {env : Env} {ρ : Loc} {x : Str} {pos : Pos} {c : Addr} {X : V} {Φ : V → Store → Prop} (hE : PlainF env) (hx : σ c = some (.cell (some X))) (k : Φ X σ) (hl : env.kindOf x = some .free := by rfl) (hc : env.cells.lookup x = some c := by rfl) (h1 : (x == ("__debug__" : Str)) = false := by rfl) (h2 : (x == ("__classdict__" : Str)) = false := by rfl) : SE C n env ρ (.Name x pos) Φ σ :=
  ⟨TE_free hE.kind hl hc hx k h1 h2⟩
end
section
variable {C : Cx} (hK : C.K = KK C.w.params)
include hK
theorem c_finished {n cnt : Nat} {σ : Store} {a : DA} {d : D} (A : a.Apart σ) (T : TabQ (dst σ a cnt d) 189 qFin) (hC : CodeHd C.h₀ 191 189) (ho : ∀ o ∈ d.ops, o.labels.length ≤ 1000 ∧ ∀ l ∈ o.labels, ∃ j : Nat, l = j ∧ j < d.places.length)
    (hz : Sm d) (hc : cnt ≤ d.places.length) : TCc C (n + 5) (dst σ a cnt d) 192 [.ref a.x] fun X σ' => ∃ x, X = .ref x ∧ (dst σ a cnt d) x = none ∧ CodeAt σ' x (finOps d) (finBegins cnt d) ∧ TabStep 189 (dst σ a cnt d) σ' ∧ TabQ σ' 189 qFin := by
  have dx0 := dst_x (σ := σ) (a := a) (cnt := cnt) (d := d)
  have ddx0 := dst_dx (cnt := cnt) (d := d) A
  have do0 := dst_o (cnt := cnt) (d := d) A
  have dp0 := dst_p (cnt := cnt) (d := d) A
  have dh0 := dst_h (cnt := cnt) (d := d) A
  generalize dst σ a cnt d = τ at *
  have px := T.ne dx0 (fun _ e => by cases e)
  have pdx := T.ne ddx0 (fun _ e => by cases e)
  have po := T.ne do0 (fun _ e => by cases e)
  have pp := T.ne dp0 (fun _ e => by cases e)
  have ph := T.ne dh0 (fun _ e => by cases e)
  refine fnXC ok_Draft_finished hK (ρ₀ := Loc.none) fun L hL hL1 => ?_
  have T1 := T.mono (set_sub (y := .cell (some (.ref a.x))) hL1)
  have St1 : TabStep 189 τ (τ.set (L + 1) (.cell (some (.ref a.x)))) := (TabStep.refl _ _).new hL1
  have c1 : (τ.set (L + 1) (.cell (some (.ref a.x)))) (L + 1) = some (.cell (some (.ref a.x))) := set_self
  generalize τ.set (L + 1) (.cell (some (.ref a.x))) = τ1 at T1 St1 c1
  have cP := T1.ne c1 (fun _ e => by cases e)
  have ex1 := St1.at px dx0
  have edx1 := St1.at pdx ddx0
  have eo1 := St1.at po do0
  have ep1 := St1.at pp dp0
  have eh1 := St1.at ph dh0
  have no : L + 1 ≠ a.o := fun q => by rw [← q, c1] at eo1; cases eo1
  refine SCell.at c1 (SAtt.at (OA.at hK o_Draft_ops) ex1 edx1 ⟨_, _, _, fun i Zs σ' => TabStep 189 (τ1.del a.o) σ' ∧ TabQ σ' 189 qFin ∧ Zs = ((finOps d).take i).map Op.v, .list eo1, mapl hz.o1, ⟨.refl _ _, T1.del eo1, rfl⟩, fun Ca i Y Zs σ' _ hY j => ?_, fun Zs σ' dead j => ?_⟩)
  · obtain ⟨Sp, Tp, rfl⟩ := j
    rw [List.getElem?_map, Option.map_eq_some_iff] at hY
    obtain ⟨o, ho', rfl⟩ := hY
    have om := ho o (List.mem_of_getElem? ho')
    refine TIf_nil (if_t rfl ((W_sound hK).e (compE_ok (ok_Draft_finished.plain L) rfl rfl) ⟨TE_lam Tp hC rfl rfl rfl rfl fun f σ₁ Sp1 Tp1 fn fl La => ?_⟩))
    have S2 := Sp.trans Sp1
    have ne1 : ∀ {b : Addr} {y : AObj}, τ1 b = some y → b ≠ a.o → b ≠ 189 → σ₁ b = some y := fun e h1 h2 => S2.at h2 (del_ne h1 e)
    refine SC.det (c_relabelled hK (m := n + 2) o om.1 f (plc d.places) ⟨La.obj, fun σ₂ hs l hl => (om.2 l hl).elim fun k q => ?_⟩) ⟨S2, Tp1, ?_⟩ (Nat.le_refl _)
    · rw [q.1]
      refine TC_lam (names := ["label"]) (La.mono hs) rfl (fun pm cd ctv => len1 fun v => rfl) (by decide +kernel) (by decide +kernel) fun L' c' hL' => (W_sound hK).e ⟨rfl, rfl, rfl, rfl⟩ (S_free ⟨rfl, rfl, rfl, rfl⟩ (hs _ _ (ne1 c1 no cP)) (SAtt.at (OA.at hK o_Draft_places) (hs _ _ (ne1 ex1 A.x_o px)) (hs _ _ (ne1 edx1 A.dx_o pdx)) ?_))
      refine I_list (hs _ _ (ne1 ep1 A.o_p.symm pp)) (plc_at q.2) (mapl hz.p1) ?_
      exact ⟨rfl, rfl⟩
    · exact take_map (by rw [finOps, List.getElem?_map, ho']; rfl) rfl
  · obtain ⟨Sp, Tp, rfl⟩ := j
    have on : σ' a.o = none := dead a.o (by rw [eo1]; exact fun h => by cases h) Store.del_self
    have et : (finOps d).take (d.ops.map Op.v).length = finOps d := List.take_of_length_le (by rw [finOps, List.length_map, List.length_map]; exact Nat.le_refl _)
    rw [et]
    have bk : TabStep 189 τ1 (σ'.set a.o (.list (d.ops.map Op.v))) := fun b hb hs => by
      by_cases q : b = a.o
      · rw [q, set_self, eo1]
      · rw [set_ne q rfl]
        exact (Sp b hb (by rw [del_ne q rfl]; exact hs)).trans (del_ne q rfl)
    have Tb : TabQ (σ'.set a.o (.list (d.ops.map Op.v))) 189 qFin := Tp.mono (set_sub on)
    show Drop _ _ (σ'.set a.o (.list (d.ops.map Op.v)))
    generalize σ'.set a.o (.list (d.ops.map Op.v)) = τ2 at bk Tb ⊢
    have ex3 := bk.at px ex1
    have edx3 := bk.at pdx edx1
    have ep3 := bk.at pp ep1
    have eh3 := bk.at ph eh1
    have c3 := bk.at cP c1
    have nc : L + 1 ≠ a.h := fun q => by rw [← q, c3] at eh3; cases eh3
    refine Drop.eq (SCell.at c3 (SAtt.at (OA.at hK o_Draft_heads) ex3 edx3 (SCompT.gen hK (fun Ca => ⟨rfl, rfl, rfl, rfl⟩) (.list eh3) (by rw [heads, List.length_map, List.length_range]; exact Nat.le_trans hc hz.p1) (fun i Zs σ' => σ' = τ2.del a.h ∧ Zs = ((finBegins cnt d).take i).map V.int) ⟨rfl, rfl⟩ (fun Ca i Y Zs σ' hY j => ?_) fun Zs σ' j => ?_)))
    · obtain ⟨rfl, rfl⟩ := j
      rw [heads, List.getElem?_map, Option.map_eq_some_iff] at hY
      obtain ⟨k, hk, rfl⟩ := hY
      have hlt := (List.getElem?_eq_some_iff.mp hk).1
      rw [List.length_range] at hlt
      have e1 : k = i := by rw [List.getElem?_range hlt] at hk; exact (Option.some.inj hk).symm
      subst e1
      exact SCell.at (del_ne nc c3) (SAtt.at (Y := .ref a.p) (OA.at hK o_Draft_places) (del_ne A.x_h ex3) (del_ne A.dx_h edx3) (I_list (del_ne A.p_h ep3) (plc_at (Nat.lt_of_lt_of_le hlt hc)) (mapl hz.p1) ⟨rfl, take_map (by rw [finBegins, List.getElem?_map, hk]; rfl) rfl⟩))
    · obtain ⟨rfl, rfl⟩ := j
      have et2 : (finBegins cnt d).take (heads cnt).length = finBegins cnt d := List.take_of_length_le (by rw [finBegins, heads, List.length_map, List.length_map]; exact Nat.le_refl _)
      rw [et2, show (τ2.del a.h).set a.h (.list (heads cnt)) = τ2 from del_set eh3]
      refine S_obj hK m_Code (c_code_init hK (n := n)) (fun x dx hx hdx hne => ⟨Drop.eq ?_⟩) (Nat.le_add_right (n + 1) 2)
      have S4 := ((St1.trans bk).new (y := .ns [("ops", .tuple ((finOps d).map Op.v)), ("begins", .tuple ((finBegins cnt d).map V.int))]) hdx).new (y := .inst 117 dx) (set_ne hne hx)
      exact ⟨x, rfl, (St1.trans bk).off Tb hx, ⟨dx, set_self, set_ne hne.symm set_self⟩, S4, Tb.mono (sub_trans (set_sub hdx) (set_sub (set_ne hne hx)))⟩
end
end
section
open PySem PySem.W PySem.Calls PyProof.Rows PySem.Spec
set_option backward.isDefEq.lazyWhnfCore false
theorem parD_sm {fs : List (D → D)} (hg : ∀ f ∈ fs, ∃ k, Grows k f) {i : Nat} : ∀ {m : Nat}, i ≤ m → m ≤ fs.length → Sm (parD fs m) → Sm (parD fs i)
  | 0, h, _, s => (Nat.le_zero.mp h) ▸ s
  | m + 1, h, hm, s => by
    rcases Nat.lt_or_ge i (m + 1) with q | q
    · rw [parD_succ (List.getElem?_eq_getElem hm)] at s
      exact parD_sm hg (Nat.le_of_lt_succ q) (Nat.le_of_succ_le hm) ((hg _ (List.getElem_mem hm)).elim fun k g => (g.sm s.put).here)
    · exact (Nat.le_antisymm h q) ▸ s
section
variable {C : Cx} (hK : C.K = KK C.w.params)
include hK
theorem c_compiled {n k : Nat} {σ : Store} {pr : Addr} {Xs : List V} {fs : List (D → D)} (P : ProcsAt σ pr Xs) (h4 : Xs.length ≤ 4) (hl : fs.length = Xs.length) (hs : Sm (compD fs))
    (hR : ∀ (i : Nat) X f, Xs[i]? = some X → fs[i]? = some f → Runs C Xs n k 220 [X] f) (hXs : ∀ X ∈ Xs, X.handed = true) (hN : ∀ f ∈ fs, NiceS fs.length f) (T : TabQ σ 189 qFin) (hC : CodeHd C.h₀ 191 189) :
    TCc C (n + 6) σ 312 [.ref pr] fun X σ' => ∃ x, X = .ref x ∧ σ x = none ∧ CodeAt σ' x (finOps (compD fs)) (finBegins fs.length (compD fs)) ∧ TabStep 189 σ σ' ∧ TabQ σ' 189 qFin := by
  have at_ : ∀ i, i < Xs.length → ∃ X f, Xs[i]? = some X ∧ fs[i]? = some f := fun i hi => ⟨_, _, List.getElem?_eq_getElem hi, List.getElem?_eq_getElem (hl.symm ▸ hi)⟩
  have hg : ∀ f ∈ fs, ∃ k, Grows k f := fun f hf => by
    obtain ⟨i, hi, rfl⟩ := List.getElem_of_mem hf
    exact ⟨k, (hR i _ _ (List.getElem?_eq_getElem (hl ▸ hi)) (List.getElem?_eq_getElem hi)).grows⟩
  have hsp : ∀ i, i ≤ fs.length → Sm (parD fs i) := fun i hi => parD_sm hg hi (Nat.le_refl _) hs.put
  have inv := pinv_par hN
  refine fnX ok_compiled hK fun L hL => S_cls hK m_Draft (fun x dx hx hdx hne => ((c_draft_init hK (n := n) hx hdx hne P h4).less (Nat.le_add_right (n + 2) 2)).mono fun X σ' q => ⟨q.1, ?_⟩)
  obtain ⟨-, o, p, h, A, rfl⟩ := q
  have e0 : parD fs 0 = ⟨[], List.replicate fs.length (-1), 0⟩ := rfl
  rw [← hl, ← e0]
  generalize hag : (⟨x, dx, o, p, h, pr⟩ : DA) = a at *
  rw [show x = a.x by rw [← hag]]
  obtain ⟨dp, rl, ps, q1, q2, q3, hlen, hp⟩ := id P
  have Ar : Around' σ a Xs := ⟨A, by rw [← hag]; exact P⟩
  have lps : (ps.map V.ref).length = fs.length := by rw [List.length_map, hlen, hl]
  have hE := ok_compiled.plain L
  rw [hl]
  refine SAtt.at (OA.at hK o_Procedures_rows) (dst_at A q1) (dst_at A q2) (S_lenL (dst_at A q3) (by rw [lps, hl]; exact Nat.le_trans h4 (by decide)) (S_forR hK hE (by rw [lps, hl]; exact Nat.le_trans h4 (by decide)) [("draft", .ref a.x), ("procedures", .ref pr)] (fun i => dst σ a Xs.length (parD fs i)) ⟨rfl, rfl, trivial⟩ rfl (fun i hi => ?_) ?_))
  · rw [lps] at hi
    obtain ⟨X, f, hX, hfi⟩ := at_ i (hl ▸ hi)
    obtain ⟨pp, hpp⟩ : ∃ p, ps[i]? = some p := ⟨_, List.getElem?_eq_getElem (by rw [hlen, ← hl]; exact hi)⟩
    obtain ⟨pd, e1, e2⟩ := (hp i pp X hpp hX).at_
    have R := hR i X f hX hfi
    have hnp := (inv i (Nat.le_of_lt hi)).len
    have s1 := hsp (i + 1) hi
    have es := parD_succ hfi
    rw [es] at s1 ⊢
    generalize parD fs i = d at *
    have s2 : Sm (f (d.here i)) := Sm.put s1
    refine SM_here hK A (D_heads hK A (I_list (dst_h A) (Y := .int i) (by rw [heads, List.getElem?_map, List.getElem?_range (hl ▸ hi)]; rfl) (by rw [heads, List.length_map, List.length_range]; exact Nat.le_trans h4 (by decide)) ?_))
    refine C_here hK A i (R.grows.sm s2) (Nat.lt_of_lt_of_le hi hnp) (SAtt.at (Y := .ref rl) (OA.at hK o_Procedures_rows) (dst_at A q1) (dst_at A q2) (I_list (dst_at A q3) (Y := .ref pp) (by rw [List.getElem?_map, hpp]; rfl) (by rw [lps, hl]; exact Nat.le_trans h4 (by decide)) ?_))
    exact SAtt.at (OA.at hK o_Paragraph_statements) (dst_at A e1) (dst_at A e2) (SC.det (R.run σ a (d.here i) Ar s2) (S_put hK A (.leave i) s1 ⟨⟨rfl, rfl, trivial⟩, rfl⟩) (Nat.le_add_right n 5)) rfl (hXs X (List.mem_of_getElem? hX))
  · rw [lps]
    have I := inv fs.length (Nat.le_refl _)
    have ec : compD fs = (parD fs fs.length).put (.stop "end") := rfl
    rw [ec] at hs ⊢
    generalize parD fs fs.length = d at *
    have hsub : ∀ b x, σ b = some x → dst σ a Xs.length (d.put (.stop "end")) b = some x := fun b x e => dst_at A e
    refine S_put hK A (.stop "end") hs (SMeth.mk ⟨_, .own dst_x (dst_dx A) rfl (MA.at hK a_Draft_finished), TC_use (c_finished hK (n := n) A (T.mono hsub) hC (fun o ho => ?_) hs (by rw [← hl]; exact I.len)) (Nat.le_refl _) fun X σ' q => ?_⟩)
    · rcases List.mem_append.mp ho with ho | ho
      · exact ⟨Nat.le_trans (Op.okT_len (I.ok o ho)).2 (by decide), fun l h => (Op.okT_labels (I.ok o ho)).2 l h⟩
      · rw [List.mem_singleton.mp ho]; exact ⟨Nat.zero_le _, fun l h => by cases h⟩
    · obtain ⟨x', rfl, e1, e2, e3, e4⟩ := q
      refine ⟨Drop.eq ⟨x', rfl, ?_, e2, fun b hb hs => ?_, e4⟩⟩
      · cases z : σ x' with
        | none => rfl
        | some y => rw [hsub _ _ z] at e1; cases e1
      · obtain ⟨y, hy⟩ := Option.ne_none_iff_exists'.mp hs
        rw [e3.at hb (hsub _ _ hy), hy]
end
end
section
open PySem PySem.W PySem.Calls PyProof.Rows PySem.Spec
set_option backward.isDefEq.lazyWhnfCore false
theorem args_dict : ∃ (es : Params → Array DictEntry) (k : Nat), ∀ P, (KK P).lookup 321 = some ⟨.type "dict", none, .dict (es P) k, #[]⟩ ∧ KeysLit P (es P).toList :=
  ⟨_, _, fun P => ⟨rfl, by repeat' first | exact trivial | refine ⟨⟨_, _, rfl, rfl⟩, ?_⟩⟩⟩
theorem args_at (o : Op) : ∃ t, ∀ P, nsIn (KK P) 321 o.word = some (some (.int (o.rest.length : Int) t)) := by
  cases o <;> exact ⟨_, fun P => rfl⟩
theorem word_calc {o : Op} (h : (o.word == "calc") = true) : ∃ s l, o = .calc s l := by
  cases o with
  | «calc» s l => exact ⟨s, l, rfl⟩
  | _ => cases h
theorem word_stop {o : Op} (h : (o.word == "stop") = true) : ∃ s, o = .stop s := by
  cases o with
  | stop s => exact ⟨s, rfl⟩
  | _ => cases h
theorem word_perf {o : Op} (h : ((strsOf [.str "perform", .str "leave"]).any (· == o.word)) = true) : (∃ a b, o = .perform a b) ∨ ∃ a, o = .leave a := by
  cases o with
  | perform a b => exact .inl ⟨a, b, rfl⟩
  | leave a => exact .inr ⟨a, rfl⟩
  | _ => cases h
theorem rest_le (o : Op) : o.rest.length ≤ 2 := by cases o <;> exact Nat.le_of_ble_eq_true rfl
section
variable {C : Cx} {n : Nat} {σ : Store}
theorem SComp.empty {env : Env} {scope : Scope} {cl : List (Str × Addr)} {x : Str} {elt test : Expr} {Φ : V → Store → Prop} {Ys : List V} (hK : C.K = KK C.w.params) (hE : ∀ Ca, PlainF (compEnvC scope cl Ca env)) (hz : Ys.length ≤ 100000)
    (turn : ∀ Ca Y Ψ, Y ∈ Ys → Ψ false σ → (W C n).b (compEnvC scope cl Ca env) (Loc.none.set x Y) test Ψ σ) (k : ∀ D, σ D = none → Φ (.ref D) (σ.set D (.list []))) : SComp C n env scope cl x elt [test] (.tuple Ys) Φ σ :=
  SComp.gen1 hK hE (.tup _) hz (fun i Zs τ => τ = σ ∧ Zs = []) ⟨rfl, rfl⟩ (fun Ca i Y Zs τ hY j => by
    obtain ⟨rfl, rfl⟩ := j
    exact turn Ca Y _ (List.mem_of_getElem? hY) ⟨rfl, rfl⟩) fun D Zs τ j hD _ => by
    obtain ⟨rfl, rfl⟩ := j
    exact Drop.eq (k D hD)
theorem S_lt {a b : Int} {Φ : Bool → Store → Prop} (h : a < b) (k : Φ true σ) : wCmp C n .Lt (.int a) (.int b) Φ σ := by
  show Φ (decide (a < b)) σ
  rw [decide_eq_true h]; exact k
theorem S_ne00 {a b : Addr} {Φ : Bool → Store → Prop} (ha : σ a = some (.list [])) (hb : σ b = some (.list [])) (k : Φ false σ) : SB C n .NotEq (.ref a) (.ref b) Φ σ := ⟨O_neL ha hb rfl rfl ⟨_, rfl, k⟩⟩
end
section
variable {C : Cx} (hK : C.K = KK C.w.params)
include hK
theorem c_form {n cnt : Nat} {σ : Store} {x : Addr} {os : List Op} {bs : List Int} {o : Op} (K : CodeAt σ x os bs) (ho : o.okT cnt fun l => 0 ≤ l ∧ l < os.length) (hb : bs.length = cnt) (hz : os.length ≤ 100000) (hz2 : cnt ≤ 100) :
    Det C (n + 3) σ 333 [.ref x, o.v] (.str "") σ := by
  have lens := Op.okT_len ho
  have labs := (Op.okT_labels ho).1
  obtain ⟨es, k, hes⟩ := args_dict
  obtain ⟨t, hat⟩ := args_at o
  have hl : C.K.lookup 321 = some ⟨.type "dict", none, .dict (es C.w.params) k, #[]⟩ := by rw [hK]; exact (hes _).1
  have hkl := (hes C.w.params).2
  have ha : nsIn C.K 321 o.word = some (some (.int (o.rest.length : Int) t)) := by rw [hK]; exact hat _
  refine fnXC ok_form_fault hK (ρ₀ := Loc.none.set "op" o.v) fun L hL hL1 => ?_
  have hcell : (σ.set (L + 1) (.cell (some (.ref x)))) (L + 1) = some (.cell (some (.ref x))) := set_self
  have hsub := set_sub (y := .cell (some (.ref x))) hL1
  have Kc := K.mono hsub
  generalize σ.set (L + 1) (.cell (some (.ref x))) = σc at hcell hsub Kc ⊢
  have cl := c_labels_in hK (n := n) (σ := σc) o (Nat.le_trans lens.1 (by decide))
  have hr := rest_le o
  rw [Op.v_eq] at cl ⊢
  refine ⟨O_notInK hl hkl ha rfl ⟨_, rfl, S_lenT (by rw [List.length_cons]; omega) ⟨O_itemK hl hkl ha (.int _ _) (wIf_f (by simp) ?_) (fun _ _ => rfl)⟩⟩⟩
  refine SC.new cl (fun c hc => SComp.fresh hc (SComp.empty hK (fun Ca => ⟨rfl, rfl, rfl, rfl⟩) (mapl (Nat.le_trans lens.1 (by decide))) (fun Ca Y Ψ hY k => ?_) fun D hD => ⟨fun E hE _ => S_ne00 (set_at hE set_self) set_self ?_⟩)) le1
  · obtain ⟨l, hl1, rfl⟩ := List.mem_map.mp hY
    obtain ⟨dx, k1, k2⟩ := Kc.at_
    exact wIf_t (decide_eq_true (labs l hl1).1) (SCell.at hcell (SAtt.at (Y := .tuple (os.map Op.v)) (OA.at hK o_Code_ops) k1 k2 (S_lenT (mapl hz) (S_lt (by rw [List.length_map]; exact (labs l hl1).2) k))))
  · have s2 := sub_trans (set_sub (y := .list []) hD) (set_sub (y := .list []) hE)
    have Kd := Kc.mono s2
    have hcd := s2 _ _ hcell
    have hsd := sub_trans hsub s2
    generalize (σc.set D (.list [])).set E (.list []) = σd at Kd hcd hsd ⊢
    refine wIf_f rfl (wIf_s (fun w => ?_) (fun w1 => wIf_f rfl (wIf_s (fun w => ?_) (fun w2 => wIf_f rfl (wIf_s (fun w => ?_) (fun w3 => finS hsd))))))
    · obtain ⟨s, l, rfl⟩ := word_calc w
      have hs : s ∈ signs := by
        cases ho with
        | ok h => exact h.1
      have hok : strOkL s = true := (show ∀ s ∈ signs, strOkL s = true from by decide +kernel) s hs
      have hany : (!(strsOf [.str "+", .str "-", .str "*", .str "/", .str "**", .str "neg"]).any (· == s)) = false := (show ∀ s ∈ signs, (!(strsOf [.str "+", .str "-", .str "*", .str "/", .str "**", .str "neg"]).any (· == s)) = false from by decide +kernel) s hs
      exact N_notIn hok hany (finS hsd)
    · obtain ⟨is, hrest, his, hstop⟩ : ∃ is : List Int, o.rest = is.map V.int ∧ (∀ i ∈ is, 0 ≤ i ∧ i < cnt) ∧ (o.word == ("stop" : Str)) = false := by
        rcases word_perf w with ⟨a, b, rfl⟩ | ⟨a, rfl⟩
        · cases ho with
          | ok h => exact ⟨[a, b], rfl, fun i hi => (List.mem_cons.mp hi).elim (fun e => e ▸ ⟨h.1, h.2.1⟩) fun hi => List.mem_singleton.mp hi ▸ h.2.2, rfl⟩
        · cases ho with
          | ok h => exact h.elim
          | leave h => exact ⟨[_], rfl, fun i hi => List.mem_singleton.mp hi ▸ ⟨Int.natCast_nonneg _, Int.ofNat_lt.mpr h⟩, rfl⟩
      refine ⟨TE_sliceT (a := 1) ((W_sound hK).e (ok_form_fault.plain L) ⟨_, rfl, Nat.le_refl 1, Nat.succ_le_succ (Nat.zero_le _), Nat.le_trans (Nat.succ_le_succ hr) (by decide), SComp.empty (Ys := o.rest) hK (fun Ca => ⟨rfl, rfl, rfl, rfl⟩) (Nat.le_trans hr (by decide)) (fun Ca Y Ψ hY k => ?_) fun D hD => ⟨fun E hE _ => S_ne00 (set_at hE set_self) set_self ?_⟩⟩)⟩
      · rw [hrest] at hY
        obtain ⟨l, hl1, rfl⟩ := List.mem_map.mp hY
        obtain ⟨dx, k1, k2⟩ := Kd.at_
        exact wIf_t (decide_eq_true (his l hl1).1) (SCell.at hcd (SAtt.at (Y := .tuple (bs.map V.int)) (OA.at hK o_Code_begins) k1 k2 (S_lenT (mapl (by rw [hb]; exact Nat.le_trans hz2 (by decide))) (S_lt (by rw [List.length_map, hb]; exact (his l hl1).2) k))))
      · exact wIf_f rfl (wIf_f rfl (wIf_f hstop (finS (sub_trans hsd (sub_trans (set_sub hD) (set_sub hE))))))
    · obtain ⟨s, rfl⟩ := word_stop w
      have hs : s ∈ (["end", "stop", "exit"] : List Str) := by
        cases ho with
        | ok h => exact h.elim (fun e => e ▸ .tail _ (.head _)) fun e => e ▸ .tail _ (.tail _ (.head _))
        | fin => exact .head _
      have hok : strOkL s = true := (show ∀ s ∈ (["end", "stop", "exit"] : List Str), strOkL s = true from by decide +kernel) s hs
      have hany : (!(strsOf [.str "end", .str "stop", .str "exit"]).any (· == s)) = false := (show ∀ s ∈ (["end", "stop", "exit"] : List Str), (!(strsOf [.str "end", .str "stop", .str "exit"]).any (· == s)) = false from by decide +kernel) s hs
      exact N_notIn hok hany (finS hsd)
end
end
section
open PySem PySem.W PySem.Calls PyProof.Rows PySem.Spec
set_option backward.isDefEq.lazyWhnfCore false
theorem nodup_len : ∀ (N : Nat) (l : List Nat), l.Nodup → (∀ x ∈ l, x < N) → l.length ≤ N
  | 0, [], _, _ => Nat.le_refl _
  | 0, x :: r, _, h => absurd (h x (.head _)) (Nat.not_lt_zero _)
  | N + 1, l, hn, h => by
    by_cases q : N ∈ l
    · have a := nodup_len N (l.erase N) (hn.erase N) fun x hx => Nat.lt_of_le_of_ne (Nat.le_of_lt_succ (h x (List.mem_of_mem_erase hx))) fun e => hn.not_mem_erase (e ▸ hx)
      rw [List.length_erase_of_mem q] at a
      omega
    · exact Nat.le_succ_of_le (nodup_len N l hn fun x hx => Nat.lt_of_le_of_ne (Nat.le_of_lt_succ (h x hx)) fun e => q (e ▸ hx))
noncomputable def knE (q : Nat × Nat) : Int × V := ((q.1 : Int), .int q.2)
theorem kn_some {kn : List (Nat × Nat)} {p : Nat} {X : V} (h : lkD (p : Int) (kn.map knE) = some X) : ∃ q ∈ kn, q.1 = p ∧ X = .int q.2 := by
  unfold lkD at h
  obtain ⟨e, h1, rfl⟩ := Option.map_eq_some_iff.mp h
  have h2 := List.find?_some h1
  obtain ⟨q, hq, rfl⟩ := List.mem_map.mp (List.mem_of_find?_eq_some h1)
  exact ⟨q, hq, Int.ofNat.inj (of_decide_eq_true h2), rfl⟩
theorem kn_none {kn : List (Nat × Nat)} {p : Nat} (h : lkD (p : Int) (kn.map knE) = none) : p ∉ kn.map (·.1) := fun hp => by
  unfold lkD at h
  rw [Option.map_eq_none_iff, List.find?_eq_none] at h
  obtain ⟨q, hq, rfl⟩ := List.mem_map.mp hp
  exact h (knE q) (List.mem_map_of_mem hq) (decide_eq_true rfl)
theorem kn_put {kn : List (Nat × Nat)} {p h : Nat} (hp : p ∉ kn.map (·.1)) : putD (p : Int) (.int (h : Int)) (kn.map knE) = (kn ++ [(p, h)]).map knE := by
  have : (kn.map knE).any (fun e => e.1 = (p : Int)) = false := by
    rw [List.any_eq_false]
    intro e he
    obtain ⟨q, hq, rfl⟩ := List.mem_map.mp he
    exact fun d => hp (Int.ofNat.inj (of_decide_eq_true d) ▸ List.mem_map_of_mem hq)
  unfold putD
  rw [this, if_neg (by decide), List.map_append]
  rfl
theorem pairs_data : ∀ (l : List (Int × Int)), V.datas 38 (l.map pairI) = true
  | [] => rfl
  | x :: l => V.datas_cons rfl (pairs_data l)
structure HJ (σ : Store) (l kd fa : Addr) (os : List Op) (σ' : Store) (ln : List (Int × Int)) (kn : List (Nat × Nat)) : Prop where
  hl : σ' l = some (.list (ln.map pairI))
  hk : σ' kd = some (.idict (kn.map knE))
  hf : σ' fa = some (.list [])
  nl : σ l = none
  nk : σ kd = none
  nf : σ fa = none
  sub : ∀ b y, σ b = some y → σ' b = some y
  gl : ∀ q ∈ ln, GP os q
  gk : ∀ q ∈ kn, GP os ((q.1 : Int), (q.2 : Int))
  nd : (kn.map (·.1)).Nodup
  lf : l ≠ fa
section
variable {σ σ' : Store} {l kd fa : Addr} {os : List Op} {ln : List (Int × Int)} {kn : List (Nat × Nat)}
theorem HJ.lk (h : HJ σ l kd fa os σ' ln kn) : l ≠ kd := fun q => by have := h.hl; rw [q, h.hk] at this; cases this
theorem HJ.kf (h : HJ σ l kd fa os σ' ln kn) : kd ≠ fa := fun q => by have := h.hk; rw [q, h.hf] at this; cases this
theorem HJ.new (h : HJ σ l kd fa os σ' ln kn) {c : Addr} {y : AObj} (n : σ' c = none) : HJ σ l kd fa os (σ'.set c y) ln kn :=
  ⟨set_at n h.hl, set_at n h.hk, set_at n h.hf, h.nl, h.nk, h.nf, sub_trans h.sub (set_sub n), h.gl, h.gk, h.nd, h.lf⟩
theorem HJ.line (h : HJ σ l kd fa os σ' ln kn) {ln' : List (Int × Int)} (g : ∀ q ∈ ln', GP os q) : HJ σ l kd fa os (σ'.set l (.list (ln'.map pairI))) ln' kn :=
  ⟨set_self, set_ne h.lk.symm h.hk, set_ne h.lf.symm h.hf, h.nl, h.nk, h.nf, fun b y e => set_ne (ne_of_none h.nl e) (h.sub b y e), g, h.gk, h.nd, h.lf⟩
theorem HJ.known (h : HJ σ l kd fa os σ' ln kn) {p t : Nat} (hp : p ∉ kn.map (·.1)) (g : GP os ((p : Int), (t : Int))) : HJ σ l kd fa os (σ'.set kd (.idict (putD (p : Int) (.int (t : Int)) (kn.map knE)))) ln (kn ++ [(p, t)]) :=
  ⟨set_ne h.lk h.hl, by rw [kn_put hp]; exact set_self, set_ne h.kf.symm h.hf, h.nl, h.nk, h.nf, fun b y e => set_ne (ne_of_none h.nk e) (h.sub b y e), h.gl, mem_snoc h.gk g,
    by rw [List.map_append, List.nodup_append]; exact ⟨h.nd, by simp, fun a ha b hb e => hp ((show b = p from List.mem_singleton.mp hb) ▸ e ▸ ha)⟩, h.lf⟩
theorem HJ.len (h : HJ σ l kd fa os σ' ln kn) : kn.length ≤ os.length := by
  have := nodup_len os.length (kn.map (·.1)) h.nd fun p hp => by
    obtain ⟨q, hq, rfl⟩ := List.mem_map.mp hp
    obtain ⟨p', t, e, h1, -⟩ := h.gk q hq
    exact Int.ofNat.inj (Prod.mk.inj e).1 ▸ h1
  rwa [List.length_map] at this
end
theorem eName {C : Cx} {n : Nat} {σ : Store} {env : Env} {ρ : Loc} {x : Str} {p : Pos} {X : V} {Φ : V → Store → Prop} {hk : env.kindOf x = some .local} (h : ρ x = some X) (k : Φ X σ) : (cLoc (C := C) (n := n) env ρ x p Φ σ hk (ρ x) rfl).p :=
  have : ∀ o (e : ρ x = o), o = some X → (cLoc (C := C) (n := n) env ρ x p Φ σ hk o e).p := fun o e q => by subst q; exact k
  this _ rfl h
theorem TSS.weak {C : Cx} {n : Nat} {σ : Store} {env : Env} {ρ ρ' : Loc} (k : Loc.le ρ' ρ) {st : List Stmt} {Φ : Fl → Loc → Store → Prop} (h : TSS C n env ρ' σ st Φ) : TSS C n env ρ σ st Φ := fun A s Q E R H F q => h A s Q E R H (F.weak k) q
theorem S_while {C : Cx} {n : Nat} {σ : Store} {env : Env} {ρ : Loc} {test : Expr} {body : List Stmt} {pos : Pos} {N : Loc → Store → Prop} {J : Fl → Loc → Store → Prop} (hK : C.K = KK C.w.params) (hE : PlainF env) (l : List (Str × V)) (I : Nat → Store → Prop) (B : Nat → Store → Prop) (h0 : Loc.has l ρ) (k₀ : Nat) (i0 : I k₀ σ)
    (tst : ∀ k ρ' σ', Loc.has l ρ' → I k σ' → (W C n).b env ρ' test (fun b σ₁ => wIf b (B k σ₁) (N ρ' σ₁)) σ')
    (turn : ∀ k σ₁, B k σ₁ → (W C n).ss env (Loc.of l) body (fun ρ₃ σ₃ => Loc.has l ρ₃ ∧ ∃ m, m < k ∧ I m σ₃) (forK (fun ρ₃ σ₃ => Loc.has l ρ₃ ∧ ∃ m, m < k ∧ I m σ₃) (fun _ _ => False) (fun _ _ _ => False)) σ₁) : SS C n env ρ (.While test body [] pos) N J σ :=
  ⟨TS_while (fun k ρ' σ' => Loc.has l ρ' ∧ I k σ') k₀ ⟨h0, i0⟩ fun k ρ' σ' j => ((W_sound hK).b hE (tst k ρ' σ' j.1 j.2)).mono fun b σ₁ h => by
    cases b with
    | false => exact if_f rfl h
    | true =>
      refine if_t rfl (TSS.weak (Loc.has_le j.1) (((W_sound hK).ss hE (turn k σ₁ h)).mono fun f ρ₃ σ₃ h => ?_))
      cases f with
      | next => exact h.2.elim fun m q => ⟨m, q.1, h.1, q.2⟩
      | cont => exact h.2.elim fun m q => ⟨m, q.1, h.1, q.2⟩
      | brk => exact h.elim
      | ret V => exact h.elim⟩
theorem A_itemD {C : Cx} {n : Nat} {σ : Store} {env : Env} {ρ : Loc} {o i : Expr} {pos : Pos} {Y : V} {N : Loc → Store → Prop} (hK : C.K = KK C.w.params) (hE : PlainF env)
    (h : (W C n).e env ρ o (fun X => (W C n).e env ρ i (fun I σ₂ => ∃ a k es, X = .ref a ∧ I = .int k ∧ σ₂ a = some (.idict es) ∧ es.length ≤ 100000 ∧ N ρ (σ₂.set a (.idict (putD k Y es))))) σ) : SAs C n env ρ (.Subscript o i pos) Y N σ :=
  ⟨TA_itemD (((W_sound hK).e hE h).mono fun X σ₁ h => ((W_sound hK).e hE h).mono fun I σ₂ q => q.elim fun a q => q.elim fun k q => q.elim fun es q => ⟨a, k, es, q⟩)⟩
noncomputable def whileBody : List Stmt → List Stmt
  | [_, _, Stmt.While _ b _ _, _] => b
  | _ => []
structure BH (σ : Store) (l kd fa : Addr) (os : List Op) (m : Nat) (τ : Store) (ln : List (Int × Int)) (p h : Nat) (kn : List (Nat × Nat)) : Prop where
  j : HJ σ l kd fa os τ (ln ++ [((p : Int), (h : Int))]) kn
  hp : p < os.length
  hh : hrun (os.take p) 0 = some h
  m : m = 5 * (os.length - kn.length) + (ln.length + 1)
  bd : ln.length + 1 ≤ 200 + 4 * kn.length
theorem low_word {o : Op} (w : ((strsOf [.str "do", .str "perform", .str "leave", .str "stop"]).any (· == o.word)) = true) : o.taken = 0 ∧ o.gives ≠ 1 := by
  cases o with
  | dod x => exact ⟨rfl, fun e => by cases e⟩
  | perform a b => exact ⟨rfl, fun e => by cases e⟩
  | leave a => exact ⟨rfl, fun e => by cases e⟩
  | stop a => exact ⟨rfl, fun e => by cases e⟩
  | _ => cases w
section
variable {C : Cx} (hK : C.K = KK C.w.params)
include hK
theorem heights_turn {n k cnt m : Nat} {σ τ : Store} {L x l kd fa p h : Addr} {os : List Op} {bs : List Int} {ln : List (Int × Int)} {kn : List (Nat × Nat)} (K : CodeAt σ x os bs) (CO : CodeOk cnt os bs) (hz : os.length ≤ 60000) (B : BH σ l kd fa os m τ ln p h kn)
    {F : Loc → Store → Prop} (fin : ∀ ρ τ ln kn, ρ "code" = some (.ref x) → ρ "line" = some (.ref l) → ρ "known" = some (.ref kd) → ρ "faults" = some (.ref fa) → HJ σ l kd fa os τ ln kn → 5 * (os.length - kn.length) + ln.length < m → ln.length ≤ 200 + 4 * kn.length → F ρ τ) :
    (W C (n + 4)).ss (callEnv f_height_faults.fd L 357) (Loc.of [("code", .ref x), ("line", .ref l), ("known", .ref kd), ("faults", .ref fa)]) (whileBody f_height_faults.body) F (forK F (fun _ _ => False) (fun _ _ _ => False)) τ := by
  have hE := ok_height_faults.plain L
  obtain ⟨dx, k1, k2⟩ := K.at_
  obtain ⟨o, ho⟩ : ∃ o, os[p]? = some o := ⟨_, List.getElem?_eq_getElem B.hp⟩
  obtain ⟨w1, w2, w3⟩ := ways_good CO ho B.hh
  have lo := (Op.okT_len (CO.ok o (List.mem_of_getElem? ho))).1
  have hl' := B.j.hl
  rw [List.map_append] at hl'
  have bd := B.bd
  have bm := B.m
  have hlen := B.j.len
  have J2 := B.j.line (ln' := ln) fun q hq => B.j.gl q (List.mem_append_left _ hq)
  refine ⟨_, .pop hl', B_pop hl' (by rw [List.length_map]; exact Nat.le_trans (show ln.length + 1 ≤ 300000 by omega) (by rw [sizeLine_eq]; decide)) ?_⟩
  generalize τ.set l (.list (ln.map pairI)) = τ2 at J2 ⊢
  have ct := fun τ => c_height hK (n := n) (σ := τ) o h
  rw [if_neg (Nat.not_lt.mpr w1)] at ct
  have hb0 : 0 ≤ (h : Int) - o.taken + o.gives := by omega
  have hwl := ways_len (CO.ok o (List.mem_of_getElem? ho)) (p : Int) ((h : Int) - o.taken + o.gives)
  have hh0 : o.gives ≠ 1 → h = o.taken := w2
  generalize (h : Int) - o.taken + o.gives = bh at w3 hb0 hwl ct
  have cw := fun τ => c_ways hK (n := n + 2) (σ := τ) o (p : Int) bh (Nat.le_trans lo (by decide))
  refine SAtt.at (Y := .tuple (os.map Op.v)) (OA.at hK o_Code_ops) (J2.sub _ _ k1) (J2.sub _ _ k2) (S_lenT (mapl (Nat.le_trans hz (by decide))) (wIf_f (decide_eq_false (by have := B.hp; rw [List.length_map]; omega)) ⟨O_inD J2.hk ⟨_, rfl, ?_⟩⟩))
  cases hkn : lkD (p : Int) (kn.map knE) with
  | some X =>
    obtain ⟨q, hq, e0, rfl⟩ := kn_some hkn
    obtain ⟨p', t, e, h1, h2⟩ := J2.gk q hq
    have e1 : q.1 = p' := Int.ofNat.inj (Prod.mk.inj e).1
    have e2 : q.2 = t := Int.ofNat.inj (Prod.mk.inj e).2
    rw [← e1, e0, B.hh, ← e2] at h2
    refine wIf_t rfl ⟨O_itemD J2.hk hkn (wIf_f ?_ (fin _ _ _ _ rfl rfl rfl rfl J2 (by omega) (by omega))) (fun _ _ => rfl)⟩
    rw [← Option.some.inj h2]; simp
  | none =>
    have J3 := J2.known (kn_none hkn) ⟨p, h, rfl, B.hp, B.hh⟩
    have hlen3 := J3.len
    rw [List.length_append, List.length_singleton] at hlen3
    refine wIf_f rfl (A_itemD hK hE ⟨kd, (p : Int), _, rfl, rfl, J2.hk, by rw [List.length_map]; omega, ?_⟩)
    generalize τ2.set kd (.idict (putD (p : Int) (.int (h : Int)) (kn.map knE))) = τ3 at J3 ⊢
    rw [Op.v_eq] at ct cw
    refine SAtt.at (Y := .tuple (os.map Op.v)) (OA.at hK o_Code_ops) (J3.sub _ _ k1) (J3.sub _ _ k2) (I_tup (Y := .tuple (.str o.word :: o.rest)) (by rw [List.getElem?_map, ho, ← Op.v_eq]; rfl) (mapl (Nat.le_trans hz (by decide))) (SC.det (ct τ3) (wIf_f (decide_eq_false (by omega)) ?_) (by omega)))
    have ew : ∀ {Φ : V → Store → Prop}, (∀ τ4, HJ σ l kd fa os τ4 (ln ++ waysOf o (p : Int) bh) (kn ++ [(p, h)]) → Φ .none τ4) → SC C (n + 4) (.ref 352) [.tuple (.str o.word :: o.rest), .int p, .int bh] (fun R σ' => SC C (n + 4) (.bltn "list.extend") [.ref l, R] Φ σ') τ3 := fun {Φ} k => SC.new (cw τ3) (fun c hc => by
      have J4 := J3.new (y := .list ((waysOf o (p : Int) bh).map pairI)) hc
      refine ⟨B_extend J4.hl set_self (by rw [List.length_map, List.length_map]; exact Nat.le_trans (show ln.length + (waysOf o (p : Int) bh).length ≤ 300000 by omega) (by rw [sizeLine_eq]; decide)) ?_⟩
      rw [← List.map_append]
      exact k _ (J4.line (ln' := ln ++ waysOf o (p : Int) bh) fun q hq => (List.mem_append.mp hq).elim (J4.gl q) (w3 q))) (Nat.le_refl _)
    have m1 : 5 * (os.length - (kn ++ [(p, h)]).length) + (ln ++ waysOf o (p : Int) bh).length < m := by rw [List.length_append, List.length_append, List.length_singleton]; omega
    have m2 : (ln ++ waysOf o (p : Int) bh).length ≤ 200 + 4 * (kn ++ [(p, h)]).length := by rw [List.length_append, List.length_append, List.length_singleton]; omega
    exact wIf_s (fun w => wIf_f (decide_eq_false (by have := low_word w; have := hh0 this.2; omega)) (wIf_f rfl ⟨_, .extend J3.hl, ew fun τ4 J4 => fin _ _ _ _ rfl rfl rfl rfl J4 m1 m2⟩))
      (fun w => wIf_f rfl ⟨_, .extend J3.hl, ew fun τ4 J4 => fin _ _ _ _ rfl rfl rfl rfl J4 m1 m2⟩)
end
end
section
open PySem PySem.W PySem.Calls PyProof.Rows PySem.Spec
set_option backward.isDefEq.lazyWhnfCore false
theorem begs_gp {cnt : Nat} {os : List Op} {bs : List Int} (CO : CodeOk cnt os bs) : ∀ q ∈ (bs ++ [0]).map (fun b => (b, (0 : Int))), GP os q := fun q hq => by
  obtain ⟨b, hb, rfl⟩ := List.mem_map.mp hq
  have hs := CO.size
  rcases List.mem_append.mp hb with hb | hb
  · obtain ⟨i, hi, e⟩ := List.getElem_of_mem hb
    obtain ⟨bf, b0, b1, b2⟩ := CO.beg
    obtain ⟨e1, e2, e3, e4, -⟩ := b2 i (CO.blen ▸ hi)
    rw [List.getElem?_eq_getElem hi, e] at e1
    exact ⟨bf i, 0, by rw [Option.some.inj e1]; rfl, by omega, e2⟩
  · rw [List.mem_singleton.mp hb]
    exact ⟨0, 0, rfl, hs, rfl⟩
theorem eqv_pairs {l : List (Int × Int)} : (!(PyData.list (V.pys (l.map pairI))).eqv (.list (V.pys []))) = !l.isEmpty := by
  cases l <;> rfl
section
variable {C : Cx} (hK : C.K = KK C.w.params)
include hK
theorem c_heights {n cnt : Nat} {σ : Store} {x : Addr} {os : List Op} {bs : List Int} (K : CodeAt σ x os bs) (CO : CodeOk cnt os bs) (hz : os.length ≤ 60000) (hz2 : cnt ≤ 100) : TCc C (n + 5) σ 357 [.ref x] (NewR σ (.list [])) := by
  obtain ⟨dx, k1, k2⟩ := K.at_
  have lb : bs.length ≤ 100 := CO.blen ▸ hz2
  refine fnX ok_height_faults hK fun L hL => ⟨TE_dict0I fun kd hkd _ => ⟨fun fa hfa _ => ?_⟩⟩
  have hE := ok_height_faults.plain L
  have nfa : σ fa = none := set_none hfa
  have s1 := sub_trans (set_sub (y := .idict []) hkd) (set_sub (y := .list []) hfa)
  have hk1 : ((σ.set kd (.idict [])).set fa (.list [])) kd = some (.idict []) := set_at hfa set_self
  have hf1 : ((σ.set kd (.idict [])).set fa (.list [])) fa = some (.list []) := set_self
  generalize (σ.set kd (.idict [])).set fa (.list []) = σ1 at s1 hk1 hf1 ⊢
  refine SAtt.at (Y := .tuple (bs.map V.int)) (OA.at hK o_Code_begins) (s1 _ _ k1) (s1 _ _ k2) (S_listT (mapl (Nat.le_trans lb (by decide))) fun c hc => ⟨fun e he _ => S_listAdd (set_at he set_self) set_self (by rw [List.length_map]; show bs.length + 1 ≤ 100000; omega) fun g hg => SComp.fresh hg ?_⟩)
  have s2 := sub_trans (set_sub (y := .list (bs.map V.int)) hc) (set_sub (y := .list [.int 0]) he)
  have hk2 := s2 _ _ hk1
  have hf2 := s2 _ _ hf1
  have s3 := sub_trans s1 s2
  generalize (σ1.set c (.list (bs.map V.int))).set e (.list [.int 0]) = σ2 at s3 hk2 hf2 ⊢
  rw [show bs.map V.int ++ [V.int 0] = (bs ++ [0]).map V.int by rw [List.map_append]; rfl]
  refine SComp.gen hK (fun Ca => ⟨rfl, rfl, rfl, rfl⟩) (.tup _) (mapl (by rw [List.length_append, List.length_singleton]; omega)) (fun i Zs τ => τ = σ2 ∧ Zs = ((bs ++ [0]).take i).map fun b => pairI (b, 0)) ⟨rfl, rfl⟩ (fun Ca i Y Zs τ hY j => ?_) fun l Zs τ j hl0 _ => ?_
  · obtain ⟨rfl, rfl⟩ := j
    rw [List.getElem?_map, Option.map_eq_some_iff] at hY
    obtain ⟨b, hb, rfl⟩ := hY
    exact ⟨rfl, take_map hb rfl⟩
  · obtain ⟨rfl, rfl⟩ := j
    have hl0 : τ l = none := hl0
    have et : (bs ++ [0]).map (fun b => pairI (b, 0)) = ((bs ++ [0]).map fun b => (b, (0 : Int))).map pairI := by rw [List.map_map]; rfl
    rw [List.length_map, List.take_length, et]
    have nl : σ l = none := by
      cases z : σ l with
      | none => rfl
      | some y => rw [s3 _ _ z] at hl0; cases hl0
    have J0 : HJ σ l kd fa os (τ.set l (.list (((bs ++ [0]).map fun b => (b, (0 : Int))).map pairI))) ((bs ++ [0]).map fun b => (b, (0 : Int))) [] :=
      ⟨set_self, set_at hl0 hk2, set_at hl0 hf2, nl, hkd, nfa, sub_trans s3 (set_sub hl0), begs_gp CO, (fun _ h => by cases h), List.nodup_nil, fun q => by rw [q, hf2] at hl0; cases hl0⟩
    refine Drop.eq (S_while hK hE [("code", .ref x), ("line", .ref l), ("known", .ref kd), ("faults", .ref fa)] (fun m σ' => ∃ ln kn, HJ σ l kd fa os σ' ln kn ∧ m = 5 * (os.length - kn.length) + ln.length ∧ ln.length ≤ 200 + 4 * kn.length) (fun m σ' => ∃ ln p h kn, BH σ l kd fa os m σ' ln p h kn) ⟨rfl, rfl, rfl, rfl, trivial⟩ _ ⟨_, _, J0, rfl, by rw [List.length_map, List.length_append, List.length_singleton]; omega⟩ (fun m ρ' σ' hρ I => ?_) fun m σ' I => ?_)
    · obtain ⟨ln, kn, J, rfl, hb⟩ := I
      refine eName hρ.2.1 ?_
      refine ⟨fun e he _ => ⟨O_neL (set_at he J.hl) set_self (pairs_data _) rfl ⟨_, rfl, ?_⟩⟩⟩
      rw [eqv_pairs]
      have J1 := J.new (y := .list []) he
      rcases List.eq_nil_or_concat ln with rfl | ⟨ln', q, hq⟩
      · refine eName hρ.2.2.2.1 ?_
        refine ⟨σ.set fa (.list []), fun b y e => ?_, fa, rfl, nfa, rfl⟩
        by_cases qb : b = fa
        · rw [qb, set_self] at e; rw [qb, J1.hf]; exact e
        · rw [set_ne qb rfl] at e; exact J1.sub b y e
      · rw [List.concat_eq_append] at hq
        subst hq
        obtain ⟨p, h, rfl, hp, hh⟩ := J1.gl q (List.mem_append_right _ (.head _))
        refine wIf_t (by cases ln' <;> rfl) ⟨ln', p, h, kn, J1, hp, hh, ?_, ?_⟩
        · rw [List.length_append, List.length_singleton]
        · rw [List.length_append, List.length_singleton] at hb; exact hb
    · obtain ⟨ln, p, h, kn, B⟩ := I
      exact heights_turn hK (k := 0) K CO hz B fun ρ τ ln kn r1 r2 r3 r4 J a b => ⟨⟨r1, r2, r3, r4, trivial⟩, _, a, ln, kn, J, rfl, b⟩
end
end
section
open PySem PySem.W PySem.Calls PyProof.Rows PySem.Spec
set_option backward.isDefEq.lazyWhnfCore false
theorem spot_in {os : List Op} {o : Op} {cnt : Nat} (h : o.okT cnt (Spot os)) : o.okT cnt fun l => 0 ≤ l ∧ l < os.length := Op.okT_mono (fun l hl => hl.elim fun j q => q.1 ▸ ⟨Int.natCast_nonneg j, Int.ofNat_lt.mpr q.2.1⟩) h
section
variable {C : Cx} (hK : C.K = KK C.w.params)
include hK
theorem c_well {n cnt : Nat} {σ : Store} {x : Addr} {os : List Op} {bs : List Int} (K : CodeAt σ x os bs) (CO : CodeOk cnt os bs) (hz : os.length ≤ 60000) (hz2 : cnt ≤ 100) : TCc C (n + 7) σ 364 [.ref x] (NewR σ (.list [])) := by
  obtain ⟨dx, k1, k2⟩ := K.at_
  have lb : bs.length = cnt := CO.blen
  have hz' : os.length ≤ 100000 := Nat.le_trans hz (by decide)
  refine fnX ok_well_formed hK fun L hL => ⟨fun F hF _ => ?_⟩
  have hE := ok_well_formed.plain L
  have s1 := set_sub (y := .list []) hF
  have hF1 : (σ.set F (.list [])) F = some (.list []) := set_self
  generalize σ.set F (.list []) = σ1 at s1 hF1 ⊢
  have atO : ∀ {Φ : V → Store → Prop}, Φ (.tuple (os.map Op.v)) σ1 → SAtt C (.ref x) "ops" Φ σ1 := fun k => SAtt.at (OA.at hK o_Code_ops) (s1 _ _ k1) (s1 _ _ k2) k
  have atB : ∀ {Φ : V → Store → Prop}, Φ (.tuple (bs.map V.int)) σ1 → SAtt C (.ref x) "begins" Φ σ1 := fun k => SAtt.at (OA.at hK o_Code_begins) (s1 _ _ k1) (s1 _ _ k2) k
  have mB : (bs.map V.int).length ≤ 100000 := mapl (lb ▸ Nat.le_trans hz2 (by decide))
  have mO : (os.map Op.v).length ≤ 100000 := mapl hz'
  refine atB (S_lenT mB (S_forR hK hE mB [("code", .ref x), ("faults", .ref F)] (fun _ => σ1) ⟨rfl, rfl, trivial⟩ rfl (fun i hi => ?_) (atO (S_lenT mO (S_forR hK hE mO [("code", .ref x), ("faults", .ref F)] (fun _ => σ1) ⟨rfl, rfl, trivial⟩ rfl (fun i hi => ?_) ?_)))))
  · rw [List.length_map, lb] at hi
    obtain ⟨bf, b0, b1, b2⟩ := CO.beg
    obtain ⟨e1, e2, e3, e4, -⟩ := b2 i hi
    have hs := CO.size
    exact atB (I_tup (Y := .int (bf i)) (by rw [List.getElem?_map, e1]; rfl) mB (atO (S_lenT mO (S_lt (by rw [List.length_map]; omega) ⟨⟨rfl, rfl, trivial⟩, rfl⟩))))
  · rw [List.length_map] at hi
    obtain ⟨o, ho⟩ : ∃ o, os[i]? = some o := ⟨_, List.getElem?_eq_getElem hi⟩
    exact atO (I_tup (Y := o.v) (by rw [List.getElem?_map, ho]; rfl) mO (SC.det (c_form hK (n := n) (K.mono s1) (spot_in (CO.ok o (List.mem_of_getElem? ho))) lb hz' hz2) ⟨⟨rfl, rfl, trivial⟩, rfl⟩ (Nat.le_add_right (n + 3) 3)))
  · refine ⟨fun e he _ => ⟨O_eqL (Xs := []) (Ys := []) (set_at he hF1) set_self rfl rfl ⟨_, rfl, ?_⟩⟩⟩
    have s2 := sub_trans s1 (set_sub (y := .list []) he)
    refine wIf_t rfl (SC.new (c_heights hK (n := n) (K.mono s2) CO hz hz2) (fun fa hfa => ⟨B_set0 set_self fun c o hc hso => ⟨B_sorted0 set_self hso fun D hD => ?_⟩⟩) le1)
    have nD := set_none (set_none (set_none hD))
    have nD1 : σ D = none := by
      cases z : σ D with
      | none => rfl
      | some y => rw [s1 _ _ z] at nD; cases nD
    exact finNS nD1 (set_both (sub_trans s2 (sub_trans (set_sub hfa) (set_sub hc))))
end
end
section
open PySem PySem.W PySem.Calls PyProof.Rows PySem.Spec
set_option backward.isDefEq.lazyWhnfCore false
theorem int_data {d : Nat} {i : Int} : (V.int i).data d = true := by cases d <;> rfl
theorem two_data {d : Nat} {w : Str} {x y : V} (hw : PyData.strOk w = true) (hx : x.data d = true) (hy : y.data d = true) : (V.tuple [.str w, x, y]).data (d + 1) = true := V.data_tup (V.datas_cons (str_data hw _) (V.datas_cons hx (d1 hy)))
theorem one_data {d : Nat} {w : Str} {x : V} (hw : PyData.strOk w = true) (hx : x.data d = true) : (V.tuple [.str w, x]).data (d + 1) = true := V.data_tup (V.datas_cons (str_data hw _) (d1 hx))
theorem ints_data0 : ∀ (l : List Int) {d : Nat}, V.datas d (l.map V.int) = true
  | [], _ => V.datas_nil
  | _ :: l, _ => V.datas_cons int_data (ints_data0 l)
theorem op_data {cnt : Nat} {L : Int → Prop} {o : Op} (k : o.okT cnt L) : o.v.data 25 = true := by
  cases k with
  | fin => exact one_data (by decide +kernel) (str_data (by decide +kernel) _)
  | leave h => exact one_data (by decide +kernel) int_data
  | ok k =>
    cases o with
    | push x l => exact two_data (by decide +kernel) k.1 int_data
    | «calc» s l => exact two_data (by decide +kernel) (str_data ((show ∀ s ∈ signs, PyData.strOk s = true from by decide +kernel) s k.1) _) int_data
    | put x l => exact two_data (by decide +kernel) k.1 int_data
    | key s l => exact two_data (by decide +kernel) (str_data k.1 _) int_data
    | test x l => exact two_data (by decide +kernel) k.1 int_data
    | less s l => exact two_data (by decide +kernel) int_data int_data
    | jump l => exact one_data (by decide +kernel) int_data
    | choose ls => exact one_data (by decide +kernel) (V.data_tup (ints_data0 ls))
    | dod x => exact one_data (by decide +kernel) k
    | count s => exact one_data (by decide +kernel) int_data
    | perform a b => exact two_data (by decide +kernel) int_data int_data
    | leave a => exact k.elim
    | stop w => exact one_data (by decide +kernel) (str_data (k.elim (fun e => e ▸ by decide +kernel) fun e => e ▸ by decide +kernel) _)
noncomputable def up (l : Int) : Int := l + 1000
noncomputable def dn (l : Int) : Int := l - 1000
theorem lab_up {l : Int} (h : ∀ x ∈ lab l, 0 ≤ x) : lab (turnl up l) = (lab l).map up ∧ turnl dn (turnl up l) = l := by
  by_cases q : l = -1
  · subst q; exact ⟨rfl, rfl⟩
  · have e : lab l = [l] := if_neg q
    have h0 : 0 ≤ l := h l (e ▸ .head _)
    have q2 : up l ≠ -1 := by unfold up; omega
    have t : turnl up l = up l := if_neg q
    rw [t, e]
    exact ⟨if_neg q2, (if_neg q2).trans (by unfold up dn; omega)⟩
theorem turn_up {o : Op} (h : ∀ l ∈ o.labels, 0 ≤ l) : (o.turn up).labels = o.labels.map up ∧ (o.turn up).turn dn = o := by
  cases o with
  | push x l => exact ⟨(lab_up h).1, congrArg (Op.push x) (lab_up h).2⟩
  | «calc» x l => exact ⟨(lab_up h).1, congrArg (Op.calc x) (lab_up h).2⟩
  | put x l => exact ⟨(lab_up h).1, congrArg (Op.put x) (lab_up h).2⟩
  | key x l => exact ⟨(lab_up h).1, congrArg (Op.key x) (lab_up h).2⟩
  | test x l => exact ⟨(lab_up h).1, congrArg (Op.test x) (lab_up h).2⟩
  | less x l => exact ⟨(lab_up h).1, congrArg (Op.less x) (lab_up h).2⟩
  | jump l => exact ⟨rfl, congrArg Op.jump (by unfold up dn; omega)⟩
  | choose ls =>
    refine ⟨rfl, congrArg Op.choose ?_⟩
    have : (dn ∘ up) = id := funext fun l => by simp only [Function.comp, up, dn, id]; omega
    rw [List.map_map, this, List.map_id]
  | _ => exact ⟨rfl, rfl⟩
theorem turn_word (f : Int → Int) (o : Op) : (o.turn f).word = o.word ∧ (o.turn f).rest.length = o.rest.length := by cases o <;> exact ⟨rfl, rfl⟩
noncomputable def wantTab : List (Str × Int) := [("choose", 0), ("jump", 1), ("key", 1), ("test", 1), ("put", 1), ("less", 1), ("push", 1), ("calc", 1)]
noncomputable def want0 : Op → Int
  | .choose _ => 0
  | .dod _ => -1
  | .count _ => -1
  | .perform .. => -1
  | .leave _ => -1
  | .stop _ => -1
  | _ => 1
theorem want_at (o : Op) : (lkD o.word (wantTab.map fun p => (p.1, V.int p.2))).getD (.int (-1)) = .int (want0 o) := by cases o <;> rfl
noncomputable abbrev qOp : Str := "_law_op_right.<locals>.<lambda>"
section
variable {C : Cx} (hK : C.K = KK C.w.params)
include hK
theorem c_goes_on {n : Nat} {σ : Store} (o : Op) : Det C (n + 1) σ 140 [o.v] (.bool o.goesOn) σ := by
  rw [Op.v_eq]
  exact fnX ok_goes_on hK fun L hL => N_notIn (Op.word_ok o) (Op.word_goes o) fin
end
end
section
open PySem PySem.W PySem.Calls PyProof.Rows PySem.Spec
set_option backward.isDefEq.lazyWhnfCore false
theorem TE_getS {C : Cx} {n : Nat} {env : Env} {ρ : Loc} {σ : Store} {ks : List (Option Expr)} {ds : List Expr} {dpos : Pos} {a b c : Expr} {u : UnaryOp} {q r : Pos} {i1 i2 i3 j1 j2 j3 : Nat} {Φ : V → Store → Prop}
    (h : TE C n env ρ σ (.Dict ks ds dpos) fun X σ₁ => ∃ x xs, X = .ref x ∧ σ₁ x = some (.sdict xs) ∧ TL C n env ρ σ₁ ⟨522, j1, j2, j3⟩ [.Subscript a b q, .UnaryOp u c r] fun Xs σ₂ => TC C n σ₂ (.bltn "dict.get") (.ref x :: Xs) Φ) :
    TE C n env ρ σ (.Call (.Attribute (.Dict ks ds dpos) "get" ⟨i1, i2, 522, i3⟩) [.Subscript a b q, .UnaryOp u c r] [] ⟨522, j1, j2, j3⟩) Φ := TE_methD PySem.F.slot_dict_get ty_get h
theorem B_neS {C : Cx} {n : Nat} {σ : Store} {X : V} {Φ : Bool → Store → Prop} (hx : X.data 40 = true) (h : Φ false σ) : SB C n .NotEq X X Φ σ := ⟨O_neSame hx ⟨_, rfl, h⟩⟩
theorem B_eqS {C : Cx} {n : Nat} {σ : Store} {X : V} {Φ : Bool → Store → Prop} (hx : X.data 40 = true) (h : Φ true σ) : SB C n .Eq X X Φ σ := ⟨O_eqSame hx ⟨_, rfl, h⟩⟩
theorem S_max {C : Cx} {n : Nat} {σ : Store} {a b c : Int} {Φ : V → Store → Prop} (e : (if b > a then b else a) = c) (h : Φ (.int c) σ) : SC C n (.bltn "max") [.int a, .int b] Φ σ := ⟨B_max (e ▸ h)⟩
theorem N_eqS {C : Cx} {n : Nat} {σ : Store} {x : V} {Φ : Bool → Store → Prop} (hx : x.data 40 = true) (k : Φ true σ) : (cEq C n x x Φ σ).p := by
  cases x with
  | int a => exact (show Φ (a == a) σ by rw [beq_self_eq_true]; exact k)
  | bool a => exact (show Φ (a == a) σ by rw [beq_self_eq_true]; exact k)
  | str a => exact (show Φ (a == a) σ by rw [beq_self_eq_true]; exact k)
  | none => exact B_eqS hx k
  | tuple xs => exact B_eqS hx k
  | ref a => cases hx
  | bltn a => cases hx
  | typ a => cases hx
theorem eqT {J : Fl → Loc → Store → Prop} {ρ : Loc} {σ : Store} {b : Bool} (h : J (.ret (.bool true)) ρ σ) (e : b = true := by exact beq_self_eq_true _) : J (.ret (.bool b)) ρ σ := e ▸ h
noncomputable abbrev rightL (o : Op) : Loc := ((Loc.none.set "op" (.tuple (.str o.word :: o.rest))).set "labels" (.tuple (o.labels.map V.int))).set "turned_op" (.tuple (.str o.word :: (o.turn up).rest))
section
variable {C : Cx} (hK : C.K = KK C.w.params)
include hK
theorem right_tail {n k cnt : Nat} {σ : Store} {L : Addr} {o : Op} {Lp : Int → Prop} {N : Loc → Store → Prop} {J : Fl → Loc → Store → Prop} (ho : o.okT cnt Lp) (hLp : ∀ x, Lp x → 0 ≤ x)
    (h : ∀ ρ' σ', (∀ b x, σ b = some x → σ' b = some x) → J (.ret (.bool true)) ρ' σ') : (Wk C (n + 3) (k + 20)).ss (callEnvC f_law_op_right.fd L 533) (rightL o) (f_law_op_right.body.drop 4) N J σ := by
  have hE := ok_law_op_right.plain L
  have od := op_data ho
  refine ⟨TE_getS ?_⟩
  refine TE_dictS wantTab ?_ ?_ ?_ ?_ ?_ ?_ ?_ ?_
  · rfl
  · rfl
  · decide +kernel
  · rfl
  · rfl
  · simp [wantTab]
  · decide
  intro a ha _
  refine ⟨_, _, rfl, set_self, (W_sound hK).l _ hE ?_⟩
  have s1 := set_sub (y := .sdict (wantTab.map fun p => (p.1, V.int p.2))) ha
  have ha1 : (σ.set a (.sdict (wantTab.map fun p => (p.1, V.int p.2)))) a = some (.sdict (wantTab.map fun p => (p.1, V.int p.2))) := set_self
  generalize σ.set a (.sdict (wantTab.map fun p => (p.1, V.int p.2))) = σ1 at s1 ha1 ⊢
  refine B_get ha1 ((want_at o).symm ▸ ?_)
  have gl := h (σ' := σ1)
  have len1 : ∀ l : Int, Lp l → ((((lab l).map V.int).length : Nat) != (1 : Int)) = false := fun l hl => by
    have q : l ≠ -1 := by have := hLp l hl; omega
    rw [show lab l = [l] from if_neg q]; rfl
  have len0 : ∀ l : Int, l = -1 → ((((lab l).map V.int).length : Nat) != (0 : Int)) = false := fun l e => by
    rw [show lab l = [] from if_pos e]; rfl
  cases ho with
  | fin => exact S_lenT (Nat.zero_le _) ((S_max rfl ((SC.det (c_goes_on hK (n := n + 2) (.stop "end")) ((eqT (h _ _ s1))) (Nat.le_refl _)))))
  | leave q => exact S_lenT (Nat.zero_le _) ((S_max rfl ((SC.det (c_goes_on hK (n := n + 2) (.leave _)) ((eqT (h _ _ s1))) (Nat.le_refl _)))))
  | ok ho =>
    cases o with
    | put x l => exact S_lenT (mapl (Nat.le_trans (lab_len l) (by decide))) ((S_max rfl (wIf_f (len1 l ho.2) (SC.det (c_goes_on hK (n := n + 2) (.put x l)) ((N_eqS (V.data_mono 24 40 _ (by decide) ho.1) (h _ _ s1))) (Nat.le_refl _)))))
    | key s l => exact S_lenT (mapl (Nat.le_trans (lab_len l) (by decide))) ((S_max rfl (wIf_f (len1 l ho.2) (SC.det (c_goes_on hK (n := n + 2) (.key s l)) ((eqT (h _ _ s1))) (Nat.le_refl _)))))
    | test x l => exact S_lenT (mapl (Nat.le_trans (lab_len l) (by decide))) ((S_max rfl (wIf_f (len1 l ho.2) (SC.det (c_goes_on hK (n := n + 2) (.test x l)) ((N_eqS (V.data_mono 24 40 _ (by decide) ho.1) (h _ _ s1))) (Nat.le_refl _)))))
    | less s l => exact S_lenT (mapl (Nat.le_trans (lab_len l) (by decide))) ((S_max rfl (wIf_f (len1 l ho) (SC.det (c_goes_on hK (n := n + 2) (.less s l)) ((eqT (h _ _ s1))) (Nat.le_refl _)))))
    | push x l =>
      cases q : l == -1
      · exact wIf_f q (wIf_f rfl (S_lenT (mapl (Nat.le_trans (lab_len l) (by decide))) ((S_max rfl (wIf_f (len1 l (ho.2.resolve_left (ne_of_beq_false q))) (SC.det (c_goes_on hK (n := n + 2) (.push x l)) ((N_eqS (V.data_mono 24 40 _ (by decide) ho.1) (h _ _ s1))) (Nat.le_refl _)))))))
      · exact wIf_t q (S_lenT (mapl (Nat.le_trans (lab_len l) (by decide))) ((S_max rfl (wIf_f (len0 l (eq_of_beq q)) (SC.det (c_goes_on hK (n := n + 2) (.push x l)) ((N_eqS (V.data_mono 24 40 _ (by decide) ho.1) (h _ _ s1))) (Nat.le_refl _))))))
    | «calc» x l =>
      cases q : l == -1
      · exact wIf_f q (wIf_f rfl (S_lenT (mapl (Nat.le_trans (lab_len l) (by decide))) ((S_max rfl (wIf_f (len1 l (ho.2.resolve_left (ne_of_beq_false q))) (SC.det (c_goes_on hK (n := n + 2) (.calc x l)) ((eqT (h _ _ s1))) (Nat.le_refl _)))))))
      · exact wIf_t q (S_lenT (mapl (Nat.le_trans (lab_len l) (by decide))) ((S_max rfl (wIf_f (len0 l (eq_of_beq q)) (SC.det (c_goes_on hK (n := n + 2) (.calc x l)) ((eqT (h _ _ s1))) (Nat.le_refl _))))))
    | jump l => exact S_lenT (Nat.le_of_ble_eq_true rfl) ((S_max rfl ((SC.det (c_goes_on hK (n := n + 2) (.jump l)) (h _ _ s1) (Nat.le_refl _)))))
    | choose ls => exact S_lenT (mapl (Nat.le_trans ho.1 (by decide))) ((S_lenT (mapl (Nat.le_trans ho.1 (by decide))) (wIf_f (bne_self_eq_false _) (SC.det (c_goes_on hK (n := n + 2) (.choose ls)) (h _ _ s1) (Nat.le_refl _)))))
    | dod x => exact S_lenT (Nat.zero_le _) ((S_max rfl ((SC.det (c_goes_on hK (n := n + 2) (.dod x)) ((N_eqS (V.data_mono 24 40 _ (by decide) ho) (h _ _ s1))) (Nat.le_refl _)))))
    | count x => exact S_lenT (Nat.zero_le _) ((S_max rfl ((SC.det (c_goes_on hK (n := n + 2) (.count x)) ((eqT (h _ _ s1))) (Nat.le_refl _)))))
    | perform a b => exact S_lenT (Nat.zero_le _) ((S_max rfl ((SC.det (c_goes_on hK (n := n + 2) (.perform a b)) ((eqT (h _ _ s1))) (Nat.le_refl _)))))
    | leave a => exact ho.elim
    | stop w => exact S_lenT (Nat.zero_le _) ((S_max rfl ((SC.det (c_goes_on hK (n := n + 2) (.stop w)) ((eqT (h _ _ s1))) (Nat.le_refl _)))))
end
end
section
open PySem PySem.W PySem.Calls PyProof.Rows PySem.Spec
set_option backward.isDefEq.lazyWhnfCore false
section
variable {C : Cx} (hK : C.K = KK C.w.params)
include hK
theorem c_right {n cnt size : Nat} {σ : Store} {o : Op} (T : TabQ σ 530 qOp) (hC : CodeHd C.h₀ 532 530) (ho : o.okT cnt fun l => 0 ≤ l ∧ l < size) :
    TCc C (n + 5) σ 533 [o.v, .int size] fun X σ' => X = .bool true ∧ TabStep 530 σ σ' ∧ TabQ σ' 530 qOp := by
  have lens := (Op.okT_len ho).2
  have lab0 := (Op.okT_labels ho).2
  have et := turn_up fun l h => (lab0 l h).1
  have lz : o.labels.length ≤ 1000 := Nat.le_trans lens (by decide)
  have lz2 : (o.turn up).labels.length ≤ 1000 := by rw [et.1, List.length_map]; exact lz
  have od := op_data ho
  have tw := turn_word up o
  have rt : (o.turn up).v = .tuple (.str o.word :: (o.turn up).rest) := by rw [Op.v_eq, tw.1]
  have hr2 := rest_le o
  refine fnXC ok_law_op_right hK (ρ₀ := Loc.none.set "op" o.v) fun L hL hL1 => ?_
  have hE := ok_law_op_right.plain L
  have T1 := T.mono (set_sub (y := .cell (some (.int size))) hL1)
  have S1 : TabStep 530 σ (σ.set (L + 1) (.cell (some (.int size)))) := (TabStep.refl _ _).new hL1
  have c1 : (σ.set (L + 1) (.cell (some (.int size)))) (L + 1) = some (.cell (some (.int size))) := set_self
  generalize σ.set (L + 1) (.cell (some (.int size))) = σ1 at T1 S1 c1 ⊢
  have cP := T1.ne c1 (fun _ e => by cases e)
  have l1 := fun τ => c_labels_of hK (n := n + 3) (σ := τ) o lz
  have l2 := fun τ => c_labels_of hK (n := n + 3) (σ := τ) (o.turn up) lz2
  have r1 := fun τ g T => c_relabelled hK (m := n + 2) (σ := τ) o lz g up T
  have r2 := fun τ g T => c_relabelled hK (m := n + 2) (σ := τ) (o.turn up) lz2 g dn T
  rw [rt] at r1 r2 l2
  rw [et.2] at r2
  rw [et.1] at l2
  rw [Op.v_eq] at l1 r1 r2 od ⊢
  have ed : (V.tuple (((o.labels.map up)).map V.int)).data 40 = true := V.data_tup (ints_data0 _)
  refine SC.det (l1 σ1) ⟨TE_lam T1 hC rfl rfl rfl rfl fun f σ2 S2 T2 fn fl La => ?_⟩ (Nat.le_refl _)
  have S12 := S1.trans S2
  have c2 := S2.at cP c1
  refine SC.det (r1 σ2 f ⟨La.obj, fun σ' hs l hl => TC_lam (names := ["label"]) (La.mono hs) rfl (fun pm cd ctv => len1 fun v => rfl) (by decide +kernel) (by decide +kernel) fun L' c' hL' => (W_sound hK).e ⟨rfl, rfl, rfl, rfl⟩ (show _ ∧ _ from ⟨rfl, rfl⟩)⟩) (SC.det (l2 σ2) ?_ (Nat.le_refl _)) (Nat.le_refl _)
  rw [List.map_map] at ed ⊢
  refine SCompT.map hK (h := V.int ∘ up) (fun Ca => ⟨rfl, rfl, rfl, rfl⟩) (Nat.le_trans lz (by decide)) (fun Ca i l Ψ hl k => k) (B_neS ed (wIf_f rfl ⟨TE_lam T2 hC rfl rfl rfl rfl fun f2 σ4 S4 T4 fn2 fl2 La2 => ?_⟩))
  have S14 := S12.trans S4
  have c4 := S4.at cP c2
  refine SC.det (r2 σ4 f2 ⟨La2.obj, fun σ' hs l hl => TC_lam (names := ["label"]) (La2.mono hs) rfl (fun pm cd ctv => len1 fun v => rfl) (by decide +kernel) (by decide +kernel) fun L' c' hL' => (W_sound hK).e ⟨rfl, rfl, rfl, rfl⟩ (show _ ∧ _ from ⟨rfl, rfl⟩)⟩) (B_neS (V.data_mono 25 40 _ (by decide) od) ?_) (Nat.le_refl _)
  refine SComp.empty hK (fun Ca => ⟨rfl, rfl, rfl, rfl⟩) (mapl (Nat.le_trans lz (by decide))) (fun Ca Y Ψ hY k => ?_) fun D hD => ⟨fun E hE' _ => S_ne00 (set_at hE' set_self) set_self ?_⟩
  · obtain ⟨l, hl1, rfl⟩ := List.mem_map.mp hY
    exact wIf_t (decide_eq_true (lab0 l hl1).1) (SCell.at c4 (S_lt (lab0 l hl1).2 k))
  · have S5 := (S14.new (y := .list []) hD).new (y := .list []) hE'
    have T5 := T4.mono (sub_trans (set_sub (y := .list []) hD) (set_sub (y := .list []) hE'))
    generalize (σ4.set D (.list [])).set E (.list []) = σ5 at S5 T5 ⊢
    refine wIf_f rfl (wIf_f (bne_self_eq_false _) (S_lenT (by rw [List.length_cons, tw.2]; omega) (S_lenT (by rw [List.length_cons]; omega) (wIf_f (by rw [List.length_cons, List.length_cons, tw.2]; exact bne_self_eq_false _) ?_))))
    refine right_tail (k := 9915) (n := n + 1) hK ho (fun x hx => hx.1) fun ρ' σ' hs => ⟨Drop.eq ⟨rfl, fun b hb hn => ?_, T5.mono hs⟩⟩
    have e := S5 b hb hn
    obtain ⟨y, hy⟩ := Option.ne_none_iff_exists'.mp hn
    rw [hy] at e ⊢
    exact hs _ _ e
end
end
section
open PySem PySem.W PySem.Calls PyProof.Rows PySem.Spec
set_option backward.isDefEq.lazyWhnfCore false
theorem code_ne {σ : Store} {P c : Addr} {q q' : Str} {o : Obj} (T : TabQ σ P q') (hc : σ c = some (.raw o)) (ho : CodeO o q) : c ≠ P := fun e => by
  obtain ⟨ps, a, b, -⟩ := T
  rw [e, a] at hc
  cases hc
  obtain ⟨vs, t, h1, h2⟩ := ho
  cases h1
  rw [← Array.getElem?_toList] at h2
  match hl : ps.toList with
  | [] => rw [hl] at h2; cases h2
  | [x] => rw [hl] at h2; cases h2
  | x :: y :: r =>
    rw [hl] at h2 b
    cases h2
    cases x <;> exact b.elim
theorem TabQ.other {σ σ' : Store} {P P' : Addr} {q q' : Str} (T : TabQ σ P q) (T' : TabQ σ P' q') (S : TabStep P' σ σ') (hne : P ≠ P') : TabQ σ' P q := by
  obtain ⟨ps, a, b, c⟩ := T
  refine ⟨ps, S.at hne a, b, fun pos cv e => ?_⟩
  obtain ⟨c', o, e1, e2, e3, e4⟩ := c pos cv e
  exact ⟨c', o, e1, S.at (code_ne T' e2 e3) e2, e3, e4⟩
theorem TabStep.obj {σ σ' : Store} {P b : Addr} {q : Str} {y : AObj} (S : TabStep P σ σ') (T : TabQ σ P q) (h : σ b = some y) (hy : ∀ o, y ≠ .raw o) : σ' b = some y := S.at (T.ne h hy) h
noncomputable def AObj.mine : AObj → Bool
  | .raw _ => false
  | _ => true
theorem TabStep.my {σ σ' : Store} {P b : Addr} {q : Str} {y : AObj} (S : TabStep P σ σ') (T : TabQ σ P q) (h : σ b = some y) (hy : y.mine = true := by rfl) : σ' b = some y := S.obj T h fun o e => by rw [e] at hy; cases hy
structure LSt (σ : Store) (L : Addr) (cnt : Nat) (x pl bl : Addr) (ps : List Addr) (Xs : List V) (os : List Op) (bs : List Int) : Prop where
  ccount : σ (L + 2) = some (.cell (some (.int cnt)))
  cbodies : σ (L + 3) = some (.cell (some (.ref bl)))
  csize : σ (L + 4) = some (.cell (some (.int os.length)))
  code : CodeAt σ x os bs
  parts : σ pl = some (.list (ps.map V.ref))
  bod : σ bl = some (.list Xs)
  lps : ps.length = Xs.length
  para : ∀ (i : Nat) (p : Addr) X, ps[i]? = some p → Xs[i]? = some X → ParaAt σ p i X
  t1 : TabQ σ 189 qFin
  t5 : TabQ σ 530 qOp
section
variable {σ σ' : Store} {L : Addr} {cnt : Nat} {x pl bl : Addr} {ps : List Addr} {Xs : List V} {os : List Op} {bs : List Int}
theorem LSt.mono (h : LSt σ L cnt x pl bl ps Xs os bs) (k : ∀ b y, σ b = some y → σ' b = some y) : LSt σ' L cnt x pl bl ps Xs os bs :=
  ⟨k _ _ h.ccount, k _ _ h.cbodies, k _ _ h.csize, h.code.mono k, k _ _ h.parts, k _ _ h.bod, h.lps, fun i p X a b => (h.para i p X a b).mono k, h.t1.mono k, h.t5.mono k⟩
theorem LSt.step (h : LSt σ L cnt x pl bl ps Xs os bs) (k : ∀ {b : Addr} {y : AObj}, σ b = some y → y.mine = true → σ' b = some y) (t1 : TabQ σ' 189 qFin) (t5 : TabQ σ' 530 qOp) : LSt σ' L cnt x pl bl ps Xs os bs :=
  ⟨k h.ccount rfl, k h.cbodies rfl, k h.csize rfl, h.code.at_.elim fun dx q => ⟨dx, k q.1 rfl, k q.2 rfl⟩, k h.parts rfl, k h.bod rfl, h.lps, fun i p X a b => (h.para i p X a b).at_.elim fun dx q => ⟨dx, k q.1 rfl, k q.2 rfl⟩, t1, t5⟩
theorem LSt.step1 (h : LSt σ L cnt x pl bl ps Xs os bs) (S : TabStep 189 σ σ') (T : TabQ σ' 189 qFin) : LSt σ' L cnt x pl bl ps Xs os bs := h.step (fun e hy => S.my h.t1 e hy) T (h.t5.other h.t1 S (by decide))
theorem LSt.step5 (h : LSt σ L cnt x pl bl ps Xs os bs) (S : TabStep 530 σ σ') (T : TabQ σ' 530 qOp) : LSt σ' L cnt x pl bl ps Xs os bs := h.step (fun e hy => S.my h.t5 e hy) (h.t1.other h.t5 S (by decide)) T
end
noncomputable def Comp (C : Cx) (n : Nat) (Xs : List V) (os : List Op) (bs : List Int) : Prop :=
  ∀ σ pr, ProcsAt σ pr Xs → TabQ σ 189 qFin → TCc C n σ 312 [.ref pr] fun X σ' => ∃ x, X = .ref x ∧ σ x = none ∧ CodeAt σ' x os bs ∧ TabStep 189 σ σ' ∧ TabQ σ' 189 qFin
noncomputable abbrev lawEnv (L fa : Addr) (cd : Value) : Env := envOfC "law" f_law.fd.scope L fa cd
theorem list_canLay {Xs : List V} {d : Nat} (h : V.datas d Xs = true) : PyData.eqv (.list (V.pys Xs)) (.list (V.pys Xs)) = true :=
  PySem.SeqAt.eqv_refl _ (by simpa [PyData.canLay0] using (V.canLays d Xs h).1)
theorem leave_word {o : Op} : (o.word == ("leave" : Str)) = o.leaveOf.isSome := by cases o <;> rfl
theorem leave_some {o : Op} {a : Int} (h : o.leaveOf = some a) : o = .leave a := by
  cases o with
  | leave b => cases h; rfl
  | _ => cases h
section
variable {C : Cx} (hK : C.K = KK C.w.params)
include hK
theorem S_compiled {n m : Nat} {σ : Store} {pl : Addr} {ps : List Addr} {Xs : List V} {os : List Op} {bs : List Int} (hm : m ≤ n + 1) (hpl : σ pl = some (.list (ps.map V.ref))) (lps : ps.length = Xs.length)
    (para : ∀ (i : Nat) (p : Addr) X, ps[i]? = some p → Xs[i]? = some X → ParaAt σ p i X) (T : TabQ σ 189 qFin) (CP : Comp C m Xs os bs) {Φ : V → Store → Prop}
    (h : ∀ x σ', σ x = none → CodeAt σ' x os bs → TabStep 189 σ σ' → TabQ σ' 189 qFin → Φ (.ref x) σ') (hn : 1 ≤ n) : SC C (n + 1) (.ref 469) [.ref pl, .tuple []] (fun Y => SC C (n + 1) (.ref 312) [Y] Φ) σ :=
  S_obj hK m_Procedures (c_proc_init hK (n := 0)) (fun x dx hx hdx hne => by
    have sub := sub_trans (set_sub (y := .ns [("rows", .ref pl), ("using", .tuple [])]) hdx) (set_sub (y := .inst 469 dx) (set_ne hne hx))
    have P : ProcsAt ((σ.set dx (.ns [("rows", .ref pl), ("using", .tuple [])])).set x (.inst 469 dx)) x Xs := ⟨dx, pl, ps, set_self, set_ne hne.symm set_self, sub _ _ hpl, lps, fun i p X a b => (para i p X a b).mono sub⟩
    refine SC.use (CP _ x P (T.mono sub)) (fun X σ2 q => ?_) hm
    obtain ⟨x2, rfl, e1, e2, e3, e4⟩ := q
    refine h x2 σ2 ?_ e2 (fun b hb hs => ?_) e4
    · cases z : σ x2 with
      | none => rfl
      | some y => rw [sub _ _ z] at e1; cases e1
    · obtain ⟨y, hy⟩ := Option.ne_none_iff_exists'.mp hs
      rw [e3.at hb (sub _ _ hy), hy]) hn
end
end
section
open PySem PySem.W PySem.Calls PyProof.Rows PySem.Spec
set_option backward.isDefEq.lazyWhnfCore false
theorem S_neLL {C : Cx} {n : Nat} {σ : Store} {a b : Addr} {Xs : List V} {Φ : Bool → Store → Prop} (ha : σ a = some (.list Xs)) (hb : σ b = some (.list Xs)) (hx : V.datas 38 Xs = true) (k : Φ false σ) : SB C n .NotEq (.ref a) (.ref b) Φ σ := ⟨O_neL ha hb hx hx ⟨_, rfl, by rw [list_canLay hx]; exact k⟩⟩
theorem S_eqLL {C : Cx} {n : Nat} {σ : Store} {a b : Addr} {Xs : List V} {Φ : Bool → Store → Prop} (ha : σ a = some (.list Xs)) (hb : σ b = some (.list Xs)) (hx : V.datas 38 Xs = true) (k : Φ true σ) : SB C n .Eq (.ref a) (.ref b) Φ σ := ⟨O_eqL ha hb hx hx ⟨_, rfl, by rw [list_canLay hx]; exact k⟩⟩
theorem rngVs_map {k : Nat} : (List.range k).map (V.int ∘ fun (i : Nat) => (i : Int)) = rngVs 0 1 k := List.map_congr_left fun i _ => congrArg V.int (by simp)
theorem leaves_take {os : List Op} {i : Nat} {o : Op} (h : os[i]? = some o) : (os.take (i + 1)).filterMap Op.leaveOf = (os.take i).filterMap Op.leaveOf ++ o.leaveOf.toList := by
  rw [List.take_add_one, h, List.filterMap_append]
  cases e : o.leaveOf with
  | none => simp [e]
  | some a => simp [e]
noncomputable abbrev lawL (pl x : Addr) : Loc := Loc.of [("parts", .ref pl), ("code", .ref x)]
section
variable {C : Cx} (hK : C.K = KK C.w.params) {k cnt : Nat} {σ : Store} {L fa : Addr} {cd : Value} {x pl bl : Addr} {ps : List Addr} {Xs : List V} {os : List Op} {bs : List Int} {N : Loc → Store → Prop} {J : Fl → Loc → Store → Prop}
include hK
theorem law_end (S : LSt σ L cnt x pl bl ps Xs os bs) (CP : Comp C 316 Xs os bs) (CO : CodeOk cnt os bs) (hXs : V.datas 30 Xs = true) (hz4 : Xs.length ≤ 4) (hh : ∀ X ∈ Xs, X.handed = true)
    (h : ∀ ρ' σ', TabQ σ' 189 qFin → TabQ σ' 530 qOp → J (.ret (.bool true)) ρ' σ') : (Wk C 330 k).ss (lawEnv L fa cd) (lawL pl x) (f_law.body.drop 10) N J σ := by
  have hE : PlainF (lawEnv L fa cd) := ⟨rfl, rfl, rfl, rfl⟩
  have hod : V.datas 38 (os.map Op.v) = true := V.datas_all fun y hy => (List.mem_map.mp hy).elim fun o q => q.2 ▸ V.data_mono 25 38 _ (by decide) (op_data (CO.ok o q.1))
  refine ⟨TE_meth ((W_sound hK).e hE (S_compiled hK (by decide) S.parts S.lps S.para S.t1 CP (fun x2 σ2 n2 K2 St2 T2 => ?_) (by decide)))⟩
  have S2 := S.step1 St2 T2
  obtain ⟨dx2, k1, k2⟩ := K2.at_
  obtain ⟨dx, j1, j2⟩ := S2.code.at_
  refine ⟨_, _, _, _, _, rfl, k1, k2, rfl, MA.at hK a_Code_told, TL_nil (TC_use (c_told hK (n := 0) k1 k2) (by decide) fun X σ3 q => ?_)⟩
  obtain ⟨rfl, rfl⟩ := q
  refine SMeth.det (.own j1 j2 rfl (MA.at hK a_Code_told)) (c_told hK (n := 329) j1 j2) (B_eqS (V.data_tup (V.datas_cons (V.data_tup hod) (d1 (V.data_tup (ints_data0 _))))) ?_)
  refine SComp.gen hK (fun Ca => ⟨rfl, rfl, rfl, rfl⟩) (.list S2.parts) (by rw [List.length_map, S2.lps]; omega) (fun i Zs σ' => σ' = σ3.del pl ∧ Zs = Xs.take i) ⟨rfl, rfl⟩ (fun Ca i Y Zs σ' hY j => ?_) fun D Zs σ' j hD _ => ?_
  · obtain ⟨rfl, rfl⟩ := j
    rw [List.getElem?_map, Option.map_eq_some_iff] at hY
    obtain ⟨p, hp, rfl⟩ := hY
    have hi : i < Xs.length := by rw [← S2.lps]; exact (List.getElem?_eq_some_iff.mp hp).1
    obtain ⟨X, hX⟩ : ∃ X, Xs[i]? = some X := ⟨_, List.getElem?_eq_getElem hi⟩
    obtain ⟨pd, e1, e2⟩ := (S2.para i p X hp hX).at_
    exact SAtt.at (OA.at hK o_Paragraph_statements) (del_ne (fun q => by rw [q, S2.parts] at e1; cases e1) e1) (del_ne (fun q => by rw [q, S2.parts] at e2; cases e2) e2) ⟨rfl, by rw [List.take_add_one, hX]; rfl⟩ rfl (hh X (List.mem_of_getElem? hX))
  · obtain ⟨rfl, rfl⟩ := j
    have bb : (σ3.del pl).set pl (.list (ps.map V.ref)) = σ3 := del_set S2.parts
    have hD : ((σ3.del pl).set pl (.list (ps.map V.ref))) D = none := hD
    rw [bb] at hD
    rw [List.length_map, S2.lps, List.take_length, bb]
    have S3 := S2.mono (set_sub (y := .list Xs) hD)
    exact Drop.eq (SCell.at S3.cbodies (S_eqLL set_self S3.bod (V.datas_mono 30 38 _ (by decide) hXs) (h _ _ S3.t1 S3.t5)))
end
end
section
open PySem PySem.W PySem.Calls PyProof.Rows PySem.Spec
set_option backward.isDefEq.lazyWhnfCore false
theorem bOr {C : Cx} {n : Nat} {w : Wp C n} {σ : Store} {env : Env} {ρ : Loc} {p : Pos} {Φ : Bool → Store → Prop} (h : Φ false σ) : (wpS C n w).b env ρ (.BoolOp .Or [] p) Φ σ := h
section
variable {C : Cx} (hK : C.K = KK C.w.params) {k cnt : Nat} {σ : Store} {L fa : Addr} {cd : Value} {x pl bl : Addr} {ps : List Addr} {Xs : List V} {os : List Op} {bs : List Int} {N : Loc → Store → Prop} {J : Fl → Loc → Store → Prop}
include hK
theorem law_leaves (S : LSt σ L cnt x pl bl ps Xs os bs) (CO : CodeOk cnt os bs) (hz : os.length ≤ 60000) (hz4 : cnt ≤ 4) (h : ∀ σ', LSt σ' L cnt x pl bl ps Xs os bs → (Wk C 330 (k + 19)).ss (lawEnv L fa cd) (lawL pl x) (f_law.body.drop 10) N J σ') :
    (Wk C 330 (k + 20)).ss (lawEnv L fa cd) (lawL pl x) (f_law.body.drop 9) N J σ := by
  obtain ⟨dx, j1, j2⟩ := S.code.at_
  refine SAtt.at (Y := .tuple (os.map Op.v)) (OA.at hK o_Code_ops) j1 j2 (SComp.gen1 hK (fun Ca => ⟨rfl, rfl, rfl, rfl⟩) (.tup _) (mapl (Nat.le_trans hz (by decide))) (fun i Zs σ' => σ' = σ ∧ Zs = ((os.take i).filterMap Op.leaveOf).map V.int) ⟨rfl, rfl⟩ (fun Ca i Y Zs σ' hY j => ?_) fun D Zs σ' j hD _ => ?_)
  · obtain ⟨rfl, rfl⟩ := j
    rw [List.getElem?_map, Option.map_eq_some_iff] at hY
    obtain ⟨o, ho, rfl⟩ := hY
    have lt := leaves_take ho
    cases hl : o.leaveOf with
    | none =>
      rw [hl] at lt
      rw [lt, Op.v_eq]
      exact wIf_f (leave_word.trans (by rw [hl]; rfl)) ⟨rfl, by rw [Option.toList, List.append_nil]⟩
    | some a =>
      rw [hl] at lt
      rw [leave_some hl, lt]
      exact ⟨rfl, by rw [List.map_append]; rfl⟩
  · obtain ⟨rfl, rfl⟩ := j
    have hD : σ' D = none := hD
    rw [List.length_map, List.take_length, CO.leaves, List.map_map, rngVs_map]
    have S1 := S.mono (set_sub (y := .list (rngVs 0 1 cnt)) hD)
    have hD1 : (σ'.set D (.list (rngVs 0 1 cnt))) D = some (.list (rngVs 0 1 cnt)) := set_self
    refine Drop.eq (SCell.at S1.ccount (S_range (Nat.le_trans hz4 (by decide)) fun r hr s1 s2 => ⟨B_listR set_self s1 s2 (Nat.le_trans hz4 (by decide)) fun e he => ?_⟩))
    have s2' := sub_trans (set_sub (y := .rng 0 cnt 1) hr) (set_sub (y := .list (rngVs 0 1 cnt)) he)
    exact S_neLL (s2' _ _ hD1) set_self (V.datas_all fun y hy => (List.mem_map.mp hy).elim fun k q => q.2 ▸ int_data) (wIf_f rfl (ssNil (h _ (S1.mono s2'))))
theorem law_ops (S : LSt σ L cnt x pl bl ps Xs os bs) (CO : CodeOk cnt os bs) (hz : os.length ≤ 60000) (hC : CodeHd C.h₀ 532 530) (h : ∀ σ', LSt σ' L cnt x pl bl ps Xs os bs → (Wk C 330 (k + 19)).ss (lawEnv L fa cd) (lawL pl x) (f_law.body.drop 9) N J σ') :
    (Wk C 330 (k + 20)).ss (lawEnv L fa cd) (lawL pl x) (f_law.body.drop 8) N J σ := by
  obtain ⟨dx, j1, j2⟩ := S.code.at_
  have sz := CO.size
  have mO : (os.map Op.v).length ≤ 100000 := mapl (Nat.le_trans hz (by decide))
  refine SAtt.at (Y := .tuple (os.map Op.v)) (OA.at hK o_Code_ops) j1 j2 (SCell.at S.csize (I_tupE (j := os.length - 1) (Y := (Op.stop "end").v) (by omega) (by rw [List.getElem?_map, CO.last]; rfl) mO (B_neS (X := (Op.stop "end").v) (by decide +kernel) (wIf_f rfl ?_))))
  refine SAtt.at (Y := .tuple (os.map Op.v)) (OA.at hK o_Code_ops) j1 j2 (SComp.gen1 hK (fun Ca => ⟨rfl, rfl, rfl, rfl⟩) (.tup _) mO (fun i Zs σ' => Zs = [] ∧ TabStep 530 σ σ' ∧ TabQ σ' 530 qOp) ⟨rfl, .refl _ _, S.t5⟩ (fun Ca i Y Zs σ' hY j => ?_) fun D Zs σ' j hD _ => ?_)
  · obtain ⟨rfl, St, T⟩ := j
    rw [List.getElem?_map, Option.map_eq_some_iff] at hY
    obtain ⟨o, ho, rfl⟩ := hY
    have S1 := S.step5 St T
    exact SCell.at S1.csize (SC.use (c_right hK (n := 325) (cnt := cnt) T hC (spot_in (CO.ok o (List.mem_of_getElem? ho)))) (fun R σ2 q => by
      obtain ⟨rfl, St2, T2⟩ := q
      exact ⟨rfl, St.trans St2, T2⟩) (by decide))
  · obtain ⟨rfl, St, T⟩ := j
    have hD : σ' D = none := hD
    have S1 := S.step5 St T
    refine Drop.eq ⟨fun E hE _ => S_ne00 (set_at hE set_self) set_self (wIf_f rfl (bOr (wIf_f rfl (ssNil (h _ (S1.mono (sub_trans (set_sub hD) (set_sub hE))))))))⟩
end
end
section
open PySem PySem.W PySem.Calls PyProof.Rows PySem.Spec
set_option backward.isDefEq.lazyWhnfCore false
section
variable {C : Cx} (hK : C.K = KK C.w.params) {k cnt : Nat} {σ : Store} {ρ : Loc} {L fa : Addr} {cd : Value} {x pl bl : Addr} {ps : List Addr} {Xs : List V} {os : List Op} {bs : List Int} {N : Loc → Store → Prop} {J : Fl → Loc → Store → Prop}
include hK
theorem law_loop (S : LSt σ L cnt x pl bl ps Xs os bs) (CO : CodeOk cnt os bs) (hz : os.length ≤ 60000) (hz4 : cnt ≤ 4) (h2 : ρ "parts" = some (.ref pl)) (h3 : ρ "code" = some (.ref x))
    (h : (Wk C 330 (k + 19)).ss (lawEnv L fa cd) (lawL pl x) (f_law.body.drop 8) N J σ) : (Wk C 330 (k + 20)).ss (lawEnv L fa cd) ρ (f_law.body.drop 7) N J σ := by
  have hE : PlainF (lawEnv L fa cd) := ⟨rfl, rfl, rfl, rfl⟩
  obtain ⟨dx, j1, j2⟩ := S.code.at_
  have lb := CO.blen
  have sz := CO.size
  have mO : (os.map Op.v).length ≤ 100000 := mapl (Nat.le_trans hz (by decide))
  have mB : (bs.map V.int).length ≤ 100000 := mapl (lb ▸ Nat.le_trans hz4 (by decide))
  have atO : ∀ {Φ : V → Store → Prop}, Φ (.tuple (os.map Op.v)) σ → SAtt C (.ref x) "ops" Φ σ := fun k => SAtt.at (OA.at hK o_Code_ops) j1 j2 k
  have atB : ∀ {Φ : V → Store → Prop}, Φ (.tuple (bs.map V.int)) σ → SAtt C (.ref x) "begins" Φ σ := fun k => SAtt.at (OA.at hK o_Code_begins) j1 j2 k
  refine SCell.at S.ccount (S_forR hK hE (Nat.le_trans hz4 (by decide)) [("parts", .ref pl), ("code", .ref x)] (fun _ => σ) ⟨h2, h3, trivial⟩ rfl (fun i hi => ?_) h)
  obtain ⟨bf, b0, b1, b2⟩ := CO.beg
  obtain ⟨e1, e2, f1, f2, f3⟩ := b2 i hi
  have gi : (bs.map V.int)[i]? = some (.int (bf i)) := by rw [List.getElem?_map, e1]; rfl
  have gl : (os.map Op.v)[bf (i + 1) - 1]? = some (Op.leave i).v := by rw [List.getElem?_map, f3]; rfl
  have dl : (Op.leave i).v.data 40 = true := one_data (by decide +kernel) int_data
  refine SCell.at S.ccount (wIf_s (fun c => ?_) (fun c => ?_))
  · have hc : i + 1 < cnt := by have := of_decide_eq_true c; omega
    obtain ⟨g1, -⟩ := b2 (i + 1) hc
    exact atB (I_tupE (j := i + 1) (Y := .int (bf (i + 1))) (Int.natCast_succ i).symm (by rw [List.getElem?_map, g1]; rfl) mB (atB (I_tup gi mB (wIf_f (decide_eq_false (by omega)) (atO (I_tupE (j := bf (i + 1) - 1) (Y := (Op.leave i).v) (by omega) gl mO (B_neS dl ⟨⟨rfl, rfl, trivial⟩, rfl⟩)))))))
  · have hc : i + 1 = cnt := by have := of_decide_eq_false c; omega
    have e9 : bf (i + 1) = os.length - 1 := hc ▸ b1
    exact SCell.at S.csize (atB (I_tup gi mB (wIf_f (decide_eq_false (by omega)) (atO (I_tupE (j := bf (i + 1) - 1) (Y := (Op.leave i).v) (by omega) gl mO (B_neS dl ⟨⟨rfl, rfl, trivial⟩, rfl⟩))))))
end
end
section
open PySem PySem.W PySem.Calls PyProof.Rows PySem.Spec
set_option backward.isDefEq.lazyWhnfCore false
structure LPre (σ : Store) (L : Addr) (cnt : Nat) (x pl bl : Addr) (ps : List Addr) (Xs : List V) (os : List Op) (bs : List Int) : Prop where
  ccount : σ (L + 2) = some (.cell (some (.int cnt)))
  cbodies : σ (L + 3) = some (.cell (some (.ref bl)))
  csize : σ (L + 4) = some (.cell none)
  code : CodeAt σ x os bs
  parts : σ pl = some (.list (ps.map V.ref))
  bod : σ bl = some (.list Xs)
  lps : ps.length = Xs.length
  para : ∀ (i : Nat) (p : Addr) X, ps[i]? = some p → Xs[i]? = some X → ParaAt σ p i X
  t1 : TabQ σ 189 qFin
  t5 : TabQ σ 530 qOp
theorem LPre.sized {σ : Store} {L : Addr} {cnt : Nat} {x pl bl : Addr} {ps : List Addr} {Xs : List V} {os : List Op} {bs : List Int} (h : LPre σ L cnt x pl bl ps Xs os bs) : LSt (σ.set (L + 4) (.cell (some (.int os.length)))) L cnt x pl bl ps Xs os bs := by
  have ne : ∀ {b : Addr} {y : AObj}, σ b = some y → y ≠ .cell none → (σ.set (L + 4) (.cell (some (.int os.length)))) b = some y := fun e hy => set_ne (fun q => by rw [q, h.csize] at e; exact hy (Option.some.inj e).symm) e
  have nr : ∀ b o, σ b = some (.raw o) → (σ.set (L + 4) (.cell (some (.int os.length)))) b = some (.raw o) := fun b o e => ne e fun q => by cases q
  exact ⟨ne h.ccount (fun e => by cases e), ne h.cbodies (fun e => by cases e), set_self, h.code.at_.elim fun dx q => ⟨dx, ne q.1 (fun e => by cases e), ne q.2 (fun e => by cases e)⟩, ne h.parts (fun e => by cases e), ne h.bod (fun e => by cases e), h.lps,
    fun i p X a b => (h.para i p X a b).at_.elim fun dx q => ⟨dx, ne q.1 (fun e => by cases e), ne q.2 (fun e => by cases e)⟩, h.t1.raw nr, h.t5.raw nr⟩
section
variable {C : Cx} (hK : C.K = KK C.w.params) {k cnt : Nat} {σ : Store} {ρ : Loc} {L fa : Addr} {cd : Value} {x pl bl : Addr} {ps : List Addr} {Xs : List V} {os : List Op} {bs : List Int} {N : Loc → Store → Prop} {J : Fl → Loc → Store → Prop}
include hK
theorem law_checks (S : LPre σ L cnt x pl bl ps Xs os bs) (CO : CodeOk cnt os bs) (hz : os.length ≤ 60000) (h1 : 1 ≤ cnt) (hz4 : cnt ≤ 4)
    (h : ∀ σ', LSt σ' L cnt x pl bl ps Xs os bs → (Wk C 330 (k + 18)).ss (lawEnv L fa cd) ((ρ.set "parts" (.ref pl)).set "code" (.ref x)) (f_law.body.drop 7) N J σ') : (Wk C 330 (k + 20)).ss (lawEnv L fa cd) ((ρ.set "parts" (.ref pl)).set "code" (.ref x)) (f_law.body.drop 5) N J σ := by
  obtain ⟨dx0, j01, j02⟩ := S.code.at_
  have mO : (os.map Op.v).length ≤ 100000 := mapl (Nat.le_trans hz (by decide))
  have mB : (bs.map V.int).length ≤ 100000 := mapl (CO.blen ▸ Nat.le_trans hz4 (by decide))
  refine SAtt.at (Y := .tuple (os.map Op.v)) (OA.at hK o_Code_ops) j01 j02 (S_lenT mO ⟨TA_cell rfl rfl rfl S.csize ?_⟩)
  rw [List.length_map]
  have S1 := S.sized
  generalize σ.set (L + 4) (.cell (some (.int os.length))) = σ1 at S1 ⊢
  refine SC.new (c_well hK (n := 323) S1.code CO hz (Nat.le_trans hz4 (by decide))) (fun D hD => ⟨fun E hE _ => (S_ne00 (set_at hE set_self) set_self (wIf_f rfl ?_))⟩) (by decide)
  have S2 := S1.mono (sub_trans (set_sub (y := .list []) hD) (set_sub (y := .list []) hE))
  generalize (σ1.set D (.list [])).set E (.list []) = σ2 at S2 ⊢
  obtain ⟨dx, j1, j2⟩ := S2.code.at_
  obtain ⟨bf, b0, b1, b2⟩ := CO.beg
  obtain ⟨e1, -⟩ := b2 0 h1
  refine SAtt.at (Y := .tuple (bs.map V.int)) (OA.at hK o_Code_begins) j1 j2 (S_lenT mB (SCell.at S2.ccount (wIf_f (by rw [List.length_map, CO.blen]; exact bne_self_eq_false _) ((SAtt.at (Y := .tuple (bs.map V.int)) (OA.at hK o_Code_begins) j1 j2 (I_tupE (j := 0) (Y := .int 0) rfl (by rw [List.getElem?_map, e1, b0]; rfl) mB (h _ S2)))))))
end
end
section
open PySem PySem.W PySem.Calls PyProof.Rows PySem.Spec
set_option backward.isDefEq.lazyWhnfCore false
theorem list_choose {α β : Type} {Q : α → β → Prop} : ∀ (xs : List α), (∀ x ∈ xs, ∃ y, Q x y) → ∃ ys : List β, ys.length = xs.length ∧ ∀ (i : Nat) x y, xs[i]? = some x → ys[i]? = some y → Q x y
  | [], _ => ⟨[], rfl, fun i x y e => by cases e⟩
  | x :: xs, h => (list_choose xs fun z hz => h z (.tail _ hz)).elim fun ys q => (h x (.head _)).elim fun y hy => ⟨y :: ys, congrArg Nat.succ q.1, fun i a b h1 h2 => by
      cases i with
      | zero => cases h1; cases h2; exact hy
      | succ i => exact q.2 i a b h1 h2⟩
theorem parD_gr {fs : List (D → D)} {K : Nat} (hg : ∀ f ∈ fs, Grows K f) : ∀ i, i ≤ fs.length → Gr ((K + 1) * i) ⟨[], List.replicate fs.length (-1), 0⟩ (parD fs i)
  | 0, _ => Gr.refl
  | i + 1, hi => by
    rw [parD_succ (List.getElem?_eq_getElem hi)]
    exact Gr.put (Gr.run (hg _ (List.getElem_mem hi)) (Gr.here (parD_gr hg i (Nat.le_of_succ_le hi))))
theorem compD_sm {fs : List (D → D)} (hg : ∀ f ∈ fs, Grows 14362 f) (h4 : fs.length ≤ 4) : Sm (compD fs) := by
  have g := Gr.put (o := .stop "end") (parD_gr hg fs.length (Nat.le_refl _))
  have m : (14362 + 1) * fs.length ≤ (14362 + 1) * 4 := Nat.mul_le_mul_left _ h4
  have o := g.o2
  have p := g.p2
  rw [show (⟨[], List.replicate fs.length (-1), 0⟩ : D).ops.length = 0 from rfl] at o
  rw [show (⟨[], List.replicate fs.length (-1), 0⟩ : D).places.length = fs.length from List.length_replicate] at p
  exact ⟨Nat.le_trans o (by omega), Nat.le_trans p (by omega)⟩
end
section
open PySem PySem.W PySem.Calls PyProof.Rows PySem.Spec
set_option backward.isDefEq.lazyWhnfCore false
structure QJ (σ : Store) (Xs : List V) (i : Nat) (Zs : List V) (τ : Store) (ps : List Addr) : Prop where
  vs : Zs = ps.map V.ref
  len : ps.length = i
  sub : ∀ b y, σ b = some y → τ b = some y
  para : ∀ (k : Nat) (p : Addr) X, ps[k]? = some p → Xs[k]? = some X → ParaAt τ p k X
theorem QJ.snoc {σ τ τ' : Store} {Xs : List V} {i : Nat} {Zs : List V} {ps : List Addr} {x : Addr} {X : V} (J : QJ σ Xs i Zs τ ps) (s : ∀ b y, τ b = some y → τ' b = some y) (hX : Xs[i]? = some X) (p : ParaAt τ' x i X) : QJ σ Xs (i + 1) (Zs ++ [.ref x]) τ' (ps ++ [x]) :=
  ⟨by rw [J.vs, List.map_append]; rfl, by rw [List.length_append, J.len]; rfl, sub_trans J.sub s, fun k q Y e1 e2 => by
    by_cases h : k < ps.length
    · rw [List.getElem?_append_left h] at e1
      exact (J.para k q Y e1 e2).mono s
    · have hk := (List.getElem?_eq_some_iff.mp e1).1
      rw [List.length_append, List.length_singleton] at hk
      have e : k = i := by have := J.len; omega
      subst e
      rw [List.getElem?_append_right (Nat.le_of_eq J.len), J.len, Nat.sub_self] at e1
      cases e1
      rw [hX] at e2
      cases e2
      exact p⟩
section
variable {C : Cx} (hK : C.K = KK C.w.params) {k cnt : Nat} {σ : Store} {ρ : Loc} {L fa : Addr} {cd : Value} {bl : Addr} {Xs : List V} {N : Loc → Store → Prop} {J : Fl → Loc → Store → Prop}
include hK
theorem law_parts (h1 : 1 ≤ cnt) (h4 : cnt ≤ 4) (lX : Xs.length = cnt) (hX : ∀ X ∈ Xs, ∃ d, d ≤ 2 ∧ SsGood C cnt d X)
    (c2 : σ (L + 2) = some (.cell (some (.int cnt)))) (c3 : σ (L + 3) = some (.cell (some (.ref bl)))) (c4 : σ (L + 4) = some (.cell none)) (hb : σ bl = some (.list Xs)) (T1 : TabQ σ 189 qFin) (T5 : TabQ σ 530 qOp) (hC1 : CodeHd C.h₀ 191 189) (hC5 : CodeHd C.h₀ 532 530)
    (h : ∀ ρ' σ', TabQ σ' 189 qFin → TabQ σ' 530 qOp → J (.ret (.bool true)) ρ' σ') : (Wk C 330 (k + 80)).ss (lawEnv L fa cd) ρ (f_law.body.drop 3) N J σ := by
  have hdd : ∀ d, d ≤ 2 → dS d ≤ 21 ∧ nS d + 2 ≤ 308 ∧ 2 * kS d ≤ 14362 := fun d hd => by
    rcases (show d = 0 ∨ d = 1 ∨ d = 2 from by omega) with rfl | rfl | rfl <;> decide +kernel
  obtain ⟨fs, lf, hf⟩ := list_choose (Q := fun X f => NiceS cnt f ∧ ∀ Ys : List V, Ys.length = cnt → Runs C Ys 308 14362 220 [X] f) Xs fun X hx => by
    obtain ⟨d, hd, sts, f, rfl, g⟩ := hX X hx
    exact ⟨f, g.nice, fun Ys hY => (g.run Ys hY).less (hdd d hd).2.1 (hdd d hd).2.2⟩
  have fX : ∀ f ∈ fs, ∃ i X, Xs[i]? = some X ∧ fs[i]? = some f := fun f hfm => by
    obtain ⟨i, hi, e⟩ := List.getElem_of_mem hfm
    exact ⟨i, _, List.getElem?_eq_getElem (lf ▸ hi), by rw [List.getElem?_eq_getElem hi, e]⟩
  have nice : ∀ f ∈ fs, NiceS fs.length f := fun f hfm => by
    obtain ⟨i, X, a, b⟩ := fX f hfm
    rw [lf, lX]; exact (hf i X f a b).1
  have runs : ∀ (i : Nat) X f, Xs[i]? = some X → fs[i]? = some f → Runs C Xs 308 14362 220 [X] f := fun i X f a b => (hf i X f a b).2 Xs lX
  have sm : Sm (compD fs) := compD_sm (fun f hfm => (fX f hfm).elim fun i q => q.elim fun X q => (runs i X f q.1 q.2).grows) (by rw [lf, lX]; exact h4)
  have hhd : ∀ X ∈ Xs, X.handed = true := fun X hx => by
    obtain ⟨d, hd, sts, f, rfl, -⟩ := hX X hx
    rfl
  have hXd : V.datas 30 Xs = true := V.datas_all fun X hx => by
    obtain ⟨d, hd, g⟩ := hX X hx
    exact V.data_mono _ _ _ (Nat.le_trans (Nat.succ_le_succ (hdd d hd).1) (by decide)) g.data
  have CP : Comp C 316 Xs (finOps (compD fs)) (finBegins fs.length (compD fs)) := fun σ pr P T => (c_compiled hK (n := 308) P (lX ▸ h4) lf sm runs hhd nice T hC1).less (by decide)
  have CO : CodeOk cnt (finOps (compD fs)) (finBegins fs.length (compD fs)) := by
    have := codeOk_of nice
    rw [lf, lX] at this ⊢
    exact this
  have hz : (finOps (compD fs)).length ≤ 60000 := by rw [finOps, List.length_map]; exact sm.ops
  generalize finOps (compD fs) = os at CP CO hz
  generalize finBegins fs.length (compD fs) = bs at CP CO
  refine SCell.at c2 (S_range (Nat.le_trans h4 (by decide)) fun r hr s1 s2 => SComp.rng hr s1 s2 (SComp.gen hK (fun Ca => ⟨rfl, rfl, rfl, rfl⟩) (.tup _) (by rw [rngVs_len]; exact Nat.le_trans h4 (by decide)) (fun i Zs τ => ∃ ps, QJ σ Xs i Zs τ ps) ⟨[], rfl, rfl, fun _ _ e => e, fun k p X e => by cases e⟩ (fun Ca i Y Zs τ hY j => ?_) fun D Zs τ j hD _ => ?_))
  · obtain ⟨ps, Q⟩ := j
    obtain ⟨hi, rfl⟩ := rngVs_nat hY
    have hi4 := Nat.lt_of_lt_of_le hi h4
    obtain ⟨X, hXi⟩ : ∃ X, Xs[i]? = some X := ⟨_, List.getElem?_eq_getElem (lX.symm ▸ hi)⟩
    refine ⟨B_str (log_4 i hi4) ⟨O_strAdd (Nat.le_trans (len_4 i hi4) (Nat.le_trans (by decide) sizeLine_big)) ?_⟩⟩
    exact SCell.at (Q.sub _ _ c3) (I_list (Q.sub _ _ hb) hXi (lX.symm ▸ Nat.le_trans h4 (by decide)) (S_obj hK m_Paragraph (c_para_init hK (n := 0)) (fun x dx hx hdx hne => ⟨ps ++ [x], Q.snoc (sub_trans (set_sub hdx) (set_sub (set_ne hne hx))) hXi ⟨dx, set_self, set_ne hne.symm set_self⟩⟩) (by decide)))
  · obtain ⟨ps, Q⟩ := j
    have hD : τ D = none := hD
    have lp : ps.length = Xs.length := by rw [Q.len, rngVs_len, lX]
    rw [Q.vs]
    have s2 := set_sub (y := .list (ps.map V.ref)) hD
    have hD2 : (τ.set D (.list (ps.map V.ref))) D = some (.list (ps.map V.ref)) := set_self
    have sub2 := sub_trans Q.sub s2
    have para2 : ∀ (k : Nat) (p : Addr) X, ps[k]? = some p → Xs[k]? = some X → ParaAt (τ.set D (.list (ps.map V.ref))) p k X := fun k p X a b => (Q.para k p X a b).mono s2
    refine Drop.eq ?_
    rw [show (id τ) = τ from rfl]
    generalize τ.set D (.list (ps.map V.ref)) = τ1 at hD2 sub2 para2 ⊢
    have T1' := T1.mono sub2
    have T5' := T5.mono sub2
    refine S_compiled hK ?hm hD2 lp para2 T1' CP (fun x τ2 nx K2 St T2 => ?_) ?hn
    case hm => decide
    case hn => decide
    have ne : ∀ {b : Addr} {y : AObj}, τ1 b = some y → y.mine = true → τ2 b = some y := fun e hy => St.my T1' e hy
    have S : LPre τ2 L cnt x D bl ps Xs os bs := ⟨ne (sub2 _ _ c2) rfl, ne (sub2 _ _ c3) rfl, ne (sub2 _ _ c4) rfl, K2, ne hD2 rfl, ne (sub2 _ _ hb) rfl, lp, fun k p X a b => (para2 k p X a b).at_.elim fun dx q => ⟨dx, ne q.1 rfl, ne q.2 rfl⟩, T2, T5'.other T1' St (by decide)⟩
    exact aName (law_checks (k := k + 58) hK S CO hz h1 h4 fun σ3 S3 => law_loop (k := k + 56) hK S3 CO hz h4 rfl rfl (law_ops (k := k + 55) hK S3 CO hz hC5 fun σ5 S5 => law_leaves (k := k + 54) hK S5 CO hz h4 fun σ6 S6 => law_end (k := k + 73) hK S6 CP CO hXd (lX ▸ h4) hhd h))
end
end
section
open PySem PySem.W PySem.Calls PyProof.Rows PySem.Spec
set_option backward.isDefEq.lazyWhnfCore false
structure BodJ (C : Cx) (σ : Store) (a : PA) (cnt i : Nat) (Zs : List V) (τ : Store) (P : Pen) : Prop where
  fit : P.Fit (1597 * (cnt - i) + (if i = 0 then 8100 else 0))
  st : τ = pst σ a P
  len : Zs.length = i
  ok : ∀ X ∈ Zs, ∃ d, d ≤ 2 ∧ SsGood C cnt d X
section
variable {C : Cx} {σ τ : Store} {a : PA} {cnt i d : Nat} {Zs : List V} {P P' : Pen} {X : V}
theorem BodJ.first (B : BodJ C σ a cnt i Zs τ P) (hi : i < cnt) (q : ((i : Int) == 0) = true) : P.Fit (1 + 2 * gS 2 + 1597 * (cnt - (i + 1))) := by
  have q : (i : Int) = 0 := of_decide_eq_true q
  have g : gS 2 = 4848 := by decide +kernel
  have f := B.fit
  rw [if_pos (by omega)] at f
  exact f.less (by omega)
theorem BodJ.then (B : BodJ C σ a cnt i Zs τ P) (hi : i < cnt) (q : ((i : Int) == 0) = false) : P.Fit (1 + 2 * gS 1 + 1597 * (cnt - (i + 1))) := by
  have g : gS 1 = 798 := by decide +kernel
  have f := B.fit
  exact f.less (by omega)
theorem BodJ.take (B : BodJ C σ a cnt i Zs τ P) (hd : d ≤ 2) (g : SsGood C cnt d X) (f : P'.Fit (1597 * (cnt - (i + 1)))) : ∃ P, BodJ C σ a cnt (i + 1) (Zs ++ [X]) (pst σ a P') P :=
  ⟨P', f, rfl, by rw [List.length_append, B.len]; rfl, fun Z hZ => (List.mem_append.mp hZ).elim (B.ok Z) fun h => List.mem_singleton.mp h ▸ ⟨d, hd, g⟩⟩
end
theorem cellP {σ : Store} {a : PA} {P : Pen} {c : Addr} {v w : Option V} (A : a.Apart σ) (h : σ c = some (.cell v)) {Q : Store → Prop}
    (k : a.Apart (σ.set c (.cell w)) → Q (pst (σ.set c (.cell w)) a P)) : Q ((pst σ a P).set c (.cell w)) := by
  have n1 : c ≠ a.p := fun q => by rw [q, A.p] at h; cases h
  have n2 : c ≠ a.c := fun q => by rw [q, A.c] at h; cases h
  rw [pst_new n1 n2]
  exact k (A.set n1 n2)
theorem TabQ.cell {σ : Store} {P c : Addr} {q : Str} {v : Option V} {y : AObj} (h : TabQ σ P q) (k : σ c = some (.cell v)) : TabQ (σ.set c y) P q :=
  h.raw fun b o e => set_ne (fun q => by rw [q, k] at e; cases e) e
theorem S_asC {C : Cx} {n : Nat} {σ : Store} {env : Env} {ρ : Loc} {t e : Expr} {pos : Pos} {N : Loc → Store → Prop} {J : Fl → Loc → Store → Prop} (hK : C.K = KK C.w.params) (hE : PlainF env) (h : (W C n).e env ρ e (fun X => SAs C n env ρ t X N) σ)
    (he : assignEach [t] env = [(false, assign t env)] := by rfl) (hs : swapsWithSole [t] e pos.line env = pure false := by rfl) (hw : swappedStores [t] e env = pure none := by rfl) : SS C n env ρ (.Assign [t] e pos) N J σ :=
  ⟨TS_assign (((W_sound hK).e hE h).mono fun X σ₁ h => h.run) he hs hw⟩
theorem ne12 {m : Addr} : m + 2 ≠ m + 1 := Nat.succ_ne_self _
theorem ne23 {m : Addr} : m + 3 ≠ m + 2 := Nat.succ_ne_self _
theorem ne34 {m : Addr} : m + 4 ≠ m + 3 := Nat.succ_ne_self _
theorem ne13 {m : Addr} : m + 3 ≠ m + 1 := Nat.ne_of_gt (Nat.lt_succ_of_lt (Nat.lt_succ_self _))
theorem ne24 {m : Addr} : m + 4 ≠ m + 2 := Nat.ne_of_gt (Nat.lt_succ_of_lt (Nat.lt_succ_self _))
theorem ne14 {m : Addr} : m + 4 ≠ m + 1 := Nat.ne_of_gt (Nat.lt_succ_of_lt (Nat.lt_succ_of_lt (Nat.lt_succ_self _)))
section
variable {C : Cx} (hK : C.K = KK C.w.params) {k cnt : Nat} {σ : Store} {ρ : Loc} {L fa : Addr} {cd : Value} {a : PA} {P : Pen} {N : Loc → Store → Prop} {J : Fl → Loc → Store → Prop}
include hK
theorem law_bodies (h1 : 1 ≤ cnt) (h4 : cnt ≤ 4) (A : a.Apart σ) (f : P.Fit 14488) (c1 : σ (L + 1) = some (.cell (some (.ref a.p)))) (c2 : σ (L + 2) = some (.cell (some (.int cnt)))) (c3 : σ (L + 3) = some (.cell none)) (c4 : σ (L + 4) = some (.cell none))
    (T1 : TabQ σ 189 qFin) (T5 : TabQ σ 530 qOp) (hC1 : CodeHd C.h₀ 191 189) (hC5 : CodeHd C.h₀ 532 530)
    (h : ∀ ρ' σ', TabQ σ' 189 qFin → TabQ σ' 530 qOp → J (.ret (.bool true)) ρ' σ') : (Wk C 330 (k + 81)).ss (lawEnv L fa cd) ρ (f_law.body.drop 2) N J (pst σ a P) := by
  refine S_asC hK ⟨rfl, rfl, rfl, rfl⟩ ?_
  refine SCell.at (pst_at (P := P) A c2) (S_range (Nat.le_trans h4 (by decide)) fun r hr s1 s2 => SComp.rng hr s1 s2 (SComp.gen hK (fun Ca => ⟨rfl, rfl, rfl, rfl⟩) (.tup _) (by rw [rngVs_len]; exact Nat.le_trans h4 (by decide)) (fun i Zs τ => ∃ P : Pen, BodJ C σ a cnt i Zs τ P) ⟨P, f.less (by rw [if_pos rfl]; omega), rfl, rfl, fun _ h => by cases h⟩ (fun Ca i Y Zs τ hY j => ?_) fun D Zs τ j hD _ => ?_))
  · obtain ⟨P3, B⟩ := j
    obtain ⟨hi, rfl⟩ := rngVs_nat hY
    rw [B.st]
    exact SCell.at (pst_at A c1) (SCell.at (pst_at A c2) (wIf_s (fun q => SC.gen (c_statements2 hK h1 h4) A (B.first hi q) (fun X P4 g f4 => B.take (Nat.le_refl _) g f4) (by decide)) (fun q => SC.gen (c_statements1 hK h1 h4) A (B.then hi q) (fun X P4 g f4 => B.take (by decide) g f4) (by decide))))
  · obtain ⟨P3, B⟩ := j
    have hD := hD
    have lz := B.len
    rw [rngVs_len] at lz
    have ok := B.ok
    rw [B.st] at hD ⊢
    have hD : pst σ a P3 D = none := hD
    have s2 : ∀ b y, σ b = some y → ((pst σ a P3).set D (.list Zs)) b = some y := fun b y e => set_sub (y := .list Zs) hD b y (pst_at A e)
    have T13 := T1.mono s2
    have T53 := T5.mono s2
    have k2 := s2 _ _ c2
    have k3 := s2 _ _ c3
    have k4 := s2 _ _ c4
    have kD : ((pst σ a P3).set D (.list Zs)) D = some (.list Zs) := set_self
    refine Drop.eq ?_
    rw [show (id (pst σ a P3)) = pst σ a P3 from rfl]
    generalize (pst σ a P3).set D (.list Zs) = σ3 at T13 T53 k2 k3 k4 kD ⊢
    have nD : D ≠ L + 3 := fun q => by rw [q, k3] at kD; cases kD
    exact ⟨TA_cell rfl rfl rfl k3 (law_parts hK h1 h4 lz ok (set_ne ne23.symm k2) set_self (set_ne ne34 k4) (set_ne nD kD) (T13.cell k3) (T53.cell k3) hC1 hC5 h)⟩
theorem law_body {l : Addr} {vs : List Value} {xs : List Int} (hl : C.h₀.IsList l vs.toArray) (hr : RepL C.h₀ vs (xs.map V.int)) (hx : xs.length ≤ 63)
    (c1 : σ (L + 1) = some (.cell none)) (c2 : σ (L + 2) = some (.cell none)) (c3 : σ (L + 3) = some (.cell none)) (c4 : σ (L + 4) = some (.cell none)) (T1 : TabQ σ 189 qFin) (T5 : TabQ σ 530 qOp) (hC1 : CodeHd C.h₀ 191 189) (hC5 : CodeHd C.h₀ 532 530)
    (h : ∀ ρ' σ', TabQ σ' 189 qFin → TabQ σ' 530 qOp → J (.ret (.bool true)) ρ' σ') : (Wk C 330 (k + 83)).ss (lawEnv L fa cd) (Loc.none.set "script" (.ref l)) f_law.body N J σ := by
  refine SC.use (c_pen hK (n := 0) hl hr hx) (fun X σ' q => ?_) (by decide)
  obtain ⟨a, P, rfl, A, hf, rfl⟩ := q
  refine ⟨TA_cell rfl rfl rfl (pst_at A c1) ?_⟩
  refine cellP A c1 fun A1 => ?_
  have T11 := T1.cell (y := .cell (some (.ref a.p))) c1
  have T51 := T5.cell (y := .cell (some (.ref a.p))) c1
  have d1 : (σ.set (L + 1) (.cell (some (.ref a.p)))) (L + 1) = some (.cell (some (.ref a.p))) := set_self
  have d2 := set_ne (y := .cell (some (.ref a.p))) ne12 c2
  have d3 := set_ne (y := .cell (some (.ref a.p))) ne13 c3
  have d4 := set_ne (y := .cell (some (.ref a.p))) ne14 c4
  generalize σ.set (L + 1) (.cell (some (.ref a.p))) = σ1 at A1 T11 T51 d1 d2 d3 d4 ⊢
  refine SCell.at (pst_at A1 d1) (S_draw hK (by decide) A1 (j := 19999) hf (fun d hd P2 f2 => ?_) (by decide))
  obtain ⟨cnt, hcnt⟩ : ∃ cnt : Nat, 1 + d = cnt := ⟨(1 + d).toNat, by omega⟩
  refine (?_ : SAs _ _ _ _ _ _ _ _)
  rw [hcnt]
  refine ⟨TA_cell rfl rfl rfl (pst_at A1 d2) ?_⟩
  exact cellP A1 d2 fun A2 => law_bodies hK (by omega) (by omega) A2 (f2.less (by decide)) (set_ne ne12.symm d1) set_self (set_ne ne23 d3) (set_ne ne24 d4) (T11.cell d2) (T51.cell d2) hC1 hC5 h
end
end
section
open PySem PySem.W PySem.Calls PyProof.Rows PySem.Spec
set_option backward.isDefEq.lazyWhnfCore false
theorem ints_rep {h : Heap} : ∀ {vs : List Value} {xs : List Int}, IntsAre vs xs → RepL h vs (xs.map V.int)
  | _, _, .nil => .nil
  | _, _, .cons n t r => .cons (.int n t) (ints_rep r)
section
variable {C : Cx} (hK : C.K = KK C.w.params)
include hK
theorem top_law {A : Around} {s : Shared} {L fa : Addr} {cd : Value} {l : Addr} {vs : List Value} {xs : List Int} {m : Str → Option Value} {w1 w2 w3 w4 : Obj} {Q : Flow → Shared → Prop} {E : Value → Shared → Prop} (F : Fr C.h₀ L s.heap m)
    (N : News C.h₀ L s.heap [(L + 1 + 1 + 1 + 1, w4), (L + 1 + 1 + 1, w3), (L + 1 + 1, w2), (L + 1, w1), (530, tabObj #[]), (189, tabObj #[])]) (hm : m "script" = some (.ref l))
    (hw4 : w4.data = .cell none) (hw3 : w3.data = .cell none) (hw2 : w2.data = .cell none) (hw1 : w1.data = .cell none) (hl : C.h₀.IsList l vs.toArray) (hI : IntsAre vs xs) (hx : ¬ (63 : Int) < xs.length) (l5 : 530 < L ∧ 189 < L)
    (hC5 : CodeHd C.h₀ 532 530) (hC1 : CodeHd C.h₀ 191 189) (R : Room A 330)
    (q : ∀ h' tk', (∀ b o, C.h₀.get? b = some o → h'.get? b = some o) → GrownAt 530 h' → GrownAt 189 h' → Q (.ret (.bool true)) { s with heap := h', toks := tk' }) :
    wpAny (model C.prog C.w) A (execs f_law.body (lawEnv L fa cd)) Q E s := by
  have l1 : ∀ k : Addr, k < k + 1 := fun k => Nat.lt_succ_self k
  have e21 : L + 2 ≠ L + 1 := Nat.succ_ne_self _
  have e32 : L + 3 ≠ L + 2 := Nat.succ_ne_self _
  have e43 : L + 4 ≠ L + 3 := Nat.succ_ne_self _
  have e31 : L + 3 ≠ L + 1 := Nat.ne_of_gt (Nat.lt_succ_of_lt (l1 _))
  have e42 : L + 4 ≠ L + 2 := Nat.ne_of_gt (Nat.lt_succ_of_lt (l1 _))
  have e41 : L + 4 ≠ L + 1 := Nat.ne_of_gt (Nat.lt_succ_of_lt (Nat.lt_succ_of_lt (l1 _)))
  have lo : ∀ k P : Addr, P < L → L ≤ k → P ≠ k := fun k P h1 h2 => Nat.ne_of_lt (Nat.lt_of_lt_of_le h1 h2)
  have ge1 : L ≤ L + 1 := Nat.le_succ _
  have ge2 : L ≤ L + 2 := Nat.le_trans ge1 (Nat.le_succ _)
  have ge3 : L ≤ L + 3 := Nat.le_trans ge2 (Nat.le_succ _)
  have ge4 : L ≤ L + 4 := Nat.le_trans ge3 (Nat.le_succ _)
  let σ : Store := fun b => if b = L + 1 ∨ b = L + 2 ∨ b = L + 3 ∨ b = L + 4 then some (.cell none) else if b = 530 ∨ b = 189 then some (.raw (tabObj #[])) else none
  have sc : ∀ b, (b = L + 1 ∨ b = L + 2 ∨ b = L + 3 ∨ b = L + 4) → σ b = some (.cell none) := fun b h => if_pos h
  have st : ∀ b, (b = 530 ∨ b = 189) → σ b = some (.raw (tabObj #[])) := fun b h => by
    have : ¬ (b = L + 1 ∨ b = L + 2 ∨ b = L + 3 ∨ b = L + 4) := by
      have hb : b < L := by rcases h with rfl | rfl; exact l5.1; exact l5.2
      rintro (e | e | e | e)
      · exact lo _ _ hb ge1 e
      · exact lo _ _ hb ge2 e
      · exact lo _ _ hb ge3 e
      · exact lo _ _ hb ge4 e
    show (if _ then _ else _) = _
    rw [if_neg this, if_pos h]
  have inv : ∀ b y, σ b = some y → (y = .cell none ∧ (b = L + 1 ∨ b = L + 2 ∨ b = L + 3 ∨ b = L + 4)) ∨ (y = .raw (tabObj #[]) ∧ (b = 530 ∨ b = 189)) := fun b y e => by
    by_cases h : b = L + 1 ∨ b = L + 2 ∨ b = L + 3 ∨ b = L + 4
    · rw [sc b h] at e; cases e; exact .inl ⟨rfl, h⟩
    · by_cases h' : b = 530 ∨ b = 189
      · rw [st b h'] at e; cases e; exact .inr ⟨rfl, h'⟩
      · have : σ b = none := by
          show (if _ then _ else _) = _
          rw [if_neg h, if_neg h']
        rw [this] at e; cases e
  have a4 := N _ (.head _)
  have a3 := N _ (.tail _ (.head _))
  have a2 := N _ (.tail _ (.tail _ (.head _)))
  have a1 := N _ (.tail _ (.tail _ (.tail _ (.head _))))
  have a5 := N _ (.tail _ (.tail _ (.tail _ (.tail _ (.head _)))))
  have a8 := N _ (.tail _ (.tail _ (.tail _ (.tail _ (.tail _ (.head _))))))
  have H : Holds C σ s.heap := by
    refine ⟨F.keep, fun b y e => ?_, fun b y e => ?_⟩
    · rcases inv b y e with ⟨rfl, rfl | rfl | rfl | rfl⟩ | ⟨rfl, rfl | rfl⟩
      · exact ⟨_, a1.1, hw1⟩
      · exact ⟨_, a2.1, hw2⟩
      · exact ⟨_, a3.1, hw3⟩
      · exact ⟨_, a4.1, hw4⟩
      · exact a5.1
      · exact a8.1
    · rcases inv b y e with ⟨rfl, rfl | rfl | rfl | rfl⟩ | ⟨rfl, rfl | rfl⟩
      · exact a1.2.2
      · exact a2.2.2
      · exact a3.2.2
      · exact a4.2.2
      · exact a5.2.2
      · exact a8.2.2
  have Fm : Frm C σ s.heap (lawEnv L fa cd).locals (Loc.none.set "script" (.ref l)) := by
    refine ⟨⟨m, F.ns, fun x X e => ?_⟩, ?_, ?_⟩
    · by_cases qx : x = "script"
      · subst qx
        have : X = .ref l := by
          have e' : (Loc.none.set "script" (.ref l)) "script" = some (.ref l) := rfl
          rw [e'] at e; exact (Option.some.inj e).symm
        subst this
        exact ⟨_, hm, .ref l⟩
      · have : (Loc.none.set "script" (.ref l)) x = none := by simp only [Loc.set, if_neg qx]; rfl
        rw [this] at e; cases e
    · show σ L = none
      cases z : σ L with
      | none => rfl
      | some y =>
        rcases inv L y z with ⟨_, e | e | e | e⟩ | ⟨_, e | e⟩
        · exact absurd e (Nat.ne_of_lt (l1 L))
        · exact absurd e (Nat.ne_of_lt (Nat.lt_succ_of_lt (l1 L)))
        · exact absurd e (Nat.ne_of_lt (Nat.lt_succ_of_lt (Nat.lt_succ_of_lt (l1 L))))
        · exact absurd e (Nat.ne_of_lt (Nat.lt_succ_of_lt (Nat.lt_succ_of_lt (Nat.lt_succ_of_lt (l1 L)))))
        · exact absurd e.symm (Nat.ne_of_lt l5.1)
        · exact absurd e.symm (Nat.ne_of_lt l5.2)
    · exact Heap.get?_none_of_le F.above
  have T5 : TabQ σ 530 qOp := ⟨#[], st 530 (.inl rfl), trivial, fun pos cv e => by simp [codeAmong] at e⟩
  have T1 : TabQ σ 189 qFin := ⟨#[], st 189 (.inr rfl), trivial, fun pos cv e => by simp [codeAmong] at e⟩
  have main := (W_sound hK).ss (env := lawEnv L fa cd) ⟨rfl, rfl, rfl, rfl⟩ (law_body hK (k := 9856) (fa := fa) (cd := cd) (N := fun _ _ => False) (J := fun f _ σ' => f = .ret (.bool true) ∧ TabQ σ' 189 qFin ∧ TabQ σ' 530 qOp) hl (ints_rep hI) (by omega) (sc _ (.inl rfl)) (sc _ (.inr (.inl rfl))) (sc _ (.inr (.inr (.inl rfl)))) (sc _ (.inr (.inr (.inr rfl)))) T1 T5 hC1 hC5 fun ρ' σ' a b => ⟨rfl, a, b⟩)
  unfold TSS at main
  refine main A s Q E R H Fm fun f X ρ' σ' h' tk' rf H' F' G' p => ?_
  have p : X = .ret (.bool true) ∧ TabQ σ' 189 qFin ∧ TabQ σ' 530 qOp := by
    cases X with
    | next => exact False.elim p
    | brk => exact p
    | cont => exact p
    | ret V => exact p
  obtain ⟨rfl, ⟨ps1, t1, -⟩, ⟨ps5, t5, -⟩⟩ := p
  cases rf with
  | ret r =>
    cases r
    exact q h' tk' H'.base ⟨ps5, H'.obj _ _ t5⟩ ⟨ps1, H'.obj _ _ t1⟩
end
end
section
open PySem PySem.W PyProof.Rows
theorem ghost_seer {tabs : List (Addr × Addr)} {h₁ : Heap} (hT : TabsAt tabs h₁) (x : h₁.NoSeer) : (ghostOf h₁ tabs).NoSeer where
  statics := let ⟨mc, a, b⟩ := x.statics; ⟨mc, ghost_ns hT a, b⟩
  mods := let ⟨mc, a, b⟩ := x.mods; ⟨mc, ghost_ns hT a, b⟩
  imp := let ⟨mc, a, b⟩ := x.imp; ⟨mc, ghost_ns hT a, b⟩
  main := let ⟨mg, bm, ob, a, b, c, d, e⟩ := x.main; ⟨mg, bm, ob, ghost_ns hT a, b, ghost_get hT c (fun q => by rw [q] at e; cases e), d, e⟩
theorem room_top {e : Env} (p : PlainEnv e) : Room (callerA.deeper e) 330 :=
  ⟨rfl, (show 1 + claimMargin + 1 + 2 * 330 < recursionLimit by decide), (show 4 + 3 + 10 * 330 + 300 < cLine by decide), e, [], Around.frames_deeper rfl, p⟩
theorem kin_of {P : Params} {K' : Frag} {h : Heap} (X : K'.In h) (e : (KK P).map (fun p => K'.lookup p.1) = (KK P).map fun p => some p.2) : (KK P).In h := fun a o l => X a o (by
  generalize KK P = K at e l
  induction K with
  | nil => cases l
  | cons p r ih =>
    rw [List.map_cons, List.map_cons] at e
    injection e with e1 e2
    rw [List.lookup_cons] at l
    split at l
    · rename_i q
      cases l
      rw [beq_iff_eq.mp q]; exact e1
    · exact ih e2 l)
noncomputable def law_holds.tw10007947361888340627 : Nat := 0
noncomputable def law_holds.tw10024239376800412576 : Nat := 0
noncomputable def law_holds.tw10027879121665395642 : Nat := 0
noncomputable def law_holds.tw10093380194815717143 : Nat := 0
noncomputable def law_holds.tw10108825076125807744 : Nat := 0
noncomputable def law_holds.tw10188763426450519768 : Nat := 0
noncomputable def law_holds.tw10189704592693192966 : Nat := 0
noncomputable def law_holds.tw10242277825702978295 : Nat := 0
noncomputable def law_holds.tw10264638600885302300 : Nat := 0
noncomputable def law_holds.tw10296202853966499060 : Nat := 0
noncomputable def law_holds.tw1031057903888850656 : Nat := 0
noncomputable def law_holds.tw10346744231138586394 : Nat := 0
noncomputable def law_holds.tw10350734228115807855 : Nat := 0
noncomputable def law_holds.tw10362271348294423435 : Nat := 0
noncomputable def law_holds.tw10371022188087798493 : Nat := 0
noncomputable def law_holds.tw10442559174759676424 : Nat := 0
noncomputable def law_holds.tw10465528174321978529 : Nat := 0
noncomputable def law_holds.tw10516828495840041881 : Nat := 0
noncomputable def law_holds.tw1053317679998426468 : Nat := 0
noncomputable def law_holds.tw10566571302883470556 : Nat := 0
noncomputable def law_holds.tw10609929442622069884 : Nat := 0
noncomputable def law_holds.tw10666784280354678857 : Nat := 0
noncomputable def law_holds.tw10709709173741771143 : Nat := 0
noncomputable def law_holds.tw10812634152524527747 : Nat := 0
noncomputable def law_holds.tw10853073101087482815 : Nat := 0
noncomputable def law_holds.tw10876394233666535175 : Nat := 0
noncomputable def law_holds.tw10954758410522031216 : Nat := 0
noncomputable def law_holds.tw10983241140555628109 : Nat := 0
noncomputable def law_holds.tw11067727234611919522 : Nat := 0
noncomputable def law_holds.tw11097350217990362986 : Nat := 0
noncomputable def law_holds.tw11182679623053108816 : Nat := 0
noncomputable def law_holds.tw11185980776385928813 : Nat := 0
noncomputable def law_holds.tw11210074238304444729 : Nat := 0
noncomputable def law_holds.tw11223184984439025696 : Nat := 0
noncomputable def law_holds.tw11234044184882727745 : Nat := 0
noncomputable def law_holds.tw11330957891505755796 : Nat := 0
noncomputable def law_holds.tw11404014056486942332 : Nat := 0
noncomputable def law_holds.tw11470271118054631628 : Nat := 0
noncomputable def law_holds.tw11484002064277903863 : Nat := 0
noncomputable def law_holds.tw11609493526922420660 : Nat := 0
noncomputable def law_holds.tw11633083819707477107 : Nat := 0
noncomputable def law_holds.tw11666318101497114028 : Nat := 0
noncomputable def law_holds.tw11677100312832694166 : Nat := 0
noncomputable def law_holds.tw11690447701083486646 : Nat := 0
noncomputable def law_holds.tw11781800970755023335 : Nat := 0
noncomputable def law_holds.tw11795792742502079742 : Nat := 0
noncomputable def law_holds.tw11803358882649189518 : Nat := 0
noncomputable def law_holds.tw11846676642670509255 : Nat := 0
noncomputable def law_holds.tw1186782194237197914 : Nat := 0
noncomputable def law_holds.tw11868859949165621466 : Nat := 0
noncomputable def law_holds.tw11881114122080957857 : Nat := 0
noncomputable def law_holds.tw11924911360389889469 : Nat := 0
noncomputable def law_holds.tw11946022803392826334 : Nat := 0
noncomputable def law_holds.tw11954228515179632006 : Nat := 0
noncomputable def law_holds.tw11977050620070087417 : Nat := 0
noncomputable def law_holds.tw11988886212176157647 : Nat := 0
noncomputable def law_holds.tw12038593971548452464 : Nat := 0
noncomputable def law_holds.tw12108977868540685583 : Nat := 0
noncomputable def law_holds.tw12115171985352901274 : Nat := 0
noncomputable def law_holds.tw12116493165278983582 : Nat := 0
noncomputable def law_holds.tw12223724995276690173 : Nat := 0
noncomputable def law_holds.tw12291295341487003417 : Nat := 0
noncomputable def law_holds.tw12294597709558488554 : Nat := 0
noncomputable def law_holds.tw12296726922439171297 : Nat := 0
noncomputable def law_holds.tw12303009252429188658 : Nat := 0
noncomputable def law_holds.tw123295346585929383 : Nat := 0
noncomputable def law_holds.tw12342728606916771844 : Nat := 0
noncomputable def law_holds.tw12456547296908542839 : Nat := 0
noncomputable def law_holds.tw12459966957829302596 : Nat := 0
noncomputable def law_holds.tw12481875629721207810 : Nat := 0
noncomputable def law_holds.tw125589795923285354 : Nat := 0
noncomputable def law_holds.tw1258919526383655059 : Nat := 0
noncomputable def law_holds.tw12622292602297523153 : Nat := 0
noncomputable def law_holds.tw12626328134170644701 : Nat := 0
noncomputable def law_holds.tw12645607732203181651 : Nat := 0
noncomputable def law_holds.tw12663309570017281627 : Nat := 0
noncomputable def law_holds.tw12780804625047726367 : Nat := 0
noncomputable def law_holds.tw12800644894191811977 : Nat := 0
noncomputable def law_holds.tw12831907817818079685 : Nat := 0
noncomputable def law_holds.tw12835091436910803158 : Nat := 0
noncomputable def law_holds.tw12847567107135931479 : Nat := 0
noncomputable def law_holds.tw12889056044993165476 : Nat := 0
noncomputable def law_holds.tw12941704145708800945 : Nat := 0
noncomputable def law_holds.tw13087128984098923117 : Nat := 0
noncomputable def law_holds.tw13154458805202713791 : Nat := 0
noncomputable def law_holds.tw13220211186989608806 : Nat := 0
noncomputable def law_holds.tw13250372474279835810 : Nat := 0
noncomputable def law_holds.tw13280740594461564331 : Nat := 0
noncomputable def law_holds.tw13336368349410954346 : Nat := 0
noncomputable def law_holds.tw1335265377702380343 : Nat := 0
noncomputable def law_holds.tw13372777758803739583 : Nat := 0
noncomputable def law_holds.tw13392613628428298086 : Nat := 0
noncomputable def law_holds.tw13429453918920967058 : Nat := 0
noncomputable def law_holds.tw13431030151845061361 : Nat := 0
noncomputable def law_holds.tw13478230802861573701 : Nat := 0
noncomputable def law_holds.tw13667737974841707781 : Nat := 0
noncomputable def law_holds.tw13709617746848070560 : Nat := 0
noncomputable def law_holds.tw1376783240425437725 : Nat := 0
noncomputable def law_holds.tw1377309892636839040 : Nat := 0
noncomputable def law_holds.tw13780023080261437657 : Nat := 0
noncomputable def law_holds.tw13800757232730249582 : Nat := 0
noncomputable def law_holds.tw1385162719727133579 : Nat := 0
noncomputable def law_holds.tw13958071646730322851 : Nat := 0
noncomputable def law_holds.tw14064573792008682920 : Nat := 0
noncomputable def law_holds.tw1414043511812021011 : Nat := 0
noncomputable def law_holds.tw14150452598383663058 : Nat := 0
noncomputable def law_holds.tw14160533322030094474 : Nat := 0
noncomputable def law_holds.tw14281342344845405768 : Nat := 0
noncomputable def law_holds.tw14289194402921355359 : Nat := 0
noncomputable def law_holds.tw14326059299131336239 : Nat := 0
noncomputable def law_holds.tw14354538779393863138 : Nat := 0
noncomputable def law_holds.tw14385925486924208373 : Nat := 0
noncomputable def law_holds.tw14390095281932903014 : Nat := 0
noncomputable def law_holds.tw14497384708736915567 : Nat := 0
noncomputable def law_holds.tw14498155544194170393 : Nat := 0
noncomputable def law_holds.tw14571795756577361901 : Nat := 0
noncomputable def law_holds.tw14746732674962391887 : Nat := 0
noncomputable def law_holds.tw14774650325386425613 : Nat := 0
noncomputable def law_holds.tw14789792462180790578 : Nat := 0
noncomputable def law_holds.tw14794473197723012142 : Nat := 0
noncomputable def law_holds.tw14828999820898988419 : Nat := 0
noncomputable def law_holds.tw14957179600199517237 : Nat := 0
noncomputable def law_holds.tw14991590004735058009 : Nat := 0
noncomputable def law_holds.tw14997073306097389879 : Nat := 0
noncomputable def law_holds.tw15006436103509636135 : Nat := 0
noncomputable def law_holds.tw15123554796541802991 : Nat := 0
noncomputable def law_holds.tw15140378357190847165 : Nat := 0
noncomputable def law_holds.tw15150646450996357022 : Nat := 0
noncomputable def law_holds.tw15162217921772873613 : Nat := 0
noncomputable def law_holds.tw15272395603832836080 : Nat := 0
noncomputable def law_holds.tw15293083901398250104 : Nat := 0
noncomputable def law_holds.tw15341342317828512493 : Nat := 0
noncomputable def law_holds.tw15352839923633478061 : Nat := 0
noncomputable def law_holds.tw15522444059895599089 : Nat := 0
noncomputable def law_holds.tw15567558954438479688 : Nat := 0
noncomputable def law_holds.tw15607887362523206001 : Nat := 0
noncomputable def law_holds.tw15609566024721092083 : Nat := 0
noncomputable def law_holds.tw15617896438947887921 : Nat := 0
noncomputable def law_holds.tw15661869461025623997 : Nat := 0
noncomputable def law_holds.tw15694993059591697976 : Nat := 0
noncomputable def law_holds.tw15732109348078318572 : Nat := 0
noncomputable def law_holds.tw15759456685926392790 : Nat := 0
noncomputable def law_holds.tw15829985883664642994 : Nat := 0
noncomputable def law_holds.tw15848713872586308078 : Nat := 0
noncomputable def law_holds.tw15883345262158282383 : Nat := 0
noncomputable def law_holds.tw16009327648451700120 : Nat := 0
noncomputable def law_holds.tw16057390660189216267 : Nat := 0
noncomputable def law_holds.tw16074064945343616743 : Nat := 0
noncomputable def law_holds.tw160851071654074740 : Nat := 0
noncomputable def law_holds.tw16099233806120587224 : Nat := 0
noncomputable def law_holds.tw16190678330180157336 : Nat := 0
noncomputable def law_holds.tw1622690429015379626 : Nat := 0
noncomputable def law_holds.tw16381176275627223697 : Nat := 0
noncomputable def law_holds.tw16406091861079842607 : Nat := 0
noncomputable def law_holds.tw16462895619179043833 : Nat := 0
noncomputable def law_holds.tw16680241596803167317 : Nat := 0
noncomputable def law_holds.tw1670043908289496885 : Nat := 0
noncomputable def law_holds.tw16805829885119392726 : Nat := 0
noncomputable def law_holds.tw16836969012518115619 : Nat := 0
noncomputable def law_holds.tw16883458599210261866 : Nat := 0
noncomputable def law_holds.tw16893121556090616931 : Nat := 0
noncomputable def law_holds.tw16935243356766158856 : Nat := 0
noncomputable def law_holds.tw16947615914383616782 : Nat := 0
noncomputable def law_holds.tw16963379459963715452 : Nat := 0
noncomputable def law_holds.tw16983987102403535770 : Nat := 0
noncomputable def law_holds.tw17028624522117568015 : Nat := 0
noncomputable def law_holds.tw17048485002607070542 : Nat := 0
noncomputable def law_holds.tw1710076424337546998 : Nat := 0
noncomputable def law_holds.tw17137235678499792623 : Nat := 0
noncomputable def law_holds.tw17150959191239670302 : Nat := 0
noncomputable def law_holds.tw17169043682955552997 : Nat := 0
noncomputable def law_holds.tw17183477848116922584 : Nat := 0
noncomputable def law_holds.tw17253691774821329096 : Nat := 0
noncomputable def law_holds.tw17309000430359075326 : Nat := 0
noncomputable def law_holds.tw1762888911704233025 : Nat := 0
noncomputable def law_holds.tw1767730674963353768 : Nat := 0
noncomputable def law_holds.tw17865009358878524859 : Nat := 0
noncomputable def law_holds.tw1791086108937442324 : Nat := 0
noncomputable def law_holds.tw17942709131360195518 : Nat := 0
noncomputable def law_holds.tw179590077315354965 : Nat := 0
noncomputable def law_holds.tw17974257514489008736 : Nat := 0
noncomputable def law_holds.tw17993387198741990920 : Nat := 0
noncomputable def law_holds.tw18051328159682125866 : Nat := 0
noncomputable def law_holds.tw18155623678392573649 : Nat := 0
noncomputable def law_holds.tw1819975233463548508 : Nat := 0
noncomputable def law_holds.tw18234560199702728603 : Nat := 0
noncomputable def law_holds.tw18254337876149969668 : Nat := 0
noncomputable def law_holds.tw18261290160731607033 : Nat := 0
noncomputable def law_holds.tw18326849912455186884 : Nat := 0
noncomputable def law_holds.tw1832781179975386347 : Nat := 0
noncomputable def law_holds.tw18388893480867403737 : Nat := 0
noncomputable def law_holds.tw18430954121086234272 : Nat := 0
noncomputable def law_holds.tw1928719863018725356 : Nat := 0
noncomputable def law_holds.tw194939583717160490 : Nat := 0
noncomputable def law_holds.tw1961090160268390483 : Nat := 0
noncomputable def law_holds.tw1973129929022764952 : Nat := 0
noncomputable def law_holds.tw1989176631692091739 : Nat := 0
noncomputable def law_holds.tw2075624079617657780 : Nat := 0
noncomputable def law_holds.tw2078624436916829710 : Nat := 0
noncomputable def law_holds.tw2090888555730037645 : Nat := 0
noncomputable def law_holds.tw2102315897755806987 : Nat := 0
noncomputable def law_holds.tw2124134355350193313 : Nat := 0
noncomputable def law_holds.tw2127001594154878533 : Nat := 0
noncomputable def law_holds.tw2136269947727277649 : Nat := 0
noncomputable def law_holds.tw2142710703020379005 : Nat := 0
noncomputable def law_holds.tw2152083551845799040 : Nat := 0
noncomputable def law_holds.tw228058311090241170 : Nat := 0
noncomputable def law_holds.tw2503670479209048990 : Nat := 0
noncomputable def law_holds.tw2643271747718453845 : Nat := 0
noncomputable def law_holds.tw2644310842459337959 : Nat := 0
noncomputable def law_holds.tw2695550118857162214 : Nat := 0
noncomputable def law_holds.tw2842810181116790245 : Nat := 0
noncomputable def law_holds.tw2856731137302751260 : Nat := 0
noncomputable def law_holds.tw2887050238494874643 : Nat := 0
noncomputable def law_holds.tw2903333896348957400 : Nat := 0
noncomputable def law_holds.tw2907507879108658156 : Nat := 0
noncomputable def law_holds.tw302768837105346163 : Nat := 0
noncomputable def law_holds.tw3028213030429885723 : Nat := 0
noncomputable def law_holds.tw3033269912633744064 : Nat := 0
noncomputable def law_holds.tw3035144380315620824 : Nat := 0
noncomputable def law_holds.tw3049941959672503198 : Nat := 0
noncomputable def law_holds.tw3110860835449505704 : Nat := 0
noncomputable def law_holds.tw3158129796062787159 : Nat := 0
noncomputable def law_holds.tw3329330481660614911 : Nat := 0
noncomputable def law_holds.tw3426384778480675251 : Nat := 0
noncomputable def law_holds.tw3438298445031660282 : Nat := 0
noncomputable def law_holds.tw3572487005457819259 : Nat := 0
noncomputable def law_holds.tw3595789414353437717 : Nat := 0
noncomputable def law_holds.tw3672438013989251361 : Nat := 0
noncomputable def law_holds.tw3756957479349018193 : Nat := 0
noncomputable def law_holds.tw3776956092104397036 : Nat := 0
noncomputable def law_holds.tw3808703085821546077 : Nat := 0
noncomputable def law_holds.tw3850375180904979519 : Nat := 0
noncomputable def law_holds.tw3882201998751590657 : Nat := 0
noncomputable def law_holds.tw3896150654470677357 : Nat := 0
noncomputable def law_holds.tw3910120701321347557 : Nat := 0
noncomputable def law_holds.tw3912811242725288453 : Nat := 0
noncomputable def law_holds.tw3927331946688356228 : Nat := 0
noncomputable def law_holds.tw3959601488294255719 : Nat := 0
noncomputable def law_holds.tw4008084134468147086 : Nat := 0
noncomputable def law_holds.tw4030767218360268280 : Nat := 0
noncomputable def law_holds.tw4037582482628031876 : Nat := 0
noncomputable def law_holds.tw4146061822495498468 : Nat := 0
noncomputable def law_holds.tw41732636909640268 : Nat := 0
noncomputable def law_holds.tw4273555757443719353 : Nat := 0
noncomputable def law_holds.tw4329158554759489670 : Nat := 0
noncomputable def law_holds.tw4357038001201740452 : Nat := 0
noncomputable def law_holds.tw4439653461905209652 : Nat := 0
noncomputable def law_holds.tw4441770287765753910 : Nat := 0
noncomputable def law_holds.tw4464252984393422682 : Nat := 0
noncomputable def law_holds.tw447027507633508388 : Nat := 0
noncomputable def law_holds.tw4503035019201841076 : Nat := 0
noncomputable def law_holds.tw4581845663705801772 : Nat := 0
noncomputable def law_holds.tw4614512636035447770 : Nat := 0
noncomputable def law_holds.tw498061464947678834 : Nat := 0
noncomputable def law_holds.tw4992725456586698614 : Nat := 0
noncomputable def law_holds.tw5021668482723930421 : Nat := 0
noncomputable def law_holds.tw5037970770195530229 : Nat := 0
noncomputable def law_holds.tw5062152199769849712 : Nat := 0
noncomputable def law_holds.tw5112083995522966620 : Nat := 0
noncomputable def law_holds.tw5117662029339320154 : Nat := 0
noncomputable def law_holds.tw519298541982818421 : Nat := 0
noncomputable def law_holds.tw5212653520564569363 : Nat := 0
noncomputable def law_holds.tw5274592661964301406 : Nat := 0
noncomputable def law_holds.tw5364902710198789758 : Nat := 0
noncomputable def law_holds.tw5389484754426515990 : Nat := 0
noncomputable def law_holds.tw5451054884063135654 : Nat := 0
noncomputable def law_holds.tw545109181885906688 : Nat := 0
noncomputable def law_holds.tw548770620660146353 : Nat := 0
noncomputable def law_holds.tw5506821171919863439 : Nat := 0
noncomputable def law_holds.tw5640673133297012132 : Nat := 0
noncomputable def law_holds.tw575232530192455986 : Nat := 0
noncomputable def law_holds.tw576407869801174206 : Nat := 0
noncomputable def law_holds.tw5858263632927829637 : Nat := 0
noncomputable def law_holds.tw5898729028444588960 : Nat := 0
noncomputable def law_holds.tw5907203647135998699 : Nat := 0
noncomputable def law_holds.tw5950301352895977177 : Nat := 0
noncomputable def law_holds.tw5981114437932730796 : Nat := 0
noncomputable def law_holds.tw59864651932915081 : Nat := 0
noncomputable def law_holds.tw6041440012092600215 : Nat := 0
noncomputable def law_holds.tw6189876280036216102 : Nat := 0
noncomputable def law_holds.tw6265907326580845545 : Nat := 0
noncomputable def law_holds.tw6317479115527610633 : Nat := 0
noncomputable def law_holds.tw653560878884961445 : Nat := 0
noncomputable def law_holds.tw660297872995803996 : Nat := 0
noncomputable def law_holds.tw6667284449218939238 : Nat := 0
noncomputable def law_holds.tw6677821561840896501 : Nat := 0
noncomputable def law_holds.tw6727219029552735585 : Nat := 0
noncomputable def law_holds.tw676263390381983339 : Nat := 0
noncomputable def law_holds.tw6847655697494810383 : Nat := 0
noncomputable def law_holds.tw6860709855171689206 : Nat := 0
noncomputable def law_holds.tw6861490101519172755 : Nat := 0
noncomputable def law_holds.tw6869992995446874880 : Nat := 0
noncomputable def law_holds.tw6934448944433832347 : Nat := 0
noncomputable def law_holds.tw7019463264422422977 : Nat := 0
noncomputable def law_holds.tw7089819591129360890 : Nat := 0
noncomputable def law_holds.tw7185456241796803578 : Nat := 0
noncomputable def law_holds.tw7221428835167493151 : Nat := 0
noncomputable def law_holds.tw7304591109411159013 : Nat := 0
noncomputable def law_holds.tw7356724547972884604 : Nat := 0
noncomputable def law_holds.tw7404543985812422374 : Nat := 0
noncomputable def law_holds.tw7407239408455114201 : Nat := 0
noncomputable def law_holds.tw7408472829698581751 : Nat := 0
noncomputable def law_holds.tw7425569058691365973 : Nat := 0
noncomputable def law_holds.tw7472407996622490835 : Nat := 0
noncomputable def law_holds.tw7480714314260584917 : Nat := 0
noncomputable def law_holds.tw7484302960587174374 : Nat := 0
noncomputable def law_holds.tw7544913113114293122 : Nat := 0
noncomputable def law_holds.tw7566432030715092817 : Nat := 0
noncomputable def law_holds.tw7636989558263936852 : Nat := 0
noncomputable def law_holds.tw7688039647075132325 : Nat := 0
noncomputable def law_holds.tw7696488724909661519 : Nat := 0
noncomputable def law_holds.tw7820799176418779761 : Nat := 0
noncomputable def law_holds.tw7910590604623066228 : Nat := 0
noncomputable def law_holds.tw8061732933902216757 : Nat := 0
noncomputable def law_holds.tw8176227357466254829 : Nat := 0
noncomputable def law_holds.tw8249079356659094474 : Nat := 0
noncomputable def law_holds.tw8266603773606604290 : Nat := 0
noncomputable def law_holds.tw8285764192309689115 : Nat := 0
noncomputable def law_holds.tw8312341600987523519 : Nat := 0
noncomputable def law_holds.tw8330938851228082562 : Nat := 0
noncomputable def law_holds.tw8417186165934385351 : Nat := 0
noncomputable def law_holds.tw8472228645029834797 : Nat := 0
noncomputable def law_holds.tw8481075993509181622 : Nat := 0
noncomputable def law_holds.tw850272041215511910 : Nat := 0
noncomputable def law_holds.tw8530967038982709973 : Nat := 0
noncomputable def law_holds.tw8549365171731915398 : Nat := 0
noncomputable def law_holds.tw8570087061310353148 : Nat := 0
noncomputable def law_holds.tw8634839017697508684 : Nat := 0
noncomputable def law_holds.tw8666519363043736892 : Nat := 0
noncomputable def law_holds.tw8715444014776630742 : Nat := 0
noncomputable def law_holds.tw8720880381367431298 : Nat := 0
noncomputable def law_holds.tw8763168800255643514 : Nat := 0
noncomputable def law_holds.tw8785698371604719795 : Nat := 0
noncomputable def law_holds.tw8806649888931605024 : Nat := 0
noncomputable def law_holds.tw881140697980615281 : Nat := 0
noncomputable def law_holds.tw8854015012368427407 : Nat := 0
noncomputable def law_holds.tw8857742495270377987 : Nat := 0
noncomputable def law_holds.tw8957123355933967898 : Nat := 0
noncomputable def law_holds.tw8984152853971343422 : Nat := 0
noncomputable def law_holds.tw8984712037535005518 : Nat := 0
noncomputable def law_holds.tw9187647767651647856 : Nat := 0
noncomputable def law_holds.tw9207643191828677137 : Nat := 0
noncomputable def law_holds.tw9255152265573255198 : Nat := 0
noncomputable def law_holds.tw9403268196540146800 : Nat := 0
noncomputable def law_holds.tw9423440377400516374 : Nat := 0
noncomputable def law_holds.tw9529696498207198238 : Nat := 0
noncomputable def law_holds.tw9606376775287448836 : Nat := 0
noncomputable def law_holds.tw9634471323475708679 : Nat := 0
noncomputable def law_holds.tw9758593294864014727 : Nat := 0
noncomputable def law_holds.tw9779807473162285230 : Nat := 0
noncomputable def law_holds.tw9875236377963488844 : Nat := 0
noncomputable def law_holds.tw9889521400790421688 : Nat := 0
noncomputable def law_holds.tw9992725586745946429 : Nat := 0
set_option Elab.async true in
theorem law_holds : PySem.Challenge.rw_pb0272_01.Holds := by
  w_on; o_law; k_head; (case hw => w_witness2)
  k_go0
  rename_i X' T' K' F' cH1 N' l0
  have s1 := ghost_seer hT9 (PyProof.Rows.Top.seer (by assumption) (by decide +kernel))
  have t1 : PySem.Challenge.rw_pb0272_01.row.prog.given.tree = none := rfl
  obtain ⟨mm, nm, m1⟩ := s1.mods
  obtain ⟨om, _, _, hom, _⟩ := id nm
  let C : Cx := { prog := PySem.Challenge.rw_pb0272_01.row.prog, w := ‹World›, K := KK (‹World›).params, h₀ := _, mg := _, mb := _, p := _, loose := _, mean := _, kin := kin_of X' (by kernel_rfl), top := T', sys := ⟨om, hom⟩, tree := t1, seer := s1 }
  have hK : C.K = KK C.w.params := rfl
  refine top_law (C := C) hK F' N' rfl (by assumption) (by assumption) (by assumption) (by assumption) (by assumption) (by assumption) (by assumption) l0 cH1 codeHd (room_top ⟨rfl, rfl, rfl, rfl⟩) fun h' tk' hb g5 g1 => ?_
  refine ⟨⟨.inl ⟨.bool true, .bool true, [], rfl, ?_, .bool true, ?_, unshared_nil⟩, hb, rfl, by assumption⟩, g5, g1, trivial⟩
  · refine raisesW_false ?_
    wrow_none_raised
  · wrow_post
end
end Mine
theorem PySem.Challenge.cw_pb0272_01_holds : PySem.Challenge.rw_pb0272_01.Holds := by
  exact Mine.law_holds
