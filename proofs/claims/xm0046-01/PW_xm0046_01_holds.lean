import PyProof.Rows.All
import Wide.All
import OpenK.AllK
import Wide.FinOn
import KE.KLam
import KE.KTurns
import KE.KRevIter
import PyProof.StrWalks
import KE.KRevSl
import PyProof.NoPylong
import PyProof.IsiHeapPairs
import PyProof.AttrMissHeap
import KE.KDictOf
import PySem.Challenge.RW_xm0046_01
set_option Elab.async false
section
open PySem PySem.W PySem.Calls PyProof.Rows
namespace Mine
inductive V where
  | none | bool (b : Bool) | int (i : Int) | str (x : Str) | tup (l : List V) | lst (l : List V) | loc (n : Nat) | raw (v : Value)
inductive SO where
  | list (l : List V)
  | fz (xs : List Value) (n : Nat) (l : List V)
  | dictS (es : List (Str × V))
  | dictI (es : List (Int × V))
  | attrs (es : List (Str × V))
  | inst (C : Addr) (d : Nat)
  | fn (P : FuncData → Prop)
  | tab (P : Addr) (ps : Array Value)
  | meth (f : Addr) (n : Nat)
  | rng (n : Nat)
abbrev methObj (f y : Addr) : Obj := { cls := .type "method", dict := none, data := .fields #[.ref f, .ref y], slots := #[] }
abbrev rngObj (a b c : Int) (t u v : Tok) : Obj := { cls := .type "range", dict := none, data := .fields #[.int a t, .int b u, .int c v], slots := #[] }
abbrev St := List SO
def IsT (h : Heap) (a : Addr) (items : Array Value) : Prop := ∃ n, h.get? a = some { cls := .type "tuple", dict := none, data := .seq items n, slots := #[] }
theorem IsT.isTup {h : Heap} {a : Addr} {items : Array Value} (x : IsT h a items) : IsTup h a items := let ⟨n, e⟩ := x; ⟨_, e, rfl, n, rfl⟩
mutual
inductive RepV (h : Heap) (θ : List Addr) : V → Value → Prop
  | none : RepV h θ .none .none
  | bool (b : Bool) : RepV h θ (.bool b) (.bool b)
  | int (i : Int) (t : Tok) : RepV h θ (.int i) (.int i t)
  | str (x : Str) (t : Tok) : RepV h θ (.str x) (.str x t)
  | raw (v : Value) : RepV h θ (.raw v) v
  | loc (n : Nat) (a : Addr) : θ[n]? = some a → RepV h θ (.loc n) (.ref a)
  | tup (l : List V) (a : Addr) (xs : List Value) : IsT h a xs.toArray → RepVs h θ l xs → RepV h θ (.tup l) (.ref a)
  | lst (l : List V) (a : Addr) (xs : List Value) (n : Nat) : a ∉ θ → IsL h a xs.toArray n → RepVs h θ l xs → RepV h θ (.lst l) (.ref a)
inductive RepVs (h : Heap) (θ : List Addr) : List V → List Value → Prop
  | nil : RepVs h θ [] []
  | cons {v : V} {x : Value} {l : List V} {xs : List Value} : RepV h θ v x → RepVs h θ l xs → RepVs h θ (v :: l) (x :: xs)
end
inductive RepKs {K : Type} (h : Heap) (θ : List Addr) : List (K × V) → List (K × Value) → Prop
  | nil : RepKs h θ [] []
  | cons {k : K} {v : V} {x : Value} {l : List (K × V)} {xs : List (K × Value)} : RepV h θ v x → RepKs h θ l xs → RepKs h θ ((k, v) :: l) ((k, x) :: xs)
def get {α : Type} : List (Str × α) → Str → Option α
  | [], _ => none
  | (y, v) :: r, x => if y = x then some v else get r x
def put {α : Type} : List (Str × α) → Str → α → List (Str × α)
  | [], x, v => [(x, v)]
  | (y, u) :: r, x, v => if y = x then (x, v) :: r else (y, u) :: put r x v
theorem get_put {α : Type} (l : List (Str × α)) (x : Str) (v : α) (y : Str) : get (put l x v) y = if x = y then some v else get l y := by
  induction l with
  | nil => rfl
  | cons p r ih =>
    obtain ⟨z, u⟩ := p
    unfold put
    by_cases h : z = x
    · subst h; rw [if_pos rfl]; unfold get; split <;> rfl
    · rw [if_neg h]; unfold get; rw [ih]
      by_cases hz : z = y
      · subst hz; rw [if_pos rfl, if_pos rfl, if_neg (fun e => h e.symm)]
      · rw [if_neg hz, if_neg hz]
inductive RepAs (h : Heap) (θ : List Addr) : List (Str × V) → List DictEntry → Prop
  | nil : RepAs h θ [] []
  | cons {x : Str} {t : Tok} {v : V} {e : DictEntry} {l : List (Str × V)} {es : List DictEntry} : e.key = .str x t → RepV h θ v e.val → RepAs h θ l es → RepAs h θ ((x, v) :: l) (e :: es)
section
variable (prog : Program) (w : World)
def RepO (h : Heap) (θ : List Addr) (a : Addr) : SO → Prop
  | .list l => ∃ (xs : List Value) (n : Nat), IsL h a xs.toArray n ∧ RepVs h θ l xs
  | .fz xs n l => IsL h a xs.toArray n ∧ RepVs h θ l xs
  | .dictS es => ∃ kvs, h.DictOf (strKind prog w) a kvs ∧ RepKs h θ es kvs
  | .dictI es => ∃ kvs, h.DictOf (intKind prog w) a kvs ∧ RepKs h θ es kvs
  | .attrs l => ∃ (es : List DictEntry) (n : Nat), h.get? a = some (dictOf es n) ∧ RepAs h θ l es
  | .inst C d => ∃ dx, θ[d]? = some dx ∧ h.get? a = some (instObj C dx)
  | .meth f n => ∃ y, θ[n]? = some y ∧ h.get? a = some (methObj f y)
  | .rng n => ∃ t u v, h.get? a = some (rngObj 0 (n : Int) 1 t u v)
  | .tab P ps => a = P ∧ h.get? a = some (tabObj ps) ∧ ∀ x t, ps[1]? ≠ some (.str x t)
  | .fn P => ∃ fd, P fd ∧ h.get? a = some { cls := .type "function", data := .func fd } ∧ h.CodeRec fd.code fd.qualname
structure RepS (h : Heap) (θ : List Addr) (σ : St) : Prop where
  len : θ.length = σ.length
  obj : ∀ (i : Nat) (o : SO) (a : Addr), σ[i]? = some o → θ[i]? = some a → RepO prog w h θ a o
end
def TupOut (h : Heap) (θ : List Addr) : Prop := ∀ a ∈ θ, ∀ items, ¬ IsT h a items
structure Grow (h : Heap) (θ : List Addr) (h' : Heap) (θ' : List Addr) : Prop where
  pre : ∃ t, θ' = θ ++ t
  fresh : ∀ a ∈ θ', a ∉ θ → h.get? a = none
  kept : ∀ b o, h.get? b = some o → b ∉ θ → h'.get? b = some o
theorem Grow.refl (h : Heap) (θ : List Addr) : Grow h θ h θ := ⟨⟨[], (List.append_nil _).symm⟩, fun _ m n => (n m).elim, fun _ _ e _ => e⟩
theorem Grow.mem {h h' : Heap} {θ θ' : List Addr} (g : Grow h θ h' θ') {a : Addr} (m : a ∈ θ) : a ∈ θ' := by
  obtain ⟨t, rfl⟩ := g.pre; exact List.mem_append.mpr (.inl m)
theorem Grow.notMem {h h' : Heap} {θ θ' : List Addr} (g : Grow h θ h' θ') {b : Addr} {o : Obj} (e : h.get? b = some o) (n : b ∉ θ) : b ∉ θ' := fun m => by
  have := g.fresh b m n; rw [e] at this; cases this
theorem Grow.trans {h₁ h₂ h₃ : Heap} {θ₁ θ₂ θ₃ : List Addr} (a : Grow h₁ θ₁ h₂ θ₂) (b : Grow h₂ θ₂ h₃ θ₃) : Grow h₁ θ₁ h₃ θ₃ := by
  refine ⟨?_, fun x m n => ?_, fun x o e n => b.kept x o (a.kept x o e n) (a.notMem e n)⟩
  · obtain ⟨t, rfl⟩ := a.pre
    obtain ⟨u, rfl⟩ := b.pre
    exact ⟨t ++ u, List.append_assoc ..⟩
  · by_cases h2 : x ∈ θ₂
    · exact a.fresh x h2 n
    · cases e : h₁.get? x with
      | none => rfl
      | some o =>
        have := b.fresh x m h2
        rw [a.kept x o e n] at this; cases this
theorem Grow.at {h h' : Heap} {θ θ' : List Addr} (g : Grow h θ h' θ') {n : Nat} {a : Addr} (e : θ[n]? = some a) : θ'[n]? = some a := by
  obtain ⟨t, rfl⟩ := g.pre
  rw [List.getElem?_append_left (List.getElem?_eq_some_iff.mp e).1]; exact e
mutual
theorem RepV.grow {h h' : Heap} {θ θ' : List Addr} (T : TupOut h θ) (g : Grow h θ h' θ') : ∀ {v : V} {x : Value}, RepV h θ v x → RepV h' θ' v x
  | _, _, .none => .none
  | _, _, .bool b => .bool b
  | _, _, .int i t => .int i t
  | _, _, .str x t => .str x t
  | _, _, .raw v => .raw v
  | _, _, .loc n a e => .loc n a (g.at e)
  | _, _, .tup l a xs ht hs => .tup l a xs (let ⟨n, ho⟩ := ht; ⟨n, g.kept a _ ho (fun m => T a m _ ht)⟩) (RepVs.grow T g hs)
  | _, _, .lst l a xs n nm hl hs => .lst l a xs n (g.notMem hl nm) (g.kept a _ hl nm) (RepVs.grow T g hs)
theorem RepVs.grow {h h' : Heap} {θ θ' : List Addr} (T : TupOut h θ) (g : Grow h θ h' θ') : ∀ {l : List V} {xs : List Value}, RepVs h θ l xs → RepVs h' θ' l xs
  | _, _, .nil => .nil
  | _, _, .cons a b => .cons (RepV.grow T g a) (RepVs.grow T g b)
end
theorem RepKs.grow {K : Type} {h h' : Heap} {θ θ' : List Addr} (T : TupOut h θ) (g : Grow h θ h' θ') {l : List (K × V)} {xs : List (K × Value)} (r : RepKs h θ l xs) : RepKs h' θ' l xs := by
  induction r with
  | nil => exact .nil
  | cons a _ ih => exact .cons (a.grow T g) ih
theorem RepAs.grow {h h' : Heap} {θ θ' : List Addr} (T : TupOut h θ) (g : Grow h θ h' θ') {l : List (Str × V)} {xs : List DictEntry} (r : RepAs h θ l xs) : RepAs h' θ' l xs := by
  induction r with
  | nil => exact .nil
  | cons e a _ ih => exact .cons e (a.grow T g) ih
theorem RepAs.length {h : Heap} {θ : List Addr} {l : List (Str × V)} {xs : List DictEntry} (r : RepAs h θ l xs) : l.length = xs.length := by
  induction r with
  | nil => rfl
  | cons _ _ _ ih => exact congrArg Nat.succ ih
theorem RepAs.refKey {h : Heap} {θ : List Addr} {l : List (Str × V)} {xs : List DictEntry} (r : RepAs h θ l xs) : xs.any (·.refKey) = false := by
  induction r with
  | nil => rfl
  | cons e a _ ih => rw [List.any_cons, ih]; unfold DictEntry.refKey; rw [e]; rfl
theorem isStr_eq (x y : Str) (t : Tok) : (Value.str x t).isStr y = decide (x = y) := by
  show (x == y) = _
  by_cases h : x = y
  · subst h; simp
  · simp [h]
theorem RepAs.find {h : Heap} {θ : List Addr} {l : List (Str × V)} {xs : List DictEntry} (r : RepAs h θ l xs) (x : Str) :
    match get l x with | some v => ∃ v', getL x xs = some (some v') ∧ RepV h θ v v' | none => getL x xs = some none := by
  have key : match get l x with | some v => ∃ e, xs.find? (·.key.isStr x) = some e ∧ RepV h θ v e.val | none => xs.find? (·.key.isStr x) = none := by
    induction r with
    | nil => rfl
    | @cons y t v e l es hk a _ ih =>
      unfold get
      rw [List.find?_cons, hk, isStr_eq]
      by_cases hy : y = x
      · rw [if_pos hy, decide_eq_true hy]; exact ⟨e, rfl, a⟩
      · rw [if_neg hy, decide_eq_false hy]; exact ih
  unfold getL
  split at key
  · obtain ⟨e, h1, h2⟩ := key; rw [h1]; exact ⟨_, rfl, h2⟩
  · rw [key, r.refKey]; rfl
theorem RepAs.put {h : Heap} {θ : List Addr} {l : List (Str × V)} {xs : List DictEntry} (r : RepAs h θ l xs) {x : Str} {t : Tok} {hsh : Int} {v : V} {v' : Value} (rv : RepV h θ v v') :
    RepAs h θ (put l x v) (putL x hsh (.str x t) v' xs) := by
  induction r with
  | nil => exact .cons rfl rv .nil
  | @cons y t' u e l es hk a b ih =>
    unfold Mine.put putL
    rw [hk, isStr_eq]
    by_cases hy : y = x
    · subst hy; rw [if_pos rfl, decide_eq_true rfl, if_pos rfl]; exact .cons rfl rv b
    · rw [if_neg hy, decide_eq_false hy, if_neg Bool.false_ne_true]; exact .cons hk a ih
theorem RepVs.length {h : Heap} {θ : List Addr} : ∀ {l : List V} {xs : List Value}, RepVs h θ l xs → l.length = xs.length
  | _, _, .nil => rfl
  | _, _, .cons _ b => congrArg Nat.succ b.length
theorem RepVs.at {h : Heap} {θ : List Addr} : ∀ {l : List V} {xs : List Value}, RepVs h θ l xs → ∀ {i : Nat} {v : V}, l[i]? = some v → ∃ x, xs[i]? = some x ∧ RepV h θ v x
  | _, _, .cons a _, 0, _, e => by cases e; exact ⟨_, rfl, a⟩
  | _, _, .cons _ b, i + 1, v, e => b.at (i := i) (by simpa using e)
theorem RepVs.append {h : Heap} {θ : List Addr} : ∀ {l : List V} {xs : List Value}, RepVs h θ l xs → ∀ {l' : List V} {xs' : List Value}, RepVs h θ l' xs' → RepVs h θ (l ++ l') (xs ++ xs')
  | _, _, .nil, _, _, r => r
  | _, _, .cons a b, _, _, r => .cons a (b.append r)
theorem RepVs.take {h : Heap} {θ : List Addr} : ∀ {l : List V} {xs : List Value}, RepVs h θ l xs → ∀ n : Nat, RepVs h θ (l.take n) (xs.take n)
  | _, _, .nil, _ => by simpa using RepVs.nil
  | _, _, .cons _ _, 0 => .nil
  | _, _, .cons a b, n + 1 => .cons a (b.take n)
theorem RepVs.drop {h : Heap} {θ : List Addr} : ∀ {l : List V} {xs : List Value}, RepVs h θ l xs → ∀ n : Nat, RepVs h θ (l.drop n) (xs.drop n)
  | _, _, .nil, _ => by simpa using RepVs.nil
  | _, _, .cons a b, 0 => .cons a b
  | _, _, .cons _ b, n + 1 => b.drop n
theorem RepVs.reverse {h : Heap} {θ : List Addr} : ∀ {l : List V} {xs : List Value}, RepVs h θ l xs → RepVs h θ l.reverse xs.reverse
  | _, _, .nil => .nil
  | _, _, .cons a b => by rw [List.reverse_cons, List.reverse_cons]; exact b.reverse.append (.cons a .nil)
theorem RepVs.set {h : Heap} {θ : List Addr} : ∀ {l : List V} {xs : List Value}, RepVs h θ l xs → ∀ (i : Nat) {v : V} {x : Value}, RepV h θ v x → RepVs h θ (l.set i v) (xs.set i x)
  | _, _, .nil, _, _, _, _ => .nil
  | _, _, .cons _ b, 0, _, _, r => .cons r b
  | _, _, .cons a b, i + 1, _, _, r => .cons a (b.set i r)
section
variable {prog : Program} {w : World} {h h' : Heap} {θ θ' : List Addr} {σ : St}
theorem RepO.notTup {a : Addr} {o : SO} (r : RepO prog w h θ a o) (items : Array Value) : ¬ IsT h a items := by
  rintro ⟨n, e⟩
  cases o with
  | list l => obtain ⟨xs, n', e', _⟩ := r; have := Option.some.inj (e.symm.trans e'); injection this with h1; exact absurd h1 (by decide)
  | fz xs n l => obtain ⟨e', _⟩ := r; have := Option.some.inj (e.symm.trans e'); injection this with h1; exact absurd h1 (by decide)
  | dictS es => obtain ⟨xs, ⟨o', _, _, e', _, hd', _⟩, _⟩ := r; rw [e] at e'; cases e'; cases hd'
  | dictI es => obtain ⟨xs, ⟨o', _, _, e', _, hd', _⟩, _⟩ := r; rw [e] at e'; cases e'; cases hd'
  | attrs es => obtain ⟨xs, n', e', _⟩ := r; have := Option.some.inj (e.symm.trans e'); injection this with h1 h2 h3; cases h3
  | inst C d => obtain ⟨dx, _, e'⟩ := r; have := Option.some.inj (e.symm.trans e'); injection this with h1 h2 h3; cases h3
  | fn P => obtain ⟨fd, _, e', _⟩ := r; have := Option.some.inj (e.symm.trans e'); injection this with h1 h2 h3; cases h3
  | meth f n => obtain ⟨y, _, e'⟩ := r; have := Option.some.inj (e.symm.trans e'); injection this with h1 h2 h3; cases h3
  | rng n => obtain ⟨t, u, v, e'⟩ := r; have := Option.some.inj (e.symm.trans e'); injection this with h1 h2 h3; cases h3
  | tab P ps => obtain ⟨_, e', _⟩ := r; have := Option.some.inj (e.symm.trans e'); injection this with h1 h2 h3; cases h3
theorem RepS.tupOut (r : RepS prog w h θ σ) : TupOut h θ := fun a m items => by
  obtain ⟨i, hi, rfl⟩ := List.mem_iff_getElem.mp m
  have hi' : i < σ.length := r.len ▸ hi
  exact (r.obj i σ[i] θ[i] (List.getElem?_eq_getElem hi') (List.getElem?_eq_getElem hi)).notTup items
theorem RepS.exists (r : RepS prog w h θ σ) {a : Addr} (m : a ∈ θ) : ∃ o, h.get? a = some o := by
  obtain ⟨i, hi, rfl⟩ := List.mem_iff_getElem.mp m
  have hi' : i < σ.length := r.len ▸ hi
  have q := r.obj i σ[i] θ[i] (List.getElem?_eq_getElem hi') (List.getElem?_eq_getElem hi)
  revert q
  cases σ[i] with
  | list l => rintro ⟨xs, n, e', _⟩; exact ⟨_, e'⟩
  | fz xs n l => rintro ⟨e', _⟩; exact ⟨_, e'⟩
  | dictS es => rintro ⟨xs, ⟨o', _, _, e', _⟩, _⟩; exact ⟨_, e'⟩
  | dictI es => rintro ⟨xs, ⟨o', _, _, e', _⟩, _⟩; exact ⟨_, e'⟩
  | attrs es => rintro ⟨xs, n, e', _⟩; exact ⟨_, e'⟩
  | inst C d => rintro ⟨dx, _, e'⟩; exact ⟨_, e'⟩
  | fn P => rintro ⟨fd, _, e', _⟩; exact ⟨_, e'⟩
  | meth f n => rintro ⟨y, _, e'⟩; exact ⟨_, e'⟩
  | rng n => rintro ⟨t, u, v, e'⟩; exact ⟨_, e'⟩
  | tab P ps => rintro ⟨_, e', _⟩; exact ⟨_, e'⟩
theorem RepO.moved {a : Addr} {o : SO} (T : TupOut h θ) (g : Grow h θ h' θ') (same : ∀ ob, h.get? a = some ob → h'.get? a = some ob)
    (code : ∀ b ob, h.get? b = some ob → b ∉ θ → h'.get? b = some ob) (out : ∀ a' ∈ θ, ∀ vs ob, h.get? a' = some ob → ob.data = .fields vs → ∀ x t, vs[1]? ≠ some (.str x t)) (r : RepO prog w h θ a o) : RepO prog w h' θ' a o := by
  cases o with
  | list l => obtain ⟨xs, n, e', q⟩ := r; exact ⟨xs, n, same _ e', q.grow T g⟩
  | fz xs n l => obtain ⟨e', q⟩ := r; exact ⟨same _ e', q.grow T g⟩
  | dictS es => obtain ⟨xs, ⟨o', x, y, e', z⟩, q⟩ := r; exact ⟨xs, ⟨o', x, y, same _ e', z⟩, q.grow T g⟩
  | dictI es => obtain ⟨xs, ⟨o', x, y, e', z⟩, q⟩ := r; exact ⟨xs, ⟨o', x, y, same _ e', z⟩, q.grow T g⟩
  | attrs es => obtain ⟨xs, n, e', q⟩ := r; exact ⟨xs, n, same _ e', q.grow T g⟩
  | inst C d => obtain ⟨dx, q, e'⟩ := r; exact ⟨dx, g.at q, same _ e'⟩
  | meth f n => obtain ⟨y, q, e'⟩ := r; exact ⟨y, g.at q, same _ e'⟩
  | rng n => obtain ⟨t, u, v, e'⟩ := r; exact ⟨t, u, v, same _ e'⟩
  | tab P ps => obtain ⟨q, e', z⟩ := r; exact ⟨q, same _ e', z⟩
  | fn P =>
    obtain ⟨fd, p, e', ⟨c, oc, vs, t, e1, e2, e3, e4⟩⟩ := r
    exact ⟨fd, p, same _ e', ⟨c, oc, vs, t, e1, code _ _ e2 (fun m => out c m _ _ e2 e3 _ _ e4), e3, e4⟩⟩
theorem RepS.noFields (r : RepS prog w h θ σ) : ∀ a' ∈ θ, ∀ vs ob, h.get? a' = some ob → ob.data = .fields vs → ∀ x t, vs[1]? ≠ some (.str x t) := fun a m vs ob e hd x t => by
  obtain ⟨i, hi, rfl⟩ := List.mem_iff_getElem.mp m
  have hi' : i < σ.length := r.len ▸ hi
  have q := r.obj i σ[i] θ[i] (List.getElem?_eq_getElem hi') (List.getElem?_eq_getElem hi)
  revert q
  cases σ[i] with
  | list l => rintro ⟨xs, n, e', _⟩; have := Option.some.inj (e.symm.trans e'); subst this; cases hd
  | fz xs n l => rintro ⟨e', _⟩; have := Option.some.inj (e.symm.trans e'); subst this; cases hd
  | dictS es => rintro ⟨xs, ⟨o', _, _, e', _, hd', _⟩, _⟩; rw [e] at e'; cases e'; rw [hd] at hd'; cases hd'
  | dictI es => rintro ⟨xs, ⟨o', _, _, e', _, hd', _⟩, _⟩; rw [e] at e'; cases e'; rw [hd] at hd'; cases hd'
  | attrs es => rintro ⟨xs, n, e', _⟩; have := Option.some.inj (e.symm.trans e'); subst this; cases hd
  | inst C d => rintro ⟨dx, _, e'⟩; rw [e] at e'; cases e'; cases hd
  | fn P => rintro ⟨fd, _, e', _⟩; rw [e] at e'; cases e'; cases hd
  | meth f n => rintro ⟨y, _, e'⟩; rw [e] at e'; cases e'; cases hd; simp
  | rng n => rintro ⟨t, u, v, e'⟩; rw [e] at e'; cases e'; cases hd; simp
  | tab P ps => rintro ⟨_, e', z⟩; rw [e] at e'; cases e'; cases hd; exact z x t
end
end Mine
end
section
open PySem PySem.W PySem.Calls PyProof.Rows
namespace Mine
structure Cx where
  prog : Program
  w : World
  hb : Heap
  K : Frag
  gl : List (Str × V)
  gens : Array GenState
  os : OsState
  low : ∃ o, hb.get? 2 = some o
structure CxOk (c : Cx) : Prop where
  K : c.K.In c.hb
  nolimit : c.hb.NoLimit
  names : ∃ mg mb, c.hb.Ns mainGlobals mg ∧ c.hb.Ns builtinsNs mb ∧
    ∀ x v, get c.gl x = some v → ∃ v', RepV c.hb [] v v' ∧ (mg x = some v' ∨ (mg x = none ∧ mb x = some v'))
  bmain : ∃ mg bm o, c.hb.Ns mainGlobals mg ∧ mg "__builtins__" = some (.ref bm) ∧ bm ≠ builtinsNs ∧ bm ≠ mainGlobals ∧ c.hb.get? bm = some o ∧ o.cls = .type "module" ∧ o.dict = some builtinsNs ∧ o.data = .plain
structure Inv (c : Cx) (s : Shared) (θ : List Addr) (σ : St) : Prop where
  keep : ∀ b o, c.hb.get? b = some o → s.heap.get? b = some o
  apart : ∀ a ∈ θ, c.hb.get? a = none ∧ 2 < a
  nodup : θ.Nodup
  rep : RepS c.prog c.w s.heap θ σ
  gens : s.gens = c.gens
  os : s.os = c.os
structure Sc where
  scope : Scope
  code : Value
structure EnvIs (sc : Sc) (env : Env) : Prop where
  scope : env.scope = sc.scope
  globals : env.globals = mainGlobals
  builtins : env.builtins = builtinsNs
  code : env.code = sc.code
  kind : sc.scope.kind = .function
  cells : ∀ x, sc.scope.names.lookup x = some .cell → (env.cells.lookup x).isSome = true
structure FrA (c : Cx) (h : Heap) (θ : List Addr) (env : Env) (ρ : List (Str × V)) : Prop where
  at_ : ∃ (m cm : Str → Option Value), h.Ns env.locals m ∧ (∀ n k, env.cells.lookup n = some k → h.IsCell k (cm n)) ∧
    ∀ x v, get ρ x = some v → ∃ v', RepV h θ v v' ∧ ((env.kindOf x = some .local ∧ m x = some v') ∨ ((env.kindOf x = some .cell ∨ env.kindOf x = some .free) ∧ (env.cells.lookup x).isSome = true ∧ cm x = some v'))
  lo : env.locals ∉ θ
  lob : c.hb.get? env.locals = none
  cells : ∀ n k, env.cells.lookup n = some k → k ≠ env.locals ∧ k ∉ θ ∧ c.hb.get? k = none
  apart : ∀ n n' k, env.cells.lookup n = some k → env.cells.lookup n' = some k → n = n'
theorem FrA.grow {c : Cx} {h h' : Heap} {θ θ' : List Addr} {env : Env} {ρ : List (Str × V)} (F : FrA c h θ env ρ) (T : TupOut h θ) (g : Grow h θ h' θ') : FrA c h' θ' env ρ := by
  obtain ⟨⟨m, cm, hm, hc, hr⟩, lo, lob, cl, ap⟩ := F
  refine ⟨⟨m, cm, ?_, fun n k e => ?_, fun x v e => ?_⟩, ?_, lob, fun n k e => ?_, ap⟩
  · obtain ⟨o, es, ep, e, r⟩ := hm; exact ⟨o, es, ep, g.kept _ _ e lo, r⟩
  · obtain ⟨o, e', r⟩ := hc n k e; exact ⟨o, g.kept _ _ e' (cl n k e).2.1, r⟩
  · obtain ⟨v', a, b⟩ := hr x v e; exact ⟨v', a.grow T g, b⟩
  · obtain ⟨o, es, ep, e, _⟩ := hm; exact g.notMem e lo
  · obtain ⟨o, e', _⟩ := hc n k e; exact ⟨(cl n k e).1, g.notMem e' (cl n k e).2.1, (cl n k e).2.2⟩
structure Room (A : Around) (d : Nat) : Prop where
  depth : A.depth + 2 * d + 5 < recursionLimit
  units : A.units + 8 * d + 40 < cLine
  handled : A.handled = none
abbrev Post := V → St → Prop
inductive OkV (c : Cx) (s : Shared) (θ : List Addr) (Q : Post) (v' : Value) (s' : Shared) : Prop
  | mk (v : V) (σ' : St) (θ' : List Addr) : Inv c s' θ' σ' → Grow s.heap θ s'.heap θ' → RepV s'.heap θ' v v' → Q v σ' → OkV c s θ Q v' s'
abbrev NoE : Value → Shared → Prop := fun _ _ => False
def EV (c : Cx) (sc : Sc) (d : Nat) (e : Expr) (ρ : List (Str × V)) (σ : St) (Q : Post) : Prop :=
  ∀ A env s θ, Room A d → EnvIs sc env → Inv c s θ σ → FrA c s.heap θ env ρ → wpAny (model c.prog c.w) A (eval e env) (OkV c s θ Q) NoE s
inductive OkVs (c : Cx) (s : Shared) (θ : List Addr) (Q : List V → St → Prop) (v' : List Value) (s' : Shared) : Prop
  | mk (v : List V) (σ' : St) (θ' : List Addr) : Inv c s' θ' σ' → Grow s.heap θ s'.heap θ' → RepVs s'.heap θ' v v' → Q v σ' → OkVs c s θ Q v' s'
def EVs (c : Cx) (sc : Sc) (d : Nat) (es : List Expr) (ρ : List (Str × V)) (σ : St) (Q : List V → St → Prop) : Prop :=
  ∀ A env pos s θ, Room A d → EnvIs sc env → Inv c s θ σ → FrA c s.heap θ env ρ → wpAny (model c.prog c.w) A (spliced (backTo pos (starEach es env))) (OkVs c s θ Q) NoE s
inductive OkB (c : Cx) (s : Shared) (θ : List Addr) (Q : Bool → St → Prop) (b : Bool) (s' : Shared) : Prop
  | mk (σ' : St) (θ' : List Addr) : Inv c s' θ' σ' → Grow s.heap θ s'.heap θ' → Q b σ' → OkB c s θ Q b s'
def ET (c : Cx) (sc : Sc) (d : Nat) (e : Expr) (ρ : List (Str × V)) (σ : St) (Q : Bool → St → Prop) : Prop :=
  ∀ A env s θ, Room A d → EnvIs sc env → Inv c s θ σ → FrA c s.heap θ env ρ → wpAny (model c.prog c.w) A (isTrue e env (eval e env)) (OkB c s θ Q) NoE s
def CALL (c : Cx) (d : Nat) (f : V) (vs : List V) (σ : St) (Q : Post) : Prop :=
  ∀ A s θ f' vs', Room A d → Inv c s θ σ → RepV s.heap θ f f' → RepVs s.heap θ vs vs' → wpAny (model c.prog c.w) A (call f' vs' []) (OkV c s θ Q) NoE s
def BIN (c : Cx) (d : Nat) (op : Operator) (a b : V) (σ : St) (Q : Post) : Prop :=
  ∀ A s θ a' b', Room A d → Inv c s θ σ → RepV s.heap θ a a' → RepV s.heap θ b b' → wpAny (model c.prog c.w) A (binaryOp op a' b') (OkV c s θ Q) NoE s
def CMP (c : Cx) (d : Nat) (op : CmpOp) (a b : V) (σ : St) (Q : Post) : Prop :=
  ∀ A s θ a' b', Room A d → Inv c s θ σ → RepV s.heap θ a a' → RepV s.heap θ b b' → wpAny (model c.prog c.w) A (compareOp op a' b') (OkV c s θ Q) NoE s
def TRU (c : Cx) (d : Nat) (a : V) (σ : St) (Q : Bool → St → Prop) : Prop :=
  ∀ A s θ a', Room A d → Inv c s θ σ → RepV s.heap θ a a' → wpAny (model c.prog c.w) A (truthy a') (OkB c s θ Q) NoE s
section
variable {c : Cx} {sc : Sc} {d : Nat} {ρ : List (Str × V)} {σ : St} {Q : Post} {A : Around} {env : Env} {s s₁ : Shared} {θ θ₁ : List Addr}
theorem Inv.tupOut (I : Inv c s θ σ) : TupOut s.heap θ := I.rep.tupOut
theorem OkV.trans {v : Value} {s₂ : Shared} (g : Grow s.heap θ s₁.heap θ₁) (h : OkV c s₁ θ₁ Q v s₂) : OkV c s θ Q v s₂ := by
  obtain ⟨v, σ', θ', a, b, r, q⟩ := h; exact ⟨v, σ', θ', a, g.trans b, r, q⟩
theorem OkB.trans {Q : Bool → St → Prop} {v : Bool} {s₂ : Shared} (g : Grow s.heap θ s₁.heap θ₁) (h : OkB c s₁ θ₁ Q v s₂) : OkB c s θ Q v s₂ := by
  obtain ⟨σ', θ', a, b, q⟩ := h; exact ⟨σ', θ', a, g.trans b, q⟩
theorem wpV.trans {t : Sem Value} {M : Model} (g : Grow s.heap θ s₁.heap θ₁) (h : wpAny M A t (OkV c s₁ θ₁ Q) NoE s₁) : wpAny M A t (OkV c s θ Q) NoE s₁ :=
  wpAny_mono h (fun _ _ x => x.trans g) fun _ _ x => x
theorem wpB.trans {Q : Bool → St → Prop} {t : Sem Bool} {M : Model} (g : Grow s.heap θ s₁.heap θ₁) (h : wpAny M A t (OkB c s₁ θ₁ Q) NoE s₁) : wpAny M A t (OkB c s θ Q) NoE s₁ :=
  wpAny_mono h (fun _ _ x => x.trans g) fun _ _ x => x
theorem Inv.toks (I : Inv c s θ σ) (t : Nat) : Inv c { s with toks := t } θ σ := ⟨I.keep, I.apart, I.nodup, I.rep, I.gens, I.os⟩
theorem Inv.okV (I : Inv c s θ σ) {v : V} {v' : Value} (r : RepV s.heap θ v v') (q : Q v σ) : OkV c s θ Q v' s := ⟨v, σ, θ, I, Grow.refl _ _, r, q⟩
theorem Inv.okVt (I : Inv c s θ σ) {v : V} {v' : Value} {t : Nat} (r : RepV s.heap θ v v') (q : Q v σ) : OkV c s θ Q v' { s with toks := t } := ⟨v, σ, θ, I.toks t, Grow.refl _ _, r, q⟩
theorem Inv.okB {Q : Bool → St → Prop} (I : Inv c s θ σ) {b : Bool} (q : Q b σ) : OkB c s θ Q b s := ⟨σ, θ, I, Grow.refl _ _, q⟩
theorem RepS.grow (I : RepS c.prog c.w s.heap θ σ) {h' : Heap} (hk : ∀ b o, s.heap.get? b = some o → h'.get? b = some o) : RepS c.prog c.w h' θ σ := by
  refine ⟨I.len, fun i o a e1 e2 => ?_⟩
  have g : Grow s.heap θ h' θ := ⟨⟨[], (List.append_nil _).symm⟩, fun _ m n => (n m).elim, fun b o e _ => hk b o e⟩
  exact (I.obj i o a e1 e2).moved I.tupOut g (fun ob e => hk _ _ e) (fun b ob e _ => hk _ _ e) I.noFields
theorem Inv.keeps (I : Inv c s θ σ) {h' : Heap} {t : Nat} (hk : ∀ b o, s.heap.get? b = some o → h'.get? b = some o) : Inv c { s with heap := h', toks := t } θ σ :=
  ⟨fun b o e => hk _ _ (I.keep b o e), I.apart, I.nodup, RepS.grow I.rep hk, I.gens, I.os⟩
theorem grow_keeps {h h' : Heap} (hk : ∀ b o, h.get? b = some o → h'.get? b = some o) : Grow h θ h' θ := ⟨⟨[], (List.append_nil _).symm⟩, fun _ m n => (n m).elim, fun b o e _ => hk b o e⟩
theorem EnvIs.kindOf (X : EnvIs sc env) (x : Str) : env.kindOf x = sc.scope.names.lookup x := by unfold Env.kindOf; rw [X.scope]
theorem EnvIs.fn (X : EnvIs sc env) : env.scope.kind = .function := by rw [X.scope]; exact X.kind
theorem EV.mono {e : Expr} {Q' : Post} (h : EV c sc d e ρ σ Q) (hq : ∀ v σ', Q v σ' → Q' v σ') : EV c sc d e ρ σ Q' := fun A env s θ r X I F =>
  wpAny_mono (h A env s θ r X I F) (fun _ _ ⟨v, σ', θ', a, b, x, q⟩ => ⟨v, σ', θ', a, b, x, hq _ _ q⟩) fun _ _ x => x
theorem EV_int {i : Int} {k : Nat} {pos : Pos} (h : Q (.int i) σ) : EV c sc d (.Constant (.int i) k pos) ρ σ Q := fun _ _ _ _ _ _ I _ => wpAny_Constant_int (I.okVt (.int i _) h)
theorem EV_str {x : Str} {k : Nat} {pos : Pos} (h : Q (.str x) σ) : EV c sc d (.Constant (.str x) k pos) ρ σ Q := fun _ _ _ _ _ _ I _ => Constant_str (I.okVt (.str x _) h)
theorem EV_bool {b : Bool} {k : Nat} {pos : Pos} (h : Q (.bool b) σ) : EV c sc d (.Constant (.bool b) k pos) ρ σ Q := fun _ _ _ _ _ _ I _ => wpAny_Constant_bool (I.okV (.bool b) h)
theorem EV_none {k : Nat} {pos : Pos} (h : Q .none σ) : EV c sc d (.Constant .none k pos) ρ σ Q := fun _ _ _ _ _ _ I _ => wpAny_Constant_none (I.okV .none h)
theorem EV_name {x : Str} {pos : Pos} {v : V} (hv : get ρ x = some v) (h : Q v σ) (hd : (x == ("__debug__" : Str)) = false := by decide) (hn : (x == ("__classdict__" : Str)) = false := by decide) : EV c sc d (.Name x pos) ρ σ Q := fun A env s θ r X I F => by
  obtain ⟨m, cm, hm, hc, hr⟩ := F.at_
  obtain ⟨v', a, b⟩ := hr x v hv
  refine wpAny_Name ?_ hd
  rcases b with ⟨b1, b2⟩ | ⟨b1, b2, b3⟩
  · exact wpAny_loadName_local X.fn b1 hm b2 (I.okV a h)
  · obtain ⟨k, hk⟩ := Option.isSome_iff_exists.mp b2
    rcases b1 with b1 | b1
    · exact wpAny_loadName_cell X.fn b1 hk (b3 ▸ hc x k hk) (I.okV a h)
    · exact wpAny_loadName_free X.fn b1 hk (b3 ▸ hc x k hk) (I.okV a h) hn
theorem Inv.fromBase (I : Inv c s θ σ) : Grow c.hb [] s.heap θ := ⟨⟨θ, rfl⟩, fun a m _ => (I.apart a m).1, fun b o e _ => I.keep b o e⟩
theorem Inv.base (I : Inv c s θ σ) {v : V} {v' : Value} (r : RepV c.hb [] v v') : RepV s.heap θ v v' := r.grow (fun _ m => by cases m) I.fromBase
theorem EV_glob (C : CxOk c) {x : Str} {pos : Pos} {v : V} (hk : sc.scope.names.lookup x = some .globalImplicit) (hv : get c.gl x = some v) (h : Q v σ) (hd : (x == ("__debug__" : Str)) = false := by decide) : EV c sc d (.Name x pos) ρ σ Q := fun A env s θ r X I F => by
  obtain ⟨mg, mb, g, b, hn⟩ := C.names
  obtain ⟨v', a, q⟩ := hn x v hv
  refine Name_function_global X.fn (by rw [X.kindOf]; exact hk) ?_ hd
  have g' : s.heap.Ns env.globals mg := by rw [X.globals]; exact g.keeps I.keep
  have b' : s.heap.Ns env.builtins mb := by rw [X.builtins]; exact b.keeps I.keep
  rcases q with q | ⟨q1, q2⟩
  · exact loadGlobal_global g' q (I.okV (I.base a) h)
  · exact loadGlobal_builtin g' q1 b' q2 (I.okV (I.base a) h)
theorem EV_BinOp {l r : Expr} {op : Operator} {pos : Pos} (h : EV c sc d l ρ σ fun a σ₁ => EV c sc d r ρ σ₁ fun b σ₂ => BIN c d op a b σ₂ Q) : EV c sc d (.BinOp l op r pos) ρ σ Q := fun A env s θ R X I F => by
  refine wpAny_BinOp (wpAny_mono (h A env s θ R X I F) (fun a' s₁ h₁ => ?_) fun _ _ x => x)
  obtain ⟨a, σ₁, θ₁, I₁, g₁, ra, q₁⟩ := h₁
  refine wpAny_mono (q₁ A env s₁ θ₁ R X I₁ (F.grow I.tupOut g₁)) (fun b' s₂ h₂ => ?_) fun _ _ x => x
  obtain ⟨b, σ₂, θ₂, I₂, g₂, rb, q₂⟩ := h₂
  exact wpV.trans (g₁.trans g₂) (q₂ A s₂ θ₂ a' b' R I₂ (ra.grow I₁.tupOut g₂) rb)
theorem EV_Compare1 {l r : Expr} {op : CmpOp} {pos : Pos} (h : EV c sc d l ρ σ fun a σ₁ => EV c sc d r ρ σ₁ fun b σ₂ => CMP c d op a b σ₂ Q)
    (hm : behindInMarks op r = false := by with_unfolding_all rfl) : EV c sc d (.Compare l [op] [r] pos) ρ σ Q := fun A env s θ R X I F => by
  refine wpAny_Compare1 (wpAny_mono (h A env s θ R X I F) (fun a' s₁ h₁ => ?_) fun _ _ x => x) hm
  obtain ⟨a, σ₁, θ₁, I₁, g₁, ra, q₁⟩ := h₁
  refine wpAny_mono (q₁ A env s₁ θ₁ R X I₁ (F.grow I.tupOut g₁)) (fun b' s₂ h₂ => ?_) fun _ _ x => x
  obtain ⟨b, σ₂, θ₂, I₂, g₂, rb, q₂⟩ := h₂
  exact wpV.trans (g₁.trans g₂) (q₂ A s₂ θ₂ a' b' R I₂ (ra.grow I₁.tupOut g₂) rb)
theorem EVs_nil {Q : List V → St → Prop} (h : Q [] σ) : EVs c sc d [] ρ σ Q := fun _ _ _ _ _ _ _ I _ => spliced_nil ⟨[], σ, _, I, Grow.refl _ _, .nil, h⟩
theorem EVs_cons {e : Expr} {es : List Expr} {Q : List V → St → Prop} (h : EV c sc d e ρ σ fun v σ₁ => EVs c sc d es ρ σ₁ fun vs σ₂ => Q (v :: vs) σ₂)
    (hs : ∀ env, starEach (e :: es) env = (false, eval e env) :: starEach es env := by intro _; rfl) : EVs c sc d (e :: es) ρ σ Q := fun A env pos s θ R X I F => by
  rw [hs env]
  show wpAny _ _ (spliced ((false, eval e env) :: backTo pos (starEach es env))) _ _ _
  refine spliced_cons (wpAny_mono (h A env s θ R X I F) (fun a' s₁ h₁ => ?_) fun _ _ x => x)
  obtain ⟨a, σ₁, θ₁, I₁, g₁, ra, q₁⟩ := h₁
  refine wpAny_mono (q₁ A env pos s₁ θ₁ R X I₁ (F.grow I.tupOut g₁)) (fun b' s₂ h₂ => ?_) fun _ _ x => x
  obtain ⟨b, σ₂, θ₂, I₂, g₂, rb, q₂⟩ := h₂
  exact ⟨a :: b, σ₂, θ₂, I₂, g₁.trans g₂, .cons (ra.grow I₁.tupOut g₂) rb, q₂⟩
end
end Mine
end
section
open PySem PySem.W PySem.Calls PyProof.Rows
set_option linter.unusedVariables false
namespace Mine
def own (env : Env) (a : Addr) : Prop := a = env.locals ∨ ∃ n, env.cells.lookup n = some a
structure GrowX (X : Addr → Prop) (h : Heap) (θ : List Addr) (h' : Heap) (θ' : List Addr) : Prop where
  pre : ∃ t, θ' = θ ++ t
  fresh : ∀ a ∈ θ', a ∉ θ → h.get? a = none
  kept : ∀ b o, h.get? b = some o → b ∉ θ → ¬ X b → h'.get? b = some o
theorem Grow.x {X : Addr → Prop} {h h' : Heap} {θ θ' : List Addr} (g : Grow h θ h' θ') : GrowX X h θ h' θ' := ⟨g.pre, g.fresh, fun b o e n _ => g.kept b o e n⟩
theorem GrowX.refl (X : Addr → Prop) (h : Heap) (θ : List Addr) : GrowX X h θ h θ := (Grow.refl h θ).x
theorem GrowX.notMem {X : Addr → Prop} {h h' : Heap} {θ θ' : List Addr} (g : GrowX X h θ h' θ') {b : Addr} {o : Obj} (e : h.get? b = some o) (n : b ∉ θ) : b ∉ θ' := fun m => by
  have := g.fresh b m n; rw [e] at this; cases this
theorem GrowX.trans {X : Addr → Prop} {h₁ h₂ h₃ : Heap} {θ₁ θ₂ θ₃ : List Addr} (hX : ∀ x, X x → ∃ o, h₂.get? x = some o ∧ x ∉ θ₂) (a : GrowX X h₁ θ₁ h₂ θ₂) (b : GrowX X h₂ θ₂ h₃ θ₃) : GrowX X h₁ θ₁ h₃ θ₃ := by
  refine ⟨?_, fun x m n => ?_, fun x o e n k => b.kept x o (a.kept x o e n k) (a.notMem e n) k⟩
  · obtain ⟨t, rfl⟩ := a.pre
    obtain ⟨u, rfl⟩ := b.pre
    exact ⟨t ++ u, List.append_assoc ..⟩
  · by_cases h2 : x ∈ θ₂
    · exact a.fresh x h2 n
    · cases e : h₁.get? x with
      | none => rfl
      | some o =>
        have := b.fresh x m h2
        by_cases k : X x
        · obtain ⟨o', e', _⟩ := hX x k
          rw [e'] at this; cases this
        · rw [a.kept x o e n k] at this; cases this
theorem GrowX.out {X : Addr → Prop} {h₀ h h' : Heap} {θ θ' : List Addr} (g : GrowX X h θ h' θ') (k : ∀ b o, h₀.get? b = some o → h.get? b = some o ∧ ¬ X b) : Grow h₀ θ h' θ' := by
  refine ⟨g.pre, fun a m n => ?_, fun b o e n => g.kept b o (k b o e).1 n (k b o e).2⟩
  cases e : h₀.get? a with
  | none => rfl
  | some o => rw [← g.fresh a m n]; exact (k a o e).1 ▸ rfl
inductive Fl where
  | next | brk | cont | ret (v : V)
inductive RepF (h : Heap) (θ : List Addr) : Fl → Flow → Prop
  | next : RepF h θ .next .next
  | brk : RepF h θ .brk .brk
  | cont : RepF h θ .cont .cont
  | ret {v : V} {v' : Value} : RepV h θ v v' → RepF h θ (.ret v) (.ret v')
abbrev Vars := List (Str × V)
inductive OkS (c : Cx) (env : Env) (s : Shared) (θ : List Addr) (Q : Fl → Vars → St → Prop) (f' : Flow) (s' : Shared) : Prop
  | mk (f : Fl) (ρ' : Vars) (σ' : St) (θ' : List Addr) : Inv c s' θ' σ' → FrA c s'.heap θ' env ρ' → GrowX (own env) s.heap θ s'.heap θ' → RepF s'.heap θ' f f' → Q f ρ' σ' → OkS c env s θ Q f' s'
def EX (c : Cx) (sc : Sc) (d : Nat) (st : Stmt) (ρ : Vars) (σ : St) (Q : Fl → Vars → St → Prop) : Prop :=
  ∀ A env s θ, Room A d → EnvIs sc env → Inv c s θ σ → FrA c s.heap θ env ρ → wpAny (model c.prog c.w) A (exec st env) (OkS c env s θ Q) NoE s
def EXs (c : Cx) (sc : Sc) (d : Nat) (st : List Stmt) (ρ : Vars) (σ : St) (Q : Fl → Vars → St → Prop) : Prop :=
  ∀ A env s θ, Room A d → EnvIs sc env → Inv c s θ σ → FrA c s.heap θ env ρ → wpAny (model c.prog c.w) A (execs st env) (OkS c env s θ Q) NoE s
section
variable {c : Cx} {sc : Sc} {d : Nat} {ρ : Vars} {σ : St} {Q : Post} {R : Fl → Vars → St → Prop} {A : Around} {env : Env} {s s₁ : Shared} {θ θ₁ : List Addr}
theorem FrA.ownX {h : Heap} (F : FrA c h θ env ρ) : ∀ x, own env x → ∃ o, h.get? x = some o ∧ x ∉ θ := fun x m => by
  obtain ⟨m', cm, hm, hc, _⟩ := F.at_
  rcases m with rfl | ⟨n, e⟩
  · obtain ⟨o, _, _, e, _⟩ := hm; exact ⟨o, e, F.lo⟩
  · obtain ⟨o, e', _⟩ := hc n x e; exact ⟨o, e', (F.cells n x e).2.1⟩
theorem OkS.trans {f : Flow} {s₂ : Shared} (F : FrA c s₁.heap θ₁ env ρ) (g : GrowX (own env) s.heap θ s₁.heap θ₁) (h : OkS c env s₁ θ₁ R f s₂) : OkS c env s θ R f s₂ := by
  obtain ⟨f', ρ', σ', θ', a, b, e, r, q⟩ := h; exact ⟨f', ρ', σ', θ', a, b, GrowX.trans F.ownX g e, r, q⟩
theorem wpS.trans {t : Sem Flow} {M : Model} (F : FrA c s₁.heap θ₁ env ρ) (g : GrowX (own env) s.heap θ s₁.heap θ₁) (h : wpAny M A t (OkS c env s₁ θ₁ R) NoE s₁) : wpAny M A t (OkS c env s θ R) NoE s₁ :=
  wpAny_mono h (fun _ _ x => x.trans F g) fun _ _ x => x
theorem EX.mono {st : Stmt} {R' : Fl → Vars → St → Prop} (h : EX c sc d st ρ σ R) (hq : ∀ f ρ' σ', R f ρ' σ' → R' f ρ' σ') : EX c sc d st ρ σ R' := fun A env s θ r X I F =>
  wpAny_mono (h A env s θ r X I F) (fun _ _ ⟨v, ρ', σ', θ', a, b, x, y, q⟩ => ⟨v, ρ', σ', θ', a, b, x, y, hq _ _ _ q⟩) fun _ _ x => x
theorem EXs.mono {st : List Stmt} {R' : Fl → Vars → St → Prop} (h : EXs c sc d st ρ σ R) (hq : ∀ f ρ' σ', R f ρ' σ' → R' f ρ' σ') : EXs c sc d st ρ σ R' := fun A env s θ r X I F =>
  wpAny_mono (h A env s θ r X I F) (fun _ _ ⟨v, ρ', σ', θ', a, b, x, y, q⟩ => ⟨v, ρ', σ', θ', a, b, x, y, hq _ _ _ q⟩) fun _ _ x => x
theorem EXs_nil (h : R .next ρ σ) : EXs c sc d [] ρ σ R := fun _ _ _ _ _ _ I F => wpAny_execs_nil ⟨.next, ρ, σ, _, I, F, GrowX.refl .., .next, h⟩
def goOn (c : Cx) (sc : Sc) (d : Nat) (rest : List Stmt) (R : Fl → Vars → St → Prop) : Fl → Vars → St → Prop
  | .next, ρ, σ => EXs c sc d rest ρ σ R
  | f, ρ, σ => R f ρ σ
theorem EXs_cons {st : Stmt} {rest : List Stmt} (h : EX c sc d st ρ σ (goOn c sc d rest R)) : EXs c sc d (st :: rest) ρ σ R := fun A env s θ r X I F => by
  refine wpAny_execs_cons (wpAny_mono (h A env s θ r X I F) (fun f' s₁ h₁ => ?_) fun _ _ x => x)
  obtain ⟨f, ρ₁, σ₁, θ₁, I₁, F₁, g₁, r₁, q⟩ := h₁
  cases r₁ with
  | next => exact wpS.trans F₁ g₁ (q A env s₁ θ₁ r X I₁ F₁)
  | brk => exact ⟨_, ρ₁, σ₁, θ₁, I₁, F₁, g₁, .brk, q⟩
  | cont => exact ⟨_, ρ₁, σ₁, θ₁, I₁, F₁, g₁, .cont, q⟩
  | ret x => exact ⟨_, ρ₁, σ₁, θ₁, I₁, F₁, g₁, .ret x, q⟩
theorem EX_Return {e : Expr} {pos : Pos} (h : EV c sc d e ρ σ fun v σ₁ => R (.ret v) ρ σ₁) : EX c sc d (.Return (some e) pos) ρ σ R := fun A env s θ r X I F => by
  refine wpAny_Return_some (wpAny_mono (h A env s θ r X I F) (fun v' s₁ h₁ => ?_) fun _ _ x => x)
  obtain ⟨v, σ₁, θ₁, I₁, g₁, rv, q⟩ := h₁
  exact ⟨.ret v, ρ, σ₁, θ₁, I₁, F.grow I.tupOut g₁, g₁.x, .ret rv, q⟩
theorem EX_Return_none {pos : Pos} (h : R (.ret .none) ρ σ) : EX c sc d (.Return none pos) ρ σ R := fun A env s θ r X I F =>
  wpAny_Return_none ⟨.ret .none, ρ, σ, θ, I, F, GrowX.refl .., .ret .none, h⟩
theorem EX_If {test : Expr} {body orelse : List Stmt} {pos : Pos} (h : ET c sc d test ρ σ fun b σ₁ => if b = true then EXs c sc d body ρ σ₁ R else EXs c sc d orelse ρ σ₁ R) : EX c sc d (.If test body orelse pos) ρ σ R := fun A env s θ r X I F => by
  refine wpAny_If (wpAny_mono (h A env s θ r X I F) (fun b s₁ h₁ => ?_) fun _ _ x => x)
  obtain ⟨σ₁, θ₁, I₁, g₁, q⟩ := h₁
  have F₁ := F.grow I.tupOut g₁
  cases b with
  | true => exact wpS.trans F₁ g₁.x (q A env s₁ θ₁ r X I₁ F₁)
  | false => exact wpS.trans F₁ g₁.x (q A env s₁ θ₁ r X I₁ F₁)
theorem EV_IfExp {test body orelse : Expr} {pos : Pos} (h : ET c sc d test ρ σ fun b σ₁ => if b = true then EV c sc d body ρ σ₁ Q else EV c sc d orelse ρ σ₁ Q) : EV c sc d (.IfExp test body orelse pos) ρ σ Q := fun A env s θ r X I F => by
  refine wpAny_IfExp (wpAny_mono (h A env s θ r X I F) (fun b s₁ h₁ => ?_) fun _ _ x => x)
  obtain ⟨σ₁, θ₁, I₁, g₁, q⟩ := h₁
  have F₁ := F.grow I.tupOut g₁
  cases b with
  | true => exact wpV.trans g₁ (q A env s₁ θ₁ r X I₁ F₁)
  | false => exact wpV.trans g₁ (q A env s₁ θ₁ r X I₁ F₁)
theorem storeName_ok {x : Str} {v : V} {v' : Value} (X : EnvIs sc env) (I : Inv c s θ σ) (F : FrA c s.heap θ env ρ) (hk : sc.scope.names.lookup x = some .local ∨ sc.scope.names.lookup x = some .cell) (r : RepV s.heap θ v v')
    {P : Unit → Shared → Prop} (h : ∀ s₁, Inv c s₁ θ σ → FrA c s₁.heap θ env (put ρ x v) → GrowX (own env) s.heap θ s₁.heap θ → (∀ a, ¬ own env a → s₁.heap.get? a = s.heap.get? a) → P () s₁) :
    wpAny (model c.prog c.w) A (storeName env x v') P NoE s := by
  obtain ⟨m, cm, hm, hc, hr⟩ := F.at_
  have key : ∀ (a : Addr) (h' : Heap) (t : Nat), own env a → Heap.SameBut a s.heap h' → Inv c { s with heap := h', toks := t } θ σ ∧ GrowX (own env) s.heap θ h' θ ∧ (∀ b, ¬ own env b → h'.get? b = s.heap.get? b) ∧ ∀ {v : V} {v' : Value}, RepV s.heap θ v v' → RepV h' θ v v' := by
    intro a h' t ha hs
    obtain ⟨oa, ea, na⟩ := F.ownX a ha
    have nb : c.hb.get? a = none := by
      rcases ha with rfl | ⟨n, e⟩
      · exact F.lob
      · exact (F.cells n a e).2.2
    have nT : ∀ items, ¬ IsT s.heap a items := by
      rintro items ⟨n, e⟩
      rcases ha with rfl | ⟨n', e'⟩
      · obtain ⟨o', es, ep, e2, hd2, _⟩ := hm; rw [e] at e2; cases e2; cases hd2
      · obtain ⟨o', e2, hd2⟩ := hc n' a e'; rw [e] at e2; cases e2; cases hd2
    have nF : ∀ o vs, s.heap.get? a = some o → o.data ≠ .fields vs := by
      intro o vs e hd
      rcases ha with rfl | ⟨n', e'⟩
      · obtain ⟨o', es, ep, e2, hd2, _⟩ := hm; rw [e] at e2; cases e2; rw [hd] at hd2; cases hd2
      · obtain ⟨o', e2, hd2⟩ := hc n' a e'; rw [e] at e2; cases e2; rw [hd] at hd2; cases hd2
    have k1 : ∀ b, b ∈ θ → b ≠ a := fun b hb e => na (e ▸ hb)
    have hv : ∀ {v : V} {v' : Value}, RepV s.heap θ v v' → RepV h' θ v v' := by
      have go : (∀ (v : V) (v' : Value), RepV s.heap θ v v' → RepV h' θ v v') := by
        intro v v' q
        exact RepV.rec (motive_1 := fun v v' _ => RepV h' θ v v') (motive_2 := fun v v' _ => RepVs h' θ v v') .none .bool .int .str .raw .loc
          (fun l b xs ht _ ih => .tup l b xs (by
            obtain ⟨n, e⟩ := ht
            have : b ≠ a := fun e' => nT _ ⟨n, e' ▸ e⟩
            exact ⟨n, (hs.2 b this).trans e⟩) ih) (fun l b xs n nm e _ ih => .lst l b xs n nm (by
            have : b ≠ a := fun e' => by
              rcases ha with rfl | ⟨n', e2⟩
              · obtain ⟨o', es, ep, e2, hd2, _⟩ := hm; rw [← e'] at e2; rw [show s.heap.get? b = _ from e] at e2; cases e2; cases hd2
              · obtain ⟨o', e3, hd2⟩ := hc n' a e2; rw [← e'] at e3; rw [show s.heap.get? b = _ from e] at e3; cases e3; cases hd2
            exact (hs.2 b this).trans e) ih) .nil (fun _ _ a b => .cons a b) q
      exact fun {v v'} q => go v v' q
    have hvs : ∀ {v : List V} {v' : List Value}, RepVs s.heap θ v v' → RepVs h' θ v v' := by
      intro v v' q
      induction v generalizing v' with
      | nil => cases q; exact .nil
      | cons x l ih => cases q with | cons p q => exact .cons (hv p) (ih q)
    have hks : ∀ {Ky : Type} {v : List (Ky × V)} {v' : List (Ky × Value)}, RepKs s.heap θ v v' → RepKs h' θ v v' := by
      intro Ky v v' q
      induction q with
      | nil => exact .nil
      | cons p _ ih => exact .cons (hv p) ih
    have has : ∀ {v : List (Str × V)} {v' : List DictEntry}, RepAs s.heap θ v v' → RepAs h' θ v v' := by
      intro v v' q
      induction q with
      | nil => exact .nil
      | cons e p _ ih => exact .cons e (hv p) ih
    refine ⟨⟨fun b o e => (hs.2 b (fun e' => by subst e'; rw [nb] at e; cases e)).trans (I.keep b o e), I.apart, I.nodup, ⟨I.rep.len, fun i o b e1 e2 => ?_⟩, I.gens, I.os⟩, ?_, fun b nb' => hs.2 b fun e => nb' (e ▸ ha), hv⟩
    · have hb : b ≠ a := k1 b (List.mem_of_getElem? e2)
      have q := I.rep.obj i o b e1 e2
      have eb := hs.2 b hb
      cases o with
      | list l => obtain ⟨xs, n, e', q⟩ := q; exact ⟨xs, n, eb.trans e', hvs q⟩
      | fz xs n l => obtain ⟨e', q⟩ := q; exact ⟨eb.trans e', hvs q⟩
      | dictS es => obtain ⟨xs, ⟨o', x, y, e', z⟩, q⟩ := q; exact ⟨xs, ⟨o', x, y, eb.trans e', z⟩, hks q⟩
      | dictI es => obtain ⟨xs, ⟨o', x, y, e', z⟩, q⟩ := q; exact ⟨xs, ⟨o', x, y, eb.trans e', z⟩, hks q⟩
      | attrs es => obtain ⟨xs, n, e', q⟩ := q; exact ⟨xs, n, eb.trans e', has q⟩
      | inst C d => obtain ⟨dx, q, e'⟩ := q; exact ⟨dx, q, eb.trans e'⟩
      | meth f n => obtain ⟨y, q, e'⟩ := q; exact ⟨y, q, eb.trans e'⟩
      | rng n => obtain ⟨t, u, v, e'⟩ := q; exact ⟨t, u, v, eb.trans e'⟩
      | tab P ps => obtain ⟨q, e', z⟩ := q; exact ⟨q, eb.trans e', z⟩
      | fn P =>
        obtain ⟨fd, p, e', ⟨c', oc, vs, t, e1, e2, e3, e4⟩⟩ := q
        exact ⟨fd, p, eb.trans e', ⟨c', oc, vs, t, e1, (hs.2 c' (fun z => nF _ vs (z ▸ e2) e3)).trans e2, e3, e4⟩⟩
    · exact ⟨⟨[], (List.append_nil _).symm⟩, fun _ m n => (n m).elim, fun b o e _ k => (hs.2 b (fun e' => k (e' ▸ ha))).trans e⟩
  rcases hk with hk | hk
  · refine wpAny_storeName_local (by rw [X.kindOf]; exact hk) hm (fun h' hn hs => ?_) (by rw [X.scope, X.kind]; rfl)
    obtain ⟨I', g', o', hv⟩ := key env.locals h' (s.toks + 1) (.inl rfl) hs
    refine h _ I' ⟨⟨_, cm, hn, fun n k e => (hc n k e).sameBut hs (F.cells n k e).1, fun y u hy => ?_⟩, F.lo, F.lob, F.cells, F.apart⟩ g' o'
    rw [get_put] at hy
    by_cases hxy : x = y
    · subst hxy
      rw [if_pos rfl] at hy; cases hy
      exact ⟨v', hv r, .inl ⟨by rw [X.kindOf]; exact hk, by simp⟩⟩
    · rw [if_neg hxy] at hy
      obtain ⟨u', a, b⟩ := hr y u hy
      refine ⟨u', hv a, ?_⟩
      rcases b with ⟨b1, b2⟩ | b
      · exact .inl ⟨b1, by (have hyx : ¬ y = x := fun e => hxy e.symm); (simp only [hyx, if_false]); exact b2⟩
      · exact .inr b
  · have hsome := X.cells x hk
    obtain ⟨k, hk'⟩ := Option.isSome_iff_exists.mp hsome
    refine wpAny_storeName_cell X.fn (by rw [X.kindOf]; exact hk) hk' (hc x k hk') (fun h' hn hs => ?_)
    obtain ⟨I', g', o', hv⟩ := key k h' s.toks (.inr ⟨x, hk'⟩) hs
    refine h _ I' ⟨⟨m, fun y => if y = x then some v' else cm y, ?_, fun n k2 e => ?_, fun y u hy => ?_⟩, F.lo, F.lob, F.cells, F.apart⟩ g' o'
    · exact hm.sameBut hs (Ne.symm (F.cells x k hk').1)
    · by_cases hkk : k2 = k
      · subst hkk
        have e0 := F.apart n x k2 e hk'
        subst e0
        simpa using hn
      · have : n ≠ x := fun e' => by subst e'; rw [hk'] at e; cases e; exact hkk rfl
        simpa [this] using (hc n k2 e).sameBut hs hkk
    · rw [get_put] at hy
      by_cases hxy : x = y
      · subst hxy
        rw [if_pos rfl] at hy; cases hy
        exact ⟨v', hv r, .inr ⟨.inl (by rw [X.kindOf]; exact hk), hsome, by simp⟩⟩
      · rw [if_neg hxy] at hy
        obtain ⟨u', a, b⟩ := hr y u hy
        refine ⟨u', hv a, ?_⟩
        rcases b with b | ⟨b1, b2, b3⟩
        · exact .inl b
        · exact .inr ⟨b1, b2, by (have hyx : ¬ y = x := fun e => hxy e.symm); (simp only [hyx, if_false]); exact b3⟩
theorem EX_Assign {x : Str} {value : Expr} {pos' pos : Pos} (h : EV c sc d value ρ σ fun v σ₁ => R .next (put ρ x v) σ₁) (hk : sc.scope.names.lookup x = some .local ∨ sc.scope.names.lookup x = some .cell)
    (hs : ∀ env, swapsWith value (some (.Name x pos')) pos.line env = pure false := by intro _; rfl) : EX c sc d (.Assign [.Name x pos'] value pos) ρ σ R := fun A env s θ r X I F => by
  refine wpAny_Assign_Name (wpAny_mono (h A env s θ r X I F) (fun v' s₁ h₁ => ?_) fun _ _ x => x) (hs env)
  obtain ⟨v, σ₁, θ₁, I₁, g₁, rv, q⟩ := h₁
  have F₁ := F.grow I.tupOut g₁
  exact storeName_ok X I₁ F₁ hk rv fun s₂ I₂ F₂ g₂ _ => ⟨.next, _, σ₁, θ₁, I₂, F₂, GrowX.trans F₁.ownX g₁.x g₂, .next, q⟩
end
end Mine
end
section
open PySem PySem.W PySem.Calls PyProof.Rows
set_option linter.unusedVariables false
namespace Mine
def binds : List Str → List V → Vars → Vars
  | x :: xs, v :: vs, ρ => binds xs vs (put ρ x v)
  | _, _, ρ => ρ
def retOf : Fl → V
  | .ret v => v
  | _ => .none
theorem RepVs.mapM {h h' : Heap} {θ θ' : List Addr} (f : ∀ {v : V} {x : Value}, RepV h θ v x → RepV h' θ' v x) : ∀ {l : List V} {xs : List Value}, RepVs h θ l xs → RepVs h' θ' l xs
  | _, _, .nil => .nil
  | _, _, .cons a b => .cons (f a) (b.mapM f)
def Bound (h : Heap) (θ : List Addr) (kindOf : Str → Option NameKind) (ρ : Vars) (m cm : Str → Option Value) : Prop :=
  ∀ x v, get ρ x = some v → ∃ v', RepV h θ v v' ∧ ((kindOf x = some .local ∧ m x = some v') ∨ (kindOf x = some .cell ∧ cm x = some v'))
theorem Bound.bind {h : Heap} {θ : List Addr} {kindOf : Str → Option NameKind} : ∀ {xs : List Str} {vs : List V} {vs' : List Value} {ρ : Vars} {m cm : Str → Option Value}, RepVs h θ vs vs' → (∀ x ∈ xs, kindOf x = some .local ∨ kindOf x = some .cell) → Bound h θ kindOf ρ m cm →
    Bound h θ kindOf (binds xs vs ρ) (bindL kindOf (xs.zip vs') m) (bindC kindOf (xs.zip vs') cm)
  | [], _, _, _, _, _, r, _, B => by cases r <;> exact B
  | x :: xs, _, _, _, _, _, .nil, _, B => B
  | x :: xs, v :: vs, v' :: vs', ρ, m, cm, .cons a b, hk, B => by
    show Bound h θ kindOf (binds xs vs (put ρ x v)) (bindL kindOf ((x, v') :: xs.zip vs') m) (bindC kindOf ((x, v') :: xs.zip vs') cm)
    unfold bindL bindC
    refine Bound.bind b (fun y hy => hk y (List.mem_cons_of_mem _ hy)) fun y u hy => ?_
    rw [get_put] at hy
    by_cases hxy : x = y
    · subst hxy
      rw [if_pos rfl] at hy; cases hy
      rcases hk x List.mem_cons_self with e | e
      · exact ⟨v', a, .inl ⟨e, by simp [e]⟩⟩
      · exact ⟨v', a, .inr ⟨e, by simp [e]⟩⟩
    · rw [if_neg hxy] at hy
      obtain ⟨u', p, q⟩ := B y u hy
      have hyx : ¬ y = x := fun e => hxy e.symm
      refine ⟨u', p, ?_⟩
      rcases q with ⟨q1, q2⟩ | ⟨q1, q2⟩
      · left; refine ⟨q1, ?_⟩; split
        · simpa only [hyx, if_false] using q2
        · exact q2
      · right; refine ⟨q1, ?_⟩; split
        · exact q2
        · simpa only [hyx, if_false] using q2
section
variable {c : Cx} {sc : Sc} {d : Nat} {ρ : Vars} {σ : St} {Q : Post} {R : Fl → Vars → St → Prop} {A : Around} {env : Env} {s s₁ : Shared} {θ θ₁ : List Addr}
theorem Inv.ltθ (I : Inv c s θ σ) {a : Addr} (m : a ∈ θ) : a < s.heap.objs.size := let ⟨_, e⟩ := I.rep.exists m; Heap.lt_size e
theorem Inv.new (I : Inv c s θ σ) {a : Addr} (h : s.heap.objs.size ≤ a) : a ∉ θ ∧ c.hb.get? a = none := by
  refine ⟨fun m => absurd (I.ltθ m) (Nat.not_lt.mpr h), ?_⟩
  cases e : c.hb.get? a with
  | none => rfl
  | some o => exact absurd (Heap.lt_size (I.keep a o e)) (Nat.not_lt.mpr h)
structure FnAt (c : Cx) (a : Addr) (fd : FuncData) (ps : List Str) (body : List Stmt) : Prop where
  at_ : ∃ o, c.hb.get? a = some o ∧ o.data = .func fd
  code : c.hb.CodeRec fd.code fd.qualname
  body : fd.body = .stmts body
  closure : fd.closure = []
  globals : fd.globals = mainGlobals
  builtins : fd.builtins = builtinsNs
  kinds : ∀ x ∈ ps, fd.scope.names.lookup x = some .local ∨ fd.scope.names.lookup x = some .cell
  bind : ∀ vals : List Value, vals.length = ps.length → bindArgs fd ⟨vals, []⟩ = pure (ps.zip vals)
  co : fd.scope.isCoroutine = false
  gen : fd.scope.isGenerator = false
  kind : fd.scope.kind = .function
theorem CALL_def (C : CxOk c) {a : Addr} {fd : FuncData} {ps : List Str} {body : List Stmt} {vs : List V} (f : FnAt c a fd ps body) (hlen : vs.length = ps.length) (hd : 1 ≤ d)
    (h : EXs c ⟨fd.scope, fd.code⟩ (d - 1) body (binds ps vs []) σ fun fl _ σ' => Q (retOf fl) σ') : CALL c d (.raw (.ref a)) vs σ Q := fun A s θ f' vs' r I rf rv => by
  cases rf
  obtain ⟨o, ho, hdat⟩ := f.at_
  have hz : ∀ x ∈ ps.zip vs', x.1 ∈ ps := fun x hx => (List.of_mem_zip (show (x.1, x.2) ∈ ps.zip vs' from hx)).1
  refine wpAny_call (codeAny_call_cells (by have := r.depth; omega) (I.keep _ _ ho) hdat (C.nolimit.keeps I.keep) (f.code.keeps I.keep) f.body (f.bind vs' (by rw [← rv.length]; exact hlen)) f.closure ?_ (fun s₁ X => ?_) f.co f.gen f.kind)
  · intro x hx
    rcases f.kinds x.1 (hz x hx) with e | e
    · exact .inl e
    · exact .inr ⟨e, cellsFrom_some _ _ _ (.inl e)⟩
  · obtain ⟨hh, tk, rfl⟩ := X.toInCall.same
    have keep := X.toInCall.keep
    have I₁ : Inv c { s with heap := hh, toks := tk } θ σ := I.keeps keep
    have g₁ : Grow s.heap θ hh θ := grow_keeps keep
    have E₁ : EnvIs ⟨fd.scope, fd.code⟩ (callEnvC fd s.heap.objs.size a) := ⟨rfl, f.globals, f.builtins, rfl, f.kind, fun x hx => cellsFrom_some _ _ _ (.inl hx)⟩
    have above : ∀ n k, (callEnvC fd s.heap.objs.size a).cells.lookup n = some k → s.heap.objs.size < k := fun n k e => X.above n k (mem_of_lookup e)
    have F₁ : FrA c hh θ (callEnvC fd s.heap.objs.size a) (binds ps vs []) := by
      refine ⟨⟨_, _, X.toInCall.ns, X.cell, fun x v hx => ?_⟩, (I.new (Nat.le_refl _)).1, (I.new (Nat.le_refl _)).2, fun n k e => ?_, fun n n' k e e' => ?_⟩
      · have B := Bound.bind (kindOf := (callEnvC fd s.heap.objs.size a).kindOf) (rv.mapM fun q => q.grow I.tupOut g₁) (fun x hx => f.kinds x hx) (ρ := []) (m := fun _ => none) (cm := fun _ => none) (fun _ _ e => by cases e)
        obtain ⟨v', p, q⟩ := B x v hx
        refine ⟨v', p, ?_⟩
        rcases q with q | ⟨q1, q2⟩
        · exact .inl q
        · exact .inr ⟨.inl q1, cellsFrom_some _ _ _ (.inl q1), q2⟩
      · have := above n k e
        exact ⟨Nat.ne_of_gt this, (I.new (Nat.le_of_lt this)).1, (I.new (Nat.le_of_lt this)).2⟩
      · exact name_of_addr X.apart (mem_of_lookup e) (mem_of_lookup e')
    have r₁ : Room (A.deeper (callEnvC fd s.heap.objs.size a)) (d - 1) := by
      have q := r.depth
      have q' := r.units
      have e1 : (A.deeper (callEnvC fd s.heap.objs.size a)).depth = A.depth + 1 := rfl
      have e2 : (A.deeper (callEnvC fd s.heap.objs.size a)).units = A.units + 3 := rfl
      exact ⟨by rw [e1]; omega, by rw [e2]; omega, r.handled⟩
    refine wpAny_mono (h _ _ _ θ r₁ E₁ I₁ F₁) (fun f' s₂ h₂ => ?_) fun _ _ x => x.elim
    obtain ⟨fl, ρ', σ', θ', I₂, _, g₂, rf, q⟩ := h₂
    have G : Grow s.heap θ s₂.heap θ' := g₂.out fun b o e => ⟨keep b o e, fun m => by
      have lt := Heap.lt_size e
      rcases m with e' | ⟨n, e'⟩
      · exact absurd lt (by rw [e']; exact Nat.lt_irrefl _)
      · exact absurd (Nat.lt_trans lt (above n b e')) (Nat.lt_irrefl _)⟩
    cases rf with
    | next => exact ⟨_, σ', θ', I₂, G, .none, q⟩
    | brk => exact ⟨_, σ', θ', I₂, G, .none, q⟩
    | cont => exact ⟨_, σ', θ', I₂, G, .none, q⟩
    | ret rv => exact ⟨_, σ', θ', I₂, G, rv, q⟩
def Kp (c : Cx) (σ : St) (f : V) : Prop := ∀ s θ f', Inv c s θ σ → RepV s.heap θ f f' → ∃ k, (k = Keeper.frame ∨ k = Keeper.machine ∨ k = Keeper.boundFrame) ∧ Looks (model c.prog c.w) s.heap (keeperOf f') k
theorem Kp_fn {a : Addr} {fd : FuncData} {ps : List Str} {body : List Stmt} (f : FnAt c a fd ps body) : Kp c σ (.raw (.ref a)) := fun s θ f' I r => by
  cases r
  obtain ⟨⟨oc, od, oda, osl⟩, ho, hdat⟩ := f.at_
  dsimp only at hdat
  subst hdat
  exact ⟨.frame, .inl rfl, (Looks.ld (part := none) (I.keep _ _ ho)).andThen .now⟩
theorem Kp_K (C : CxOk c) {f : Value} (hk : keepIn c.K f = true) : Kp c σ (.raw f) := fun s θ f' I r => by
  cases r
  obtain ⟨k, a, b⟩ := looks_keep (M := model c.prog c.w) hk (C.K.keeps I.keep)
  exact ⟨k, a.elim .inl (fun e => .inr (.inl e)), b⟩
theorem Kp_builtin {id : String} : Kp c σ (.raw (.builtin id)) := fun s θ f' I r => by cases r; exact ⟨.machine, .inr (.inl rfl), Looks.of_pure rfl⟩
theorem Kp_type {id : String} : Kp c σ (.raw (.type id)) := fun s θ f' I r => by cases r; exact ⟨.machine, .inr (.inl rfl), Looks.of_pure rfl⟩
theorem Kp_loc {n : Nat} {P : FuncData → Prop} (hn : σ[n]? = some (.fn P)) : Kp c σ (.loc n) := fun s θ f' I r => by
  cases r with
  | loc n a e =>
    obtain ⟨fd, _, e', _⟩ := I.rep.obj n _ a hn e
    exact ⟨.frame, .inl rfl, (Looks.ld (part := none) e').andThen .now⟩
def noStar (es : List Expr) : Bool := es.all fun e => match e with | .Starred .. => false | _ => true
theorem starEach_plain (env : Env) : ∀ {es : List Expr}, noStar es = true → starEach es env = es.map fun e => (false, eval e env)
  | [], _ => rfl
  | e :: es, h => by
    unfold noStar at h
    rw [List.all_cons] at h
    obtain ⟨h1, h2⟩ := Bool.and_eq_true_iff.mp h
    have ih := starEach_plain env (es := es) h2
    cases e <;> first | (exact congrArg _ ih) | cases h1
theorem backTo_plain (pos : Pos) (env : Env) {es : List Expr} (h : noStar es = true) : backTo pos (starEach es env) = es.map fun e => (false, eval e env) := by
  rw [starEach_plain env h]
  simp only [backTo, List.map_map]
  rfl
theorem callWith_ok {f : V} {f' : Value} {first : List V} {first' : List Value} {es : List Expr} {pos : Pos} (hs : noStar es = true) (r : Room A d) (X : EnvIs sc env) (I : Inv c s θ σ) (F : FrA c s.heap θ env ρ) (rf : RepV s.heap θ f f') (rfs : RepVs s.heap θ first first')
    (h : EVs c sc d es ρ σ fun vs σ₂ => Kp c σ₂ f ∧ CALL c d f (first ++ vs) σ₂ Q) : wpAny (model c.prog c.w) A (callWith pos f' first' (backTo pos (starEach es env)) []) (OkV c s θ Q) NoE s := by
  have h0 := h A env pos s θ r X I F
  rw [backTo_plain pos env hs] at h0 ⊢
  have fin : wpAny (model c.prog c.w) A (evalArgs f' true (es.map fun e => (false, eval e env)) []) (fun a s₁ => ((∃ k, (k = Keeper.frame ∨ k = Keeper.machine ∨ k = Keeper.boundFrame) ∧ Looks (model c.prog c.w) s₁.heap (keeperOf f') k) ∧ wpAny (model c.prog c.w) A (call f' (first' ++ a.pos) a.kw) (OkV c s θ Q) NoE s₁)) NoE s := by
    have go : ∀ vs' s₁, OkVs c s θ (fun vs σ₂ => Kp c σ₂ f ∧ CALL c d f (first ++ vs) σ₂ Q) vs' s₁ → ((∃ k, (k = Keeper.frame ∨ k = Keeper.machine ∨ k = Keeper.boundFrame) ∧ Looks (model c.prog c.w) s₁.heap (keeperOf f') k) ∧ wpAny (model c.prog c.w) A (call f' (first' ++ vs') []) (OkV c s θ Q) NoE s₁) := by
      rintro vs' s₁ ⟨vs, σ₁, θ₁, I₁, g₁, rv, kp, q⟩
      exact ⟨kp _ _ _ I₁ (rf.grow I.tupOut g₁), wpV.trans g₁ (q A s₁ θ₁ f' _ r I₁ (rf.grow I.tupOut g₁) ((rfs.grow I.tupOut g₁).append rv))⟩
    cases es with
    | nil =>
      unfold evalArgs
      show wpAny (model c.prog c.w) A (spliced [] >>= _) _ _ s
      refine wpAny_bind (wpAny_mono h0 (fun vs' s' h' => wpAny_bind (wpAny_pure ?_)) fun _ _ x => x)
      refine wpAny_holding ?_
      exact wpAny_bind (wpAny_pure (wpAny_bind (wpAny_pure (wpAny_pure (go _ _ h')))))
    | cons e es => exact evalArgs_plain (wpAny_mono h0 (fun vs' s₁ q => go vs' s₁ q) fun _ _ x => x)
  unfold callWith
  refine wpAny_bind (wpAny_holding (wpAny_mono fin (fun a s₁ h₁ => wpAny_bind (wpAny_standAt ?_)) fun _ _ x => x))
  obtain ⟨⟨k, hk', L⟩, h₂⟩ := h₁
  have hp : ((es.map fun e => ((false : Bool), eval e env)).any (·.1) || ([] : List (Option Str × Sem Value)).any (·.1.isNone)) = false := by simp
  simp only [hp]
  refine wpAny_bind (L.here ?_)
  have tail : ∀ {t : Sem Value}, wpAny (model c.prog c.w) A t (OkV c s θ Q) NoE s₁ → wpAny (model c.prog c.w) A (t >>= fun r => holding [r] point >>= fun _ => pure r) (OkV c s θ Q) NoE s₁ :=
    fun ht => wpAny_bind (wpAny_mono ht (fun r s₂ hr => wpAny_bind (wpAny_holding (wpAny_point (wpAny_pure hr)))) fun _ _ x => x)
  have marked (mk : Value) : wpAny (model c.prog c.w) A (callMarked mk f' (first' ++ a.pos) a.kw) (OkV c s θ Q) NoE s₁ := by unfold callMarked; exact Calls.wpAny_keep h₂
  rcases hk' with rfl | rfl | rfl <;> dsimp only <;> first | exact tail h₂ | (split <;> first | exact tail h₂ | exact tail (marked _))
end
end Mine
end
section
open PySem PySem.W PySem.Calls PyProof.Rows PySem.MeetsSeq PySem.MeetsSeq2 PySem.MeetsSeq3
set_option linter.unusedVariables false
namespace Mine
section
variable {c : Cx} {sc : Sc} {d : Nat} {ρ : Vars} {σ : St} {Q : Post} {R : Fl → Vars → St → Prop} {A : Around} {env : Env} {s s₁ : Shared} {θ θ₁ : List Addr}
theorem Inv.at (I : Inv c s θ σ) {i : Nat} {o : SO} (hi : σ[i]? = some o) : ∃ a, θ[i]? = some a ∧ RepO c.prog c.w s.heap θ a o := by
  have h1 : i < σ.length := (List.getElem?_eq_some_iff.mp hi).1
  have h2 : i < θ.length := I.rep.len ▸ h1
  exact ⟨θ[i], List.getElem?_eq_getElem h2, I.rep.obj i o _ hi (List.getElem?_eq_getElem h2)⟩
theorem Inv.upd (I : Inv c s θ σ) {i : Nat} {a : Addr} {o' : SO} {h' : Heap} {t : Nat} (ha : θ[i]? = some a) (hs : Heap.SameBut a s.heap h') (ho : RepO c.prog c.w h' θ a o') :
    Inv c { s with heap := h', toks := t } θ (σ.set i o') ∧ Grow s.heap θ h' θ := by
  have ma : a ∈ θ := List.mem_of_getElem? ha
  have g : Grow s.heap θ h' θ := ⟨⟨[], (List.append_nil _).symm⟩, fun _ m n => (n m).elim, fun b o e n => (hs.2 b (fun z => n (z ▸ ma))).trans e⟩
  refine ⟨⟨fun b o e => (hs.2 b (fun z => by subst z; have := (I.apart _ ma).1; rw [e] at this; cases this)).trans (I.keep b o e), I.apart, I.nodup, ⟨by rw [List.length_set]; exact I.rep.len, fun j o b e1 e2 => ?_⟩, I.gens, I.os⟩, g⟩
  by_cases hij : i = j
  · subst hij
    rw [ha] at e2; cases e2
    have hl : i < σ.length := I.rep.len ▸ (List.getElem?_eq_some_iff.mp ha).1
    rw [List.getElem?_set_self hl] at e1; cases e1
    exact ho
  · rw [List.getElem?_set_ne hij] at e1
    have hb : b ≠ a := fun z => by
      subst z
      obtain ⟨h1, e3⟩ := List.getElem?_eq_some_iff.mp ha
      obtain ⟨h2, e4⟩ := List.getElem?_eq_some_iff.mp e2
      exact hij ((List.getElem_inj I.nodup).mp (e3.trans e4.symm))
    exact (I.rep.obj j o b e1 e2).moved I.tupOut g (fun ob e => (hs.2 b hb).trans e) (fun b' ob e n => g.kept b' ob e n) I.rep.noFields
theorem Inv.alloc (I : Inv c s θ σ) {ob : Obj} {o : SO} {t : Nat} (ho : RepO c.prog c.w (s.heap.push ob) (θ ++ [s.heap.objs.size]) s.heap.objs.size o) :
    Inv c { s with heap := s.heap.push ob, toks := t } (θ ++ [s.heap.objs.size]) (σ ++ [o]) ∧ Grow s.heap θ (s.heap.push ob) (θ ++ [s.heap.objs.size]) := by
  have k : ∀ b o, s.heap.get? b = some o → (s.heap.push ob).get? b = some o := fun b o e => Heap.get?_push_of_some _ e
  have N := I.new (Nat.le_refl s.heap.objs.size)
  have g : Grow s.heap θ (s.heap.push ob) (θ ++ [s.heap.objs.size]) := by
    refine ⟨⟨_, rfl⟩, fun a m n => ?_, fun b o e _ => k b o e⟩
    rcases List.mem_append.mp m with m | m
    · exact (n m).elim
    · rw [List.mem_singleton.mp m]
      cases e : s.heap.get? s.heap.objs.size with
      | none => rfl
      | some o => exact absurd (Heap.lt_size e) (Nat.lt_irrefl _)
  refine ⟨⟨fun b o e => k _ _ (I.keep b o e), fun a m => ?_, ?_, ⟨by simp [I.rep.len], fun j o' b e1 e2 => ?_⟩, I.gens, I.os⟩, g⟩
  · rcases List.mem_append.mp m with m | m
    · exact I.apart a m
    · rw [List.mem_singleton.mp m]; obtain ⟨o2, e2⟩ := c.low; exact ⟨N.2, Heap.lt_size (I.keep _ _ e2)⟩
  · refine List.nodup_append.mpr ⟨I.nodup, (by simp), fun a m b m' => ?_⟩
    rw [List.mem_singleton.mp m']
    exact fun z => N.1 (z ▸ m)
  · by_cases hj : j < σ.length
    · rw [List.getElem?_append_left hj] at e1
      rw [List.getElem?_append_left (I.rep.len ▸ hj)] at e2
      exact (I.rep.obj j o' b e1 e2).moved I.tupOut g (fun ob e => k _ _ e) (fun b' ob e _ => k _ _ e) I.rep.noFields
    · have hj' : j = σ.length := by
        have := (List.getElem?_eq_some_iff.mp e1).1
        simp at this; omega
      subst hj'
      rw [List.getElem?_append_right (Nat.le_refl _)] at e1
      rw [← I.rep.len, List.getElem?_append_right (Nat.le_refl _)] at e2
      simp at e1 e2
      subst e1 e2
      exact ho
theorem Inv.tuple (I : Inv c s θ σ) {vs : List V} {vs' : List Value} {t : Nat} (r : RepVs s.heap θ vs vs') (q : Q (.tup vs) σ) :
    OkV c s θ Q (.ref s.heap.objs.size) { s with heap := s.heap.push { cls := .type "tuple", data := .seq vs'.toArray }, toks := t } := by
  have k : ∀ b o, s.heap.get? b = some o → (s.heap.push { cls := .type "tuple", data := .seq vs'.toArray }).get? b = some o := fun b o e => Heap.get?_push_of_some _ e
  exact ⟨.tup vs, σ, θ, I.keeps k, grow_keeps k, .tup vs _ vs' ⟨0, Heap.get?_push_size _ rfl⟩ (r.grow I.tupOut (grow_keeps k)), q⟩
theorem Inv.list (I : Inv c s θ σ) {vs : List V} {vs' : List Value} {t : Nat} (r : RepVs s.heap θ vs vs') (q : Q (.loc σ.length) (σ ++ [.list vs])) :
    OkV c s θ Q (.ref s.heap.objs.size) { s with heap := s.heap.push { cls := .type "list", data := .seq vs'.toArray }, toks := t } := by
  have k : ∀ b o, s.heap.get? b = some o → (s.heap.push { cls := .type "list", data := .seq vs'.toArray }).get? b = some o := fun b o e => Heap.get?_push_of_some _ e
  have g0 : Grow s.heap θ (s.heap.push { cls := .type "list", data := .seq vs'.toArray }) (θ ++ [s.heap.objs.size]) := by
    refine ⟨⟨_, rfl⟩, fun a m n => ?_, fun b o e _ => k b o e⟩
    rcases List.mem_append.mp m with m | m
    · exact (n m).elim
    · rw [List.mem_singleton.mp m]
      cases e : s.heap.get? s.heap.objs.size with
      | none => rfl
      | some o => exact absurd (Heap.lt_size e) (Nat.lt_irrefl _)
  obtain ⟨I', g⟩ := I.alloc (ob := { cls := .type "list", data := .seq vs'.toArray }) (o := .list vs) (t := t) ⟨vs', 0, Heap.get?_push_size _ rfl, r.grow I.tupOut g0⟩
  exact ⟨.loc σ.length, _, _, I', g, .loc _ _ (by rw [← I.rep.len]; simp), q⟩
theorem EV_Tuple {es : List Expr} {k : Nat} {pos : Pos} (h : EVs c sc d es ρ σ fun vs σ₁ => vs.length ≤ 1000 ∧ Q (.tup vs) σ₁) : EV c sc d (.Tuple es k pos) ρ σ Q := fun A env s θ r X I F => by
  refine Tuple_ (wpAny_mono (h A env pos s θ r X I F) (fun vs' s₁ h₁ => ?_) fun _ _ x => x)
  obtain ⟨vs, σ₁, θ₁, I₁, g₁, rv, hl, q⟩ := h₁
  exact wpV.trans g₁ (wpAny_newObj_type (by exact I₁.tuple (t := s₁.toks) rv q) (by show vs'.toArray.size ≤ sizeLine; rw [List.size_toArray, ← rv.length, sizeLine_eq]; omega))
theorem EV_List {es : List Expr} {pos : Pos} (h : EVs c sc d es ρ σ fun vs σ₁ => vs.length ≤ 1000 ∧ Q (.loc σ₁.length) (σ₁ ++ [.list vs])) : EV c sc d (.List es pos) ρ σ Q := fun A env s θ r X I F => by
  refine List_ (wpAny_mono (h A env pos s θ r X I F) (fun vs' s₁ h₁ => ?_) fun _ _ x => x)
  obtain ⟨vs, σ₁, θ₁, I₁, g₁, rv, hl, q⟩ := h₁
  exact wpV.trans g₁ (wpAny_newObj_type (by exact I₁.list (t := s₁.toks) rv q) (by show vs'.toArray.size ≤ sizeLine; rw [List.size_toArray, ← rv.length, sizeLine_eq]; omega))
theorem EV_Dict0I {pos : Pos} (h : Q (.loc σ.length) (σ ++ [.dictI []])) : EV c sc d (.Dict [] [] pos) ρ σ Q := fun A env s θ r X I F => by
  refine wpAny_Dict_empty ?_
  obtain ⟨I', g⟩ := I.alloc (ob := { cls := .type "dict", data := .dict #[] }) (o := .dictI []) (t := s.toks) ⟨[], Heap.DictOf.new _, .nil⟩
  exact ⟨.loc σ.length, _, _, I', g, .loc _ _ (by rw [← I.rep.len]; simp), h⟩
theorem EV_Call {x : Str} {p pos : Pos} {args : List Expr} (hs : noStar args = true) (h : EV c sc d (.Name x p) ρ σ fun f σ₁ => EVs c sc d args ρ σ₁ fun vs σ₂ => Kp c σ₂ f ∧ CALL c d f vs σ₂ Q) : EV c sc d (.Call (.Name x p) args [] pos) ρ σ Q := fun A env s θ r X I F => by
  refine Call_ (wpAny_mono (h A env s θ r X I F) (fun f' s₁ h₁ => ?_) fun _ _ x => x)
  obtain ⟨f, σ₁, θ₁, I₁, g₁, rf, q⟩ := h₁
  exact wpV.trans g₁ (callWith_ok (first := []) hs r X I₁ (F.grow I.tupOut g₁) rf .nil q)
inductive OkM (c : Cx) (s : Shared) (θ : List Addr) (Q : V → List V → St → Prop) (fx : Value × List Value) (s' : Shared) : Prop
  | mk (f : V) (first : List V) (σ' : St) (θ' : List Addr) : Inv c s' θ' σ' → Grow s.heap θ s'.heap θ' → RepV s'.heap θ' f fx.1 → RepVs s'.heap θ' first fx.2 → Q f first σ' → OkM c s θ Q fx s'
def GM (c : Cx) (d : Nat) (o : V) (name : Str) (σ : St) (Q : V → List V → St → Prop) : Prop :=
  ∀ A s θ o' pl, Room A d → Inv c s θ σ → RepV s.heap θ o o' → wpAny (model c.prog c.w) A (getMethod o' name pl) (OkM c s θ Q) NoE s
theorem EV_MCall {o : Expr} {name : Str} {apos pos : Pos} {args : List Expr} (hs : noStar args = true)
    (h : EV c sc d o ρ σ fun ov σ₁ => GM c d ov name σ₁ fun f first σ₂ => EVs c sc d args ρ σ₂ fun vs σ₃ => Kp c σ₃ f ∧ CALL c d f (first ++ vs) σ₃ Q)
    (he : ∀ env, ∃ pl, eval (.Call (.Attribute o name apos) args [] pos) env = (do
      let ov ← eval o env
      standAt apos.atName
      let (f, first) ← holding [ov] (getMethod ov name pl)
      callWith pos f first (backTo pos (starEach args env)) []) := by exact fun _ => ⟨_, rfl⟩) : EV c sc d (.Call (.Attribute o name apos) args [] pos) ρ σ Q := fun A env s θ r X I F => by
  obtain ⟨pl, he⟩ := he env
  refine MethodCall_ (wpAny_mono (h A env s θ r X I F) (fun o' s₁ h₁ => ?_) fun _ _ x => x) he
  obtain ⟨o, σ₁, θ₁, I₁, g₁, ro, q⟩ := h₁
  refine wpAny_mono (q A s₁ θ₁ o' pl r I₁ ro) (fun fx s₂ h₂ => ?_) fun _ _ x => x
  obtain ⟨f, first, σ₂, θ₂, I₂, g₂, rf, rfs, q₂⟩ := h₂
  exact wpV.trans (g₁.trans g₂) (callWith_ok hs r X I₂ ((F.grow I.tupOut g₁).grow I₁.tupOut g₂) rf rfs q₂)
theorem RepV.ofLoc {h : Heap} {n : Nat} {v' : Value} (r : RepV h θ (.loc n) v') : ∃ a, v' = .ref a ∧ θ[n]? = some a := by
  cases r with | loc n a e => exact ⟨a, rfl, e⟩
theorem Inv.isL (I : Inv c s θ σ) {n : Nat} {a : Addr} {l : List V} (hn : σ[n]? = some (.list l)) (e : θ[n]? = some a) : ∃ xs k, IsL s.heap a xs.toArray k ∧ RepVs s.heap θ l xs := I.rep.obj n _ a hn e
theorem GM_list {n : Nat} {l : List V} {name : Str} {id : String} {Q : V → List V → St → Prop} (hn : σ[n]? = some (.list l)) (slot : Slot "list" name id) (hty : typeOf (.builtin id) = pure (.type "method_descriptor")) (h : Q (.raw (.builtin id)) [.loc n] σ) :
    GM c d (.loc n) name σ Q := fun A s θ o' pl r I ro => by
  obtain ⟨a, rfl, e⟩ := ro.ofLoc
  obtain ⟨xs, k, hl, _⟩ := I.isL hn e
  exact getMethod_builtin ⟨_, hl, rfl⟩ F.plainAttrs_list slot hty (fun a' e' => by cases e'; exact ⟨_, hl, rfl⟩) ⟨_, [.loc n], σ, θ, I, Grow.refl _ _, .raw _, .cons (.loc n a e) .nil, h⟩
theorem Inv.listUpd (I : Inv c s θ σ) {n k t : Nat} {a : Addr} {xs ys : List Value} {l' : List V} {f : Array Value → Array Value} {v : V} {v' : Value} (e : θ[n]? = some a) (hl : IsL s.heap a xs.toArray k)
    (hf : f xs.toArray = ys.toArray) (rl : RepVs s.heap θ l' ys) (rv : RepV s.heap θ v v') (q : Q v (σ.set n (.list l'))) : OkV c s θ Q v' { s with heap := s.heap.update a (Obj.mapSeq f), toks := t } := by
  have hs : Heap.SameBut a s.heap (s.heap.update a (Obj.mapSeq f)) := Heap.SameBut.update ..
  have g : Grow s.heap θ (s.heap.update a (Obj.mapSeq f)) θ := ⟨⟨[], (List.append_nil _).symm⟩, fun _ m n => (n m).elim, fun b o e' n => (hs.2 b (fun z => n (z ▸ List.mem_of_getElem? e))).trans e'⟩
  have hL := hl.update f
  rw [hf] at hL
  obtain ⟨I', _⟩ := I.upd (o' := .list l') (t := t) e hs ⟨ys, _, hL, rl.grow I.tupOut g⟩
  exact ⟨v, _, θ, I', g, rv.grow I.tupOut g, q⟩
theorem RepVs.one {h : Heap} {v : V} {xs : List Value} (r : RepVs h θ [v] xs) : ∃ x, xs = [x] ∧ RepV h θ v x := by
  cases r with | cons a b => cases b; exact ⟨_, rfl, a⟩
theorem RepVs.two {h : Heap} {v u : V} {xs : List Value} (r : RepVs h θ [v, u] xs) : ∃ x y, xs = [x, y] ∧ RepV h θ v x ∧ RepV h θ u y := by
  cases r with | cons a b => obtain ⟨y, rfl, q⟩ := b.one; exact ⟨_, _, rfl, a, q⟩
theorem RepVs.three {h : Heap} {v u t : V} {xs : List Value} (r : RepVs h θ [v, u, t] xs) : ∃ x y z, xs = [x, y, z] ∧ RepV h θ v x ∧ RepV h θ u y ∧ RepV h θ t z := by
  cases r with | cons a b => obtain ⟨y, z, rfl, q⟩ := b.two; exact ⟨_, _, _, rfl, a, q⟩
theorem sz {xs : List Value} {l : List V} {h : Heap} (r : RepVs h θ l xs) (hl : l.length ≤ 10000) : xs.toArray.size ≤ sizeLine := by rw [List.size_toArray, ← r.length, sizeLine_eq]; omega
theorem CALL_append {n : Nat} {l : List V} {v : V} (hn : σ[n]? = some (.list l)) (hsz : l.length ≤ 10000) (h : Q .none (σ.set n (.list (l ++ [v])))) : CALL c d (.raw (.builtin "list.append")) [.loc n, v] σ Q := fun A s θ f' vs' r I rf rv => by
  cases rf
  obtain ⟨x, v', rfl, r1, r2⟩ := rv.two
  obtain ⟨a, rfl, e⟩ := r1.ofLoc
  obtain ⟨xs, k, hl, rl⟩ := I.isL hn e
  exact call_meets F.slot_list_append ⟨_, hl, rfl⟩ F.entry_list_append (F.args_list_append_2 _ _) (list_append a xs.toArray k v' (sz rl hsz)) ⟨hl, I.listUpd e hl (by simp) (rl.append (.cons r2 .nil)) .none h⟩
theorem CALL_pop {n : Nat} {l : List V} {v : V} (hn : σ[n]? = some (.list (l ++ [v]))) (hsz : l.length ≤ 9000) (h : Q v (σ.set n (.list l))) : CALL c d (.raw (.builtin "list.pop")) [.loc n] σ Q := fun A s θ f' vs' r I rf rv => by
  cases rf
  obtain ⟨x, rfl, r1⟩ := rv.one
  obtain ⟨a, rfl, e⟩ := r1.ofLoc
  obtain ⟨xs, k, hl, rl⟩ := I.isL hn e
  have hlen := rl.length
  simp at hlen
  obtain ⟨y, hy, ry⟩ := rl.at (i := l.length) (v := v) (by simp)
  have hy' : xs.toArray[xs.toArray.size - 1]? = some y := by rw [List.size_toArray, ← hlen]; simpa using hy
  refine call_meets F.slot_list_pop ⟨_, hl, rfl⟩ F.entry_list_pop (F.args_list_pop_1 _) (list_pop_last a xs.toArray k y hy' (sz rl (by simp; omega))) ⟨hl, ?_⟩
  refine I.listUpd (ys := xs.take l.length) (l' := l) e hl ?_ (by simpa using rl.take l.length) ry h
  rw [List.size_toArray, ← hlen]
  simp only [Nat.add_sub_cancel]
  have : xs = xs.take l.length ++ [y] := by
    have h1 : xs.drop l.length = [y] := by
      rw [List.drop_eq_getElem_cons (by omega)]
      have : xs[l.length]'(by omega) = y := by
        have := List.getElem?_eq_getElem (l := xs) (i := l.length) (by omega)
        rw [hy] at this; exact (Option.some.inj this).symm
      rw [this, List.drop_eq_nil_of_le (by omega)]
    conv => lhs; rw [← List.take_append_drop l.length xs, h1]
  rw [List.eraseIdxIfInBounds_toArray]
  congr 1
  conv => lhs; rw [this]
  rw [List.eraseIdx_append_of_length_le (by rw [List.length_take]; exact Nat.min_le_left ..)]
  simp [Nat.min_eq_left (show l.length ≤ xs.length by omega)]
end
end Mine
end
section
open PySem PySem.W PySem.Calls PyProof.Rows
set_option linter.unusedVariables false
namespace Mine
section
variable {c : Cx} {sc : Sc} {d : Nat} {ρ : Vars} {σ : St} {Q : Post} {R : Fl → Vars → St → Prop} {A : Around} {env : Env} {s s₁ : Shared} {θ θ₁ : List Addr}
def hand : V → Bool
  | .raw (.builtin _) => false
  | _ => true
theorem handedIn_of {h : Heap} {v : V} {v' : Value} (e : hand v = true) (r : RepV h θ v v') : handedIn v' = true := by
  cases r with
  | raw => cases v' <;> first | rfl | cases e
  | _ => rfl
structure AttrOf (K : Frag) (C : Addr) (name : Str) : Prop where
  g : plainGet K C name = true
  h : hasDictIn K C = true
  a : ∃ attr, findIn K (.ref C) name = some attr ∧ noGet K attr = true
theorem Inv.inst (I : Inv c s θ σ) {n k : Nat} {C : Addr} {l : List (Str × V)} (hn : σ[n]? = some (.inst C k)) (hk : σ[k]? = some (.attrs l)) {a : Addr} (e : θ[n]? = some a) :
    ∃ dx es m, θ[k]? = some dx ∧ s.heap.get? dx = some (dictOf es m) ∧ RepAs s.heap θ l es ∧ InstAt s.heap a (instObj C dx) C (some (dictOf es m)) := by
  obtain ⟨dx, h1, h2⟩ := I.rep.obj n _ a hn e
  obtain ⟨es, m, h3, h4⟩ := I.rep.obj k _ dx hk h1
  exact ⟨dx, es, m, h1, h3, h4, ⟨h2, rfl, rfl, h3⟩⟩
def ATTR (c : Cx) (d : Nat) (o : V) (name : Str) (σ : St) (Q : Post) : Prop :=
  ∀ A s θ o' b, Room A d → Inv c s θ σ → RepV s.heap θ o o' → wpAny (model c.prog c.w) A (getAttr o' name b) (OkV c s θ Q) NoE s
theorem ATTR_inst (Cc : CxOk c) {n k : Nat} {C : Addr} {l : List (Str × V)} {name : Str} {v : V} (hn : σ[n]? = some (.inst C k)) (hk : σ[k]? = some (.attrs l)) (hv : get l name = some v) (ha : AttrOf c.K C name) (hh : hand v = true) (h : Q v σ) :
    ATTR c d (.loc n) name σ Q := fun A s θ o' b r I ro => by
  obtain ⟨a, rfl, e⟩ := ro.ofLoc
  obtain ⟨dx, es, m, h1, h2, h3, I'⟩ := I.inst hn hk e
  have q := h3.find name
  rw [hv] at q
  obtain ⟨v', q1, q2⟩ := q
  obtain ⟨attr, a1, a2⟩ := ha.a
  exact get_value (Cc.K.keeps I.keep) I' (plainGet_of ha.g).1 (findObj_own ha.h a1 a2 (show lookIn name (dictOf es m) = some (some v') from q1)) (handedIn_of hh q2) (I.okVt q2 h)
theorem EV_Attr {o : Expr} {name : Str} {pos : Pos} (h : EV c sc d o ρ σ fun ov σ₁ => ATTR c d ov name σ₁ Q)
    (he : ∀ env, eval (.Attribute o name pos) env = (do
      let ov ← eval o env
      standAt pos.atName
      let r ← holding [ov] (getAttr ov name true)
      letTemporaryGo o ov r
      pure r) := by exact fun _ => rfl) : EV c sc d (.Attribute o name pos) ρ σ Q := fun A env s θ r X I F => by
  rw [he env]
  refine wpAny_bind (wpAny_mono (h A env s θ r X I F) (fun o' s₁ h₁ => wpAny_bind (wpAny_standAt ?_)) fun _ _ x => x)
  obtain ⟨o, σ₁, θ₁, I₁, g₁, ro, q⟩ := h₁
  refine wpAny_bind (wpAny_holding (wpAny_mono (q A s₁ θ₁ o' true r I₁ ro) (fun v' s₂ h₂ => ?_) fun _ _ x => x))
  exact wpAny_bind (wpAny_letTemporaryGo (wpAny_pure (h₂.trans g₁)))
structure MethOf (K : Frag) (C : Addr) (name : Str) (f : Addr) : Prop where
  g : plainGet K C name = true
  find : findIn K (.ref C) name = some (some (.ref f))
  t : isFn K (.ref f) = true
theorem GM_inst (Cc : CxOk c) {n k : Nat} {C f : Addr} {l : List (Str × V)} {name : Str} {Q : V → List V → St → Prop} (hn : σ[n]? = some (.inst C k)) (hk : σ[k]? = some (.attrs l)) (hv : get l name = none) (ha : MethOf c.K C name f) (h : Q (.raw (.ref f)) [.loc n] σ) :
    GM c d (.loc n) name σ Q := fun A s θ o' pl r I ro => by
  obtain ⟨a, rfl, e⟩ := ro.ofLoc
  obtain ⟨dx, es, m, h1, h2, h3, I'⟩ := I.inst hn hk e
  have q := h3.find name
  rw [hv] at q
  exact method_fn (Cc.K.keeps I.keep) I' (plainGet_of ha.g).1 (plainGet_of ha.g).2 ha.find (beq_iff_eq.mp ha.t) (by show (lookIn name (dictOf es m)).map _ = _; rw [lookIn_dict, q]; rfl) ⟨_, [.loc n], σ, θ, I, Grow.refl _ _, .raw _, .cons (.loc n a e) .nil, h⟩
structure StoreOf (K : Frag) (C : Addr) (name : Str) : Prop where
  s : findIn K (.ref C) "__setattr__" = some (some (.builtin "object.__setattr__"))
  p : plainOver K C = true
  t : takerIn K C name = some none
  h : hasDictIn K C = true
inductive OkU (c : Cx) (s : Shared) (θ : List Addr) (Q : St → Prop) (u : Unit) (s' : Shared) : Prop
  | mk (σ' : St) (θ' : List Addr) : Inv c s' θ' σ' → Grow s.heap θ s'.heap θ' → Q σ' → OkU c s θ Q u s'
theorem setAttr_ok (Cc : CxOk c) {n k : Nat} {C : Addr} {l : List (Str × V)} {name : Str} {v : V} {o' v' : Value} {Q : St → Prop} (I : Inv c s θ σ) (ro : RepV s.heap θ (.loc n) o') (rv : RepV s.heap θ v v')
    (hn : σ[n]? = some (.inst C k)) (hk : σ[k]? = some (.attrs l)) (ha : StoreOf c.K C name) (hz : l.length ≤ 900) (h : Q (σ.set k (.attrs (put l name v)))) :
    wpAny (model c.prog c.w) A (setAttr o' name v') (OkU c s θ Q) NoE s := by
  obtain ⟨a, rfl, e⟩ := ro.ofLoc
  obtain ⟨dx, es, m, h1, h2, h3, I'⟩ := I.inst hn hk e
  have X := Cc.K.keeps I.keep
  refine set_plain X I' ha.s ?_
  refine osa_open (s := { s with toks := s.toks + 1 }) X I' ha.p ha.t fun b => ?_
  obtain ⟨cd, hc, hd'⟩ := any_some ha.h
  have hx := I'.at_
  refine wpAny_bind (wpAny_pure (wpAny_bind (wpAny_bind (wpAny_loadPart hx (wpAny_bind (looks_clsIn X hc _ _ _ _ (fun _ _ e => e) ?_))))))
  rw [hd']
  refine wpAny_pure (a := some dx) (wpAny_bind (wpAny_pure (wpAny_bind ?_)))
  unfold nsSet
  refine wpAny_bind (wpAny_bind (wpAny_askSetting (wpAny_pure (wpAny_bind (wpAny_mkText (wpAny_bind (wpAny_loadPart h2 ?_)))))))
  dsimp only
  have cN : (!es.toArray.any (·.key.isStr name) && es.toArray.any (·.refKey)) = false := by
    have : es.toArray.any (·.refKey) = false := by rw [List.any_toArray]; exact h3.refKey
    rw [this, Bool.and_false]
  rw [aRefKeyMayBeTheName_at, cN]
  refine wpAny_updatePart h2 ?_
  have fz : Obj.putName name (PyData.keyHash c.w.params name) (.str name (s.toks + 1)) v' (dictOf es m) = dictOf (putL name (PyData.keyHash c.w.params name) (.str name (s.toks + 1)) v' es) (putN name es m) := putName_dict ..
  have D' : (s.heap.update dx (Obj.putName name (PyData.keyHash c.w.params name) (.str name (s.toks + 1)) v')).get? dx = some (dictOf (putL name (PyData.keyHash c.w.params name) (.str name (s.toks + 1)) v' es) (putN name es m)) := by
    rw [Heap.get?_update_self _ h2 (by rw [fz]; rfl), fz]
  have hs : Heap.SameBut dx s.heap (s.heap.update dx (Obj.putName name (PyData.keyHash c.w.params name) (.str name (s.toks + 1)) v')) := Heap.SameBut.update ..
  have g : Grow s.heap θ (s.heap.update dx (Obj.putName name (PyData.keyHash c.w.params name) (.str name (s.toks + 1)) v')) θ := ⟨⟨[], (List.append_nil _).symm⟩, fun _ m n => (n m).elim, fun b o e' n => (hs.2 b (fun z => n (z ▸ List.mem_of_getElem? h1))).trans e'⟩
  have hR := (h3.grow I.tupOut g).put (x := name) (t := s.toks + 1) (hsh := PyData.keyHash c.w.params name) (rv.grow I.tupOut g)
  have hlen : (putL name (PyData.keyHash c.w.params name) (.str name (s.toks + 1)) v' es).length ≤ 1000 := by
    have : (put l name v).length ≤ l.length + 1 := by
      clear hR h hk hz h3
      induction l with
      | nil => simp [put]
      | cons p r ih => obtain ⟨y, u⟩ := p; unfold put; split <;> simp <;> omega
    rw [← hR.length]; omega
  refine wpAny_bind (wpAny_lookBehind D' (pastItsLine_dict (by rw [List.size_toArray, sizeLine_eq]; omega)) ?_)
  refine wpAny_pure ?_
  obtain ⟨I₂, _⟩ := I.upd (o' := .attrs (put l name v)) (t := s.toks + 1 + 1) h1 hs ⟨_, _, D', hR⟩
  exact ⟨_, θ, I₂, g, h⟩
end
end Mine
end
section
open PySem PySem.W PySem.Calls PyProof.Rows
set_option linter.unusedVariables false
namespace Mine
section
variable {c : Cx} {sc : Sc} {d : Nat} {ρ : Vars} {σ : St} {Q : Post} {R : Fl → Vars → St → Prop} {A : Around} {env : Env} {s s₁ : Shared} {θ θ₁ : List Addr} {a b : Int} {x y : Str}
-- ints
theorem BIN_add (h : Q (.int (a + b)) σ) : BIN c d .Add (.int a) (.int b) σ Q := fun A s θ a' b' r I ra rb => by cases ra; cases rb; exact add_int (I.okVt (.int _ _) h)
theorem BIN_sub (h : Q (.int (a - b)) σ) : BIN c d .Sub (.int a) (.int b) σ Q := fun A s θ a' b' r I ra rb => by cases ra; cases rb; exact sub_int (I.okVt (.int _ _) h)
theorem BIN_mul (hm : PySem.IntMulOk a b) (h : Q (.int (a * b)) σ) : BIN c d .Mult (.int a) (.int b) σ Q := fun A s θ a' b' r I ra rb => by cases ra; cases rb; exact PySem.AutoIntOps.mul_0 (I.okVt (.int _ _) h) hm
theorem BIN_mod (hb : b ≠ 0) (h : Q (.int (a.fmod b)) σ) : BIN c d .Mod (.int a) (.int b) σ Q := fun A s θ a' b' r I ra rb => by cases ra; cases rb; exact mod_int hb (I.okVt (.int _ _) h)
theorem BIN_floordiv (hb : b ≠ 0) (hp : Builtin.divisionGoesByPylong a b = false) (h : Q (.int (a.fdiv b)) σ) : BIN c d .FloorDiv (.int a) (.int b) σ Q := fun A s θ a' b' r I ra rb => by
  cases ra; cases rb; exact PySem.AutoIntOps.floordiv_1 (by simpa using hb) (by rw [hp]; exact Bool.false_ne_true) (I.okVt (.int _ _) h)
theorem BIN_lshift (hb : 0 ≤ b) (hz : (Builtin.Int.intBits a : Int) + b ≤ 2 ^ 27) (h : Q (.int (a * 2 ^ b.toNat)) σ) : BIN c d .LShift (.int a) (.int b) σ Q := fun A s θ a' b' r I ra rb => by cases ra; cases rb; exact lshift_int hb hz (I.okVt (.int _ _) h)
theorem BIN_and (h : Q (.int (Builtin.bitAnd a b)) σ) : BIN c d .BitAnd (.int a) (.int b) σ Q := fun A s θ a' b' r I ra rb => by cases ra; cases rb; exact and_int (I.okVt (.int _ _) h)
theorem BIN_or (h : Q (.int (Builtin.bitOr a b)) σ) : BIN c d .BitOr (.int a) (.int b) σ Q := fun A s θ a' b' r I ra rb => by cases ra; cases rb; exact or_int (I.okVt (.int _ _) h)
theorem CMP_lt (h : Q (.bool (decide (a < b))) σ) : CMP c d .Lt (.int a) (.int b) σ Q := fun A s θ a' b' r I ra rb => by cases ra; cases rb; exact lt_int (I.okV (.bool _) h)
theorem CMP_gt (h : Q (.bool (decide (b < a))) σ) : CMP c d .Gt (.int a) (.int b) σ Q := fun A s θ a' b' r I ra rb => by cases ra; cases rb; exact gt_int (I.okV (.bool _) h)
theorem CMP_le (h : Q (.bool (decide (a ≤ b))) σ) : CMP c d .LtE (.int a) (.int b) σ Q := fun A s θ a' b' r I ra rb => by cases ra; cases rb; exact le_int (I.okV (.bool _) h)
theorem CMP_ge (h : Q (.bool (decide (b ≤ a))) σ) : CMP c d .GtE (.int a) (.int b) σ Q := fun A s θ a' b' r I ra rb => by cases ra; cases rb; exact ge_int (I.okV (.bool _) h)
theorem CMP_eq (h : Q (.bool (decide (a = b))) σ) : CMP c d .Eq (.int a) (.int b) σ Q := fun A s θ a' b' r I ra rb => by cases ra; cases rb; exact PyProof.Rows.eq_int (I.okV (.bool _) h)
theorem CMP_ne (h : Q (.bool (!decide (a = b))) σ) : CMP c d .NotEq (.int a) (.int b) σ Q := fun A s θ a' b' r I ra rb => by cases ra; cases rb; exact PyProof.Rows.ne_int (I.okV (.bool _) h)
theorem CMP_eqS (h : Q (.bool (decide (x = y))) σ) : CMP c d .Eq (.str x) (.str y) σ Q := fun A s θ a' b' r I ra rb => by cases ra; cases rb; exact PyProof.Rows.eq_str (I.okV (.bool _) (by rw [show (x == y) = decide (x = y) from by by_cases h : x = y <;> simp [h]]; exact h))
theorem CMP_neS (h : Q (.bool (!decide (x = y))) σ) : CMP c d .NotEq (.str x) (.str y) σ Q := fun A s θ a' b' r I ra rb => by cases ra; cases rb; exact PyProof.Rows.ne_str (I.okV (.bool _) (by rw [show (x != y) = !decide (x = y) from by by_cases h : x = y <;> simp [h]]; exact h))
def isNone : V → Bool
  | .none => true
  | _ => false
theorem CMP_is {v : V} (hv : ∀ u, v ≠ .raw u) (h : Q (.bool (isNone v)) σ) : CMP c d .Is v .none σ Q := fun A s θ a' b' r I ra rb => by
  cases rb
  refine PySem.is_none (I.okV (.bool _) ?_)
  cases ra with
  | raw v => exact absurd rfl (hv _)
  | _ => exact h
theorem CMP_isNot {v : V} (hv : ∀ u, v ≠ .raw u) (h : Q (.bool (!isNone v)) σ) : CMP c d .IsNot v .none σ Q := fun A s θ a' b' r I ra rb => by
  cases rb
  refine PySem.isNot_none (I.okV (.bool _) ?_)
  cases ra with
  | raw v => exact absurd rfl (hv _)
  | _ => exact h
theorem repStrs {h : Heap} : ∀ {ys : List Str} {xs : List Value}, RepVs h θ (ys.map .str) xs → ∀ z ∈ xs, ∃ y t, z = .str y t
  | [], _, .nil, _, m => nomatch m
  | y :: ys, _, .cons a b, z, m => by
    rcases List.mem_cons.mp m with rfl | m
    · cases a; exact ⟨_, _, rfl⟩
    · exact repStrs b z m
def eqTo (x : Str) : Value → Bool
  | .str y _ => y == x
  | _ => false
theorem anyStrs {h : Heap} : ∀ {ys : List Str} {xs : List Value}, RepVs h θ (ys.map .str) xs → xs.any (eqTo x) = decide (x ∈ ys)
  | [], _, .nil => by simp
  | y :: ys, _, .cons a b => by
    cases a
    rw [List.any_cons, anyStrs b]
    show ((y == x) || decide (x ∈ ys)) = _
    by_cases h : x = y
    · subst h; simp
    · have h' : (y == x) = false := by simp; exact fun e => h e.symm
      rw [h']; simp [h]
theorem eqToGives {h : Heap} {ys : List Str} {xs : List Value} (r : RepVs h θ (ys.map .str) xs) (t : Tok) : ∀ z, z ∈ xs.toArray → MeetsSeq.EqGives z (.str x t) (eqTo x z) := fun z m => by
  obtain ⟨y, u, rfl⟩ := repStrs r z (by simpa using m)
  exact eqGives_str _ _ _ _
theorem CMP_inT {ys : List Str} (h : Q (.bool (decide (x ∈ ys))) σ) : CMP c d .In (.str x) (.tup (ys.map .str)) σ Q := fun A s θ a' b' r I ra rb => by
  cases ra; cases rb with
  | tup l a xs ht hr =>
    obtain ⟨n, ht⟩ := ht
    exact PySem.SeqRoads2.in_tuple (eqTo x) (eqToGives hr _) ht (I.okV (.bool _) (by rw [List.any_toArray, anyStrs hr]; exact h))
def getK {K : Type} [DecidableEq K] {α : Type} : List (K × α) → K → Option α
  | [], _ => none
  | (y, v) :: r, x => if y = x then some v else getK r x
def putK {K : Type} [DecidableEq K] {α : Type} (l : List (K × α)) (x : K) (v : α) : List (K × α) :=
  if l.any (fun kv => kv.1 = x) then l.map (fun kv => if kv.1 = x then (kv.1, v) else kv) else l ++ [(x, v)]
theorem RepKs.val {K : Type} [DecidableEq K] {h : Heap} {l : List (K × V)} {kvs : List (K × Value)} (r : RepKs h θ l kvs) (k : K) :
    match getK l k with | some v => ∃ v', valueAt kvs k = some v' ∧ RepV h θ v v' | none => valueAt kvs k = none := by
  induction r with
  | nil => rfl
  | @cons y v x l xs a _ ih =>
    unfold getK
    unfold valueAt
    rw [List.find?_cons]
    by_cases hy : y = k
    · rw [if_pos hy, decide_eq_true hy]; exact ⟨_, rfl, a⟩
    · rw [if_neg hy, decide_eq_false hy]; exact ih
theorem RepKs.some? {K : Type} [DecidableEq K] {h : Heap} {l : List (K × V)} {kvs : List (K × Value)} (r : RepKs h θ l kvs) (k : K) : (valueAt kvs k).isSome = (getK l k).isSome := by
  have := r.val k
  split at this
  · rename_i e; obtain ⟨v', e', _⟩ := this; rw [e, e']; rfl
  · rename_i e; rw [e, this]; rfl
theorem RepKs.any {K : Type} [DecidableEq K] {h : Heap} {l : List (K × V)} {kvs : List (K × Value)} (r : RepKs h θ l kvs) (k : K) : kvs.any (fun kv => kv.1 = k) = l.any (fun kv => kv.1 = k) := by
  induction r with
  | nil => rfl
  | cons a _ ih => rw [List.any_cons, List.any_cons, ih]
theorem RepKs.append {K : Type} {h : Heap} {l : List (K × V)} {kvs : List (K × Value)} (r : RepKs h θ l kvs) {k : K} {v : V} {v' : Value} (rv : RepV h θ v v') : RepKs h θ (l ++ [(k, v)]) (kvs ++ [(k, v')]) := by
  induction r with
  | nil => exact .cons rv .nil
  | cons a _ ih => exact .cons a ih
theorem RepKs.mapped {K : Type} [DecidableEq K] {h : Heap} {l : List (K × V)} {kvs : List (K × Value)} (r : RepKs h θ l kvs) {k : K} {v : V} {v' : Value} (rv : RepV h θ v v') :
    RepKs h θ (l.map fun kv => if kv.1 = k then (kv.1, v) else kv) (kvs.map fun kv => if kv.1 = k then (kv.1, v') else kv) := by
  induction r with
  | nil => exact .nil
  | @cons y u x l xs a _ ih =>
    rw [List.map_cons, List.map_cons]
    by_cases hy : y = k
    · rw [if_pos hy, if_pos hy]; exact .cons rv ih
    · rw [if_neg hy, if_neg hy]; exact .cons a ih
theorem RepKs.stored {K : Type} [DecidableEq K] {h : Heap} {l : List (K × V)} {kvs : List (K × Value)} (r : RepKs h θ l kvs) {k : K} {v : V} {v' : Value} (rv : RepV h θ v v') : RepKs h θ (putK l k v) (PySem.stored kvs k v') := by
  unfold putK PySem.stored
  rw [r.any k]
  split
  · exact r.mapped rv
  · exact r.append rv
theorem RepKs.length {K : Type} {h : Heap} {l : List (K × V)} {kvs : List (K × Value)} (r : RepKs h θ l kvs) : l.length = kvs.length := by
  induction r with
  | nil => rfl
  | cons _ _ ih => exact congrArg Nat.succ ih
theorem Inv.notMods (I : Inv c s θ σ) {n : Nat} {a : Addr} (e : θ[n]? = some a) : (a == sysModules) = false := by
  have := (I.apart a (List.mem_of_getElem? e)).2
  have h1 : a ≠ sysModules := fun z => by rw [z] at this; exact absurd this (by decide)
  simpa using h1
theorem isStr_is (x : Str) (t : Tok) : (strKind c.prog c.w).is x (.str x t) = true := strKind_is c.prog c.w x t
theorem isInt_is (i : Int) (t : Tok) : (intKind c.prog c.w).is i (.int i t) = true := by simp [intKind, Value.isInt]
theorem notIn_of {K : Type} [DecidableEq K] {knd : KeyKind c.prog c.w K} {k : K} {key : Value} {dd : Addr} {f : K → Option Value} {Q : Value → Shared → Prop} {E : Value → Shared → Prop} (hkey : knd.is k key = true) (hd : (dd == sysModules) = false) (hm : s.heap.MapOf knd dd f)
    (h : Q (.bool (!(f k).isSome)) { s with toks := s.toks + 1 }) : wpAny (model c.prog c.w) A (compareOp .NotIn key (.ref dd)) Q E s := wpAny_notIn_of hkey hd hm h
theorem CMP_notInDS {n : Nat} {l : List (Str × V)} (hn : σ[n]? = some (.dictS l)) (h : Q (.bool (!(getK l x).isSome)) σ) : CMP c d .NotIn (.str x) (.loc n) σ Q := fun A s θ a' b' r I ra rb => by
  cases ra
  obtain ⟨a, rfl, e⟩ := rb.ofLoc
  obtain ⟨kvs, hd, hr⟩ := I.rep.obj n _ a hn e
  exact notIn_of (isStr_is x _) (I.notMods e) hd.mapOf (I.okVt (.bool _) (by rw [hr.some?]; exact h))
end
end Mine
end
section
open PySem PySem.W PySem.Calls PyProof.Rows PySem.MeetsSeq PySem.MeetsSeq2 PySem.MeetsSeq3
set_option linter.unusedVariables false
namespace Mine
section
variable {c : Cx} {sc : Sc} {d : Nat} {ρ : Vars} {σ : St} {Q : Post} {B : Bool → St → Prop} {A : Around} {env : Env} {s s₁ : Shared} {θ θ₁ : List Addr} {a b : Int} {x y : Str}
theorem TRU_bool {b : Bool} (h : B b σ) : TRU c d (.bool b) σ B := fun A s θ a' r I ra => by cases ra; exact wpAny_truthy_bool (I.okB h)
theorem TRU_int (h : B (a != 0) σ) : TRU c d (.int a) σ B := fun A s θ a' r I ra => by cases ra; exact P.truthy_int (I.okB h)
theorem TRU_none (h : B false σ) : TRU c d .none σ B := fun A s θ a' r I ra => by cases ra; exact truthy_none (I.okB h)
theorem ET_val {e : Expr} (h : EV c sc d e ρ σ fun v σ₁ => TRU c d v σ₁ B)
    (he : ∀ env, PySem.isTrue e env (eval e env) = (do
          let v ← eval e env
          standAt e.pos
          holding [v] (truthy v)) := by exact fun _ => rfl) : ET c sc d e ρ σ B := fun A env s θ r X I F => by
  refine wpAny_isTrue_value (wpAny_mono (h A env s θ r X I F) (fun v' s₁ h₁ => ?_) fun _ _ x => x) (he env)
  obtain ⟨v, σ₁, θ₁, I₁, g₁, rv, q⟩ := h₁
  exact wpB.trans g₁ (q A s₁ θ₁ v' r I₁ rv)
theorem ET_cmp {l r : Expr} {op : CmpOp} {pos : Pos} (h : EV c sc d l ρ σ fun a σ₁ => EV c sc d r ρ σ₁ fun b σ₂ => CMP c d op a b σ₂ fun v σ₃ => TRU c d v σ₃ B)
    (hm : behindInMarks op r = false := by with_unfolding_all rfl) : ET c sc d (.Compare l [op] [r] pos) ρ σ B := fun A env s θ R X I F => by
  refine wpAny_isTrue_Compare1 (wpAny_mono (h A env s θ R X I F) (fun a' s₁ h₁ => ?_) fun _ _ x => x) hm
  obtain ⟨a, σ₁, θ₁, I₁, g₁, ra, q₁⟩ := h₁
  refine wpAny_mono (q₁ A env s₁ θ₁ R X I₁ (F.grow I.tupOut g₁)) (fun b' s₂ h₂ => ?_) fun _ _ x => x
  obtain ⟨b, σ₂, θ₂, I₂, g₂, rb, q₂⟩ := h₂
  refine wpAny_mono (q₂ A s₂ θ₂ a' b' R I₂ (ra.grow I₁.tupOut g₂) rb) (fun c' s₃ h₃ => ?_) fun _ _ x => x
  obtain ⟨v, σ₃, θ₃, I₃, g₃, rv, q₃⟩ := h₃
  exact wpB.trans ((g₁.trans g₂).trans g₃) (q₃ A s₃ θ₃ c' R I₃ rv)
theorem ET_not {e : Expr} {pos : Pos} (h : ET c sc d e ρ σ fun b σ₁ => B (!b) σ₁) : ET c sc d (.UnaryOp .Not e pos) ρ σ B := fun A env s θ R X I F =>
  wpAny_isTrue_Not (wpAny_mono (h A env s θ R X I F) (fun b s₁ ⟨σ, θ, I, g, q⟩ => ⟨σ, θ, I, g, q⟩) fun _ _ x => x)
def ETA (c : Cx) (sc : Sc) (d : Nat) (op : BoolOp) (es : List Expr) (ρ : Vars) (σ : St) (B : Bool → St → Prop) : Prop :=
  ∀ A env s θ, Room A d → EnvIs sc env → Inv c s θ σ → FrA c s.heap θ env ρ → wpAny (model c.prog c.w) A (allTrue op es env) (OkB c s θ B) NoE s
theorem ET_BoolOp {op : BoolOp} {es : List Expr} {pos : Pos} (h : ETA c sc d op es ρ σ B) : ET c sc d (.BoolOp op es pos) ρ σ B := fun A env s θ R X I F => wpAny_isTrue_BoolOp (h A env s θ R X I F)
theorem ETA_And_nil (h : B true σ) : ETA c sc d .And [] ρ σ B := fun A env s θ R X I F => wpAny_allTrue_And_nil (I.okB h)
theorem ETA_Or_nil (h : B false σ) : ETA c sc d .Or [] ρ σ B := fun A env s θ R X I F => wpAny_allTrue_Or_nil (I.okB h)
theorem ETA_And_cons {e : Expr} {es : List Expr} (h : ET c sc d e ρ σ fun b σ₁ => if b = true then ETA c sc d .And es ρ σ₁ B else B false σ₁) : ETA c sc d .And (e :: es) ρ σ B := fun A env s θ R X I F => by
  refine wpAny_allTrue_And_cons (wpAny_mono (h A env s θ R X I F) (fun b s₁ h₁ => ?_) fun _ _ x => x)
  obtain ⟨σ₁, θ₁, I₁, g₁, q⟩ := h₁
  cases b with
  | true => exact wpB.trans g₁ (q A env s₁ θ₁ R X I₁ (F.grow I.tupOut g₁))
  | false => exact ⟨σ₁, θ₁, I₁, g₁, q⟩
theorem ETA_Or_cons {e : Expr} {es : List Expr} (h : ET c sc d e ρ σ fun b σ₁ => if b = true then B true σ₁ else ETA c sc d .Or es ρ σ₁ B) : ETA c sc d .Or (e :: es) ρ σ B := fun A env s θ R X I F => by
  refine wpAny_allTrue_Or_cons (wpAny_mono (h A env s θ R X I F) (fun b s₁ h₁ => ?_) fun _ _ x => x)
  obtain ⟨σ₁, θ₁, I₁, g₁, q⟩ := h₁
  cases b with
  | true => exact ⟨σ₁, θ₁, I₁, g₁, q⟩
  | false => exact wpB.trans g₁ (q A env s₁ θ₁ R X I₁ (F.grow I.tupOut g₁))
theorem EV_neg {e : Expr} {pos : Pos} (h : EV c sc d e ρ σ fun v σ₁ => ∃ i, v = .int i ∧ Q (.int (-i)) σ₁) : EV c sc d (.UnaryOp .USub e pos) ρ σ Q := fun A env s θ R X I F => by
  refine wpAny_UnaryOp (wpAny_mono (h A env s θ R X I F) (fun v' s₁ h₁ => ?_) fun _ _ x => x)
  obtain ⟨v, σ₁, θ₁, I₁, g₁, rv, i, rfl, q⟩ := h₁
  cases rv
  exact neg_int (.trans g₁ (I₁.okVt (.int _ _) q))
theorem EV_not {e : Expr} {pos : Pos} (h : EV c sc d e ρ σ fun v σ₁ => TRU c d v σ₁ fun b σ₂ => Q (.bool !b) σ₂) : EV c sc d (.UnaryOp .Not e pos) ρ σ Q := fun A env s θ R X I F => by
  refine wpAny_UnaryOp (wpAny_mono (h A env s θ R X I F) (fun v' s₁ h₁ => ?_) fun _ _ x => x)
  obtain ⟨v, σ₁, θ₁, I₁, g₁, rv, q⟩ := h₁
  refine not_value (wpAny_mono (q A s₁ θ₁ v' R I₁ rv) (fun b s₂ h₂ => ?_) fun _ _ x => x)
  obtain ⟨σ₂, θ₂, I₂, g₂, q₂⟩ := h₂
  exact ⟨.bool !b, σ₂, θ₂, I₂, g₁.trans g₂, .bool _, q₂⟩
end
end Mine
end
section
open PySem PySem.W PySem.Calls PyProof.Rows PySem.MeetsSeq PySem.MeetsSeq2 PySem.MeetsSeq3
set_option linter.unusedVariables false
namespace Mine
section
variable {c : Cx} {sc : Sc} {d : Nat} {ρ : Vars} {σ : St} {Q : Post} {R : Fl → Vars → St → Prop} {A : Around} {env : Env} {s s₁ : Shared} {θ θ₁ : List Addr} {x y : Str}
def isList (σ : St) (v : V) (l : List V) : Prop := v = .lst l ∨ ∃ n, v = .loc n ∧ (σ[n]? = some (.list l) ∨ ∃ xs k, σ[n]? = some (.fz xs k l))
theorem Inv.asL (I : Inv c s θ σ) {v : V} {l : List V} {v' : Value} (h : isList σ v l) (r : RepV s.heap θ v v') : ∃ a xs k, v' = .ref a ∧ IsL s.heap a xs.toArray k ∧ RepVs s.heap θ l xs := by
  rcases h with rfl | ⟨n, rfl, h⟩
  · cases r with | lst l a xs n nm hl hs => exact ⟨a, xs, n, rfl, hl, hs⟩
  · obtain ⟨a, rfl, e⟩ := r.ofLoc
    rcases h with h | ⟨xs, k, h⟩
    · obtain ⟨xs, k, hl, rl⟩ := I.rep.obj n _ a h e; exact ⟨a, xs, k, rfl, hl, rl⟩
    · obtain ⟨hl, rl⟩ := I.rep.obj n _ a h e; exact ⟨a, xs, k, rfl, hl, rl⟩
theorem Inv.frozen (I : Inv c s θ σ) {vs : List V} {vs' : List Value} {t : Nat} (r : RepVs s.heap θ vs vs') (q : Q (.lst vs) σ) :
    OkV c s θ Q (.ref s.heap.objs.size) { s with heap := s.heap.push { cls := .type "list", data := .seq vs'.toArray }, toks := t } := by
  have k : ∀ b o, s.heap.get? b = some o → (s.heap.push { cls := .type "list", data := .seq vs'.toArray }).get? b = some o := fun b o e => Heap.get?_push_of_some _ e
  exact ⟨.lst vs, σ, θ, I.keeps k, grow_keeps k, .lst vs _ vs' 0 (I.new (Nat.le_refl _)).1 (Heap.get?_push_size _ rfl) (r.grow I.tupOut (grow_keeps k)), q⟩
theorem EV_ListF {es : List Expr} {pos : Pos} (h : EVs c sc d es ρ σ fun vs σ₁ => vs.length ≤ 1000 ∧ Q (.lst vs) σ₁) : EV c sc d (.List es pos) ρ σ Q := fun A env s θ r X I F => by
  refine List_ (wpAny_mono (h A env pos s θ r X I F) (fun vs' s₁ h₁ => ?_) fun _ _ x => x)
  obtain ⟨vs, σ₁, θ₁, I₁, g₁, rv, hl, q⟩ := h₁
  exact wpV.trans g₁ (wpAny_newObj_type (by exact I₁.frozen (t := s₁.toks) rv q) (by show vs'.toArray.size ≤ sizeLine; rw [List.size_toArray, ← rv.length, sizeLine_eq]; omega))
def GI (c : Cx) (d : Nat) (o i : V) (σ : St) (Q : Post) : Prop :=
  ∀ A s θ o' i', Room A d → Inv c s θ σ → RepV s.heap θ o o' → RepV s.heap θ i i' →
    (∃ T id, s.TypeIs o' T ∧ typeLookup (.type T) (Str.ofString "__getitem__") = pure (some (.builtin id))) ∧ wpAny (model c.prog c.w) A (getItem o' i') (OkV c s θ Q) NoE s
theorem EV_Sub {o i : Expr} {pos : Pos} (h : EV c sc d o ρ σ fun ov σ₁ => EV c sc d i ρ σ₁ fun iv σ₂ => GI c d ov iv σ₂ Q)
    (hs : ∀ ov iv, ∃ ops, subscripted i false ov iv = operate ops (getItem ov iv) := by exact fun _ _ => ⟨_, rfl⟩) : EV c sc d (.Subscript o i pos) ρ σ Q := fun A env s θ r X I F => by
  refine Subscript_ (wpAny_mono (h A env s θ r X I F) (fun o' s₁ h₁ => ?_) fun _ _ x => x)
  obtain ⟨ov, σ₁, θ₁, I₁, g₁, ro, q₁⟩ := h₁
  refine wpAny_mono (q₁ A env s₁ θ₁ r X I₁ (F.grow I.tupOut g₁)) (fun i' s₂ h₂ => ?_) fun _ _ x => x
  obtain ⟨iv, σ₂, θ₂, I₂, g₂, ri, q₂⟩ := h₂
  obtain ⟨⟨T, id, hT, hl⟩, q⟩ := q₂ A s₂ θ₂ o' i' r I₂ (ro.grow I₁.tupOut g₂) ri
  obtain ⟨ops, hs⟩ := hs o' i'
  exact tail_any hT hl (wpV.trans (g₁.trans g₂) q) hs
theorem GI_list {o v : V} {l : List V} {k : Int} (hl : isList σ o l) (h0 : 0 ≤ k) (hx : l[k.toNat]? = some v) (h : Q v σ) (hz : k < 2 ^ 63 := by decide) : GI c d o (.int k) σ Q := fun A s θ o' i' r I ro ri => by
  cases ri
  obtain ⟨a, xs, n, rfl, hL, rl⟩ := I.asL hl ro
  obtain ⟨v', e, rv⟩ := rl.at hx
  exact ⟨⟨_, _, hL.isList.typeIs, slot_list_getitem.lookup⟩, wpAny_getItem_list hL.isList h0 hz (x := v') (by simpa using e) (I.okV rv h)⟩
theorem GI_tup {v : V} {l : List V} {k : Int} (h0 : 0 ≤ k) (hx : l[k.toNat]? = some v) (h : Q v σ) (hz : k < 2 ^ 63 := by decide) : GI c d (.tup l) (.int k) σ Q := fun A s θ o' i' r I ro ri => by
  cases ri
  cases ro with
  | tup l a xs ht hs =>
    obtain ⟨v', e, rv⟩ := hs.at hx
    have hk : k = (k.toNat : Int) := (Int.toNat_of_nonneg h0).symm
    have hn : k.toNat < xs.length := (List.getElem?_eq_some_iff.mp e).1
    exact ⟨⟨_, _, ht.isTup.typeIs, slot_tuple_getitem.lookup⟩, getItem_tuple ht.isTup (by omega) hz (seqIndex_of h0 (by simpa using (by omega : k < (xs.length : Int)))) (x := v') (by simpa using e) (I.okV rv h)⟩
theorem GI_dictS {n : Nat} {l : List (Str × V)} {v : V} (hn : σ[n]? = some (.dictS l)) (hx : getK l x = some v) (h : Q v σ) : GI c d (.loc n) (.str x) σ Q := fun A s θ o' i' r I ro ri => by
  cases ri
  obtain ⟨a, rfl, e⟩ := ro.ofLoc
  obtain ⟨kvs, hd, hr⟩ := I.rep.obj n _ a hn e
  have q := hr.val x
  rw [hx] at q
  obtain ⟨v', q1, q2⟩ := q
  exact ⟨⟨_, _, hd.typeIs, slot_dict_getitem.lookup⟩, wpAny_getItem_of (isStr_is x _) hd.mapOf q1 (I.okVt q2 h)⟩
theorem GI_dictI {n : Nat} {l : List (Int × V)} {k : Int} {v : V} (hn : σ[n]? = some (.dictI l)) (hx : getK l k = some v) (h : Q v σ) : GI c d (.loc n) (.int k) σ Q := fun A s θ o' i' r I ro ri => by
  cases ri
  obtain ⟨a, rfl, e⟩ := ro.ofLoc
  obtain ⟨kvs, hd, hr⟩ := I.rep.obj n _ a hn e
  have q := hr.val k
  rw [hx] at q
  obtain ⟨v', q1, q2⟩ := q
  exact ⟨⟨_, _, hd.typeIs, slot_dict_getitem.lookup⟩, wpAny_getItem_of (isInt_is k _) hd.mapOf q1 (I.okVt q2 h)⟩
theorem GI_str {k : Int} {ch : Nat} (h0 : 0 ≤ k) (hx : x.cps[k.toNat]? = some ch) (h : Q (.str ⟨#[ch]⟩) σ) (hz : k < 2 ^ 63 := by decide) : GI c d (.str x) (.int k) σ Q := fun A s θ o' i' r I ro ri => by
  cases ri; cases ro
  have hn : k.toNat < x.cps.size := (Array.getElem?_eq_some_iff.mp hx).1
  refine ⟨⟨_, _, (by exact rfl), slot_str_getitem.lookup⟩, getItem_str (c := ch) ?_ ?_ (I.okVt (.str _ _) h)⟩
  · simp; omega
  · rw [seqIndex_of h0 (by show k < (x.length : Int); unfold Str.length; omega)]; exact hx
end
end Mine
end
section
open PySem PySem.W PySem.Calls PyProof.Rows PySem.MeetsSeq PySem.MeetsSeq2 PySem.MeetsSeq3
set_option linter.unusedVariables false
namespace Mine
section
variable {prog : Program} {w : World} {A : Around} {E : Value → Shared → Prop} {s : Shared}
theorem draw_list {it t : Addr} {items : Array Value} (hne : t ≠ it) : ∀ (n i : Nat) (s : Shared) (Q : List Value → Shared → Prop), s.heap.IsListIter it t i → s.heap.IsList t items → i + n ≤ items.size →
    (∀ h', h'.IsListIter it t (i + n) → Heap.SameBut it s.heap h' → Q ((items.toList.drop i).take n) { s with heap := h' }) → wpAny (model prog w) A (draw (.ref it) n) Q E s
  | 0, i, s, Q, hit, _, _, hQ => by
    show wpAny _ _ (pure []) Q E s
    exact wpAny_pure (by simpa using hQ s.heap hit (Heap.SameBut.refl ..))
  | n + 1, i, s, Q, hit, ht, hle, hQ => by
    have hlt : i < items.size := by omega
    show wpAny _ _ (pyNext (.ref it) >>= _) Q E s
    refine wpAny_bind (wpAny_pyNext_list_item hit ht (x := items[i]) (by simp [hlt]) fun h₁ hit₁ hs₁ => ?_)
    refine wpAny_bind (wpAny_holding (draw_list hne n (i + 1) _ _ hit₁ (ht.extBut hs₁.extBut hne) (by omega) fun h₂ hit₂ hs₂ => wpAny_pure ?_))
    have hd : items.toList.drop i = items[i] :: items.toList.drop (i + 1) := by simp [List.drop_eq_getElem_cons, hlt]
    have := hQ h₂ (by rw [show i + (n + 1) = i + 1 + n by omega]; exact hit₂) (hs₁.trans hs₂)
    rw [hd, List.take_succ_cons] at this
    exact this
theorem unpackItems_list {t : Addr} {items : Array Value} {Q : List Value → Shared → Prop} (hh : A.handled = none) (ht : s.heap.IsList t items)
    (hQ : ∀ h', Heap.ExtBut s.heap.objs.size s.heap h' → Q items.toList { s with heap := h' }) : wpAny (model prog w) A (unpackItems (.ref t) items.size none) Q E s := by
  have hlt : t ≠ s.heap.objs.size := by obtain ⟨o, ho, _⟩ := ht; exact Nat.ne_of_lt (Heap.lt_size ho)
  unfold unpackItems
  refine wpAny_bind ?_
  · unfold notIterableAtAll
    refine wpAny_bind (wpAny_specialOf ht.typeIs F.slot_list_iter.lookup ?_)
    refine wpAny_pure ?_
    simp only [Bool.false_eq_true, if_false]
    refine wpAny_bind (wpAny_holding (wpAny_pyIter_list ht ?_))
    refine wpAny_bind (wpAny_holding (draw_list hlt items.size 0 _ _ ⟨_, Heap.get?_push_size _ rfl, rfl, rfl⟩ (ht.push _) (by omega) fun h₁ hit₁ hs₁ => ?_))
    have hall : List.take items.size (List.drop 0 items.toList) = items.toList := by
      rw [List.drop_zero]; exact List.take_of_length_le (by simp)
    rw [hall]
    rw [if_neg (by simp)]
    have ht₁ : h₁.IsList t items := (ht.push _).extBut hs₁.extBut hlt
    refine wpAny_bind (wpAny_holding (wpAny_pyNext_list_end hh hit₁ ht₁ (by simp) fun h₂ he₂ => ?_))
    simp only [Option.isSome_none, Bool.false_eq_true, if_false]
    refine wpAny_pure (hQ h₂ fun b o hb e => he₂ b o hb (hs₁.extBut b o hb (Heap.get?_push_of_some _ e)))
theorem unpack_list {t : Addr} {items : Array Value} {targets : List (Bool × (Value → Sem Unit))} {Q : Unit → Shared → Prop} (hh : A.handled = none) (ht : s.heap.IsList t items)
    (hn : targets.length = items.size) (hstar : targets.findIdx? (·.1) = none)
    (h : ∀ h', Heap.ExtBut s.heap.objs.size s.heap h' → wpAny (model prog w) A (assignInOrder (targets.map (·.2)) items.toList) Q E { s with heap := h' }) :
    wpAny (model prog w) A (unpack (.ref t) targets) Q E s := by
  unfold unpack
  rw [hn, hstar]
  exact wpAny_bind (wpAny_holding (unpackItems_list hh ht h))
theorem setItem_listL {l : Addr} {items : Array Value} {k : Int} {t : Tok} {v : Value} {Q : Unit → Shared → Prop} (hl : s.heap.IsList l items)
    (h0 : 0 ≤ k) (hfit : k < 2 ^ 63) (hn : k < items.size)
    (hQ : Q () { s with heap := s.heap.update l (Obj.mapSeq (·.setIfInBounds k.toNat v)) }) :
    wpAny (model prog w) A (setItem (.ref l) (.int k t) v) Q E s := by
  obtain ⟨o, ho, hc, ne, hd⟩ := id hl
  unfold setItem
  try with_reducible refine wpAny_holding ?_
  first | refine wpAny_bind (wpAny_pure ?_) | skip
  refine wpAny_bind (wpAny_sequenceKey hl.typeIs (by decide) ?_)
  refine wpAny_bind (wpAny_callSpecial?_slot (name := Str.ofString "__setitem__") hl.typeIs slot_list_setitem
    (wpAny_call_entry slot_list_setitem hl.typeIs entry_list_setitem ?_ (args_list_setitem _ _ _)))
  show wpAny _ _ (Builtin.List.listSubscript? (.int k t) >>= _) _ _ s
  refine wpAny_bind (wpAny_listSubscript_int (fitsIndex_of h0 hfit) ?_)
  clear hfit
  obtain ⟨j, rfl⟩ := Int.eq_ofNat_of_zero_le h0
  have hj : j < items.size := by omega
  have hx' : items[j]? = some items[j] := Array.getElem?_eq_getElem hj
  show wpAny _ _ ((seqItemAt l j >>= fun r => pure (r.map (j, ·))) >>= _) _ _ s
  refine wpAny_bind (wpAny_bind (wpAny_seqItemAt ho hd (wpAny_pure ?_)))
  rw [hx']
  show wpAny _ _ (setSeqItemAt l j v >>= _) _ _ s
  refine wpAny_bind (wpAny_setSeqItemAt ho hd ?_)
  first
    | exact wpAny_bind (wpAny_pure (wpAny_pure ⟨.none, rfl, wpAny_pure hQ⟩))
    | exact wpAny_pure ⟨.none, rfl, wpAny_pure hQ⟩
end
def namesOf : List Expr → Option (List Str)
  | [] => some []
  | .Name x _ :: r => (namesOf r).map (x :: ·)
  | _ => none
theorem namesOf_cons {e : Expr} {es : List Expr} {xs : List Str} (h : namesOf (e :: es) = some xs) : ∃ x p ys, e = .Name x p ∧ xs = x :: ys ∧ namesOf es = some ys := by
  cases e <;> first | cases h | skip
  rename_i x p
  unfold namesOf at h
  obtain ⟨ys, h1, rfl⟩ := Option.map_eq_some_iff.mp h
  exact ⟨x, p, ys, rfl, rfl, h1⟩
theorem assignEach_len (env : Env) : ∀ (es : List Expr), (assignEach es env).length = es.length
  | [] => rfl
  | e :: es => by
    have := assignEach_len env es
    cases e <;> (unfold assignEach; rw [List.length_cons, List.length_cons, this])
theorem assignEach_noStar (env : Env) : ∀ (es : List Expr) {xs : List Str}, namesOf es = some xs → (assignEach es env).findIdx? (·.1) = none
  | [], _, _ => rfl
  | e :: es, xs, h => by
    obtain ⟨x, p, ys, rfl, rfl, h1⟩ := namesOf_cons h
    have := assignEach_noStar env es h1
    unfold assignEach
    rw [List.findIdx?_cons, this]; rfl
theorem namesOf_len : ∀ {es : List Expr} {xs : List Str}, namesOf es = some xs → es.length = xs.length
  | [], _, h => by cases h; rfl
  | e :: es, xs, h => by
    obtain ⟨x, p, ys, rfl, rfl, h1⟩ := namesOf_cons h
    rw [List.length_cons, List.length_cons, namesOf_len h1]
section
variable {c : Cx} {sc : Sc} {d : Nat} {ρ : Vars} {σ : St} {Q : Post} {R : Fl → Vars → St → Prop} {A : Around} {env : Env} {s s₁ : Shared} {θ θ₁ : List Addr} {x y : Str}
def kindOk (sc : Sc) (x : Str) : Prop := sc.scope.names.lookup x = some .local ∨ sc.scope.names.lookup x = some .cell
inductive StL (M : Model) (A : Around) (env : Env) : List Str → List (Value → Sem Unit) → Prop
  | nil : StL M A env [] []
  | cons {x : Str} {f : Value → Sem Unit} {xs : List Str} {fs : List (Value → Sem Unit)} : (∀ v' (P : Unit → Shared → Prop) s, wpAny M A (storeName env x v') P NoE s → wpAny M A (f v') P NoE s) → StL M A env xs fs → StL M A env (x :: xs) (f :: fs)
theorem FrA.ownNoT (F : FrA c s.heap θ env ρ) : ∀ b, own env b → ∀ items, ¬ IsT s.heap b items := by
  rintro b (rfl | ⟨n', e'⟩) items ⟨n, e⟩
  · obtain ⟨m, cm, hm, hc, hr⟩ := F.at_; obtain ⟨o', es, ep, e2, hd2, _⟩ := hm; rw [e] at e2; cases e2; cases hd2
  · obtain ⟨m, cm, hm, hc, hr⟩ := F.at_; obtain ⟨o', e2, hd2⟩ := hc n' b e'; rw [e] at e2; cases e2; cases hd2
theorem FrA.ownNoL (F : FrA c s.heap θ env ρ) : ∀ b, own env b → ∀ items n, ¬ IsL s.heap b items n := by
  rintro b (rfl | ⟨n', e'⟩) items n e
  · obtain ⟨m, cm, hm, hc, hr⟩ := F.at_; obtain ⟨o', es, ep, e2, hd2, _⟩ := hm; rw [show s.heap.get? _ = _ from e] at e2; cases e2; cases hd2
  · obtain ⟨m, cm, hm, hc, hr⟩ := F.at_; obtain ⟨o', e2, hd2⟩ := hc n' b e'; rw [show s.heap.get? _ = _ from e] at e2; cases e2; cases hd2
theorem repSame (F : FrA c s.heap θ env ρ) (hsame : ∀ a, ¬ own env a → s₁.heap.get? a = s.heap.get? a) {v : V} {x : Value} (q : RepV s.heap θ v x) : RepV s₁.heap θ v x :=
  RepV.rec (motive_1 := fun v v' _ => RepV s₁.heap θ v v') (motive_2 := fun v v' _ => RepVs s₁.heap θ v v') .none .bool .int .str .raw .loc
    (fun l b xs ht _ ih => .tup l b xs (by obtain ⟨n, e⟩ := ht; exact ⟨n, (hsame b fun o => F.ownNoT b o _ ⟨n, e⟩).trans e⟩) ih)
    (fun l b xs n nm e _ ih => .lst l b xs n nm ((hsame b fun o => F.ownNoL b o _ _ e).trans e) ih) .nil (fun _ _ a b => .cons a b) q
theorem inOrder_ok (X : EnvIs sc env) {xs : List Str} {fs : List (Value → Sem Unit)} (L : StL (model c.prog c.w) A env xs fs) :
    ∀ (vs : List V) (vs' : List Value) (ρ : Vars) (s : Shared), Inv c s θ σ → FrA c s.heap θ env ρ → RepVs s.heap θ vs vs' → xs.length = vs.length → (∀ x ∈ xs, kindOk sc x) →
    ∀ {P : Unit → Shared → Prop}, (∀ s₁, Inv c s₁ θ σ → FrA c s₁.heap θ env (binds xs vs ρ) → GrowX (own env) s.heap θ s₁.heap θ → P () s₁) → wpAny (model c.prog c.w) A (assignInOrder fs vs') P NoE s := by
  induction L with
  | nil =>
    intro vs vs' ρ s I F rv hl hk P h
    cases vs with
    | cons => cases hl
    | nil => cases rv; exact wpAny_pure (h s I F (GrowX.refl ..))
  | @cons x f xs fs hf L ih =>
    intro vs vs' ρ s I F rv hl hk P h
    cases rv with
    | nil => cases hl
    | @cons v v' vs vs' ra rb =>
      show wpAny _ _ (holding vs' (f v') >>= fun _ => assignInOrder fs vs') _ _ _
      refine wpAny_bind (wpAny_holding (hf v' _ s (storeName_ok X I F (hk x List.mem_cons_self) ra fun s₁ I₁ F₁ g₁ hsame => ?_)))
      exact ih vs vs' (put ρ x v) s₁ I₁ F₁ (rb.mapM fun q => repSame F hsame q) (by simpa using hl) (fun y hy => hk y (List.mem_cons_of_mem _ hy)) fun s₂ I₂ F₂ g₂ => h s₂ I₂ F₂ (GrowX.trans F₁.ownX g₁ g₂)
theorem stl_names {M : Model} : ∀ {es : List Expr} {xs : List Str}, namesOf es = some xs → StL M A env xs ((assignEach es env).map (·.2))
  | [], _, h => by cases h; exact .nil
  | e :: es, xs, h => by
    obtain ⟨x, p, ys, rfl, rfl, h1⟩ := namesOf_cons h
    unfold assignEach
    exact .cons (fun v' P s h => wpAny_assign_Name h) (stl_names h1)
theorem stl_binds {M : Model} : ∀ (xs : List Str), StL M A env xs (xs.map fun n => bindName env n)
  | [] => .nil
  | x :: xs => .cons (fun v' P s h => wpAny_bindName h) (stl_binds xs)
inductive AS (sc : Sc) : Expr → V → Vars → Vars → Prop
  | name {x : Str} {p : Pos} {v : V} {ρ : Vars} : kindOk sc x → AS sc (.Name x p) v ρ (put ρ x v)
  | tup {es : List Expr} {k : Nat} {p : Pos} {xs : List Str} {vs : List V} {ρ : Vars} : namesOf es = some xs → xs.length = vs.length → (∀ x ∈ xs, kindOk sc x) → AS sc (.Tuple es k p) (.tup vs) ρ (binds xs vs ρ)
  | lst {es : List Expr} {k : Nat} {p : Pos} {xs : List Str} {vs : List V} {ρ : Vars} : namesOf es = some xs → xs.length = vs.length → (∀ x ∈ xs, kindOk sc x) → AS sc (.Tuple es k p) (.lst vs) ρ (binds xs vs ρ)
theorem Inv.extNew (I : Inv c s θ σ) {h' : Heap} (e : Heap.ExtBut s.heap.objs.size s.heap h') : ∀ b o, s.heap.get? b = some o → h'.get? b = some o := fun b o x => e b o (Nat.ne_of_lt (Heap.lt_size x)) x
theorem Inv.ext (I : Inv c s θ σ) (F : FrA c s.heap θ env ρ) {h' : Heap} (e : Heap.ExtBut s.heap.objs.size s.heap h') : Inv c { s with heap := h' } θ σ ∧ FrA c h' θ env ρ ∧ Grow s.heap θ h' θ ∧ ∀ {v : V} {x : Value}, RepV s.heap θ v x → RepV h' θ v x :=
  have g : Grow s.heap θ h' θ := grow_keeps (I.extNew e)
  ⟨I.keeps (I.extNew e), F.grow I.tupOut g, g, fun q => q.grow I.tupOut g⟩
theorem assign_ok (X : EnvIs sc env) (I : Inv c s θ σ) (F : FrA c s.heap θ env ρ) (hh : A.handled = none) {t : Expr} {v : V} {v' : Value} {ρ' : Vars} (a : AS sc t v ρ ρ') (r : RepV s.heap θ v v')
    {P : Unit → Shared → Prop} (h : ∀ s₁, Inv c s₁ θ σ → FrA c s₁.heap θ env ρ' → GrowX (own env) s.heap θ s₁.heap θ → P () s₁) : wpAny (model c.prog c.w) A (assign t env v') P NoE s := by
  cases a with
  | name hk => exact wpAny_assign_Name (storeName_ok X I F hk r fun s₁ I₁ F₁ g₁ _ => h s₁ I₁ F₁ g₁)
  | @tup es k p xs vs ρ hn hl hk =>
    cases r with
    | tup l b ys ht hr =>
      refine wpAny_assign_Tuple hh ht.isTup ?_ (assignEach_noStar env es hn) fun h' e => ?_
      · rw [assignEach_len, namesOf_len hn, hl, hr.length]; simp
      · obtain ⟨I', F', g', q'⟩ := I.ext F e
        exact inOrder_ok X (stl_names hn) vs _ ρ _ I' F' (by simpa using hr.mapM q') hl hk fun s₁ I₁ F₁ g₁ => h s₁ I₁ F₁ (GrowX.trans F'.ownX g'.x g₁)
  | @lst es k p xs vs ρ hn hl hk =>
    cases r with
    | lst l b ys n nm ht hr =>
      rw [arm_assign_Tuple]
      refine wpAny_bind (wpAny_standAt (unpack_list hh (IsL.isList (n := n) ht) ?_ (assignEach_noStar env es hn) fun h' e => ?_))
      · rw [assignEach_len, namesOf_len hn, hl, hr.length]; simp
      · obtain ⟨I', F', g', q'⟩ := I.ext F e
        exact inOrder_ok X (stl_names hn) vs _ ρ _ I' F' (by simpa using hr.mapM q') hl hk fun s₁ I₁ F₁ g₁ => h s₁ I₁ F₁ (GrowX.trans F'.ownX g'.x g₁)
theorem EX_AssignSw {es : List Expr} {k : Nat} {tp pos : Pos} {value : Expr} {xs : List Str} (hk : ∀ x ∈ xs, kindOk sc x) (h : EV c sc d value ρ σ fun v σ₁ => ∃ vs, v = .tup vs ∧ xs.length = vs.length ∧ R .next (binds xs.reverse vs.reverse ρ) σ₁)
    (hw : ∀ env : Env, env.scope = sc.scope → swappedStores [.Tuple es k tp] value env = pure (some xs))
    (hs : ∀ env, swapsWithSole [.Tuple es k tp] value pos.line env = pure false := by intro _; rfl) : EX c sc d (.Assign [.Tuple es k tp] value pos) ρ σ R := fun A env s θ r X I F => by
  refine Assign_Tuple_swapped (wpAny_mono (h A env s θ r X I F) (fun v' s₁ h₁ => ?_) fun _ _ x => x) (hs env) (hw env X.scope)
  obtain ⟨v, σ₁, θ₁, I₁, g₁, rv, vs, rfl, hl, q⟩ := h₁
  have F₁ := F.grow I.tupOut g₁
  cases rv with
  | tup l b ys ht hr =>
    have e : xs.length = ys.toArray.size := by rw [hl, hr.length]; simp
    rw [e]
    refine wpAny_unpackItems_tuple r.handled ht.isTup fun h' e => ?_
    obtain ⟨I', F', g', q'⟩ := I₁.ext F₁ e
    exact inOrder_ok X (stl_binds xs.reverse) vs.reverse _ ρ _ I' F' (by simpa using (hr.mapM q').reverse) (by simpa using hl) (fun x hx => hk x (by simpa using hx)) fun s₂ I₂ F₂ g₂ =>
      ⟨.next, _, σ₁, θ₁, I₂, F₂, GrowX.trans F₁.ownX g₁.x (GrowX.trans F'.ownX g'.x g₂), .next, q⟩
theorem EX_AssignAttr {o value : Expr} {attr : Str} {pos' pos : Pos} (h : EV c sc d value ρ σ fun v σ₁ => EV c sc d o ρ σ₁ fun ov σ₂ => ∃ n k C l, ov = .loc n ∧ σ₂[n]? = some (.inst C k) ∧ σ₂[k]? = some (.attrs l) ∧ StoreOf c.K C attr ∧ l.length ≤ 900 ∧ R .next ρ (σ₂.set k (.attrs (put l attr v)))) (Cc : CxOk c)
    (hs : ∀ env, swapsWith value (some (.Attribute o attr pos')) pos.line env = pure false := by intro _; rfl) : EX c sc d (.Assign [.Attribute o attr pos'] value pos) ρ σ R := fun A env s θ r X I F => by
  refine plainObj_wpAny_Assign_Attribute (wpAny_mono (h A env s θ r X I F) (fun v' s₁ h₁ => ?_) fun _ _ x => x) (hs env)
  obtain ⟨v, σ₁, θ₁, I₁, g₁, rv, q⟩ := h₁
  have F₁ := F.grow I.tupOut g₁
  refine wpAny_mono (q A env s₁ θ₁ r X I₁ F₁) (fun o' s₂ h₂ => ?_) fun _ _ x => x
  obtain ⟨ov, σ₂, θ₂, I₂, g₂, ro, n, k, C, l, rfl, h1, h2, h3, h4, q⟩ := h₂
  have F₂ := F₁.grow I₁.tupOut g₂
  refine wpAny_mono (setAttr_ok (Q := fun σ' => σ' = σ₂.set k (.attrs (put l attr v))) Cc I₂ ro (rv.grow I₁.tupOut g₂) h1 h2 h3 h4 rfl) (fun _ s₃ h₃ => ?_) fun _ _ x => x
  obtain ⟨σ₃, θ₃, I₃, g₃, rfl⟩ := h₃
  exact ⟨.next, ρ, _, θ₃, I₃, F₂.grow I₂.tupOut g₃, ((g₁.trans g₂).trans g₃).x, .next, q⟩
def SI (c : Cx) (d : Nat) (o i v : V) (σ : St) (Q : St → Prop) : Prop :=
  ∀ A s θ o' i' v', Room A d → Inv c s θ σ → RepV s.heap θ o o' → RepV s.heap θ i i' → RepV s.heap θ v v' → wpAny (model c.prog c.w) A (setItem o' i' v') (OkU c s θ Q) NoE s
theorem EX_AssignSub {o i value : Expr} {pos' pos : Pos} (h : EV c sc d value ρ σ fun v σ₁ => EV c sc d o ρ σ₁ fun ov σ₂ => EV c sc d i ρ σ₂ fun iv σ₃ => SI c d ov iv v σ₃ fun σ₄ => R .next ρ σ₄)
    (hs : ∀ env, swapsWith value (some (.Subscript o i pos')) pos.line env = pure false := by intro _; rfl) : EX c sc d (.Assign [.Subscript o i pos'] value pos) ρ σ R := fun A env s θ r X I F => by
  refine wpAny_Assign_Subscript (wpAny_mono (h A env s θ r X I F) (fun v' s₁ h₁ => ?_) fun _ _ x => x) (hs env)
  obtain ⟨v, σ₁, θ₁, I₁, g₁, rv, q⟩ := h₁
  have F₁ := F.grow I.tupOut g₁
  refine wpAny_mono (q A env s₁ θ₁ r X I₁ F₁) (fun o' s₂ h₂ => ?_) fun _ _ x => x
  obtain ⟨ov, σ₂, θ₂, I₂, g₂, ro, q⟩ := h₂
  have F₂ := F₁.grow I₁.tupOut g₂
  refine wpAny_mono (q A env s₂ θ₂ r X I₂ F₂) (fun i' s₃ h₃ => ?_) fun _ _ x => x
  obtain ⟨iv, σ₃, θ₃, I₃, g₃, ri, q⟩ := h₃
  have F₃ := F₂.grow I₂.tupOut g₃
  refine wpAny_mono (q A s₃ θ₃ o' i' v' r I₃ (ro.grow I₂.tupOut g₃) ri ((rv.grow I₁.tupOut g₂).grow I₂.tupOut g₃)) (fun _ s₄ h₄ => ?_) fun _ _ x => x
  obtain ⟨σ₄, θ₄, I₄, g₄, q⟩ := h₄
  exact ⟨.next, ρ, σ₄, θ₄, I₄, F₃.grow I₃.tupOut g₄, (((g₁.trans g₂).trans g₃).trans g₄).x, .next, q⟩
theorem SI_list {n : Nat} {l : List V} {k : Int} {v : V} {Q : St → Prop} (hn : σ[n]? = some (.list l)) (h0 : 0 ≤ k) (hk : k < l.length) (h : Q (σ.set n (.list (l.set k.toNat v)))) (hz : k < 2 ^ 63 := by decide) : SI c d (.loc n) (.int k) v σ Q := fun A s θ o' i' v' r I ro ri rv => by
  cases ri
  obtain ⟨a, rfl, e⟩ := ro.ofLoc
  obtain ⟨xs, m, hl, rl⟩ := I.isL hn e
  refine setItem_listL hl.isList h0 hz (by rw [List.size_toArray, ← rl.length]; exact hk) ?_
  obtain ⟨v₂, σ₂, θ₂, I₂, g₂, _, q⟩ := I.listUpd (Q := fun _ σ' => σ' = σ.set n (.list (l.set k.toNat v))) (t := s.toks) (ys := xs.set k.toNat v') (l' := l.set k.toNat v) (f := (·.setIfInBounds k.toNat v')) (v := .none) (v' := .none) e hl (by simp) (rl.set _ rv) .none rfl
  exact ⟨_, θ₂, I₂, g₂, q ▸ h⟩
theorem SI_dictS {n : Nat} {l : List (Str × V)} {v : V} {Q : St → Prop} (hn : σ[n]? = some (.dictS l)) (hz : l.length ≤ 9000) (h : Q (σ.set n (.dictS (putK l x v)))) : SI c d (.loc n) (.str x) v σ Q := fun A s θ o' i' v' r I ro ri rv => by
  cases ri
  obtain ⟨a, rfl, e⟩ := ro.ofLoc
  obtain ⟨kvs, hd, hr⟩ := I.rep.obj n _ a hn e
  refine wpAny_setItem_pairs (isStr_is x _) hd (fun h' hd' hs => ?_) (by rw [← hr.length, sizeLine_eq]; omega)
  have g : Grow s.heap θ h' θ := ⟨⟨[], (List.append_nil _).symm⟩, fun _ m n => (n m).elim, fun b o e' n => (hs.2 b (fun z => n (z ▸ List.mem_of_getElem? e))).trans e'⟩
  obtain ⟨I', g'⟩ := I.upd (o' := .dictS (putK l x v)) (t := s.toks + 1) e hs ⟨_, hd', (hr.grow I.tupOut g).stored (rv.grow I.tupOut g)⟩
  exact ⟨_, θ, I', g', h⟩
theorem SI_dictI {n : Nat} {l : List (Int × V)} {k : Int} {v : V} {Q : St → Prop} (hn : σ[n]? = some (.dictI l)) (hz : l.length ≤ 9000) (h : Q (σ.set n (.dictI (putK l k v)))) : SI c d (.loc n) (.int k) v σ Q := fun A s θ o' i' v' r I ro ri rv => by
  cases ri
  obtain ⟨a, rfl, e⟩ := ro.ofLoc
  obtain ⟨kvs, hd, hr⟩ := I.rep.obj n _ a hn e
  refine wpAny_setItem_pairs (isInt_is k _) hd (fun h' hd' hs => ?_) (by rw [← hr.length, sizeLine_eq]; omega)
  have g : Grow s.heap θ h' θ := ⟨⟨[], (List.append_nil _).symm⟩, fun _ m n => (n m).elim, fun b o e' n => (hs.2 b (fun z => n (z ▸ List.mem_of_getElem? e))).trans e'⟩
  obtain ⟨I', g'⟩ := I.upd (o' := .dictI (putK l k v)) (t := s.toks + 1) e hs ⟨_, hd', (hr.grow I.tupOut g).stored (rv.grow I.tupOut g)⟩
  exact ⟨_, θ, I', g', h⟩
theorem EX_Expr {e : Expr} {pos : Pos} (h : EV c sc d e ρ σ fun _ σ₁ => R .next ρ σ₁)
    (hs : ∀ env, swapsWith e none pos.line env = pure false := by intro _; rfl) : EX c sc d (.Expr e pos) ρ σ R := fun A env s θ r X I F => by
  refine wpAny_Expr_any (wpAny_mono (h A env s θ r X I F) (fun v' s₁ h₁ => ?_) fun _ _ x => x) (by unfold interactive; rw [X.fn]; rfl) (hs env)
  obtain ⟨v, σ₁, θ₁, I₁, g₁, rv, q⟩ := h₁
  exact ⟨.next, ρ, σ₁, θ₁, I₁, F.grow I.tupOut g₁, g₁.x, .next, q⟩
end
end Mine
end
section
open PySem PySem.W PySem.Calls PyProof.Rows PySem.MeetsSeq PySem.MeetsSeq2 PySem.MeetsSeq3
set_option linter.unusedVariables false
namespace Mine
section
variable {c : Cx} {sc : Sc} {d : Nat} {ρ : Vars} {σ : St} {Q : Post} {R : Fl → Vars → St → Prop} {A : Around} {env : Env} {s s₁ : Shared} {θ θ₁ : List Addr} {x y : Str}
def Itl (h : Heap) (b : Addr) : Prop := ∃ o vs, h.get? b = some o ∧ o.data = .fields vs ∧ ∀ x t, vs[1]? ≠ some (.str x t)
theorem Itl.notT {h : Heap} {b : Addr} (x : Itl h b) (items : Array Value) : ¬ IsT h b items := by
  rintro ⟨n, e⟩; obtain ⟨o, vs, e', hd, _⟩ := x; rw [e] at e'; cases e'; cases hd
theorem Itl.notL {h : Heap} {b : Addr} (x : Itl h b) (items : Array Value) (n : Nat) : ¬ IsL h b items n := by
  intro e; obtain ⟨o, vs, e', hd, _⟩ := x; rw [show h.get? b = _ from e] at e'; cases e'; cases hd
structure Off (h : Heap) (b : Addr) : Prop where
  notT : ∀ items, ¬ IsT h b items
  notL : ∀ items n, ¬ IsL h b items n
  notC : ∀ o vs x t, h.get? b = some o → o.data = .fields vs → vs[1]? ≠ some (.str x t)
theorem Itl.off {h : Heap} {b : Addr} (q : Itl h b) : Off h b := ⟨q.notT, q.notL, fun o vs x t e hd => by
  obtain ⟨o2, vs2, g1, g2, g3⟩ := q
  rw [e] at g1; cases g1; rw [hd] at g2; cases g2; exact g3 _ _⟩
theorem Off.ns {h : Heap} {b : Addr} {m : Str → Option Value} (q : h.Ns b m) : Off h b := by
  obtain ⟨o', es, ep, e2, hd2, _⟩ := q
  exact ⟨fun items q => by (obtain ⟨n, e⟩ := q; rw [e] at e2; cases e2; cases hd2), fun items n e => by (rw [show h.get? b = _ from e] at e2; cases e2; cases hd2), fun o vs x t e hd => by rw [e] at e2; cases e2; rw [hd] at hd2; cases hd2⟩
theorem RepV.but {h h' : Heap} {W : Addr → Prop} (hw : ∀ b, W b → Off h b) (hk : ∀ b o, ¬ W b → h.get? b = some o → h'.get? b = some o) {v : V} {x : Value} (q : RepV h θ v x) : RepV h' θ v x :=
  RepV.rec (motive_1 := fun v v' _ => RepV h' θ v v') (motive_2 := fun v v' _ => RepVs h' θ v v') .none .bool .int .str .raw .loc
    (fun l b xs ht _ ih => .tup l b xs (by obtain ⟨n, e⟩ := ht; exact ⟨n, hk b _ (fun z => (hw b z).notT _ ⟨n, e⟩) e⟩) ih)
    (fun l b xs n nm e _ ih => .lst l b xs n nm (hk b _ (fun z => (hw b z).notL _ _ e) e) ih) .nil (fun _ _ a b => .cons a b) q
theorem Inv.but {W : Addr → Prop} (I : Inv c s θ σ) {h' : Heap} {t : Nat} (hw : ∀ b, W b → Off s.heap b ∧ b ∉ θ ∧ c.hb.get? b = none) (hk : ∀ b o, ¬ W b → s.heap.get? b = some o → h'.get? b = some o) : Inv c { s with heap := h', toks := t } θ σ := by
  have rv : ∀ {v : V} {x : Value}, RepV s.heap θ v x → RepV h' θ v x := fun q => q.but (fun b z => (hw b z).1) hk
  have hks : ∀ {Ky : Type} {v : List (Ky × V)} {v' : List (Ky × Value)}, RepKs s.heap θ v v' → RepKs h' θ v v' := by
    intro Ky v v' q
    induction q with
    | nil => exact .nil
    | cons p _ ih => exact .cons (rv p) ih
  have has : ∀ {v : List (Str × V)} {v' : List DictEntry}, RepAs s.heap θ v v' → RepAs h' θ v v' := by
    intro v v' q
    induction q with
    | nil => exact .nil
    | cons e p _ ih => exact .cons e (rv p) ih
  refine ⟨fun b o e => hk b o (fun z => by rw [(hw b z).2.2] at e; cases e) (I.keep b o e), I.apart, I.nodup, ⟨I.rep.len, fun i o b e1 e2 => ?_⟩, I.gens, I.os⟩
  have hb : ∀ ob, s.heap.get? b = some ob → h'.get? b = some ob := fun ob e => hk b ob (fun z => (hw b z).2.1 (List.mem_of_getElem? e2)) e
  have q := I.rep.obj i o b e1 e2
  cases o with
  | list l => obtain ⟨xs, n, e', q⟩ := q; exact ⟨xs, n, hb _ e', q.mapM rv⟩
  | fz xs n l => obtain ⟨e', q⟩ := q; exact ⟨hb _ e', q.mapM rv⟩
  | dictS es => obtain ⟨xs, ⟨o', x, y, e', z⟩, q⟩ := q; exact ⟨xs, ⟨o', x, y, hb _ e', z⟩, hks q⟩
  | dictI es => obtain ⟨xs, ⟨o', x, y, e', z⟩, q⟩ := q; exact ⟨xs, ⟨o', x, y, hb _ e', z⟩, hks q⟩
  | attrs es => obtain ⟨xs, n, e', q⟩ := q; exact ⟨xs, n, hb _ e', has q⟩
  | inst C d => obtain ⟨dx, q, e'⟩ := q; exact ⟨dx, q, hb _ e'⟩
  | meth f n => obtain ⟨y, q, e'⟩ := q; exact ⟨y, q, hb _ e'⟩
  | rng n => obtain ⟨t, u, v, e'⟩ := q; exact ⟨t, u, v, hb _ e'⟩
  | tab P ps => obtain ⟨q, e', z⟩ := q; exact ⟨q, hb _ e', z⟩
  | fn P =>
    obtain ⟨fd, p, e', ⟨c', oc, vs, t, e1, e2, e3, e4⟩⟩ := q
    refine ⟨fd, p, hb _ e', ⟨c', oc, vs, t, e1, hk _ _ (fun z => ?_) e2, e3, e4⟩⟩
    exact (hw c' z).1.notC _ _ _ _ e2 e3 e4
theorem FrA.but {W : Addr → Prop} (F : FrA c s.heap θ env ρ) {h' : Heap} (hw : ∀ b, W b → Off s.heap b ∧ ¬ own env b) (hk : ∀ b o, ¬ W b → s.heap.get? b = some o → h'.get? b = some o) : FrA c h' θ env ρ := by
  obtain ⟨⟨m, cm, hm, hc, hr⟩, lo, lob, cl, ap⟩ := F
  refine ⟨⟨m, cm, hm.at' fun o e => hk _ _ (fun z => (hw _ z).2 (.inl rfl)) e, fun n k e => ?_, fun x v e => ?_⟩, lo, lob, cl, ap⟩
  · obtain ⟨o, e', r⟩ := hc n k e; exact ⟨o, hk _ _ (fun z => (hw _ z).2 (.inr ⟨n, e⟩)) e', r⟩
  · obtain ⟨v', a, b⟩ := hr x v e; exact ⟨v', a.but (fun b z => (hw b z).1) hk, b⟩
def ITEM (target : Expr) (h₂ : Heap) (θ : List Addr) (h : Heap) (x : V) (v : Value) : Prop := RepV h₂ θ x v ∨ ∃ T vals xs, (∃ es k p, target = .Tuple es k p) ∧ v = .ref T ∧ x = .tup xs ∧ h.IsTuple T vals.toArray ∧ RepVs h₂ θ xs vals
inductive IT (c : Cx) (A : Around) (target : Expr) (env : Env) (s s₂ : Shared) (θ : List Addr) (K : St → Prop) (it : Value) (l : List V) : Prop
  | mk (I : Addr) (fp wr : List Addr) (P Md : Nat → Value → Heap → Prop) (S : Nat → Heap → Prop) : it = .ref I → KTurns c.prog c.w A target I fp wr l.length P Md S → S 0 s₂.heap →
    (∀ b ∈ wr, s.heap.get? b = none ∧ b ∉ θ ∧ c.hb.get? b = none) →
    (∀ b ∈ fp, ¬ own env b ∧ (b ∉ θ ∨ ∃ (n : Nat) (xs : List Value) (k : Nat) (l' : List V), θ[n]? = some b ∧ ∀ σ' : St, K σ' → σ'[n]? = some (SO.fz xs k l'))) →
    (∀ i h b, S i h → b ∈ wr → Itl h b) →
    (∀ i h b, S i h → b ∈ fp → ∃ o, h.get? b = some o) →
    (∀ i (s : Shared) (Q : Value → Shared → Prop) (E : Value → Shared → Prop), S i s.heap → Q (.ref I) s → wpAny (model c.prog c.w) A (pyIter (.ref I)) Q E s) →
    (∀ i v h, P i v h → ∃ x, l[i]? = some x ∧ ITEM target s₂.heap θ h x v) → IT c A target env s s₂ θ K it l
inductive OkI (c : Cx) (A : Around) (target : Expr) (env : Env) (s : Shared) (θ : List Addr) (G : List V → (St → Prop) → St → Prop) (it : Value) (s₂ : Shared) : Prop
  | mk (l : List V) (K : St → Prop) (σ' : St) (θ' : List Addr) : Inv c s₂ θ' σ' → Grow s.heap θ s₂.heap θ' → IT c A target env s s₂ θ' K it l → K σ' → G l K σ' → OkI c A target env s θ G it s₂
inductive OkI0 (c : Cx) (A : Around) (target : Expr) (env : Env) (s : Shared) (θ : List Addr) (σ : St) (G : List V → (St → Prop) → St → Prop) (it : Value) (s₂ : Shared) : Prop
  | mk (l : List V) (K : St → Prop) : Inv c s₂ θ σ → Grow s.heap θ s₂.heap θ → IT c A target env s s₂ θ K it l → K σ → G l K σ → OkI0 c A target env s θ σ G it s₂
def LOOPS (c : Cx) (sc : Sc) (d : Nat) (target : Expr) (body : List Stmt) (K : St → Prop) (R : Fl → Vars → St → Prop) : List V → Vars → St → Prop
  | [], ρ, σ => R .next ρ σ
  | x :: r, ρ, σ => ∃ ρ₁, AS sc target x ρ ρ₁ ∧ EXs c sc d body ρ₁ σ fun f ρ' σ' => match f with
      | .next => K σ' ∧ LOOPS c sc d target body K R r ρ' σ'
      | .cont => K σ' ∧ LOOPS c sc d target body K R r ρ' σ'
      | .brk => R .next ρ' σ'
      | .ret v => R (.ret v) ρ' σ'
def ITX (c : Cx) (sc : Sc) (d : Nat) (target e : Expr) (ρ : Vars) (σ : St) (G : List V → (St → Prop) → St → Prop) : Prop :=
  ∀ A env s θ, Room A d → EnvIs sc env → Inv c s θ σ → FrA c s.heap θ env ρ → wpAny (model c.prog c.w) A (eval e env) (fun x s₁ => wpAny (model c.prog c.w) A (pyIter x) (OkI c A target env s θ G) NoE s₁) NoE s
theorem item_ok (X : EnvIs sc env) (I : Inv c s θ σ) (F : FrA c s.heap θ env ρ) (hh : A.handled = none) {t : Expr} {v : V} {v' : Value} {ρ' : Vars} (a : AS sc t v ρ ρ')
    (r : RepV s.heap θ v v' ∨ ∃ T vals xs, (∃ es k p, t = .Tuple es k p) ∧ v' = .ref T ∧ v = .tup xs ∧ s.heap.IsTuple T vals.toArray ∧ RepVs s.heap θ xs vals)
    {P : Unit → Shared → Prop} (h : ∀ s₁, Inv c s₁ θ σ → FrA c s₁.heap θ env ρ' → GrowX (own env) s.heap θ s₁.heap θ → P () s₁) : wpAny (model c.prog c.w) A (assign t env v') P NoE s := by
  rcases r with r | ⟨T, vals, xs, ⟨es, k, p, rfl⟩, rfl, rfl, ht, hr⟩
  · exact assign_ok X I F hh a r h
  · cases a with
    | @tup es k p ys vs ρ hn hl hk =>
      refine wpAny_assign_Tuple hh ht ?_ (assignEach_noStar env es hn) fun h' e => ?_
      · rw [assignEach_len, namesOf_len hn, hl, hr.length]; simp
      · obtain ⟨I', F', g', q'⟩ := I.ext F e
        exact inOrder_ok X (stl_names hn) _ _ ρ _ I' F' (by simpa using hr.mapM q') hl hk fun s₁ I₁ F₁ g₁ => h s₁ I₁ F₁ (GrowX.trans F'.ownX g'.x g₁)
theorem GrowX.weaken {X Y : Addr → Prop} {h h' : Heap} {θ θ' : List Addr} (g : GrowX X h θ h' θ') (k : ∀ b, X b → Y b) : GrowX Y h θ h' θ' := ⟨g.pre, g.fresh, fun b o e n m => g.kept b o e n fun z => m (k b z)⟩
theorem EX_For {target iter : Expr} {body : List Stmt} {pos : Pos} (h : ITX c sc d target iter ρ σ fun l K σ' => LOOPS c sc d target body K R l ρ σ')
    (hs : ∀ env x, foldedSetIterable iter env x = pure x := by intro _ _; rfl) : EX c sc d (.For target iter body [] pos) ρ σ R := fun A env s θ r X I F => by
  refine wpAny_For (wpAny_mono (h A env s θ r X I F) (fun x s₁ h₁ => wpAny_mono h₁ (fun it s₂ h₂ => ?_) fun _ _ x => x) fun _ _ x => x) (hs env)
  obtain ⟨l, K, σ₂, θ₂, I₂, g₂, ⟨Ja, fp, wr, P, Md, S, rfl, W, hS, hwr, hfp, hit, hex, _, hP⟩, hK, hL⟩ := h₂
  have F₂ := F.grow I.tupOut g₂
  have hwo : ∀ b ∈ wr, ¬ own env b := fun b hb => (hfp b (W.sub b hb)).1
  let W' : Addr → Prop := fun b => b ∈ wr
  let X' : Addr → Prop := fun b => own env b ∨ b ∈ wr
  refine codeAny_forLoop_any
    (fun k s' => ∃ i ρ' σ' θ', k = l.length + 1 - i ∧ i ≤ l.length ∧ S i s'.heap ∧ Inv c s' θ' σ' ∧ FrA c s'.heap θ' env ρ' ∧ GrowX X' s₂.heap θ₂ s'.heap θ' ∧ (∀ b ∈ wr, b ∉ θ') ∧ K σ' ∧ LOOPS c sc d target body K R (l.drop i) ρ' σ')
    ?_ (l.length + 1) ⟨0, ρ, σ₂, θ₂, rfl, Nat.zero_le _, hS, I₂, F₂, GrowX.refl .., fun b hb => (hwr b hb).2.1, hK, by rw [List.drop_zero]; exact hL⟩
  rintro k s' ⟨i, ρ', σ', θ', rfl, hi, hS', I', F', g', hwθ, hK', hL'⟩
  have exX : ∀ {t : Shared} {τ : List Addr} {ρ₀ : Vars} {j : Nat}, S j t.heap → FrA c t.heap τ env ρ₀ → (∀ b ∈ wr, b ∉ τ) → ∀ x, X' x → ∃ o, t.heap.get? x = some o ∧ x ∉ τ := fun hs f hw x hx => by
    rcases hx with hx | hx
    · exact f.ownX x hx
    · obtain ⟨o, _, e, _⟩ := hit _ _ x hs hx; exact ⟨o, e, hw x hx⟩
  have turned : ∀ {h₁ : Heap} {t : Nat}, (∀ b o, b ∉ wr → s'.heap.get? b = some o → h₁.get? b = some o) → Inv c { s' with heap := h₁, toks := t } θ' σ' ∧ FrA c h₁ θ' env ρ' ∧ GrowX X' s'.heap θ' h₁ θ' := fun {h₁ t} hk =>
    ⟨I'.but (W := W') (fun b hb => ⟨(hit i _ b hS' hb).off, hwθ b hb, (hwr b hb).2.2⟩) hk, F'.but (W := W') (fun b hb => ⟨(hit i _ b hS' hb).off, hwo b hb⟩) hk,
     ⟨⟨[], (List.append_nil _).symm⟩, fun _ m n => (n m).elim, fun b o e _ nx => hk b o (fun z => nx (.inr z)) e⟩⟩
  by_cases hlt : i < l.length
  · refine W.item i _ _ _ hlt hS' fun v h₁ tk₁ hMd hk₁ => ?_
    refine W.go i v _ _ _ hMd fun h₂ hPi hS₂ hk₂ => ?_
    obtain ⟨J₂, G₂, e₂⟩ := turned (t := tk₁) (fun b o hb x => hk₂ b o hb (hk₁ b o hb x))
    obtain ⟨x, hx, hv⟩ := hP i v h₂ hPi
    have hd : l.drop i = x :: l.drop (i + 1) := by
      rw [List.drop_eq_getElem_cons hlt]; congr 1
      exact Option.some.inj ((List.getElem?_eq_getElem hlt).symm.trans hx)
    rw [hd] at hL'
    obtain ⟨ρ₁, as, hb⟩ := hL'
    have up : ∀ {v : V} {x : Value}, RepV s₂.heap θ₂ v x → RepV h₂ θ' v x := by
      intro v x q
      -- from s₂ to here: own and the iterators turned, the rest stands
      have gg : GrowX X' s₂.heap θ₂ h₂ θ' := GrowX.trans (exX hS' F' hwθ) g' e₂
      refine RepV.rec (motive_1 := fun v v' _ => RepV h₂ θ' v v') (motive_2 := fun v v' _ => RepVs h₂ θ' v v') .none .bool .int .str .raw
        (fun n a e => .loc n a ?_) (fun l b xs ht _ ih => .tup l b xs ?_ ih) (fun l b xs n nm e _ ih => .lst l b xs n ?_ ?_ ih) .nil (fun _ _ a b => .cons a b) q
      · obtain ⟨t, e'⟩ := gg.pre; rw [e']; rw [List.getElem?_append_left (List.getElem?_eq_some_iff.mp e).1]; exact e
      · obtain ⟨n, e⟩ := ht
        refine ⟨n, gg.kept b _ e (fun m => I₂.tupOut b m _ ⟨n, e⟩) ?_⟩
        rintro (z | z)
        · exact F₂.ownNoT b z _ ⟨n, e⟩
        · exact (hit 0 _ b hS z).notT _ ⟨n, e⟩
      · exact gg.notMem e nm
      · refine gg.kept b _ e nm ?_
        rintro (z | z)
        · exact F₂.ownNoL b z _ _ e
        · exact (hit 0 _ b hS z).notL _ _ e
    have hv' : RepV h₂ θ' x v ∨ ∃ T vals xs, (∃ es k p, target = .Tuple es k p) ∧ v = .ref T ∧ x = .tup xs ∧ h₂.IsTuple T vals.toArray ∧ RepVs h₂ θ' xs vals := by
      rcases hv with q | ⟨T, vals, xs, e0, e1, e2, e3, e4⟩
      · exact .inl (up q)
      · exact .inr ⟨T, vals, xs, e0, e1, e2, e3, e4.mapM up⟩
    have core : wpAny (model c.prog c.w) A (assign target env v) (fun _ s₃ => wpAny (model c.prog c.w) A (execs body env) (fun f s₄ => match f with
          | .next | .cont => ∃ m, m < l.length + 1 - i ∧ ∃ i ρ' σ' θ', m = l.length + 1 - i ∧ i ≤ l.length ∧ S i s₄.heap ∧ Inv c s₄ θ' σ' ∧ FrA c s₄.heap θ' env ρ' ∧ GrowX X' s₂.heap θ₂ s₄.heap θ' ∧ (∀ b ∈ wr, b ∉ θ') ∧ K σ' ∧ LOOPS c sc d target body K R (l.drop i) ρ' σ'
          | .brk => OkS c env s θ R .next s₄
          | .ret v => OkS c env s θ R (.ret v) s₄) NoE s₃) NoE { s' with heap := h₂, toks := tk₁ } := by
      have step : ∀ s₃, Inv c s₃ θ' σ' → FrA c s₃.heap θ' env ρ₁ → GrowX (own env) h₂ θ' s₃.heap θ' → wpAny (model c.prog c.w) A (execs body env) (fun f s₄ => match f with
          | .next | .cont => ∃ m, m < l.length + 1 - i ∧ ∃ i ρ' σ' θ', m = l.length + 1 - i ∧ i ≤ l.length ∧ S i s₄.heap ∧ Inv c s₄ θ' σ' ∧ FrA c s₄.heap θ' env ρ' ∧ GrowX X' s₂.heap θ₂ s₄.heap θ' ∧ (∀ b ∈ wr, b ∉ θ') ∧ K σ' ∧ LOOPS c sc d target body K R (l.drop i) ρ' σ'
          | .brk => OkS c env s θ R .next s₄
          | .ret v => OkS c env s θ R (.ret v) s₄) NoE s₃ := by
        intro s₃ I₃ F₃ g₃
        refine wpAny_mono (hb A env s₃ θ' r X I₃ F₃) (fun f s₄ h₄ => ?_) fun _ _ x => x
        obtain ⟨fl, ρ₄, σ₄, θ₄, I₄, F₄, g₄, rf, q⟩ := h₄
        have g34 : GrowX (own env) h₂ θ' s₄.heap θ₄ := GrowX.trans F₃.ownX g₃ g₄
        have hwθ₄ : ∀ b ∈ wr, b ∉ θ₄ := fun b hb => by obtain ⟨o, _, e, _⟩ := hit _ _ b hS₂ hb; exact g34.notMem e (hwθ b hb)
        have all : GrowX X' s₂.heap θ₂ s₄.heap θ₄ := GrowX.trans (exX (t := { s' with heap := h₂, toks := tk₁ }) hS₂ G₂ hwθ) (GrowX.trans (exX hS' F' hwθ) g' e₂) (g34.weaken fun b z => .inl z)
        have out : GrowX (own env) s.heap θ s₄.heap θ₄ := by
          refine ⟨?_, fun a m n => ?_, fun b o e n nx => ?_⟩
          · obtain ⟨t, e⟩ := g₂.pre; obtain ⟨u, e'⟩ := all.pre; exact ⟨t ++ u, by rw [e', e, List.append_assoc]⟩
          · by_cases h2 : a ∈ θ₂
            · exact g₂.fresh a h2 n
            · cases e : s.heap.get? a with
              | none => rfl
              | some o => have := all.fresh a m h2; rw [g₂.kept a o e n] at this; cases this
          · refine all.kept b o (g₂.kept b o e n) (g₂.notMem e n) ?_
            rintro (z | z)
            · exact nx z
            · rw [(hwr b z).1] at e; cases e
        have again : K σ₄ ∧ LOOPS c sc d target body K R (l.drop (i + 1)) ρ₄ σ₄ → ∃ m, m < l.length + 1 - i ∧ ∃ i ρ' σ' θ', m = l.length + 1 - i ∧ i ≤ l.length ∧ S i s₄.heap ∧ Inv c s₄ θ' σ' ∧ FrA c s₄.heap θ' env ρ' ∧ GrowX X' s₂.heap θ₂ s₄.heap θ' ∧ (∀ b ∈ wr, b ∉ θ') ∧ K σ' ∧ LOOPS c sc d target body K R (l.drop i) ρ' σ' := by
          rintro ⟨hK₄, hL₄⟩
          refine ⟨l.length + 1 - (i + 1), by omega, i + 1, ρ₄, σ₄, θ₄, rfl, hlt, ?_, I₄, F₄, all, hwθ₄, hK₄, hL₄⟩
          refine W.frame _ _ _ hS₂ fun b hb o e => ?_
          rcases (hfp b hb).2 with hn | ⟨n, xs, kk, l', e1, e2⟩
          · have : b ∉ θ' := by
              obtain ⟨o2, e2⟩ := hex 0 _ b hS hb
              exact g'.notMem e2 hn
            exact g34.kept b o e this (hfp b hb).1
          · have a1 : θ'[n]? = some b := by obtain ⟨t, e'⟩ := g'.pre; rw [e', List.getElem?_append_left (List.getElem?_eq_some_iff.mp e1).1]; exact e1
            have a2 : θ₄[n]? = some b := by obtain ⟨t, e'⟩ := all.pre; rw [e', List.getElem?_append_left (List.getElem?_eq_some_iff.mp e1).1]; exact e1
            have b1 : IsL h₂ b xs.toArray kk := (J₂.rep.obj n _ b (e2 _ hK') a1).1
            have b2 : IsL s₄.heap b xs.toArray kk := (I₄.rep.obj n _ b (e2 _ hK₄) a2).1
            have : o = _ := Option.some.inj (e.symm.trans b1)
            rw [this]; exact b2
        cases rf with
        | next => exact again q
        | cont => exact again q
        | brk => exact ⟨.next, ρ₄, σ₄, θ₄, I₄, F₄, out, .next, q⟩
        | ret rv => exact ⟨.ret _, ρ₄, σ₄, θ₄, I₄, F₄, out, .ret rv, q⟩
      exact item_ok X J₂ G₂ r.handled as hv' step
    refine wpAny_mono core (fun _ s₃ h₃ => wpAny_mono h₃ (fun f s₄ h₄ => ?_) fun _ _ x => x.elim) fun _ _ x => x.elim
    cases f <;> exact h₄
  · have hin : i = l.length := by omega
    subst hin
    refine W.done _ _ _ hS' fun h₁ tk₁ hk₁ => wpAny_execs_nil ?_
    obtain ⟨J₁, G₁, e₁⟩ := turned (t := tk₁) hk₁
    rw [List.drop_length] at hL'
    have all : GrowX X' s₂.heap θ₂ h₁ θ' := GrowX.trans (exX hS' F' hwθ) g' e₁
    refine ⟨.next, ρ', σ', θ', J₁, G₁, ?_, .next, hL'⟩
    refine ⟨?_, fun a m n => ?_, fun b o e n nx => ?_⟩
    · obtain ⟨t, e⟩ := g₂.pre; obtain ⟨u, e'⟩ := all.pre; exact ⟨t ++ u, by rw [e', e, List.append_assoc]⟩
    · by_cases h2 : a ∈ θ₂
      · exact g₂.fresh a h2 n
      · cases e : s.heap.get? a with
        | none => rfl
        | some o => have := all.fresh a m h2; rw [g₂.kept a o e n] at this; cases this
    · refine all.kept b o (g₂.kept b o e n) (g₂.notMem e n) ?_
      rintro (z | z)
      · exact nx z
      · rw [(hwr b z).1] at e; cases e
end
end Mine
end
section
open PySem PySem.W PySem.Calls PyProof.Rows PySem.MeetsSeq PySem.MeetsSeq2 PySem.MeetsSeq3
set_option linter.unusedVariables false
namespace Mine
section
variable {c : Cx} {sc : Sc} {d : Nat} {ρ : Vars} {σ : St} {Q : Post} {R : Fl → Vars → St → Prop} {A : Around} {env : Env} {s s₁ : Shared} {θ θ₁ : List Addr} {x y : Str} {G : List V → (St → Prop) → St → Prop} {target : Expr}
def ITV (c : Cx) (d : Nat) (target : Expr) (v : V) (σ : St) (G : List V → (St → Prop) → St → Prop) : Prop :=
  ∀ A env s θ ρ v', Room A d → Inv c s θ σ → FrA c s.heap θ env ρ → RepV s.heap θ v v' → wpAny (model c.prog c.w) A (pyIter v') (OkI0 c A target env s θ σ G) NoE s
theorem IT.older {s₂ : Shared} {K : St → Prop} {it : Value} {l : List V} {θ₂ : List Addr} (g : Grow s.heap θ s₁.heap θ₁) (hex : ∀ b ∈ θ, ∃ o, s₁.heap.get? b = some o) (h : IT c A target env s₁ s₂ θ₂ K it l) : IT c A target env s s₂ θ₂ K it l := by
  obtain ⟨Ja, fp, wr, P, Md, S, e, W, hS, hwr, r1, r2, r3, r4, r5⟩ := h
  refine ⟨Ja, fp, wr, P, Md, S, e, W, hS, fun b hb => ⟨?_, (hwr b hb).2⟩, r1, r2, r3, r4, r5⟩
  cases h : s.heap.get? b with
  | none => rfl
  | some o =>
    have q := (hwr b hb).1
    by_cases m : b ∈ θ
    · obtain ⟨o, e⟩ := hex b m; rw [e] at q; cases q
    · rw [g.kept b o h m] at q; cases q
theorem ITX_val {e : Expr} (h : EV c sc d e ρ σ fun v σ₁ => ITV c d target v σ₁ G) : ITX c sc d target e ρ σ G := fun A env s θ r X I F => by
  refine wpAny_mono (h A env s θ r X I F) (fun v' s₁ h₁ => ?_) fun _ _ x => x
  obtain ⟨v, σ₁, θ₁, I₁, g₁, rv, q⟩ := h₁
  refine wpAny_mono (q A env s₁ θ₁ ρ v' r I₁ (F.grow I.tupOut g₁) rv) (fun it s₂ h₂ => ?_) fun _ _ x => x
  obtain ⟨l, K, I₂, g₂, ht, hK, hG⟩ := h₂
  exact ⟨l, K, σ₁, θ₁, I₂, g₁.trans g₂, ht.older g₁ (fun b m => I₁.rep.exists (g₁.mem m)), hK, hG⟩
theorem pushed (I : Inv c s θ σ) (o : Obj) (t : Nat) : Inv c { s with heap := s.heap.push o, toks := t } θ σ ∧ Grow s.heap θ (s.heap.push o) θ := ⟨I.keeps fun b o' e => Heap.get?_push_of_some _ e, grow_keeps fun b o' e => Heap.get?_push_of_some _ e⟩
theorem FrA.lt {h : Heap} (F : FrA c h θ env ρ) {b : Addr} (o : own env b) : b < h.objs.size := let ⟨_, e, _⟩ := F.ownX b o; Heap.lt_size e
theorem itl_list {h : Heap} {I a : Addr} {i : Nat} (x : h.IsListIter I a i) : Itl h I := by obtain ⟨o, e, hc, hd⟩ := x; exact ⟨o, _, e, hd, fun x t h => by simp at h⟩
theorem itl_tuple {h : Heap} {I a : Addr} {i : Nat} (x : h.IsTupleIter I a i) : Itl h I := by obtain ⟨o, e, hc, hd⟩ := x; exact ⟨o, _, e, hd, fun x t h => by simp at h⟩
theorem itl_str {h : Heap} {I : Addr} {T : String} {x : Str} {t : Tok} {i : Nat} (q : h.IsStrIter I T x t i) : Itl h I := by obtain ⟨o, e, hc, hd⟩ := q; exact ⟨o, _, e, hd, fun x t h => by simp at h⟩
theorem itl_range {h : Heap} {I : Addr} {a b k : Int} (q : IsRangeIter h I a b k) : Itl h I := ⟨_, _, q, rfl, fun x t h => by simp [rawInt] at h⟩
theorem itl_rev {h : Heap} {I a : Addr} {i : Int} (q : h.IsRevIter I a i) : Itl h I := by obtain ⟨o, e, hc, hd⟩ := q; exact ⟨o, _, e, hd, fun x t h => by simp [rawInt] at h⟩
theorem Inv.none' (I : Inv c s θ σ) {b : Addr} (h : s.heap.objs.size ≤ b) : s.heap.get? b = none := by
  cases e : s.heap.get? b with
  | none => rfl
  | some o => exact absurd (Heap.lt_size e) (Nat.not_lt.mpr h)
theorem IT.mk1 {s₂ : Shared} {l : List V} {Ja : Addr} {fp : List Addr} {P Md : Nat → Value → Heap → Prop} {S : Nat → Heap → Prop} {K : St → Prop} (I : Inv c s θ σ) (F : FrA c s.heap θ env ρ) (W : KTurns c.prog c.w A target Ja fp [Ja] l.length P Md S) (hS : S 0 s₂.heap) (hI : s.heap.objs.size ≤ Ja)
    (hfp : ∀ b ∈ fp, b = Ja ∨ (¬ own env b ∧ (b ∉ θ ∨ ∃ (n : Nat) (xs : List Value) (k : Nat) (l' : List V), θ[n]? = some b ∧ ∀ σ' : St, K σ' → σ'[n]? = some (SO.fz xs k l')) ∧ ∀ i h, S i h → ∃ o, h.get? b = some o))
    (hit : ∀ i h, S i h → Itl h Ja) (hself : ∀ i (s : Shared) (Q : Value → Shared → Prop) (E : Value → Shared → Prop), S i s.heap → Q (.ref Ja) s → wpAny (model c.prog c.w) A (pyIter (.ref Ja)) Q E s) (hP : ∀ i v h, P i v h → ∃ x, l[i]? = some x ∧ ITEM target s₂.heap θ h x v) : IT c A target env s s₂ θ K (.ref Ja) l := by
  refine ⟨Ja, fp, [Ja], P, Md, S, rfl, W, hS, fun b hb => ?_, fun b hb => ?_, fun i h b hs hb => ?_, fun i h b hs hb => ?_, hself, hP⟩
  · rw [List.mem_singleton.mp hb]; exact ⟨I.none' hI, I.new hI⟩
  · rcases hfp b hb with rfl | q
    · exact ⟨fun o => absurd (F.lt o) (Nat.not_lt.mpr hI), .inl (I.new hI).1⟩
    · exact ⟨q.1, q.2.1⟩
  · rw [List.mem_singleton.mp hb]; exact hit i h hs
  · rcases hfp b hb with rfl | q
    · obtain ⟨o, _, e, _⟩ := hit i h hs; exact ⟨o, e⟩
    · exact q.2.2 i h hs
theorem itemsOf {h h' : Heap} {l : List V} {xs : List Value} (hr : RepVs h θ l xs) (up : ∀ {v : V} {x : Value}, RepV h θ v x → RepV h' θ v x) {i : Nat} {v : Value} {h₁ : Heap} (hp : xs.toArray[i]? = some v) : ∃ x, l[i]? = some x ∧ ITEM target h' θ h₁ x v := by
  have hv : xs[i]? = some v := by simpa using hp
  have hi : i < l.length := by rw [hr.length]; exact (List.getElem?_eq_some_iff.mp hv).1
  obtain ⟨v₂, e, rv⟩ := hr.at (List.getElem?_eq_getElem hi)
  rw [hv] at e; cases e
  exact ⟨_, List.getElem?_eq_getElem hi, .inl (up rv)⟩
theorem KTurns.lt {Ja : Addr} {fp wr : List Addr} {n : Nat} {P Md : Nat → Value → Heap → Prop} {S : Nat → Heap → Prop} (W : KTurns c.prog c.w A target Ja fp wr n P Md S) : KTurns c.prog c.w A target Ja fp wr n (fun i v h => i < n ∧ P i v h) (fun i v h => i < n ∧ Md i v h) S :=
  ⟨W.sub, W.frame, fun i s Q E hi st hQ => W.item i s Q E hi st fun v h' tk m k => hQ v h' tk ⟨hi, m⟩ k, fun i v s Q E m hQ => W.go i v s Q E m.2 fun h' p st k => hQ h' ⟨m.1, p⟩ st k, W.done⟩
theorem KTurns.cast {Ja : Addr} {fp wr : List Addr} {n m : Nat} {P Md : Nat → Value → Heap → Prop} {S : Nat → Heap → Prop} (e : n = m) (W : KTurns c.prog c.w A target Ja fp wr n P Md S) : KTurns c.prog c.w A target Ja fp wr m P Md S := e ▸ W
theorem ITV_tup {l : List V} (h : G l (fun _ => True) σ) : ITV c d target (.tup l) σ G := fun A env s θ ρ v' r I F rv => by
  cases rv with
  | tup l a xs ht hr =>
    have hlt : a < s.heap.objs.size := by obtain ⟨n, e⟩ := ht; exact Heap.lt_size e
    have ht' : s.heap.IsTuple a xs.toArray := ht.isTup
    refine wpAny_pyIter_tuple ht' ?_
    obtain ⟨I', g'⟩ := pushed I { cls := .type "tuple_iterator", data := .fields #[.ref a, .int 0 0] } s.toks
    have W := KTurns.ofWalks (target := target) (Walks.tuple (prog := c.prog) (w := c.w) r.handled s.heap.objs.size a (Nat.ne_of_lt hlt) xs.toArray) fun i v s Q E st q => letGo_tupleiter st.1 q
    rw [show xs.toArray.size = l.length by rw [List.size_toArray, hr.length]] at W
    exact ⟨l, fun _ => True, I', g', IT.mk1 I F W ⟨⟨_, Heap.get?_push_size _ rfl, rfl, rfl⟩, ht'.push _⟩ (Nat.le_refl _)
      (fun b hb => by
        have hb : b = s.heap.objs.size ∨ b = a := by simpa using hb
        exact hb.imp id fun e => by subst e; exact ⟨fun o => F.ownNoT _ o _ ht, .inl fun m => I.tupOut _ m _ ht, fun i h hS => let ⟨o, e, _⟩ := hS.2; ⟨o, e⟩⟩)
      (fun i h hS => itl_tuple hS.1) (fun _ _ _ _ st q => wpAny_pyIter_tupleiter st.1 q) (fun i v h hp => itemsOf hr (fun q => q.grow I.tupOut g') hp), trivial, h⟩
theorem ITV_list {v : V} {l : List V} (hl : v = .lst l ∨ ∃ n xs k, v = .loc n ∧ σ[n]? = some (.fz xs k l)) (h : ∀ K : St → Prop, (∀ n xs k, v = .loc n → σ[n]? = some (.fz xs k l) → ∀ σ' : St, σ'[n]? = some (.fz xs k l) → K σ') → (v = .lst l → ∀ σ', K σ') → G l K σ) : ITV c d target v σ G := fun A env s θ ρ v' r I F rv => by
  have key : ∃ (a : Addr) (xs : List Value) (k : Nat) (K : St → Prop), v' = .ref a ∧ IsL s.heap a xs.toArray k ∧ RepVs s.heap θ l xs ∧ K σ ∧ G l K σ ∧ (a ∉ θ ∨ ∃ (n : Nat) (xs : List Value) (k : Nat) (l' : List V), θ[n]? = some a ∧ ∀ σ' : St, K σ' → σ'[n]? = some (SO.fz xs k l')) := by
    rcases hl with rfl | ⟨n, xs, k, rfl, hn⟩
    · cases rv with
      | lst l a xs n nm hl hr => exact ⟨a, xs, n, fun _ => True, rfl, hl, hr, trivial, h _ (fun _ _ _ e => by cases e) (fun _ _ => trivial), .inl nm⟩
    · obtain ⟨a, rfl, e⟩ := rv.ofLoc
      obtain ⟨hl, hr⟩ := I.rep.obj n _ a hn e
      refine ⟨a, xs, k, fun σ' => σ'[n]? = some (.fz xs k l), rfl, hl, hr, hn, h _ (fun n' xs' k' e' h' σ' h2 => ?_) (fun e => by cases e), .inr ⟨n, xs, k, l, e, fun _ h => h⟩⟩
      cases e'; rw [hn] at h'; cases h'; exact h2
  obtain ⟨a, xs, k, K, rfl, hL, hr, hK, hG, hfz⟩ := key
  have hlt : a < s.heap.objs.size := Heap.lt_size hL
  refine wpAny_pyIter_list hL.isList ?_
  obtain ⟨I', g'⟩ := pushed I { cls := .type "list_iterator", data := .fields #[.ref a, .int 0 0] } s.toks
  have W := KTurns.ofWalks (target := target) (Walks.list (prog := c.prog) (w := c.w) r.handled s.heap.objs.size a (Nat.ne_of_lt hlt) xs.toArray) fun i v s Q E st q => letGo_listiter st.1 q
  rw [show xs.toArray.size = l.length by rw [List.size_toArray, hr.length]] at W
  exact ⟨l, K, I', g', IT.mk1 I F W ⟨⟨_, Heap.get?_push_size _ rfl, rfl, rfl⟩, hL.isList.push _⟩ (Nat.le_refl _)
      (fun b hb => by
        have hb : b = s.heap.objs.size ∨ b = a := by simpa using hb
        exact hb.imp id fun e => by subst e; exact ⟨fun o => F.ownNoL _ o _ _ hL, hfz, fun i h hS => let ⟨o, e, _⟩ := hS.2; ⟨o, e⟩⟩)
      (fun i h hS => itl_list hS.1) (fun _ _ _ _ st q => wpAny_pyIter_listiter st.1 q) (fun i v h hp => itemsOf hr (fun q => q.grow I.tupOut g') hp), hK, hG⟩
theorem ITV_str {x : Str} {y : Str} {p : Pos} (ha : x.cps.all (· < 128) = true) (h : G (x.cps.toList.map fun k => .str ⟨#[k]⟩) (fun _ => True) σ) : ITV c d (.Name y p) (.str x) σ G := fun A env s θ ρ v' r I F rv => by
  cases rv with
  | str x t =>
    refine wpAny_pyIter_ascii ha ?_
    obtain ⟨I', g'⟩ := pushed I { cls := .type "str_ascii_iterator", data := .fields #[.str x t, .int 0 0] } s.toks
    have W := KTurns.ofWalks (target := .Name y p) (Walks.strAscii (prog := c.prog) (w := c.w) r.handled s.heap.objs.size x t) fun i v s Q E st q => wpAny_pure q
    rw [show x.cps.size = (x.cps.toList.map fun k => V.str ⟨#[k]⟩).length by simp] at W
    exact ⟨_, fun _ => True, I', g', IT.mk1 I F W ⟨_, Heap.get?_push_size _ rfl, rfl, rfl⟩ (Nat.le_refl _) (fun b hb => .inl (by simpa using hb)) (fun i h hS => itl_str hS) (fun _ _ _ _ st q => wpAny_pyIter_striter_ascii st q)
      (fun i v h hp => by obtain ⟨k, t', hk, rfl⟩ := hp; exact ⟨.str ⟨#[k]⟩, by simp [hk], .inl (.str _ _)⟩), trivial, h⟩
theorem callWith_gen {f : V} {f' : Value} {first : List V} {first' : List Value} {es : List Expr} {pos : Pos} {P : Value → Shared → Prop} (hs : noStar es = true) (r : Room A d) (X : EnvIs sc env) (I : Inv c s θ σ) (F : FrA c s.heap θ env ρ) (rf : RepV s.heap θ f f') (rfs : RepVs s.heap θ first first')
    (h : EVs c sc d es ρ σ fun vs σ₂ => Kp c σ₂ f ∧ ∀ s₂ θ₂ f'' vs', Inv c s₂ θ₂ σ₂ → Grow s.heap θ s₂.heap θ₂ → RepV s₂.heap θ₂ f f'' → RepVs s₂.heap θ₂ (first ++ vs) vs' → wpAny (model c.prog c.w) A (call f'' vs' []) P NoE s₂) : wpAny (model c.prog c.w) A (callWith pos f' first' (backTo pos (starEach es env)) []) P NoE s := by
  have h0 := h A env pos s θ r X I F
  rw [backTo_plain pos env hs] at h0 ⊢
  have fin : wpAny (model c.prog c.w) A (evalArgs f' true (es.map fun e => (false, eval e env)) []) (fun a s₁ => ((∃ k, (k = Keeper.frame ∨ k = Keeper.machine ∨ k = Keeper.boundFrame) ∧ Looks (model c.prog c.w) s₁.heap (keeperOf f') k) ∧ wpAny (model c.prog c.w) A (call f' (first' ++ a.pos) a.kw) P NoE s₁)) NoE s := by
    have go : ∀ vs' s₁, OkVs c s θ (fun vs σ₂ => Kp c σ₂ f ∧ ∀ s₂ θ₂ f'' vs', Inv c s₂ θ₂ σ₂ → Grow s.heap θ s₂.heap θ₂ → RepV s₂.heap θ₂ f f'' → RepVs s₂.heap θ₂ (first ++ vs) vs' → wpAny (model c.prog c.w) A (call f'' vs' []) P NoE s₂) vs' s₁ → ((∃ k, (k = Keeper.frame ∨ k = Keeper.machine ∨ k = Keeper.boundFrame) ∧ Looks (model c.prog c.w) s₁.heap (keeperOf f') k) ∧ wpAny (model c.prog c.w) A (call f' (first' ++ vs') []) P NoE s₁) := by
      rintro vs' s₁ ⟨vs, σ₁, θ₁, I₁, g₁, rv, kp, q⟩
      exact ⟨kp _ _ _ I₁ (rf.grow I.tupOut g₁), q s₁ θ₁ f' _ I₁ g₁ (rf.grow I.tupOut g₁) ((rfs.grow I.tupOut g₁).append rv)⟩
    cases es with
    | nil =>
      unfold evalArgs
      show wpAny (model c.prog c.w) A (spliced [] >>= _) _ _ s
      refine wpAny_bind (wpAny_mono h0 (fun vs' s' h' => wpAny_bind (wpAny_pure ?_)) fun _ _ x => x)
      refine wpAny_holding ?_
      exact wpAny_bind (wpAny_pure (wpAny_bind (wpAny_pure (wpAny_pure (go _ _ h')))))
    | cons e es => exact evalArgs_plain (wpAny_mono h0 (fun vs' s₁ q => go vs' s₁ q) fun _ _ x => x)
  unfold callWith
  refine wpAny_bind (wpAny_holding (wpAny_mono fin (fun a s₁ h₁ => wpAny_bind (wpAny_standAt ?_)) fun _ _ x => x))
  obtain ⟨⟨k, hk', L⟩, h₂⟩ := h₁
  have hp : ((es.map fun e => ((false : Bool), eval e env)).any (·.1) || ([] : List (Option Str × Sem Value)).any (·.1.isNone)) = false := by simp
  simp only [hp]
  refine wpAny_bind (L.here ?_)
  have tail : ∀ {t : Sem Value}, wpAny (model c.prog c.w) A t P NoE s₁ → wpAny (model c.prog c.w) A (t >>= fun r => holding [r] point >>= fun _ => pure r) P NoE s₁ :=
    fun ht => wpAny_bind (wpAny_mono ht (fun r s₂ hr => wpAny_bind (wpAny_holding (wpAny_point (wpAny_pure hr)))) fun _ _ x => x)
  have marked (mk : Value) : wpAny (model c.prog c.w) A (callMarked mk f' (first' ++ a.pos) a.kw) P NoE s₁ := by unfold callMarked; exact Calls.wpAny_keep h₂
  rcases hk' with rfl | rfl | rfl <;> dsimp only <;> first | exact tail h₂ | (split <;> first | exact tail h₂ | exact tail (marked _))
def ITC (c : Cx) (d : Nat) (target : Expr) (f : V) (vs : List V) (σ : St) (G : List V → (St → Prop) → St → Prop) : Prop :=
  ∀ A env s θ ρ f' vs', Room A d → Inv c s θ σ → FrA c s.heap θ env ρ → RepV s.heap θ f f' → RepVs s.heap θ vs vs' → wpAny (model c.prog c.w) A (call f' vs' []) (fun x s₁ => wpAny (model c.prog c.w) A (pyIter x) (OkI0 c A target env s θ σ G) NoE s₁) NoE s
theorem ITX_call {x : Str} {p pos : Pos} {args : List Expr} (hs : noStar args = true) (h : EV c sc d (.Name x p) ρ σ fun f σ₁ => EVs c sc d args ρ σ₁ fun vs σ₂ => Kp c σ₂ f ∧ ITC c d target f vs σ₂ G) : ITX c sc d target (.Call (.Name x p) args [] pos) ρ σ G := fun A env s θ r X I F => by
  refine Call_ (wpAny_mono (h A env s θ r X I F) (fun f' s₁ h₁ => ?_) fun _ _ x => x)
  obtain ⟨f, σ₁, θ₁, I₁, g₁, rf, q⟩ := h₁
  have F₁ := F.grow I.tupOut g₁
  refine callWith_gen (first := []) hs r X I₁ F₁ rf .nil fun A' env' pos' s' θ' r' X' I' F' => wpAny_mono (q A' env' pos' s' θ' r' X' I' F') (fun vs' s₂ h₂ => ?_) fun _ _ x => x
  obtain ⟨vs, σ₂, θ₂, I₂, g₂, rvs, kp, q⟩ := h₂
  refine ⟨vs, σ₂, θ₂, I₂, g₂, rvs, kp, fun s₃ θ₃ f'' vs'' I₃ g₃ rf' rvs' => ?_⟩
  refine wpAny_mono (q A env s₃ θ₃ ρ f'' vs'' r I₃ (F₁.grow I₁.tupOut g₃) rf' rvs') (fun xv s₄ h₄ => wpAny_mono h₄ (fun it s₅ h₅ => ?_) fun _ _ x => x) fun _ _ x => x
  obtain ⟨l, K, I₅, g₅, ht, hK, hG⟩ := h₅
  have gg := g₁.trans g₃
  exact ⟨l, K, σ₂, θ₃, I₅, gg.trans g₅, ht.older gg (fun b m => I₃.rep.exists (gg.mem m)), hK, hG⟩
theorem ITC_range {n : Nat} {x : Str} {p : Pos} (hn : n ≤ 1000000) (h : G ((List.range n).map fun i => .int (i : Nat)) (fun _ => True) σ) : ITC c d (.Name x p) (.raw (.type "range")) [.int (n : Nat)] σ G := fun A env s θ ρ f' vs' r I F rf rv => by
  cases rf
  obtain ⟨v', rfl, r1⟩ := rv.one
  cases r1 with
  | int i t =>
    refine call_range_1 ?_
    have hsz : Builtin.Range.rangeSize 0 (n : Int) 1 = n := by
      unfold Builtin.Range.rangeSize
      rcases Nat.eq_zero_or_pos n with rfl | h0
      · rfl
      · simp; omega
    refine wpAny_pyIter_range (IsRange.new ..) ?_ ?_
    · unfold Builtin.Range.small
      rw [hsz]
      unfold Builtin.Range.rangeFitsLong
      simp; omega
    · rw [hsz, Heap.size_push]
      have k1 : ∀ (o o' : Obj) b ob, s.heap.get? b = some ob → ((s.heap.push o).push o').get? b = some ob := fun o o' b ob e => Heap.get?_push_of_some _ (Heap.get?_push_of_some _ e)
      have W := KTurns.ofWalks (target := .Name x p) (Walks.range (prog := c.prog) (w := c.w) r.handled (s.heap.objs.size + 1) 0 1 n) fun i v s Q E st q => wpAny_pure q
      have W' := KTurns.lt W
      have e : n = ((List.range n).map fun i => V.int (i : Nat)).length := by simp
      have W' := KTurns.cast e W'
      refine ⟨_, fun _ => True, I.keeps (k1 _ _), grow_keeps (k1 _ _), IT.mk1 I F W' ?_ (by omega) (fun b hb => .inl (by simpa using hb)) (fun i h hS => itl_range hS) (fun _ _ _ _ st q => wpAny_pyIter_rangeiter st q) ?_, trivial, h⟩
      · have q := Heap.get?_push_size (s.heap.push { cls := .type "range", data := .fields #[.int 0 s.toks, .int n t, .int 1 (s.toks + 1)] }) (o := { cls := .type "range_iterator", data := .fields #[rawInt 0, rawInt (n : Int), rawInt 1] }) rfl
        rw [Heap.size_push] at q
        have e1 : (0 : Int) + ((0 : Nat) : Int) * 1 = 0 := by simp
        have e2 : (n : Int) - ((0 : Nat) : Int) = n := by simp
        show IsRangeIter _ _ _ _ _
        rw [e1, e2]
        exact q
      · rintro i v h ⟨hi, t, rfl⟩
        exact ⟨.int (i : Nat), by simp [hi], .inl (by simpa using RepV.int (0 + (i : Int) * 1) t)⟩
theorem ITC_reversed {v : V} {l : List V} {x : Str} {p : Pos} (hl : v = .lst l) (h : G l.reverse (fun _ => True) σ) : ITC c d (.Name x p) (.raw (.type "reversed")) [v] σ G := fun A env s θ ρ f' vs' r I F rf rv => by
  cases rf
  subst hl
  obtain ⟨v', rfl, r1⟩ := rv.one
  cases r1 with
  | lst l a xs n nm hL hr =>
    refine call_reversed_list hL.isList ?_
    obtain ⟨I', g'⟩ := pushed I (revObj a ((xs.toArray.size : Int) - 1)) s.toks
    have hlt : a < s.heap.objs.size := Heap.lt_size hL
    have hri : (s.heap.push (revObj a ((xs.toArray.size : Int) - 1))).IsRevIter s.heap.objs.size a ((xs.toArray.size : Int) - 1) := ⟨_, Heap.get?_push_size _ rfl, rfl, rfl⟩
    refine wpAny_pyIter_revIter hri ?_
    have W := KTurns.lt <| KTurns.ofWalks (target := .Name x p) (Walks.listRev (prog := c.prog) (w := c.w) r.handled s.heap.objs.size a (Nat.ne_of_lt hlt) xs.toArray) fun i v s Q E st q => wpAny_pure q
    rw [show xs.toArray.size = l.reverse.length by rw [List.size_toArray, List.length_reverse, hr.length]] at W
    refine ⟨l.reverse, fun _ => True, I', g', IT.mk1 I F W ⟨Nat.zero_le _, ?_, hL.isList.push _⟩ (Nat.le_refl _)
      (fun b hb => by
        have hb : b = s.heap.objs.size ∨ b = a := by simpa using hb
        exact hb.imp id fun e => by subst e; exact ⟨fun o => F.ownNoL _ o _ _ hL, .inl nm, fun i h hS => let ⟨o, e, _⟩ := hS.2.2; ⟨o, e⟩⟩)
      (fun i h hS => itl_rev hS.2.1) (fun _ _ _ _ st q => wpAny_pyIter_revIter st.2.1 q) (fun i v h hp => ?_), trivial, h⟩
    · have e : ((l.reverse.length : Nat) : Int) - 1 - ((0 : Nat) : Int) = (xs.toArray.size : Int) - 1 := by rw [List.size_toArray, List.length_reverse, hr.length]; simp
      rw [e]; exact hri
    · obtain ⟨hi, hp⟩ := hp
      have hp : xs[xs.length - 1 - i]? = some v := by rw [← hr.length]; simpa using hp
      have hi : i < l.length := by simpa using hi
      have hrr := hr.reverse
      have e1 : xs.reverse[i]? = some v := by rw [List.getElem?_reverse (by rw [← hr.length]; exact hi)]; exact hp
      have hi' : i < l.reverse.length := by simpa using hi
      obtain ⟨v₂, e, rv⟩ := hrr.at (List.getElem?_eq_getElem hi')
      rw [e1] at e; cases e
      exact ⟨_, List.getElem?_eq_getElem hi', .inl (rv.grow I.tupOut g')⟩
end
end Mine
end
section
open PySem PySem.W PySem.Calls PyProof.Rows PySem.MeetsSeq PySem.MeetsSeq2 PySem.MeetsSeq3
set_option linter.unusedVariables false
namespace Mine
section
variable {c : Cx} {sc : Sc} {d : Nat} {ρ : Vars} {σ : St} {Q : Post} {R : Fl → Vars → St → Prop} {A : Around} {env : Env} {s s₁ : Shared} {θ θ₁ : List Addr} {x y : Str} {G : List V → (St → Prop) → St → Prop} {target : Expr}
theorem EX_While {test : Expr} {body : List Stmt} {pos : Pos} (J : Nat → Vars → St → Prop) (n : Nat) (h0 : J n ρ σ)
    (step : ∀ n ρ σ, J n ρ σ → ET c sc d test ρ σ fun b σ₁ => if b = true then EXs c sc d body ρ σ₁ (fun f ρ' σ' => match f with
      | .next => ∃ m, m < n ∧ J m ρ' σ'
      | .cont => ∃ m, m < n ∧ J m ρ' σ'
      | .brk => R .next ρ' σ'
      | .ret v => R (.ret v) ρ' σ') else R .next ρ σ₁) : EX c sc d (.While test body [] pos) ρ σ R := fun A env s θ r X I F => by
  refine wpAny_While (codeAny_whileLoop (fun n s' => ∃ ρ' σ' θ', Inv c s' θ' σ' ∧ FrA c s'.heap θ' env ρ' ∧ GrowX (own env) s.heap θ s'.heap θ' ∧ J n ρ' σ') ?_ n ⟨ρ, σ, θ, I, F, GrowX.refl .., h0⟩)
  rintro n s' ⟨ρ', σ', θ', I', F', g', hJ⟩
  refine wpAny_mono (step n ρ' σ' hJ A env s' θ' r X I' F') (fun b s₂ h₂ => ?_) fun _ _ x => x.elim
  obtain ⟨σ₂, θ₂, I₂, g₂, q⟩ := h₂
  have F₂ := F'.grow I'.tupOut g₂
  have gg := GrowX.trans F'.ownX g' g₂.x
  cases b with
  | true =>
    refine wpAny_mono (q A env s₂ θ₂ r X I₂ F₂) (fun f s₃ h₃ => ?_) fun _ _ x => x.elim
    obtain ⟨fl, ρ₃, σ₃, θ₃, I₃, F₃, g₃, rf, q₃⟩ := h₃
    have g4 := GrowX.trans F₂.ownX gg g₃
    cases rf with
    | next => obtain ⟨m, hm, hJ⟩ := q₃; exact ⟨m, hm, ρ₃, σ₃, θ₃, I₃, F₃, g4, hJ⟩
    | cont => obtain ⟨m, hm, hJ⟩ := q₃; exact ⟨m, hm, ρ₃, σ₃, θ₃, I₃, F₃, g4, hJ⟩
    | brk => exact ⟨.next, ρ₃, σ₃, θ₃, I₃, F₃, g4, .next, q₃⟩
    | ret rv => exact ⟨.ret _, ρ₃, σ₃, θ₃, I₃, F₃, g4, .ret rv, q₃⟩
  | false => exact wpAny_execs_nil ⟨.next, ρ', σ₂, θ₂, I₂, F₂, gg, .next, q⟩
theorem loadName_ok (X : EnvIs sc env) (I : Inv c s θ σ) (F : FrA c s.heap θ env ρ) {v : V} (hv : get ρ x = some v) (hn : (x == ("__classdict__" : Str)) = false) {P : Value → Shared → Prop} (h : ∀ v', RepV s.heap θ v v' → P v' s) : wpAny (model c.prog c.w) A (loadName env x) P NoE s := by
  obtain ⟨m, cm, hm, hc, hr⟩ := F.at_
  obtain ⟨v', a, b⟩ := hr x v hv
  rcases b with ⟨b1, b2⟩ | ⟨b1, b2, b3⟩
  · exact wpAny_loadName_local X.fn b1 hm b2 (h v' a)
  · obtain ⟨k, hk⟩ := Option.isSome_iff_exists.mp b2
    rcases b1 with b1 | b1
    · exact wpAny_loadName_cell X.fn b1 hk (b3 ▸ hc x k hk) (h v' a)
    · exact wpAny_loadName_free X.fn b1 hk (b3 ▸ hc x k hk) (h v' a) hn
theorem EX_AugAdd {x : Str} {value : Expr} {p pos : Pos} {a : Int} (hv : get ρ x = some (.int a)) (hk : kindOk sc x) (h : EV c sc d value ρ σ fun v σ₁ => ∃ b, v = .int b ∧ R .next (put ρ x (.int (a + b))) σ₁)
    (hn : (x == ("__classdict__" : Str)) = false := by decide) : EX c sc d (.AugAssign (.Name x p) .Add value pos) ρ σ R := fun A env s θ r X I F => by
  refine wpAny_AugAssign_Name (loadName_ok X I F hv hn fun v' rv => ?_)
  cases rv with
  | int a t =>
    refine wpAny_mono (h A env s θ r X I F) (fun w' s₁ h₁ => ?_) fun _ _ x => x
    obtain ⟨v, σ₁, θ₁, I₁, g₁, rv, b, rfl, q⟩ := h₁
    cases rv with
    | int b u =>
      refine iadd_int ?_
      have F₁ := F.grow I.tupOut g₁
      exact storeName_ok (s := { s₁ with toks := s₁.toks + 1 }) X (I₁.toks (s₁.toks + 1)) F₁ hk (.int (a + b) s₁.toks) fun s₂ I₂ F₂ g₂ _ => ⟨.next, _, σ₁, θ₁, I₂, F₂, GrowX.trans F₁.ownX g₁.x g₂, .next, q⟩
theorem ITC_enumerate {v : V} {l : List V} {es : List Expr} {k : Nat} {p : Pos} (hl : v = .lst l ∨ ∃ n xs k, v = .loc n ∧ σ[n]? = some (.fz xs k l))
    (h : ∀ K : St → Prop, (∀ n xs k, v = .loc n → σ[n]? = some (.fz xs k l) → ∀ σ' : St, σ'[n]? = some (.fz xs k l) → K σ') → (v = .lst l → ∀ σ', K σ') → G (l.mapIdx fun i v => .tup [.int (i : Nat), v]) K σ) : ITC c d (.Tuple es k p) (.raw (.type "enumerate")) [v] σ G := fun A env s θ ρ f' vs' r I F rf rv => by
  cases rf
  obtain ⟨v', rfl, r1⟩ := rv.one
  have key : ∃ (a : Addr) (xs : List Value) (k : Nat) (K : St → Prop), v' = .ref a ∧ IsL s.heap a xs.toArray k ∧ RepVs s.heap θ l xs ∧ K σ ∧ G (l.mapIdx fun i v => .tup [.int (i : Nat), v]) K σ ∧ (a ∉ θ ∨ ∃ (n : Nat) (xs : List Value) (k : Nat) (l' : List V), θ[n]? = some a ∧ ∀ σ' : St, K σ' → σ'[n]? = some (SO.fz xs k l')) := by
    rcases hl with rfl | ⟨n, xs, k, rfl, hn⟩
    · cases r1 with
      | lst l a xs n nm hl hr => exact ⟨a, xs, n, fun _ => True, rfl, hl, hr, trivial, h _ (fun _ _ _ e => by cases e) (fun _ _ => trivial), .inl nm⟩
    · obtain ⟨a, rfl, e⟩ := r1.ofLoc
      obtain ⟨hl, hr⟩ := I.rep.obj n _ a hn e
      refine ⟨a, xs, k, fun σ' => σ'[n]? = some (.fz xs k l), rfl, hl, hr, hn, h _ (fun n' xs' k' e' h' σ' h2 => ?_) (fun e => by cases e), .inr ⟨n, xs, k, l, e, fun _ h => h⟩⟩
      cases e'; rw [hn] at h'; cases h'; exact h2
  obtain ⟨a, xs, kk, K, rfl, hL, hr, hK, hG, hfz⟩ := key
  have hlt : a < s.heap.objs.size := Heap.lt_size hL
  refine call_enumerate_list hL.isList fun h' hE hI hsz hk => ?_
  refine wpAny_pyIter_enum hE ?_
  have hI' : Inv c { s with heap := h', toks := s.toks } θ σ := I.keeps hk
  have g' : Grow s.heap θ h' θ := grow_keeps hk
  have W := KTurns.lt <| KTurns.ofWalksU (elts := es) (k := k) (pos := p) (WalksT.enumerate (prog := c.prog) (w := c.w) r.handled (s.heap.objs.size + 1) s.heap.objs.size a (Nat.succ_ne_self _) (ktu_ne 1 hlt) (Nat.ne_of_lt hlt) xs.toArray).toU
  have el : xs.toArray.size = (l.mapIdx fun i v => V.tup [.int (i : Nat), v]).length := by rw [List.size_toArray, List.length_mapIdx, hr.length]
  have W' := KTurns.cast el W
  have ht : IT c A (.Tuple es k p) env s { s with heap := h' } θ K (.ref (s.heap.objs.size + 1)) (l.mapIdx fun i v => V.tup [.int (i : Nat), v]) := by
    refine ⟨_, _, _, _, _, _, rfl, W', ⟨⟨_, hE⟩, hI, hL.isList.at fun o e => hk _ _ e⟩, fun b hb => ?_, fun b hb => ?_, fun i h b hS hb => ?_, fun i h b hS hb => ?_, fun i s Q E st q => ?_, ?_⟩
    · have hb : b = s.heap.objs.size + 1 ∨ b = s.heap.objs.size := by simpa using hb
      have hle : s.heap.objs.size ≤ b := by rcases hb with rfl | rfl; exact Nat.le_succ _; exact Nat.le_refl _
      exact ⟨I.none' hle, I.new hle⟩
    · have hb : b = s.heap.objs.size + 1 ∨ b = s.heap.objs.size ∨ b = a := by simpa using hb
      by_cases hle : s.heap.objs.size ≤ b
      · exact ⟨fun o => absurd (F.lt o) (Nat.not_lt.mpr hle), .inl (I.new hle).1⟩
      · have : b = a := by
          rcases hb with rfl | rfl | rfl
          · exact absurd (Nat.le_succ _) hle
          · exact absurd (Nat.le_refl _) hle
          · rfl
        subst this
        exact ⟨fun o => F.ownNoL _ o _ _ hL, hfz⟩
    · have hb : b = s.heap.objs.size + 1 ∨ b = s.heap.objs.size := by simpa using hb
      obtain ⟨⟨old, he⟩, hi, _⟩ := hS
      rcases hb with rfl | rfl
      · exact ⟨_, _, he, rfl, fun x t h => by simp at h⟩
      · exact itl_list hi
    · have hb : b = s.heap.objs.size + 1 ∨ b = s.heap.objs.size ∨ b = a := by simpa using hb
      obtain ⟨⟨old, he⟩, hi, hl⟩ := hS
      rcases hb with rfl | rfl | rfl
      · exact ⟨_, he⟩
      · obtain ⟨o, e, _⟩ := hi; exact ⟨o, e⟩
      · obtain ⟨o, e, _⟩ := hl; exact ⟨o, e⟩
    · obtain ⟨⟨old, he⟩, _, _⟩ := st
      exact wpAny_pyIter_enum he q
    · rintro i v h ⟨hi, T, vals, rfl, ⟨t, x, hx, rfl⟩, hT⟩
      have hx : xs[i]? = some x := by simpa using hx
      have hil : i < l.length := by rw [hr.length]; exact (List.getElem?_eq_some_iff.mp hx).1
      obtain ⟨v₂, e, rv⟩ := hr.at (List.getElem?_eq_getElem hil)
      rw [hx] at e; cases e
      exact ⟨.tup [.int (i : Nat), l[i]], by simp [List.getElem?_mapIdx, hil], .inr ⟨T, [.int i t, x], _, ⟨_, _, _, rfl⟩, rfl, rfl, hT, .cons (.int _ _) (.cons (rv.grow I.tupOut g') .nil)⟩⟩
  exact ⟨_, K, hI', g', ht, hK, hG⟩
theorem RepV.growX {X : Addr → Prop} {h h' : Heap} {θ' : List Addr} (T : TupOut h θ) (g : GrowX X h θ h' θ') (hX : ∀ b, X b → Off h b) {v : V} {x : Value} (q : RepV h θ v x) : RepV h' θ' v x :=
  RepV.rec (motive_1 := fun v v' _ => RepV h' θ' v v') (motive_2 := fun v v' _ => RepVs h' θ' v v') .none .bool .int .str .raw
    (fun n a e => .loc n a (by obtain ⟨t, e'⟩ := g.pre; rw [e', List.getElem?_append_left (List.getElem?_eq_some_iff.mp e).1]; exact e))
    (fun l b xs ht _ ih => .tup l b xs (by obtain ⟨n, e⟩ := ht; exact ⟨n, g.kept b _ e (fun m => T b m _ ⟨n, e⟩) fun z => (hX b z).notT _ ⟨n, e⟩⟩) ih)
    (fun l b xs n nm e _ ih => .lst l b xs n (g.notMem e nm) (g.kept b _ e nm fun z => (hX b z).notL _ _ e) ih) .nil (fun _ _ a b => .cons a b) q
theorem FrA.growX {X : Addr → Prop} {h h' : Heap} {θ' : List Addr} (F : FrA c h θ env ρ) (T : TupOut h θ) (g : GrowX X h θ h' θ') (hX : ∀ b, X b → Off h b ∧ ¬ own env b) : FrA c h' θ' env ρ := by
  obtain ⟨⟨m, cm, hm, hc, hr⟩, lo, lob, cl, ap⟩ := F
  refine ⟨⟨m, cm, hm.at' fun o e => g.kept _ _ e lo (fun z => (hX _ z).2 (.inl rfl)), fun n k e => ?_, fun x v e => ?_⟩, ?_, lob, fun n k e => ?_, ap⟩
  · obtain ⟨o, e', r⟩ := hc n k e; exact ⟨o, g.kept _ _ e' (cl n k e).2.1 (fun z => (hX _ z).2 (.inr ⟨n, e⟩)), r⟩
  · obtain ⟨v', a, b⟩ := hr x v e; exact ⟨v', a.growX T g (fun b z => (hX b z).1), b⟩
  · obtain ⟨o, es, ep, e, _⟩ := hm; exact g.notMem e lo
  · obtain ⟨o, e', _⟩ := hc n k e; exact ⟨(cl n k e).1, g.notMem e' (cl n k e).2.1, (cl n k e).2.2⟩
theorem storeLocal_ok {v : V} {v' : Value} (X : EnvIs sc env) (I : Inv c s θ σ) (F : FrA c s.heap θ env ρ) (hk : sc.scope.names.lookup x = some .local) (r : RepV s.heap θ v v')
    {P : Unit → Shared → Prop} (h : ∀ s₁, Inv c s₁ θ σ → FrA c s₁.heap θ env (put ρ x v) → GrowX (· = env.locals) s.heap θ s₁.heap θ → P () s₁) :
    wpAny (model c.prog c.w) A (storeName env x v') P NoE s := by
  obtain ⟨m, cm, hm, hc, hr⟩ := F.at_
  refine wpAny_storeName_local (by rw [X.kindOf]; exact hk) hm (fun h' hn hs => ?_) (by rw [X.scope, X.kind]; rfl)
  have hw : ∀ b, b = env.locals → Off s.heap b ∧ b ∉ θ ∧ c.hb.get? b = none := fun b e => by subst e; exact ⟨.ns hm, F.lo, F.lob⟩
  have hkp : ∀ b o, ¬ b = env.locals → s.heap.get? b = some o → h'.get? b = some o := fun b o n e => hs.extBut b o n e
  have hv : ∀ {v : V} {v' : Value}, RepV s.heap θ v v' → RepV h' θ v v' := fun q => q.but (W := (· = env.locals)) (fun b z => (hw b z).1) hkp
  refine h _ (I.but (t := s.toks + 1) hw hkp) ⟨⟨_, cm, hn, fun n k e => (hc n k e).sameBut hs (F.cells n k e).1, fun y u hy => ?_⟩, F.lo, F.lob, F.cells, F.apart⟩ ⟨⟨[], (List.append_nil _).symm⟩, fun _ m n => (n m).elim, fun b o e _ k => hkp b o k e⟩
  rw [get_put] at hy
  by_cases hxy : x = y
  · subst hxy
    rw [if_pos rfl] at hy; cases hy
    exact ⟨v', hv r, .inl ⟨by rw [X.kindOf]; exact hk, by simp⟩⟩
  · rw [if_neg hxy] at hy
    obtain ⟨u', a, b⟩ := hr y u hy
    refine ⟨u', hv a, ?_⟩
    rcases b with ⟨b1, b2⟩ | b
    · exact .inl ⟨b1, by (have hyx : ¬ y = x := fun e => hxy e.symm); (simp only [hyx, if_false]); exact b2⟩
    · exact .inr b
theorem closureFor_ok (scope : Scope) (env : Env) (h : ∀ x ∈ scope.names, x.2 = .free → (env.cells.lookup x.1).isSome = true) :
    ∃ cl, closureFor scope env = pure cl ∧ (∀ n k, cl.lookup n = some k → env.cells.lookup n = some k) ∧ ∀ x ∈ scope.names, x.2 = .free → (cl.lookup x.1).isSome = true := by
  unfold closureFor
  have go : ∀ (names : List (Str × NameKind)) (cs : List (Str × Addr)), (∀ x ∈ names, x.2 = .free → (env.cells.lookup x.1).isSome = true) → (∀ n k, cs.lookup n = some k → env.cells.lookup n = some k) →
      ∃ cl, (forIn names cs fun p r => (if (p.2 == NameKind.free) = true then do let a ← cellOf env p.1; pure (ForInStep.yield ((p.1, a) :: r)) else pure (ForInStep.yield r) : Sem _)) = pure cl ∧ (∀ n k, cl.lookup n = some k → env.cells.lookup n = some k) ∧
        (∀ n, (cs.lookup n).isSome = true → (cl.lookup n).isSome = true) ∧ ∀ x ∈ names, x.2 = .free → (cl.lookup x.1).isSome = true := by
    intro names
    induction names with
    | nil => intro cs _ hcs; exact ⟨cs, rfl, hcs, fun _ h => h, fun _ m => by cases m⟩
    | cons p names ih =>
      intro cs hf hcs
      obtain ⟨n, k⟩ := p
      rw [List.forIn_cons]
      by_cases hk : k = .free
      · subst hk
        obtain ⟨a, ha⟩ := Option.isSome_iff_exists.mp (hf (n, .free) List.mem_cons_self rfl)
        have ha' : env.cells.lookup n = some a := ha
        obtain ⟨cl, e, h1, h2, h3⟩ := ih ((n, a) :: cs) (fun x hx => hf x (List.mem_cons_of_mem _ hx)) (fun n' k' e => by
          rw [List.lookup_cons] at e
          split at e
          · rename_i q; cases e; rw [beq_iff_eq.mp q]; exact ha'
          · exact hcs _ _ e)
        refine ⟨cl, ?_, h1, fun n' hn' => h2 n' ?_, fun x hx hxf => ?_⟩
        · show (do let a ← cellOf env n; pure (ForInStep.yield ((n, a) :: cs)) : Sem _) >>= _ = _
          have : cellOf env n = pure a := by unfold cellOf; rw [ha']
          rw [this]
          exact e
        · rw [List.lookup_cons]; split <;> first | rfl | exact hn'
        · rcases List.mem_cons.mp hx with rfl | hx
          · exact h2 n (by rw [List.lookup_cons, beq_self_eq_true]; rfl)
          · exact h3 x hx hxf
      · obtain ⟨cl, e, h1, h2, h3⟩ := ih cs (fun x hx => hf x (List.mem_cons_of_mem _ hx)) hcs
        refine ⟨cl, ?_, h1, h2, fun x hx hxf => ?_⟩
        · have : (k == NameKind.free) = false := by simpa using hk
          simp only [this]
          exact e
        · rcases List.mem_cons.mp hx with rfl | hx
          · exact absurd hxf hk
          · exact h3 x hx hxf
  obtain ⟨cl, e, h1, _, h3⟩ := go scope.names [] h (fun n k e => by cases e)
  refine ⟨cl, ?_, h1, h3⟩
  show ((forIn scope.names [] fun p r => (if (p.2 == NameKind.free) = true then do let a ← cellOf env p.1; pure (ForInStep.yield ((p.1, a) :: r)) else pure (ForInStep.yield r) : Sem _)) >>= fun cs => pure cs) = pure cl
  rw [e]
  rfl
end
end Mine
end
section
open PySem PySem.W PySem.Calls PyProof.Rows PySem.MeetsSeq PySem.MeetsSeq2 PySem.MeetsSeq3
set_option linter.unusedVariables false
namespace Mine
section
variable {c : Cx} {sc : Sc} {d : Nat} {ρ : Vars} {σ : St} {Q : Post} {R : Fl → Vars → St → Prop} {A : Around} {env : Env} {s s₁ : Shared} {θ θ₁ : List Addr} {x y : Str} {G : List V → (St → Prop) → St → Prop} {target : Expr}
def relabelS (scope : Scope) (sc : Sc) : Scope :=
  { scope with names := scope.names.map fun (n, k) => if (k == .free && sc.scope.kind == .function && sc.scope.names.lookup n == some .cell) then (n, .cell) else (n, k) }
theorem relabel_eq (X : EnvIs sc env) (scope : Scope) : relabel scope env = relabelS scope sc := by
  unfold relabel relabelS
  congr 1
  refine List.map_congr_left fun p _ => ?_
  obtain ⟨n, k⟩ := p
  show (if (k == NameKind.free && env.scope.kind == .function && env.kindOf n == some .cell) = true then (n, NameKind.cell) else (n, k)) = _
  rw [X.kindOf, X.scope]
def compSc (scope : Scope) (sc : Sc) : Sc := ⟨relabelS scope sc, sc.code⟩
theorem relabel_cell {sc : Sc} : ∀ {names : List (Str × NameKind)} {x : Str}, (∀ y ∈ names, y.2 ≠ .cell) → (names.map fun (n, k) => if (k == NameKind.free && sc.scope.kind == .function && sc.scope.names.lookup n == some .cell) then (n, NameKind.cell) else (n, k)).lookup x = some .cell → (x, .free) ∈ names
  | [], _, _, h => by cases h
  | (n, k) :: r, x, hc, h => by
    rw [List.map_cons, List.lookup_cons] at h
    by_cases hn : x = n
    · subst hn
      by_cases hf : k = .free
      · subst hf; exact List.mem_cons_self
      · have h1 : ((k == NameKind.free) = false) := by simpa using hf
        simp only [h1, Bool.false_and, Bool.false_eq_true, if_false, beq_self_eq_true] at h
        exact absurd (Option.some.inj h) (hc (x, k) List.mem_cons_self)
    · have key : ∀ kk : NameKind, ((x == ((n, kk) : Str × NameKind).1)) = false := fun kk => by simpa using hn
      have : (x == (if (k == NameKind.free && sc.scope.kind == .function && sc.scope.names.lookup n == some .cell) = true then (n, NameKind.cell) else (n, k)).1) = false := by split <;> exact key _
      rw [this] at h
      exact List.mem_cons_of_mem _ (relabel_cell (fun y hy => hc y (List.mem_cons_of_mem _ hy)) h)
def COMPS (c : Cx) (sc : Sc) (d : Nat) (elt : Expr) (x : Str) (K : St → Prop) (n : Nat) (T : List V → St → Prop) : List V → List V → Vars → St → Prop
  | [], acc, _, σ => σ[n]? = some (.list acc) ∧ T acc σ
  | v :: r, acc, ρ, σ => EV c sc d elt (put ρ x v) σ fun u σ₁ => σ₁[n]? = some (.list acc) ∧ acc.length ≤ 9000 ∧ K (σ₁.set n (.list (acc ++ [u]))) ∧ COMPS c sc d elt x K n T r (acc ++ [u]) (put ρ x v) (σ₁.set n (.list (acc ++ [u])))
theorem get_mem {α : Type} : ∀ {l : List (Str × α)} {x : Str} {v : α}, get l x = some v → (x, v) ∈ l
  | [], _, _, h => by cases h
  | (y, u) :: r, x, v, h => by
    unfold get at h
    split at h
    · rename_i e; subst e; cases h; exact List.mem_cons_self
    · exact List.mem_cons_of_mem _ (get_mem h)
theorem comp_ok {elt iter : Expr} {px : Pos} {scope : Scope} {pos pos' : Pos} {use : Option (Value → Sem Unit)} {P : Value → Shared → Prop} {ρc : Vars} {T : Nat → List V → St → Prop}
    (r : Room A d) (X : EnvIs sc env) (I : Inv c s θ σ) (F : FrA c s.heap θ env ρ)
    (hkind : scope.kind = .function) (hcell : ∀ y ∈ scope.names, y.2 ≠ .cell) (hfree : ∀ y ∈ scope.names, y.2 = .free → sc.scope.names.lookup y.1 = some .cell)
    (hnames : ∀ y ∈ scope.names, y.2 = .local → scope.names.lookup y.1 = some .local) (hx : (compSc scope sc).scope.names.lookup x = some .local)
    (hρ : ∀ p ∈ ρc, get ρ p.1 = some p.2 ∧ (p.1, .free) ∈ scope.names ∧ (compSc scope sc).scope.names.lookup p.1 = some .cell)
    (h : ITX c sc d (.Name x px) iter ρ σ fun l K σ₂ => K (σ₂ ++ [.list []]) ∧ COMPS c (compSc scope sc) d elt x K σ₂.length (T σ₂.length) l [] ρc (σ₂ ++ [.list []]))
    (fin : ∀ (C D : Addr) (n : Nat) (vs : List V) (σ' : St) (θ' : List Addr) (s' : Shared), Inv c s' θ' σ' → FrA c s'.heap θ' env ρ → Grow s.heap θ s'.heap θ' → s.heap.get? C = none → C ∉ θ' → c.hb.get? C = none → ¬ own env C → (∃ m, s'.heap.Ns C m) → θ'[n]? = some D → σ'[n]? = some (SO.list vs) → T n vs σ' → compPost (model c.prog c.w) A NoE use P (.ref D) C (.ok .next) s')
    (hs : ∀ env x, foldedSetIterable iter env x = pure x := by intro _ _; rfl) :
    wpAny (model c.prog c.w) A (comprehension (.ListComp elt [⟨.Name x px, iter, [], 0⟩] scope pos) scope env pos' (newList []) false (eval iter env) use) P NoE s := by
  obtain ⟨cl, hcl, hcl1, hcl2⟩ := closureFor_ok scope env fun y hy hf => X.cells _ (hfree y hy hf)
  refine wpAny_comprehension_free rfl (hs env) hcl hkind hnames (wpAny_mono (h A env s θ r X I F) (fun xv s₁ h₁ => wpAny_mono h₁ (fun it s₂ h₂ => ?_) fun _ _ x => x) fun _ _ x => x)
  obtain ⟨l, K, σ₂, θ₂, I₂, g₂, ⟨Ja, fp, wr, PP, Md, S, rfl, W, hS, hwr, hfp, hit, hex, hself, hP⟩, hK, hK', hL⟩ := h₂
  have F₂ := F.grow I.tupOut g₂
  refine wpAny_newObj_type ?_ (by show ([] : List Value).toArray.size ≤ sizeLine; rw [sizeLine_eq]; decide)
  -- the list that grows
  have L₃ := I₂.list (Q := fun v σ' => v = .loc σ₂.length ∧ σ' = σ₂ ++ [.list []]) (t := s₂.toks) RepVs.nil ⟨rfl, rfl⟩
  obtain ⟨v₃, σ₃, θ₃, I₃, g₃, rD, rfl, rfl⟩ := L₃
  obtain ⟨D, hD, eD⟩ := rD.ofLoc
  have hD' : s₂.heap.objs.size = D := by injection hD
  rw [hD']
  refine wpAny_newFunctionEnv hcell (by intro y hy; simp at hy) (fun h₁ hns₁ hsb₁ => ?_) hkind
  dsimp only at hns₁ hsb₁ I₃ g₃ ⊢
  have F₃ := F₂.grow I₂.tupOut g₃
  generalize hH : s₂.heap.push { cls := .type "list", dict := none, data := .seq ([] : List Value).toArray } = H at *
  have C0 : H.objs.size = H.objs.size := rfl
  generalize hC : H.objs.size = C at *
  have keep₁ : ∀ b o, H.get? b = some o → h₁.get? b = some o := fun b o e => hsb₁.extBut b o (by rw [← hC]; exact Nat.ne_of_lt (Heap.lt_size e)) (Heap.get?_push_of_some _ e)
  generalize hs₄ : ({ heap := h₁, gens := s₂.gens, drawn := s₂.drawn, toks := s₂.toks + ([] : List (Str × Value)).length, os := s₂.os } : Shared) = s₄
  have e₄ : s₄.heap = h₁ := by rw [← hs₄]
  have I₄ : Inv c s₄ θ₃ (σ₂ ++ [.list []]) := by rw [← hs₄]; exact I₃.keeps keep₁
  have g₄ : Grow H θ₃ s₄.heap θ₃ := by rw [e₄]; exact grow_keeps keep₁
  have F₄ : FrA c s₄.heap θ₃ env ρ := F₃.grow I₃.tupOut g₄
  have Cnew : ∀ b, own env b → b ≠ C := fun b ob e => by
    have := F₃.lt ob; rw [e, ← hC] at this; exact Nat.lt_irrefl _ this
  have Cθ : C ∉ θ₃ ∧ c.hb.get? C = none := I₃.new (by show H.objs.size ≤ C; rw [hC]; exact Nat.le_refl _)
  have Cs2 : s₂.heap.get? C = none := by
    cases e : s₂.heap.get? C with
    | none => rfl
    | some o => exact absurd (Heap.lt_size e) (by rw [← hC, ← hH, Heap.size_push]; exact Nat.not_lt.mpr (Nat.le_succ _))
  have Cs : s.heap.get? C = none := by
    cases e : s.heap.get? C with
    | none => rfl
    | some o =>
      by_cases m : C ∈ θ
      · exact absurd (g₃.mem (g₂.mem m)) Cθ.1
      · have q := g₂.kept C o e m; rw [Cs2] at q; cases q
  have hlo : ∀ b ∈ wr, b ≠ C := fun b hb e => by
    obtain ⟨o, _, e', _⟩ := hit 0 _ b hS hb; rw [e, Cs2] at e'; cases e'
  let cenv : Env := { scope := relabel scope env, locals := C, globals := env.globals, cells := cl, qual := env.qual, func := none, code := env.code, frame := env.frame, builtins := env.builtins }
  have Xc : EnvIs (compSc scope sc) cenv := ⟨relabel_eq X scope, X.globals, X.builtins, X.code, hkind, fun y hy => hcl2 _ (relabel_cell hcell hy) rfl⟩
  have Fc : FrA c s₄.heap θ₃ cenv ρc := by
    obtain ⟨m, cm, hm, hc, hr⟩ := F₄.at_
    refine ⟨⟨_, cm, by rw [e₄]; exact hns₁, fun n k e => hc n k (hcl1 n k e), fun y v hy => ?_⟩, Cθ.1, Cθ.2, fun n k e => ?_, fun n n' k e e' => F₄.apart n n' k (hcl1 _ _ e) (hcl1 _ _ e')⟩
    · obtain ⟨h1, h2, h3⟩ := hρ _ (get_mem hy)
      obtain ⟨v', a, b⟩ := hr y v h1
      refine ⟨v', a, .inr ⟨.inl ?_, hcl2 _ h2 rfl, ?_⟩⟩
      · show Env.kindOf cenv y = _
        rw [Xc.kindOf]; exact h3
      · rcases b with ⟨b1, _⟩ | b
        · rw [X.kindOf] at b1
          rw [hfree _ h2 rfl] at b1; cases b1
        · exact b.2.2
    · have q := F₄.cells n k (hcl1 _ _ e)
      exact ⟨Cnew k (.inr ⟨n, hcl1 _ _ e⟩), q.2⟩
  have hS₄ : S 0 s₄.heap := W.frame _ _ _ hS fun b hb o e => by
    rw [e₄]; refine keep₁ b o ?_; rw [← hH]; exact Heap.get?_push_of_some _ e
  let XC : Addr → Prop := fun b => b = C ∨ b ∈ wr
  have loop : codeAny (model c.prog c.w) A (.compLoop (.ListComp elt [⟨.Name x px, iter, [], 0⟩] scope pos) 0 (.ref Ja) (.ref D) cenv) (compPost (model c.prog c.w) A NoE use P (.ref D) C) s₄ := by
    refine codeAny_compLoop_tests
      (fun k s' => ∃ i ρ' σ' θ' acc, k = l.length + 1 - i ∧ i ≤ l.length ∧ S i s'.heap ∧ Inv c s' θ' σ' ∧ FrA c s'.heap θ' cenv ρ' ∧ FrA c s'.heap θ' env ρ ∧ GrowX XC s₄.heap θ₃ s'.heap θ' ∧ (∀ b ∈ wr, b ∉ θ') ∧ K σ' ∧ COMPS c (compSc scope sc) d elt x K σ₂.length (T σ₂.length) (l.drop i) acc ρ' σ')
      ?_ (l.length + 1) ⟨0, ρc, _, θ₃, [], rfl, Nat.zero_le _, hS₄, I₄, Fc, F₄, GrowX.refl .., fun b hb m => ?_, hK', by rw [List.drop_zero]; exact hL⟩
    · rintro k s' ⟨i, ρ', σ', θ', acc, rfl, hi, hS', I', F', Fo', g', hwθ, hK', hL'⟩
      have offC : ∀ {t : Shared} {τ : List Addr} {ρ₀ : Vars}, FrA c t.heap τ cenv ρ₀ → Off t.heap C := fun f => by obtain ⟨m, _, hm, _⟩ := f.at_; exact .ns hm
      have exX : ∀ {t : Shared} {τ : List Addr} {ρ₀ : Vars} {j : Nat}, S j t.heap → FrA c t.heap τ cenv ρ₀ → (∀ b ∈ wr, b ∉ τ) → ∀ x, XC x → ∃ o, t.heap.get? x = some o ∧ x ∉ τ := fun hs f hw x hx => by
        rcases hx with rfl | hx
        · exact f.ownX _ (.inl rfl)
        · obtain ⟨o, _, e, _⟩ := hit _ _ x hs hx; exact ⟨o, e, hw x hx⟩
      have turned : ∀ {h₁ : Heap} {t : Nat}, (∀ b o, b ∉ wr → s'.heap.get? b = some o → h₁.get? b = some o) → Inv c { s' with heap := h₁, toks := t } θ' σ' ∧ FrA c h₁ θ' cenv ρ' ∧ FrA c h₁ θ' env ρ ∧ GrowX XC s'.heap θ' h₁ θ' := fun {h₁ t} hk => by
        refine ⟨I'.but (W := fun b => b ∈ wr) (fun b hb => ⟨(hit i _ b hS' hb).off, hwθ b hb, (hwr b hb).2.2⟩) hk, F'.but (W := fun b => b ∈ wr) (fun b hb => ⟨(hit i _ b hS' hb).off, ?_⟩) hk, Fo'.but (W := fun b => b ∈ wr) (fun b hb => ⟨(hit i _ b hS' hb).off, (hfp b (W.sub b hb)).1⟩) hk,
          ⟨⟨[], (List.append_nil _).symm⟩, fun _ m n => (n m).elim, fun b o e _ nx => hk b o (fun z => nx (.inr z)) e⟩⟩
        rintro (e | ⟨n, e⟩)
        · exact hlo b hb e
        · exact (hfp b (W.sub b hb)).1 (.inr ⟨n, hcl1 _ _ e⟩)
      by_cases hlt : i < l.length
      · refine W.item i _ _ _ hlt hS' fun v h₁ tk₁ hMd hk₁ => ?_
        show wpAny _ A (letOwnedTupleGo (.Name x px) (.ref Ja) v >>= fun _ => assign (.Name x px) cenv v) _ _ _
        refine wpAny_bind (W.go i v _ _ _ hMd fun h₂ hPi hS₂ hk₂ => ?_)
        obtain ⟨J₂, G₂, Go₂, e₂⟩ := turned (t := tk₁) (fun b o hb x => hk₂ b o hb (hk₁ b o hb x))
        obtain ⟨xv, hxv, hv⟩ := hP i v h₂ hPi
        have hd : l.drop i = xv :: l.drop (i + 1) := by
          rw [List.drop_eq_getElem_cons hlt]; congr 1
          exact Option.some.inj ((List.getElem?_eq_getElem hlt).symm.trans hxv)
        rw [hd] at hL'
        have hv' : RepV h₂ θ' xv v := by
          rcases hv with q | ⟨_, _, _, ⟨_, _, _, e⟩, _⟩
          · have q4 : RepV s₄.heap θ₃ xv v := (q.grow I₂.tupOut g₃).grow I₃.tupOut g₄
            refine q4.growX I₄.tupOut (GrowX.trans (exX hS' F' hwθ) g' e₂) ?_
            rintro b (rfl | hb)
            · exact offC Fc
            · exact (hit 0 _ b hS₄ hb).off
          · cases e
        have core : wpAny (model c.prog c.w) A (assign (.Name x px) cenv v) (fun _ s₂ => wpAny (model c.prog c.w) A (eval elt cenv) (fun y s₄' => wpAny (model c.prog c.w) A (call (.builtin "list.append") [.ref D, y]) (fun _ s₅ => ∃ m, m < l.length + 1 - i ∧ ∃ i ρ' σ' θ' acc, m = l.length + 1 - i ∧ i ≤ l.length ∧ S i s₅.heap ∧ Inv c s₅ θ' σ' ∧ FrA c s₅.heap θ' cenv ρ' ∧ FrA c s₅.heap θ' env ρ ∧ GrowX XC s₄.heap θ₃ s₅.heap θ' ∧ (∀ b ∈ wr, b ∉ θ') ∧ K σ' ∧ COMPS c (compSc scope sc) d elt x K σ₂.length (T σ₂.length) (l.drop i) acc ρ' σ') NoE s₄') NoE s₂) NoE { s' with heap := h₂, toks := tk₁ } := by
          refine wpAny_assign_Name (storeLocal_ok Xc J₂ G₂ hx hv' fun s₅ I₅ F₅ g₅ => ?_)
          have Fo₅ : FrA c s₅.heap θ' env ρ := Go₂.growX J₂.tupOut g₅ fun b z => by subst z; exact ⟨offC (t := { s' with heap := h₂, toks := tk₁ }) G₂, fun ob => Cnew _ ob rfl⟩
          refine wpAny_mono (hL' A cenv s₅ θ' r Xc I₅ F₅) (fun y s₆ h₆ => ?_) fun _ _ x => x
          obtain ⟨u, σ₆, θ₆, I₆, g₆, ru, hn6, hsz6, hK6, q₆⟩ := h₆
          have F₆ := F₅.grow I₅.tupOut g₆
          have Fo₆ := Fo₅.grow I₅.tupOut g₆
          have eD3 : θ₆[σ₂.length]? = some D := g₆.at (by obtain ⟨t, e'⟩ := g'.pre; rw [e', List.getElem?_append_left (List.getElem?_eq_some_iff.mp eD).1]; exact eD)
          refine wpAny_mono (CALL_append (c := c) (d := d) (Q := fun v σ' => σ' = σ₆.set σ₂.length (.list (acc ++ [u]))) hn6 (by omega) rfl A s₆ θ₆ _ [.ref D, y] r I₆ (.raw _) (.cons (.loc _ _ eD3) (.cons ru .nil))) (fun _ s₇ h₇ => ?_) fun _ _ x => x
          obtain ⟨_, σ₇, θ₇, I₇, g₇, _, rfl⟩ := h₇
          have F₇ := F₆.grow I₆.tupOut g₇
          have Fo₇ := Fo₆.grow I₆.tupOut g₇
          have g57 : GrowX XC h₂ θ' s₇.heap θ₇ := GrowX.trans (fun x hx => by
            rcases hx with rfl | hx
            · exact F₅.ownX _ (.inl rfl)
            · obtain ⟨o, _, e, _⟩ := hit _ _ x hS₂ hx
              exact ⟨o, g₅.kept _ _ e (hwθ x hx) (hlo x hx), hwθ x hx⟩) (g₅.weaken fun b z => .inl z) (g₆.trans g₇).x
          have all : GrowX XC s₄.heap θ₃ s₇.heap θ₇ := GrowX.trans (exX (t := { s' with heap := h₂, toks := tk₁ }) hS₂ G₂ hwθ) (GrowX.trans (exX hS' F' hwθ) g' e₂) g57
          have hwθ₇ : ∀ b ∈ wr, b ∉ θ₇ := fun b hb => by obtain ⟨o, _, e, _⟩ := hit _ _ b hS₂ hb; exact g57.notMem e (hwθ b hb)
          refine ⟨l.length + 1 - (i + 1), by omega, i + 1, _, _, θ₇, _, rfl, hlt, ?_, I₇, F₇, Fo₇, all, hwθ₇, hK6, q₆⟩
          refine W.frame _ _ _ hS₂ fun b hb o e => ?_
          have bC : b ≠ C := by
            rintro rfl
            obtain ⟨o2, e2⟩ := hex 0 _ _ hS hb
            rw [Cs2] at e2; cases e2
          rcases (hfp b hb).2 with hn | ⟨n, xs, kk, l', e1, e2⟩
          · have hn3 : b ∉ θ' := by
              obtain ⟨o2, e2⟩ := hex 0 _ b hS hb
              have : b ∉ θ₃ := g₃.notMem e2 hn
              obtain ⟨o4, e4⟩ := hex 0 _ b hS₄ hb
              exact g'.notMem e4 this
            refine (g₆.trans g₇).kept b o (g₅.kept b o e hn3 bC) hn3
          · have a3 : θ₃[n]? = some b := g₃.at e1
            have a1 : θ'[n]? = some b := by obtain ⟨t, e'⟩ := g'.pre; rw [e', List.getElem?_append_left (List.getElem?_eq_some_iff.mp a3).1]; exact a3
            have a2 : θ₇[n]? = some b := by obtain ⟨t, e'⟩ := all.pre; rw [e', List.getElem?_append_left (List.getElem?_eq_some_iff.mp a3).1]; exact a3
            have b1 : IsL h₂ b xs.toArray kk := (J₂.rep.obj n _ b (e2 _ hK') a1).1
            have b2 : IsL s₇.heap b xs.toArray kk := (I₇.rep.obj n _ b (e2 _ hK6) a2).1
            have : o = _ := Option.some.inj (e.symm.trans b1)
            rw [this]; exact b2
        refine wpAny_mono core (fun _ s₂ h₂ => ?_) fun _ _ x => x.elim
        refine wpAny_pure ?_
        exact wpAny_mono h₂ (fun _ s₃ h₃ => wpAny_mono h₃ (fun _ _ x => x) fun _ _ x => x.elim) fun _ _ x => x.elim
      · have hin : i = l.length := by omega
        subst hin
        refine W.done _ _ _ hS' fun h₁ tk₁ hk₁ => ?_
        obtain ⟨J₁, G₁, Go₁, e₁⟩ := turned (t := tk₁) hk₁
        rw [List.drop_length] at hL'
        obtain ⟨hn, hT⟩ := hL'
        have all : GrowX XC s₄.heap θ₃ h₁ θ' := GrowX.trans (exX hS' F' hwθ) g' e₁
        refine fin C D σ₂.length acc σ' θ' _ J₁ Go₁ ?_ Cs G₁.lo Cθ.2 (fun ob => Cnew _ ob rfl) (by obtain ⟨m, _, hm, _⟩ := G₁.at_; exact ⟨m, hm⟩) ?_ hn hT
        · have g24 : Grow s.heap θ s₄.heap θ₃ := (g₂.trans g₃).trans g₄
          refine ⟨?_, fun a m n => ?_, fun b o e n => ?_⟩
          · obtain ⟨t, e⟩ := g24.pre; obtain ⟨u, e'⟩ := all.pre; exact ⟨t ++ u, by rw [e', e, List.append_assoc]⟩
          · by_cases h2 : a ∈ θ₃
            · exact g24.fresh a h2 n
            · cases e : s.heap.get? a with
              | none => rfl
              | some o => have := all.fresh a m h2; rw [g24.kept a o e n] at this; cases this
          · refine all.kept b o (g24.kept b o e n) (g24.notMem e n) ?_
            rintro (z | z)
            · rw [z, Cs] at e; cases e
            · rw [(hwr b z).1] at e; cases e
        · obtain ⟨t, e'⟩ := g'.pre; rw [e', List.getElem?_append_left (List.getElem?_eq_some_iff.mp eD).1]; exact eD
    · obtain ⟨o, _, e, _⟩ := hit 0 _ b hS hb
      exact g₃.notMem e (hwr b hb).2.1 m
  exact codeAny_compStart_list loop (hself 0 _ _ _ hS₄ loop)
end
end Mine
end
section
open PySem PySem.W PySem.Calls PyProof.Rows PySem.MeetsSeq PySem.MeetsSeq2 PySem.MeetsSeq3
set_option linter.unusedVariables false
namespace Mine
mutual
def clV (n : Nat) : V → Bool
  | .loc k => decide (k < n)
  | .tup l => clVs n l
  | .lst l => clVs n l
  | _ => true
def clVs (n : Nat) : List V → Bool
  | [] => true
  | v :: r => clV n v && clVs n r
end
def clO (n : Nat) : SO → Bool
  | .list l => clVs n l
  | .fz _ _ l => clVs n l
  | .dictS es => clVs n (es.map (·.2))
  | .dictI es => clVs n (es.map (·.2))
  | .attrs es => clVs n (es.map (·.2))
  | .inst _ d => decide (d < n)
  | .fn _ => true
  | .meth _ m => decide (m < n)
  | .rng _ => true
  | .tab _ _ => true
section
variable {c : Cx} {sc : Sc} {d : Nat} {ρ : Vars} {σ : St} {Q : Post} {R : Fl → Vars → St → Prop} {A : Around} {env : Env} {s s₁ : Shared} {θ θ₁ : List Addr} {x y : Str} {target : Expr}
mutual
theorem RepV.cl {h : Heap} : ∀ {v : V} {x : Value}, RepV h θ v x → clV θ.length v = true
  | _, _, .none => rfl
  | _, _, .bool b => rfl
  | _, _, .int i t => rfl
  | _, _, .str x t => rfl
  | _, _, .raw v => rfl
  | _, _, .loc n a e => decide_eq_true (List.getElem?_eq_some_iff.mp e).1
  | _, _, .tup l a xs ht hs => RepVs.cl hs
  | _, _, .lst l a xs n nm hl hs => RepVs.cl hs
theorem RepVs.cl {h : Heap} : ∀ {l : List V} {xs : List Value}, RepVs h θ l xs → clVs θ.length l = true
  | _, _, .nil => rfl
  | _, _, .cons a b => by unfold clVs; rw [RepV.cl a, RepVs.cl b]; rfl
end
mutual
theorem RepV.shrink {h : Heap} {t : List Addr} : ∀ {v : V} {x : Value}, RepV h (θ ++ t) v x → clV θ.length v = true → RepV h θ v x
  | _, _, .none, _ => .none
  | _, _, .bool b, _ => .bool b
  | _, _, .int i u, _ => .int i u
  | _, _, .str x u, _ => .str x u
  | _, _, .raw v, _ => .raw v
  | _, _, .loc n a e, hc => .loc n a (by rw [← e]; exact (List.getElem?_append_left (of_decide_eq_true hc)).symm)
  | _, _, .tup l a xs ht hs, hc => .tup l a xs ht (RepVs.shrink hs hc)
  | _, _, .lst l a xs n nm hl hs, hc => .lst l a xs n (fun m => nm (List.mem_append.mpr (.inl m))) hl (RepVs.shrink hs hc)
theorem RepVs.shrink {h : Heap} {t : List Addr} : ∀ {l : List V} {xs : List Value}, RepVs h (θ ++ t) l xs → clVs θ.length l = true → RepVs h θ l xs
  | _, _, .nil, _ => .nil
  | _, _, .cons a b, hc => by
    unfold clVs at hc
    obtain ⟨h1, h2⟩ := Bool.and_eq_true_iff.mp hc
    exact .cons (RepV.shrink a h1) (RepVs.shrink b h2)
end
theorem RepKs.cl {K : Type} {h : Heap} {l : List (K × V)} {xs : List (K × Value)} (r : RepKs h θ l xs) : clVs θ.length (l.map (·.2)) = true := by
  induction r with
  | nil => rfl
  | cons a _ ih => rw [List.map_cons]; unfold clVs; rw [ih, a.cl]; rfl
theorem RepAs.cl {h : Heap} {l : List (Str × V)} {xs : List DictEntry} (r : RepAs h θ l xs) : clVs θ.length (l.map (·.2)) = true := by
  induction r with
  | nil => rfl
  | cons _ a _ ih => rw [List.map_cons]; unfold clVs; rw [ih, a.cl]; rfl
theorem RepKs.shrink {K : Type} {h : Heap} {t : List Addr} {l : List (K × V)} {xs : List (K × Value)} (r : RepKs h (θ ++ t) l xs) (hc : clVs θ.length (l.map (·.2)) = true) : RepKs h θ l xs := by
  induction r with
  | nil => exact .nil
  | cons a _ ih =>
    rw [List.map_cons] at hc; unfold clVs at hc
    obtain ⟨h1, h2⟩ := Bool.and_eq_true_iff.mp hc
    exact .cons (a.shrink h1) (ih h2)
theorem RepAs.shrink {h : Heap} {t : List Addr} {l : List (Str × V)} {xs : List DictEntry} (r : RepAs h (θ ++ t) l xs) (hc : clVs θ.length (l.map (·.2)) = true) : RepAs h θ l xs := by
  induction r with
  | nil => exact .nil
  | cons e a _ ih =>
    rw [List.map_cons] at hc; unfold clVs at hc
    obtain ⟨h1, h2⟩ := Bool.and_eq_true_iff.mp hc
    exact .cons e (a.shrink h1) (ih h2)
theorem RepO.cl {prog : Program} {w : World} {h : Heap} {a : Addr} {o : SO} (r : RepO prog w h θ a o) : clO θ.length o = true := by
  cases o with
  | list l => obtain ⟨_, _, _, q⟩ := r; exact q.cl
  | fz xs n l => obtain ⟨_, q⟩ := r; exact q.cl
  | dictS es => obtain ⟨_, _, q⟩ := r; exact q.cl
  | dictI es => obtain ⟨_, _, q⟩ := r; exact q.cl
  | attrs es => obtain ⟨_, _, _, q⟩ := r; exact q.cl
  | inst C d => obtain ⟨_, e, _⟩ := r; exact decide_eq_true (List.getElem?_eq_some_iff.mp e).1
  | fn P => rfl
  | meth f n => obtain ⟨_, e, _⟩ := r; exact decide_eq_true (List.getElem?_eq_some_iff.mp e).1
  | rng n => rfl
  | tab P ps => rfl
theorem RepO.shrink {prog : Program} {w : World} {h : Heap} {a : Addr} {o : SO} {t : List Addr} (r : RepO prog w h (θ ++ t) a o) (hc : clO θ.length o = true) : RepO prog w h θ a o := by
  cases o with
  | list l => obtain ⟨xs, n, e, q⟩ := r; exact ⟨xs, n, e, q.shrink hc⟩
  | fz xs n l => obtain ⟨e, q⟩ := r; exact ⟨e, q.shrink hc⟩
  | dictS es => obtain ⟨xs, e, q⟩ := r; exact ⟨xs, e, q.shrink hc⟩
  | dictI es => obtain ⟨xs, e, q⟩ := r; exact ⟨xs, e, q.shrink hc⟩
  | attrs es => obtain ⟨xs, n, e, q⟩ := r; exact ⟨xs, n, e, q.shrink hc⟩
  | inst C d => obtain ⟨dx, e, q⟩ := r; exact ⟨dx, by rw [← e]; exact (List.getElem?_append_left (of_decide_eq_true hc)).symm, q⟩
  | fn P => exact r
  | meth f n => obtain ⟨y, e, q⟩ := r; exact ⟨y, by rw [← e]; exact (List.getElem?_append_left (of_decide_eq_true hc)).symm, q⟩
  | rng n => exact r
  | tab P ps => exact r
theorem CALL_forget {f : V} {vs : List V} (h : CALL c d f vs σ fun v σ' => ∃ σ₁ g, σ' = σ₁ ++ g ∧ σ₁.length = σ.length ∧ (∀ (i : Nat) (o : SO), σ₁[i]? = some o → σ[i]? = some o ∨ clO σ.length o = true) ∧ clV σ.length v = true ∧ Q v σ₁) : CALL c d f vs σ Q := fun A s θ f' vs' r I rf rv => by
  refine wpAny_mono (h A s θ f' vs' r I rf rv) (fun v' s₁ h₁ => ?_) fun _ _ x => x
  obtain ⟨v, σ', θ', I', g, rv', σ₁, gg, rfl, hl, ho, hc, q⟩ := h₁
  obtain ⟨t, rfl⟩ := g.pre
  have hlen : σ.length = θ.length := I.rep.len.symm
  refine ⟨v, σ₁, θ, ⟨I'.keep, I.apart, I.nodup, ⟨by rw [hl, hlen], fun i o a e1 e2 => ?_⟩, I'.gens, I'.os⟩, ⟨⟨[], (List.append_nil _).symm⟩, fun _ m n => (n m).elim, g.kept⟩, rv'.shrink (by rw [← hlen]; exact hc), q⟩
  have e1' : (σ₁ ++ gg)[i]? = some o := by rw [List.getElem?_append_left (List.getElem?_eq_some_iff.mp e1).1]; exact e1
  have e2' : (θ ++ t)[i]? = some a := by rw [List.getElem?_append_left (List.getElem?_eq_some_iff.mp e2).1]; exact e2
  refine (I'.rep.obj i o a e1' e2').shrink ?_
  rcases ho i o e1 with e | e
  · exact (I.rep.obj i o a e e2).cl
  · rw [← hlen]; exact e
theorem EV_ListComp {elt iter : Expr} {px : Pos} {scope : Scope} {pos : Pos} {ρc : Vars}
    (hkind : scope.kind = .function) (hcell : ∀ y ∈ scope.names, y.2 ≠ .cell) (hfree : ∀ y ∈ scope.names, y.2 = .free → sc.scope.names.lookup y.1 = some .cell)
    (hnames : ∀ y ∈ scope.names, y.2 = .local → scope.names.lookup y.1 = some .local) (hx : (compSc scope sc).scope.names.lookup x = some .local)
    (hρ : ∀ p ∈ ρc, get ρ p.1 = some p.2 ∧ (p.1, .free) ∈ scope.names ∧ (compSc scope sc).scope.names.lookup p.1 = some .cell)
    (h : ITX c sc d (.Name x px) iter ρ σ fun l K σ₂ => K (σ₂ ++ [.list []]) ∧ COMPS c (compSc scope sc) d elt x K σ₂.length (fun vs σ₃ => Q (.loc σ₂.length) σ₃) l [] ρc (σ₂ ++ [.list []]))
    (hs : ∀ env x, foldedSetIterable iter env x = pure x := by intro _ _; rfl) : EV c sc d (.ListComp elt [⟨.Name x px, iter, [], 0⟩] scope pos) ρ σ Q := fun A env s θ r X I F => by
  rw [eval_ListComp]
  refine comp_ok (use := none) (T := fun n vs σ' => Q (.loc n) σ') r X I F hkind hcell hfree hnames hx hρ h (fun C D n vs σ' θ' s' I' F' g' hC hCθ hCb hCo hm hn hσ q => ?_) hs
  obtain ⟨m, hm⟩ := hm
  refine ⟨m, hm, fun h' hs' => ?_⟩
  have hk : ∀ b o, ¬ b = C → s'.heap.get? b = some o → h'.get? b = some o := fun b o n e => hs'.extBut b o n e
  refine ⟨.loc n, σ', θ', I'.but (t := s'.toks) (W := (· = C)) (fun b e => by subst e; exact ⟨.ns hm, hCθ, hCb⟩) hk, ⟨g'.pre, g'.fresh, fun b o e n => hk b o (fun z => by rw [z, hC] at e; cases e) (g'.kept b o e n)⟩, .loc n D hn, q⟩
theorem EX_AssignComp {elt iter : Expr} {px py : Pos} {scope : Scope} {pos spos : Pos} {ρc : Vars} (hky : kindOk sc y)
    (hkind : scope.kind = .function) (hcell : ∀ y ∈ scope.names, y.2 ≠ .cell) (hfree : ∀ y ∈ scope.names, y.2 = .free → sc.scope.names.lookup y.1 = some .cell)
    (hnames : ∀ y ∈ scope.names, y.2 = .local → scope.names.lookup y.1 = some .local) (hx : (compSc scope sc).scope.names.lookup x = some .local)
    (hρ : ∀ p ∈ ρc, get ρ p.1 = some p.2 ∧ (p.1, .free) ∈ scope.names ∧ (compSc scope sc).scope.names.lookup p.1 = some .cell)
    (h : ITX c sc d (.Name x px) iter ρ σ fun l K σ₂ => K (σ₂ ++ [.list []]) ∧ COMPS c (compSc scope sc) d elt x K σ₂.length (fun vs σ₃ => R .next (put ρ y (.loc σ₂.length)) σ₃) l [] ρc (σ₂ ++ [.list []]))
    (hsw : ∀ env : Env, env.scope = sc.scope → swapsWith (.ListComp elt [⟨.Name x px, iter, [], 0⟩] scope pos) (some (.Name y py)) spos.line env = pure true)
    (hs : ∀ env x, foldedSetIterable iter env x = pure x := by intro _ _; rfl) : EX c sc d (.Assign [.Name y py] (.ListComp elt [⟨.Name x px, iter, [], 0⟩] scope pos) spos) ρ σ R := fun A env s θ r X I F => by
  rw [exec_Assign_Name_used _ _ _ _ (hsw env X.scope)]
  refine wpAny_bind (wpAny_standAt (wpAny_bind ?_))
  show wpAny _ A (do let _ ← comprehension (.ListComp elt [⟨.Name x px, iter, [], 0⟩] scope pos) scope env _ (newList []) false (eval iter env) (some (assign (.Name y py) env))) _ _ s
  refine wpAny_bind (wpAny_mono (comp_ok (use := some (assign (.Name y py) env)) (P := fun _ s' => OkS c env s θ R .next s') (T := fun n vs σ' => R .next (put ρ y (.loc n)) σ') r X I F hkind hcell hfree hnames hx hρ h (fun C D n vs σ' θ' s' I' F' g' hC hCθ hCb hCo hm hn hσ q => ?_) hs) (fun _ s' hq => wpAny_pure (wpAny_pure hq)) fun _ _ e => e)
  obtain ⟨m, hm⟩ := hm
  show wpAny _ A (assign (.Name y py) env (.ref D)) _ _ _
  refine wpAny_assign_Name (storeName_ok X I' F' hky (.loc n D hn) fun s₂ I₂ F₂ g₂ hsame => ?_)
  have hm₂ : s₂.heap.Ns C m := hm.at' fun o e => (hsame C hCo).trans e
  refine ⟨m, hm₂, fun h' hs' => ?_⟩
  have hk : ∀ b o, ¬ b = C → s₂.heap.get? b = some o → h'.get? b = some o := fun b o n e => hs'.extBut b o n e
  have gg := GrowX.trans F'.ownX g'.x g₂
  refine ⟨.next, _, σ', θ', I₂.but (t := s₂.toks) (W := (· = C)) (fun b e => by subst e; exact ⟨.ns hm₂, hCθ, hCb⟩) hk, F₂.but (W := (· = C)) (fun b e => by subst e; exact ⟨.ns hm₂, hCo⟩) hk,
    ⟨gg.pre, gg.fresh, fun b o e n nx => hk b o (fun z => by rw [z, hC] at e; cases e) (gg.kept b o e n nx)⟩, .next, q⟩
end
end Mine
end
section
open PySem PySem.W PySem.Calls PyProof.Rows PySem.MeetsSeq PySem.MeetsSeq2 PySem.MeetsSeq3
set_option linter.unusedVariables false
set_option maxRecDepth 20000
namespace Mine
section
variable {c : Cx} {sc : Sc} {d : Nat} {ρ : Vars} {σ : St} {Q : Post} {R : Fl → Vars → St → Prop} {A : Around} {env : Env} {s s₁ : Shared} {θ θ₁ : List Addr} {x y : Str} {target : Expr}
def EVP (c : Cx) (sc : Sc) (d : Nat) (e : Option Expr) (ρ : Vars) (σ : St) (B : Option Nat → St → Prop) : Prop :=
  match e with
  | none => B none σ
  | some e => EV c sc d e ρ σ fun v σ' => ∃ n : Nat, v = .int n ∧ B (some n) σ'
def pickN (l : List V) : Option Nat → Option Nat → Option (List V)
  | some a, none => some (l.drop a)
  | none, some b => some (l.take b)
  | none, none => some l
  | some _, some _ => none
theorem pick_rep {h : Heap} {l l' : List V} {xs : List Value} (r : RepVs h θ l xs) : ∀ {lo hi : Option Nat}, pickN l lo hi = some l' → ∃ ys : List Value, slicePick xs.toArray (lo.map Int.ofNat) (hi.map Int.ofNat) none = ys.toArray ∧ RepVs h θ l' ys ∧ ys.length ≤ xs.length
  | some a, none, e => by
    cases e
    refine ⟨xs.drop a, ?_, r.drop a, by simp⟩
    have := slicePick_from' xs.toArray a
    simpa using this
  | none, some b, e => by
    cases e
    refine ⟨xs.take b, ?_, r.take b, by simp; omega⟩
    have := slicePick_upto' xs.toArray b
    simpa using this
  | none, none, e => by
    cases e
    exact ⟨xs, by simpa using slicePick_all xs.toArray, r, Nat.le_refl _⟩
def PartIs (h : Heap) (v : Value) (o : Option Nat) : Prop := match o with | none => v = .none | some n => ∃ t, v = .int n t
theorem PartIs.isPart {h : Heap} {v : Value} : ∀ {o : Option Nat}, PartIs h v o → IsPart v (o.map Int.ofNat)
  | none, e => by cases e; exact .none
  | some n, ⟨t, e⟩ => by subst e; exact .int _ _
theorem EVP_ok {e : Option Expr} {B : Option Nat → St → Prop} (h : EVP c sc d e ρ σ B) (r : Room A d) (X : EnvIs sc env) (I : Inv c s θ σ) (F : FrA c s.heap θ env ρ) {P : Value → Shared → Prop}
    (k : ∀ v' s₁ σ₁ θ₁ o, Inv c s₁ θ₁ σ₁ → Grow s.heap θ s₁.heap θ₁ → PartIs s₁.heap v' o → B o σ₁ → P v' s₁) : wpAny (model c.prog c.w) A (evalPart e env) P NoE s := by
  cases e with
  | none => exact wpAny_evalPart_none (k _ s σ θ none I (Grow.refl ..) rfl h)
  | some e =>
    refine wpAny_evalPart_some (wpAny_mono (h A env s θ r X I F) (fun v' s₁ h₁ => ?_) fun _ _ x => x)
    obtain ⟨v, σ₁, θ₁, I₁, g₁, rv, n, rfl, q⟩ := h₁
    cases rv with | int i t => exact k _ s₁ σ₁ θ₁ (some n) I₁ g₁ ⟨t, rfl⟩ q
theorem EV_SliceL {value : Expr} {lo hi : Option Expr} {p pos : Pos}
    (h : EV c sc d value ρ σ fun v σ₁ => EVP c sc d lo ρ σ₁ fun a σ₂ => EVP c sc d hi ρ σ₂ fun b σ₃ => ∃ l l', isList σ₃ v l ∧ l.length ≤ 9000 ∧ pickN l a b = some l' ∧ Q (.lst l') σ₃)
    (hg : ∀ o r, letTemporaryGo value o r = pure () := by intro _ _; rfl) : EV c sc d (.Subscript value (.Slice lo hi none p) pos) ρ σ Q := fun A env s θ r X I F => by
  refine wpAny_Subscript_Slice slot_list_getitem.lookup (wpAny_mono (h A env s θ r X I F) (fun o' s₁ h₁ => ?_) fun _ _ x => x) hg
  obtain ⟨v, σ₁, θ₁, I₁, g₁, rv, q⟩ := h₁
  have F₁ := F.grow I.tupOut g₁
  refine wpAny_Slice (EVP_ok q r X I₁ F₁ fun va s₂ σ₂ θ₂ a I₂ g₂ pa q₂ => ?_)
  have F₂ := F₁.grow I₁.tupOut g₂
  refine EVP_ok q₂ r X I₂ F₂ fun vb s₃ σ₃ θ₃ b I₃ g₃ pb q₃ => wpAny_evalPart_none ?_
  obtain ⟨l, l', hL, hlen, hp, q⟩ := q₃
  obtain ⟨ad, xs, n, rfl, hl, rl⟩ := I₃.asL hL ((rv.grow I₁.tupOut g₂).grow I₂.tupOut g₃)
  obtain ⟨I₄, g₄⟩ := pushed I₃ { cls := .type "slice", data := .fields #[va, vb, .none] } s₃.toks
  have hl' : (s₃.heap.push { cls := .type "slice", data := .fields #[va, vb, .none] }).IsList ad xs.toArray := hl.isList.push _
  refine ⟨hl'.typeIs, ?_⟩
  obtain ⟨ys, e1, e2, e3⟩ := pick_rep rl hp
  refine wpAny_getItem_list_slice hl' ⟨_, Heap.get?_push_size _ rfl, rfl, rfl⟩ pa.isPart pb.isPart .none (by simp) ?_ (by rw [List.size_toArray, ← rl.length, sizeLine_eq]; omega)
  rw [e1]
  exact .trans (((g₁.trans g₂).trans g₃).trans g₄) (I₄.frozen (t := s₃.toks) (e2.grow I₃.tupOut g₄) q)
theorem EV_SliceRev {value one : Expr} {p pos p1 : Pos} {k : Nat}
    (h : EV c sc d value ρ σ fun v σ₁ => EV c sc d one ρ σ₁ fun u σ₃ => u = .int (-1) ∧ ∃ l, isList σ₃ v l ∧ l.length ≤ 9000 ∧ Q (.lst l.reverse) σ₃)
    (hg : ∀ o r, letTemporaryGo value o r = pure () := by intro _ _; rfl) : EV c sc d (.Subscript value (.Slice none none (some one) p) pos) ρ σ Q := fun A env s θ r X I F => by
  refine wpAny_Subscript_Slice_step slot_list_getitem.lookup (wpAny_mono (h A env s θ r X I F) (fun o' s₁ h₁ => ?_) fun _ _ x => x) hg
  obtain ⟨v, σ₁, θ₁, I₁, g₁, rv, q⟩ := h₁
  have F₁ := F.grow I.tupOut g₁
  refine wpAny_Slice (wpAny_evalPart_none (wpAny_evalPart_none (wpAny_evalPart_some (wpAny_mono (q A env s₁ θ₁ r X I₁ F₁) (fun u' s₃ h₃ => ?_) fun _ _ x => x))))
  obtain ⟨u, σ₃, θ₃, I₃, g₃, ru, rfl, l, hL, hlen, q⟩ := h₃
  cases ru with
  | int i t =>
    obtain ⟨ad, xs, n, rfl, hl, rl⟩ := I₃.asL hL (rv.grow I₁.tupOut g₃)
    obtain ⟨I₄, g₄⟩ := pushed I₃ { cls := .type "slice", data := .fields #[.none, .none, .int (-1) t] } s₃.toks
    have hl' : (s₃.heap.push { cls := .type "slice", data := .fields #[.none, .none, .int (-1) t] }).IsList ad xs.toArray := hl.isList.push _
    refine ⟨hl'.typeIs, ?_⟩
    refine wpAny_getItem_list_slice hl' ⟨_, Heap.get?_push_size _ rfl, rfl, rfl⟩ .none .none (.int _ _) (by simp) ?_ (by rw [List.size_toArray, ← rl.length, sizeLine_eq]; omega)
    rw [krv_pick]
    exact .trans ((g₁.trans g₃).trans g₄) (I₄.frozen (t := s₃.toks) (rl.reverse.grow I₃.tupOut g₄) q)
theorem EV_SliceT {value lo : Expr} {p pos : Pos}
    (h : EV c sc d value ρ σ fun v σ₁ => EV c sc d lo ρ σ₁ fun u σ₃ => ∃ (n : Nat) (l : List V), u = .int n ∧ v = .tup l ∧ l.length ≤ 9000 ∧ 1 ≤ n ∧ n ≤ l.length ∧ Q (.tup (l.drop n)) σ₃)
    (hg : ∀ o r, letTemporaryGo value o r = pure () := by intro _ _; rfl) : EV c sc d (.Subscript value (.Slice (some lo) none none p) pos) ρ σ Q := fun A env s θ r X I F => by
  refine wpAny_Subscript_Slice slot_tuple_getitem.lookup (wpAny_mono (h A env s θ r X I F) (fun o' s₁ h₁ => ?_) fun _ _ x => x) hg
  obtain ⟨v, σ₁, θ₁, I₁, g₁, rv, q⟩ := h₁
  have F₁ := F.grow I.tupOut g₁
  refine wpAny_Slice (wpAny_evalPart_some (wpAny_mono (q A env s₁ θ₁ r X I₁ F₁) (fun u' s₃ h₃ => wpAny_evalPart_none (wpAny_evalPart_none ?_)) fun _ _ x => x))
  obtain ⟨u, σ₃, θ₃, I₃, g₃, ru, n, l, rfl, rfl, hlen, h1, h2, q⟩ := h₃
  cases ru with
  | int i t =>
    have rv' := rv.grow I₁.tupOut g₃
    cases rv' with
    | tup l ad xs ht rl =>
      obtain ⟨I₄, g₄⟩ := pushed I₃ { cls := .type "slice", data := .fields #[.int (n : Nat) t, .none, .none] } s₃.toks
      have ht' : IsTup (s₃.heap.push { cls := .type "slice", data := .fields #[.int (n : Nat) t, .none, .none] }) ad xs.toArray := by
        obtain ⟨m, e⟩ := ht; exact IsT.isTup ⟨m, Heap.get?_push_of_some _ e⟩
      refine ⟨ht'.typeIs, ?_⟩
      refine getItem_tuple_from ht' ⟨_, Heap.get?_push_size _ rfl, rfl, rfl⟩ h1 (by rw [List.size_toArray, ← rl.length]; exact h2) ?_ (by rw [List.size_toArray, ← rl.length, sizeLine_eq]; omega)
      exact .trans ((g₁.trans g₃).trans g₄) (I₄.tuple (t := s₃.toks) ((rl.drop n).grow I₃.tupOut g₄) q)
-- lists
theorem BIN_addL {a b : V} {l l' : List V} (ha : isList σ a l) (hb : isList σ b l') (hz : l.length + l'.length ≤ 9000) (h : Q (.lst (l ++ l')) σ) : BIN c d .Add a b σ Q := fun A s θ a' b' r I ra rb => by
  obtain ⟨x, xs, n, rfl, hx, rx⟩ := I.asL ha ra
  obtain ⟨y, ys, m, rfl, hy, ry⟩ := I.asL hb rb
  refine P.add_list hx hy ?_ (by rw [List.size_toArray, List.size_toArray, ← rx.length, ← ry.length, sizeLine_eq]; omega)
  have e : xs.toArray ++ ys.toArray = (xs ++ ys).toArray := by simp
  rw [e]
  exact I.frozen (t := s.toks) (rx.append ry) h
def times {α : Type} (n : Nat) (l : List α) : List α := (List.replicate n l).flatten
theorem times_rep {h : Heap} {l : List V} {xs : List Value} (r : RepVs h θ l xs) : ∀ n : Nat, RepVs h θ (times n l) (times n xs)
  | 0 => .nil
  | n + 1 => by
    show RepVs h θ (List.replicate (n + 1) l).flatten (List.replicate (n + 1) xs).flatten
    rw [List.replicate_succ, List.replicate_succ, List.flatten_cons, List.flatten_cons]
    exact r.append (times_rep r n)
theorem foldl_times (xs : List Value) : ∀ (n : Nat) (acc : Array Value), List.foldl (fun x1 x2 => x1 ++ x2) acc (List.replicate n xs.toArray) = acc ++ (times n xs).toArray
  | 0, acc => by simp [times]
  | n + 1, acc => by
    rw [List.replicate_succ, List.foldl_cons, foldl_times xs n]
    unfold times
    rw [List.replicate_succ, List.flatten_cons]
    simp
theorem mulCore {prog : Program} {w : World} {A : Around} {E : Value → Shared → Prop} {s : Shared} {l : Addr} {items : Array Value} {k : Nat} {x : Int} {u : Tok} {Q : Value → Shared → Prop}
    (hl : s.heap.get? l = some { cls := .type "list", dict := none, data := .seq items k, slots := #[] })
    (hlo : -(2 ^ 63 : Int) ≤ x) (hhi : x < 2 ^ 63) (hsz : items.size * x.toNat ≤ 2 ^ 24)
    (h : Q (.ref s.heap.objs.size) { s with heap := s.heap.push { cls := .type "list", data := .seq (List.foldl (fun x1 x2 => x1 ++ x2) #[] (List.replicate (if items.isEmpty = true then 0 else x.toNat) items)) } }) :
    wpAny (model prog w) A (binaryOp .Mult (.ref l) (.int x u)) Q E s :=
  wpAny_binaryOp_repeat_ref (T := "list") (U := "int") (by decide) ⟨_, hl, rfl⟩ (fun s' => typeIs_int s' x u) noFill_list_mul F.fills_int_mul F.slot_int_rmul repeat_list F.slot_int_index.lookup
    (call_meets F.slot_int_rmul (typeIs_int s x u) F.entry_int_rmul (F.args_int_rmul_2 _ _) (int___rmul___int_list x u l items k)
      ⟨hl, rfl, ⟨_, hl, rfl⟩, call_meets F.slot_list_mul ⟨_, hl, rfl⟩ F.entry_list_mul (F.args_list_mul_2 _ _)
        (AutoListH.list___mul___list_int_3 l items k x u (by simp [Builtin.List.listFitsIndex]; omega) (by omega) (by simp [Builtin.List.listTooLong, sizeLine]; omega))
        ⟨hl, h⟩⟩)
theorem BIN_mulL {a : V} {l : List V} {n : Nat} (ha : isList σ a l) (hne : l ≠ []) (hz : l.length * n ≤ 9000) (hn : n ≤ 9000) (h : Q (.lst (times n l)) σ) : BIN c d .Mult a (.int n) σ Q := fun A s θ a' b' r I ra rb => by
  obtain ⟨x, xs, k, rfl, hx, rx⟩ := I.asL ha ra
  cases rb with
  | int i t =>
    refine mulCore hx (by omega) (by omega) (by rw [List.size_toArray, ← rx.length, Int.toNat_natCast]; exact Nat.le_trans hz (by decide)) ?_
    have hem : xs.toArray.isEmpty = false := by
      cases xs with
      | nil => exact absurd (List.eq_nil_of_length_eq_zero (by rw [rx.length]; rfl)) hne
      | cons => rfl
    rw [hem]
    simp only [Bool.false_eq_true, if_false, Int.toNat_natCast]
    rw [foldl_times, show (#[] : Array Value) ++ (times n xs).toArray = (times n xs).toArray from by simp]
    exact I.frozen (t := s.toks) (times_rep rx n) h
-- what is alike is equal
def flat0 : V → Bool
  | .none | .bool _ | .int _ | .str _ => true
  | _ => false
def flat1 : V → Bool
  | .tup l => l.all flat0
  | v => flat0 v
theorem eq0 {h : Heap} {v : V} {a b : Value} (hf : flat0 v = true) (ra : RepV h θ v a) (rb : RepV h θ v b) (A : Around) (s : Shared) : SeqAt.EqAt A s a b true := by
  cases ra with
  | none => cases rb; exact .same _
  | bool b => cases rb; exact .same _
  | int i t => cases rb with | int i u => have := SeqAt.EqAt.int_int (A := A) (s := s) i t i u; rwa [beq_self_eq_true] at this
  | str x t => cases rb with | str x u => have := SeqAt.EqAt.str_str (A := A) (s := s) x t x u; rwa [beq_self_eq_true] at this
  | _ => cases hf
theorem eqs {P : Value → Value → Prop} {h : Heap} : ∀ {l : List V} {xs ys : List Value}, RepVs h θ l xs → RepVs h θ l ys → (∀ v ∈ l, ∀ a b, RepV h θ v a → RepV h θ v b → P a b) → ∀ (j : Nat) (h1 : j < xs.toArray.size) (h2 : j < ys.toArray.size), P (xs.toArray[j]) (ys.toArray[j])
  | _, _, _, .nil, _, _, j, h1, _ => by simp at h1
  | _, _, _, .cons a b, .cons a' b', H, 0, _, _ => H _ List.mem_cons_self _ _ a a'
  | _, _, _, .cons a b, .cons a' b', H, j + 1, h1, h2 => by
    have := eqs b b' (fun v m => H v (List.mem_cons_of_mem _ m)) j (by simpa using h1) (by simpa using h2)
    simpa using this
theorem eq1 {h : Heap} {v : V} {a b : Value} (hf : flat1 v = true) (s : Shared) (ra : RepV s.heap θ v a) (rb : RepV s.heap θ v b) (A : Around) (hu : A.units < cLine) : SeqAt.EqAt A s a b true := by
  cases v with
  | tup l =>
    cases ra with
    | tup l x xs hx rx =>
      cases rb with
      | tup l y ys hy ry =>
        by_cases hxy : x = y
        · subst hxy; exact .same _
        · refine .of_refs hxy ?_
          have := SeqAt.RcAt.tuples (A := A) (e := fun _ => true) (show s.heap.IsTuple x xs.toArray from hx.isTup) (show s.heap.IsTuple y ys.toArray from hy.isTup) hu (eqs rx ry fun v m a b ra rb => eq0 (List.all_eq_true.mp hf v m) ra rb _ _)
          have e : xs.toArray.size = ys.toArray.size := by rw [List.size_toArray, List.size_toArray, ← rx.length, ry.length]
          rw [e, show ((List.range (min ys.toArray.size ys.toArray.size)).all fun _ => true) = true from List.all_eq_true.mpr fun _ _ => rfl] at this
          simpa using this
  | _ => exact eq0 (by exact hf) ra rb A s
theorem CMP_eqL {a b : V} {l : List V} (ha : isList σ a l) (hb : isList σ b l) (hf : l.all flat1 = true) (h : Q (.bool true) σ) : CMP c d .Eq a b σ Q := fun A s θ a' b' r I ra rb => by
  obtain ⟨x, xs, n, rfl, hx, rx⟩ := I.asL ha ra
  obtain ⟨y, ys, m, rfl, hy, ry⟩ := I.asL hb rb
  have hu0 : A.units < cLine := by have q := r.units; omega
  have hu : A.in1.units < cLine := by have q := r.units; rw [show A.in1.units = A.units + 1 from rfl]; omega
  have ea : ((List.range xs.toArray.size).all fun _ => true) = true := List.all_eq_true.mpr fun _ _ => rfl
  refine SeqAt.eq_listAt (e := fun _ => true) hx.isList hy.isList (by rw [List.size_toArray, List.size_toArray, ← rx.length, ry.length]) hu0 (eqs rx ry fun v m a b ra rb => eq1 (h := s.heap) (List.all_eq_true.mp hf v m) s ra rb _ hu) ?_
  rw [ea]
  exact I.okV (.bool _) h
theorem CMP_neL {a b : V} {l : List V} (ha : isList σ a l) (hb : isList σ b l) (hf : l.all flat1 = true) (h : Q (.bool false) σ) : CMP c d .NotEq a b σ Q := fun A s θ a' b' r I ra rb => by
  obtain ⟨x, xs, n, rfl, hx, rx⟩ := I.asL ha ra
  obtain ⟨y, ys, m, rfl, hy, ry⟩ := I.asL hb rb
  have hu0 : A.units < cLine := by have q := r.units; omega
  have hu : A.in1.units < cLine := by have q := r.units; rw [show A.in1.units = A.units + 1 from rfl]; omega
  have ea : ((List.range xs.toArray.size).all fun _ => true) = true := List.all_eq_true.mpr fun _ _ => rfl
  have := SeqAt.RcNeAt.lists (A := A) (e := fun _ => true) hx.isList hy.isList (by rw [List.size_toArray, List.size_toArray, ← rx.length, ry.length]) hu0 (eqs rx ry fun v m a b ra rb => eq1 (h := s.heap) (List.all_eq_true.mp hf v m) s ra rb _ hu)
  refine this _ _ _ _ ?_
  rw [ea]
  exact I.okV (.bool _) h
theorem CMP_eqB {a b : Bool} (h : Q (.bool (a == b)) σ) : CMP c d .Eq (.bool a) (.bool b) σ Q := fun A s θ a' b' r I ra rb => by cases ra; cases rb; exact PyProof.Rows.eq_bool (I.okV (.bool _) h)
theorem CMP_neB {a b : Bool} (h : Q (.bool (a != b)) σ) : CMP c d .NotEq (.bool a) (.bool b) σ Q := fun A s θ a' b' r I ra rb => by cases ra; cases rb; exact PyProof.Rows.ne_bool (I.okV (.bool _) h)
theorem BIN_subB {a b : Bool} (h : Q (.int ((if a then 1 else 0) - (if b then 1 else 0))) σ) : BIN c d .Sub (.bool a) (.bool b) σ Q := fun A s θ a' b' r I ra rb => by
  cases ra; cases rb; exact PyProof.Rows.sub_bool (I.okVt (.int _ _) h)
end
end Mine
end
section
open PySem PySem.W PySem.Calls PyProof.Rows PySem.MeetsSeq PySem.MeetsSeq2 PySem.MeetsSeq3
set_option linter.unusedVariables false
set_option maxRecDepth 20000
namespace Mine
section
variable {c : Cx} {sc : Sc} {d : Nat} {ρ : Vars} {σ : St} {Q : Post} {R : Fl → Vars → St → Prop} {A : Around} {env : Env} {s s₁ : Shared} {θ θ₁ : List Addr} {x y : Str} {target : Expr}
theorem EV_Chain2 {l r₁ r₂ : Expr} {op₁ op₂ : CmpOp} {pos : Pos}
    (h : EV c sc d l ρ σ fun a σ₁ => EV c sc d r₁ ρ σ₁ fun b σ₂ => CMP c d op₁ a b σ₂ fun v σ₃ => TRU c d v σ₃ fun t σ₄ => if t = true then EV c sc d r₂ ρ σ₄ fun w σ₅ => CMP c d op₂ b w σ₅ Q else Q v σ₄)
    (hm : behindInMarks op₂ r₂ = false := by with_unfolding_all rfl) : EV c sc d (.Compare l [op₁, op₂] [r₁, r₂] pos) ρ σ Q := fun A env s θ R X I F => by
  show wpAny _ _ (eval l env >>= fun left => compareChain pos left [op₁, op₂] [eval r₁ env, markedBehindIn op₂ r₂ (eval r₂ env)]) _ _ _
  rw [markedBehindIn_of_false hm]
  refine wpAny_bind (wpAny_mono (h A env s θ R X I F) (fun a' s₁ h₁ => ?_) fun _ _ x => x)
  obtain ⟨a, σ₁, θ₁, I₁, g₁, ra, q₁⟩ := h₁
  unfold compareChain
  refine wpAny_bind (wpAny_holding (wpAny_mono (q₁ A env s₁ θ₁ R X I₁ (F.grow I.tupOut g₁)) (fun b' s₂ h₂ => wpAny_bind (wpAny_standAt ?_)) fun _ _ x => x))
  obtain ⟨b, σ₂, θ₂, I₂, g₂, rb, q₂⟩ := h₂
  have F₂ := (F.grow I.tupOut g₁).grow I₁.tupOut g₂
  refine wpAny_bind (wpAny_holding (wpAny_mono (q₂ A s₂ θ₂ a' b' R I₂ (ra.grow I₁.tupOut g₂) rb) (fun v' s₃ h₃ => wpAny_bind (wpAny_release ?_)) fun _ _ x => x))
  obtain ⟨v, σ₃, θ₃, I₃, g₃, rv, q₃⟩ := h₃
  refine wpAny_bind (wpAny_holding (wpAny_mono (q₃ A s₃ θ₃ v' R I₃ rv) (fun t s₄ h₄ => ?_) fun _ _ x => x))
  obtain ⟨σ₄, θ₄, I₄, g₄, q₄⟩ := h₄
  have gg := ((g₁.trans g₂).trans g₃).trans g₄
  cases t with
  | false => exact wpAny_pure ⟨v, σ₄, θ₄, I₄, gg, rv.grow I₃.tupOut g₄, q₄⟩
  | true =>
    have F₄ := (F₂.grow I₂.tupOut g₃).grow I₃.tupOut g₄
    unfold compareChain
    refine wpAny_bind (wpAny_holding (wpAny_mono (q₄ A env s₄ θ₄ R X I₄ F₄) (fun w' s₅ h₅ => wpAny_bind (wpAny_standAt ?_)) fun _ _ x => x))
    obtain ⟨w, σ₅, θ₅, I₅, g₅, rw', q₅⟩ := h₅
    exact fun Γ p hΓ => by
      rw [Sem.wp_operate]
      exact wpV.trans (gg.trans g₅) (q₅ A s₅ θ₅ b' w' R I₅ (((rb.grow I₂.tupOut g₃).grow I₃.tupOut g₄).grow I₄.tupOut g₅) rw') Γ p hΓ
theorem CALL_lenL {v : V} {l : List V} (hl : isList σ v l) (hz : l.length ≤ 100000) (h : Q (.int l.length) σ) : CALL c d (.raw (.builtin "len")) [v] σ Q := fun A s θ f' vs' r I rf rv => by
  cases rf
  obtain ⟨v', rfl, r1⟩ := rv.one
  obtain ⟨a, xs, n, rfl, hL, rl⟩ := I.asL hl r1
  have e : xs.toArray.size = l.length := by rw [List.size_toArray, rl.length]
  refine call_len_list hL.isList (by rw [e]; omega) ?_
  rw [e]
  exact I.okVt (t := s.toks + 1 + 1) (.int _ _) h
theorem CALL_lenS (hz : x.length ≤ 100000) (h : Q (.int x.length) σ) : CALL c d (.raw (.builtin "len")) [.str x] σ Q := fun A s θ f' vs' r I rf rv => by
  cases rf
  obtain ⟨v', rfl, r1⟩ := rv.one
  cases r1
  exact len_str (by omega) (I.okVt (t := s.toks + 1 + 1) (.int _ _) h)
theorem CALL_abs {a : Int} (h : Q (.int (if a < 0 then -a else a)) σ) : CALL c d (.raw (.builtin "abs")) [.int a] σ Q := fun A s θ f' vs' r I rf rv => by
  cases rf
  obtain ⟨v', rfl, r1⟩ := rv.one
  cases r1
  exact call_abs_int fun u tk => I.okVt (t := tk) (.int _ _) h
def isStrV : V → Option Bool
  | .str _ => some true
  | .int _ | .bool _ | .none | .tup _ => some false
  | _ => none
def isTupV : V → Option Bool
  | .tup _ => some true
  | .int _ | .bool _ | .none | .str _ => some false
  | _ => none
theorem CALL_isStr {v : V} {b : Bool} (hv : isStrV v = some b) (h : Q (.bool b) σ) : CALL c d (.raw (.builtin "isinstance")) [v, .raw (.type "str")] σ Q := fun A s θ f' vs' r I rf rv => by
  cases rf
  obtain ⟨v', t', rfl, r1, r2⟩ := rv.two
  cases r2
  cases r1 with
  | none => cases hv; exact IsiPair.NoneType_str (I.okVt (.bool _) h)
  | bool => cases hv; exact IsiPair.bool_str (I.okVt (.bool _) h)
  | int => cases hv; exact IsiPair.int_str (I.okVt (.bool _) h)
  | str => cases hv; exact IsiPair.str_str (I.okV (.bool _) h)
  | tup l a xs ht hr => cases hv; obtain ⟨n, ht⟩ := ht; exact IsiPair.tuple_str ht rfl (I.okVt (.bool _) h)
  | _ => cases hv
theorem CALL_isTup {v : V} {b : Bool} (hv : isTupV v = some b) (h : Q (.bool b) σ) : CALL c d (.raw (.builtin "isinstance")) [v, .raw (.type "tuple")] σ Q := fun A s θ f' vs' r I rf rv => by
  cases rf
  obtain ⟨v', t', rfl, r1, r2⟩ := rv.two
  cases r2
  cases r1 with
  | none => cases hv; exact IsiPair.NoneType_tuple (I.okVt (.bool _) h)
  | bool => cases hv; exact IsiPair.bool_tuple (I.okVt (.bool _) h)
  | int => cases hv; exact IsiPair.int_tuple (I.okVt (.bool _) h)
  | str => cases hv; exact IsiPair.str_tuple (I.okVt (.bool _) h)
  | tup l a xs ht hr => cases hv; obtain ⟨n, ht⟩ := ht; exact IsiPair.tuple_tuple ht rfl (I.okV (.bool _) h)
  | _ => cases hv
theorem GM_dict {n : Nat} {l : List (Str × V)} {name : Str} {id : String} {Q : V → List V → St → Prop} (hn : σ[n]? = some (.dictS l)) (slot : Slot "dict" name id) (hty : typeOf (.builtin id) = pure (.type "method_descriptor")) (h : Q (.raw (.builtin id)) [.loc n] σ) :
    GM c d (.loc n) name σ Q := fun A s θ o' pl r I ro => by
  obtain ⟨a, rfl, e⟩ := ro.ofLoc
  obtain ⟨kvs, hd, hr⟩ := I.rep.obj n _ a hn e
  have hd' := hd
  obtain ⟨o', es, ep, e1, e2, e3, e4⟩ := hd'
  exact getMethod_builtin hd.typeIs F.plainAttrs_dict slot hty (fun a' e' => by cases e'; exact ⟨_, e1, e2.2.1⟩) ⟨_, [.loc n], σ, θ, I, Grow.refl _ _, .raw _, .cons (.loc n a e) .nil, h⟩
theorem CALL_get {n : Nat} {l : List (Str × V)} {dflt : V} (hn : σ[n]? = some (.dictS l)) (h : Q ((getK l x).getD dflt) σ) : CALL c d (.raw (.builtin "dict.get")) [.loc n, .str x, dflt] σ Q := fun A s θ f' vs' r I rf rv => by
  cases rf
  obtain ⟨a', k', z', rfl, r1, r2, r3⟩ := rv.three
  obtain ⟨a, rfl, e⟩ := r1.ofLoc
  obtain ⟨kvs, hd, hr⟩ := I.rep.obj n _ a hn e
  cases r2
  refine call_meetsIn PySem.F.slot_dict_get hd.typeIs PySem.F.entry_dict_get (PySem.F.args_dict_get_3 _ _ _) (meets_dict_get_default (strKind c.prog c.w) a (isStr_is x _) (I.notMods e) z') ⟨_, hd.mapOf, ?_⟩
  have q := hr.val x
  refine I.okVt (t := s.toks + 1) (v := (getK l x).getD dflt) ?_ h
  cases hg : getK l x with
  | none => rw [hg] at q; rw [q]; exact r3
  | some v => rw [hg] at q; obtain ⟨v', e1, e2⟩ := q; rw [e1]; exact e2
theorem CALL_extend {n : Nat} {l l' : List V} {v : V} (hn : σ[n]? = some (.list l)) (hv : isList σ v l') (hsz : l.length ≤ 4000) (hsz' : l'.length ≤ 4000) (h : Q .none (σ.set n (.list (l ++ l')))) : CALL c d (.raw (.builtin "list.extend")) [.loc n, v] σ Q := fun A s θ f' vs' r I rf rv => by
  cases rf
  obtain ⟨x, v', rfl, r1, r2⟩ := rv.two
  obtain ⟨b, ys, m, rfl, hb, rb⟩ := I.asL hv r2
  obtain ⟨a, rfl, e⟩ := r1.ofLoc
  obtain ⟨xs, k, hl, rl⟩ := I.isL hn e
  have e1 : xs.toArray.size = l.length := by rw [List.size_toArray, rl.length]
  have e2 : ys.toArray.size = l'.length := by rw [List.size_toArray, rb.length]
  refine call_meets F.slot_list_extend ⟨_, hl, rfl⟩ F.entry_list_extend (F.args_list_extend_2 _ _) (AutoSeq1.list_extend_list_list_0 a xs.toArray k b ys.toArray m ?_ ?_ ?_) ⟨hl, hb, ?_⟩
  · rw [e1, e2]; unfold Builtin.List.listTooLong; rw [sizeLine_eq]; simp; omega
  · rw [e1, sizeLine_eq]; omega
  · rw [e1, e2, sizeLine_eq]; omega
  · refine I.listUpd (t := s.toks) (ys := xs ++ ys) (l' := l ++ l') e hl (by simp) (rl.append rb) .none h
theorem CALL_dictD {n : Nat} {l : List (Str × V)} (hn : σ[n]? = some (.dictS l)) (hz : l.length ≤ 9000) (h : Q (.loc σ.length) (σ ++ [.dictS l])) : CALL c d (.raw (.type "dict")) [.loc n] σ Q := fun A s θ f' vs' r I rf rv => by
  cases rf
  obtain ⟨v', rfl, r1⟩ := rv.one
  obtain ⟨a, rfl, e⟩ := r1.ofLoc
  obtain ⟨kvs, hd, hr⟩ := I.rep.obj n _ a hn e
  refine kt_call_dict (I.notMods e) hd (by rw [← hr.length, sizeLine_eq]; omega) fun h' hd' hs' => ?_
  -- the new dict is put in the store
  obtain ⟨I₁, g₁⟩ := I.alloc (ob := { cls := .type "dict", data := .dict #[] }) (o := .dictS []) (t := s.toks) ⟨[], Heap.DictOf.new _, .nil⟩
  have en : (θ ++ [s.heap.objs.size])[σ.length]? = some s.heap.objs.size := by rw [← I.rep.len]; simp
  have g2 : Grow (s.heap.push { cls := .type "dict", data := .dict #[] }) (θ ++ [s.heap.objs.size]) h' (θ ++ [s.heap.objs.size]) := ⟨⟨[], (List.append_nil _).symm⟩, fun _ m n => (n m).elim, fun b o e' n => (hs'.2 b (fun z => n (by rw [z]; exact List.mem_of_getElem? en))).trans e'⟩
  obtain ⟨I₂, g₂⟩ := I₁.upd (o' := .dictS l) (t := s.toks) en hs' ⟨_, hd', (hr.grow I.tupOut g₁).grow I₁.tupOut g2⟩
  refine ⟨.loc σ.length, _, _, I₂, g₁.trans g₂, .loc _ _ en, ?_⟩
  have : (σ ++ [SO.dictS []]).set σ.length (.dictS l) = σ ++ [.dictS l] := by simp
  rw [this]; exact h
end
end Mine
end
section
open PySem PySem.W PySem.Calls PyProof.Rows
set_option linter.unusedVariables false
set_option linter.deprecated false
set_option maxRecDepth 100000
namespace Mine
section
variable {prog : Program} {w : World} {A : Around} {E : Value → Shared → Prop} {s : Shared}
theorem lk_list_keys : typeLookup (.type "list") "keys" = pure none := by rw [typeLookup_type, builtinLookup_eq_fast]; kernel_rfl
theorem keys_none {a : Addr} {xs : Array Value} {k : Nat} {Q : Option Value → Shared → Prop} (hx : s.heap.get? a = some { cls := .type "list", dict := none, data := .seq xs k, slots := #[] }) (hA : A.handled = none)
    (h : ∀ h' tk, (∀ b o, s.heap.get? b = some o → h'.get? b = some o) → Q none { s with heap := h', toks := tk }) : wpAny (model prog w) A (getAttr? (.ref a) (Str.ofString "keys")) Q E s := by
  obtain ⟨hp, g, d, tk, os⟩ := s
  have hT : ∀ s' : Shared, s'.heap = hp → s'.TypeIs (.ref a) "list" := fun s' e => ⟨_, e ▸ hx, rfl⟩
  have f1 := sub_AttributeError
  have f3 := F.slot_list_getattribute.lookup
  have f4 := F.slot_list_getattribute.bind (.ref a)
  have f5 := am_list_getattr_none
  have hT0 : (⟨hp, g, d, tk, os⟩ : Shared).TypeIs (.ref a) "list" := hT _ rfl
  unfold getAttr? getAttrBy? getAttrBy
  repeat (any_goals (first | assumption | ((with_reducible show wpAny _ _ (call (Value.builtin "list.__getattribute__") _ _) _ _ _); refine call_meets F.slot_list_getattribute (hT _ rfl) am_entry_list_getattribute (F.args_list_getattribute_2 _ _) (meets_getattribute_miss_list a xs k #[] _ _ lk_list_keys (by decide +kernel) (by rw [sizeLine_eq]; decide +kernel)) ⟨hx, hA, fun h' tk' e hx => ?_⟩) | wp_step))
  have hk : ∀ b o, hp.get? b = some o → h'.get? b = some o := hx.keeps
  obtain ⟨t', u', he⟩ := hx.there
  show wpAny _ _ (getattributeRaised _ _ _ _ _ _ _) _ _ _
  unfold getattributeRaised
  repeat (any_goals (first | assumption | wp_step))
  exact h _ _ hk
theorem stored_le {K : Type} [DecidableEq K] (l : List (K × Value)) (k : K) (v : Value) : (stored l k v).length ≤ l.length + 1 := by
  unfold stored; split <;> simp
theorem foldl_le {K : Type} [DecidableEq K] : ∀ (l acc : List (K × Value)), (l.foldl (fun acc kv => stored acc kv.1 kv.2) acc).length ≤ acc.length + l.length
  | [], acc => by simp
  | kv :: l, acc => by
    rw [List.foldl_cons]
    have h1 := foldl_le l (stored acc kv.1 kv.2)
    have h2 := stored_le acc kv.1 kv.2
    simp; omega
theorem plain_update_loop : plainId "dict.update.loop" = true := by decide +kernel
theorem entry_update_loop : entryFor table "dict.update.loop" = some Builtin.«dict.update.loop» := entryFor_of_tree (by kernel_rfl)
theorem update_loop {K : Type} [DecidableEq K] {knd : KeyKind prog w K} {R : Result → Shared → Prop} {D I l : Addr} {items : Array Value} (hne : l ≠ I) (hDI : D ≠ I) (hDl : D ≠ l) (hA : A.handled = none) (ks : List (K × Value)) (hlen : items.size = ks.length) (hz : items.size ≤ 1000)
    (hit : ∀ i (h : i < items.size) (kv : K × Value), ks[i]? = some kv → ∀ h', (∀ b o, b ≠ D → b ≠ I → s.heap.get? b = some o → h'.get? b = some o) → ∃ T key, items[i] = .ref T ∧ T ≠ D ∧ T ≠ I ∧ IsT h' T #[key, kv.2] ∧ knd.is kv.1 key = true)
    (hR : ∀ h' tk, h'.DictOf knd D (ks.foldl (fun acc kv => stored acc kv.1 kv.2) []) → (∀ b o, b ≠ D → b ≠ I → s.heap.get? b = some o → h'.get? b = some o) → R (.ok (.ret .none)) { s with heap := h', toks := tk }) :
    ∀ (j : Nat) (i : Nat) (h' : Heap) (tk : Nat), items.size - i = j → i ≤ items.size → h'.DictOf knd D ((ks.take i).foldl (fun acc kv => stored acc kv.1 kv.2) []) → h'.IsListIter I l i → h'.IsList l items → (∀ b o, b ≠ D → b ≠ I → s.heap.get? b = some o → h'.get? b = some o) →
      codeAny (model prog w) A (.builtin "dict.update.loop" ⟨[.ref D, .ref I, rawInt (i : Nat), .none], []⟩) R { s with heap := h', toks := tk } := by
  intro j
  induction j with
  | zero =>
    intro i h' tk hj hi hd hI hl hk
    have hi' : i = ks.length := by omega
    subst hi'
    refine codeAny_builtin entry_update_loop ?_
    rw [Around.under_plainId plain_update_loop _]
    unfold Builtin.«dict.update.loop»
    refine wpAny_bind (wpAny_pyNext_list_end hA hI hl (by simp; omega) fun h₁ he => ?_)
    refine wpAny_bind (wpAny_pure (wpAny_pure ?_))
    rw [List.take_length] at hd
    exact hR _ _ (hd.extBut he hDI) fun b o h1 h2 e => he b o h2 (hk b o h1 h2 e)
  | succ j ih =>
    intro i h' tk hj hi hd hI hl hk
    have hlt : i < items.size := by omega
    have hks : i < ks.length := by omega
    refine codeAny_builtin entry_update_loop ?_
    rw [Around.under_plainId plain_update_loop _]
    unfold Builtin.«dict.update.loop»
    refine wpAny_bind (wpAny_pyNext_list_item hI hl (x := items[i]) (by simp [hlt]) fun h₁ hI₁ hs => ?_)
    have hk₁ : ∀ b o, b ≠ D → b ≠ I → s.heap.get? b = some o → h₁.get? b = some o := fun b o n1 n2 e => hs.extBut b o n2 (hk b o n1 n2 e)
    obtain ⟨T, key, e1, hTD, hTI, hT, hkey⟩ := hit i hlt ks[i] (List.getElem?_eq_getElem hks) h₁ hk₁
    rw [e1]
    have hT2 : (⟨h₁, s.gens, s.drawn, tk, s.os⟩ : Shared).TypeIs (.ref T) "tuple" := (let ⟨_, e⟩ := hT; ⟨_, e, rfl⟩)
    refine wpAny_bind (wpAny_holding ?_)
    refine wpAny_bind (wpAny_tryCatch ?_)
    unfold Builtin.Dict.pairItems
    refine wpAny_bind (wpAny_typeOf hT2 ?_)
    rw [if_pos (by decide)]
    obtain ⟨nn, hTe⟩ := hT
    refine wpAny_bind (wpAny_seqItems hTe rfl (wpAny_pure ?_))
    show wpAny _ _ (holding [key, ks[i].2] (dictSet D key ks[i].2)) _ _ _
    have hd₁ : h₁.DictOf knd D ((ks.take i).foldl (fun acc kv => stored acc kv.1 kv.2) []) := hd.extBut hs.extBut hDI
    refine wpAny_holding (wpAny_dictSet_pairs hkey hd₁ (fun h₂ hd₂ hs₂ => ?_) ?_)
    · have hc : ((i : Int) + 1) = ((i + 1 : Nat) : Int) := by push_cast; rfl
      refine wpAny_pure ?_
      rw [show rawInt ((i : Nat) + 1) = rawInt ((i + 1 : Nat) : Int) from by rw [hc]]
      refine ⟨plainId_quiet plain_update_loop _, ih (i + 1) h₂ _ (by omega) hlt ?_ ?_ ?_ ?_⟩
      · have e2 : ks.take (i + 1) = ks.take i ++ [ks[i]] := by rw [List.take_succ, List.getElem?_eq_getElem hks]; rfl
        rw [e2, List.foldl_append]; exact hd₂
      · exact hI₁.at fun o e => (hs₂.2 I hDI.symm).trans e
      · exact (hl.extBut hs.extBut hne).at fun o e => (hs₂.2 l hDl.symm).trans e
      · exact fun b o n1 n2 e => (hs₂.2 b n1).trans (hk₁ b o n1 n2 e)
    · have : ((ks.take i).foldl (fun acc kv => stored acc kv.1 kv.2) []).length ≤ 0 + (ks.take i).length := foldl_le _ _
      have h2 : (ks.take i).length ≤ i := by simp; omega
      rw [sizeLine_eq]; omega
theorem call_dict_pairs {K : Type} [DecidableEq K] {knd : KeyKind prog w K} {l : Addr} {xs : Array Value} {k : Nat} {Q : Value → Shared → Prop} (hA : A.handled = none) (hl : s.heap.get? l = some { cls := .type "list", dict := none, data := .seq xs k, slots := #[] }) (ks : List (K × Value)) (hlen : xs.size = ks.length) (hz : xs.size ≤ 1000)
    (hit : ∀ i (h : i < xs.size) (kv : K × Value), ks[i]? = some kv → ∃ T key, xs[i] = .ref T ∧ IsT s.heap T #[key, kv.2] ∧ knd.is kv.1 key = true)
    (h : ∀ h' tk, h'.DictOf knd s.heap.objs.size (ks.foldl (fun acc kv => stored acc kv.1 kv.2) []) → (∀ b o, s.heap.get? b = some o → h'.get? b = some o) → Q (.ref s.heap.objs.size) { s with heap := h', toks := tk }) :
    wpAny (model prog w) A (call (.type "dict") [.ref l]) Q E s := by
  refine callType_codes (Q₁ := fun obj s₁ => obj = .ref s.heap.objs.size ∧ s₁ = { s with heap := s.heap.push { cls := .type "dict", data := .dict #[] } }) F.kt_called_dict (F.kt_typeCall_dict_1 _) F.entry_dict_init (kt_code_dict_new _ ⟨rfl, rfl⟩) ?_
  rintro obj s₁ ⟨rfl, rfl⟩
  have hnew : (s.heap.push { cls := .type "dict", data := .dict #[] }).DictOf knd s.heap.objs.size [] := Heap.DictOf.new s.heap
  have hl1 : (s.heap.push { cls := .type "dict", data := .dict #[] }).get? l = some { cls := .type "list", dict := none, data := .seq xs k, slots := #[] } := Heap.get?_push_of_some _ hl
  have hlt : l < s.heap.objs.size := Heap.lt_size hl
  refine ⟨hnew.typeIs, F.args_dict_init_2 _ _, ?_⟩
  unfold Builtin.«dict.__init__»
  refine wpAny_bind ?_
  unfold Builtin.Dict.selfAndRest
  refine wpAny_bind (wpAny_notOrdered_dict hnew.typeIs ?_)
  show wpAny _ _ (pure (s.heap.objs.size, [Value.ref l])) _ _ _
  refine wpAny_pure ?_
  show wpAny _ _ (Builtin.Dict.updateFrom "dict.__init__" s.heap.objs.size (.ref l) [] .none) _ _ _
  unfold Builtin.Dict.updateFrom
  refine wpAny_bind (wpAny_typeOf (T := "list") ⟨_, hl1, rfl⟩ ?_)
  rw [if_pos (by decide)]
  refine wpAny_bind (keys_none hl1 hA fun h₁ tk₁ hk₁ => ?_)
  rw [if_pos (by rfl)]
  refine wpAny_bind (wpAny_rule ?_)
  have hl2 : h₁.get? l = some { cls := .type "list", dict := none, data := .seq xs k, slots := #[] } := hk₁ _ _ hl1
  refine wpAny_bind (wpAny_pyIter_list ⟨_, hl2, rfl, k, rfl⟩ ?_)
  have hd2 : (h₁.push { cls := .type "list_iterator", data := .fields #[.ref l, .int 0 0] }).DictOf knd s.heap.objs.size [] := by
    obtain ⟨o, es, ep, e, r⟩ := hnew; exact ⟨o, es, ep, Heap.get?_push_of_some _ (hk₁ _ _ e), r⟩
  have hsz1 : s.heap.objs.size < h₁.objs.size := by obtain ⟨o, es, ep, e, r⟩ := hnew; exact Heap.lt_size (hk₁ _ _ e)
  have old : ∀ b o, s.heap.get? b = some o → (h₁.push { cls := .type "list_iterator", data := .fields #[.ref l, .int 0 0] }).get? b = some o := fun b o e => Heap.get?_push_of_some _ (hk₁ _ _ (Heap.get?_push_of_some _ e))
  refine wpAny_bind (wpAny_pure ?_)
  refine wpAny_pure ?_
  have L := update_loop (s := { s with heap := h₁.push { cls := .type "list_iterator", data := .fields #[.ref l, .int 0 0] }, toks := tk₁ }) (A := A.in1) (D := s.heap.objs.size) (I := h₁.objs.size) (l := l) (items := xs) (knd := knd)
    (R := wants (fun r s₂ => r = .none ∧ Q (.ref s.heap.objs.size) s₂) E) (Nat.ne_of_lt (Nat.lt_trans hlt hsz1)) (Nat.ne_of_lt hsz1) (Nat.ne_of_gt hlt) hA ks hlen hz
    (fun i hi kv hkv h' hk' => by
      obtain ⟨T, key, e1, hT, hkey⟩ := hit i hi kv hkv
      obtain ⟨n, hT⟩ := hT
      have hTlt : T < s.heap.objs.size := Heap.lt_size hT
      exact ⟨T, key, e1, Nat.ne_of_lt hTlt, Nat.ne_of_lt (Nat.lt_trans hTlt hsz1), ⟨n, hk' _ _ (Nat.ne_of_lt hTlt) (Nat.ne_of_lt (Nat.lt_trans hTlt hsz1)) (old _ _ hT)⟩, hkey⟩)
    (fun h' tk hd' hk' => ⟨rfl, h h' tk hd' fun b o e => hk' b o (Nat.ne_of_lt (Heap.lt_size e)) (Nat.ne_of_lt (Nat.lt_trans (Heap.lt_size e) hsz1)) (old b o e)⟩)
    xs.size 0 (h₁.push { cls := .type "list_iterator", data := .fields #[.ref l, .int 0 0] }) tk₁ (by simp) (Nat.zero_le _) (by simpa using hd2) ⟨_, Heap.get?_push_size _ rfl, rfl, rfl⟩ ⟨_, Heap.get?_push_of_some _ hl2, rfl, k, rfl⟩ (fun _ _ _ _ e => e)
  exact ⟨plainId_quiet plain_update_loop _, L⟩
end
section
variable {c : Cx} {sc : Sc} {d : Nat} {ρ : Vars} {σ : St} {Q : Post} {A : Around} {s : Shared} {θ : List Addr}
def pairV (kv : Str × V) : V := .tup [.str kv.1, kv.2]
theorem pairs_rep {h : Heap} : ∀ {es : List (Str × V)} {xs : List Value}, RepVs h θ (es.map pairV) xs → ∃ ks : List (Str × Value), ks.length = xs.length ∧ RepKs h θ es ks ∧ ∀ (i : Nat) (h1 : i < xs.length) (kv : Str × Value), ks[i]? = some kv → ∃ T t, xs[i] = .ref T ∧ IsT h T #[.str kv.1 t, kv.2]
  | [], _, .nil => ⟨[], rfl, .nil, fun _ h => absurd h (Nat.not_lt_zero _)⟩
  | (k, v) :: es, _, .cons a b => by
    obtain ⟨ks, h1, h2, h3⟩ := pairs_rep b
    cases a with
    | tup l T ys ht hr =>
      obtain ⟨x, y, rfl, r1, r2⟩ := hr.two
      cases r1 with
      | str k t =>
        refine ⟨(k, y) :: ks, by simp [h1], .cons r2 h2, fun i hi kv e => ?_⟩
        cases i with
        | zero => cases e; exact ⟨T, t, rfl, ht⟩
        | succ i => exact h3 i (by simpa using hi) kv (by simpa using e)
theorem fold_rep {h : Heap} : ∀ {es : List (Str × V)} {ks : List (Str × Value)}, RepKs h θ es ks → ∀ {a : List (Str × V)} {b : List (Str × Value)}, RepKs h θ a b → RepKs h θ (es.foldl (fun acc kv => putK acc kv.1 kv.2) a) (ks.foldl (fun acc kv => stored acc kv.1 kv.2) b)
  | _, _, .nil, _, _, r => r
  | _, _, .cons p q, _, _, r => fold_rep q (r.stored p)
theorem CALL_dictP {v : V} {es : List (Str × V)} (hl : isList σ v (es.map pairV)) (hz : es.length ≤ 900) (h : Q (.loc σ.length) (σ ++ [.dictS (es.foldl (fun acc kv => putK acc kv.1 kv.2) [])])) : CALL c d (.raw (.type "dict")) [v] σ Q := fun A s θ f' vs' r I rf rv => by
  cases rf
  obtain ⟨v', rfl, r1⟩ := rv.one
  obtain ⟨a, xs, n, rfl, hL, rl⟩ := I.asL hl r1
  obtain ⟨ks, k1, k2, k3⟩ := pairs_rep rl
  have hxs : xs.length = es.length := by rw [← rl.length]; simp
  refine call_dict_pairs (knd := strKind c.prog c.w) r.handled hL ks (by simp [k1]) (by rw [List.size_toArray, hxs]; omega) (fun i hi kv e => by
    obtain ⟨T, t, e1, e2⟩ := k3 i (by simpa using hi) kv e
    exact ⟨T, _, by simpa using e1, e2, isStr_is _ _⟩) fun h' tk hd' hk => ?_
  obtain ⟨I₁, g₁⟩ := I.alloc (ob := { cls := .type "dict", data := .dict #[] }) (o := .dictS []) (t := tk) ⟨[], Heap.DictOf.new _, .nil⟩
  have en : (θ ++ [s.heap.objs.size])[σ.length]? = some s.heap.objs.size := by rw [← I.rep.len]; simp
  have g2 : Grow s.heap θ h' (θ ++ [s.heap.objs.size]) := ⟨⟨_, rfl⟩, g₁.fresh, fun b o e _ => hk b o e⟩
  have k' : ∀ b o, s.heap.get? b = some o → h'.get? b = some o := hk
  refine ⟨.loc σ.length, _, θ ++ [s.heap.objs.size], ⟨fun b o e => hk _ _ (I.keep b o e), I₁.apart, I₁.nodup, ⟨by simp [I.rep.len], fun j o' b e1 e2 => ?_⟩, I.gens, I.os⟩, g2, .loc _ _ en, h⟩
  by_cases hj : j < σ.length
  · rw [List.getElem?_append_left hj] at e1
    rw [List.getElem?_append_left (I.rep.len ▸ hj)] at e2
    exact (I.rep.obj j o' b e1 e2).moved I.tupOut g2 (fun ob e => hk _ _ e) (fun b' ob e _ => hk _ _ e) I.rep.noFields
  · have hj' : j = σ.length := by
      have := (List.getElem?_eq_some_iff.mp e1).1
      simp at this; omega
    subst hj'
    rw [List.getElem?_append_right (Nat.le_refl _)] at e1
    rw [en] at e2
    simp at e1 e2
    subst e1 e2
    exact ⟨_, hd', fold_rep (k2.grow I.tupOut g2) .nil⟩
end
end Mine
end
section
open PySem PySem.W PySem.Calls PyProof.Rows PySem.MeetsSeq PySem.MeetsSeq2 PySem.MeetsSeq3
set_option linter.unusedVariables false
set_option maxRecDepth 20000
namespace Mine
section
variable {c : Cx} {sc : Sc} {d : Nat} {ρ : Vars} {σ : St} {Q : Post} {R : Fl → Vars → St → Prop} {A : Around} {env : Env} {s s₁ : Shared} {θ θ₁ : List Addr} {x y : Str} {target : Expr}
theorem code_def (C : CxOk c) {a : Addr} {fd : FuncData} {ps : List Str} {body : List Stmt} {vs : List V} {vs' : List Value} (f : FnAt c a fd ps body) (hlen : vs.length = ps.length) (hd : 1 ≤ d)
    (h : EXs c ⟨fd.scope, fd.code⟩ (d - 1) body (binds ps vs []) σ fun fl _ σ' => Q (retOf fl) σ') (r : Room A d) (I : Inv c s θ σ) (rv : RepVs s.heap θ vs vs') :
    codeAny (model c.prog c.w) A (.call (.ref a) ⟨vs', []⟩) (fun r s' => match r with | .ok (.ret v) => OkV c s θ Q v s' | _ => False) s := by
  obtain ⟨o, ho, hdat⟩ := f.at_
  have hz : ∀ x ∈ ps.zip vs', x.1 ∈ ps := fun x hx => (List.of_mem_zip (show (x.1, x.2) ∈ ps.zip vs' from hx)).1
  refine codeAny_call_cells (by have := r.depth; omega) (I.keep _ _ ho) hdat (C.nolimit.keeps I.keep) (f.code.keeps I.keep) f.body (f.bind vs' (by rw [← rv.length]; exact hlen)) f.closure ?_ (fun s₁ X => ?_) f.co f.gen f.kind
  · intro x hx
    rcases f.kinds x.1 (hz x hx) with e | e
    · exact .inl e
    · exact .inr ⟨e, cellsFrom_some _ _ _ (.inl e)⟩
  · obtain ⟨hh, tk, rfl⟩ := X.toInCall.same
    have keep := X.toInCall.keep
    have I₁ : Inv c { s with heap := hh, toks := tk } θ σ := I.keeps keep
    have g₁ : Grow s.heap θ hh θ := grow_keeps keep
    have E₁ : EnvIs ⟨fd.scope, fd.code⟩ (callEnvC fd s.heap.objs.size a) := ⟨rfl, f.globals, f.builtins, rfl, f.kind, fun x hx => cellsFrom_some _ _ _ (.inl hx)⟩
    have above : ∀ n k, (callEnvC fd s.heap.objs.size a).cells.lookup n = some k → s.heap.objs.size < k := fun n k e => X.above n k (mem_of_lookup e)
    have F₁ : FrA c hh θ (callEnvC fd s.heap.objs.size a) (binds ps vs []) := by
      refine ⟨⟨_, _, X.toInCall.ns, X.cell, fun x v hx => ?_⟩, (I.new (Nat.le_refl _)).1, (I.new (Nat.le_refl _)).2, fun n k e => ?_, fun n n' k e e' => ?_⟩
      · have B := Bound.bind (kindOf := (callEnvC fd s.heap.objs.size a).kindOf) (rv.mapM fun q => q.grow I.tupOut g₁) (fun x hx => f.kinds x hx) (ρ := []) (m := fun _ => none) (cm := fun _ => none) (fun _ _ e => by cases e)
        obtain ⟨v', p, q⟩ := B x v hx
        refine ⟨v', p, ?_⟩
        rcases q with q | ⟨q1, q2⟩
        · exact .inl q
        · exact .inr ⟨.inl q1, cellsFrom_some _ _ _ (.inl q1), q2⟩
      · have := above n k e
        exact ⟨Nat.ne_of_gt this, (I.new (Nat.le_of_lt this)).1, (I.new (Nat.le_of_lt this)).2⟩
      · exact name_of_addr X.apart (mem_of_lookup e) (mem_of_lookup e')
    have r₁ : Room (A.deeper (callEnvC fd s.heap.objs.size a)) (d - 1) := by
      have q := r.depth
      have q' := r.units
      have e1 : (A.deeper (callEnvC fd s.heap.objs.size a)).depth = A.depth + 1 := rfl
      have e2 : (A.deeper (callEnvC fd s.heap.objs.size a)).units = A.units + 3 := rfl
      exact ⟨by rw [e1]; omega, by rw [e2]; omega, r.handled⟩
    refine wpAny_mono (h _ _ _ θ r₁ E₁ I₁ F₁) (fun f' s₂ h₂ => ?_) fun _ _ x => x.elim
    obtain ⟨fl, ρ', σ', θ', I₂, _, g₂, rf, q⟩ := h₂
    have G : Grow s.heap θ s₂.heap θ' := g₂.out fun b o e => ⟨keep b o e, fun m => by
      have lt := Heap.lt_size e
      rcases m with e' | ⟨n, e'⟩
      · exact absurd lt (by rw [e']; exact Nat.lt_irrefl _)
      · exact absurd (Nat.lt_trans lt (above n b e')) (Nat.lt_irrefl _)⟩
    cases rf with
    | next => exact ⟨_, σ', θ', I₂, G, .none, q⟩
    | brk => exact ⟨_, σ', θ', I₂, G, .none, q⟩
    | cont => exact ⟨_, σ', θ', I₂, G, .none, q⟩
    | ret rv => exact ⟨_, σ', θ', I₂, G, rv, q⟩
theorem ite_le (p : Prop) [Decidable p] : (if p then 1 else 0) ≤ 1 := by split <;> omega
theorem room_make (r : Room A d) (hd : 1 ≤ d) (args : Args) : Room (A.under (.builtin "type.__call__" args)) (d - 1) := by
  have q := r.depth
  have q' := r.units
  have e1 : (A.under (.builtin "type.__call__" args)).depth ≤ A.depth + 1 := by
    show A.depth + _ ≤ A.depth + 1
    refine Nat.add_le_add_left ?_ _
    have h1 : (Code.builtin "type.__call__" args).isFrame = false := by first | rfl | decide
    have h2 : ¬ "type.__call__" ∈ guardIds := by decide +kernel
    simp [Code.weight, Code.frames, Code.isCreation, Code.isGuard, Code.isCaller, h1, h2]
    exact ite_le _
  have e2 : (A.under (.builtin "type.__call__" args)).units ≤ A.units + 4 := by
    show A.units + _ ≤ A.units + 4
    refine Nat.add_le_add_left ?_ _
    have h1 : (Code.builtin "type.__call__" args).isFrame = false := by first | rfl | decide
    simp [Code.cUnits, Code.frames, h1]
  exact ⟨by omega, by omega, r.handled⟩
theorem CALL_make (Cc : CxOk c) {C f : Addr} {fd : FuncData} {ps : List Str} {body : List Stmt} {vs : List V} (hm : makesIn c.K C = true) (hi : findIn c.K (.ref C) "__init__" = some (some (.ref f))) (hf : typeIn c.K (.ref f) = some (.type "function"))
    (fa : FnAt c f fd ps body) (hlen : vs.length + 1 = ps.length) (hd : 2 ≤ d)
    (h : EXs c ⟨fd.scope, fd.code⟩ (d - 2) body (binds ps (.loc (σ.length + 1) :: vs) []) (σ ++ [.attrs [], .inst C σ.length]) fun fl _ σ' => retOf fl = .none ∧ Q (.loc (σ.length + 1)) σ') : CALL c d (.raw (.ref C)) vs σ Q := fun A s θ f' vs' r I rf rv => by
  cases rf
  refine wpAny_call ?_
  have X := Cc.K.keeps I.keep
  obtain ⟨hh, g, dr, t, os⟩ := s
  refine make_core (makes_of X hm) (looks_findIn X hi) (fun self => bind_fn X self hf) (.inl rfl) ?_
  have A₁ := I.alloc (ob := emptyDict) (o := .attrs []) (t := t) ⟨[], 0, Heap.get?_push_size _ rfl, .nil⟩
  obtain ⟨I₁, g₁⟩ := A₁
  dsimp only at I₁ g₁
  have e0 : (θ ++ [hh.objs.size])[σ.length]? = some hh.objs.size := by rw [← I.rep.len]; simp
  have A₂ := I₁.alloc (ob := instObj C hh.objs.size) (o := .inst C σ.length) (t := t) ⟨hh.objs.size, by
      rw [List.getElem?_append_left (List.getElem?_eq_some_iff.mp e0).1]; exact e0, Heap.get?_push_size _ rfl⟩
  obtain ⟨I₂, g₂⟩ := A₂
  dsimp only at I₂ g₂
  rw [Heap.size_push] at I₂ g₂
  have e1 : ((θ ++ [hh.objs.size]) ++ [hh.objs.size + 1])[σ.length + 1]? = some (hh.objs.size + 1) := by rw [← I.rep.len]; simp
  have gg := g₁.trans g₂
  have eσ : (σ ++ [SO.attrs []]) ++ [SO.inst C σ.length] = σ ++ [.attrs [], .inst C σ.length] := by simp
  rw [eσ] at I₂
  have hb := code_def (Q := fun v σ' => v = .none ∧ Q (.loc (σ.length + 1)) σ') (s := ⟨(hh.push emptyDict).push (instObj C hh.objs.size), g, dr, t, os⟩) Cc fa (vs := .loc (σ.length + 1) :: vs) (d := d - 1) (by simpa using hlen) (by omega) h (room_make r (by omega) ⟨.ref C :: vs', []⟩) I₂ (.cons (.loc _ _ e1) (rv.grow I.tupOut gg))
  refine codeAny_mono hb fun r' s' hr => ?_
  cases r' with
  | error e => exact hr.elim
  | ok fl =>
    cases fl with
    | ret v =>
      obtain ⟨u, σ', θ', I', g', ru, rfl, q⟩ := hr
      cases ru
      exact ⟨rfl, .loc (σ.length + 1), σ', θ', I', gg.trans g', .loc _ _ (g'.at e1), q⟩
    | _ => exact hr.elim
end
end Mine
end
section
open PySem PySem.W PySem.Calls PyProof.Rows PySem.MeetsSeq PySem.MeetsSeq2 PySem.MeetsSeq3
set_option linter.unusedVariables false
set_option maxRecDepth 20000
namespace Mine
section
variable {c : Cx} {sc : Sc} {d : Nat} {ρ : Vars} {σ : St} {Q : Post} {R : Fl → Vars → St → Prop} {A : Around} {env : Env} {s s₁ : Shared} {θ θ₁ : List Addr} {x y : Str} {target : Expr}
def LamIs (args : Arguments) (body : Expr) (scope : Scope) (fd : FuncData) : Prop := ∃ name qual pm cdv ctv, fd = kla_fn name qual args body scope [] pm cdv ctv
theorem Inv.updE (I : Inv c s θ σ) {i : Nat} {a : Addr} {o' : SO} {h' : Heap} {t : Nat} (ha : θ[i]? = some a) (hs : Heap.ExtBut a s.heap h') (ho : RepO c.prog c.w h' θ a o') :
    Inv c { s with heap := h', toks := t } θ (σ.set i o') ∧ Grow s.heap θ h' θ := by
  have ma : a ∈ θ := List.mem_of_getElem? ha
  have g : Grow s.heap θ h' θ := ⟨⟨[], (List.append_nil _).symm⟩, fun _ m n => (n m).elim, fun b o e n => hs b o (fun z => n (z ▸ ma)) e⟩
  refine ⟨⟨fun b o e => hs b o (fun z => by subst z; have := (I.apart _ ma).1; rw [e] at this; cases this) (I.keep b o e), I.apart, I.nodup, ⟨by rw [List.length_set]; exact I.rep.len, fun j o b e1 e2 => ?_⟩, I.gens, I.os⟩, g⟩
  by_cases hij : i = j
  · subst hij
    rw [ha] at e2; cases e2
    have hl : i < σ.length := I.rep.len ▸ (List.getElem?_eq_some_iff.mp ha).1
    rw [List.getElem?_set_self hl] at e1; cases e1
    exact ho
  · rw [List.getElem?_set_ne hij] at e1
    have hb : b ≠ a := fun z => by
      subst z
      obtain ⟨h1, e3⟩ := List.getElem?_eq_some_iff.mp ha
      obtain ⟨h2, e4⟩ := List.getElem?_eq_some_iff.mp e2
      exact hij ((List.getElem_inj I.nodup).mp (e3.trans e4.symm))
    exact (I.rep.obj j o b e1 e2).moved I.tupOut g (fun ob e => hs b ob hb e) (fun b' ob e n => g.kept b' ob e n) I.rep.noFields
theorem EV_Lambda (Cc : CxOk c) {args : Arguments} {body : Expr} {scope : Scope} {pos : Pos} {c0 P : Addr} {k : Nat} {ps : Array Value}
    (hd : ∀ env, defaultsOf args env = ([], [])) (hfree : ∀ y ∈ scope.names, y.2 ≠ .free) (hcode : sc.code = .ref c0) (C : CodeHd c.hb c0 P) (hk : σ[k]? = some (.tab P ps)) (ht : TriplesOk ps.toList) (hnf : codeAmong pos ps.toList = none)
    (h : ∀ ps', Q (.loc σ.length) (σ.set k (.tab P ps') ++ [.fn (LamIs args body scope)])) : EV c sc d (.Lambda args body scope pos) ρ σ Q := fun A env s θ r X I F => by
  show wpAny _ _ (do
    let (d, kd) := defaultsOf args env
    let dv ← evalAll d
    let kdv ← holding dv (evalAllOpt kd)
    makeFunction "<lambda>" (env.qual ++ "<lambda>") args (.expr body) scope env dv kdv [] pos pos.line) _ _ _
  rw [hd env]
  refine wpAny_bind (wpAny_pure (a := ([] : List Value)) (wpAny_bind (wpAny_holding (wpAny_of_eq rfl ?_))))
  obtain ⟨a, ha, rfl, hP, hnoC⟩ := I.at hk
  obtain ⟨mg, bm, ob, hg, b1, b2, b3, b4, b5, b6, b7⟩ := Cc.bmain
  have inθ : ∀ b o, c.hb.get? b = some o → b ≠ a := fun b o e z => by subst z; have := (I.apart _ (List.mem_of_getElem? ha)).1; rw [e] at this; cases this
  have hgP : mainGlobals ≠ a := by obtain ⟨o, es, ep, e, _⟩ := hg; exact inθ _ _ e
  refine kla_makeFunction (mg := mg) (closureFor_none hfree) X.globals (hg.keeps I.keep) (X.code.trans hcode) (C.keeps I.keep) hP ht hnf hgP ⟨bm, ob, b1, b2, b3, inθ _ _ b4, I.keep _ _ b4, b5, b6, b7⟩ fun c' ctv h' tk hx hge hlt hrec htb => ?_
  have hps' : ∀ x t, (ps ++ #[rawInt pos.line, rawInt pos.col, .ref c'])[1]? ≠ some (.str x t) := by
    intro x t
    cases hp : ps.toList with
    | nil => have : ps = #[] := by cases ps; cases hp; rfl
             subst this; simp [rawInt]
    | cons p l =>
      cases hl : l with
      | nil => rw [hp, hl] at ht; cases p <;> exact ht.elim
      | cons q l' =>
        have e : (ps ++ #[rawInt pos.line, rawInt pos.col, .ref c'])[1]? = ps[1]? := by
          rw [Array.getElem?_append_left]
          have : ps.size = (p :: q :: l').length := by rw [← hl, ← hp]; simp
          rw [this]; simp
        rw [e]; exact hnoC x t
  obtain ⟨I₁, g₁⟩ := I.updE (t := tk) (o' := .tab a (ps ++ #[rawInt pos.line, rawInt pos.col, .ref c'])) ha hx ⟨rfl, htb, hps'⟩
  obtain ⟨I₂, g₂⟩ := I₁.alloc (t := tk) (ob := kla_obj "<lambda>" (env.qual ++ "<lambda>") args body scope [] ((mg "__name__").getD .none) c' ctv) (o := .fn (LamIs args body scope))
    ⟨_, ⟨_, _, _, _, _, rfl⟩, Heap.get?_push_size _ rfl, hrec.push _⟩
  refine ⟨.loc σ.length, _, _, I₂, g₁.trans g₂, .loc _ _ (by rw [← I.rep.len]; simp), ?_⟩
  exact h _
theorem get_binds_zip {h : Heap} : ∀ {xs : List Str} {vs : List V} {vs' : List Value} {ρ : Vars} {m : Str → Option Value}, RepVs h θ vs vs' → (∀ x v, get ρ x = some v → ∃ v', RepV h θ v v' ∧ m x = some v') →
    ∀ x v, get (binds xs vs ρ) x = some v → ∃ v', RepV h θ v v' ∧ ((xs.zip vs').reverse.lookup x).or (m x) = some v'
  | [], _, _, _, _, r, B, x, v, hx => by
    cases r <;> simpa using B x v hx
  | _ :: _, _, _, _, _, .nil, B, x, v, hx => by simpa using B x v hx
  | z :: xs, _, _, ρ, m, .cons (v := u) (x := u') a b, B, x, v, hx => by
    have := get_binds_zip (xs := xs) (ρ := put ρ z u) (m := fun y => if y = z then some u' else m y) b (fun y w hy => by
      rw [get_put] at hy
      by_cases e : z = y
      · subst e; rw [if_pos rfl] at hy; cases hy; exact ⟨u', a, by simp⟩
      · rw [if_neg e] at hy; obtain ⟨w', p, q⟩ := B y w hy; exact ⟨w', p, by (have e' : ¬ y = z := fun z => e z.symm); (simp only [e', if_false]); exact q⟩) x v hx
    obtain ⟨v', p, q⟩ := this
    refine ⟨v', p, ?_⟩
    rw [List.zip_cons_cons, List.reverse_cons, List.lookup_append]
    rw [← q]
    cases hl : (xs.zip _).reverse.lookup x with
    | some w => simp
    | none =>
      by_cases e : x = z
      · subst e; simp
      · have : (x == z) = false := by simpa using e
        simp [List.lookup_cons, this, e]
theorem CALL_lam (C : CxOk c) {n : Nat} {args : Arguments} {body : Expr} {scope : Scope} {ps : List Str} {vs : List V} (hn : σ[n]? = some (.fn (LamIs args body scope))) (hlen : vs.length = ps.length) (hd : 1 ≤ d)
    (hcell : ∀ y ∈ scope.names, y.2 ≠ .cell) (hk : ∀ x ∈ ps, scope.names.lookup x = some .local) (hkind : scope.kind = .function) (hco : scope.isCoroutine = false) (hgen : scope.isGenerator = false)
    (hb : ∀ fd, LamIs args body scope fd → ∀ vals : List Value, vals.length = ps.length → bindArgs fd ⟨vals, []⟩ = pure (ps.zip vals))
    (h : ∀ code, EV c ⟨scope, code⟩ (d - 1) body (binds ps vs []) σ Q) : CALL c d (.loc n) vs σ Q := fun A s θ f' vs' r I rf rv => by
  obtain ⟨a, rfl, e⟩ := rf.ofLoc
  obtain ⟨fd, hfd, ho, hrec⟩ := I.rep.obj n _ a hn e
  have hfd' := hfd
  obtain ⟨name, qual, pm, cdv, ctv, rfl⟩ := hfd'
  refine wpAny_call (kla_callFunE (by have := r.depth; omega) ho rfl hco hgen rfl hrec ?_)
  rw [hb _ hfd vs' (by rw [← rv.length]; exact hlen)]
  refine wpAny_pure ?_
  have hz : ∀ x ∈ ps.zip vs', scope.names.lookup x.1 = some .local := fun x hx => hk _ (List.of_mem_zip (show (x.1, x.2) ∈ ps.zip vs' from hx)).1
  refine wpAny_newFunctionEnv hcell hz (fun h₁ hns hsb => ?_) hkind
  dsimp only at hns hsb ⊢
  have keep : ∀ b o, s.heap.get? b = some o → h₁.get? b = some o := fun b o e => hsb.extBut b o (Nat.ne_of_lt (Heap.lt_size e)) (Heap.get?_push_of_some _ e)
  refine ⟨(C.nolimit.keeps I.keep).keeps keep, kla_codeExpr ?_⟩
  have I₁ : Inv c { s with heap := h₁, toks := s.toks + (ps.zip vs').length } θ σ := I.keeps keep
  have g₁ : Grow s.heap θ h₁ θ := grow_keeps keep
  have E₁ : EnvIs ⟨scope, cdv⟩ (newEnv scope s.heap.objs.size mainGlobals [] (qual ++ ".<locals>.") (some a) cdv none builtinsNs) := ⟨rfl, rfl, rfl, rfl, hkind, fun x hx => False.elim (by
    have : ∀ (l : List (Str × NameKind)), l.lookup x = some .cell → ∃ y ∈ l, y.2 = .cell := by
      intro l
      induction l with
      | nil => intro h; cases h
      | cons p l ih =>
        intro h
        obtain ⟨n, k⟩ := p
        rw [List.lookup_cons] at h
        split at h
        · cases h; exact ⟨_, List.mem_cons_self, rfl⟩
        · obtain ⟨y, m, q⟩ := ih h; exact ⟨y, List.mem_cons_of_mem _ m, q⟩
    obtain ⟨y, m, q⟩ := this _ hx
    exact hcell y m q)⟩
  have F₁ : FrA c h₁ θ (newEnv scope s.heap.objs.size mainGlobals [] (qual ++ ".<locals>.") (some a) cdv none builtinsNs) (binds ps vs []) := by
    refine ⟨⟨_, fun _ => none, hns, fun n k e => (by cases e), fun x v hx => ?_⟩, (I.new (Nat.le_refl _)).1, (I.new (Nat.le_refl _)).2, fun n k e => (by cases e), fun n n' k e => (by cases e)⟩
    obtain ⟨v', p, q⟩ := get_binds_zip (m := fun _ => none) (ρ := []) (rv.mapM fun q => q.grow I.tupOut g₁) (fun _ _ e => by cases e) x v hx
    have q' : (ps.zip vs').reverse.lookup x = some v' := by simpa using q
    refine ⟨v', p, .inl ⟨?_, q'⟩⟩
    have hm : (x, v') ∈ (ps.zip vs') := by have := mem_of_lookup q'; simpa using this
    exact hz _ hm
  have r₁ : Room (A.deeper (newEnv scope s.heap.objs.size mainGlobals [] (qual ++ ".<locals>.") (some a) cdv none builtinsNs)) (d - 1) := by
    have q := r.depth
    have q' := r.units
    refine ⟨?_, ?_, r.handled⟩
    · show A.depth + 1 + _ + _ < _; omega
    · show A.units + 3 + _ + _ < _; omega
  refine wpAny_mono (h cdv _ _ _ θ r₁ E₁ I₁ F₁) (fun v' s₂ h₂ => h₂.trans g₁) fun _ _ x => x.elim
end
end Mine
end
section
open PySem PySem.W PySem.Calls PyProof.Rows PySem.MeetsSeq PySem.MeetsSeq2 PySem.MeetsSeq3
set_option linter.unusedVariables false
set_option maxRecDepth 20000
namespace Mine
def compB (scope : Scope) (sc : Scope) (x : Str) (xs : List Str) : Bool :=
  scope.kind == .function && scope.names.all (fun y => y.2 != .cell) && scope.names.all (fun y => y.2 != .free || sc.names.lookup y.1 == some .cell) && scope.names.all (fun y => y.2 != .local || scope.names.lookup y.1 == some .local) &&
    ((relabelS scope ⟨sc, .none⟩).names.lookup x == some .local) && xs.all fun y => scope.names.any (fun p => p.1 == y && p.2 == .free) && (relabelS scope ⟨sc, .none⟩).names.lookup y == some .cell
section
variable {c : Cx} {sc : Sc} {d : Nat} {ρ : Vars} {σ : St} {Q : Post} {R : Fl → Vars → St → Prop} {x y : Str}
theorem compB_ok {scope : Scope} {xs : List Str} (h : compB scope sc.scope x xs = true) : scope.kind = .function ∧ (∀ y ∈ scope.names, y.2 ≠ .cell) ∧ (∀ y ∈ scope.names, y.2 = .free → sc.scope.names.lookup y.1 = some .cell) ∧ (∀ y ∈ scope.names, y.2 = .local → scope.names.lookup y.1 = some .local) ∧
    (compSc scope sc).scope.names.lookup x = some .local ∧ ∀ y ∈ xs, (y, .free) ∈ scope.names ∧ (compSc scope sc).scope.names.lookup y = some .cell := by
  unfold compB at h
  simp only [Bool.and_eq_true] at h
  obtain ⟨⟨⟨⟨⟨h1, h2⟩, h3⟩, h4⟩, h5⟩, h6⟩ := h
  refine ⟨beq_iff_eq.mp h1, fun y hy => by simpa using List.all_eq_true.mp h2 y hy, fun y hy hf => ?_, fun y hy hf => ?_, beq_iff_eq.mp h5, fun y hy => ?_⟩
  · have := List.all_eq_true.mp h3 y hy
    rw [hf] at this; simpa using this
  · have := List.all_eq_true.mp h4 y hy
    rw [hf] at this; simpa using this
  · have := List.all_eq_true.mp h6 y hy
    rw [Bool.and_eq_true] at this
    obtain ⟨a, b⟩ := this
    obtain ⟨p, hp, hq⟩ := List.any_eq_true.mp a
    rw [Bool.and_eq_true] at hq
    refine ⟨?_, beq_iff_eq.mp b⟩
    have e1 := beq_iff_eq.mp hq.1
    have e2 := beq_iff_eq.mp hq.2
    obtain ⟨p1, p2⟩ := p
    dsimp only at e1 e2
    subst e1 e2; exact hp
theorem EV_LC {elt iter : Expr} {px : Pos} {scope : Scope} {pos : Pos} {ρc : Vars} (hB : compB scope sc.scope x (ρc.map (·.1)) = true) (hρ : ∀ p ∈ ρc, get ρ p.1 = some p.2)
    (h : ITX c sc d (.Name x px) iter ρ σ fun l K σ₂ => K (σ₂ ++ [.list []]) ∧ COMPS c (compSc scope sc) d elt x K σ₂.length (fun vs σ₃ => Q (.loc σ₂.length) σ₃) l [] ρc (σ₂ ++ [.list []]))
    (hs : ∀ env x, foldedSetIterable iter env x = pure x := by intro _ _; rfl) : EV c sc d (.ListComp elt [⟨.Name x px, iter, [], 0⟩] scope pos) ρ σ Q := by
  obtain ⟨h1, h2, h3, h4, h5, h6⟩ := compB_ok hB
  exact EV_ListComp h1 h2 h3 h4 h5 (fun p hp => ⟨hρ p hp, h6 _ (List.mem_map.mpr ⟨p, hp, rfl⟩)⟩) h hs
theorem EX_LC {elt iter : Expr} {px py : Pos} {scope : Scope} {pos spos : Pos} {ρc : Vars} (hky : kindOk sc y) (hB : compB scope sc.scope x (ρc.map (·.1)) = true) (hρ : ∀ p ∈ ρc, get ρ p.1 = some p.2)
    (h : ITX c sc d (.Name x px) iter ρ σ fun l K σ₂ => K (σ₂ ++ [.list []]) ∧ COMPS c (compSc scope sc) d elt x K σ₂.length (fun vs σ₃ => R .next (put ρ y (.loc σ₂.length)) σ₃) l [] ρc (σ₂ ++ [.list []]))
    (hsw : ∀ env : Env, env.scope = sc.scope → swapsWith (.ListComp elt [⟨.Name x px, iter, [], 0⟩] scope pos) (some (.Name y py)) spos.line env = pure true)
    (hs : ∀ env x, foldedSetIterable iter env x = pure x := by intro _ _; rfl) : EX c sc d (.Assign [.Name y py] (.ListComp elt [⟨.Name x px, iter, [], 0⟩] scope pos) spos) ρ σ R := by
  obtain ⟨h1, h2, h3, h4, h5, h6⟩ := compB_ok hB
  exact EX_AssignComp hky h1 h2 h3 h4 h5 (fun p hp => ⟨hρ p hp, h6 _ (List.mem_map.mpr ⟨p, hp, rfl⟩)⟩) h hsw hs
theorem attrSet {n k : Nat} {C : Addr} {l : List (Str × V)} {attr : Str} {v : V} {p : St → Prop} (hn : σ[n]? = some (.inst C k)) (hk : σ[k]? = some (.attrs l)) (hs : StoreOf c.K C attr) (hz : l.length ≤ 900) (h : p (σ.set k (.attrs (put l attr v)))) :
    ∃ n' k' C' l', V.loc n = .loc n' ∧ σ[n']? = some (.inst C' k') ∧ σ[k']? = some (.attrs l') ∧ StoreOf c.K C' attr ∧ l'.length ≤ 900 ∧ p (σ.set k' (.attrs (put l' attr v))) := ⟨n, k, C, l, rfl, hn, hk, hs, hz, h⟩
theorem Inv.re {s : Shared} {θ : List Addr} {i : Nat} {a : Addr} {o' : SO} (I : Inv c s θ σ) (ha : θ[i]? = some a) (ho : RepO c.prog c.w s.heap θ a o') : Inv c s θ (σ.set i o') := by
  refine ⟨I.keep, I.apart, I.nodup, ⟨by rw [List.length_set]; exact I.rep.len, fun j o b e1 e2 => ?_⟩, I.gens, I.os⟩
  by_cases hij : i = j
  · subst hij
    rw [ha] at e2; cases e2
    have hl : i < σ.length := I.rep.len ▸ (List.getElem?_eq_some_iff.mp ha).1
    rw [List.getElem?_set_self hl] at e1; cases e1
    exact ho
  · rw [List.getElem?_set_ne hij] at e1
    exact I.rep.obj j o b e1 e2
theorem EX_fz {st : Stmt} {n : Nat} {l : List V} (hn : σ[n]? = some (.list l)) (h : ∀ xs k, EX c sc d st ρ (σ.set n (.fz xs k l)) fun f ρ' σ' => σ'[n]? = some (.fz xs k l) ∧ R f ρ' (σ'.set n (.list l))) : EX c sc d st ρ σ R := fun A env s θ r X I F => by
  obtain ⟨a, ha, xs, k, h1, h2⟩ := I.at hn
  refine wpAny_mono (h xs k A env s θ r X (I.re ha ⟨h1, h2⟩) F) (fun f' s₁ h₁ => ?_) fun _ _ x => x
  obtain ⟨f, ρ', σ', θ', I', F', g', rf, hn', q⟩ := h₁
  have ha' : θ'[n]? = some a := by obtain ⟨t, e⟩ := g'.pre; rw [e, List.getElem?_append_left (List.getElem?_eq_some_iff.mp ha).1]; exact ha
  obtain ⟨h1', h2'⟩ := I'.rep.obj n _ a hn' ha'
  exact ⟨f, ρ', _, θ', I'.re (o' := .list l) ha' ⟨xs, k, h1', h2'⟩, F', g', rf, q⟩
end
end Mine
end
section
open PySem PySem.W PySem.Calls PyProof.Rows PySem.MeetsSeq PySem.MeetsSeq2 PySem.MeetsSeq3
set_option linter.unusedVariables false
set_option maxRecDepth 20000
namespace Mine
theorem ints_rep {h : Heap} {θ : List Addr} {xs : List Value} {ns : List Int} (q : IntsAre xs ns) : RepVs h θ (ns.map .int) xs := by
  induction q with
  | nil => exact .nil
  | cons n t r ih => exact .cons (.int _ _) ih
section
variable {c : Cx} {sc : Sc} {d : Nat} {ρ : Vars} {σ : St} {Q : Post} {R : Fl → Vars → St → Prop} {x y : Str}
theorem EV_SliceScript {value hi : Expr} {p pos : Pos} {ad : Addr} {xs : List Value} {ns : List Int} {b : Nat} (hL : c.hb.IsList ad xs.toArray) (hI : IntsAre xs ns) (hlen : ns.length ≤ 9000)
    (h : EV c sc d value ρ σ fun v σ₁ => v = .raw (.ref ad) ∧ EVP c sc d (some hi) ρ σ₁ fun o σ₃ => o = some b ∧ Q (.lst ((ns.take b).map .int)) σ₃)
    (hg : ∀ o r, letTemporaryGo value o r = pure () := by intro _ _; rfl) : EV c sc d (.Subscript value (.Slice none (some hi) none p) pos) ρ σ Q := fun A env s θ r X I F => by
  refine wpAny_Subscript_Slice slot_list_getitem.lookup (wpAny_mono (h A env s θ r X I F) (fun o' s₁ h₁ => ?_) fun _ _ x => x) hg
  obtain ⟨v, σ₁, θ₁, I₁, g₁, rv, rfl, q⟩ := h₁
  have F₁ := F.grow I.tupOut g₁
  refine wpAny_Slice (wpAny_evalPart_none (EVP_ok q r X I₁ F₁ fun vb s₃ σ₃ θ₃ b' I₃ g₃ pb q₃ => wpAny_evalPart_none ?_))
  obtain ⟨rfl, q⟩ := q₃
  cases rv
  obtain ⟨I₄, g₄⟩ := pushed I₃ { cls := .type "slice", data := .fields #[.none, vb, .none] } s₃.toks
  have rl : RepVs s₃.heap θ₃ (ns.map .int) xs := ints_rep hI
  have hl' : (s₃.heap.push { cls := .type "slice", data := .fields #[.none, vb, .none] }).IsList ad xs.toArray := (hL.at fun o e => I₃.keep _ _ e).push _
  refine ⟨hl'.typeIs, ?_⟩
  obtain ⟨ys, e1, e2, e3⟩ := pick_rep rl (lo := none) (hi := some b) rfl
  refine wpAny_getItem_list_slice hl' ⟨_, Heap.get?_push_size _ rfl, rfl, rfl⟩ .none pb.isPart .none (by simp) ?_ (by rw [List.size_toArray, ← rl.length, sizeLine_eq]; simp; omega)
  rw [show (Option.map Int.ofNat none : Option Int) = none from rfl] at e1
  rw [e1]
  rw [← List.map_take] at e2
  exact .trans ((g₁.trans g₃).trans g₄) (I₄.frozen (t := s₃.toks) (e2.grow I₃.tupOut g₄) q)
end
end Mine
end
section
open PySem PySem.W PySem.Calls PyProof.Rows PySem.MeetsSeq PySem.MeetsSeq2 PySem.MeetsSeq3
set_option linter.unusedVariables false
set_option maxRecDepth 20000
namespace Mine
def strsOf : List Value → Option (List Str)
  | [] => some []
  | .str x _ :: r => (strsOf r).map (x :: ·)
  | _ => none
theorem strsOf_rep {h : Heap} {θ : List Addr} {xs : List Value} : ∀ {ys : List Str}, strsOf xs = some ys → RepVs h θ (ys.map .str) xs := by
  induction xs with
  | nil => intro ys e; cases e; exact .nil
  | cons v r ih =>
    intro ys e
    cases v with
    | str x t =>
      unfold strsOf at e
      cases h2 : strsOf r with
      | none => rw [h2] at e; cases e
      | some zs => rw [h2] at e; cases e; exact .cons (.str _ _) (ih h2)
    | _ => simp [strsOf] at e
def strsIn (K : Frag) (x : Str) : Option (List Str) := match nsIn K mainGlobals x with
  | some (some (.ref a)) => (match K.lookup a with
    | some ⟨.type t, none, .seq items n, ⟨[]⟩⟩ => if t = "tuple" then strsOf items.toList else none
    | _ => none)
  | _ => none
def rawIn (K : Frag) (x : Str) : Option Value := match nsIn K mainGlobals x with
  | some (some v) => some v
  | some none => bootBuiltins x
  | none => none
def isTupV' : V → Bool
  | .tup _ => true
  | _ => false
def valIn (K : Frag) (p : Str × V) : Option V := if isTupV' p.2 then (strsIn K p.1).map fun ys => .tup (ys.map .str) else (rawIn K p.1).map .raw
theorem get_mem' {α : Type} : ∀ {l : List (Str × α)} {x : Str} {v : α}, get l x = some v → (x, v) ∈ l
  | (y, u) :: r, x, v, e => by
    unfold get at e
    split at e
    · rename_i h; subst h; cases e; exact List.mem_cons_self
    · exact List.mem_cons_of_mem _ (get_mem' e)
theorem CxOk.of {c : Cx} {p : Program} {loose : List Str} {mean : ExcName → Option Value} {mg mb : Str → Option Value} (X : c.K.In c.hb) (T : Top p loose mean mg mb c.hb)
    (hg : c.gl.map (fun q => valIn c.K q) = c.gl.map (fun q => some q.2)) (hn : c.gl.all (fun q => q.1 != "__name__") = true) : CxOk c where
  K := X
  nolimit := T.nolimit
  names := by
    refine ⟨mg, mb, T.g, T.b, fun x v e => ?_⟩
    have hm := get_mem' e
    have hx : x ≠ "__name__" := by simpa using List.all_eq_true.mp hn _ hm
    have hv : valIn c.K (x, v) = some v := by
      have := List.map_inj_left.mp hg _ hm
      exact this
    unfold valIn at hv
    split at hv
    · obtain ⟨ys, h1, h2⟩ := Option.map_eq_some_iff.mp hv
      subst h2
      unfold strsIn at h1
      split at h1
      · rename_i a hns
        split at h1
        · rename_i t items n hl
          split at h1
          · rename_i ht
            subst ht
            exact ⟨.ref a, .tup _ a items.toList ⟨n, X _ _ hl⟩ (strsOf_rep h1), .inl (mg_of X T.g hns)⟩
          · cases h1
        · cases h1
      · cases h1
    · obtain ⟨u, h1, h2⟩ := Option.map_eq_some_iff.mp hv
      subst h2
      refine ⟨u, .raw u, ?_⟩
      unfold rawIn at h1
      split at h1
      · rename_i v' hns; cases h1; exact .inl (mg_of X T.g hns)
      · rename_i hns; exact .inr ⟨mg_none_of X T.g hns, (T.builtins x hx).trans h1⟩
      · cases h1
  bmain := by
    obtain ⟨bm, ob, h1, h2, h3, h4, h5, h6⟩ := T.bmain
    refine ⟨mg, bm, ob, T.g, h1, h2, fun e => ?_, h3, h4, h5, h6⟩
    obtain ⟨o, es, ep, e1, hd, _⟩ := T.g
    subst e
    rw [h3] at e1; cases e1
    rw [h6] at hd; cases hd
theorem cells_above : ∀ (names : List (Str × NameKind)) (n lo : Nat) (acc : List (Str × Addr)), lo < n → (∀ p ∈ acc, lo < p.2 ∧ p.2 < n) → acc.Pairwise (fun x y => x.2 ≠ y.2) →
    (∀ p ∈ cellsFrom n names acc, lo < p.2) ∧ (cellsFrom n names acc).Pairwise (fun x y => x.2 ≠ y.2)
  | [], n, lo, acc, _, h, hp => ⟨fun p m => (h p m).1, hp⟩
  | (name, kind) :: r, n, lo, acc, hn, h, hp => by
    unfold cellsFrom
    split
    · refine cells_above r (n + 1) lo _ (by omega) (fun p m => ?_) (List.pairwise_cons.mpr ⟨fun y hy e => ?_, hp⟩)
      · rcases List.mem_cons.mp m with rfl | m
        · exact ⟨hn, Nat.lt_succ_self _⟩
        · have := h p m; exact ⟨this.1, Nat.lt_succ_of_lt this.2⟩
      · exact absurd (h y hy).2 (by rw [← show n = y.2 from e]; exact Nat.lt_irrefl _)
    · exact cells_above r n lo acc hn h hp
theorem room_caller {env : Env} : Room (callerA.deeper env) 40 := ⟨by show callerA.depth + 1 + 2 * 40 + 5 < recursionLimit; decide, by show callerA.units + 3 + 8 * 40 + 40 < cLine; decide, rfl⟩
theorem law_enter {c : Cx} {A : Around} {name x : Str} {scope : Scope} {fa P L d : Nat} {cd v : Value} {m cm : Str → Option Value} {cells news : List (Addr × Obj)} {s : Shared} {body : List Stmt} {E : Value → Shared → Prop} {Q : Flow → Shared → Prop}
    (F : Fr c.hb L s.heap m) (N : News c.hb L s.heap news) (X0 : CellsAre cm (cellsFrom (L + 1) scope.names []) cells) (hnews : news = cells ++ [(P, tabObj #[])]) (l0 : P < L) (hP2 : 2 < P) (hg : s.gens = c.gens) (hos : s.os = c.os) (hk : scope.kind = .function) (r : Room A d)
    (hm : m x = some v) (hx : scope.names.lookup x = some .local)
    (h : EXs c ⟨scope, cd⟩ d body [(x, .raw v)] [.tab P #[]] fun fl _ σ' => fl = .ret (.bool true) ∧ ∃ ps, σ'[0]? = some (.tab P ps))
    (hQ : ∀ s', (∀ b o, c.hb.get? b = some o → s'.heap.get? b = some o) → s'.gens = c.gens → s'.os = c.os → (∃ ps, s'.heap.get? P = some (tabObj ps)) → Q (.ret (.bool true)) s') :
    wpAny (model c.prog c.w) A (execs body (envOfC name scope L fa cd)) Q E s := by
  subst hnews
  obtain ⟨ab, ap⟩ := cells_above scope.names (L + 1) L [] (by omega) (fun _ m => by cases m) .nil
  have NP := N (P, tabObj #[]) (List.mem_append_right _ List.mem_cons_self)
  have C : Cl L (cellsFrom (L + 1) scope.names []) s.heap cm := Cl.of_news (own := []) (fun p hp => N p (List.mem_append_left _ hp)) X0 ap (fun n k m => ab (n, k) m)
  have hbn : ∀ b, L ≤ b → c.hb.get? b = none := fun b hb => Heap.get?_none_of_le (Nat.le_trans F.above hb)
  have I : Inv c s [P] [.tab P #[]] := by
    refine ⟨F.keep, fun a ha => ?_, by simp, ⟨rfl, fun i o a e1 e2 => ?_⟩, hg, hos⟩
    · have : a = P := by simpa using ha
      subst this; exact ⟨NP.2.2, hP2⟩
    · cases i with
      | zero => cases e1; cases e2; exact ⟨rfl, NP.1, by simp⟩
      | succ i => simp at e1
  have X : EnvIs ⟨scope, cd⟩ (envOfC name scope L fa cd) := ⟨rfl, rfl, rfl, rfl, hk, fun y hy => cellsFrom_some _ _ _ (.inl hy)⟩
  have FA : FrA c s.heap [P] (envOfC name scope L fa cd) [(x, .raw v)] := by
    refine ⟨⟨m, cm, F.ns, fun n k e => C.cell n k e, fun y u hy => ?_⟩, ?_, hbn L (Nat.le_refl _), fun n k e => ?_, fun n n' k e e' => ?_⟩
    · unfold get at hy
      split at hy
      · rename_i e; subst e; cases hy; exact ⟨v, .raw v, .inl ⟨hx, hm⟩⟩
      · cases hy
    · show L ∉ [P]
      simp only [List.mem_cons, List.not_mem_nil, or_false]; exact Nat.ne_of_gt l0
    · have a := C.above n k (mem_of_lookup e)
      refine ⟨Nat.ne_of_gt a, ?_, hbn k (Nat.le_of_lt a)⟩
      simp only [List.mem_cons, List.not_mem_nil, or_false]; exact Nat.ne_of_gt (Nat.lt_trans l0 a)
    · exact name_of_addr C.apart (mem_of_lookup e) (mem_of_lookup e')
  refine wpAny_mono (h A _ s [P] r X I FA) (fun f' s' h' => ?_) fun _ _ x => x.elim
  obtain ⟨fl, ρ', σ', θ', I', _, g', rf, rfl, ps, ht⟩ := h'
  cases rf with
  | ret rv =>
    cases rv
    refine hQ s' I'.keep I'.gens I'.os ⟨ps, ?_⟩
    have hl : 0 < θ'.length := by rw [I'.rep.len]; exact (List.getElem?_eq_some_iff.mp ht).1
    obtain ⟨rfl, q, _⟩ := I'.rep.obj 0 _ _ ht (List.getElem?_eq_getElem hl)
    exact q
end Mine
end
section
open PySem PySem.W PySem.Calls PyProof.Rows PySem.MeetsSeq PySem.MeetsSeq2 PySem.MeetsSeq3
set_option linter.unusedVariables false
namespace Mine
section
variable {c : Cx} {sc : Sc} {d : Nat} {ρ : Vars} {σ : St} {Q : Post} {R : Fl → Vars → St → Prop} {A : Around} {env : Env} {s s₁ : Shared} {θ θ₁ : List Addr} {x y : Str} {G : List V → (St → Prop) → St → Prop} {target : Expr}
def COMPSF (c : Cx) (sc : Sc) (d : Nat) (elt tst : Expr) (x : Str) (K : St → Prop) (n : Nat) (T : List V → St → Prop) : List V → List V → Vars → St → Prop
  | [], acc, _, σ => σ[n]? = some (.list acc) ∧ T acc σ
  | v :: r, acc, ρ, σ => ET c sc d tst (put ρ x v) σ fun b σ₁ => if b = true then EV c sc d elt (put ρ x v) σ₁ fun u σ₂ => σ₂[n]? = some (.list acc) ∧ acc.length ≤ 9000 ∧ K (σ₂.set n (.list (acc ++ [u]))) ∧ COMPSF c sc d elt tst x K n T r (acc ++ [u]) (put ρ x v) (σ₂.set n (.list (acc ++ [u])))
    else K σ₁ ∧ COMPSF c sc d elt tst x K n T r acc (put ρ x v) σ₁
theorem forIn_one {M : Model} {tst : Expr} {Q : Bool → Shared → Prop} {E : Value → Shared → Prop} (h : wpAny M A (isTrue tst env (eval tst env)) Q E s) :
    wpAny M A (forIn [tst] true fun c r => if r = true then do let ok ← isTrue c env (eval c env); pure (ForInStep.yield ok) else pure (ForInStep.yield r)) Q E s := by
  rw [List.forIn_cons, if_pos rfl]
  refine wpAny_bind (wpAny_bind (wpAny_mono h (fun b s' q => wpAny_pure ?_) fun _ _ x => x))
  dsimp only
  rw [List.forIn_nil]
  exact wpAny_pure q
theorem compF_ok {elt iter tst : Expr} {px : Pos} {scope : Scope} {pos pos' : Pos} {use : Option (Value → Sem Unit)} {P : Value → Shared → Prop} {ρc : Vars} {T : Nat → List V → St → Prop}
    (r : Room A d) (X : EnvIs sc env) (I : Inv c s θ σ) (F : FrA c s.heap θ env ρ)
    (hkind : scope.kind = .function) (hcell : ∀ y ∈ scope.names, y.2 ≠ .cell) (hfree : ∀ y ∈ scope.names, y.2 = .free → sc.scope.names.lookup y.1 = some .cell)
    (hnames : ∀ y ∈ scope.names, y.2 = .local → scope.names.lookup y.1 = some .local) (hx : (compSc scope sc).scope.names.lookup x = some .local)
    (hρ : ∀ p ∈ ρc, get ρ p.1 = some p.2 ∧ (p.1, .free) ∈ scope.names ∧ (compSc scope sc).scope.names.lookup p.1 = some .cell)
    (h : ITX c sc d (.Name x px) iter ρ σ fun l K σ₂ => K (σ₂ ++ [.list []]) ∧ COMPSF c (compSc scope sc) d elt tst x K σ₂.length (T σ₂.length) l [] ρc (σ₂ ++ [.list []]))
    (fin : ∀ (C D : Addr) (n : Nat) (vs : List V) (σ' : St) (θ' : List Addr) (s' : Shared), Inv c s' θ' σ' → FrA c s'.heap θ' env ρ → Grow s.heap θ s'.heap θ' → s.heap.get? C = none → C ∉ θ' → c.hb.get? C = none → ¬ own env C → (∃ m, s'.heap.Ns C m) → θ'[n]? = some D → σ'[n]? = some (SO.list vs) → T n vs σ' → compPost (model c.prog c.w) A NoE use P (.ref D) C (.ok .next) s')
    (hs : ∀ env x, foldedSetIterable iter env x = pure x := by intro _ _; rfl) :
    wpAny (model c.prog c.w) A (comprehension (.ListComp elt [⟨.Name x px, iter, [tst], 0⟩] scope pos) scope env pos' (newList []) false (eval iter env) use) P NoE s := by
  obtain ⟨cl, hcl, hcl1, hcl2⟩ := closureFor_ok scope env fun y hy hf => X.cells _ (hfree y hy hf)
  refine wpAny_comprehension_free rfl (hs env) hcl hkind hnames (wpAny_mono (h A env s θ r X I F) (fun xv s₁ h₁ => wpAny_mono h₁ (fun it s₂ h₂ => ?_) fun _ _ x => x) fun _ _ x => x)
  obtain ⟨l, K, σ₂, θ₂, I₂, g₂, ⟨Ja, fp, wr, PP, Md, S, rfl, W, hS, hwr, hfp, hit, hex, hself, hP⟩, hK, hK', hL⟩ := h₂
  have F₂ := F.grow I.tupOut g₂
  refine wpAny_newObj_type ?_ (by show ([] : List Value).toArray.size ≤ sizeLine; rw [sizeLine_eq]; decide)
  -- the list that grows
  have L₃ := I₂.list (Q := fun v σ' => v = .loc σ₂.length ∧ σ' = σ₂ ++ [.list []]) (t := s₂.toks) RepVs.nil ⟨rfl, rfl⟩
  obtain ⟨v₃, σ₃, θ₃, I₃, g₃, rD, rfl, rfl⟩ := L₃
  obtain ⟨D, hD, eD⟩ := rD.ofLoc
  have hD' : s₂.heap.objs.size = D := by injection hD
  rw [hD']
  refine wpAny_newFunctionEnv hcell (by intro y hy; simp at hy) (fun h₁ hns₁ hsb₁ => ?_) hkind
  dsimp only at hns₁ hsb₁ I₃ g₃ ⊢
  have F₃ := F₂.grow I₂.tupOut g₃
  generalize hH : s₂.heap.push { cls := .type "list", dict := none, data := .seq ([] : List Value).toArray } = H at *
  have C0 : H.objs.size = H.objs.size := rfl
  generalize hC : H.objs.size = C at *
  have keep₁ : ∀ b o, H.get? b = some o → h₁.get? b = some o := fun b o e => hsb₁.extBut b o (by rw [← hC]; exact Nat.ne_of_lt (Heap.lt_size e)) (Heap.get?_push_of_some _ e)
  generalize hs₄ : ({ heap := h₁, gens := s₂.gens, drawn := s₂.drawn, toks := s₂.toks + ([] : List (Str × Value)).length, os := s₂.os } : Shared) = s₄
  have e₄ : s₄.heap = h₁ := by rw [← hs₄]
  have I₄ : Inv c s₄ θ₃ (σ₂ ++ [.list []]) := by rw [← hs₄]; exact I₃.keeps keep₁
  have g₄ : Grow H θ₃ s₄.heap θ₃ := by rw [e₄]; exact grow_keeps keep₁
  have F₄ : FrA c s₄.heap θ₃ env ρ := F₃.grow I₃.tupOut g₄
  have Cnew : ∀ b, own env b → b ≠ C := fun b ob e => by
    have := F₃.lt ob; rw [e, ← hC] at this; exact Nat.lt_irrefl _ this
  have Cθ : C ∉ θ₃ ∧ c.hb.get? C = none := I₃.new (by show H.objs.size ≤ C; rw [hC]; exact Nat.le_refl _)
  have Cs2 : s₂.heap.get? C = none := by
    cases e : s₂.heap.get? C with
    | none => rfl
    | some o => exact absurd (Heap.lt_size e) (by rw [← hC, ← hH, Heap.size_push]; exact Nat.not_lt.mpr (Nat.le_succ _))
  have Cs : s.heap.get? C = none := by
    cases e : s.heap.get? C with
    | none => rfl
    | some o =>
      by_cases m : C ∈ θ
      · exact absurd (g₃.mem (g₂.mem m)) Cθ.1
      · have q := g₂.kept C o e m; rw [Cs2] at q; cases q
  have hlo : ∀ b ∈ wr, b ≠ C := fun b hb e => by
    obtain ⟨o, _, e', _⟩ := hit 0 _ b hS hb; rw [e, Cs2] at e'; cases e'
  let cenv : Env := { scope := relabel scope env, locals := C, globals := env.globals, cells := cl, qual := env.qual, func := none, code := env.code, frame := env.frame, builtins := env.builtins }
  have Xc : EnvIs (compSc scope sc) cenv := ⟨relabel_eq X scope, X.globals, X.builtins, X.code, hkind, fun y hy => hcl2 _ (relabel_cell hcell hy) rfl⟩
  have Fc : FrA c s₄.heap θ₃ cenv ρc := by
    obtain ⟨m, cm, hm, hc, hr⟩ := F₄.at_
    refine ⟨⟨_, cm, by rw [e₄]; exact hns₁, fun n k e => hc n k (hcl1 n k e), fun y v hy => ?_⟩, Cθ.1, Cθ.2, fun n k e => ?_, fun n n' k e e' => F₄.apart n n' k (hcl1 _ _ e) (hcl1 _ _ e')⟩
    · obtain ⟨h1, h2, h3⟩ := hρ _ (get_mem hy)
      obtain ⟨v', a, b⟩ := hr y v h1
      refine ⟨v', a, .inr ⟨.inl ?_, hcl2 _ h2 rfl, ?_⟩⟩
      · show Env.kindOf cenv y = _
        rw [Xc.kindOf]; exact h3
      · rcases b with ⟨b1, _⟩ | b
        · rw [X.kindOf] at b1
          rw [hfree _ h2 rfl] at b1; cases b1
        · exact b.2.2
    · have q := F₄.cells n k (hcl1 _ _ e)
      exact ⟨Cnew k (.inr ⟨n, hcl1 _ _ e⟩), q.2⟩
  have hS₄ : S 0 s₄.heap := W.frame _ _ _ hS fun b hb o e => by
    rw [e₄]; refine keep₁ b o ?_; rw [← hH]; exact Heap.get?_push_of_some _ e
  let XC : Addr → Prop := fun b => b = C ∨ b ∈ wr
  have loop : codeAny (model c.prog c.w) A (.compLoop (.ListComp elt [⟨.Name x px, iter, [tst], 0⟩] scope pos) 0 (.ref Ja) (.ref D) cenv) (compPost (model c.prog c.w) A NoE use P (.ref D) C) s₄ := by
    refine codeAny_compLoop_tests
      (fun k s' => ∃ i ρ' σ' θ' acc, k = l.length + 1 - i ∧ i ≤ l.length ∧ S i s'.heap ∧ Inv c s' θ' σ' ∧ FrA c s'.heap θ' cenv ρ' ∧ FrA c s'.heap θ' env ρ ∧ GrowX XC s₄.heap θ₃ s'.heap θ' ∧ (∀ b ∈ wr, b ∉ θ') ∧ K σ' ∧ COMPSF c (compSc scope sc) d elt tst x K σ₂.length (T σ₂.length) (l.drop i) acc ρ' σ')
      ?_ (l.length + 1) ⟨0, ρc, _, θ₃, [], rfl, Nat.zero_le _, hS₄, I₄, Fc, F₄, GrowX.refl .., fun b hb m => ?_, hK', by rw [List.drop_zero]; exact hL⟩
    · rintro k s' ⟨i, ρ', σ', θ', acc, rfl, hi, hS', I', F', Fo', g', hwθ, hK', hL'⟩
      have offC : ∀ {t : Shared} {τ : List Addr} {ρ₀ : Vars}, FrA c t.heap τ cenv ρ₀ → Off t.heap C := fun f => by obtain ⟨m, _, hm, _⟩ := f.at_; exact .ns hm
      have exX : ∀ {t : Shared} {τ : List Addr} {ρ₀ : Vars} {j : Nat}, S j t.heap → FrA c t.heap τ cenv ρ₀ → (∀ b ∈ wr, b ∉ τ) → ∀ x, XC x → ∃ o, t.heap.get? x = some o ∧ x ∉ τ := fun hs f hw x hx => by
        rcases hx with rfl | hx
        · exact f.ownX _ (.inl rfl)
        · obtain ⟨o, _, e, _⟩ := hit _ _ x hs hx; exact ⟨o, e, hw x hx⟩
      have turned : ∀ {h₁ : Heap} {t : Nat}, (∀ b o, b ∉ wr → s'.heap.get? b = some o → h₁.get? b = some o) → Inv c { s' with heap := h₁, toks := t } θ' σ' ∧ FrA c h₁ θ' cenv ρ' ∧ FrA c h₁ θ' env ρ ∧ GrowX XC s'.heap θ' h₁ θ' := fun {h₁ t} hk => by
        refine ⟨I'.but (W := fun b => b ∈ wr) (fun b hb => ⟨(hit i _ b hS' hb).off, hwθ b hb, (hwr b hb).2.2⟩) hk, F'.but (W := fun b => b ∈ wr) (fun b hb => ⟨(hit i _ b hS' hb).off, ?_⟩) hk, Fo'.but (W := fun b => b ∈ wr) (fun b hb => ⟨(hit i _ b hS' hb).off, (hfp b (W.sub b hb)).1⟩) hk,
          ⟨⟨[], (List.append_nil _).symm⟩, fun _ m n => (n m).elim, fun b o e _ nx => hk b o (fun z => nx (.inr z)) e⟩⟩
        rintro (e | ⟨n, e⟩)
        · exact hlo b hb e
        · exact (hfp b (W.sub b hb)).1 (.inr ⟨n, hcl1 _ _ e⟩)
      by_cases hlt : i < l.length
      · refine W.item i _ _ _ hlt hS' fun v h₁ tk₁ hMd hk₁ => ?_
        show wpAny _ A (letOwnedTupleGo (.Name x px) (.ref Ja) v >>= fun _ => assign (.Name x px) cenv v) _ _ _
        refine wpAny_bind (W.go i v _ _ _ hMd fun h₂ hPi hS₂ hk₂ => ?_)
        obtain ⟨J₂, G₂, Go₂, e₂⟩ := turned (t := tk₁) (fun b o hb x => hk₂ b o hb (hk₁ b o hb x))
        obtain ⟨xv, hxv, hv⟩ := hP i v h₂ hPi
        have hd : l.drop i = xv :: l.drop (i + 1) := by
          rw [List.drop_eq_getElem_cons hlt]; congr 1
          exact Option.some.inj ((List.getElem?_eq_getElem hlt).symm.trans hxv)
        rw [hd] at hL'
        have hv' : RepV h₂ θ' xv v := by
          rcases hv with q | ⟨_, _, _, ⟨_, _, _, e⟩, _⟩
          · have q4 : RepV s₄.heap θ₃ xv v := (q.grow I₂.tupOut g₃).grow I₃.tupOut g₄
            refine q4.growX I₄.tupOut (GrowX.trans (exX hS' F' hwθ) g' e₂) ?_
            rintro b (rfl | hb)
            · exact offC Fc
            · exact (hit 0 _ b hS₄ hb).off
          · cases e
        have core : wpAny (model c.prog c.w) A (assign (.Name x px) cenv v) (fun _ s₂ => wpAny (model c.prog c.w) A (forIn [tst] true fun c r => if r = true then do let ok ← isTrue c cenv (eval c cenv); pure (ForInStep.yield ok) else pure (ForInStep.yield r)) (fun ok s₃ => if ok = true then wpAny (model c.prog c.w) A (eval elt cenv) (fun y s₄' => wpAny (model c.prog c.w) A (call (.builtin "list.append") [.ref D, y]) (fun _ s₅ => ∃ m, m < l.length + 1 - i ∧ ∃ i ρ' σ' θ' acc, m = l.length + 1 - i ∧ i ≤ l.length ∧ S i s₅.heap ∧ Inv c s₅ θ' σ' ∧ FrA c s₅.heap θ' cenv ρ' ∧ FrA c s₅.heap θ' env ρ ∧ GrowX XC s₄.heap θ₃ s₅.heap θ' ∧ (∀ b ∈ wr, b ∉ θ') ∧ K σ' ∧ COMPSF c (compSc scope sc) d elt tst x K σ₂.length (T σ₂.length) (l.drop i) acc ρ' σ') NoE s₄') NoE s₃ else (fun s₅ => ∃ m, m < l.length + 1 - i ∧ ∃ i ρ' σ' θ' acc, m = l.length + 1 - i ∧ i ≤ l.length ∧ S i s₅.heap ∧ Inv c s₅ θ' σ' ∧ FrA c s₅.heap θ' cenv ρ' ∧ FrA c s₅.heap θ' env ρ ∧ GrowX XC s₄.heap θ₃ s₅.heap θ' ∧ (∀ b ∈ wr, b ∉ θ') ∧ K σ' ∧ COMPSF c (compSc scope sc) d elt tst x K σ₂.length (T σ₂.length) (l.drop i) acc ρ' σ') s₃) NoE s₂) NoE { s' with heap := h₂, toks := tk₁ } := by
          refine wpAny_assign_Name (storeLocal_ok Xc J₂ G₂ hx hv' fun s₅ I₅ F₅ g₅ => ?_)
          have Fo₅ : FrA c s₅.heap θ' env ρ := Go₂.growX J₂.tupOut g₅ fun b z => by subst z; exact ⟨offC (t := { s' with heap := h₂, toks := tk₁ }) G₂, fun ob => Cnew _ ob rfl⟩
          have close : ∀ (s₇ : Shared) (σ₇ : St) (θ₇ : List Addr) (acc' : List V), Inv c s₇ θ₇ σ₇ → Grow s₅.heap θ' s₇.heap θ₇ → K σ₇ → COMPSF c (compSc scope sc) d elt tst x K σ₂.length (T σ₂.length) (l.drop (i + 1)) acc' (put ρ' x xv) σ₇ → (fun s₅ => ∃ m, m < l.length + 1 - i ∧ ∃ i ρ' σ' θ' acc, m = l.length + 1 - i ∧ i ≤ l.length ∧ S i s₅.heap ∧ Inv c s₅ θ' σ' ∧ FrA c s₅.heap θ' cenv ρ' ∧ FrA c s₅.heap θ' env ρ ∧ GrowX XC s₄.heap θ₃ s₅.heap θ' ∧ (∀ b ∈ wr, b ∉ θ') ∧ K σ' ∧ COMPSF c (compSc scope sc) d elt tst x K σ₂.length (T σ₂.length) (l.drop i) acc ρ' σ') s₇ := by
            intro s₇ σ₇ θ₇ acc' I₇ g67 hK7 q₇
            have F₇ := F₅.grow I₅.tupOut g67
            have Fo₇ := Fo₅.grow I₅.tupOut g67
            have g57 : GrowX XC h₂ θ' s₇.heap θ₇ := GrowX.trans (fun x hx => by
              rcases hx with rfl | hx
              · exact F₅.ownX _ (.inl rfl)
              · obtain ⟨o, _, e, _⟩ := hit _ _ x hS₂ hx
                exact ⟨o, g₅.kept _ _ e (hwθ x hx) (hlo x hx), hwθ x hx⟩) (g₅.weaken fun b z => .inl z) g67.x
            have all : GrowX XC s₄.heap θ₃ s₇.heap θ₇ := GrowX.trans (exX (t := { s' with heap := h₂, toks := tk₁ }) hS₂ G₂ hwθ) (GrowX.trans (exX hS' F' hwθ) g' e₂) g57
            have hwθ₇ : ∀ b ∈ wr, b ∉ θ₇ := fun b hb => by obtain ⟨o, _, e, _⟩ := hit _ _ b hS₂ hb; exact g57.notMem e (hwθ b hb)
            refine ⟨l.length + 1 - (i + 1), by omega, i + 1, _, _, θ₇, _, rfl, hlt, ?_, I₇, F₇, Fo₇, all, hwθ₇, hK7, q₇⟩
            refine W.frame _ _ _ hS₂ fun b hb o e => ?_
            have bC : b ≠ C := by
              rintro rfl
              obtain ⟨o2, e2⟩ := hex 0 _ _ hS hb
              rw [Cs2] at e2; cases e2
            rcases (hfp b hb).2 with hn | ⟨n, xs, kk, l', e1, e2⟩
            · have hn3 : b ∉ θ' := by
                obtain ⟨o2, e2⟩ := hex 0 _ b hS hb
                have : b ∉ θ₃ := g₃.notMem e2 hn
                obtain ⟨o4, e4⟩ := hex 0 _ b hS₄ hb
                exact g'.notMem e4 this
              refine g67.kept b o (g₅.kept b o e hn3 bC) hn3
            · have a3 : θ₃[n]? = some b := g₃.at e1
              have a1 : θ'[n]? = some b := by obtain ⟨t, e'⟩ := g'.pre; rw [e', List.getElem?_append_left (List.getElem?_eq_some_iff.mp a3).1]; exact a3
              have a2 : θ₇[n]? = some b := by obtain ⟨t, e'⟩ := all.pre; rw [e', List.getElem?_append_left (List.getElem?_eq_some_iff.mp a3).1]; exact a3
              have b1 : IsL h₂ b xs.toArray kk := (J₂.rep.obj n _ b (e2 _ hK') a1).1
              have b2 : IsL s₇.heap b xs.toArray kk := (I₇.rep.obj n _ b (e2 _ hK7) a2).1
              have : o = _ := Option.some.inj (e.symm.trans b1)
              rw [this]; exact b2
          refine forIn_one (wpAny_mono (hL' A cenv s₅ θ' r Xc I₅ F₅) (fun ok s₆ h₆ => ?_) fun _ _ x => x)
          obtain ⟨σ₆, θ₆, I₆, g₆, q₆⟩ := h₆
          cases ok with
          | false =>
            obtain ⟨hK6, q₆⟩ := q₆
            exact close s₆ σ₆ θ₆ acc I₆ g₆ hK6 q₆
          | true =>
            show wpAny _ _ _ _ _ _
            refine wpAny_mono (q₆ A cenv s₆ θ₆ r Xc I₆ (F₅.grow I₅.tupOut g₆)) (fun y s₈ h₈ => ?_) fun _ _ x => x
            obtain ⟨u, σ₈, θ₈, I₈, g₈, ru, hn8, hsz8, hK8, q₈⟩ := h₈
            have eD8 : θ₈[σ₂.length]? = some D := (g₆.trans g₈).at (by obtain ⟨t, e'⟩ := g'.pre; rw [e', List.getElem?_append_left (List.getElem?_eq_some_iff.mp eD).1]; exact eD)
            refine wpAny_mono (CALL_append (c := c) (d := d) (Q := fun v σ' => σ' = σ₈.set σ₂.length (.list (acc ++ [u]))) hn8 (by omega) rfl A s₈ θ₈ _ [.ref D, y] r I₈ (.raw _) (.cons (.loc _ _ eD8) (.cons ru .nil))) (fun _ s₇ h₇ => ?_) fun _ _ x => x
            obtain ⟨_, σ₇, θ₇, I₇, g₇, _, rfl⟩ := h₇
            exact close s₇ _ θ₇ _ I₇ ((g₆.trans g₈).trans g₇) hK8 q₈
        refine wpAny_mono core (fun _ s₂ h₂ => ?_) fun _ _ x => x.elim
        refine wpAny_mono h₂ (fun ok s₃ h₃ => ?_) fun _ _ x => x.elim
        cases ok with
        | false => exact h₃
        | true => exact wpAny_mono h₃ (fun _ s₃ h₃ => wpAny_mono h₃ (fun _ _ x => x) fun _ _ x => x.elim) fun _ _ x => x.elim
      · have hin : i = l.length := by omega
        subst hin
        refine W.done _ _ _ hS' fun h₁ tk₁ hk₁ => ?_
        obtain ⟨J₁, G₁, Go₁, e₁⟩ := turned (t := tk₁) hk₁
        rw [List.drop_length] at hL'
        obtain ⟨hn, hT⟩ := hL'
        have all : GrowX XC s₄.heap θ₃ h₁ θ' := GrowX.trans (exX hS' F' hwθ) g' e₁
        refine fin C D σ₂.length acc σ' θ' _ J₁ Go₁ ?_ Cs G₁.lo Cθ.2 (fun ob => Cnew _ ob rfl) (by obtain ⟨m, _, hm, _⟩ := G₁.at_; exact ⟨m, hm⟩) ?_ hn hT
        · have g24 : Grow s.heap θ s₄.heap θ₃ := (g₂.trans g₃).trans g₄
          refine ⟨?_, fun a m n => ?_, fun b o e n => ?_⟩
          · obtain ⟨t, e⟩ := g24.pre; obtain ⟨u, e'⟩ := all.pre; exact ⟨t ++ u, by rw [e', e, List.append_assoc]⟩
          · by_cases h2 : a ∈ θ₃
            · exact g24.fresh a h2 n
            · cases e : s.heap.get? a with
              | none => rfl
              | some o => have := all.fresh a m h2; rw [g24.kept a o e n] at this; cases this
          · refine all.kept b o (g24.kept b o e n) (g24.notMem e n) ?_
            rintro (z | z)
            · rw [z, Cs] at e; cases e
            · rw [(hwr b z).1] at e; cases e
        · obtain ⟨t, e'⟩ := g'.pre; rw [e', List.getElem?_append_left (List.getElem?_eq_some_iff.mp eD).1]; exact eD
    · obtain ⟨o, _, e, _⟩ := hit 0 _ b hS hb
      exact g₃.notMem e (hwr b hb).2.1 m
  exact codeAny_compStart_list loop (hself 0 _ _ _ hS₄ loop)
theorem EV_ListCompF {elt iter tst : Expr} {px : Pos} {scope : Scope} {pos : Pos} {ρc : Vars}
    (hkind : scope.kind = .function) (hcell : ∀ y ∈ scope.names, y.2 ≠ .cell) (hfree : ∀ y ∈ scope.names, y.2 = .free → sc.scope.names.lookup y.1 = some .cell)
    (hnames : ∀ y ∈ scope.names, y.2 = .local → scope.names.lookup y.1 = some .local) (hx : (compSc scope sc).scope.names.lookup x = some .local)
    (hρ : ∀ p ∈ ρc, get ρ p.1 = some p.2 ∧ (p.1, .free) ∈ scope.names ∧ (compSc scope sc).scope.names.lookup p.1 = some .cell)
    (h : ITX c sc d (.Name x px) iter ρ σ fun l K σ₂ => K (σ₂ ++ [.list []]) ∧ COMPSF c (compSc scope sc) d elt tst x K σ₂.length (fun vs σ₃ => Q (.loc σ₂.length) σ₃) l [] ρc (σ₂ ++ [.list []]))
    (hs : ∀ env x, foldedSetIterable iter env x = pure x := by intro _ _; rfl) : EV c sc d (.ListComp elt [⟨.Name x px, iter, [tst], 0⟩] scope pos) ρ σ Q := fun A env s θ r X I F => by
  rw [eval_ListComp]
  refine compF_ok (use := none) (T := fun n vs σ' => Q (.loc n) σ') r X I F hkind hcell hfree hnames hx hρ h (fun C D n vs σ' θ' s' I' F' g' hC hCθ hCb hCo hm hn hσ q => ?_) hs
  obtain ⟨m, hm⟩ := hm
  refine ⟨m, hm, fun h' hs' => ?_⟩
  have hk : ∀ b o, ¬ b = C → s'.heap.get? b = some o → h'.get? b = some o := fun b o n e => hs'.extBut b o n e
  refine ⟨.loc n, σ', θ', I'.but (t := s'.toks) (W := (· = C)) (fun b e => by subst e; exact ⟨.ns hm, hCθ, hCb⟩) hk, ⟨g'.pre, g'.fresh, fun b o e n => hk b o (fun z => by rw [z, hC] at e; cases e) (g'.kept b o e n)⟩, .loc n D hn, q⟩
theorem EX_AssignCompF {elt iter tst : Expr} {px py : Pos} {scope : Scope} {pos spos : Pos} {ρc : Vars} (hky : kindOk sc y)
    (hkind : scope.kind = .function) (hcell : ∀ y ∈ scope.names, y.2 ≠ .cell) (hfree : ∀ y ∈ scope.names, y.2 = .free → sc.scope.names.lookup y.1 = some .cell)
    (hnames : ∀ y ∈ scope.names, y.2 = .local → scope.names.lookup y.1 = some .local) (hx : (compSc scope sc).scope.names.lookup x = some .local)
    (hρ : ∀ p ∈ ρc, get ρ p.1 = some p.2 ∧ (p.1, .free) ∈ scope.names ∧ (compSc scope sc).scope.names.lookup p.1 = some .cell)
    (h : ITX c sc d (.Name x px) iter ρ σ fun l K σ₂ => K (σ₂ ++ [.list []]) ∧ COMPSF c (compSc scope sc) d elt tst x K σ₂.length (fun vs σ₃ => R .next (put ρ y (.loc σ₂.length)) σ₃) l [] ρc (σ₂ ++ [.list []]))
    (hsw : ∀ env : Env, env.scope = sc.scope → swapsWith (.ListComp elt [⟨.Name x px, iter, [tst], 0⟩] scope pos) (some (.Name y py)) spos.line env = pure true)
    (hs : ∀ env x, foldedSetIterable iter env x = pure x := by intro _ _; rfl) : EX c sc d (.Assign [.Name y py] (.ListComp elt [⟨.Name x px, iter, [tst], 0⟩] scope pos) spos) ρ σ R := fun A env s θ r X I F => by
  rw [exec_Assign_Name_used _ _ _ _ (hsw env X.scope)]
  refine wpAny_bind (wpAny_standAt (wpAny_bind ?_))
  show wpAny _ A (do let _ ← comprehension (.ListComp elt [⟨.Name x px, iter, [tst], 0⟩] scope pos) scope env _ (newList []) false (eval iter env) (some (assign (.Name y py) env))) _ _ s
  refine wpAny_bind (wpAny_mono (compF_ok (use := some (assign (.Name y py) env)) (P := fun _ s' => OkS c env s θ R .next s') (T := fun n vs σ' => R .next (put ρ y (.loc n)) σ') r X I F hkind hcell hfree hnames hx hρ h (fun C D n vs σ' θ' s' I' F' g' hC hCθ hCb hCo hm hn hσ q => ?_) hs) (fun _ s' hq => wpAny_pure (wpAny_pure hq)) fun _ _ e => e)
  obtain ⟨m, hm⟩ := hm
  show wpAny _ A (assign (.Name y py) env (.ref D)) _ _ _
  refine wpAny_assign_Name (storeName_ok X I' F' hky (.loc n D hn) fun s₂ I₂ F₂ g₂ hsame => ?_)
  have hm₂ : s₂.heap.Ns C m := hm.at' fun o e => (hsame C hCo).trans e
  refine ⟨m, hm₂, fun h' hs' => ?_⟩
  have hk : ∀ b o, ¬ b = C → s₂.heap.get? b = some o → h'.get? b = some o := fun b o n e => hs'.extBut b o n e
  have gg := GrowX.trans F'.ownX g'.x g₂
  refine ⟨.next, _, σ', θ', I₂.but (t := s₂.toks) (W := (· = C)) (fun b e => by subst e; exact ⟨.ns hm₂, hCθ, hCb⟩) hk, F₂.but (W := (· = C)) (fun b e => by subst e; exact ⟨.ns hm₂, hCo⟩) hk,
    ⟨gg.pre, gg.fresh, fun b o e n nx => hk b o (fun z => by rw [z, hC] at e; cases e) (gg.kept b o e n nx)⟩, .next, q⟩
theorem EV_LCF {elt iter tst : Expr} {px : Pos} {scope : Scope} {pos : Pos} {ρc : Vars} (hB : compB scope sc.scope x (ρc.map (·.1)) = true) (hρ : ∀ p ∈ ρc, get ρ p.1 = some p.2)
    (h : ITX c sc d (.Name x px) iter ρ σ fun l K σ₂ => K (σ₂ ++ [.list []]) ∧ COMPSF c (compSc scope sc) d elt tst x K σ₂.length (fun vs σ₃ => Q (.loc σ₂.length) σ₃) l [] ρc (σ₂ ++ [.list []]))
    (hs : ∀ env x, foldedSetIterable iter env x = pure x := by intro _ _; rfl) : EV c sc d (.ListComp elt [⟨.Name x px, iter, [tst], 0⟩] scope pos) ρ σ Q := by
  obtain ⟨h1, h2, h3, h4, h5, h6⟩ := compB_ok hB
  exact EV_ListCompF h1 h2 h3 h4 h5 (fun p hp => ⟨hρ p hp, h6 _ (List.mem_map.mpr ⟨p, hp, rfl⟩)⟩) h hs
theorem EX_LCF {elt iter tst : Expr} {px py : Pos} {scope : Scope} {pos spos : Pos} {ρc : Vars} (hky : kindOk sc y) (hB : compB scope sc.scope x (ρc.map (·.1)) = true) (hρ : ∀ p ∈ ρc, get ρ p.1 = some p.2)
    (h : ITX c sc d (.Name x px) iter ρ σ fun l K σ₂ => K (σ₂ ++ [.list []]) ∧ COMPSF c (compSc scope sc) d elt tst x K σ₂.length (fun vs σ₃ => R .next (put ρ y (.loc σ₂.length)) σ₃) l [] ρc (σ₂ ++ [.list []]))
    (hsw : ∀ env : Env, env.scope = sc.scope → swapsWith (.ListComp elt [⟨.Name x px, iter, [tst], 0⟩] scope pos) (some (.Name y py)) spos.line env = pure true)
    (hs : ∀ env x, foldedSetIterable iter env x = pure x := by intro _ _; rfl) : EX c sc d (.Assign [.Name y py] (.ListComp elt [⟨.Name x px, iter, [tst], 0⟩] scope pos) spos) ρ σ R := by
  obtain ⟨h1, h2, h3, h4, h5, h6⟩ := compB_ok hB
  exact EX_AssignCompF hky h1 h2 h3 h4 h5 (fun p hp => ⟨hρ p hp, h6 _ (List.mem_map.mpr ⟨p, hp, rfl⟩)⟩) h hsw hs
end
end Mine
end
section
open PySem PySem.W PySem.Calls PyProof.Rows
set_option linter.unusedVariables false
set_option maxRecDepth 100000
namespace Mine
structure H (P : Prop) : Prop where
  go : P
abbrev Ca (c : Cx) (d : Nat) (f : V) (vs : List V) (σ : St) (Q : Post) : Prop := H (CALL c d f vs σ Q)
abbrev Bi (c : Cx) (d : Nat) (op : Operator) (a b : V) (σ : St) (Q : Post) : Prop := H (BIN c d op a b σ Q)
abbrev Cm (c : Cx) (d : Nat) (op : CmpOp) (a b : V) (σ : St) (Q : Post) : Prop := H (CMP c d op a b σ Q)
abbrev Tr (c : Cx) (d : Nat) (a : V) (σ : St) (B : Bool → St → Prop) : Prop := H (TRU c d a σ B)
abbrev Gi (c : Cx) (d : Nat) (o i : V) (σ : St) (Q : Post) : Prop := H (GI c d o i σ Q)
abbrev Si (c : Cx) (d : Nat) (o i v : V) (σ : St) (Q : St → Prop) : Prop := H (SI c d o i v σ Q)
abbrev At (c : Cx) (d : Nat) (o : V) (name : Str) (σ : St) (Q : Post) : Prop := H (ATTR c d o name σ Q)
abbrev Gm (c : Cx) (d : Nat) (o : V) (name : Str) (σ : St) (Q : V → List V → St → Prop) : Prop := H (GM c d o name σ Q)
abbrev Ev (c : Cx) (sc : Sc) (d : Nat) (e : Expr) (ρ : Vars) (σ : St) (Q : Post) : Prop := H (EV c sc d e ρ σ Q)
abbrev Ex (c : Cx) (sc : Sc) (d : Nat) (st : Stmt) (ρ : Vars) (σ : St) (R : Fl → Vars → St → Prop) : Prop := H (EX c sc d st ρ σ R)
abbrev Iv (c : Cx) (d : Nat) (target : Expr) (v : V) (σ : St) (G : List V → (St → Prop) → St → Prop) : Prop := H (ITV c d target v σ G)
abbrev Ic (c : Cx) (d : Nat) (target : Expr) (f : V) (vs : List V) (σ : St) (G : List V → (St → Prop) → St → Prop) : Prop := H (ITC c d target f vs σ G)
abbrev Sa (c : Cx) (ov : V) (attr : Str) (v : V) (σ : St) (P : St → Prop) : Prop := H (∃ n k C l, ov = .loc n ∧ σ[n]? = some (.inst C k) ∧ σ[k]? = some (.attrs l) ∧ StoreOf c.K C attr ∧ l.length ≤ 900 ∧ P (σ.set k (.attrs (put l attr v))))
def ck (b : Bool) (P : Prop) : Prop := match b with | true => P | false => False
def br (b : Bool) (P Q : Prop) : Prop := match b with | true => P | false => Q
theorem ck_b {b : Bool} {P : Prop} (h : ck b P) : b = true := by cases b with | true => rfl | false => exact h.elim
theorem ck_p {b : Bool} {P : Prop} (h : ck b P) : P := by cases b with | true => exact h | false => exact h.elim
theorem br_T {b : Bool} {P Q : Prop} (e : b = true) (h : P) : br b P Q := by subst e; exact h
theorem br_F {b : Bool} {P Q : Prop} (e : b = false) (h : Q) : br b P Q := by subst e; exact h
theorem br_dT {p : Prop} [Decidable p] {P Q : Prop} (e : p) (h : P) : br (decide p) P Q := br_T (decide_eq_true e) h
theorem br_dF {p : Prop} [Decidable p] {P Q : Prop} (e : ¬ p) (h : Q) : br (decide p) P Q := br_F (decide_eq_false e) h
noncomputable def badN (x : Str) : Bool := x == ("__debug__" : Str) || x == ("__classdict__" : Str)
theorem badN_d {x : Str} (h : (!badN x) = true) : (x == ("__debug__" : Str)) = false ∧ (x == ("__classdict__" : Str)) = false := by simpa [badN] using h
noncomputable def gnm (c : Cx) (sc : Sc) (x : Str) : Option V := match sc.scope.names.lookup x with | some .globalImplicit => get c.gl x | _ => none
noncomputable def nm (c : Cx) (sc : Sc) (ρ : Vars) (x : Str) : Option V := match get ρ x with | some v => some v | none => gnm c sc x
def oS {α : Type} (o : Option α) (k : α → Prop) : Prop := match o with | some v => k v | none => False
theorem oS_e {α : Type} {o : Option α} {k : α → Prop} (h : oS o k) : ∃ v, o = some v ∧ k v := by cases o with | some v => exact ⟨v, rfl, h⟩ | none => exact h.elim
noncomputable def kindB (sc : Sc) (x : Str) : Bool := match sc.scope.names.lookup x with | some .local => true | some .cell => true | _ => false
theorem kindB_ok {sc : Sc} {x : Str} (h : kindB sc x = true) : kindOk sc x := by
  unfold kindB at h
  cases e : sc.scope.names.lookup x with
  | none => rw [e] at h; cases h
  | some k =>
    rw [e] at h
    cases k with
    | «local» => exact .inl e
    | cell => exact .inr e
    | _ => cases h
theorem kindB_all {sc : Sc} {xs : List Str} (h : xs.all (kindB sc) = true) : ∀ x ∈ xs, kindOk sc x := fun x m => kindB_ok (List.all_eq_true.mp h x m)
structure Fns where
  E : Expr → Vars → St → Post → Prop
  Es : List Expr → Vars → St → (List V → St → Prop) → Prop
  T : Expr → Vars → St → (Bool → St → Prop) → Prop
  A : BoolOp → List Expr → Vars → St → (Bool → St → Prop) → Prop
  S : Stmt → Vars → St → (Fl → Vars → St → Prop) → Prop
  Ss : List Stmt → Vars → St → (Fl → Vars → St → Prop) → Prop
noncomputable def ii (a b : V) (f : Int → Int → Bool) : Option Bool := match a with | .int x => (match b with | .int y => some (f x y) | _ => none) | _ => none
noncomputable def binV (op : Operator) (a b : V) : Option V := match a with
  | .int x => (match b with | .int y => (match op with | .Add => some (.int (x + y)) | .Sub => some (.int (x - y)) | _ => none) | _ => none)
  | .bool x => (match b with | .bool y => (match op with | .Sub => some (.int ((if x then 1 else 0) - (if y then 1 else 0))) | _ => none) | _ => none)
  | _ => none
def wBIN (c : Cx) (d : Nat) (op : Operator) (a b : V) (σ : St) (Q : Post) : Prop := match binV op a b with | some v => Q v σ | none => Bi c d op a b σ Q
noncomputable def strsV : List V → Option (List Str)
  | [] => some []
  | v :: l => match v with | .str x => (strsV l).map (x :: ·) | _ => none
noncomputable def eqV (a b : V) : Option Bool := match a with
  | .int x => (match b with | .int y => some (decide (x = y)) | _ => none)
  | .str x => (match b with | .str y => some (decide (x = y)) | _ => none)
  | .bool x => (match b with | .bool y => some (x == y) | _ => none)
  | _ => none
noncomputable def isV (a b : V) : Option Bool := match b with
  | .none => (match a with | .raw _ => none | v => some (isNone v))
  | _ => none
noncomputable def inV (a b : V) : Option Bool := match a with
  | .str x => (match b with | .tup l => (strsV l).map fun ys => decide (x ∈ ys) | _ => none)
  | _ => none
noncomputable def cmpV (op : CmpOp) (a b : V) : Option Bool := match op with
  | .Lt => ii a b fun x y => decide (x < y)
  | .Gt => ii a b fun x y => decide (y < x)
  | .LtE => ii a b fun x y => decide (x ≤ y)
  | .GtE => ii a b fun x y => decide (y ≤ x)
  | .Eq => eqV a b
  | .NotEq => (eqV a b).map not
  | .Is => isV a b
  | .IsNot => (isV a b).map not
  | .In => inV a b
  | _ => none
def wCMP (c : Cx) (d : Nat) (op : CmpOp) (a b : V) (σ : St) (Q : Post) : Prop := match cmpV op a b with | some t => Q (.bool t) σ | none => Cm c d op a b σ Q
def wTRU (c : Cx) (d : Nat) (v : V) (σ : St) (B : Bool → St → Prop) : Prop := match v with
  | .bool b => B b σ
  | .int a => B (a != 0) σ
  | .none => B false σ
  | v => Tr c d v σ B
def wCMPT (c : Cx) (d : Nat) (op : CmpOp) (a b : V) (σ : St) (B : Bool → St → Prop) : Prop := match cmpV op a b with | some t => B t σ | none => Cm c d op a b σ fun v σ' => wTRU c d v σ' B
noncomputable def natV (i : V) : Option Nat := match i with
  | .int z => (match z with | .ofNat k => if k ≤ 100000 then some k else none | _ => none)
  | _ => none
noncomputable def getV (o i : V) : Option V := match o with
  | .tup l => (match natV i with | some k => l[k]? | none => none)
  | .str x => (match natV i with | some k => (x.cps[k]?).map (fun ch => .str ⟨#[ch]⟩) | none => none)
  | _ => none
def wGI (c : Cx) (d : Nat) (o i : V) (σ : St) (Q : Post) : Prop := match getV o i with | some v => Q v σ | none => Gi c d o i σ Q
section
variable {c : Cx} {sc : Sc} {d : Nat} {ρ : Vars} {σ : St} {Q : Post} {B : Bool → St → Prop}
theorem ii_e {a b : V} {f : Int → Int → Bool} {t : Bool} (h : ii a b f = some t) : ∃ x y, a = .int x ∧ b = .int y ∧ t = f x y := by
  cases a with
  | int x => cases b with
    | int y => exact ⟨x, y, rfl, rfl, (Option.some.inj h).symm⟩
    | _ => cases h
  | _ => cases h
theorem wBIN_ok {op : Operator} {a b : V} (h : wBIN c d op a b σ Q) : BIN c d op a b σ Q := by
  cases a with
  | int x => cases b with
    | int y => cases op with
      | Add => exact BIN_add h
      | Sub => exact BIN_sub h
      | _ => exact h.go
    | _ => exact h.go
  | bool x => cases b with
    | bool y => cases op with
      | Sub => exact BIN_subB h
      | _ => exact h.go
    | _ => exact h.go
  | _ => exact h.go
theorem strsV_ok : ∀ {l : List V} {ys : List Str}, strsV l = some ys → l = ys.map .str
  | [], _, h => by cases h; rfl
  | v :: l, ys, h => by
    cases v with
    | str x =>
      obtain ⟨zs, e, rfl⟩ := Option.map_eq_some_iff.mp h
      rw [strsV_ok e]; rfl
    | _ => cases h
theorem eqV_ok {a b : V} {t : Bool} (e : eqV a b = some t) : (∀ {Q : Post}, Q (.bool t) σ → CMP c d .Eq a b σ Q) ∧ ∀ {Q : Post}, Q (.bool (!t)) σ → CMP c d .NotEq a b σ Q := by
  cases a with
  | int x => cases b with
    | int y => cases e; exact ⟨CMP_eq, CMP_ne⟩
    | _ => cases e
  | str x => cases b with
    | str y => cases e; exact ⟨CMP_eqS, CMP_neS⟩
    | _ => cases e
  | bool x => cases b with
    | bool y => cases e; exact ⟨CMP_eqB, CMP_neB⟩
    | _ => cases e
  | _ => cases e
theorem isV_ok {a b : V} {t : Bool} (e : isV a b = some t) : (∀ {Q : Post}, Q (.bool t) σ → CMP c d .Is a b σ Q) ∧ ∀ {Q : Post}, Q (.bool (!t)) σ → CMP c d .IsNot a b σ Q := by
  cases b with
  | none =>
    have h : (∀ u, a ≠ .raw u) ∧ t = isNone a := by cases a <;> first | cases e; exact ⟨fun _ x => (nomatch x), rfl⟩ | cases e
    obtain ⟨h, rfl⟩ := h
    exact ⟨CMP_is h, CMP_isNot h⟩
  | _ => cases e
theorem cmpV_ok {op : CmpOp} {a b : V} {t : Bool} (e : cmpV op a b = some t) (h : Q (.bool t) σ) : CMP c d op a b σ Q := by
  cases op with
  | Lt => obtain ⟨x, y, rfl, rfl, rfl⟩ := ii_e e; exact CMP_lt h
  | Gt => obtain ⟨x, y, rfl, rfl, rfl⟩ := ii_e e; exact CMP_gt h
  | LtE => obtain ⟨x, y, rfl, rfl, rfl⟩ := ii_e e; exact CMP_le h
  | GtE => obtain ⟨x, y, rfl, rfl, rfl⟩ := ii_e e; exact CMP_ge h
  | Eq => exact (eqV_ok e).1 h
  | NotEq => obtain ⟨u, e1, rfl⟩ := Option.map_eq_some_iff.mp e; exact (eqV_ok e1).2 h
  | Is => exact (isV_ok e).1 h
  | IsNot => obtain ⟨u, e1, rfl⟩ := Option.map_eq_some_iff.mp e; exact (isV_ok e1).2 h
  | In => cases a with
    | str x => cases b with
      | tup l => obtain ⟨ys, e1, rfl⟩ := Option.map_eq_some_iff.mp e; rw [strsV_ok e1]; exact CMP_inT h
      | _ => cases e
    | _ => cases e
  | NotIn => cases e
theorem wCMP_ok {op : CmpOp} {a b : V} (h : wCMP c d op a b σ Q) : CMP c d op a b σ Q := by
  unfold wCMP at h
  cases e : cmpV op a b with
  | none => rw [e] at h; exact h.go
  | some t => rw [e] at h; exact cmpV_ok e h
theorem wTRU_ok {v : V} (h : wTRU c d v σ B) : TRU c d v σ B := by
  cases v with
  | bool b => exact TRU_bool h
  | int a => exact TRU_int h
  | none => exact TRU_none h
  | _ => exact h.go
theorem CMP.mono {op : CmpOp} {a b : V} {Q' : Post} (h : CMP c d op a b σ Q) (hq : ∀ v σ', Q v σ' → Q' v σ') : CMP c d op a b σ Q' := fun A s θ a' b' r I ra rb =>
  wpAny_mono (h A s θ a' b' r I ra rb) (fun _ _ ⟨v, σ', θ', a, b, y, q⟩ => ⟨v, σ', θ', a, b, y, hq _ _ q⟩) fun _ _ x => x
theorem wCMPT_ok {op : CmpOp} {a b : V} (h : wCMPT c d op a b σ B) : CMP c d op a b σ fun v σ' => TRU c d v σ' B := by
  unfold wCMPT at h
  cases e : cmpV op a b with
  | none => rw [e] at h; exact h.go.mono fun _ _ q => wTRU_ok q
  | some t => rw [e] at h; exact cmpV_ok e (TRU_bool h)
theorem natV_e {i : V} {k : Nat} (h : natV i = some k) : i = .int k ∧ k ≤ 100000 := by
  cases i with
  | int z => cases z with
    | ofNat n =>
      have h : (if n ≤ 100000 then some n else none) = some k := h
      split at h
      · next g => cases h; exact ⟨rfl, g⟩
      · cases h
    | negSucc n => cases h
  | _ => cases h
theorem wGI_ok {o i : V} (h : wGI c d o i σ Q) : GI c d o i σ Q := by
  unfold wGI at h
  cases e : getV o i with
  | none => rw [e] at h; exact h.go
  | some v =>
    rw [e] at h
    cases o with
    | tup l =>
      unfold getV at e
      cases e1 : natV i with
      | none => rw [e1] at e; cases e
      | some k =>
        rw [e1] at e
        obtain ⟨rfl, hk⟩ := natV_e e1
        exact GI_tup (Int.natCast_nonneg k) (by rw [Int.toNat_natCast]; exact e) h (by omega)
    | str x =>
      unfold getV at e
      cases e1 : natV i with
      | none => rw [e1] at e; cases e
      | some k =>
        rw [e1] at e
        obtain ⟨rfl, hk⟩ := natV_e e1
        obtain ⟨ch, e2, rfl⟩ := Option.map_eq_some_iff.mp e
        exact GI_str (Int.natCast_nonneg k) (by rw [Int.toNat_natCast]; exact e2) h (by omega)
    | _ => cases e
end
end Mine
end
section
open PySem PySem.W PySem.Calls PyProof.Rows
set_option linter.unusedVariables false
set_option maxRecDepth 100000
namespace Mine
abbrev Rec := Sc → Fns
noncomputable def isSet : Expr → Bool | .Set .. => true | _ => false
noncomputable def isSt : Expr → Bool | .Starred .. => true | _ => false
noncomputable def isComp : Expr → Bool | .ListComp .. => true | .SetComp .. => true | .DictComp .. => true | _ => false
noncomputable def isCall : Expr → Bool | .Call .. => true | _ => false
noncomputable def isSlice : Expr → Bool | .Slice .. => true | _ => false
noncomputable def isTup : Expr → Bool | .Tuple .. => true | _ => false
noncomputable def isRaw : V → Bool | .raw _ => true | _ => false
noncomputable def capt (scope : Scope) (ρ : Vars) : Vars := scope.names.filterMap fun y => if y.2 = .free then (get ρ y.1).map fun v => (y.1, v) else none
noncomputable def swapB (sc : Sc) (ts vs : List Expr) : Option (List Str) :=
  let xs := ts.filterMap fun | .Name id pos => if sc.scope.names.lookup id == some .local && pos.line == (ts.head?.map (·.pos.line)).getD 0 then some id else none | _ => none
  if !(ts.length == 2 || ts.length == 3) || vs.length != ts.length then none
  else if vs.any fun | .Starred .. => true | _ => false then none
  else if xs.length != ts.length || xs.eraseDups.length != xs.length then none
  else if vs.all (foldedForSure 8) then none
  else if vs.all (constantsAlone 8) then none
  else some xs
noncomputable def swapC (sc : Sc) (t : Str) (tp : Pos) (scope : Scope) (pos : Pos) : Bool :=
  sc.scope.names.lookup t == some .local && tp.line == pos.line && !(scope.names.any fun (n, k) => n == t && (k == .local || k == .cell))
structure Gen1 where
  x : Str
  px : Pos
  iter : Expr
  ts : List Expr
noncomputable def gen1 (gens : List Comprehension) : Option Gen1 := match gens with
  | [] => none
  | g :: r => match r with
    | _ :: _ => none
    | [] => match g with
      | ⟨t, iter, ts, a⟩ => match t with
        | .Name x px => if a = 0 then some ⟨x, px, iter, ts⟩ else none
        | _ => none
def wPt (F : Rec) (sc : Sc) (e : Option Expr) (ρ : Vars) (σ : St) (B : Option Nat → St → Prop) : Prop := match e with
  | none => B none σ
  | some e => (F sc).E e ρ σ fun v σ' => ∃ n : Nat, v = .int n ∧ B (some n) σ'
section
variable (c : Cx) (d : Nat) (F : Rec) (sc : Sc)
def eConst (k : Const) (σ : St) (Q : Post) : Prop := match k with
  | .int i => Q (.int i) σ
  | .str x => Q (.str x) σ
  | .bool b => Q (.bool b) σ
  | .none => Q .none σ
  | _ => False
def eName (x : Str) (ρ : Vars) (σ : St) (Q : Post) : Prop := ck (!badN x) (oS (nm c sc ρ x) fun v => Q v σ)
def byName (x : Str) (args : List Expr) (ρ : Vars) (σ : St) (G : V → List V → St → Prop) : Prop := ck (noStar args && !badN x) (match get ρ x with
      | some fv => (F sc).Es args ρ σ fun vs σ₂ => Kp c σ₂ fv ∧ G fv vs σ₂
      | none => oS (gnm c sc x) fun fv => ck (isRaw fv) ((F sc).Es args ρ σ fun vs σ₂ => G fv vs σ₂))
def eCall (f : Expr) (args : List Expr) (kws : List Keyword) (pos : Pos) (ρ : Vars) (σ : St) (Q : Post) : Prop := match kws with
  | _ :: _ => Ev c sc d (.Call f args kws pos) ρ σ Q
  | [] => match f with
    | .Name x _ => byName c F sc x args ρ σ fun fv vs σ₂ => Ca c d fv vs σ₂ Q
    | .Attribute o name ap => ck (noStar args && (!isCall o && (ap.endLine == pos.line && Nat.blt args.length 30))) ((F sc).E o ρ σ fun ov σ₁ => Gm c d ov name σ₁ fun fv first σ₂ => (F sc).Es args ρ σ₂ fun vs σ₃ => Kp c σ₃ fv ∧ Ca c d fv (first ++ vs) σ₃ Q)
    | f => Ev c sc d (.Call f args [] pos) ρ σ Q
def eSlice (whole : Expr) (v : V) (lo hi stp : Option Expr) (ρ : Vars) (σ : St) (Q : Post) : Prop := match stp with
  | some one => ck (lo.isNone && hi.isNone) ((F sc).E one ρ σ fun u σ₃ => u = .int (-1) ∧ ∃ l, isList σ₃ v l ∧ l.length ≤ 9000 ∧ Q (.lst l.reverse) σ₃)
  | none => match v with
    | .raw _ => Ev c sc d whole ρ σ Q
    | .tup l => (match lo with
      | some e => ck hi.isNone ((F sc).E e ρ σ fun u σ₁ => ∃ n : Nat, u = .int n ∧ l.length ≤ 9000 ∧ 1 ≤ n ∧ n ≤ l.length ∧ Q (.tup (l.drop n)) σ₁)
      | none => Ev c sc d whole ρ σ Q)
    | v => wPt F sc lo ρ σ fun a σ₂ => wPt F sc hi ρ σ₂ fun b σ₃ => ∃ l l', isList σ₃ v l ∧ l.length ≤ 9000 ∧ pickN l a b = some l' ∧ Q (.lst l') σ₃
def eSub (o i : Expr) (pos : Pos) (ρ : Vars) (σ : St) (Q : Post) : Prop := match i with
  | .Slice lo hi stp p => (match o with
    | .Name x _ => ck (!badN x) (oS (nm c sc ρ x) fun v => eSlice c d F sc (.Subscript o (.Slice lo hi stp p) pos) v lo hi stp ρ σ Q)
    | o => Ev c sc d (.Subscript o (.Slice lo hi stp p) pos) ρ σ Q)
  | i => (F sc).E o ρ σ fun ov σ₁ => (F sc).E i ρ σ₁ fun iv σ₂ => wGI c d ov iv σ₂ Q
def eCmp (l : Expr) (ops : List CmpOp) (rs : List Expr) (pos : Pos) (ρ : Vars) (σ : St) (Q : Post) : Prop := match ops with
  | [] => False
  | op :: ops => match rs with
    | [] => False
    | r :: rs => match ops with
      | [] => (match rs with
        | [] => ck (!isSet r) ((F sc).E l ρ σ fun a σ₁ => (F sc).E r ρ σ₁ fun b σ₂ => wCMP c d op a b σ₂ Q)
        | _ :: _ => False)
      | o₂ :: ops => match ops with
        | _ :: _ => False
        | [] => match rs with
          | [] => False
          | r₂ :: rs => match rs with
            | _ :: _ => False
            | [] => ck (!isSet r₂) ((F sc).E l ρ σ fun a σ₁ => (F sc).E r ρ σ₁ fun b σ₂ => wCMP c d op a b σ₂ fun v σ₃ => wTRU c d v σ₃ fun t σ₄ => br t ((F sc).E r₂ ρ σ₄ fun w σ₅ => wCMP c d o₂ b w σ₅ Q) (Q v σ₄))
def tCmp (l : Expr) (ops : List CmpOp) (rs : List Expr) (ρ : Vars) (σ : St) (B : Bool → St → Prop) : Prop := match ops with
  | [] => False
  | op :: ops => match rs with
    | [] => False
    | r :: rs => ck (ops.isEmpty && (rs.isEmpty && !isSet r)) ((F sc).E l ρ σ fun a σ₁ => (F sc).E r ρ σ₁ fun b σ₂ => wCMPT c d op a b σ₂ B)
def itCall (iter : Expr) : Option (Str × List Expr) := match iter with
  | .Call f args kws _ => (match f with
    | .Name x _ => (match kws with | [] => some (x, args) | _ :: _ => none)
    | _ => none)
  | _ => none
def wITX (target iter : Expr) (ρ : Vars) (σ : St) (G : List V → (St → Prop) → St → Prop) : Prop := match itCall iter with
  | some (x, args) => byName c F sc x args ρ σ fun fv vs σ₂ => Ic c d target fv vs σ₂ G
  | none => (F sc).E iter ρ σ fun v σ₁ => Iv c d target v σ₁ G
def wCOMPS (sc' : Sc) (elt : Expr) (x : Str) (K : St → Prop) (n : Nat) (T : List V → St → Prop) : List V → List V → Vars → St → Prop
  | [], acc, _, σ => σ[n]? = some (.list acc) ∧ T acc σ
  | v :: r, acc, ρ, σ => (F sc').E elt (put ρ x v) σ fun u σ₁ => σ₁[n]? = some (.list acc) ∧ acc.length ≤ 9000 ∧ K (σ₁.set n (.list (acc ++ [u]))) ∧ wCOMPS sc' elt x K n T r (acc ++ [u]) (put ρ x v) (σ₁.set n (.list (acc ++ [u])))
def wCOMPSF (sc' : Sc) (elt tst : Expr) (x : Str) (K : St → Prop) (n : Nat) (T : List V → St → Prop) : List V → List V → Vars → St → Prop
  | [], acc, _, σ => σ[n]? = some (.list acc) ∧ T acc σ
  | v :: r, acc, ρ, σ => (F sc').T tst (put ρ x v) σ fun b σ₁ => br b ((F sc').E elt (put ρ x v) σ₁ fun u σ₂ => σ₂[n]? = some (.list acc) ∧ acc.length ≤ 9000 ∧ K (σ₂.set n (.list (acc ++ [u]))) ∧ wCOMPSF sc' elt tst x K n T r (acc ++ [u]) (put ρ x v) (σ₂.set n (.list (acc ++ [u]))))
      (K σ₁ ∧ wCOMPSF sc' elt tst x K n T r acc (put ρ x v) σ₁)
def wLC (elt : Expr) (g : Gen1) (scope : Scope) (ρ : Vars) (σ : St) (T : Nat → List V → St → Prop) : Prop := ck (Nat.ble g.ts.length 1 && (compB scope sc.scope g.x ((capt scope ρ).map (·.1)) && !isSet g.iter)) (wITX c d F sc (.Name g.x g.px) g.iter ρ σ fun l K σ₂ => K (σ₂ ++ [.list []]) ∧ (match g.ts with
  | [] => wCOMPS F (compSc scope sc) elt g.x K σ₂.length (T σ₂.length) l [] (capt scope ρ) (σ₂ ++ [.list []])
  | t :: _ => wCOMPSF F (compSc scope sc) elt t g.x K σ₂.length (T σ₂.length) l [] (capt scope ρ) (σ₂ ++ [.list []])))
def eUn (op : UnaryOp) (e : Expr) (ρ : Vars) (σ : St) (Q : Post) : Prop := match op with
  | .USub => (F sc).E e ρ σ fun v σ₁ => ∃ i, v = .int i ∧ Q (.int (-i)) σ₁
  | .Not => (F sc).E e ρ σ fun v σ₁ => wTRU c d v σ₁ fun b σ₂ => Q (.bool !b) σ₂
  | _ => False
def sE (e : Expr) (ρ : Vars) (σ : St) (Q : Post) : Prop := match e with
  | .Constant k _ _ => eConst k σ Q
  | .Name x _ => eName c sc x ρ σ Q
  | .BinOp l op r _ => (F sc).E l ρ σ fun a σ₁ => (F sc).E r ρ σ₁ fun b σ₂ => wBIN c d op a b σ₂ Q
  | .UnaryOp op e _ => eUn c d F sc op e ρ σ Q
  | .Compare l ops rs pos => eCmp c d F sc l ops rs pos ρ σ Q
  | .Tuple es _ _ => (F sc).Es es ρ σ fun vs σ₁ => ck (Nat.ble vs.length 1000) (Q (.tup vs) σ₁)
  | .IfExp t b o _ => (F sc).T t ρ σ fun x σ₁ => br x ((F sc).E b ρ σ₁ Q) ((F sc).E o ρ σ₁ Q)
  | .Call f args kws pos => eCall c d F sc f args kws pos ρ σ Q
  | .Attribute o name _ => ck (!isCall o) ((F sc).E o ρ σ fun ov σ₁ => At c d ov name σ₁ Q)
  | .Subscript o i pos => eSub c d F sc o i pos ρ σ Q
  | .ListComp elt gens scope _ => oS (gen1 gens) fun g => wLC c d F sc elt g scope ρ σ fun n vs σ₃ => Q (.loc n) σ₃
  | e => Ev c sc d e ρ σ Q
def sEs (es : List Expr) (ρ : Vars) (σ : St) (Q : List V → St → Prop) : Prop := match es with
  | [] => Q [] σ
  | e :: es => ck (!isSt e) ((F sc).E e ρ σ fun v σ₁ => (F sc).Es es ρ σ₁ fun vs σ₂ => Q (v :: vs) σ₂)
def sT (e : Expr) (ρ : Vars) (σ : St) (B : Bool → St → Prop) : Prop := match e with
  | .UnaryOp op e' p => (match op with | .Not => (F sc).T e' ρ σ fun b σ₁ => B (!b) σ₁ | _ => False)
  | .BoolOp op es _ => (F sc).A op es ρ σ B
  | .Compare l ops rs _ => tCmp c d F sc l ops rs ρ σ B
  | .IfExp .. => False
  | e => (F sc).E e ρ σ fun v σ₁ => wTRU c d v σ₁ B
def sA (op : BoolOp) (es : List Expr) (ρ : Vars) (σ : St) (B : Bool → St → Prop) : Prop := match es with
  | [] => (match op with | .And => B true σ | .Or => B false σ)
  | e :: es => (F sc).T e ρ σ fun b σ₁ => (match op with | .And => br b ((F sc).A .And es ρ σ₁ B) (B false σ₁) | .Or => br b (B true σ₁) ((F sc).A .Or es ρ σ₁ B))
def wBind (target : Expr) (v : V) (ρ : Vars) (k : Vars → Prop) : Prop := match target with
  | .Name x _ => ck (kindB sc x) (k (put ρ x v))
  | .Tuple es _ _ => oS (namesOf es) fun xs => ck (xs.all (kindB sc)) (match v with
    | .tup vs => xs.length = vs.length ∧ k (binds xs vs ρ)
    | .lst vs => xs.length = vs.length ∧ k (binds xs vs ρ)
    | _ => False)
  | _ => False
def wNext (go : Vars → St → Prop) (R : Fl → Vars → St → Prop) (f : Fl) (ρ' : Vars) (σ' : St) : Prop := match f with
      | .next => go ρ' σ'
      | .cont => go ρ' σ'
      | .brk => R .next ρ' σ'
      | .ret v => R (.ret v) ρ' σ'
def tupPost (v : V) (xs : List Str) (k : List V → Prop) (σ₁ : St) : Prop := match v with
    | .tup ws => xs.length = ws.length ∧ k ws
    | v => ∃ ws, isList σ₁ v ws ∧ xs.length = ws.length ∧ k ws
def sTup (es : List Expr) (k : Nat) (tp : Pos) (value : Expr) (ρ : Vars) (σ : St) (R : Fl → Vars → St → Prop) : Prop := match value with
  | .Tuple vs k' p' => oS (swapB sc es vs) fun xs => (F sc).Es vs ρ σ fun ws σ₁ => ck (Nat.ble ws.length 1000) (xs.length = ws.length ∧ R .next (binds xs.reverse ws.reverse ρ) σ₁)
  | value => oS (namesOf es) fun xs => ck (xs.all (kindB sc)) ((F sc).E value ρ σ fun v σ₁ => tupPost v xs (fun ws => R .next (binds xs ws ρ) σ₁) σ₁)
def sAssign (t value : Expr) (pos : Pos) (ρ : Vars) (σ : St) (R : Fl → Vars → St → Prop) : Prop := match t with
  | .Name x xp => (match value with
    | .ListComp elt gens scope cp => oS (gen1 gens) fun g => ck (swapC sc x xp scope cp) (wLC c d F sc elt g scope ρ σ fun n vs σ₃ => R .next (put ρ x (.loc n)) σ₃)
    | value => ck (!isComp value && kindB sc x) ((F sc).E value ρ σ fun v σ₁ => R .next (put ρ x v) σ₁))
  | .Subscript o i ip => ck (!isComp value && !isSlice i) ((F sc).E value ρ σ fun v σ₁ => (F sc).E o ρ σ₁ fun ov σ₂ => (F sc).E i ρ σ₂ fun iv σ₃ => Si c d ov iv v σ₃ fun σ₄ => R .next ρ σ₄)
  | .Attribute o attr ap => ck (!isComp value) ((F sc).E value ρ σ fun v σ₁ => (F sc).E o ρ σ₁ fun ov σ₂ => Sa c ov attr v σ₂ fun σ₃ => R .next ρ σ₃)
  | .Tuple es k tp => sTup F sc es k tp value ρ σ R
  | t => Ex c sc d (.Assign [t] value pos) ρ σ R
def sAug (t : Expr) (op : Operator) (value : Expr) (ρ : Vars) (σ : St) (R : Fl → Vars → St → Prop) : Prop := match t with
  | .Name x p => (match op with
    | .Add => ck (kindB sc x && !badN x) (oS (get ρ x) fun u => ∃ a, u = .int a ∧ (F sc).E value ρ σ fun v σ₁ => ∃ b, v = .int b ∧ R .next (put ρ x (.int (a + b))) σ₁)
    | _ => False)
  | _ => False
def sS (st : Stmt) (ρ : Vars) (σ : St) (R : Fl → Vars → St → Prop) : Prop := match st with
  | .Return e _ => (match e with | some e => (F sc).E e ρ σ fun v σ₁ => R (.ret v) ρ σ₁ | none => R (.ret .none) ρ σ)
  | .If t b o _ => (F sc).T t ρ σ fun x σ₁ => br x ((F sc).Ss b ρ σ₁ R) ((F sc).Ss o ρ σ₁ R)
  | .Assign ts value pos => (match ts with
    | [] => False
    | t :: ts => match ts with | [] => sAssign c d F sc t value pos ρ σ R | _ :: _ => False)
  | .Expr e _ => ck (!isComp e) ((F sc).E e ρ σ fun _ σ₁ => R .next ρ σ₁)
  | .AugAssign t op value pos => sAug F sc t op value ρ σ R
  | st => Ex c sc d st ρ σ R
def sSs (l : List Stmt) (ρ : Vars) (σ : St) (R : Fl → Vars → St → Prop) : Prop := match l with
  | [] => R .next ρ σ
  | st :: rest => (F sc).S st ρ σ fun f ρ' σ' => match f with
    | .next => (F sc).Ss rest ρ' σ' R
    | f => R f ρ' σ'
end
noncomputable def wp (c : Cx) (d : Nat) : Nat → Rec
  | 0 => fun _ => ⟨fun _ _ _ _ => False, fun _ _ _ _ => False, fun _ _ _ _ => False, fun _ _ _ _ _ => False, fun _ _ _ _ => False, fun _ _ _ _ => False⟩
  | n + 1 => fun sc => ⟨sE c d (wp c d n) sc, sEs (wp c d n) sc, sT c d (wp c d n) sc, sA (wp c d n) sc, sS c d (wp c d n) sc, sSs (wp c d n) sc⟩
end Mine
end
section
open PySem PySem.W PySem.Calls PyProof.Rows
set_option linter.unusedVariables false
set_option maxRecDepth 100000
namespace Mine
section
variable {c : Cx} {sc : Sc} {d : Nat} {ρ : Vars} {σ : St} {Q : Post} {R : Fl → Vars → St → Prop} {B : Bool → St → Prop} {F : Rec} {x : Str} {G : List V → (St → Prop) → St → Prop} {target : Expr}
theorem EVs.mono {es : List Expr} {Q Q' : List V → St → Prop} (h : EVs c sc d es ρ σ Q) (hq : ∀ v σ', Q v σ' → Q' v σ') : EVs c sc d es ρ σ Q' := fun A env p s θ r X I F =>
  wpAny_mono (h A env p s θ r X I F) (fun _ _ ⟨v, σ', θ', a, b, y, q⟩ => ⟨v, σ', θ', a, b, y, hq _ _ q⟩) fun _ _ x => x
theorem ET.mono {e : Expr} {B' : Bool → St → Prop} (h : ET c sc d e ρ σ B) (hq : ∀ v σ', B v σ' → B' v σ') : ET c sc d e ρ σ B' := fun A env s θ r X I F =>
  wpAny_mono (h A env s θ r X I F) (fun _ _ ⟨σ', θ', a, b, q⟩ => ⟨σ', θ', a, b, hq _ _ q⟩) fun _ _ x => x
theorem TRU.mono {a : V} {B' : Bool → St → Prop} (h : TRU c d a σ B) (hq : ∀ v σ', B v σ' → B' v σ') : TRU c d a σ B' := fun A s θ a' r I ra =>
  wpAny_mono (h A s θ a' r I ra) (fun _ _ ⟨σ', θ', a, b, q⟩ => ⟨σ', θ', a, b, hq _ _ q⟩) fun _ _ x => x
theorem GM.mono {o : V} {name : Str} {Q Q' : V → List V → St → Prop} (h : GM c d o name σ Q) (hq : ∀ f l σ', Q f l σ' → Q' f l σ') : GM c d o name σ Q' := fun A s θ o' pl r I ro =>
  wpAny_mono (h A s θ o' pl r I ro) (fun _ _ ⟨f, l, σ', θ', a, b, y, z, q⟩ => ⟨f, l, σ', θ', a, b, y, z, hq _ _ _ q⟩) fun _ _ x => x
theorem ITX.mono {e : Expr} {G' : List V → (St → Prop) → St → Prop} (h : ITX c sc d target e ρ σ G) (hq : ∀ l K σ', G l K σ' → G' l K σ') : ITX c sc d target e ρ σ G' := fun A env s θ r X I F =>
  wpAny_mono (h A env s θ r X I F) (fun _ _ h => wpAny_mono h (fun _ _ ⟨l, K, σ', θ', a, b, y, z, q⟩ => ⟨l, K, σ', θ', a, b, y, z, hq _ _ _ q⟩) fun _ _ x => x) fun _ _ x => x
theorem br_to {b : Bool} {P P' S S' : Prop} (h : br b P S) (h1 : P → P') (h2 : S → S') : if b = true then P' else S' := by cases b with | true => exact h1 h | false => exact h2 h
structure Sound (c : Cx) (d : Nat) (F : Rec) : Prop where
  E : ∀ {sc : Sc} {e : Expr} {ρ : Vars} {σ : St} {Q : Post}, (F sc).E e ρ σ Q → EV c sc d e ρ σ Q
  Es : ∀ {sc : Sc} {es : List Expr} {ρ : Vars} {σ : St} {Q : List V → St → Prop}, (F sc).Es es ρ σ Q → EVs c sc d es ρ σ Q
  T : ∀ {sc : Sc} {e : Expr} {ρ : Vars} {σ : St} {B : Bool → St → Prop}, (F sc).T e ρ σ B → ET c sc d e ρ σ B
  A : ∀ {sc : Sc} {op : BoolOp} {es : List Expr} {ρ : Vars} {σ : St} {B : Bool → St → Prop}, (F sc).A op es ρ σ B → ETA c sc d op es ρ σ B
  S : ∀ {sc : Sc} {st : Stmt} {ρ : Vars} {σ : St} {R : Fl → Vars → St → Prop}, (F sc).S st ρ σ R → EX c sc d st ρ σ R
  Ss : ∀ {sc : Sc} {l : List Stmt} {ρ : Vars} {σ : St} {R : Fl → Vars → St → Prop}, (F sc).Ss l ρ σ R → EXs c sc d l ρ σ R
structure CxK (c : Cx) : Prop where
  ok : CxOk c
  kp : ∀ x v, get c.gl x = some v → isRaw v = true → ∀ σ, Kp c σ v
theorem and2 {a b : Bool} (h : (a && b) = true) : a = true ∧ b = true := Bool.and_eq_true_iff.mp h
theorem gnm_e {v : V} (h : gnm c sc x = some v) : sc.scope.names.lookup x = some .globalImplicit ∧ get c.gl x = some v := by
  unfold gnm at h
  cases e : sc.scope.names.lookup x with
  | none => rw [e] at h; cases h
  | some k =>
    rw [e] at h
    cases k with
    | globalImplicit => exact ⟨rfl, h⟩
    | _ => cases h
theorem name_ok (K : CxK c) {p : Pos} {v : V} (hb : (!badN x) = true) (hv : nm c sc ρ x = some v) (h : Q v σ) : EV c sc d (.Name x p) ρ σ Q := by
  obtain ⟨b1, b2⟩ := badN_d hb
  unfold nm at hv
  cases e : get ρ x with
  | some u => rw [e] at hv; cases hv; exact EV_name e h b1 b2
  | none => rw [e] at hv; obtain ⟨h1, h2⟩ := gnm_e hv; exact EV_glob K.ok h1 h2 h b1
theorem isSet_hm {op : CmpOp} {r : Expr} (h : (!isSet r) = true) : behindInMarks op r = false := by cases r <;> first | rfl | cases h
theorem isSet_fs {r : Expr} (h : (!isSet r) = true) : ∀ env x, foldedSetIterable r env x = pure x := by cases r <;> first | (intro _ _; rfl) | cases h
theorem isComp_sw {r : Expr} (h : (!isComp r) = true) (t : Option Expr) (n : Nat) : ∀ env, swapsWith r t n env = pure false := by cases r <;> first | (intro _; rfl) | cases h
theorem isSt_se {e : Expr} {es : List Expr} (h : (!isSt e) = true) : ∀ env, starEach (e :: es) env = (false, eval e env) :: starEach es env := by cases e <;> first | (intro _; rfl) | cases h
theorem sub_hs {i : Expr} (h : (!isSlice i) = true) : ∀ ov iv, ∃ ops, subscripted i false ov iv = operate ops (getItem ov iv) := by cases i <;> first | exact fun _ _ => ⟨_, rfl⟩ | cases h
theorem attr_base {o : Expr} (h : (!isCall o) = true) (name : Str) (env : Env) (w : Sem Value) : attributeBase o name env w = w := by cases o <;> first | rfl | cases h
theorem mcall_he {o : Expr} {name : Str} {ap pos : Pos} {args : List Expr} (hs : noStar args = true) (h1 : (!isCall o) = true) (h2 : (ap.endLine == pos.line) = true) (h3 : Nat.blt args.length 30 = true) : ∀ env, ∃ pl, eval (.Call (.Attribute o name ap) args [] pos) env = (do
      let ov ← eval o env
      standAt ap.atName
      let (f, first) ← holding [ov] (getMethod ov name pl)
      callWith pos f first (backTo pos (starEach args env)) []) := fun env => by
  have e1 : methodCallForm args.length (backTo pos (starEach args env)) [] = true := by
    rw [backTo_plain pos env hs]
    have : args.length < 30 := Nat.lt_of_succ_le (Nat.le_of_ble_eq_true h3)
    simp [methodCallForm, this]
  have e2 : methodCallPos true o env ap pos = pure pos := by unfold methodCallPos; rw [h2]; rfl
  refine ⟨do return (← importBound o env).getD true, ?_⟩
  show (do
    let ov ← attributeBase o name env (eval o env)
    standAt ap.atName
    methodCall o name ap pos env ov (args.length + 0) (backTo pos (starEach args env)) []) = _
  rw [attr_base h1]
  unfold methodCall
  rw [Nat.add_zero, e1]
  unfold calleeOf
  rw [e2]
  rfl
theorem byName_ok (K : CxK c) (I : Sound c d F) {args : List Expr} {G : V → List V → St → Prop} {p : Pos} (h : byName c F sc x args ρ σ G) : noStar args = true ∧ EV c sc d (.Name x p) ρ σ fun f σ₁ => EVs c sc d args ρ σ₁ fun vs σ₂ => Kp c σ₂ f ∧ G f vs σ₂ := by
  obtain ⟨h1, h2⟩ := and2 (ck_b h)
  have h := ck_p h
  refine ⟨h1, ?_⟩
  cases e : get ρ x with
  | some fv => rw [e] at h; exact name_ok K h2 (v := fv) (by unfold nm; rw [e]) (I.Es h)
  | none =>
    rw [e] at h
    obtain ⟨fv, e', h⟩ := oS_e h
    exact name_ok K h2 (v := fv) (by unfold nm; rw [e]; exact e') ((I.Es (ck_p h)).mono fun _ _ q => ⟨K.kp _ _ (gnm_e e').2 (ck_b h) _, q⟩)
theorem call_ok (K : CxK c) (I : Sound c d F) {f : Expr} {args : List Expr} {kws : List Keyword} {pos : Pos} (h : eCall c d F sc f args kws pos ρ σ Q) : EV c sc d (.Call f args kws pos) ρ σ Q := by
  cases kws with
  | cons => exact h.go
  | nil =>
    cases f with
    | Name y p =>
      obtain ⟨h1, h2⟩ := byName_ok K I (p := p) h
      exact EV_Call h1 (h2.mono fun _ _ q => q.mono fun _ _ q => ⟨q.1, q.2.go⟩)
    | Attribute o name ap =>
      obtain ⟨h1, h2⟩ := and2 (ck_b h)
      obtain ⟨h2, h3⟩ := and2 h2
      obtain ⟨h3, h4⟩ := and2 h3
      exact EV_MCall h1 ((I.E (ck_p h)).mono fun _ _ q => q.go.mono fun _ _ _ q => (I.Es q).mono fun _ _ q => ⟨q.1, q.2.go⟩) (mcall_he h1 h2 h3 h4)
    | _ => exact h.go
theorem pt_ok (I : Sound c d F) {e : Option Expr} {B B' : Option Nat → St → Prop} (h : wPt F sc e ρ σ B) (hq : ∀ o σ', B o σ' → B' o σ') : EVP c sc d e ρ σ B' := by
  cases e with
  | none => exact hq _ _ h
  | some e => exact (I.E h).mono fun _ _ ⟨n, e, q⟩ => ⟨n, e, hq _ _ q⟩
theorem slice_ok (K : CxK c) (I : Sound c d F) {p p' p'' : Pos} {v : V} {lo hi stp : Option Expr} (hn : ∀ {P : Post}, P v σ → EV c sc d (.Name x p) ρ σ P) (h : eSlice c d F sc (.Subscript (.Name x p) (.Slice lo hi stp p') p'') v lo hi stp ρ σ Q) :
    EV c sc d (.Subscript (.Name x p) (.Slice lo hi stp p') p'') ρ σ Q := by
  cases stp with
  | some one =>
    have h : ck (lo.isNone && hi.isNone) ((F sc).E one ρ σ fun u σ₃ => u = .int (-1) ∧ ∃ l, isList σ₃ v l ∧ l.length ≤ 9000 ∧ Q (.lst l.reverse) σ₃) := h
    obtain ⟨h1, h2⟩ := and2 (ck_b h)
    have g := I.E (ck_p h)
    cases lo with
    | some => cases h1
    | none => cases hi with
      | some => cases h2
      | none => exact EV_SliceRev (p1 := default) (k := 0) (hn g)
  | none =>
    have gen : (∀ u, v ≠ .raw u) → (∀ l, v ≠ .tup l) → EV c sc d (.Subscript (.Name x p) (.Slice lo hi none p') p'') ρ σ Q := fun h1 h2 => by
      have h : wPt F sc lo ρ σ fun a σ₂ => wPt F sc hi ρ σ₂ fun b σ₃ => ∃ l l', isList σ₃ v l ∧ l.length ≤ 9000 ∧ pickN l a b = some l' ∧ Q (.lst l') σ₃ := by
        cases v with
        | raw u => exact absurd rfl (h1 u)
        | tup l => exact absurd rfl (h2 l)
        | _ => exact h
      exact EV_SliceL (hn (pt_ok I h fun _ _ q => pt_ok I q fun _ _ q => q))
    cases v with
    | raw u => exact h.go
    | tup l =>
      cases lo with
      | none => exact h.go
      | some e =>
        have h : ck hi.isNone ((F sc).E e ρ σ fun u σ₁ => ∃ n : Nat, u = .int n ∧ l.length ≤ 9000 ∧ 1 ≤ n ∧ n ≤ l.length ∧ Q (.tup (l.drop n)) σ₁) := h
        have h2 := ck_b h
        have g := I.E (ck_p h)
        cases hi with
        | some => cases h2
        | none => exact EV_SliceT (hn (g.mono fun _ _ ⟨n, h1, h2, h3, h4, h5⟩ => ⟨n, _, h1, rfl, h2, h3, h4, h5⟩))
    | _ => exact gen (fun _ e => nomatch e) (fun _ e => nomatch e)
theorem sub_ok (K : CxK c) (I : Sound c d F) {o i : Expr} {pos : Pos} (h : eSub c d F sc o i pos ρ σ Q) : EV c sc d (.Subscript o i pos) ρ σ Q := by
  cases hi : isSlice i with
  | false =>
    have h : (F sc).E o ρ σ fun ov σ₁ => (F sc).E i ρ σ₁ fun iv σ₂ => wGI c d ov iv σ₂ Q := by cases i <;> first | exact h | cases hi
    exact EV_Sub ((I.E h).mono fun _ _ q => (I.E q).mono fun _ _ q => wGI_ok q) (sub_hs (by rw [hi]; rfl))
  | true =>
    cases i with
    | Slice lo hi stp p =>
      cases o with
      | Name x q =>
        have h2 := ck_b h
        obtain ⟨v, e, h⟩ := oS_e (ck_p h)
        exact slice_ok K I (fun q => name_ok K h2 e q) h
      | _ => exact h.go
    | _ => cases hi
theorem cmp_ok (I : Sound c d F) {l : Expr} {ops : List CmpOp} {rs : List Expr} {pos : Pos} (h : eCmp c d F sc l ops rs pos ρ σ Q) : EV c sc d (.Compare l ops rs pos) ρ σ Q := by
  cases ops with
  | nil => exact h.elim
  | cons op ops => cases rs with
    | nil => exact h.elim
    | cons r rs => cases ops with
      | nil => cases rs with
        | nil => exact EV_Compare1 ((I.E (ck_p h)).mono fun _ _ q => (I.E q).mono fun _ _ q => wCMP_ok q) (isSet_hm (ck_b h))
        | cons => exact h.elim
      | cons o₂ ops => cases ops with
        | cons => exact h.elim
        | nil => cases rs with
          | nil => exact h.elim
          | cons r₂ rs => cases rs with
            | cons => exact h.elim
            | nil => exact EV_Chain2 ((I.E (ck_p h)).mono fun _ _ q => (I.E q).mono fun _ _ q => (wCMP_ok q).mono fun _ _ q => (wTRU_ok q).mono fun _ _ q => br_to q (fun q => (I.E q).mono fun _ _ q => wCMP_ok q) fun q => q) (isSet_hm (ck_b h))
theorem tcmp_ok (I : Sound c d F) {l : Expr} {ops : List CmpOp} {rs : List Expr} {pos : Pos} (h : tCmp c d F sc l ops rs ρ σ B) : ET c sc d (.Compare l ops rs pos) ρ σ B := by
  cases ops with
  | nil => exact h.elim
  | cons op ops => cases rs with
    | nil => exact h.elim
    | cons r rs =>
      obtain ⟨h1, h2⟩ := and2 (ck_b h)
      obtain ⟨h2, h3⟩ := and2 h2
      have g := ck_p h
      cases ops with
      | cons => cases h1
      | nil => cases rs with
        | cons => cases h2
        | nil => exact ET_cmp ((I.E g).mono fun _ _ q => (I.E q).mono fun _ _ q => wCMPT_ok q) (isSet_hm h3)
theorem itCall_e {iter : Expr} {q : Str × List Expr} (h : itCall iter = some q) : ∃ p p', iter = .Call (.Name q.1 p) q.2 [] p' := by
  cases iter with
  | Call f args kws p' => cases f with
    | Name y p => cases kws with
      | nil => cases h; exact ⟨_, _, rfl⟩
      | cons => cases h
    | _ => cases h
  | _ => cases h
theorem itx_ok (K : CxK c) (I : Sound c d F) {iter : Expr} (h : wITX c d F sc target iter ρ σ G) : ITX c sc d target iter ρ σ G := by
  unfold wITX at h
  cases e : itCall iter with
  | none => rw [e] at h; exact ITX_val ((I.E h).mono fun _ _ q => q.go)
  | some q =>
    rw [e] at h
    obtain ⟨p, p', rfl⟩ := itCall_e e
    obtain ⟨h1, h2⟩ := byName_ok K I (p := p) h
    exact ITX_call h1 (h2.mono fun _ _ q => q.mono fun _ _ q => ⟨q.1, q.2.go⟩)
theorem comps_ok (I : Sound c d F) {sc' : Sc} {elt : Expr} {K : St → Prop} {n : Nat} {T : List V → St → Prop} : ∀ {l acc : List V} {ρ : Vars} {σ : St}, wCOMPS F sc' elt x K n T l acc ρ σ → COMPS c sc' d elt x K n T l acc ρ σ
  | [], _, _, _, h => h
  | v :: r, acc, ρ, σ, h => (I.E h).mono fun _ _ q => ⟨q.1, q.2.1, q.2.2.1, comps_ok I q.2.2.2⟩
theorem compsF_ok (I : Sound c d F) {sc' : Sc} {elt tst : Expr} {K : St → Prop} {n : Nat} {T : List V → St → Prop} : ∀ {l acc : List V} {ρ : Vars} {σ : St}, wCOMPSF F sc' elt tst x K n T l acc ρ σ → COMPSF c sc' d elt tst x K n T l acc ρ σ
  | [], _, _, _, h => h
  | v :: r, acc, ρ, σ, h => (I.T h).mono fun b _ q => br_to q (fun q => (I.E q).mono fun _ _ q => ⟨q.1, q.2.1, q.2.2.1, compsF_ok I q.2.2.2⟩) fun q => ⟨q.1, compsF_ok I q.2⟩
theorem capt_ok {scope : Scope} : ∀ p ∈ capt scope ρ, get ρ p.1 = some p.2 := fun p m => by
  obtain ⟨y, _, e⟩ := List.mem_filterMap.mp m
  split at e
  · obtain ⟨v, e1, rfl⟩ := Option.map_eq_some_iff.mp e; exact e1
  · cases e
theorem gen1_e {gens : List Comprehension} {g : Gen1} (h : gen1 gens = some g) : gens = [⟨.Name g.x g.px, g.iter, g.ts, 0⟩] := by
  cases gens with
  | nil => cases h
  | cons k r => cases r with
    | cons => cases h
    | nil =>
      obtain ⟨t, iter, ts, a⟩ := k
      cases t with
      | Name x px =>
        have h : (if a = 0 then some (Gen1.mk x px iter ts) else none) = some g := h
        split at h
        · next e => cases h; rw [e]
        · cases h
      | _ => cases h
theorem lc_ok (K : CxK c) (I : Sound c d F) {elt : Expr} {g : Gen1} {scope : Scope} {P : Prop} {T : Nat → List V → St → Prop}
    (h1 : g.ts = [] → compB scope sc.scope g.x ((capt scope ρ).map (·.1)) = true → (∀ env x, foldedSetIterable g.iter env x = pure x) → ITX c sc d (.Name g.x g.px) g.iter ρ σ (fun l K σ₂ => K (σ₂ ++ [.list []]) ∧ COMPS c (compSc scope sc) d elt g.x K σ₂.length (T σ₂.length) l [] (capt scope ρ) (σ₂ ++ [.list []])) → P)
    (h2 : ∀ t, g.ts = [t] → compB scope sc.scope g.x ((capt scope ρ).map (·.1)) = true → (∀ env x, foldedSetIterable g.iter env x = pure x) → ITX c sc d (.Name g.x g.px) g.iter ρ σ (fun l K σ₂ => K (σ₂ ++ [.list []]) ∧ COMPSF c (compSc scope sc) d elt t g.x K σ₂.length (T σ₂.length) l [] (capt scope ρ) (σ₂ ++ [.list []])) → P)
    (h : wLC c d F sc elt g scope ρ σ T) : P := by
  obtain ⟨a2, a⟩ := and2 (ck_b h)
  obtain ⟨a, b⟩ := and2 a
  have k := ck_p h
  obtain ⟨y, py, iter, ts⟩ := g
  cases ts with
  | nil => exact h1 rfl a (isSet_fs b) ((itx_ok K I k).mono fun _ _ _ q => ⟨q.1, comps_ok I q.2⟩)
  | cons t ts => cases ts with
    | nil => exact h2 _ rfl a (isSet_fs b) ((itx_ok K I k).mono fun _ _ _ q => ⟨q.1, compsF_ok I q.2⟩)
    | cons u us => cases a2
end
end Mine
end
section
open PySem PySem.W PySem.Calls PyProof.Rows
set_option linter.unusedVariables false
set_option maxRecDepth 100000
namespace Mine
section
variable {c : Cx} {sc : Sc} {d : Nat} {ρ : Vars} {σ : St} {Q : Post} {R : Fl → Vars → St → Prop} {B : Bool → St → Prop} {F : Rec} {x : Str} {G : List V → (St → Prop) → St → Prop} {target : Expr}
theorem sE_ok (K : CxK c) (I : Sound c d F) {e : Expr} (h : sE c d F sc e ρ σ Q) : EV c sc d e ρ σ Q := by
  cases e with
  | Constant k _ _ =>
    cases k with
    | int i => exact EV_int h
    | str x => exact EV_str h
    | bool b => exact EV_bool h
    | none => exact EV_none h
    | _ => exact h.elim
  | Name x p => obtain ⟨v, e, q⟩ := oS_e (ck_p h); exact name_ok K (ck_b h) e q
  | BinOp => exact EV_BinOp ((I.E h).mono fun _ _ q => (I.E q).mono fun _ _ q => wBIN_ok q)
  | UnaryOp op e _ =>
    cases op with
    | USub => exact EV_neg (I.E h)
    | Not => exact EV_not ((I.E h).mono fun _ _ q => wTRU_ok q)
    | _ => exact h.elim
  | Compare => exact cmp_ok I h
  | Tuple => exact EV_Tuple ((I.Es h).mono fun _ _ q => ⟨Nat.le_of_ble_eq_true (ck_b q), ck_p q⟩)
  | IfExp => exact EV_IfExp ((I.T h).mono fun b _ q => br_to q I.E I.E)
  | Call => exact call_ok K I h
  | Attribute o name p => exact EV_Attr ((I.E (ck_p h)).mono fun _ _ q => q.go) (fun env => by
      show (do
        let o ← attributeBase _ _ env (eval _ env)
        _) = _
      rw [attr_base (ck_b h)])
  | Subscript => exact sub_ok K I h
  | ListComp elt gens scope pos =>
    obtain ⟨g, e, h'⟩ := oS_e h
    clear h
    obtain rfl := gen1_e e
    refine lc_ok K I (fun e a b q => ?_) (fun t e a b q => ?_) h'
    · rw [e]; exact EV_LC a capt_ok q b
    · rw [e]; exact EV_LCF a capt_ok q b
  | _ => exact h.go
theorem sEs_ok (I : Sound c d F) {es : List Expr} {Q : List V → St → Prop} (h : sEs F sc es ρ σ Q) : EVs c sc d es ρ σ Q := by
  cases es with
  | nil => exact EVs_nil h
  | cons => exact EVs_cons ((I.E (ck_p h)).mono fun _ _ q => I.Es q) (isSt_se (ck_b h))
theorem sT_ok (I : Sound c d F) {e : Expr} (h : sT c d F sc e ρ σ B) : ET c sc d e ρ σ B := by
  have val : ∀ {e : Expr}, (∀ env, PySem.isTrue e env (eval e env) = (do
          let v ← eval e env
          standAt e.pos
          holding [v] (truthy v))) → ((F sc).E e ρ σ fun v σ₁ => wTRU c d v σ₁ B) → ET c sc d e ρ σ B := fun he h => ET_val ((I.E h).mono fun _ _ q => wTRU_ok q) he
  cases e with
  | UnaryOp op e' p => cases op with
    | Not => exact ET_not (I.T h)
    | _ => exact h.elim
  | BoolOp => exact ET_BoolOp (I.A h)
  | Compare => exact tcmp_ok I h
  | IfExp => exact h.elim
  | _ => exact val (fun _ => rfl) h
theorem sA_ok (I : Sound c d F) {op : BoolOp} {es : List Expr} (h : sA F sc op es ρ σ B) : ETA c sc d op es ρ σ B := by
  cases es with
  | nil => cases op with
    | And => exact ETA_And_nil h
    | Or => exact ETA_Or_nil h
  | cons => cases op with
    | And => exact ETA_And_cons ((I.T h).mono fun b _ q => br_to q I.A fun q => q)
    | Or => exact ETA_Or_cons ((I.T h).mono fun b _ q => br_to q (fun q => q) I.A)
theorem bind_ok {v : V} {k : Vars → Prop} (h : wBind sc target v ρ k) : ∃ ρ₁, AS sc target v ρ ρ₁ ∧ k ρ₁ := by
  cases target with
  | Name => exact ⟨_, .name (kindB_ok (ck_b h)), ck_p h⟩
  | Tuple =>
    obtain ⟨xs, e, h⟩ := oS_e h
    have a := kindB_all (ck_b h)
    have g := ck_p h
    cases v with
    | tup vs => exact ⟨_, .tup e g.1 a, g.2⟩
    | lst vs => exact ⟨_, .lst e g.1 a, g.2⟩
    | _ => exact g.elim
  | _ => exact h.elim
theorem env_kinds (hf : sc.scope.kind = .function) {env : Env} (he : env.scope = sc.scope) : env.blockKind = .function ∧ ∀ id, env.kindOf id = sc.scope.names.lookup id :=
  ⟨by unfold Env.blockKind; rw [he, hf]; rfl, fun id => by unfold Env.kindOf; rw [he]⟩
theorem ite_none {α : Type} {p : Prop} [Decidable p] {a : Option α} {x : α} (h : (if p then none else a) = some x) : ¬ p ∧ a = some x := by
  by_cases hp : p
  · rw [if_pos hp] at h; cases h
  · rw [if_neg hp] at h; exact ⟨hp, h⟩
theorem swapB_ok {ts vs : List Expr} {xs : List Str} {k k' : Nat} {p p' : Pos} (h : swapB sc ts vs = some xs) (hf : sc.scope.kind = .function) : (∀ env : Env, env.scope = sc.scope → swappedStores [.Tuple ts k p] (.Tuple vs k' p') env = pure (some xs)) ∧ ∀ x ∈ xs, kindOk sc x := by
  unfold swapB at h
  obtain ⟨h1, h⟩ := ite_none h
  obtain ⟨h2, h⟩ := ite_none h
  obtain ⟨h3, h⟩ := ite_none h
  obtain ⟨h4, h⟩ := ite_none h
  obtain ⟨h5, h⟩ := ite_none h
  cases h
  refine ⟨fun env he => ?_, fun y hy => ?_⟩
  · obtain ⟨ek, eo⟩ := env_kinds hf he
    unfold swappedStores
    simp only [ek, eo]
    refine (if_neg (fun e => h1 ?_)).trans ?_
    · simpa using e
    refine (if_neg h2).trans ?_
    refine (if_neg h3).trans ?_
    refine (if_neg h4).trans ?_
    refine (if_neg h5).trans ?_
    rfl
  · obtain ⟨e, _, hm⟩ := List.mem_filterMap.mp hy
    cases e with
    | Name id q =>
      have hm : (if sc.scope.names.lookup id == some .local && q.line == (ts.head?.map (·.pos.line)).getD 0 then some id else none) = some y := hm
      split at hm
      · next hc => cases hm; exact .inl (beq_iff_eq.mp (and2 hc).1)
      · cases hm
    | _ => cases hm
theorem tup_ok (K : CxK c) (I : Sound c d F) {es : List Expr} {k : Nat} {tp : Pos} {value : Expr} {pos : Pos} (h : sTup F sc es k tp value ρ σ R) : EX c sc d (.Assign [.Tuple es k tp] value pos) ρ σ R := by
  cases ht : isTup value with
  | true =>
    cases value with
    | Tuple vs k' p' =>
      obtain ⟨xs, e, h⟩ := oS_e h
      intro A env s θ r X I' F'
      obtain ⟨h1, h2⟩ := swapB_ok e X.kind (k := k) (p := tp) (k' := k') (p' := p')
      exact EX_AssignSw h2 (EV_Tuple ((I.Es h).mono fun ws _ q => ⟨Nat.le_of_ble_eq_true (ck_b q), _, rfl, (ck_p q).1, (ck_p q).2⟩)) h1 (fun env => rfl) A env s θ r X I' F'
    | _ => cases ht
  | false =>
    have g : oS (namesOf es) fun xs => ck (xs.all (kindB sc)) ((F sc).E value ρ σ fun v σ₁ => tupPost v xs (fun ws => R .next (binds xs ws ρ) σ₁) σ₁) := by cases value <;> first | exact h | cases ht
    have hsw : ∀ env : Env, env.scope = sc.scope → swappedStores [.Tuple es k tp] value env = pure none := fun env _ => by cases value <;> first | rfl | cases ht
    have hc : ∀ env, swapsWithSole [.Tuple es k tp] value pos.line env = pure false := fun env => by cases value <;> rfl
    obtain ⟨xs, e, g⟩ := oS_e g
    have a := kindB_all (ck_b g)
    have g := I.E (ck_p g)
    clear h ht
    intro A env s θ r X I' F'
    refine Assign_Tuple (wpAny_mono (g A env s θ r X I' F') (fun v' s₁ h₁ => ?_) fun _ _ x => x) (hc env) (hsw env X.scope)
    obtain ⟨v, σ₁, θ₁, I₁, g₁, rv, q⟩ := h₁
    have F₁ := F'.grow I'.tupOut g₁
    have gen : (∃ ws, isList σ₁ v ws ∧ xs.length = ws.length ∧ R .next (binds xs ws ρ) σ₁) → wpAny (model c.prog c.w) A (assign (.Tuple es k tp) env v') (fun _ s' => OkS c env s θ R .next s') NoE s₁ := by
      rintro ⟨ws, hL, hl, q⟩
      obtain ⟨ad, xs', n', rfl, hL', hr⟩ := I₁.asL hL rv
      rw [arm_assign_Tuple]
      refine wpAny_bind (wpAny_standAt (unpack_list r.handled hL'.isList ?_ (assignEach_noStar env es e) fun h' e' => ?_))
      · rw [assignEach_len, namesOf_len e, hl, hr.length]; simp
      · obtain ⟨I'', F'', g'', q''⟩ := I₁.ext F₁ e'
        exact inOrder_ok X (stl_names e) ws _ ρ _ I'' F'' (by simpa using hr.mapM q'') hl a fun s₂ I₂ F₂ g₂ => ⟨.next, _, σ₁, θ₁, I₂, F₂, GrowX.trans F₁.ownX g₁.x (GrowX.trans F''.ownX g''.x g₂), .next, q⟩
    cases v with
    | tup ws => exact assign_ok X I₁ F₁ r.handled (.tup e q.1 a) rv fun s₂ I₂ F₂ g₂ => ⟨.next, _, σ₁, θ₁, I₂, F₂, GrowX.trans F₁.ownX g₁.x g₂, .next, q.2⟩
    | _ => exact gen q
theorem swapC_ok {t : Str} {tp : Pos} {elt : Expr} {gens : List Comprehension} {scope : Scope} {cp : Pos} {line : Nat} (h : swapC sc t tp scope cp = true) (hf : sc.scope.kind = .function) (env : Env) (he : env.scope = sc.scope) : swapsWith (.ListComp elt gens scope cp) (some (.Name t tp)) line env = pure true := by
  obtain ⟨ek, eo⟩ := env_kinds hf he
  show (pure (env.blockKind == .function && env.kindOf t == some .local && tp.line == cp.line && !(scope.names.any fun (n, k) => n == t && (k == .local || k == .cell))) : Sem Bool) = pure true
  rw [ek, eo]
  exact congrArg pure h
theorem assign_sok (K : CxK c) (I : Sound c d F) {t value : Expr} {pos : Pos} (h : sAssign c d F sc t value pos ρ σ R) : EX c sc d (.Assign [t] value pos) ρ σ R := by
  cases t with
  | Name x xp =>
    cases hl : isComp value with
    | false =>
      have g : ck (!isComp value && kindB sc x) ((F sc).E value ρ σ fun v σ₁ => R .next (put ρ x v) σ₁) := by cases value <;> first | exact h | cases hl
      obtain ⟨h1, h2⟩ := and2 (ck_b g)
      exact EX_Assign (I.E (ck_p g)) (kindB_ok h2) (isComp_sw h1 _ _)
    | true =>
      cases value with
      | ListComp elt gens scope cp =>
        obtain ⟨g, e, h'⟩ := oS_e h
        clear h
        obtain rfl := gen1_e e
        have hc := ck_b h'
        have hk : kindOk sc x := .inl (beq_iff_eq.mp (and2 (and2 hc).1).1)
        intro A env s θ r X I' F'
        refine lc_ok K I (P := EX c sc d _ ρ σ R) (fun e a b q => ?_) (fun t e a b q => ?_) (ck_p h') A env s θ r X I' F'
        · rw [e]; exact EX_LC hk a capt_ok q (fun env he => swapC_ok hc X.kind env he) b
        · rw [e]; exact EX_LCF hk a capt_ok q (fun env he => swapC_ok hc X.kind env he) b
      | SetComp => exact (h : False).elim
      | DictComp => exact (h : False).elim
      | _ => cases hl
  | Subscript o i ip =>
    obtain ⟨h1, h2⟩ := and2 (ck_b h)
    exact EX_AssignSub ((I.E (ck_p h)).mono fun _ _ q => (I.E q).mono fun _ _ q => (I.E q).mono fun _ _ q => q.go) (isComp_sw h1 _ _)
  | Attribute => exact EX_AssignAttr ((I.E (ck_p h)).mono fun _ _ q => (I.E q).mono fun _ _ q => q.go) K.ok (isComp_sw (ck_b h) _ _)
  | Tuple => exact tup_ok K I h
  | _ => exact h.go
theorem aug_ok (I : Sound c d F) {t : Expr} {op : Operator} {value : Expr} {pos : Pos} (h : sAug F sc t op value ρ σ R) : EX c sc d (.AugAssign t op value pos) ρ σ R := by
  cases t with
  | Name x p => cases op with
    | Add =>
      obtain ⟨h1, h2⟩ := and2 (ck_b h)
      obtain ⟨u, e, a, rfl, g⟩ := oS_e (ck_p h)
      exact EX_AugAdd e (kindB_ok h1) (I.E g) (badN_d h2).2
    | _ => exact h.elim
  | _ => exact h.elim
theorem sS_ok (K : CxK c) (I : Sound c d F) {st : Stmt} (h : sS c d F sc st ρ σ R) : EX c sc d st ρ σ R := by
  cases st with
  | Return e _ => cases e with
    | some e => exact EX_Return (I.E h)
    | none => exact EX_Return_none h
  | If => exact EX_If ((I.T h).mono fun b _ q => br_to q I.Ss I.Ss)
  | Assign ts value pos => cases ts with
    | nil => exact h.elim
    | cons t ts => cases ts with
      | nil => exact assign_sok K I h
      | cons => exact h.elim
  | Expr => exact EX_Expr (I.E (ck_p h)) (isComp_sw (ck_b h) _ _)
  | AugAssign => exact aug_ok I h
  | _ => exact h.go
theorem sSs_ok (I : Sound c d F) {l : List Stmt} (h : sSs F sc l ρ σ R) : EXs c sc d l ρ σ R := by
  cases l with
  | nil => exact EXs_nil h
  | cons => exact EXs_cons ((I.S h).mono fun f _ _ q => by
      cases f with
      | next => exact I.Ss q
      | brk => exact q
      | cont => exact q
      | ret v => exact q)
theorem wp_ok (K : CxK c) : ∀ n, Sound c d (wp c d n)
  | 0 => ⟨fun h => h.elim, fun h => h.elim, fun h => h.elim, fun h => h.elim, fun h => h.elim, fun h => h.elim⟩
  | n + 1 => ⟨fun h => sE_ok K (wp_ok K n) h, fun h => sEs_ok (wp_ok K n) h, fun h => sT_ok (wp_ok K n) h, fun h => sA_ok (wp_ok K n) h, fun h => sS_ok K (wp_ok K n) h, fun h => sSs_ok (wp_ok K n) h⟩
theorem Ca_def (K : CxK c) {a : Addr} {fd : FuncData} {ps : List Str} {body : List Stmt} {vs : List V} (f : FnAt c a fd ps body) (hlen : vs.length = ps.length)
    (h : ((wp c d 60) ⟨fd.scope, fd.code⟩).Ss body (binds ps vs []) σ fun fl _ σ' => Q (retOf fl) σ') : Ca c (d + 1) (.raw (.ref a)) vs σ Q := ⟨CALL_def K.ok f hlen (Nat.le_add_left 1 d) ((wp_ok K 60).Ss h)⟩
def Sub (ρ₀ ρ : Vars) : Prop := ∀ x v, get ρ₀ x = some v → get ρ x = some v
noncomputable def keep : List Str → Vars → Vars
  | [], _ => []
  | x :: ns, ρ => match get ρ x with | some v => (x, v) :: keep ns ρ | none => keep ns ρ
theorem keep_sub : ∀ (ns : List Str) (ρ : Vars), Sub (keep ns ρ) ρ
  | [], _ => fun _ _ h => nomatch h
  | x :: ns, ρ => fun y v h => by
    unfold keep at h
    cases e : get ρ x with
    | none => rw [e] at h; exact keep_sub ns ρ y v h
    | some u =>
      rw [e] at h
      have h : (if x = y then some u else get (keep ns ρ) y) = some v := h
      by_cases hy : x = y
      · rw [if_pos hy] at h; rw [← hy, e]; exact h
      · rw [if_neg hy] at h; exact keep_sub ns ρ y v h
theorem Sub.put {ρ₀ : Vars} (h : Sub ρ₀ ρ) (v : V) : Sub (put ρ₀ x v) (put ρ x v) := fun y u e => by
  rw [get_put] at e ⊢
  by_cases hy : x = y
  · rw [if_pos hy] at e ⊢; exact e
  · rw [if_neg hy] at e ⊢; exact h y u e
theorem Sub.binds : ∀ (xs : List Str) (vs : List V) {ρ₀ ρ : Vars}, Sub ρ₀ ρ → Sub (binds xs vs ρ₀) (binds xs vs ρ)
  | [], _, _, _, h => h
  | _ :: _, [], _, _, h => h
  | x :: xs, v :: vs, _, _, h => Sub.binds xs vs (h.put v)
theorem FrA.sub {h : Heap} {θ : List Addr} {env : Env} {ρ₀ : Vars} (F : FrA c h θ env ρ) (s : Sub ρ₀ ρ) : FrA c h θ env ρ₀ := by
  obtain ⟨⟨m, cm, h1, h2, h3⟩, a, b, e, f⟩ := F
  exact ⟨⟨m, cm, h1, h2, fun x v g => h3 x v (s x v g)⟩, a, b, e, f⟩
theorem EX.weakR {st : Stmt} (h : EX c sc d st ρ σ fun f ρ' σ' => ∃ ρ₀, Sub ρ₀ ρ' ∧ R f ρ₀ σ') : EX c sc d st ρ σ R := fun A env s θ r X I F =>
  wpAny_mono (h A env s θ r X I F) (fun _ _ ⟨v, ρ', σ', θ', a, b, x, y, ρ₀, q1, q2⟩ => ⟨v, ρ₀, σ', θ', a, b.sub q1, x, y, q2⟩) fun _ _ x => x
theorem AS.weak {v : V} {ρ₀ ρ₁ : Vars} (a : AS sc target v ρ₀ ρ₁) (h : Sub ρ₀ ρ) : ∃ ρ₂, AS sc target v ρ ρ₂ ∧ Sub ρ₁ ρ₂ := by
  cases a with
  | name a => exact ⟨_, .name a, h.put v⟩
  | tup a b e => exact ⟨_, .tup a b e, Sub.binds _ _ h⟩
  | lst a b e => exact ⟨_, .lst a b e, Sub.binds _ _ h⟩
def kLOOPS (c : Cx) (sc : Sc) (d : Nat) (ns : List Str) (target : Expr) (body : List Stmt) (K : St → Prop) (R : Fl → Vars → St → Prop) : List V → Vars → St → Prop
  | [], ρ, σ => R .next ρ σ
  | x :: r, ρ, σ => wBind sc target x ρ fun ρ₁ => ((wp c d 40) sc).Ss body ρ₁ σ (wNext (fun ρ' σ' => K σ' ∧ kLOOPS c sc d ns target body K R r (keep ns ρ') σ') R)
theorem kloops_ok (C : CxK c) {ns : List Str} {body : List Stmt} {K : St → Prop} : ∀ {l : List V} {ρ₀ ρ : Vars} {σ : St}, Sub ρ₀ ρ → kLOOPS c sc d ns target body K R l ρ₀ σ → LOOPS c sc d target body K (fun f ρ' σ' => ∃ ρ₀, Sub ρ₀ ρ' ∧ R f ρ₀ σ') l ρ σ
  | [], _, _, _, s, h => ⟨_, s, h⟩
  | v :: r, ρ₀, ρ, σ, s, h => by
    obtain ⟨ρ₁, a, q⟩ := bind_ok h
    obtain ⟨ρ₂, a', s'⟩ := a.weak s
    refine ⟨ρ₂, a', fun A env st θ r' X I F => ((wp_ok C 40).Ss q).mono (fun f ρ' σ' q => ?_) A env st θ r' X I (F.sub s')⟩
    cases f with
    | next => exact ⟨q.1, kloops_ok C (keep_sub _ _) q.2⟩
    | cont => exact ⟨q.1, kloops_ok C (keep_sub _ _) q.2⟩
    | brk => exact ⟨_, fun _ _ e => e, q⟩
    | ret v => exact ⟨_, fun _ _ e => e, q⟩
theorem W_For (K : CxK c) (ns : List Str) {iter : Expr} {body : List Stmt} {pos : Pos} (h : ck (!isSet iter) (wITX c d (wp c d 40) sc target iter ρ σ fun l K σ' => kLOOPS c sc d ns target body K R l (keep ns ρ) σ')) : Ex c sc d (.For target iter body [] pos) ρ σ R :=
  ⟨EX.weakR (EX_For ((itx_ok K (wp_ok K 40) (ck_p h)).mono fun _ _ _ q => kloops_ok K (keep_sub _ _) q) (isSet_fs (ck_b h)))⟩
theorem W_While (K : CxK c) (ns : List Str) {test : Expr} {body : List Stmt} {pos : Pos} (J : Nat → Vars → St → Prop) (m : Nat) (h0 : J m (keep ns ρ) σ)
    (step : ∀ n' ρ σ, J n' ρ σ → ((wp c d 40) sc).T test ρ σ fun b σ₁ => br b (((wp c d 40) sc).Ss body ρ σ₁ (wNext (fun ρ' σ' => ∃ m, m < n' ∧ J m (keep ns ρ') σ') R)) (R .next ρ σ₁)) : Ex c sc d (.While test body [] pos) ρ σ R :=
  ⟨EX.weakR (EX_While (fun n ρ σ => ∃ ρ₀, Sub ρ₀ ρ ∧ J n ρ₀ σ) m ⟨_, keep_sub _ _, h0⟩ fun n' ρ σ j => by
    obtain ⟨ρ₀, s, j⟩ := j
    intro A env st θ r X I F
    refine ((wp_ok K 40).T (step n' ρ₀ σ j)).mono (fun b σ₁ q => ?_) A env st θ r X I (F.sub s)
    refine br_to q (fun q A env st θ r X I F => ((wp_ok K 40).Ss q).mono (fun f ρ' σ' q => ?_) A env st θ r X I (F.sub s)) fun q => ⟨_, s, q⟩
    cases f with
    | next => obtain ⟨m, h1, h2⟩ := q; exact ⟨m, h1, _, keep_sub _ _, h2⟩
    | cont => obtain ⟨m, h1, h2⟩ := q; exact ⟨m, h1, _, keep_sub _ _, h2⟩
    | brk => exact ⟨_, fun _ _ e => e, q⟩
    | ret v => exact ⟨_, fun _ _ e => e, q⟩)⟩
theorem W_List (K : CxK c) {es : List Expr} {pos : Pos} (h : ((wp c d 30) sc).Es es ρ σ fun vs σ₁ => ck (Nat.ble vs.length 1000) (Q (.loc σ₁.length) (σ₁ ++ [.list vs]))) : Ev c sc d (.List es pos) ρ σ Q := ⟨EV_List (((wp_ok K 30).Es h).mono fun _ _ q => ⟨Nat.le_of_ble_eq_true (ck_b q), ck_p q⟩)⟩
theorem W_ListF (K : CxK c) {es : List Expr} {pos : Pos} (h : ((wp c d 30) sc).Es es ρ σ fun vs σ₁ => ck (Nat.ble vs.length 1000) (Q (.lst vs) σ₁)) : Ev c sc d (.List es pos) ρ σ Q := ⟨EV_ListF (((wp_ok K 30).Es h).mono fun _ _ q => ⟨Nat.le_of_ble_eq_true (ck_b q), ck_p q⟩)⟩
end
end Mine
end
section
open PySem PySem.W PySem.Calls PyProof.Rows
set_option maxRecDepth 100000
set_option maxHeartbeats 0
set_option linter.unusedVariables false
namespace Mine
abbrev hL : OpenLaw := PySem.Challenge.rw_xm0046_01
abbrev hP : Program := hL.row.toRowW.prog
def hpos : Pos := ⟨0, 0, 0, 0⟩
def hst (i : Nat) : Stmt := match hP.main.body.drop i with | s :: _ => s | [] => .Pass hpos
noncomputable def hmb (i j : Nat) : Stmt := match hst i with | .ClassDef _ _ _ b _ _ _ _ _ _ _ => (match b.drop j with | s :: _ => s | [] => .Pass hpos) | s => s
noncomputable def hA : Stmt → Arguments | .FunctionDef _ a _ _ _ _ _ _ _ _ => a | _ => default
def hB : Stmt → List Stmt | .FunctionDef _ _ b _ _ _ _ _ _ _ => b | _ => []
noncomputable def hS : Stmt → Scope | .FunctionDef _ _ _ _ _ _ s _ _ _ => s | _ => default
noncomputable def hde (P : Params) (x : String) (t : Nat) (v : Value) : DictEntry := ⟨PyData.keyHash P (Str.ofString x), .str (Str.ofString x) t, v⟩
noncomputable def hvs (x : String) (t : Nat) : Value := .str (Str.ofString x) t
noncomputable def hodd {α : Type} : List α → List α | a :: _ :: r => a :: hodd r | [a] => [a] | [] => []
noncomputable def hev {α : Type} : List α → List α | _ :: b :: r => b :: hev r | _ => []
noncomputable def hmk : Nat → List Obj → BT
  | 0, _ => .nil
  | _ + 1, [] => .nil
  | n + 1, o :: r => .node o (hmk n (hodd r)) (hmk n (hev r))
noncomputable abbrev hmkT : List Obj → BT := hmk 12
noncomputable def hEnv : Env := { scope := hP.main.scope, locals := mainNs, globals := mainNs, cells := [], code := .ref 13, frame := some 14 }
noncomputable def hC : Code := .body (behindTheImports hP) hEnv
noncomputable abbrev hF : List Frame := [topFrame hpos]
abbrev hPc (a n N : Nat) (T : Params → BT) (m k : Nat) (q : Pos) (T' : Params → BT) (m' k' : Nat) (q' : Pos) : Prop := ∀ w : World,
  (fun os => PySem.W.Fast.tw10110043849684766642 PySem.W.Fast.tw14364793385576792824 hP w 11 (some (.ref 6)) 1 N { tree := T w.params, n := m, life := {}, gens := #[], drawn := {}, toks := k, os := os } (piecesOf (((behindTheImports hP).drop a).take n) hEnv hC q hF)) =
   fun os => some (Flow.next, ({ tree := T' w.params, n := m', life := {}, gens := #[], drawn := {}, toks := k', os := os } : SharedT), hC, q')
noncomputable def hents (o : Obj) : List DictEntry := match o.data with | .dict es _ => es.toList | _ => []
noncomputable def hflds (o : Obj) : List Value := match o.data with | .fields vs => vs.toList | _ => []
noncomputable def hdic (c : Value) (l : List DictEntry) (n : Nat) : Obj := ⟨c, none, .dict l.toArray n, #[]⟩
noncomputable def hfld (l : List Value) : Obj := ⟨.none, none, .fields l.toArray, #[]⟩
noncomputable def hset {α : Type} (l : List α) (i : Nat) (x : α) : List α := l.set i x
noncomputable def ht0  : Obj := (PySem.Obj.mk (PySem.Value.type "tuple") Option.none (PySem.Data.seq #[] 0) #[])
noncomputable def o11 : Obj := ht0 
noncomputable def o12 : Obj := (PySem.Obj.mk PySem.Value.none Option.none (PySem.Data.fields #[]) #[])
noncomputable def ht2 (a0 : String) (a1 : Nat) (a3 : Nat) (a5 : Nat) (a6 : Int) (a16 : Nat) (a19 : Nat) (a20 : Int) (a25 : Nat) : Obj := (PySem.Obj.mk (PySem.Value.type "code") Option.none (PySem.Data.fields #[(hvs a0 a1), (hvs a0 a3), (hvs "/claim/cut.py" a5), (PySem.Value.int a6 0), (PySem.Value.int 0 0), (PySem.Value.int 0 0), (PySem.Value.int 0 0), (PySem.Value.int 0 0), (PySem.Value.ref a16), (PySem.Value.bool Bool.false), (PySem.Value.int 181 0), (PySem.Value.ref a19), PySem.Value.none, PySem.Value.none, PySem.Value.none, PySem.Value.none, (PySem.Value.int a20 0), (PySem.Value.int a6 0), (hvs "/claim/cut.py" a25)]) #[])
noncomputable def o13 : Obj := ht2 "<module>" 182 183 184 1 11 12 185 186
noncomputable def ht3 (a0 : Nat) (a2 : Nat) (a3 : String) (a4 : Nat) : Obj := (PySem.Obj.mk (PySem.Value.type "frame") Option.none PySem.Data.plain #[(Option.some (PySem.Value.ref a0)), (Option.some (PySem.Value.ref 3)), (Option.some (PySem.Value.ref a2)), Option.none, (Option.some (hvs a3 a4)), Option.none, (Option.some (PySem.Value.ref 0))])
noncomputable def o14 : Obj := ht3 13 3 "__main__" 164
noncomputable def o2 (P : Params) : Obj := (PySem.Obj.mk PySem.Value.none Option.none (PySem.Data.dict #[(hde P "type.__subclasses__.Exception.0" 223 (PySem.Value.int 34 0)), (hde P "type.__subclasses__.Exception.n" 224 (PySem.Value.int 1 0))] 2) #[])
noncomputable def o3 (P : Params) : Obj := hdic (.type "dict") ((hset (hents (boot_o_3 P)) 0 (hde P "__name__" 165 (hvs "basicplus.values" 187))) ++ [(hde P "MOST_TEXT" 190 (PySem.Value.int 255 189)), (hde P "MOST_EXPONENT" 192 (PySem.Value.int 99 191)), (hde P "BasicError" 226 (PySem.Value.ref 34)), (hde P "kind_of" 233 (PySem.Value.ref 44)), (hde P "figures_of" 242 (PySem.Value.ref 51)), (hde P "rounded_by" 253 (PySem.Value.ref 58))]) 15
noncomputable def o12v1 : Obj := (PySem.Obj.mk PySem.Value.none Option.none (PySem.Data.fields #[(PySem.Value.int 4 0), (PySem.Value.int 0 0), (PySem.Value.ref 21), (PySem.Value.int 10 0), (PySem.Value.int 0 0), (PySem.Value.ref 43), (PySem.Value.int 14 0), (PySem.Value.int 0 0), (PySem.Value.ref 50), (PySem.Value.int 20 0), (PySem.Value.int 0 0), (PySem.Value.ref 57)]) #[])
noncomputable def o15 : Obj := (PySem.Obj.mk (PySem.Value.type "tuple") Option.none (PySem.Data.seq #[(PySem.Value.type "Exception")] 0) #[])
noncomputable def o16 : Obj := (PySem.Obj.mk (PySem.Value.type "builtin_function_or_method") Option.none (PySem.Data.fields #[(PySem.Value.builtin "type.__prepare__"), (PySem.Value.type "type")]) #[])
noncomputable def o17 (P : Params) : Obj := (PySem.Obj.mk (PySem.Value.type "dict") Option.none (PySem.Data.dict #[(hde P "__module__" 200 (hvs "basicplus.values" 187)), (hde P "__qualname__" 202 (hvs "BasicError" 201)), (hde P "__firstlineno__" 204 (PySem.Value.int 4 203)), (hde P "__init__" 215 (PySem.Value.ref 31)), (hde P "__static_attributes__" 218 (PySem.Value.ref 32)), (hde P "__classcell__" 219 (PySem.Value.ref 18))] 6) #[])
noncomputable def o18 : Obj := (PySem.Obj.mk (PySem.Value.type "cell") Option.none (PySem.Data.cell (Option.some (PySem.Value.ref 34))) #[])
noncomputable def o19 : Obj := ht0 
noncomputable def ht11 (a0 : Int) (a4 : Nat) : Obj := (PySem.Obj.mk PySem.Value.none Option.none (PySem.Data.fields #[(PySem.Value.int a0 0), (PySem.Value.int 4 0), (PySem.Value.ref a4)]) #[])
noncomputable def o20 : Obj := ht11 6 30
noncomputable def o21 : Obj := ht2 "BasicError" 195 196 197 4 19 20 198 199
noncomputable def o22 : Obj := ht3 21 17 "basicplus.values" 187
noncomputable def ht12 (a0 : String) (a1 : Nat) : Obj := (PySem.Obj.mk (PySem.Value.type "tuple") Option.none (PySem.Data.seq #[(hvs a0 a1)] 0) #[])
noncomputable def o23 : Obj := ht12 "" 205
noncomputable def o24 : Obj := (PySem.Obj.mk (PySem.Value.type "tuple") Option.none (PySem.Data.seq #[(PySem.Value.ref 18)] 0) #[])
noncomputable def o25 : Obj := ht12 "__class__" 209
noncomputable def o26 : Obj := (PySem.Obj.mk PySem.Value.none Option.none (PySem.Data.fields #[]) #[])
noncomputable def ht14 (a0 : String) (a1 : Nat) (a2 : String) (a3 : Nat) (a4 : String) (a5 : Nat) : Obj := (PySem.Obj.mk (PySem.Value.type "tuple") Option.none (PySem.Data.seq #[(hvs a0 a1), (hvs a2 a3), (hvs a4 a5)] 0) #[])
noncomputable def o27 : Obj := ht14 "self" 210 "code" 211 "told" 212
noncomputable def o28 : Obj := ht0 
noncomputable def ht15 (a0 : String) (a1 : String) (a2 : Nat) (a3 : Nat) (a7 : Nat) : Obj := (PySem.Obj.mk PySem.Value.none Option.none (PySem.Data.func (PySem.FuncData.mk (Str.ofString a0) (Str.ofString a1) (hA (hmb a2 a3)) (PySem.FuncBody.stmts (hB (hmb a2 a3))) (hS (hmb a2 a7)) 0 [] PySem.Value.none PySem.Value.none PySem.Value.none PySem.Value.none Option.none PySem.Value.none PySem.Value.none 0)) #[])
noncomputable def o29 : Obj := ht15 "__init__" "BasicError.__init__" 3 0 0
noncomputable def ht16 (a0 : String) (a1 : Nat) (a2 : String) (a3 : Nat) (a5 : Nat) (a6 : Int) (a8 : Int) (a16 : Nat) (a19 : Nat) (a20 : Nat) (a21 : Nat) (a22 : Nat) (a23 : Int) (a28 : Nat) : Obj := (PySem.Obj.mk (PySem.Value.type "code") Option.none (PySem.Data.fields #[(hvs a0 a1), (hvs a2 a3), (hvs "/claim/cut.py" a5), (PySem.Value.int a6 0), (PySem.Value.int a8 0), (PySem.Value.int 0 0), (PySem.Value.int 0 0), (PySem.Value.int 3 0), (PySem.Value.ref a16), (PySem.Value.bool Bool.true), (PySem.Value.int 181 0), (PySem.Value.ref a19), PySem.Value.none, (PySem.Value.ref a20), (PySem.Value.ref a21), (PySem.Value.ref a22), (PySem.Value.int a23 0), (PySem.Value.int a6 0), (hvs "/claim/cut.py" a28)]) #[])
noncomputable def o30 : Obj := ht16 "__init__" 206 "BasicError.__init__" 207 208 6 3 25 26 27 28 29 213 214
noncomputable def o31 : Obj := (PySem.Obj.mk (PySem.Value.type "function") Option.none (PySem.Data.func (PySem.FuncData.mk (Str.ofString "__init__") (Str.ofString "BasicError.__init__") (hA (hmb 3 0)) (PySem.FuncBody.stmts (hB (hmb 3 0))) (hS (hmb 3 0)) 3 [((Str.ofString "__class__"), 18)] (PySem.Value.ref 23) PySem.Value.none PySem.Value.none (hvs "basicplus.values" 187) Option.none (PySem.Value.ref 30) (PySem.Value.ref 24) 0)) #[])
noncomputable def ht18 (a0 : String) (a1 : Nat) (a2 : String) (a3 : Nat) : Obj := (PySem.Obj.mk (PySem.Value.type "tuple") Option.none (PySem.Data.seq #[(hvs a0 a1), (hvs a2 a3)] 0) #[])
noncomputable def o32 : Obj := ht18 "code" 216 "told" 217
noncomputable def o33 (P : Params) : Obj := (PySem.Obj.mk (PySem.Value.type "dict") Option.none (PySem.Data.dict #[(hde P "__module__" 200 (hvs "basicplus.values" 187)), (hde P "__firstlineno__" 204 (PySem.Value.int 4 203)), (hde P "__init__" 215 (PySem.Value.ref 31)), (hde P "__static_attributes__" 218 (PySem.Value.ref 32)), (hde P "__weakref__" 221 (PySem.Value.ref 35)), (hde P "__doc__" 222 PySem.Value.none)] 4) #[])
noncomputable def o34 : Obj := (PySem.Obj.mk (PySem.Value.type "type") Option.none (PySem.Data.cls (PySem.ClassData.mk (Str.ofString "BasicError") [(PySem.Value.type "Exception")] [(PySem.Value.ref 34), (PySem.Value.type "Exception"), (PySem.Value.type "BaseException"), (PySem.Value.type "object")] 33 (Str.ofString "BasicError") Bool.true [] [] Bool.false Option.none Bool.false)) #[(Option.some (PySem.Value.ref 15)), Option.none, (Option.some (hvs "BasicError" 193)), (Option.some (hvs "BasicError" 201)), (Option.some (PySem.Value.builtin "Exception.__new__")), (Option.some (PySem.Value.bool Bool.true))])
noncomputable def ht21 (a1 : Nat) (a2 : Nat) : Obj := (PySem.Obj.mk (PySem.Value.type "getset_descriptor") Option.none (PySem.Data.fields #[(hvs "__weakref__" a1), (PySem.Value.ref a2), (PySem.Value.builtin "ExceptionGroup.__weakref__"), PySem.Value.none]) #[])
noncomputable def o35 : Obj := ht21 220 34
noncomputable def ht22 (a0 : Nat) : Obj := (PySem.Obj.mk (PySem.Value.type "super") Option.none (PySem.Data.fields #[(PySem.Value.ref a0), (PySem.Value.ref a0), (PySem.Value.ref a0)]) #[])
noncomputable def o36 : Obj := ht22 34
noncomputable def ht23 (a0 : Nat) : Obj := (PySem.Obj.mk (PySem.Value.type "builtin_function_or_method") Option.none (PySem.Data.fields #[(PySem.Value.builtin "object.__init_subclass__"), (PySem.Value.ref a0)]) #[])
noncomputable def o37 : Obj := ht23 34
noncomputable def o38 : Obj := ht0 
noncomputable def o39 : Obj := (PySem.Obj.mk PySem.Value.none Option.none (PySem.Data.fields #[]) #[])
noncomputable def o40 : Obj := ht12 "value" 230
noncomputable def o41 : Obj := ht0 
noncomputable def ht24 (a0 : String) (a2 : Nat) (a4 : Nat) : Obj := (PySem.Obj.mk PySem.Value.none Option.none (PySem.Data.func (PySem.FuncData.mk (Str.ofString a0) (Str.ofString a0) (hA (hst a2)) (PySem.FuncBody.stmts (hB (hst a2))) (hS (hst a4)) 0 [] PySem.Value.none PySem.Value.none PySem.Value.none PySem.Value.none Option.none PySem.Value.none PySem.Value.none 0)) #[])
noncomputable def o42 : Obj := ht24 "kind_of" 4 4
noncomputable def o43 : Obj := ht16 "kind_of" 227 "kind_of" 228 229 10 1 38 39 40 41 42 231 232
noncomputable def ht25 (a0 : String) (a2 : Nat) (a4 : Nat) (a6 : String) (a7 : Nat) (a8 : Nat) : Obj := (PySem.Obj.mk (PySem.Value.type "function") Option.none (PySem.Data.func (PySem.FuncData.mk (Str.ofString a0) (Str.ofString a0) (hA (hst a2)) (PySem.FuncBody.stmts (hB (hst a2))) (hS (hst a4)) 3 [] PySem.Value.none PySem.Value.none PySem.Value.none (hvs a6 a7) Option.none (PySem.Value.ref a8) PySem.Value.none 0)) #[])
noncomputable def o44 : Obj := ht25 "kind_of" 4 4 "basicplus.values" 187 43
noncomputable def o45 : Obj := ht0 
noncomputable def o46 : Obj := (PySem.Obj.mk PySem.Value.none Option.none (PySem.Data.fields #[]) #[])
noncomputable def o47 : Obj := ht14 "number" 237 "many" 238 "bound" 239
noncomputable def o48 : Obj := ht0 
noncomputable def o49 : Obj := ht24 "figures_of" 5 5
noncomputable def o50 : Obj := ht16 "figures_of" 234 "figures_of" 235 236 14 1 45 46 47 48 49 240 241
noncomputable def o51 : Obj := ht25 "figures_of" 5 5 "basicplus.values" 187 50
noncomputable def o52 : Obj := ht0 
noncomputable def o53 : Obj := (PySem.Obj.mk PySem.Value.none Option.none (PySem.Data.fields #[]) #[])
noncomputable def ht26 (a0 : String) (a1 : Nat) (a2 : String) (a3 : Nat) (a4 : String) (a5 : Nat) (a6 : String) (a7 : Nat) (a8 : String) (a9 : Nat) : Obj := (PySem.Obj.mk (PySem.Value.type "tuple") Option.none (PySem.Data.seq #[(hvs a0 a1), (hvs a2 a3), (hvs a4 a5), (hvs a6 a7), (hvs a8 a9)] 0) #[])
noncomputable def o54 : Obj := ht26 "number" 246 "places" 247 "unit" 248 "found" 249 "rest" 250
noncomputable def o55 : Obj := ht0 
noncomputable def o56 : Obj := ht24 "rounded_by" 6 6
noncomputable def o57 : Obj := ht16 "rounded_by" 243 "rounded_by" 244 245 20 2 52 53 54 55 56 251 252
noncomputable def o58 : Obj := ht25 "rounded_by" 6 6 "basicplus.values" 187 57
noncomputable def o3v1 (P : Params) : Obj := hdic (.type "dict") ((hset (hents (o3 P)) 0 (hde P "__name__" 165 (hvs "basicplus.decimals" 337))) ++ [(hde P "made" 265 (PySem.Value.ref 65)), (hde P "whole_near" 275 (PySem.Value.ref 72)), (hde P "fits" 283 (PySem.Value.ref 79)), (hde P "whole_of" 292 (PySem.Value.ref 86)), (hde P "decimal_of" 300 (PySem.Value.ref 93)), (hde P "checked_text" 307 (PySem.Value.ref 100)), (hde P "is_nought" 314 (PySem.Value.ref 107)), (hde P "is_true" 321 (PySem.Value.ref 114)), (hde P "truth" 328 (PySem.Value.ref 121)), (hde P "sign_of" 336 (PySem.Value.ref 128)), (hde P "ONE" 341 (PySem.Value.ref 129)), (hde P "MOST_POWER" 343 (PySem.Value.int 9999 342)), (hde P "d_negated" 350 (PySem.Value.ref 136)), (hde P "alike" 359 (PySem.Value.ref 143))]) 29
noncomputable def o12v2 : Obj := hfld ((hflds o12v1) ++ [(PySem.Value.int 30 0), (PySem.Value.int 0 0), (PySem.Value.ref 64), (PySem.Value.int 45 0), (PySem.Value.int 0 0), (PySem.Value.ref 71), (PySem.Value.int 51 0), (PySem.Value.int 0 0), (PySem.Value.ref 78), (PySem.Value.int 53 0), (PySem.Value.int 0 0), (PySem.Value.ref 85), (PySem.Value.int 60 0), (PySem.Value.int 0 0), (PySem.Value.ref 92), (PySem.Value.int 64 0), (PySem.Value.int 0 0), (PySem.Value.ref 99), (PySem.Value.int 68 0), (PySem.Value.int 0 0), (PySem.Value.ref 106), (PySem.Value.int 72 0), (PySem.Value.int 0 0), (PySem.Value.ref 113), (PySem.Value.int 74 0), (PySem.Value.int 0 0), (PySem.Value.ref 120), (PySem.Value.int 76 0), (PySem.Value.int 0 0), (PySem.Value.ref 127), (PySem.Value.int 84 0), (PySem.Value.int 0 0), (PySem.Value.ref 135), (PySem.Value.int 86 0), (PySem.Value.int 0 0), (PySem.Value.ref 142)])
noncomputable def o59 : Obj := ht0 
noncomputable def o60 : Obj := (PySem.Obj.mk PySem.Value.none Option.none (PySem.Data.fields #[]) #[])
noncomputable def ht29 (a0 : String) (a1 : Nat) (a2 : String) (a3 : Nat) (a4 : String) (a5 : Nat) (a6 : String) (a7 : Nat) (a8 : String) (a9 : Nat) (a10 : String) (a11 : Nat) : Obj := (PySem.Obj.mk (PySem.Value.type "tuple") Option.none (PySem.Data.seq #[(hvs a0 a1), (hvs a2 a3), (hvs a4 a5), (hvs a6 a7), (hvs a8 a9), (hvs a10 a11)] 0) #[])
noncomputable def o61 : Obj := ht29 "coefficient" 257 "exponent" 258 "digits" 259 "size" 260 "more" 261 "first" 262
noncomputable def o62 : Obj := ht0 
noncomputable def o63 : Obj := ht24 "made" 7 7
noncomputable def o64 : Obj := ht16 "made" 254 "made" 255 256 30 3 59 60 61 62 63 263 264
noncomputable def o65 : Obj := ht25 "made" 7 7 "basicplus.values" 187 64
noncomputable def o66 : Obj := ht0 
noncomputable def o67 : Obj := (PySem.Obj.mk PySem.Value.none Option.none (PySem.Data.fields #[]) #[])
noncomputable def ht30 (a0 : String) (a1 : Nat) (a2 : String) (a3 : Nat) (a4 : String) (a5 : Nat) (a6 : String) (a7 : Nat) : Obj := (PySem.Obj.mk (PySem.Value.type "tuple") Option.none (PySem.Data.seq #[(hvs a0 a1), (hvs a2 a3), (hvs a4 a5), (hvs a6 a7)] 0) #[])
noncomputable def o68 : Obj := ht30 "value" 269 "coefficient" 270 "exponent" 271 "size" 272
noncomputable def o69 : Obj := ht0 
noncomputable def o70 : Obj := ht24 "whole_near" 8 8
noncomputable def o71 : Obj := ht16 "whole_near" 266 "whole_near" 267 268 45 1 66 67 68 69 70 273 274
noncomputable def o72 : Obj := ht25 "whole_near" 8 8 "basicplus.values" 187 71
noncomputable def o73 : Obj := ht0 
noncomputable def o74 : Obj := (PySem.Obj.mk PySem.Value.none Option.none (PySem.Data.fields #[]) #[])
noncomputable def o75 : Obj := ht18 "number" 279 "bits" 280
noncomputable def o76 : Obj := ht0 
noncomputable def o77 : Obj := ht24 "fits" 9 9
noncomputable def o78 : Obj := ht16 "fits" 276 "fits" 277 278 51 2 73 74 75 76 77 281 282
noncomputable def o79 : Obj := ht25 "fits" 9 9 "basicplus.values" 187 78
noncomputable def o80 : Obj := ht0 
noncomputable def o81 : Obj := (PySem.Obj.mk PySem.Value.none Option.none (PySem.Data.fields #[]) #[])
noncomputable def o82 : Obj := ht14 "value" 287 "bits" 288 "number" 289
noncomputable def o83 : Obj := ht0 
noncomputable def o84 : Obj := ht24 "whole_of" 10 10
noncomputable def o85 : Obj := ht16 "whole_of" 284 "whole_of" 285 286 53 2 80 81 82 83 84 290 291
noncomputable def o86 : Obj := ht25 "whole_of" 10 10 "basicplus.values" 187 85
noncomputable def o87 : Obj := ht0 
noncomputable def o88 : Obj := (PySem.Obj.mk PySem.Value.none Option.none (PySem.Data.fields #[]) #[])
noncomputable def o89 : Obj := ht18 "value" 296 "digits" 297
noncomputable def o90 : Obj := ht0 
noncomputable def o91 : Obj := ht24 "decimal_of" 11 11
noncomputable def o92 : Obj := ht16 "decimal_of" 293 "decimal_of" 294 295 60 2 87 88 89 90 91 298 299
noncomputable def o93 : Obj := ht25 "decimal_of" 11 11 "basicplus.values" 187 92
noncomputable def o94 : Obj := ht0 
noncomputable def o95 : Obj := (PySem.Obj.mk PySem.Value.none Option.none (PySem.Data.fields #[]) #[])
noncomputable def o96 : Obj := ht12 "text" 304
noncomputable def o97 : Obj := ht0 
noncomputable def o98 : Obj := ht24 "checked_text" 12 12
noncomputable def o99 : Obj := ht16 "checked_text" 301 "checked_text" 302 303 64 1 94 95 96 97 98 305 306
noncomputable def o100 : Obj := ht25 "checked_text" 12 12 "basicplus.values" 187 99
noncomputable def o101 : Obj := ht0 
noncomputable def o102 : Obj := (PySem.Obj.mk PySem.Value.none Option.none (PySem.Data.fields #[]) #[])
noncomputable def o103 : Obj := ht12 "value" 311
noncomputable def o104 : Obj := ht0 
noncomputable def o105 : Obj := ht24 "is_nought" 13 31
noncomputable def o106 : Obj := ht16 "is_nought" 308 "is_nought" 309 310 68 1 101 102 103 104 105 312 313
noncomputable def o107 : Obj := ht25 "is_nought" 13 31 "basicplus.values" 187 106
noncomputable def o108 : Obj := ht0 
noncomputable def o109 : Obj := (PySem.Obj.mk PySem.Value.none Option.none (PySem.Data.fields #[]) #[])
noncomputable def o110 : Obj := ht12 "value" 318
noncomputable def o111 : Obj := ht0 
noncomputable def o112 : Obj := ht24 "is_true" 14 14
noncomputable def o113 : Obj := ht16 "is_true" 315 "is_true" 316 317 72 1 108 109 110 111 112 319 320
noncomputable def o114 : Obj := ht25 "is_true" 14 14 "basicplus.values" 187 113
noncomputable def o115 : Obj := ht0 
noncomputable def o116 : Obj := (PySem.Obj.mk PySem.Value.none Option.none (PySem.Data.fields #[]) #[])
noncomputable def o117 : Obj := ht12 "is_so" 325
noncomputable def o118 : Obj := ht0 
noncomputable def o119 : Obj := ht24 "truth" 15 15
noncomputable def o120 : Obj := ht16 "truth" 322 "truth" 323 324 74 1 115 116 117 118 119 326 327
noncomputable def o121 : Obj := ht25 "truth" 15 15 "basicplus.values" 187 120
noncomputable def o122 : Obj := ht0 
noncomputable def o123 : Obj := (PySem.Obj.mk PySem.Value.none Option.none (PySem.Data.fields #[]) #[])
noncomputable def o124 : Obj := ht18 "value" 332 "size" 333
noncomputable def o125 : Obj := ht0 
noncomputable def o126 : Obj := ht24 "sign_of" 16 16
noncomputable def o127 : Obj := ht16 "sign_of" 329 "sign_of" 330 331 76 1 122 123 124 125 126 334 335
noncomputable def o128 : Obj := ht25 "sign_of" 16 16 "basicplus.values" 187 127
noncomputable def o129 : Obj := (PySem.Obj.mk (PySem.Value.type "tuple") Option.none (PySem.Data.seq #[(PySem.Value.int 1 339), (PySem.Value.int 0 340)] 0) #[])
noncomputable def o130 : Obj := ht0 
noncomputable def o131 : Obj := (PySem.Obj.mk PySem.Value.none Option.none (PySem.Data.fields #[]) #[])
noncomputable def o132 : Obj := ht12 "a" 347
noncomputable def o133 : Obj := ht0 
noncomputable def o134 : Obj := ht24 "d_negated" 20 20
noncomputable def o135 : Obj := ht16 "d_negated" 344 "d_negated" 345 346 84 1 130 131 132 133 134 348 349
noncomputable def o136 : Obj := ht25 "d_negated" 20 20 "basicplus.decimals" 337 135
noncomputable def o137 : Obj := ht0 
noncomputable def o138 : Obj := (PySem.Obj.mk PySem.Value.none Option.none (PySem.Data.fields #[]) #[])
noncomputable def o139 : Obj := ht14 "a" 354 "b" 355 "least" 356
noncomputable def o140 : Obj := ht0 
noncomputable def o141 : Obj := ht24 "alike" 21 21
noncomputable def o142 : Obj := ht16 "alike" 351 "alike" 352 353 86 2 137 138 139 140 141 357 358
noncomputable def o143 : Obj := ht25 "alike" 21 21 "basicplus.decimals" 337 142
noncomputable def o3v2 (P : Params) : Obj := hdic (.type "dict") ((hset (hents (o3v1 P)) 0 (hde P "__name__" 165 (hvs "basicplus.arith" 444))) ++ [(hde P "d_add" 371 (PySem.Value.ref 150)), (hde P "d_sub" 380 (PySem.Value.ref 157)), (hde P "d_mul" 389 (PySem.Value.ref 164)), (hde P "with_rest" 398 (PySem.Value.ref 171)), (hde P "d_div" 412 (PySem.Value.ref 178)), (hde P "d_compare" 423 (PySem.Value.ref 185)), (hde P "d_power" 435 (PySem.Value.ref 192)), (hde P "square_or_end" 443 (PySem.Value.ref 199)), (hde P "is_whole" 452 (PySem.Value.ref 206)), (hde P "settled" 461 (PySem.Value.ref 213)), (hde P "whole_reckoned" 472 (PySem.Value.ref 220)), (hde P "cut_quotient" 481 (PySem.Value.ref 227))]) 41
noncomputable def o12v3 : Obj := hfld ((hflds o12v2) ++ [(PySem.Value.int 89 0), (PySem.Value.int 0 0), (PySem.Value.ref 149), (PySem.Value.int 92 0), (PySem.Value.int 0 0), (PySem.Value.ref 156), (PySem.Value.int 94 0), (PySem.Value.int 0 0), (PySem.Value.ref 163), (PySem.Value.int 96 0), (PySem.Value.int 0 0), (PySem.Value.ref 170), (PySem.Value.int 98 0), (PySem.Value.int 0 0), (PySem.Value.ref 177), (PySem.Value.int 106 0), (PySem.Value.int 0 0), (PySem.Value.ref 184), (PySem.Value.int 109 0), (PySem.Value.int 0 0), (PySem.Value.ref 191), (PySem.Value.int 123 0), (PySem.Value.int 0 0), (PySem.Value.ref 198), (PySem.Value.int 126 0), (PySem.Value.int 0 0), (PySem.Value.ref 205), (PySem.Value.int 130 0), (PySem.Value.int 0 0), (PySem.Value.ref 212), (PySem.Value.int 132 0), (PySem.Value.int 0 0), (PySem.Value.ref 219), (PySem.Value.int 136 0), (PySem.Value.int 0 0), (PySem.Value.ref 226)])
noncomputable def o144 : Obj := ht0 
noncomputable def o145 : Obj := (PySem.Obj.mk PySem.Value.none Option.none (PySem.Data.fields #[]) #[])
noncomputable def o146 : Obj := ht29 "a" 363 "b" 364 "digits" 365 "one" 366 "other" 367 "exponent" 368
noncomputable def o147 : Obj := ht0 
noncomputable def o148 : Obj := ht24 "d_add" 22 22
noncomputable def o149 : Obj := ht16 "d_add" 360 "d_add" 361 362 89 3 144 145 146 147 148 369 370
noncomputable def o150 : Obj := ht25 "d_add" 22 22 "basicplus.decimals" 337 149
noncomputable def o151 : Obj := ht0 
noncomputable def o152 : Obj := (PySem.Obj.mk PySem.Value.none Option.none (PySem.Data.fields #[]) #[])
noncomputable def o153 : Obj := ht14 "a" 375 "b" 376 "digits" 377
noncomputable def o154 : Obj := ht0 
noncomputable def o155 : Obj := ht24 "d_sub" 23 23
noncomputable def o156 : Obj := ht16 "d_sub" 372 "d_sub" 373 374 92 3 151 152 153 154 155 378 379
noncomputable def o157 : Obj := ht25 "d_sub" 23 23 "basicplus.decimals" 337 156
noncomputable def o158 : Obj := ht0 
noncomputable def o159 : Obj := (PySem.Obj.mk PySem.Value.none Option.none (PySem.Data.fields #[]) #[])
noncomputable def o160 : Obj := ht14 "a" 384 "b" 385 "digits" 386
noncomputable def o161 : Obj := ht0 
noncomputable def o162 : Obj := ht24 "d_mul" 24 24
noncomputable def o163 : Obj := ht16 "d_mul" 381 "d_mul" 382 383 94 3 158 159 160 161 162 387 388
noncomputable def o164 : Obj := ht25 "d_mul" 24 24 "basicplus.decimals" 337 163
noncomputable def o165 : Obj := ht0 
noncomputable def o166 : Obj := (PySem.Obj.mk PySem.Value.none Option.none (PySem.Data.fields #[]) #[])
noncomputable def o167 : Obj := ht14 "whole" 393 "rest" 394 "exponent" 395
noncomputable def o168 : Obj := ht0 
noncomputable def o169 : Obj := ht24 "with_rest" 25 25
noncomputable def o170 : Obj := ht16 "with_rest" 390 "with_rest" 391 392 96 3 165 166 167 168 169 396 397
noncomputable def o171 : Obj := ht25 "with_rest" 25 25 "basicplus.decimals" 337 170
noncomputable def o172 : Obj := ht0 
noncomputable def o173 : Obj := (PySem.Obj.mk PySem.Value.none Option.none (PySem.Data.fields #[]) #[])
noncomputable def ht34 (a0 : String) (a1 : Nat) (a2 : String) (a3 : Nat) (a4 : String) (a5 : Nat) (a6 : String) (a7 : Nat) (a8 : String) (a9 : Nat) (a10 : String) (a11 : Nat) (a12 : String) (a13 : Nat) (a14 : String) (a15 : Nat) : Obj := (PySem.Obj.mk (PySem.Value.type "tuple") Option.none (PySem.Data.seq #[(hvs a0 a1), (hvs a2 a3), (hvs a4 a5), (hvs a6 a7), (hvs a8 a9), (hvs a10 a11), (hvs a12 a13), (hvs a14 a15)] 0) #[])
noncomputable def o174 : Obj := ht34 "a" 402 "b" 403 "digits" 404 "size" 405 "below" 406 "places" 407 "whole" 408 "exponent" 409
noncomputable def o175 : Obj := ht0 
noncomputable def o176 : Obj := ht24 "d_div" 26 26
noncomputable def o177 : Obj := ht16 "d_div" 399 "d_div" 400 401 98 3 172 173 174 175 176 410 411
noncomputable def o178 : Obj := ht25 "d_div" 26 26 "basicplus.decimals" 337 177
noncomputable def o179 : Obj := ht0 
noncomputable def o180 : Obj := (PySem.Obj.mk PySem.Value.none Option.none (PySem.Data.fields #[]) #[])
noncomputable def o181 : Obj := ht26 "a" 416 "b" 417 "one" 418 "other" 419 "exponent" 420
noncomputable def o182 : Obj := ht0 
noncomputable def o183 : Obj := ht24 "d_compare" 27 27
noncomputable def o184 : Obj := ht16 "d_compare" 413 "d_compare" 414 415 106 2 179 180 181 182 183 421 422
noncomputable def o185 : Obj := ht25 "d_compare" 27 27 "basicplus.decimals" 337 184
noncomputable def o186 : Obj := ht0 
noncomputable def o187 : Obj := (PySem.Obj.mk PySem.Value.none Option.none (PySem.Data.fields #[]) #[])
noncomputable def o188 : Obj := ht29 "a" 427 "n" 428 "digits" 429 "work" 430 "found" 431 "left" 432
noncomputable def o189 : Obj := ht0 
noncomputable def o190 : Obj := ht24 "d_power" 28 28
noncomputable def o191 : Obj := ht16 "d_power" 424 "d_power" 425 426 109 3 186 187 188 189 190 433 434
noncomputable def o192 : Obj := ht25 "d_power" 28 28 "basicplus.decimals" 337 191
noncomputable def o193 : Obj := ht0 
noncomputable def o194 : Obj := (PySem.Obj.mk PySem.Value.none Option.none (PySem.Data.fields #[]) #[])
noncomputable def o195 : Obj := ht18 "a" 439 "work" 440
noncomputable def o196 : Obj := ht0 
noncomputable def o197 : Obj := ht24 "square_or_end" 29 29
noncomputable def o198 : Obj := ht16 "square_or_end" 436 "square_or_end" 437 438 123 2 193 194 195 196 197 441 442
noncomputable def o199 : Obj := ht25 "square_or_end" 29 29 "basicplus.decimals" 337 198
noncomputable def o200 : Obj := ht0 
noncomputable def o201 : Obj := (PySem.Obj.mk PySem.Value.none Option.none (PySem.Data.fields #[]) #[])
noncomputable def o202 : Obj := ht12 "value" 449
noncomputable def o203 : Obj := ht0 
noncomputable def o204 : Obj := ht24 "is_whole" 31 31
noncomputable def o205 : Obj := ht16 "is_whole" 446 "is_whole" 447 448 126 1 200 201 202 203 204 450 451
noncomputable def o206 : Obj := ht25 "is_whole" 31 31 "basicplus.arith" 444 205
noncomputable def o207 : Obj := ht0 
noncomputable def o208 : Obj := (PySem.Obj.mk PySem.Value.none Option.none (PySem.Data.fields #[]) #[])
noncomputable def o209 : Obj := ht14 "number" 456 "bits" 457 "digits" 458
noncomputable def o210 : Obj := ht0 
noncomputable def o211 : Obj := ht24 "settled" 32 32
noncomputable def o212 : Obj := ht16 "settled" 453 "settled" 454 455 130 3 207 208 209 210 211 459 460
noncomputable def o213 : Obj := ht25 "settled" 32 32 "basicplus.arith" 444 212
noncomputable def o214 : Obj := ht0 
noncomputable def o215 : Obj := (PySem.Obj.mk PySem.Value.none Option.none (PySem.Data.fields #[]) #[])
noncomputable def o216 : Obj := ht26 "op" 465 "a" 466 "b" 467 "bits" 468 "digits" 469
noncomputable def o217 : Obj := ht0 
noncomputable def o218 : Obj := ht24 "whole_reckoned" 33 33
noncomputable def o219 : Obj := ht16 "whole_reckoned" 462 "whole_reckoned" 463 464 132 5 214 215 216 217 218 470 471
noncomputable def o220 : Obj := ht25 "whole_reckoned" 33 33 "basicplus.arith" 444 219
noncomputable def o221 : Obj := ht0 
noncomputable def o222 : Obj := (PySem.Obj.mk PySem.Value.none Option.none (PySem.Data.fields #[]) #[])
noncomputable def o223 : Obj := ht14 "a" 476 "b" 477 "found" 478
noncomputable def o224 : Obj := ht0 
noncomputable def o225 : Obj := ht24 "cut_quotient" 34 34
noncomputable def o226 : Obj := ht16 "cut_quotient" 473 "cut_quotient" 474 475 136 2 221 222 223 224 225 479 480
noncomputable def o227 : Obj := ht25 "cut_quotient" 34 34 "basicplus.arith" 444 226
noncomputable def o3v3 (P : Params) : Obj := hdic (.type "dict") ((hset (hents (o3v2 P)) 0 (hde P "__name__" 165 (hvs "basicplus.control" 571))) ++ [(hde P "cut_rest" 489 (PySem.Value.ref 234)), (hde P "exponent_of" 496 (PySem.Value.ref 241)), (hde P "whole_power" 506 (PySem.Value.ref 248)), (hde P "raised" 517 (PySem.Value.ref 255)), (hde P "reckoned" 533 (PySem.Value.ref 262)), (hde P "negated" 542 (PySem.Value.ref 269)), (hde P "order_of" 550 (PySem.Value.ref 276)), (hde P "inverted" 558 (PySem.Value.ref 283)), (hde P "logic" 570 (PySem.Value.ref 290)), (hde P "MOST_NUMBER" 574 (PySem.Value.int 255 573))]) 51
noncomputable def o12v4 : Obj := hfld ((hflds o12v3) ++ [(PySem.Value.int 141 0), (PySem.Value.int 0 0), (PySem.Value.ref 233), (PySem.Value.int 143 0), (PySem.Value.int 0 0), (PySem.Value.ref 240), (PySem.Value.int 149 0), (PySem.Value.int 0 0), (PySem.Value.ref 247), (PySem.Value.int 155 0), (PySem.Value.int 0 0), (PySem.Value.ref 254), (PySem.Value.int 160 0), (PySem.Value.int 0 0), (PySem.Value.ref 261), (PySem.Value.int 175 0), (PySem.Value.int 0 0), (PySem.Value.ref 268), (PySem.Value.int 177 0), (PySem.Value.int 0 0), (PySem.Value.ref 275), (PySem.Value.int 183 0), (PySem.Value.int 0 0), (PySem.Value.ref 282), (PySem.Value.int 185 0), (PySem.Value.int 0 0), (PySem.Value.ref 289)])
noncomputable def o228 : Obj := ht0 
noncomputable def o229 : Obj := (PySem.Obj.mk PySem.Value.none Option.none (PySem.Data.fields #[]) #[])
noncomputable def o230 : Obj := ht18 "a" 485 "b" 486
noncomputable def o231 : Obj := ht0 
noncomputable def o232 : Obj := ht24 "cut_rest" 35 35
noncomputable def o233 : Obj := ht16 "cut_rest" 482 "cut_rest" 483 484 141 2 228 229 230 231 232 487 488
noncomputable def o234 : Obj := ht25 "cut_rest" 35 35 "basicplus.arith" 444 233
noncomputable def o235 : Obj := ht0 
noncomputable def o236 : Obj := (PySem.Obj.mk PySem.Value.none Option.none (PySem.Data.fields #[]) #[])
noncomputable def o237 : Obj := ht12 "value" 493
noncomputable def o238 : Obj := ht0 
noncomputable def o239 : Obj := ht24 "exponent_of" 36 36
noncomputable def o240 : Obj := ht16 "exponent_of" 490 "exponent_of" 491 492 143 1 235 236 237 238 239 494 495
noncomputable def o241 : Obj := ht25 "exponent_of" 36 36 "basicplus.arith" 444 240
noncomputable def o242 : Obj := ht0 
noncomputable def o243 : Obj := (PySem.Obj.mk PySem.Value.none Option.none (PySem.Data.fields #[]) #[])
noncomputable def o244 : Obj := ht30 "a" 500 "n" 501 "bits" 502 "digits" 503
noncomputable def o245 : Obj := ht0 
noncomputable def o246 : Obj := ht24 "whole_power" 37 37
noncomputable def o247 : Obj := ht16 "whole_power" 497 "whole_power" 498 499 149 4 242 243 244 245 246 504 505
noncomputable def o248 : Obj := ht25 "whole_power" 37 37 "basicplus.arith" 444 247
noncomputable def o249 : Obj := ht0 
noncomputable def o250 : Obj := (PySem.Obj.mk PySem.Value.none Option.none (PySem.Data.fields #[]) #[])
noncomputable def o251 : Obj := ht26 "a" 510 "b" 511 "bits" 512 "digits" 513 "n" 514
noncomputable def o252 : Obj := ht0 
noncomputable def o253 : Obj := ht24 "raised" 38 38
noncomputable def o254 : Obj := ht16 "raised" 507 "raised" 508 509 155 4 249 250 251 252 253 515 516
noncomputable def o255 : Obj := ht25 "raised" 38 38 "basicplus.arith" 444 254
noncomputable def o256 : Obj := ht0 
noncomputable def o257 : Obj := (PySem.Obj.mk PySem.Value.none Option.none (PySem.Data.fields #[]) #[])
noncomputable def ht37 (a0 : String) (a1 : Nat) (a2 : String) (a3 : Nat) (a4 : String) (a5 : Nat) (a6 : String) (a7 : Nat) (a8 : String) (a9 : Nat) (a10 : String) (a11 : Nat) (a12 : String) (a13 : Nat) (a14 : String) (a15 : Nat) (a16 : String) (a17 : Nat) (a18 : String) (a19 : Nat) : Obj := (PySem.Obj.mk (PySem.Value.type "tuple") Option.none (PySem.Data.seq #[(hvs a0 a1), (hvs a2 a3), (hvs a4 a5), (hvs a6 a7), (hvs a8 a9), (hvs a10 a11), (hvs a12 a13), (hvs a14 a15), (hvs a16 a17), (hvs a18 a19)] 0) #[])
noncomputable def o258 : Obj := ht37 "op" 521 "a" 522 "b" 523 "bits" 524 "digits" 525 "is_first" 526 "is_second" 527 "work" 528 "one" 529 "other" 530
noncomputable def o259 : Obj := ht0 
noncomputable def o260 : Obj := ht24 "reckoned" 39 39
noncomputable def o261 : Obj := ht16 "reckoned" 518 "reckoned" 519 520 160 5 256 257 258 259 260 531 532
noncomputable def o262 : Obj := ht25 "reckoned" 39 39 "basicplus.arith" 444 261
noncomputable def o263 : Obj := ht0 
noncomputable def o264 : Obj := (PySem.Obj.mk PySem.Value.none Option.none (PySem.Data.fields #[]) #[])
noncomputable def o265 : Obj := ht14 "a" 537 "bits" 538 "digits" 539
noncomputable def o266 : Obj := ht0 
noncomputable def o267 : Obj := ht24 "negated" 40 40
noncomputable def o268 : Obj := ht16 "negated" 534 "negated" 535 536 175 3 263 264 265 266 267 540 541
noncomputable def o269 : Obj := ht25 "negated" 40 40 "basicplus.arith" 444 268
noncomputable def o270 : Obj := ht0 
noncomputable def o271 : Obj := (PySem.Obj.mk PySem.Value.none Option.none (PySem.Data.fields #[]) #[])
noncomputable def o272 : Obj := ht18 "a" 546 "b" 547
noncomputable def o273 : Obj := ht0 
noncomputable def o274 : Obj := ht24 "order_of" 41 41
noncomputable def o275 : Obj := ht16 "order_of" 543 "order_of" 544 545 177 2 270 271 272 273 274 548 549
noncomputable def o276 : Obj := ht25 "order_of" 41 41 "basicplus.arith" 444 275
noncomputable def o277 : Obj := ht0 
noncomputable def o278 : Obj := (PySem.Obj.mk PySem.Value.none Option.none (PySem.Data.fields #[]) #[])
noncomputable def o279 : Obj := ht18 "a" 554 "bits" 555
noncomputable def o280 : Obj := ht0 
noncomputable def o281 : Obj := ht24 "inverted" 42 42
noncomputable def o282 : Obj := ht16 "inverted" 551 "inverted" 552 553 183 2 277 278 279 280 281 556 557
noncomputable def o283 : Obj := ht25 "inverted" 42 42 "basicplus.arith" 444 282
noncomputable def o284 : Obj := ht0 
noncomputable def o285 : Obj := (PySem.Obj.mk PySem.Value.none Option.none (PySem.Data.fields #[]) #[])
noncomputable def o286 : Obj := ht29 "op" 562 "a" 563 "b" 564 "bits" 565 "one" 566 "other" 567
noncomputable def o287 : Obj := ht0 
noncomputable def o288 : Obj := ht24 "logic" 43 43
noncomputable def o289 : Obj := ht16 "logic" 559 "logic" 560 561 185 4 284 285 286 287 288 568 569
noncomputable def o290 : Obj := ht25 "logic" 43 43 "basicplus.arith" 444 289
noncomputable def o3v4 (P : Params) : Obj := hdic (.type "dict") ((hents (o3v3 P)) ++ [(hde P "Control" 605 (PySem.Value.ref 307)), (hde P "put_upon" 613 (PySem.Value.ref 318)), (hde P "floor_of" 621 (PySem.Value.ref 325)), (hde P "found_at" 631 (PySem.Value.ref 332)), (hde P "cut_to" 639 (PySem.Value.ref 339)), (hde P "is_past" 649 (PySem.Value.ref 346))]) 57
noncomputable def o12v5 : Obj := hfld ((hflds o12v4) ++ [(PySem.Value.int 196 0), (PySem.Value.int 0 0), (PySem.Value.ref 296), (PySem.Value.int 202 0), (PySem.Value.int 0 0), (PySem.Value.ref 317), (PySem.Value.int 206 0), (PySem.Value.int 0 0), (PySem.Value.ref 324), (PySem.Value.int 211 0), (PySem.Value.int 0 0), (PySem.Value.ref 331), (PySem.Value.int 216 0), (PySem.Value.int 0 0), (PySem.Value.ref 338), (PySem.Value.int 218 0), (PySem.Value.int 0 0), (PySem.Value.ref 345)])
noncomputable def o291 : Obj := ht0 
noncomputable def o292 : Obj := (PySem.Obj.mk (PySem.Value.type "builtin_function_or_method") Option.none (PySem.Data.fields #[(PySem.Value.builtin "type.__prepare__"), (PySem.Value.type "type")]) #[])
noncomputable def ht40 (P : Params) (a1 : Nat) (a2 : String) (a3 : Nat) (a5 : Nat) (a6 : String) (a7 : Nat) (a9 : Nat) (a10 : Int) (a11 : Nat) (a13 : Nat) (a14 : Nat) (a16 : Nat) (a17 : Nat) : Obj := (PySem.Obj.mk (PySem.Value.type "dict") Option.none (PySem.Data.dict #[(hde P "__module__" a1 (hvs a2 a3)), (hde P "__qualname__" a5 (hvs a6 a7)), (hde P "__firstlineno__" a9 (PySem.Value.int a10 a11)), (hde P "__init__" a13 (PySem.Value.ref a14)), (hde P "__static_attributes__" a16 (PySem.Value.ref a17))] 5) #[])
noncomputable def o293 (P : Params) : Obj := ht40 P 582 "basicplus.control" 571 584 "Control" 583 586 196 585 594 304 598 305
noncomputable def o294 : Obj := ht0 
noncomputable def o295 : Obj := ht11 198 303
noncomputable def o296 : Obj := ht2 "Control" 577 578 579 196 294 295 580 581
noncomputable def o297 : Obj := ht3 296 293 "basicplus.control" 571
noncomputable def o298 : Obj := ht0 
noncomputable def o299 : Obj := (PySem.Obj.mk PySem.Value.none Option.none (PySem.Data.fields #[]) #[])
noncomputable def o300 : Obj := ht18 "self" 590 "most" 591
noncomputable def o301 : Obj := ht0 
noncomputable def o302 : Obj := ht15 "__init__" "Control.__init__" 46 0 0
noncomputable def o303 : Obj := ht16 "__init__" 587 "Control.__init__" 588 589 198 2 298 299 300 301 302 592 593
noncomputable def ht41 (a0 : String) (a1 : String) (a2 : Nat) (a3 : Nat) (a7 : Nat) (a9 : String) (a10 : Nat) (a11 : Nat) : Obj := (PySem.Obj.mk (PySem.Value.type "function") Option.none (PySem.Data.func (PySem.FuncData.mk (Str.ofString a0) (Str.ofString a1) (hA (hmb a2 a3)) (PySem.FuncBody.stmts (hB (hmb a2 a3))) (hS (hmb a2 a7)) 3 [] PySem.Value.none PySem.Value.none PySem.Value.none (hvs a9 a10) Option.none (PySem.Value.ref a11) PySem.Value.none 0)) #[])
noncomputable def o304 : Obj := ht41 "__init__" "Control.__init__" 46 0 0 "basicplus.control" 571 303
noncomputable def o305 : Obj := ht14 "failed_at" 595 "most" 596 "pile" 597
noncomputable def ht42 (P : Params) (a1 : Nat) (a2 : String) (a3 : Nat) (a5 : Nat) (a6 : Int) (a7 : Nat) (a9 : Nat) (a10 : Nat) (a12 : Nat) (a13 : Nat) (a15 : Nat) (a16 : Nat) (a18 : Nat) (a19 : Nat) (a21 : Nat) : Obj := (PySem.Obj.mk (PySem.Value.type "dict") Option.none (PySem.Data.dict #[(hde P "__module__" a1 (hvs a2 a3)), (hde P "__firstlineno__" a5 (PySem.Value.int a6 a7)), (hde P "__init__" a9 (PySem.Value.ref a10)), (hde P "__static_attributes__" a12 (PySem.Value.ref a13)), (hde P "__dict__" a15 (PySem.Value.ref a16)), (hde P "__weakref__" a18 (PySem.Value.ref a19)), (hde P "__doc__" a21 PySem.Value.none)] 4) #[])
noncomputable def o306 (P : Params) : Obj := ht42 P 582 "basicplus.control" 571 586 196 585 594 304 598 305 600 308 602 309 603
noncomputable def ht43 (a0 : String) (a1 : Nat) (a2 : Nat) (a5 : Nat) (a7 : Nat) : Obj := (PySem.Obj.mk (PySem.Value.type "type") Option.none (PySem.Data.cls (PySem.ClassData.mk (Str.ofString a0) [(PySem.Value.type "object")] [(PySem.Value.ref a1), (PySem.Value.type "object")] a2 (Str.ofString a0) Bool.true [] [] Bool.false Option.none Bool.false)) #[Option.none, Option.none, (Option.some (hvs a0 a5)), (Option.some (hvs a0 a7)), (Option.some (PySem.Value.builtin "object.__new__")), (Option.some (PySem.Value.bool Bool.true))])
noncomputable def o307 : Obj := ht43 "Control" 307 306 575 583
noncomputable def ht44 (a1 : Nat) (a2 : Nat) : Obj := (PySem.Obj.mk (PySem.Value.type "getset_descriptor") Option.none (PySem.Data.fields #[(hvs "__dict__" a1), (PySem.Value.ref a2), (PySem.Value.builtin "function.__dict__"), (PySem.Value.builtin "function.__dict__#set")]) #[])
noncomputable def o308 : Obj := ht44 599 307
noncomputable def o309 : Obj := ht21 601 307
noncomputable def o310 : Obj := ht22 307
noncomputable def o311 : Obj := ht23 307
noncomputable def o312 : Obj := ht0 
noncomputable def o313 : Obj := (PySem.Obj.mk PySem.Value.none Option.none (PySem.Data.fields #[]) #[])
noncomputable def o314 : Obj := ht18 "control" 609 "entry" 610
noncomputable def o315 : Obj := ht0 
noncomputable def o316 : Obj := ht24 "put_upon" 47 47
noncomputable def o317 : Obj := ht16 "put_upon" 606 "put_upon" 607 608 202 2 312 313 314 315 316 611 612
noncomputable def o318 : Obj := ht25 "put_upon" 47 47 "basicplus.control" 571 317
noncomputable def o319 : Obj := ht0 
noncomputable def o320 : Obj := (PySem.Obj.mk PySem.Value.none Option.none (PySem.Data.fields #[]) #[])
noncomputable def o321 : Obj := ht18 "pile" 617 "at" 618
noncomputable def o322 : Obj := ht0 
noncomputable def o323 : Obj := ht24 "floor_of" 48 48
noncomputable def o324 : Obj := ht16 "floor_of" 614 "floor_of" 615 616 206 1 319 320 321 322 323 619 620
noncomputable def o325 : Obj := ht25 "floor_of" 48 48 "basicplus.control" 571 324
noncomputable def o326 : Obj := ht0 
noncomputable def o327 : Obj := (PySem.Obj.mk PySem.Value.none Option.none (PySem.Data.fields #[]) #[])
noncomputable def o328 : Obj := ht30 "pile" 625 "kind" 626 "name" 627 "at" 628
noncomputable def o329 : Obj := ht0 
noncomputable def o330 : Obj := ht24 "found_at" 49 49
noncomputable def o331 : Obj := ht16 "found_at" 622 "found_at" 623 624 211 3 326 327 328 329 330 629 630
noncomputable def o332 : Obj := ht25 "found_at" 49 49 "basicplus.control" 571 331
noncomputable def o333 : Obj := ht0 
noncomputable def o334 : Obj := (PySem.Obj.mk PySem.Value.none Option.none (PySem.Data.fields #[]) #[])
noncomputable def o335 : Obj := ht18 "control" 635 "many" 636
noncomputable def o336 : Obj := ht0 
noncomputable def o337 : Obj := ht24 "cut_to" 50 50
noncomputable def o338 : Obj := ht16 "cut_to" 632 "cut_to" 633 634 216 2 333 334 335 336 337 637 638
noncomputable def o339 : Obj := ht25 "cut_to" 50 50 "basicplus.control" 571 338
noncomputable def o340 : Obj := ht0 
noncomputable def o341 : Obj := (PySem.Obj.mk PySem.Value.none Option.none (PySem.Data.fields #[]) #[])
noncomputable def o342 : Obj := ht30 "value" 643 "limit" 644 "step" 645 "order" 646
noncomputable def o343 : Obj := ht0 
noncomputable def o344 : Obj := ht24 "is_past" 51 51
noncomputable def o345 : Obj := ht16 "is_past" 640 "is_past" 641 642 218 4 340 341 342 343 344 647 648
noncomputable def o346 : Obj := ht25 "is_past" 51 51 "basicplus.control" 571 345
noncomputable def o3v5 (P : Params) : Obj := hdic (.type "dict") ((hset (hents (o3v4 P)) 0 (hde P "__name__" 165 (hvs "basicplus.flatten" 735))) ++ [(hde P "for_begin" 661 (PySem.Value.ref 353)), (hde P "for_name" 670 (PySem.Value.ref 360)), (hde P "for_next" 687 (PySem.Value.ref 367)), (hde P "while_begin" 693 (PySem.Value.ref 372)), (hde P "while_end" 699 (PySem.Value.ref 377)), (hde P "wend_place" 709 (PySem.Value.ref 385)), (hde P "gosub" 717 (PySem.Value.ref 392)), (hde P "return_place" 726 (PySem.Value.ref 399)), (hde P "chosen" 734 (PySem.Value.ref 406))]) 66
noncomputable def o12v6 : Obj := hfld ((hflds o12v5) ++ [(PySem.Value.int 220 0), (PySem.Value.int 0 0), (PySem.Value.ref 352), (PySem.Value.int 225 0), (PySem.Value.int 0 0), (PySem.Value.ref 359), (PySem.Value.int 230 0), (PySem.Value.int 0 0), (PySem.Value.ref 366), (PySem.Value.int 241 0), (PySem.Value.int 0 0), (PySem.Value.ref 371), (PySem.Value.int 248 0), (PySem.Value.int 0 0), (PySem.Value.ref 376), (PySem.Value.int 253 0), (PySem.Value.int 0 0), (PySem.Value.ref 384), (PySem.Value.int 259 0), (PySem.Value.int 0 0), (PySem.Value.ref 391), (PySem.Value.int 261 0), (PySem.Value.int 0 0), (PySem.Value.ref 398), (PySem.Value.int 268 0), (PySem.Value.int 0 0), (PySem.Value.ref 405)])
noncomputable def o347 : Obj := ht0 
noncomputable def o348 : Obj := (PySem.Obj.mk PySem.Value.none Option.none (PySem.Data.fields #[]) #[])
noncomputable def o349 : Obj := ht29 "control" 653 "name" 654 "place" 655 "limit" 656 "step" 657 "at" 658
noncomputable def o350 : Obj := ht0 
noncomputable def o351 : Obj := ht24 "for_begin" 52 52
noncomputable def o352 : Obj := ht16 "for_begin" 650 "for_begin" 651 652 220 5 347 348 349 350 351 659 660
noncomputable def o353 : Obj := ht25 "for_begin" 52 52 "basicplus.control" 571 352
noncomputable def o354 : Obj := ht0 
noncomputable def o355 : Obj := (PySem.Obj.mk PySem.Value.none Option.none (PySem.Data.fields #[]) #[])
noncomputable def o356 : Obj := ht14 "control" 665 "name" 666 "at" 667
noncomputable def o357 : Obj := ht0 
noncomputable def o358 : Obj := ht24 "for_name" 53 53
noncomputable def o359 : Obj := ht16 "for_name" 662 "for_name" 663 664 225 2 354 355 356 357 358 668 669
noncomputable def o360 : Obj := ht25 "for_name" 53 53 "basicplus.control" 571 359
noncomputable def o361 : Obj := ht0 
noncomputable def o362 : Obj := (PySem.Obj.mk PySem.Value.none Option.none (PySem.Data.fields #[]) #[])
noncomputable def o363 : Obj := (PySem.Obj.mk (PySem.Value.type "tuple") Option.none (PySem.Data.seq #[(hvs "control" 674), (hvs "name" 675), (hvs "value" 676), (hvs "add" 677), (hvs "order" 678), (hvs "at" 679), (hvs "kind" 680), (hvs "word" 681), (hvs "place" 682), (hvs "limit" 683), (hvs "step" 684)] 0) #[])
noncomputable def o364 : Obj := ht0 
noncomputable def o365 : Obj := ht24 "for_next" 54 54
noncomputable def o366 : Obj := ht16 "for_next" 671 "for_next" 672 673 230 5 361 362 363 364 365 685 686
noncomputable def o367 : Obj := ht25 "for_next" 54 54 "basicplus.control" 571 366
noncomputable def o368 : Obj := ht0 
noncomputable def o369 : Obj := (PySem.Obj.mk PySem.Value.none Option.none (PySem.Data.fields #[]) #[])
noncomputable def o370 : Obj := ht24 "while_begin" 55 55
noncomputable def ht48 (a0 : String) (a1 : Nat) (a3 : Nat) (a5 : Nat) (a6 : Int) (a8 : Int) (a16 : Nat) (a19 : Nat) (a20 : Nat) (a21 : Int) (a26 : Nat) : Obj := (PySem.Obj.mk (PySem.Value.type "code") Option.none (PySem.Data.fields #[(hvs a0 a1), (hvs a0 a3), (hvs "/claim/cut.py" a5), (PySem.Value.int a6 0), (PySem.Value.int a8 0), (PySem.Value.int 0 0), (PySem.Value.int 0 0), (PySem.Value.int 3 0), (PySem.Value.ref a16), (PySem.Value.bool Bool.true), (PySem.Value.int 181 0), (PySem.Value.ref a19), PySem.Value.none, PySem.Value.none, PySem.Value.none, (PySem.Value.ref a20), (PySem.Value.int a21 0), (PySem.Value.int a6 0), (hvs "/claim/cut.py" a26)]) #[])
noncomputable def o371 : Obj := ht48 "while_begin" 688 689 690 241 2 368 369 370 691 692
noncomputable def o372 : Obj := ht25 "while_begin" 55 55 "basicplus.control" 571 371
noncomputable def o373 : Obj := ht0 
noncomputable def o374 : Obj := (PySem.Obj.mk PySem.Value.none Option.none (PySem.Data.fields #[]) #[])
noncomputable def o375 : Obj := ht24 "while_end" 56 56
noncomputable def o376 : Obj := ht48 "while_end" 694 695 696 248 2 373 374 375 697 698
noncomputable def o377 : Obj := ht25 "while_end" 56 56 "basicplus.control" 571 376
noncomputable def o378 : Obj := ht12 "" 700
noncomputable def o379 : Obj := ht0 
noncomputable def o380 : Obj := (PySem.Obj.mk PySem.Value.none Option.none (PySem.Data.fields #[]) #[])
noncomputable def o381 : Obj := ht14 "control" 704 "place" 705 "at" 706
noncomputable def o382 : Obj := ht0 
noncomputable def o383 : Obj := ht24 "wend_place" 57 57
noncomputable def o384 : Obj := ht16 "wend_place" 701 "wend_place" 702 703 253 2 379 380 381 382 383 707 708
noncomputable def o385 : Obj := (PySem.Obj.mk (PySem.Value.type "function") Option.none (PySem.Data.func (PySem.FuncData.mk (Str.ofString "wend_place") (Str.ofString "wend_place") (hA (hst 57)) (PySem.FuncBody.stmts (hB (hst 57))) (hS (hst 57)) 3 [] (PySem.Value.ref 378) PySem.Value.none PySem.Value.none (hvs "basicplus.control" 571) Option.none (PySem.Value.ref 384) PySem.Value.none 0)) #[])
noncomputable def o386 : Obj := ht0 
noncomputable def o387 : Obj := (PySem.Obj.mk PySem.Value.none Option.none (PySem.Data.fields #[]) #[])
noncomputable def o388 : Obj := ht18 "control" 713 "place" 714
noncomputable def o389 : Obj := ht0 
noncomputable def o390 : Obj := ht24 "gosub" 58 58
noncomputable def o391 : Obj := ht16 "gosub" 710 "gosub" 711 712 259 2 386 387 388 389 390 715 716
noncomputable def o392 : Obj := ht25 "gosub" 58 58 "basicplus.control" 571 391
noncomputable def o393 : Obj := ht0 
noncomputable def o394 : Obj := (PySem.Obj.mk PySem.Value.none Option.none (PySem.Data.fields #[]) #[])
noncomputable def o395 : Obj := ht14 "control" 721 "many" 722 "place" 723
noncomputable def o396 : Obj := ht0 
noncomputable def o397 : Obj := ht24 "return_place" 59 59
noncomputable def o398 : Obj := ht16 "return_place" 718 "return_place" 719 720 261 1 393 394 395 396 397 724 725
noncomputable def o399 : Obj := ht25 "return_place" 59 59 "basicplus.control" 571 398
noncomputable def o400 : Obj := ht0 
noncomputable def o401 : Obj := (PySem.Obj.mk PySem.Value.none Option.none (PySem.Data.fields #[]) #[])
noncomputable def o402 : Obj := ht18 "number" 730 "many" 731
noncomputable def o403 : Obj := ht0 
noncomputable def o404 : Obj := ht24 "chosen" 60 60
noncomputable def o405 : Obj := ht16 "chosen" 727 "chosen" 728 729 268 2 400 401 402 403 404 732 733
noncomputable def o406 : Obj := ht25 "chosen" 60 60 "basicplus.control" 571 405
noncomputable def o3v6 (P : Params) : Obj := hdic (.type "dict") ((hents (o3v5 P)) ++ [(hde P "Flat" 769 (PySem.Value.ref 423)), (hde P "put_row_of" 778 (PySem.Value.ref 434)), (hde P "put_if" 789 (PySem.Value.ref 441)), (hde P "put_all" 799 (PySem.Value.ref 448)), (hde P "gather" 815 (PySem.Value.ref 455)), (hde P "join_rows" 825 (PySem.Value.ref 462))]) 72
noncomputable def o12v7 : Obj := hfld ((hflds o12v6) ++ [(PySem.Value.int 273 0), (PySem.Value.int 0 0), (PySem.Value.ref 412), (PySem.Value.int 282 0), (PySem.Value.int 0 0), (PySem.Value.ref 433), (PySem.Value.int 285 0), (PySem.Value.int 0 0), (PySem.Value.ref 440), (PySem.Value.int 295 0), (PySem.Value.int 0 0), (PySem.Value.ref 447), (PySem.Value.int 301 0), (PySem.Value.int 0 0), (PySem.Value.ref 454), (PySem.Value.int 323 0), (PySem.Value.int 0 0), (PySem.Value.ref 461)])
noncomputable def o407 : Obj := ht0 
noncomputable def o408 : Obj := (PySem.Obj.mk (PySem.Value.type "builtin_function_or_method") Option.none (PySem.Data.fields #[(PySem.Value.builtin "type.__prepare__"), (PySem.Value.type "type")]) #[])
noncomputable def o409 (P : Params) : Obj := ht40 P 744 "basicplus.flatten" 735 746 "Flat" 745 748 273 747 755 420 762 421
noncomputable def o410 : Obj := ht0 
noncomputable def o411 : Obj := ht11 275 419
noncomputable def o412 : Obj := ht2 "Flat" 739 740 741 273 410 411 742 743
noncomputable def o413 : Obj := ht3 412 409 "basicplus.flatten" 735
noncomputable def o414 : Obj := ht0 
noncomputable def o415 : Obj := (PySem.Obj.mk PySem.Value.none Option.none (PySem.Data.fields #[]) #[])
noncomputable def o416 : Obj := ht12 "self" 752
noncomputable def o417 : Obj := ht0 
noncomputable def o418 : Obj := ht15 "__init__" "Flat.__init__" 62 0 0
noncomputable def o419 : Obj := ht16 "__init__" 749 "Flat.__init__" 750 751 275 1 414 415 416 417 418 753 754
noncomputable def o420 : Obj := ht41 "__init__" "Flat.__init__" 62 0 0 "basicplus.flatten" 735 419
noncomputable def o421 : Obj := ht29 "data" 756 "fns" 757 "loops" 758 "pairs" 759 "places" 760 "rows" 761
noncomputable def o422 (P : Params) : Obj := ht42 P 744 "basicplus.flatten" 735 748 273 747 755 420 762 421 764 424 766 425 767
noncomputable def o423 : Obj := ht43 "Flat" 423 422 737 745
noncomputable def o424 : Obj := ht44 763 423
noncomputable def o425 : Obj := ht21 765 423
noncomputable def o426 : Obj := ht22 423
noncomputable def o427 : Obj := ht23 423
noncomputable def o428 : Obj := ht0 
noncomputable def o429 : Obj := (PySem.Obj.mk PySem.Value.none Option.none (PySem.Data.fields #[]) #[])
noncomputable def o430 : Obj := ht14 "flat" 773 "line" 774 "statement" 775
noncomputable def o431 : Obj := ht0 
noncomputable def o432 : Obj := ht24 "put_row_of" 63 63
noncomputable def o433 : Obj := ht16 "put_row_of" 770 "put_row_of" 771 772 282 3 428 429 430 431 432 776 777
noncomputable def o434 : Obj := ht25 "put_row_of" 63 63 "basicplus.flatten" 735 433
noncomputable def o435 : Obj := ht0 
noncomputable def o436 : Obj := (PySem.Obj.mk PySem.Value.none Option.none (PySem.Data.fields #[]) #[])
noncomputable def o437 : Obj := ht26 "flat" 782 "line" 783 "statement" 784 "test" 785 "skip" 786
noncomputable def o438 : Obj := ht0 
noncomputable def o439 : Obj := ht24 "put_if" 64 64
noncomputable def o440 : Obj := ht16 "put_if" 779 "put_if" 780 781 285 3 435 436 437 438 439 787 788
noncomputable def o441 : Obj := ht25 "put_if" 64 64 "basicplus.flatten" 735 440
noncomputable def o442 : Obj := ht0 
noncomputable def o443 : Obj := (PySem.Obj.mk PySem.Value.none Option.none (PySem.Data.fields #[]) #[])
noncomputable def o444 : Obj := ht30 "flat" 793 "line" 794 "statements" 795 "statement" 796
noncomputable def o445 : Obj := ht0 
noncomputable def o446 : Obj := ht24 "put_all" 65 65
noncomputable def o447 : Obj := ht16 "put_all" 790 "put_all" 791 792 295 3 442 443 444 445 446 797 798
noncomputable def o448 : Obj := ht25 "put_all" 65 65 "basicplus.flatten" 735 447
noncomputable def o449 : Obj := ht0 
noncomputable def o450 : Obj := (PySem.Obj.mk PySem.Value.none Option.none (PySem.Data.fields #[]) #[])
noncomputable def o451 : Obj := ht37 "flat" 803 "whiles" 804 "fors" 805 "heads" 806 "at" 807 "pair" 808 "line" 809 "statement" 810 "word" 811 "text" 812
noncomputable def o452 : Obj := ht0 
noncomputable def o453 : Obj := ht24 "gather" 66 66
noncomputable def o454 : Obj := ht16 "gather" 800 "gather" 801 802 301 1 449 450 451 452 453 813 814
noncomputable def o455 : Obj := ht25 "gather" 66 66 "basicplus.flatten" 735 454
noncomputable def o456 : Obj := ht0 
noncomputable def o457 : Obj := (PySem.Obj.mk PySem.Value.none Option.none (PySem.Data.fields #[]) #[])
noncomputable def o458 : Obj := ht30 "flat" 819 "open_rows" 820 "at" 821 "begin" 822
noncomputable def o459 : Obj := ht0 
noncomputable def o460 : Obj := ht24 "join_rows" 67 67
noncomputable def o461 : Obj := ht16 "join_rows" 816 "join_rows" 817 818 323 3 456 457 458 459 460 823 824
noncomputable def o462 : Obj := ht25 "join_rows" 67 67 "basicplus.flatten" 735 461
noncomputable def o3v7 (P : Params) : Obj := hdic (.type "dict") ((hset (hents (o3v6 P)) 0 (hde P "__name__" 165 (hvs "basicplus.flow" 879))) ++ [(hde P "end_loops" 836 (PySem.Value.ref 469)), (hde P "flatten" 846 (PySem.Value.ref 476)), (hde P "place_of" 854 (PySem.Value.ref 483)), (hde P "line_of" 862 (PySem.Value.ref 490)), (hde P "end_of_while" 870 (PySem.Value.ref 497)), (hde P "next_of_for" 878 (PySem.Value.ref 504)), (hde P "JUMPS" 887 (PySem.Value.ref 505)), (hde P "do_flow" 896 (PySem.Value.ref 512)), (hde P "do_jump" 910 (PySem.Value.ref 519)), (hde P "do_loop" 920 (PySem.Value.ref 526)), (hde P "do_for" 941 (PySem.Value.ref 533)), (hde P "next_from" 954 (PySem.Value.ref 540))]) 84
noncomputable def o12v8 : Obj := hfld ((hflds o12v7) ++ [(PySem.Value.int 328 0), (PySem.Value.int 0 0), (PySem.Value.ref 468), (PySem.Value.int 332 0), (PySem.Value.int 0 0), (PySem.Value.ref 475), (PySem.Value.int 341 0), (PySem.Value.int 0 0), (PySem.Value.ref 482), (PySem.Value.int 345 0), (PySem.Value.int 0 0), (PySem.Value.ref 489), (PySem.Value.int 347 0), (PySem.Value.int 0 0), (PySem.Value.ref 496), (PySem.Value.int 351 0), (PySem.Value.int 0 0), (PySem.Value.ref 503), (PySem.Value.int 357 0), (PySem.Value.int 0 0), (PySem.Value.ref 511), (PySem.Value.int 359 0), (PySem.Value.int 0 0), (PySem.Value.ref 518), (PySem.Value.int 378 0), (PySem.Value.int 0 0), (PySem.Value.ref 525), (PySem.Value.int 391 0), (PySem.Value.int 0 0), (PySem.Value.ref 532), (PySem.Value.int 405 0), (PySem.Value.int 0 0), (PySem.Value.ref 539)])
noncomputable def o463 : Obj := ht0 
noncomputable def o464 : Obj := (PySem.Obj.mk PySem.Value.none Option.none (PySem.Data.fields #[]) #[])
noncomputable def o465 : Obj := ht26 "flat" 829 "fors" 830 "at" 831 "many" 832 "which" 833
noncomputable def o466 : Obj := ht0 
noncomputable def o467 : Obj := ht24 "end_loops" 68 68
noncomputable def o468 : Obj := ht16 "end_loops" 826 "end_loops" 827 828 328 4 463 464 465 466 467 834 835
noncomputable def o469 : Obj := ht25 "end_loops" 68 68 "basicplus.flatten" 735 468
noncomputable def o470 : Obj := ht0 
noncomputable def o471 : Obj := (PySem.Obj.mk PySem.Value.none Option.none (PySem.Data.fields #[]) #[])
noncomputable def o472 : Obj := ht30 "parsed" 840 "flat" 841 "line" 842 "statements" 843
noncomputable def o473 : Obj := ht0 
noncomputable def o474 : Obj := ht24 "flatten" 69 69
noncomputable def o475 : Obj := ht16 "flatten" 837 "flatten" 838 839 332 1 470 471 472 473 474 844 845
noncomputable def o476 : Obj := ht25 "flatten" 69 69 "basicplus.flatten" 735 475
noncomputable def o477 : Obj := ht0 
noncomputable def o478 : Obj := (PySem.Obj.mk PySem.Value.none Option.none (PySem.Data.fields #[]) #[])
noncomputable def o479 : Obj := ht18 "flat" 850 "line" 851
noncomputable def o480 : Obj := ht0 
noncomputable def o481 : Obj := ht24 "place_of" 70 70
noncomputable def o482 : Obj := ht16 "place_of" 847 "place_of" 848 849 341 2 477 478 479 480 481 852 853
noncomputable def o483 : Obj := ht25 "place_of" 70 70 "basicplus.flatten" 735 482
noncomputable def o484 : Obj := ht0 
noncomputable def o485 : Obj := (PySem.Obj.mk PySem.Value.none Option.none (PySem.Data.fields #[]) #[])
noncomputable def o486 : Obj := ht18 "flat" 858 "row" 859
noncomputable def o487 : Obj := ht0 
noncomputable def o488 : Obj := ht24 "line_of" 71 71
noncomputable def o489 : Obj := ht16 "line_of" 855 "line_of" 856 857 345 2 484 485 486 487 488 860 861
noncomputable def o490 : Obj := ht25 "line_of" 71 71 "basicplus.flatten" 735 489
noncomputable def o491 : Obj := ht0 
noncomputable def o492 : Obj := (PySem.Obj.mk PySem.Value.none Option.none (PySem.Data.fields #[]) #[])
noncomputable def o493 : Obj := ht18 "flat" 866 "row" 867
noncomputable def o494 : Obj := ht0 
noncomputable def o495 : Obj := ht24 "end_of_while" 72 73
noncomputable def o496 : Obj := ht16 "end_of_while" 863 "end_of_while" 864 865 347 2 491 492 493 494 495 868 869
noncomputable def o497 : Obj := ht25 "end_of_while" 72 73 "basicplus.flatten" 735 496
noncomputable def o498 : Obj := ht0 
noncomputable def o499 : Obj := (PySem.Obj.mk PySem.Value.none Option.none (PySem.Data.fields #[]) #[])
noncomputable def o500 : Obj := ht18 "flat" 874 "row" 875
noncomputable def o501 : Obj := ht0 
noncomputable def o502 : Obj := ht24 "next_of_for" 73 73
noncomputable def o503 : Obj := ht16 "next_of_for" 871 "next_of_for" 872 873 351 2 498 499 500 501 502 876 877
noncomputable def o504 : Obj := ht25 "next_of_for" 73 73 "basicplus.flatten" 735 503
noncomputable def o505 : Obj := ht29 "IFNOT" 881 "JUMP" 882 "GOTO" 883 "GOSUB" 884 "ONGO" 885 "RETURN" 886
noncomputable def o506 : Obj := ht0 
noncomputable def o507 : Obj := (PySem.Obj.mk PySem.Value.none Option.none (PySem.Data.fields #[]) #[])
noncomputable def o508 : Obj := ht14 "run" 891 "at" 892 "statement" 893
noncomputable def o509 : Obj := ht0 
noncomputable def o510 : Obj := ht24 "do_flow" 76 76
noncomputable def o511 : Obj := ht16 "do_flow" 888 "do_flow" 889 890 357 3 506 507 508 509 510 894 895
noncomputable def o512 : Obj := ht25 "do_flow" 76 76 "basicplus.flow" 879 511
noncomputable def o513 : Obj := ht0 
noncomputable def o514 : Obj := (PySem.Obj.mk PySem.Value.none Option.none (PySem.Data.fields #[]) #[])
noncomputable def o515 : Obj := ht34 "run" 900 "at" 901 "statement" 902 "word" 903 "place" 904 "line" 905 "which" 906 "goal" 907
noncomputable def o516 : Obj := ht0 
noncomputable def o517 : Obj := ht24 "do_jump" 77 77
noncomputable def o518 : Obj := ht16 "do_jump" 897 "do_jump" 898 899 359 3 513 514 515 516 517 908 909
noncomputable def o519 : Obj := ht25 "do_jump" 77 77 "basicplus.flow" 879 518
noncomputable def o520 : Obj := ht0 
noncomputable def o521 : Obj := (PySem.Obj.mk PySem.Value.none Option.none (PySem.Data.fields #[]) #[])
noncomputable def o522 : Obj := ht30 "run" 914 "at" 915 "statement" 916 "word" 917
noncomputable def o523 : Obj := ht0 
noncomputable def o524 : Obj := ht24 "do_loop" 78 78
noncomputable def o525 : Obj := ht16 "do_loop" 911 "do_loop" 912 913 378 3 520 521 522 523 524 918 919
noncomputable def o526 : Obj := ht25 "do_loop" 78 78 "basicplus.flow" 879 525
noncomputable def o527 : Obj := ht0 
noncomputable def o528 : Obj := (PySem.Obj.mk PySem.Value.none Option.none (PySem.Data.fields #[]) #[])
noncomputable def o529 : Obj := (PySem.Obj.mk (PySem.Value.type "tuple") Option.none (PySem.Data.seq #[(hvs "run" 924), (hvs "at" 925), (hvs "statement" 926), (hvs "word" 927), (hvs "name" 928), (hvs "first" 929), (hvs "last" 930), (hvs "stride" 931), (hvs "begin" 932), (hvs "limit" 933), (hvs "step" 934), (hvs "value" 935), (hvs "row" 936), (hvs "which" 937), (hvs "names" 938)] 0) #[])
noncomputable def o530 : Obj := ht0 
noncomputable def o531 : Obj := ht24 "do_for" 79 79
noncomputable def o532 : Obj := ht16 "do_for" 921 "do_for" 922 923 391 3 527 528 529 530 531 939 940
noncomputable def o533 : Obj := ht25 "do_for" 79 79 "basicplus.flow" 879 532
noncomputable def o534 : Obj := ht0 
noncomputable def o535 : Obj := (PySem.Obj.mk PySem.Value.none Option.none (PySem.Data.fields #[]) #[])
noncomputable def ht55 (a0 : String) (a1 : Nat) (a2 : String) (a3 : Nat) (a4 : String) (a5 : Nat) (a6 : String) (a7 : Nat) (a8 : String) (a9 : Nat) (a10 : String) (a11 : Nat) (a12 : String) (a13 : Nat) : Obj := (PySem.Obj.mk (PySem.Value.type "tuple") Option.none (PySem.Data.seq #[(hvs a0 a1), (hvs a2 a3), (hvs a4 a5), (hvs a6 a7), (hvs a8 a9), (hvs a10 a11), (hvs a12 a13)] 0) #[])
noncomputable def o536 : Obj := ht55 "run" 945 "at" 946 "names" 947 "told" 948 "name" 949 "value" 950 "place" 951
noncomputable def o537 : Obj := ht0 
noncomputable def o538 : Obj := ht24 "next_from" 80 80
noncomputable def o539 : Obj := ht16 "next_from" 942 "next_from" 943 944 405 3 534 535 536 537 538 952 953
noncomputable def o540 : Obj := ht25 "next_from" 80 80 "basicplus.flow" 879 539
noncomputable def o3v8 (P : Params) : Obj := hdic (.type "dict") ((hents (o3v7 P)) ++ [(hde P "FlowRun" 1047 (PySem.Value.ref 599))]) 85
noncomputable def o12v9 : Obj := hfld ((hflds o12v8) ++ [(PySem.Value.int 413 0), (PySem.Value.int 0 0), (PySem.Value.ref 546)])
noncomputable def o541 : Obj := ht0 
noncomputable def o542 : Obj := (PySem.Obj.mk (PySem.Value.type "builtin_function_or_method") Option.none (PySem.Data.fields #[(PySem.Value.builtin "type.__prepare__"), (PySem.Value.type "type")]) #[])
noncomputable def o543 (P : Params) : Obj := (PySem.Obj.mk (PySem.Value.type "dict") Option.none (PySem.Data.dict #[(hde P "__module__" 962 (hvs "basicplus.flow" 879)), (hde P "__qualname__" 964 (hvs "FlowRun" 963)), (hde P "__firstlineno__" 966 (PySem.Value.int 413 965)), (hde P "__init__" 978 (PySem.Value.ref 554)), (hde P "worth" 987 (PySem.Value.ref 561)), (hde P "whole" 995 (PySem.Value.ref 568)), (hde P "value_of_name" 1003 (PySem.Value.ref 575)), (hde P "store" 1012 (PySem.Value.ref 582)), (hde P "plus" 1021 (PySem.Value.ref 589)), (hde P "go" 1032 (PySem.Value.ref 596)), (hde P "__static_attributes__" 1040 (PySem.Value.ref 597))] 11) #[])
noncomputable def o544 : Obj := ht0 
noncomputable def o545 : Obj := (PySem.Obj.mk PySem.Value.none Option.none (PySem.Data.fields #[(PySem.Value.int 415 0), (PySem.Value.int 4 0), (PySem.Value.ref 553), (PySem.Value.int 424 0), (PySem.Value.int 4 0), (PySem.Value.ref 560), (PySem.Value.int 428 0), (PySem.Value.int 4 0), (PySem.Value.ref 567), (PySem.Value.int 431 0), (PySem.Value.int 4 0), (PySem.Value.ref 574), (PySem.Value.int 434 0), (PySem.Value.int 4 0), (PySem.Value.ref 581), (PySem.Value.int 437 0), (PySem.Value.int 4 0), (PySem.Value.ref 588), (PySem.Value.int 440 0), (PySem.Value.int 4 0), (PySem.Value.ref 595)]) #[])
noncomputable def o546 : Obj := ht2 "FlowRun" 957 958 959 413 544 545 960 961
noncomputable def o547 : Obj := ht3 546 543 "basicplus.flow" 879
noncomputable def o548 : Obj := ht0 
noncomputable def o549 : Obj := (PySem.Obj.mk PySem.Value.none Option.none (PySem.Data.fields #[]) #[])
noncomputable def o550 : Obj := ht29 "self" 970 "flat" 971 "values" 972 "worth_of" 973 "bits" 974 "digits" 975
noncomputable def o551 : Obj := ht0 
noncomputable def o552 : Obj := ht15 "__init__" "FlowRun.__init__" 81 0 0
noncomputable def o553 : Obj := ht16 "__init__" 967 "FlowRun.__init__" 968 969 415 6 548 549 550 551 552 976 977
noncomputable def o554 : Obj := ht41 "__init__" "FlowRun.__init__" 81 0 0 "basicplus.flow" 879 553
noncomputable def o555 : Obj := ht0 
noncomputable def o556 : Obj := (PySem.Obj.mk PySem.Value.none Option.none (PySem.Data.fields #[]) #[])
noncomputable def o557 : Obj := ht14 "self" 982 "tree" 983 "given_worth" 984
noncomputable def o558 : Obj := ht0 
noncomputable def o559 : Obj := ht15 "worth" "FlowRun.worth" 81 1 1
noncomputable def o560 : Obj := ht16 "worth" 979 "FlowRun.worth" 980 981 424 2 555 556 557 558 559 985 986
noncomputable def o561 : Obj := ht41 "worth" "FlowRun.worth" 81 1 1 "basicplus.flow" 879 560
noncomputable def o562 : Obj := ht0 
noncomputable def o563 : Obj := (PySem.Obj.mk PySem.Value.none Option.none (PySem.Data.fields #[]) #[])
noncomputable def o564 : Obj := ht18 "self" 991 "tree" 992
noncomputable def o565 : Obj := ht0 
noncomputable def o566 : Obj := ht15 "whole" "FlowRun.whole" 81 2 2
noncomputable def o567 : Obj := ht16 "whole" 988 "FlowRun.whole" 989 990 428 2 562 563 564 565 566 993 994
noncomputable def o568 : Obj := ht41 "whole" "FlowRun.whole" 81 2 2 "basicplus.flow" 879 567
noncomputable def o569 : Obj := ht0 
noncomputable def o570 : Obj := (PySem.Obj.mk PySem.Value.none Option.none (PySem.Data.fields #[]) #[])
noncomputable def o571 : Obj := ht18 "self" 999 "name" 1000
noncomputable def o572 : Obj := ht0 
noncomputable def o573 : Obj := ht15 "value_of_name" "FlowRun.value_of_name" 81 3 3
noncomputable def o574 : Obj := ht16 "value_of_name" 996 "FlowRun.value_of_name" 997 998 431 2 569 570 571 572 573 1001 1002
noncomputable def o575 : Obj := ht41 "value_of_name" "FlowRun.value_of_name" 81 3 3 "basicplus.flow" 879 574
noncomputable def o576 : Obj := ht0 
noncomputable def o577 : Obj := (PySem.Obj.mk PySem.Value.none Option.none (PySem.Data.fields #[]) #[])
noncomputable def o578 : Obj := ht14 "self" 1007 "name" 1008 "value" 1009
noncomputable def o579 : Obj := ht0 
noncomputable def o580 : Obj := ht15 "store" "FlowRun.store" 81 4 4
noncomputable def o581 : Obj := ht16 "store" 1004 "FlowRun.store" 1005 1006 434 3 576 577 578 579 580 1010 1011
noncomputable def o582 : Obj := ht41 "store" "FlowRun.store" 81 4 4 "basicplus.flow" 879 581
noncomputable def o583 : Obj := ht0 
noncomputable def o584 : Obj := (PySem.Obj.mk PySem.Value.none Option.none (PySem.Data.fields #[]) #[])
noncomputable def o585 : Obj := ht14 "self" 1016 "value" 1017 "step" 1018
noncomputable def o586 : Obj := ht0 
noncomputable def o587 : Obj := ht15 "plus" "FlowRun.plus" 81 5 5
noncomputable def o588 : Obj := ht16 "plus" 1013 "FlowRun.plus" 1014 1015 437 3 583 584 585 586 587 1019 1020
noncomputable def o589 : Obj := ht41 "plus" "FlowRun.plus" 81 5 5 "basicplus.flow" 879 588
noncomputable def o590 : Obj := ht0 
noncomputable def o591 : Obj := (PySem.Obj.mk PySem.Value.none Option.none (PySem.Data.fields #[]) #[])
noncomputable def o592 : Obj := ht26 "self" 1025 "at" 1026 "most" 1027 "turn" 1028 "statement" 1029
noncomputable def o593 : Obj := ht0 
noncomputable def o594 : Obj := ht15 "go" "FlowRun.go" 81 6 6
noncomputable def o595 : Obj := ht16 "go" 1022 "FlowRun.go" 1023 1024 440 3 590 591 592 593 594 1030 1031
noncomputable def o596 : Obj := ht41 "go" "FlowRun.go" 81 6 6 "basicplus.flow" 879 595
noncomputable def o597 : Obj := ht55 "bits" 1033 "control" 1034 "digits" 1035 "flat" 1036 "notes" 1037 "values" 1038 "worth_of" 1039
noncomputable def o598 (P : Params) : Obj := (PySem.Obj.mk (PySem.Value.type "dict") Option.none (PySem.Data.dict #[(hde P "__module__" 962 (hvs "basicplus.flow" 879)), (hde P "__firstlineno__" 966 (PySem.Value.int 413 965)), (hde P "__init__" 978 (PySem.Value.ref 554)), (hde P "worth" 987 (PySem.Value.ref 561)), (hde P "whole" 995 (PySem.Value.ref 568)), (hde P "value_of_name" 1003 (PySem.Value.ref 575)), (hde P "store" 1012 (PySem.Value.ref 582)), (hde P "plus" 1021 (PySem.Value.ref 589)), (hde P "go" 1032 (PySem.Value.ref 596)), (hde P "__static_attributes__" 1040 (PySem.Value.ref 597)), (hde P "__dict__" 1042 (PySem.Value.ref 600)), (hde P "__weakref__" 1044 (PySem.Value.ref 601)), (hde P "__doc__" 1045 PySem.Value.none)] 4) #[])
noncomputable def o599 : Obj := ht43 "FlowRun" 599 598 955 963
noncomputable def o600 : Obj := ht44 1041 599
noncomputable def o601 : Obj := ht21 1043 599
noncomputable def o602 : Obj := ht22 599
noncomputable def o603 : Obj := ht23 599
noncomputable def o3v9 (P : Params) : Obj := (PySem.Obj.mk (PySem.Value.type "dict") Option.none (PySem.Data.dict #[(hde P "__name__" 165 (hvs "basicplus.hooks" 1048)), (hde P "__doc__" 166 PySem.Value.none), (hde P "__package__" 167 PySem.Value.none), (hde P "__loader__" 168 (PySem.Value.builtin "__main__.__loader__#opaque")), (hde P "__spec__" 169 PySem.Value.none), (hde P "__annotations__" 170 (PySem.Value.ref 6)), (hde P "__builtins__" 171 (PySem.Value.ref 4)), (hde P "__file__" 173 (hvs "/claim/cut.py" 172)), (hde P "__cached__" 174 PySem.Value.none), (hde P "MOST_TEXT" 190 (PySem.Value.int 255 189)), (hde P "MOST_EXPONENT" 192 (PySem.Value.int 99 191)), (hde P "BasicError" 226 (PySem.Value.ref 34)), (hde P "kind_of" 233 (PySem.Value.ref 44)), (hde P "figures_of" 242 (PySem.Value.ref 51)), (hde P "rounded_by" 253 (PySem.Value.ref 58)), (hde P "made" 265 (PySem.Value.ref 65)), (hde P "whole_near" 275 (PySem.Value.ref 72)), (hde P "fits" 283 (PySem.Value.ref 79)), (hde P "whole_of" 292 (PySem.Value.ref 86)), (hde P "decimal_of" 300 (PySem.Value.ref 93)), (hde P "checked_text" 307 (PySem.Value.ref 100)), (hde P "is_nought" 314 (PySem.Value.ref 107)), (hde P "is_true" 321 (PySem.Value.ref 114)), (hde P "truth" 328 (PySem.Value.ref 121)), (hde P "sign_of" 336 (PySem.Value.ref 128)), (hde P "ONE" 341 (PySem.Value.ref 129)), (hde P "MOST_POWER" 343 (PySem.Value.int 9999 342)), (hde P "d_negated" 350 (PySem.Value.ref 136)), (hde P "alike" 359 (PySem.Value.ref 143)), (hde P "d_add" 371 (PySem.Value.ref 150)), (hde P "d_sub" 380 (PySem.Value.ref 157)), (hde P "d_mul" 389 (PySem.Value.ref 164)), (hde P "with_rest" 398 (PySem.Value.ref 171)), (hde P "d_div" 412 (PySem.Value.ref 178)), (hde P "d_compare" 423 (PySem.Value.ref 185)), (hde P "d_power" 435 (PySem.Value.ref 192)), (hde P "square_or_end" 443 (PySem.Value.ref 199)), (hde P "is_whole" 452 (PySem.Value.ref 206)), (hde P "settled" 461 (PySem.Value.ref 213)), (hde P "whole_reckoned" 472 (PySem.Value.ref 220)), (hde P "cut_quotient" 481 (PySem.Value.ref 227)), (hde P "cut_rest" 489 (PySem.Value.ref 234)), (hde P "exponent_of" 496 (PySem.Value.ref 241)), (hde P "whole_power" 506 (PySem.Value.ref 248)), (hde P "raised" 517 (PySem.Value.ref 255)), (hde P "reckoned" 533 (PySem.Value.ref 262)), (hde P "negated" 542 (PySem.Value.ref 269)), (hde P "order_of" 550 (PySem.Value.ref 276)), (hde P "inverted" 558 (PySem.Value.ref 283)), (hde P "logic" 570 (PySem.Value.ref 290)), (hde P "MOST_NUMBER" 574 (PySem.Value.int 255 573)), (hde P "Control" 605 (PySem.Value.ref 307)), (hde P "put_upon" 613 (PySem.Value.ref 318)), (hde P "floor_of" 621 (PySem.Value.ref 325)), (hde P "found_at" 631 (PySem.Value.ref 332)), (hde P "cut_to" 639 (PySem.Value.ref 339)), (hde P "is_past" 649 (PySem.Value.ref 346)), (hde P "for_begin" 661 (PySem.Value.ref 353)), (hde P "for_name" 670 (PySem.Value.ref 360)), (hde P "for_next" 687 (PySem.Value.ref 367)), (hde P "while_begin" 693 (PySem.Value.ref 372)), (hde P "while_end" 699 (PySem.Value.ref 377)), (hde P "wend_place" 709 (PySem.Value.ref 385)), (hde P "gosub" 717 (PySem.Value.ref 392)), (hde P "return_place" 726 (PySem.Value.ref 399)), (hde P "chosen" 734 (PySem.Value.ref 406)), (hde P "Flat" 769 (PySem.Value.ref 423)), (hde P "put_row_of" 778 (PySem.Value.ref 434)), (hde P "put_if" 789 (PySem.Value.ref 441)), (hde P "put_all" 799 (PySem.Value.ref 448)), (hde P "gather" 815 (PySem.Value.ref 455)), (hde P "join_rows" 825 (PySem.Value.ref 462)), (hde P "end_loops" 836 (PySem.Value.ref 469)), (hde P "flatten" 846 (PySem.Value.ref 476)), (hde P "place_of" 854 (PySem.Value.ref 483)), (hde P "line_of" 862 (PySem.Value.ref 490)), (hde P "end_of_while" 870 (PySem.Value.ref 497)), (hde P "next_of_for" 878 (PySem.Value.ref 504)), (hde P "JUMPS" 887 (PySem.Value.ref 505)), (hde P "do_flow" 896 (PySem.Value.ref 512)), (hde P "do_jump" 910 (PySem.Value.ref 519)), (hde P "do_loop" 920 (PySem.Value.ref 526)), (hde P "do_for" 941 (PySem.Value.ref 533)), (hde P "next_from" 954 (PySem.Value.ref 540)), (hde P "FlowRun" 1047 (PySem.Value.ref 599))] 85) #[])
noncomputable def o3v10 (P : Params) : Obj := hdic (.type "dict") ((hents (o3v9 P)) ++ [(hde P "PlainHooks" 1129 (PySem.Value.ref 655))]) 86
noncomputable def o12v10 : Obj := hfld ((hflds o12v9) ++ [(PySem.Value.int 457 0), (PySem.Value.int 0 0), (PySem.Value.ref 609)])
noncomputable def o604 : Obj := ht0 
noncomputable def o605 : Obj := (PySem.Obj.mk (PySem.Value.type "builtin_function_or_method") Option.none (PySem.Data.fields #[(PySem.Value.builtin "type.__prepare__"), (PySem.Value.type "type")]) #[])
noncomputable def o606 (P : Params) : Obj := (PySem.Obj.mk (PySem.Value.type "dict") Option.none (PySem.Data.dict #[(hde P "__module__" 1057 (hvs "basicplus.hooks" 1048)), (hde P "__qualname__" 1059 (hvs "PlainHooks" 1058)), (hde P "__firstlineno__" 1061 (PySem.Value.int 457 1060)), (hde P "__init__" 1071 (PySem.Value.ref 617)), (hde P "value_of_name" 1079 (PySem.Value.ref 624)), (hde P "told" 1090 (PySem.Value.ref 631)), (hde P "item_of" 1099 (PySem.Value.ref 638)), (hde P "call" 1108 (PySem.Value.ref 645)), (hde P "fn" 1117 (PySem.Value.ref 652)), (hde P "__static_attributes__" 1122 (PySem.Value.ref 653))] 10) #[])
noncomputable def o607 : Obj := ht0 
noncomputable def o608 : Obj := (PySem.Obj.mk PySem.Value.none Option.none (PySem.Data.fields #[(PySem.Value.int 459 0), (PySem.Value.int 4 0), (PySem.Value.ref 616), (PySem.Value.int 465 0), (PySem.Value.int 4 0), (PySem.Value.ref 623), (PySem.Value.int 471 0), (PySem.Value.int 4 0), (PySem.Value.ref 630), (PySem.Value.int 478 0), (PySem.Value.int 4 0), (PySem.Value.ref 637), (PySem.Value.int 481 0), (PySem.Value.int 4 0), (PySem.Value.ref 644), (PySem.Value.int 484 0), (PySem.Value.int 4 0), (PySem.Value.ref 651)]) #[])
noncomputable def o609 : Obj := ht2 "PlainHooks" 1052 1053 1054 457 607 608 1055 1056
noncomputable def o610 : Obj := ht3 609 606 "basicplus.hooks" 1048
noncomputable def o611 : Obj := ht0 
noncomputable def o612 : Obj := (PySem.Obj.mk PySem.Value.none Option.none (PySem.Data.fields #[]) #[])
noncomputable def o613 : Obj := ht30 "self" 1065 "values" 1066 "bits" 1067 "digits" 1068
noncomputable def o614 : Obj := ht0 
noncomputable def o615 : Obj := ht15 "__init__" "PlainHooks.__init__" 83 0 0
noncomputable def o616 : Obj := ht16 "__init__" 1062 "PlainHooks.__init__" 1063 1064 459 4 611 612 613 614 615 1069 1070
noncomputable def o617 : Obj := ht41 "__init__" "PlainHooks.__init__" 83 0 0 "basicplus.hooks" 1048 616
noncomputable def o618 : Obj := ht0 
noncomputable def o619 : Obj := (PySem.Obj.mk PySem.Value.none Option.none (PySem.Data.fields #[]) #[])
noncomputable def o620 : Obj := ht18 "self" 1075 "word" 1076
noncomputable def o621 : Obj := ht0 
noncomputable def o622 : Obj := ht15 "value_of_name" "PlainHooks.value_of_name" 83 1 1
noncomputable def o623 : Obj := ht16 "value_of_name" 1072 "PlainHooks.value_of_name" 1073 1074 465 2 618 619 620 621 622 1077 1078
noncomputable def o624 : Obj := ht41 "value_of_name" "PlainHooks.value_of_name" 83 1 1 "basicplus.hooks" 1048 623
noncomputable def o625 : Obj := ht0 
noncomputable def o626 : Obj := (PySem.Obj.mk PySem.Value.none Option.none (PySem.Data.fields #[]) #[])
noncomputable def o627 : Obj := ht26 "self" 1083 "word" 1084 "args" 1085 "code" 1086 "key" 1087
noncomputable def o628 : Obj := ht0 
noncomputable def o629 : Obj := ht15 "told" "PlainHooks.told" 83 2 2
noncomputable def o630 : Obj := ht16 "told" 1080 "PlainHooks.told" 1081 1082 471 4 625 626 627 628 629 1088 1089
noncomputable def o631 : Obj := ht41 "told" "PlainHooks.told" 83 2 2 "basicplus.hooks" 1048 630
noncomputable def o632 : Obj := ht0 
noncomputable def o633 : Obj := (PySem.Obj.mk PySem.Value.none Option.none (PySem.Data.fields #[]) #[])
noncomputable def o634 : Obj := ht14 "self" 1094 "word" 1095 "subs" 1096
noncomputable def o635 : Obj := ht0 
noncomputable def o636 : Obj := ht15 "item_of" "PlainHooks.item_of" 83 3 3
noncomputable def o637 : Obj := ht16 "item_of" 1091 "PlainHooks.item_of" 1092 1093 478 3 632 633 634 635 636 1097 1098
noncomputable def o638 : Obj := ht41 "item_of" "PlainHooks.item_of" 83 3 3 "basicplus.hooks" 1048 637
noncomputable def o639 : Obj := ht0 
noncomputable def o640 : Obj := (PySem.Obj.mk PySem.Value.none Option.none (PySem.Data.fields #[]) #[])
noncomputable def o641 : Obj := ht14 "self" 1103 "word" 1104 "args" 1105
noncomputable def o642 : Obj := ht0 
noncomputable def o643 : Obj := ht15 "call" "PlainHooks.call" 83 4 5
noncomputable def o644 : Obj := ht16 "call" 1100 "PlainHooks.call" 1101 1102 481 3 639 640 641 642 643 1106 1107
noncomputable def o645 : Obj := ht41 "call" "PlainHooks.call" 83 4 5 "basicplus.hooks" 1048 644
noncomputable def o646 : Obj := ht0 
noncomputable def o647 : Obj := (PySem.Obj.mk PySem.Value.none Option.none (PySem.Data.fields #[]) #[])
noncomputable def o648 : Obj := ht14 "self" 1112 "word" 1113 "args" 1114
noncomputable def o649 : Obj := ht0 
noncomputable def o650 : Obj := ht15 "fn" "PlainHooks.fn" 83 5 5
noncomputable def o651 : Obj := ht16 "fn" 1109 "PlainHooks.fn" 1110 1111 484 3 646 647 648 649 650 1115 1116
noncomputable def o652 : Obj := ht41 "fn" "PlainHooks.fn" 83 5 5 "basicplus.hooks" 1048 651
noncomputable def o653 : Obj := ht30 "asked" 1118 "bits" 1119 "digits" 1120 "values" 1121
noncomputable def o654 (P : Params) : Obj := (PySem.Obj.mk (PySem.Value.type "dict") Option.none (PySem.Data.dict #[(hde P "__module__" 1057 (hvs "basicplus.hooks" 1048)), (hde P "__firstlineno__" 1061 (PySem.Value.int 457 1060)), (hde P "__init__" 1071 (PySem.Value.ref 617)), (hde P "value_of_name" 1079 (PySem.Value.ref 624)), (hde P "told" 1090 (PySem.Value.ref 631)), (hde P "item_of" 1099 (PySem.Value.ref 638)), (hde P "call" 1108 (PySem.Value.ref 645)), (hde P "fn" 1117 (PySem.Value.ref 652)), (hde P "__static_attributes__" 1122 (PySem.Value.ref 653)), (hde P "__dict__" 1124 (PySem.Value.ref 656)), (hde P "__weakref__" 1126 (PySem.Value.ref 657)), (hde P "__doc__" 1127 PySem.Value.none)] 4) #[])
noncomputable def o655 : Obj := ht43 "PlainHooks" 655 654 1050 1058
noncomputable def o656 : Obj := ht44 1123 655
noncomputable def o657 : Obj := ht21 1125 655
noncomputable def o658 : Obj := ht22 655
noncomputable def o659 : Obj := ht23 655
noncomputable def o3v11 (P : Params) : Obj := hdic (.type "dict") ((hset (hents (o3v10 P)) 0 (hde P "__name__" 165 (hvs "law_xm0046_01" 1222))) ++ [(hde P "parts_of_tree" 1138 (PySem.Value.ref 666)), (hde P "LOGIC" 1146 (PySem.Value.ref 667)), (hde P "COMPARISONS" 1153 (PySem.Value.ref 668)), (hde P "order_of_texts" 1161 (PySem.Value.ref 675)), (hde P "compared" 1169 (PySem.Value.ref 682)), (hde P "worth_of_texts" 1178 (PySem.Value.ref 689)), (hde P "worth_of_two" 1184 (PySem.Value.ref 694)), (hde P "worth_of_one" 1194 (PySem.Value.ref 701)), (hde P "worth_of_leaf" 1205 (PySem.Value.ref 708)), (hde P "worth_of_tree" 1215 (PySem.Value.ref 715)), (hde P "worth" 1221 (PySem.Value.ref 720)), (hde P "_law_drawn_next" 1232 (PySem.Value.ref 727)), (hde P "_law_leaf" 1240 (PySem.Value.ref 734))]) 99
noncomputable def o12v11 : Obj := hfld ((hflds o12v10) ++ [(PySem.Value.int 487 0), (PySem.Value.int 0 0), (PySem.Value.ref 665), (PySem.Value.int 496 0), (PySem.Value.int 0 0), (PySem.Value.ref 674), (PySem.Value.int 498 0), (PySem.Value.int 0 0), (PySem.Value.ref 681), (PySem.Value.int 504 0), (PySem.Value.int 0 0), (PySem.Value.ref 688), (PySem.Value.int 510 0), (PySem.Value.int 0 0), (PySem.Value.ref 693), (PySem.Value.int 521 0), (PySem.Value.int 0 0), (PySem.Value.ref 700), (PySem.Value.int 525 0), (PySem.Value.int 0 0), (PySem.Value.ref 707), (PySem.Value.int 530 0), (PySem.Value.int 0 0), (PySem.Value.ref 714), (PySem.Value.int 543 0), (PySem.Value.int 0 0), (PySem.Value.ref 719), (PySem.Value.int 557 0), (PySem.Value.int 0 0), (PySem.Value.ref 726), (PySem.Value.int 561 0), (PySem.Value.int 0 0), (PySem.Value.ref 733)])
noncomputable def o660 : Obj := ht0 
noncomputable def o661 : Obj := (PySem.Obj.mk PySem.Value.none Option.none (PySem.Data.fields #[]) #[])
noncomputable def o662 : Obj := ht12 "tree" 1135
noncomputable def o663 : Obj := ht0 
noncomputable def o664 : Obj := ht24 "parts_of_tree" 85 85
noncomputable def o665 : Obj := ht16 "parts_of_tree" 1132 "parts_of_tree" 1133 1134 487 1 660 661 662 663 664 1136 1137
noncomputable def o666 : Obj := ht25 "parts_of_tree" 85 85 "basicplus.exprread" 1130 665
noncomputable def o667 : Obj := ht26 "AND" 1141 "OR" 1142 "XOR" 1143 "EQV" 1144 "IMP" 1145
noncomputable def o668 : Obj := ht29 "=" 1147 "<>" 1148 "<" 1149 ">" 1150 "<=" 1151 ">=" 1152
noncomputable def o669 : Obj := ht0 
noncomputable def o670 : Obj := (PySem.Obj.mk PySem.Value.none Option.none (PySem.Data.fields #[]) #[])
noncomputable def o671 : Obj := ht18 "one" 1157 "other" 1158
noncomputable def o672 : Obj := ht0 
noncomputable def o673 : Obj := ht24 "order_of_texts" 89 89
noncomputable def o674 : Obj := ht16 "order_of_texts" 1154 "order_of_texts" 1155 1156 496 2 669 670 671 672 673 1159 1160
noncomputable def o675 : Obj := ht25 "order_of_texts" 89 89 "basicplus.worth" 1139 674
noncomputable def o676 : Obj := ht0 
noncomputable def o677 : Obj := (PySem.Obj.mk PySem.Value.none Option.none (PySem.Data.fields #[]) #[])
noncomputable def o678 : Obj := ht18 "op" 1165 "order" 1166
noncomputable def o679 : Obj := ht0 
noncomputable def o680 : Obj := ht24 "compared" 90 90
noncomputable def o681 : Obj := ht16 "compared" 1162 "compared" 1163 1164 498 2 676 677 678 679 680 1167 1168
noncomputable def o682 : Obj := ht25 "compared" 90 90 "basicplus.worth" 1139 681
noncomputable def o683 : Obj := ht0 
noncomputable def o684 : Obj := (PySem.Obj.mk PySem.Value.none Option.none (PySem.Data.fields #[]) #[])
noncomputable def o685 : Obj := ht14 "op" 1173 "one" 1174 "other" 1175
noncomputable def o686 : Obj := ht0 
noncomputable def o687 : Obj := ht24 "worth_of_texts" 91 91
noncomputable def o688 : Obj := ht16 "worth_of_texts" 1170 "worth_of_texts" 1171 1172 504 3 683 684 685 686 687 1176 1177
noncomputable def o689 : Obj := ht25 "worth_of_texts" 91 91 "basicplus.worth" 1139 688
noncomputable def o690 : Obj := ht0 
noncomputable def o691 : Obj := (PySem.Obj.mk PySem.Value.none Option.none (PySem.Data.fields #[]) #[])
noncomputable def o692 : Obj := ht24 "worth_of_two" 92 92
noncomputable def o693 : Obj := ht48 "worth_of_two" 1179 1180 1181 510 5 690 691 692 1182 1183
noncomputable def o694 : Obj := ht25 "worth_of_two" 92 92 "basicplus.worth" 1139 693
noncomputable def o695 : Obj := ht0 
noncomputable def o696 : Obj := (PySem.Obj.mk PySem.Value.none Option.none (PySem.Data.fields #[]) #[])
noncomputable def o697 : Obj := ht30 "op" 1188 "value" 1189 "bits" 1190 "digits" 1191
noncomputable def o698 : Obj := ht0 
noncomputable def o699 : Obj := ht24 "worth_of_one" 93 93
noncomputable def o700 : Obj := ht16 "worth_of_one" 1185 "worth_of_one" 1186 1187 521 4 695 696 697 698 699 1192 1193
noncomputable def o701 : Obj := ht25 "worth_of_one" 93 93 "basicplus.worth" 1139 700
noncomputable def o702 : Obj := ht0 
noncomputable def o703 : Obj := (PySem.Obj.mk PySem.Value.none Option.none (PySem.Data.fields #[]) #[])
noncomputable def o704 : Obj := ht26 "tree" 1198 "bits" 1199 "digits" 1200 "kind" 1201 "value" 1202
noncomputable def o705 : Obj := ht0 
noncomputable def o706 : Obj := ht24 "worth_of_leaf" 94 94
noncomputable def o707 : Obj := ht16 "worth_of_leaf" 1195 "worth_of_leaf" 1196 1197 525 3 702 703 704 705 706 1203 1204
noncomputable def o708 : Obj := ht25 "worth_of_leaf" 94 94 "basicplus.worth" 1139 707
noncomputable def o709 : Obj := ht0 
noncomputable def o710 : Obj := (PySem.Obj.mk PySem.Value.none Option.none (PySem.Data.fields #[]) #[])
noncomputable def o711 : Obj := ht30 "tree" 1209 "parts" 1210 "hooks" 1211 "kind" 1212
noncomputable def o712 : Obj := ht0 
noncomputable def o713 : Obj := ht24 "worth_of_tree" 95 95
noncomputable def o714 : Obj := ht16 "worth_of_tree" 1206 "worth_of_tree" 1207 1208 530 3 709 710 711 712 713 1213 1214
noncomputable def o715 : Obj := ht25 "worth_of_tree" 95 95 "basicplus.worth" 1139 714
noncomputable def o716 : Obj := ht0 
noncomputable def o717 : Obj := (PySem.Obj.mk PySem.Value.none Option.none (PySem.Data.fields #[]) #[])
noncomputable def o718 : Obj := ht24 "worth" 96 96
noncomputable def o719 : Obj := ht48 "worth" 1216 1217 1218 543 2 716 717 718 1219 1220
noncomputable def o720 : Obj := ht25 "worth" 96 96 "basicplus.worth" 1139 719
noncomputable def o721 : Obj := ht0 
noncomputable def o722 : Obj := (PySem.Obj.mk PySem.Value.none Option.none (PySem.Data.fields #[]) #[])
noncomputable def o723 : Obj := ht14 "bag" 1227 "below" 1228 "spot" 1229
noncomputable def o724 : Obj := ht0 
noncomputable def o725 : Obj := ht24 "_law_drawn_next" 98 98
noncomputable def o726 : Obj := ht16 "_law_drawn_next" 1224 "_law_drawn_next" 1225 1226 557 2 721 722 723 724 725 1230 1231
noncomputable def o727 : Obj := ht25 "_law_drawn_next" 98 98 "law_xm0046_01" 1222 726
noncomputable def o728 : Obj := ht0 
noncomputable def o729 : Obj := (PySem.Obj.mk PySem.Value.none Option.none (PySem.Data.fields #[]) #[])
noncomputable def o730 : Obj := ht18 "bag" 1236 "which" 1237
noncomputable def o731 : Obj := ht0 
noncomputable def o732 : Obj := ht24 "_law_leaf" 99 99
noncomputable def o733 : Obj := ht16 "_law_leaf" 1233 "_law_leaf" 1234 1235 561 1 728 729 730 731 732 1238 1239
noncomputable def o734 : Obj := ht25 "_law_leaf" 99 99 "law_xm0046_01" 1222 733
noncomputable def o3v12 (P : Params) : Obj := hdic (.type "dict") ((hents (o3v11 P)) ++ [(hde P "_law_two" 1250 (PySem.Value.ref 741)), (hde P "_law_let" 1258 (PySem.Value.ref 748)), (hde P "_law_test" 1265 (PySem.Value.ref 755)), (hde P "_law_statement" 1274 (PySem.Value.ref 762)), (hde P "_law_put_in" 1283 (PySem.Value.ref 769)), (hde P "_law_ahead" 1293 (PySem.Value.ref 776)), (hde P "_law_value" 1299 (PySem.Value.ref 781)), (hde P "_law_done" 1307 (PySem.Value.ref 788)), (hde P "law" 1313 (PySem.Value.ref 793))]) 108
noncomputable def o12v12 : Obj := hfld ((hflds o12v11) ++ [(PySem.Value.int 564 0), (PySem.Value.int 0 0), (PySem.Value.ref 740), (PySem.Value.int 568 0), (PySem.Value.int 0 0), (PySem.Value.ref 747), (PySem.Value.int 571 0), (PySem.Value.int 0 0), (PySem.Value.ref 754), (PySem.Value.int 573 0), (PySem.Value.int 0 0), (PySem.Value.ref 761), (PySem.Value.int 579 0), (PySem.Value.int 0 0), (PySem.Value.ref 768), (PySem.Value.int 585 0), (PySem.Value.int 0 0), (PySem.Value.ref 775), (PySem.Value.int 590 0), (PySem.Value.int 0 0), (PySem.Value.ref 780), (PySem.Value.int 599 0), (PySem.Value.int 0 0), (PySem.Value.ref 787), (PySem.Value.int 603 0), (PySem.Value.int 0 0), (PySem.Value.ref 792)])
noncomputable def o735 : Obj := ht0 
noncomputable def o736 : Obj := (PySem.Obj.mk PySem.Value.none Option.none (PySem.Data.fields #[]) #[])
noncomputable def o737 : Obj := ht30 "bag" 1244 "signs" 1245 "op" 1246 "one" 1247
noncomputable def o738 : Obj := ht0 
noncomputable def o739 : Obj := ht24 "_law_two" 100 100
noncomputable def o740 : Obj := ht16 "_law_two" 1241 "_law_two" 1242 1243 564 2 735 736 737 738 739 1248 1249
noncomputable def o741 : Obj := ht25 "_law_two" 100 100 "law_xm0046_01" 1222 740
noncomputable def o742 : Obj := ht0 
noncomputable def o743 : Obj := (PySem.Obj.mk PySem.Value.none Option.none (PySem.Data.fields #[]) #[])
noncomputable def o744 : Obj := ht18 "bag" 1254 "name" 1255
noncomputable def o745 : Obj := ht0 
noncomputable def o746 : Obj := ht24 "_law_let" 101 101
noncomputable def o747 : Obj := ht16 "_law_let" 1251 "_law_let" 1252 1253 568 1 742 743 744 745 746 1256 1257
noncomputable def o748 : Obj := ht25 "_law_let" 101 101 "law_xm0046_01" 1222 747
noncomputable def o749 : Obj := ht0 
noncomputable def o750 : Obj := (PySem.Obj.mk PySem.Value.none Option.none (PySem.Data.fields #[]) #[])
noncomputable def o751 : Obj := ht12 "bag" 1262
noncomputable def o752 : Obj := ht0 
noncomputable def o753 : Obj := ht24 "_law_test" 102 102
noncomputable def o754 : Obj := ht16 "_law_test" 1259 "_law_test" 1260 1261 571 1 749 750 751 752 753 1263 1264
noncomputable def o755 : Obj := ht25 "_law_test" 102 102 "law_xm0046_01" 1222 754
noncomputable def o756 : Obj := ht0 
noncomputable def o757 : Obj := (PySem.Obj.mk PySem.Value.none Option.none (PySem.Data.fields #[]) #[])
noncomputable def o758 : Obj := ht14 "bag" 1269 "asked" 1270 "one" 1271
noncomputable def o759 : Obj := ht0 
noncomputable def o760 : Obj := ht24 "_law_statement" 103 103
noncomputable def o761 : Obj := ht16 "_law_statement" 1266 "_law_statement" 1267 1268 573 1 756 757 758 759 760 1272 1273
noncomputable def o762 : Obj := ht25 "_law_statement" 103 103 "law_xm0046_01" 1222 761
noncomputable def o763 : Obj := ht0 
noncomputable def o764 : Obj := (PySem.Obj.mk PySem.Value.none Option.none (PySem.Data.fields #[]) #[])
noncomputable def o765 : Obj := ht14 "tree" 1278 "name" 1279 "new" 1280
noncomputable def o766 : Obj := ht0 
noncomputable def o767 : Obj := ht24 "_law_put_in" 104 104
noncomputable def o768 : Obj := ht16 "_law_put_in" 1275 "_law_put_in" 1276 1277 579 3 763 764 765 766 767 1281 1282
noncomputable def o769 : Obj := ht25 "_law_put_in" 104 104 "law_xm0046_01" 1222 768
noncomputable def o770 : Obj := ht0 
noncomputable def o771 : Obj := (PySem.Obj.mk PySem.Value.none Option.none (PySem.Data.fields #[]) #[])
noncomputable def o772 : Obj := ht30 "statement" 1287 "due" 1288 "one" 1289 "other" 1290
noncomputable def o773 : Obj := ht0 
noncomputable def o774 : Obj := ht24 "_law_ahead" 105 105
noncomputable def o775 : Obj := ht16 "_law_ahead" 1284 "_law_ahead" 1285 1286 585 2 770 771 772 773 774 1291 1292
noncomputable def o776 : Obj := ht25 "_law_ahead" 105 105 "law_xm0046_01" 1222 775
noncomputable def o777 : Obj := ht0 
noncomputable def o778 : Obj := (PySem.Obj.mk PySem.Value.none Option.none (PySem.Data.fields #[]) #[])
noncomputable def o779 : Obj := ht24 "_law_value" 106 106
noncomputable def o780 : Obj := ht48 "_law_value" 1294 1295 1296 590 2 777 778 779 1297 1298
noncomputable def o781 : Obj := ht25 "_law_value" 106 106 "law_xm0046_01" 1222 780
noncomputable def o782 : Obj := ht0 
noncomputable def o783 : Obj := (PySem.Obj.mk PySem.Value.none Option.none (PySem.Data.fields #[]) #[])
noncomputable def o784 : Obj := ht18 "statement" 1303 "values" 1304
noncomputable def o785 : Obj := ht0 
noncomputable def o786 : Obj := ht24 "_law_done" 107 107
noncomputable def o787 : Obj := ht16 "_law_done" 1300 "_law_done" 1301 1302 599 2 782 783 784 785 786 1305 1306
noncomputable def o788 : Obj := ht25 "_law_done" 107 107 "law_xm0046_01" 1222 787
noncomputable def o789 : Obj := ht0 
noncomputable def o790 : Obj := (PySem.Obj.mk PySem.Value.none Option.none (PySem.Data.fields #[]) #[])
noncomputable def o791 : Obj := ht24 "law" 108 108
noncomputable def o792 : Obj := ht48 "law" 1308 1309 1310 603 1 789 790 791 1311 1312
noncomputable def o793 : Obj := ht25 "law" 108 108 "law_xm0046_01" 1222 792
noncomputable def heapA (P : Params) : Heap := ⟨⟨[boot_o_0 P, boot_o_1 P, boot_o_2 P, boot_o_3 P, boot_o_4 P, boot_o_5 P, boot_o_6 P, boot_o_7 P, boot_o_8 P, boot_o_9 P, boot_o_10 P, o11, o12, o13, o14]⟩, {}⟩
noncomputable def tree1 (P : Params) : BT := hmkT [boot_o_0 P, boot_o_1 P, boot_o_2 P, boot_o_3 P, boot_o_4 P, boot_o_5 P, boot_o_6 P, boot_o_7 P, boot_o_8 P, boot_o_9 P, boot_o_10 P, o11, o12, o13, o14]
noncomputable def tree2 (P : Params) : BT := hmkT [boot_o_0 P, boot_o_1 P, o2 P, o3 P, boot_o_4 P, boot_o_5 P, boot_o_6 P, boot_o_7 P, boot_o_8 P, boot_o_9 P, boot_o_10 P, o11, o12v1, o13, o14, o15, o16, o17 P, o18, o19, o20, o21, o22, o23, o24, o25, o26, o27, o28, o29, o30, o31, o32, o33 P, o34, o35, o36, o37, o38, o39, o40, o41, o42, o43, o44, o45, o46, o47, o48, o49, o50, o51, o52, o53, o54, o55, o56, o57, o58]
noncomputable def tree3 (P : Params) : BT := hmkT [boot_o_0 P, boot_o_1 P, o2 P, o3v1 P, boot_o_4 P, boot_o_5 P, boot_o_6 P, boot_o_7 P, boot_o_8 P, boot_o_9 P, boot_o_10 P, o11, o12v2, o13, o14, o15, o16, o17 P, o18, o19, o20, o21, o22, o23, o24, o25, o26, o27, o28, o29, o30, o31, o32, o33 P, o34, o35, o36, o37, o38, o39, o40, o41, o42, o43, o44, o45, o46, o47, o48, o49, o50, o51, o52, o53, o54, o55, o56, o57, o58, o59, o60, o61, o62, o63, o64, o65, o66, o67, o68, o69, o70, o71, o72, o73, o74, o75, o76, o77, o78, o79, o80, o81, o82, o83, o84, o85, o86, o87, o88, o89, o90, o91, o92, o93, o94, o95, o96, o97, o98, o99, o100, o101, o102, o103, o104, o105, o106, o107, o108, o109, o110, o111, o112, o113, o114, o115, o116, o117, o118, o119, o120, o121, o122, o123, o124, o125, o126, o127, o128, o129, o130, o131, o132, o133, o134, o135, o136, o137, o138, o139, o140, o141, o142, o143]
noncomputable def tree4 (P : Params) : BT := hmkT [boot_o_0 P, boot_o_1 P, o2 P, o3v2 P, boot_o_4 P, boot_o_5 P, boot_o_6 P, boot_o_7 P, boot_o_8 P, boot_o_9 P, boot_o_10 P, o11, o12v3, o13, o14, o15, o16, o17 P, o18, o19, o20, o21, o22, o23, o24, o25, o26, o27, o28, o29, o30, o31, o32, o33 P, o34, o35, o36, o37, o38, o39, o40, o41, o42, o43, o44, o45, o46, o47, o48, o49, o50, o51, o52, o53, o54, o55, o56, o57, o58, o59, o60, o61, o62, o63, o64, o65, o66, o67, o68, o69, o70, o71, o72, o73, o74, o75, o76, o77, o78, o79, o80, o81, o82, o83, o84, o85, o86, o87, o88, o89, o90, o91, o92, o93, o94, o95, o96, o97, o98, o99, o100, o101, o102, o103, o104, o105, o106, o107, o108, o109, o110, o111, o112, o113, o114, o115, o116, o117, o118, o119, o120, o121, o122, o123, o124, o125, o126, o127, o128, o129, o130, o131, o132, o133, o134, o135, o136, o137, o138, o139, o140, o141, o142, o143, o144, o145, o146, o147, o148, o149, o150, o151, o152, o153, o154, o155, o156, o157, o158, o159, o160, o161, o162, o163, o164, o165, o166, o167, o168, o169, o170, o171, o172, o173, o174, o175, o176, o177, o178, o179, o180, o181, o182, o183, o184, o185, o186, o187, o188, o189, o190, o191, o192, o193, o194, o195, o196, o197, o198, o199, o200, o201, o202, o203, o204, o205, o206, o207, o208, o209, o210, o211, o212, o213, o214, o215, o216, o217, o218, o219, o220, o221, o222, o223, o224, o225, o226, o227]
noncomputable def tree5 (P : Params) : BT := hmkT [boot_o_0 P, boot_o_1 P, o2 P, o3v3 P, boot_o_4 P, boot_o_5 P, boot_o_6 P, boot_o_7 P, boot_o_8 P, boot_o_9 P, boot_o_10 P, o11, o12v4, o13, o14, o15, o16, o17 P, o18, o19, o20, o21, o22, o23, o24, o25, o26, o27, o28, o29, o30, o31, o32, o33 P, o34, o35, o36, o37, o38, o39, o40, o41, o42, o43, o44, o45, o46, o47, o48, o49, o50, o51, o52, o53, o54, o55, o56, o57, o58, o59, o60, o61, o62, o63, o64, o65, o66, o67, o68, o69, o70, o71, o72, o73, o74, o75, o76, o77, o78, o79, o80, o81, o82, o83, o84, o85, o86, o87, o88, o89, o90, o91, o92, o93, o94, o95, o96, o97, o98, o99, o100, o101, o102, o103, o104, o105, o106, o107, o108, o109, o110, o111, o112, o113, o114, o115, o116, o117, o118, o119, o120, o121, o122, o123, o124, o125, o126, o127, o128, o129, o130, o131, o132, o133, o134, o135, o136, o137, o138, o139, o140, o141, o142, o143, o144, o145, o146, o147, o148, o149, o150, o151, o152, o153, o154, o155, o156, o157, o158, o159, o160, o161, o162, o163, o164, o165, o166, o167, o168, o169, o170, o171, o172, o173, o174, o175, o176, o177, o178, o179, o180, o181, o182, o183, o184, o185, o186, o187, o188, o189, o190, o191, o192, o193, o194, o195, o196, o197, o198, o199, o200, o201, o202, o203, o204, o205, o206, o207, o208, o209, o210, o211, o212, o213, o214, o215, o216, o217, o218, o219, o220, o221, o222, o223, o224, o225, o226, o227, o228, o229, o230, o231, o232, o233, o234, o235, o236, o237, o238, o239, o240, o241, o242, o243, o244, o245, o246, o247, o248, o249, o250, o251, o252, o253, o254, o255, o256, o257, o258, o259, o260, o261, o262, o263, o264, o265, o266, o267, o268, o269, o270, o271, o272, o273, o274, o275, o276, o277, o278, o279, o280, o281, o282, o283, o284, o285, o286, o287, o288, o289, o290]
noncomputable def tree6 (P : Params) : BT := hmkT [boot_o_0 P, boot_o_1 P, o2 P, o3v4 P, boot_o_4 P, boot_o_5 P, boot_o_6 P, boot_o_7 P, boot_o_8 P, boot_o_9 P, boot_o_10 P, o11, o12v5, o13, o14, o15, o16, o17 P, o18, o19, o20, o21, o22, o23, o24, o25, o26, o27, o28, o29, o30, o31, o32, o33 P, o34, o35, o36, o37, o38, o39, o40, o41, o42, o43, o44, o45, o46, o47, o48, o49, o50, o51, o52, o53, o54, o55, o56, o57, o58, o59, o60, o61, o62, o63, o64, o65, o66, o67, o68, o69, o70, o71, o72, o73, o74, o75, o76, o77, o78, o79, o80, o81, o82, o83, o84, o85, o86, o87, o88, o89, o90, o91, o92, o93, o94, o95, o96, o97, o98, o99, o100, o101, o102, o103, o104, o105, o106, o107, o108, o109, o110, o111, o112, o113, o114, o115, o116, o117, o118, o119, o120, o121, o122, o123, o124, o125, o126, o127, o128, o129, o130, o131, o132, o133, o134, o135, o136, o137, o138, o139, o140, o141, o142, o143, o144, o145, o146, o147, o148, o149, o150, o151, o152, o153, o154, o155, o156, o157, o158, o159, o160, o161, o162, o163, o164, o165, o166, o167, o168, o169, o170, o171, o172, o173, o174, o175, o176, o177, o178, o179, o180, o181, o182, o183, o184, o185, o186, o187, o188, o189, o190, o191, o192, o193, o194, o195, o196, o197, o198, o199, o200, o201, o202, o203, o204, o205, o206, o207, o208, o209, o210, o211, o212, o213, o214, o215, o216, o217, o218, o219, o220, o221, o222, o223, o224, o225, o226, o227, o228, o229, o230, o231, o232, o233, o234, o235, o236, o237, o238, o239, o240, o241, o242, o243, o244, o245, o246, o247, o248, o249, o250, o251, o252, o253, o254, o255, o256, o257, o258, o259, o260, o261, o262, o263, o264, o265, o266, o267, o268, o269, o270, o271, o272, o273, o274, o275, o276, o277, o278, o279, o280, o281, o282, o283, o284, o285, o286, o287, o288, o289, o290, o291, o292, o293 P, o294, o295, o296, o297, o298, o299, o300, o301, o302, o303, o304, o305, o306 P, o307, o308, o309, o310, o311, o312, o313, o314, o315, o316, o317, o318, o319, o320, o321, o322, o323, o324, o325, o326, o327, o328, o329, o330, o331, o332, o333, o334, o335, o336, o337, o338, o339, o340, o341, o342, o343, o344, o345, o346]
noncomputable def tree7 (P : Params) : BT := hmkT [boot_o_0 P, boot_o_1 P, o2 P, o3v5 P, boot_o_4 P, boot_o_5 P, boot_o_6 P, boot_o_7 P, boot_o_8 P, boot_o_9 P, boot_o_10 P, o11, o12v6, o13, o14, o15, o16, o17 P, o18, o19, o20, o21, o22, o23, o24, o25, o26, o27, o28, o29, o30, o31, o32, o33 P, o34, o35, o36, o37, o38, o39, o40, o41, o42, o43, o44, o45, o46, o47, o48, o49, o50, o51, o52, o53, o54, o55, o56, o57, o58, o59, o60, o61, o62, o63, o64, o65, o66, o67, o68, o69, o70, o71, o72, o73, o74, o75, o76, o77, o78, o79, o80, o81, o82, o83, o84, o85, o86, o87, o88, o89, o90, o91, o92, o93, o94, o95, o96, o97, o98, o99, o100, o101, o102, o103, o104, o105, o106, o107, o108, o109, o110, o111, o112, o113, o114, o115, o116, o117, o118, o119, o120, o121, o122, o123, o124, o125, o126, o127, o128, o129, o130, o131, o132, o133, o134, o135, o136, o137, o138, o139, o140, o141, o142, o143, o144, o145, o146, o147, o148, o149, o150, o151, o152, o153, o154, o155, o156, o157, o158, o159, o160, o161, o162, o163, o164, o165, o166, o167, o168, o169, o170, o171, o172, o173, o174, o175, o176, o177, o178, o179, o180, o181, o182, o183, o184, o185, o186, o187, o188, o189, o190, o191, o192, o193, o194, o195, o196, o197, o198, o199, o200, o201, o202, o203, o204, o205, o206, o207, o208, o209, o210, o211, o212, o213, o214, o215, o216, o217, o218, o219, o220, o221, o222, o223, o224, o225, o226, o227, o228, o229, o230, o231, o232, o233, o234, o235, o236, o237, o238, o239, o240, o241, o242, o243, o244, o245, o246, o247, o248, o249, o250, o251, o252, o253, o254, o255, o256, o257, o258, o259, o260, o261, o262, o263, o264, o265, o266, o267, o268, o269, o270, o271, o272, o273, o274, o275, o276, o277, o278, o279, o280, o281, o282, o283, o284, o285, o286, o287, o288, o289, o290, o291, o292, o293 P, o294, o295, o296, o297, o298, o299, o300, o301, o302, o303, o304, o305, o306 P, o307, o308, o309, o310, o311, o312, o313, o314, o315, o316, o317, o318, o319, o320, o321, o322, o323, o324, o325, o326, o327, o328, o329, o330, o331, o332, o333, o334, o335, o336, o337, o338, o339, o340, o341, o342, o343, o344, o345, o346, o347, o348, o349, o350, o351, o352, o353, o354, o355, o356, o357, o358, o359, o360, o361, o362, o363, o364, o365, o366, o367, o368, o369, o370, o371, o372, o373, o374, o375, o376, o377, o378, o379, o380, o381, o382, o383, o384, o385, o386, o387, o388, o389, o390, o391, o392, o393, o394, o395, o396, o397, o398, o399, o400, o401, o402, o403, o404, o405, o406]
noncomputable def tree8 (P : Params) : BT := hmkT [boot_o_0 P, boot_o_1 P, o2 P, o3v6 P, boot_o_4 P, boot_o_5 P, boot_o_6 P, boot_o_7 P, boot_o_8 P, boot_o_9 P, boot_o_10 P, o11, o12v7, o13, o14, o15, o16, o17 P, o18, o19, o20, o21, o22, o23, o24, o25, o26, o27, o28, o29, o30, o31, o32, o33 P, o34, o35, o36, o37, o38, o39, o40, o41, o42, o43, o44, o45, o46, o47, o48, o49, o50, o51, o52, o53, o54, o55, o56, o57, o58, o59, o60, o61, o62, o63, o64, o65, o66, o67, o68, o69, o70, o71, o72, o73, o74, o75, o76, o77, o78, o79, o80, o81, o82, o83, o84, o85, o86, o87, o88, o89, o90, o91, o92, o93, o94, o95, o96, o97, o98, o99, o100, o101, o102, o103, o104, o105, o106, o107, o108, o109, o110, o111, o112, o113, o114, o115, o116, o117, o118, o119, o120, o121, o122, o123, o124, o125, o126, o127, o128, o129, o130, o131, o132, o133, o134, o135, o136, o137, o138, o139, o140, o141, o142, o143, o144, o145, o146, o147, o148, o149, o150, o151, o152, o153, o154, o155, o156, o157, o158, o159, o160, o161, o162, o163, o164, o165, o166, o167, o168, o169, o170, o171, o172, o173, o174, o175, o176, o177, o178, o179, o180, o181, o182, o183, o184, o185, o186, o187, o188, o189, o190, o191, o192, o193, o194, o195, o196, o197, o198, o199, o200, o201, o202, o203, o204, o205, o206, o207, o208, o209, o210, o211, o212, o213, o214, o215, o216, o217, o218, o219, o220, o221, o222, o223, o224, o225, o226, o227, o228, o229, o230, o231, o232, o233, o234, o235, o236, o237, o238, o239, o240, o241, o242, o243, o244, o245, o246, o247, o248, o249, o250, o251, o252, o253, o254, o255, o256, o257, o258, o259, o260, o261, o262, o263, o264, o265, o266, o267, o268, o269, o270, o271, o272, o273, o274, o275, o276, o277, o278, o279, o280, o281, o282, o283, o284, o285, o286, o287, o288, o289, o290, o291, o292, o293 P, o294, o295, o296, o297, o298, o299, o300, o301, o302, o303, o304, o305, o306 P, o307, o308, o309, o310, o311, o312, o313, o314, o315, o316, o317, o318, o319, o320, o321, o322, o323, o324, o325, o326, o327, o328, o329, o330, o331, o332, o333, o334, o335, o336, o337, o338, o339, o340, o341, o342, o343, o344, o345, o346, o347, o348, o349, o350, o351, o352, o353, o354, o355, o356, o357, o358, o359, o360, o361, o362, o363, o364, o365, o366, o367, o368, o369, o370, o371, o372, o373, o374, o375, o376, o377, o378, o379, o380, o381, o382, o383, o384, o385, o386, o387, o388, o389, o390, o391, o392, o393, o394, o395, o396, o397, o398, o399, o400, o401, o402, o403, o404, o405, o406, o407, o408, o409 P, o410, o411, o412, o413, o414, o415, o416, o417, o418, o419, o420, o421, o422 P, o423, o424, o425, o426, o427, o428, o429, o430, o431, o432, o433, o434, o435, o436, o437, o438, o439, o440, o441, o442, o443, o444, o445, o446, o447, o448, o449, o450, o451, o452, o453, o454, o455, o456, o457, o458, o459, o460, o461, o462]
noncomputable def tree9 (P : Params) : BT := hmkT [boot_o_0 P, boot_o_1 P, o2 P, o3v7 P, boot_o_4 P, boot_o_5 P, boot_o_6 P, boot_o_7 P, boot_o_8 P, boot_o_9 P, boot_o_10 P, o11, o12v8, o13, o14, o15, o16, o17 P, o18, o19, o20, o21, o22, o23, o24, o25, o26, o27, o28, o29, o30, o31, o32, o33 P, o34, o35, o36, o37, o38, o39, o40, o41, o42, o43, o44, o45, o46, o47, o48, o49, o50, o51, o52, o53, o54, o55, o56, o57, o58, o59, o60, o61, o62, o63, o64, o65, o66, o67, o68, o69, o70, o71, o72, o73, o74, o75, o76, o77, o78, o79, o80, o81, o82, o83, o84, o85, o86, o87, o88, o89, o90, o91, o92, o93, o94, o95, o96, o97, o98, o99, o100, o101, o102, o103, o104, o105, o106, o107, o108, o109, o110, o111, o112, o113, o114, o115, o116, o117, o118, o119, o120, o121, o122, o123, o124, o125, o126, o127, o128, o129, o130, o131, o132, o133, o134, o135, o136, o137, o138, o139, o140, o141, o142, o143, o144, o145, o146, o147, o148, o149, o150, o151, o152, o153, o154, o155, o156, o157, o158, o159, o160, o161, o162, o163, o164, o165, o166, o167, o168, o169, o170, o171, o172, o173, o174, o175, o176, o177, o178, o179, o180, o181, o182, o183, o184, o185, o186, o187, o188, o189, o190, o191, o192, o193, o194, o195, o196, o197, o198, o199, o200, o201, o202, o203, o204, o205, o206, o207, o208, o209, o210, o211, o212, o213, o214, o215, o216, o217, o218, o219, o220, o221, o222, o223, o224, o225, o226, o227, o228, o229, o230, o231, o232, o233, o234, o235, o236, o237, o238, o239, o240, o241, o242, o243, o244, o245, o246, o247, o248, o249, o250, o251, o252, o253, o254, o255, o256, o257, o258, o259, o260, o261, o262, o263, o264, o265, o266, o267, o268, o269, o270, o271, o272, o273, o274, o275, o276, o277, o278, o279, o280, o281, o282, o283, o284, o285, o286, o287, o288, o289, o290, o291, o292, o293 P, o294, o295, o296, o297, o298, o299, o300, o301, o302, o303, o304, o305, o306 P, o307, o308, o309, o310, o311, o312, o313, o314, o315, o316, o317, o318, o319, o320, o321, o322, o323, o324, o325, o326, o327, o328, o329, o330, o331, o332, o333, o334, o335, o336, o337, o338, o339, o340, o341, o342, o343, o344, o345, o346, o347, o348, o349, o350, o351, o352, o353, o354, o355, o356, o357, o358, o359, o360, o361, o362, o363, o364, o365, o366, o367, o368, o369, o370, o371, o372, o373, o374, o375, o376, o377, o378, o379, o380, o381, o382, o383, o384, o385, o386, o387, o388, o389, o390, o391, o392, o393, o394, o395, o396, o397, o398, o399, o400, o401, o402, o403, o404, o405, o406, o407, o408, o409 P, o410, o411, o412, o413, o414, o415, o416, o417, o418, o419, o420, o421, o422 P, o423, o424, o425, o426, o427, o428, o429, o430, o431, o432, o433, o434, o435, o436, o437, o438, o439, o440, o441, o442, o443, o444, o445, o446, o447, o448, o449, o450, o451, o452, o453, o454, o455, o456, o457, o458, o459, o460, o461, o462, o463, o464, o465, o466, o467, o468, o469, o470, o471, o472, o473, o474, o475, o476, o477, o478, o479, o480, o481, o482, o483, o484, o485, o486, o487, o488, o489, o490, o491, o492, o493, o494, o495, o496, o497, o498, o499, o500, o501, o502, o503, o504, o505, o506, o507, o508, o509, o510, o511, o512, o513, o514, o515, o516, o517, o518, o519, o520, o521, o522, o523, o524, o525, o526, o527, o528, o529, o530, o531, o532, o533, o534, o535, o536, o537, o538, o539, o540]
noncomputable def tree10 (P : Params) : BT := hmkT [boot_o_0 P, boot_o_1 P, o2 P, o3v8 P, boot_o_4 P, boot_o_5 P, boot_o_6 P, boot_o_7 P, boot_o_8 P, boot_o_9 P, boot_o_10 P, o11, o12v9, o13, o14, o15, o16, o17 P, o18, o19, o20, o21, o22, o23, o24, o25, o26, o27, o28, o29, o30, o31, o32, o33 P, o34, o35, o36, o37, o38, o39, o40, o41, o42, o43, o44, o45, o46, o47, o48, o49, o50, o51, o52, o53, o54, o55, o56, o57, o58, o59, o60, o61, o62, o63, o64, o65, o66, o67, o68, o69, o70, o71, o72, o73, o74, o75, o76, o77, o78, o79, o80, o81, o82, o83, o84, o85, o86, o87, o88, o89, o90, o91, o92, o93, o94, o95, o96, o97, o98, o99, o100, o101, o102, o103, o104, o105, o106, o107, o108, o109, o110, o111, o112, o113, o114, o115, o116, o117, o118, o119, o120, o121, o122, o123, o124, o125, o126, o127, o128, o129, o130, o131, o132, o133, o134, o135, o136, o137, o138, o139, o140, o141, o142, o143, o144, o145, o146, o147, o148, o149, o150, o151, o152, o153, o154, o155, o156, o157, o158, o159, o160, o161, o162, o163, o164, o165, o166, o167, o168, o169, o170, o171, o172, o173, o174, o175, o176, o177, o178, o179, o180, o181, o182, o183, o184, o185, o186, o187, o188, o189, o190, o191, o192, o193, o194, o195, o196, o197, o198, o199, o200, o201, o202, o203, o204, o205, o206, o207, o208, o209, o210, o211, o212, o213, o214, o215, o216, o217, o218, o219, o220, o221, o222, o223, o224, o225, o226, o227, o228, o229, o230, o231, o232, o233, o234, o235, o236, o237, o238, o239, o240, o241, o242, o243, o244, o245, o246, o247, o248, o249, o250, o251, o252, o253, o254, o255, o256, o257, o258, o259, o260, o261, o262, o263, o264, o265, o266, o267, o268, o269, o270, o271, o272, o273, o274, o275, o276, o277, o278, o279, o280, o281, o282, o283, o284, o285, o286, o287, o288, o289, o290, o291, o292, o293 P, o294, o295, o296, o297, o298, o299, o300, o301, o302, o303, o304, o305, o306 P, o307, o308, o309, o310, o311, o312, o313, o314, o315, o316, o317, o318, o319, o320, o321, o322, o323, o324, o325, o326, o327, o328, o329, o330, o331, o332, o333, o334, o335, o336, o337, o338, o339, o340, o341, o342, o343, o344, o345, o346, o347, o348, o349, o350, o351, o352, o353, o354, o355, o356, o357, o358, o359, o360, o361, o362, o363, o364, o365, o366, o367, o368, o369, o370, o371, o372, o373, o374, o375, o376, o377, o378, o379, o380, o381, o382, o383, o384, o385, o386, o387, o388, o389, o390, o391, o392, o393, o394, o395, o396, o397, o398, o399, o400, o401, o402, o403, o404, o405, o406, o407, o408, o409 P, o410, o411, o412, o413, o414, o415, o416, o417, o418, o419, o420, o421, o422 P, o423, o424, o425, o426, o427, o428, o429, o430, o431, o432, o433, o434, o435, o436, o437, o438, o439, o440, o441, o442, o443, o444, o445, o446, o447, o448, o449, o450, o451, o452, o453, o454, o455, o456, o457, o458, o459, o460, o461, o462, o463, o464, o465, o466, o467, o468, o469, o470, o471, o472, o473, o474, o475, o476, o477, o478, o479, o480, o481, o482, o483, o484, o485, o486, o487, o488, o489, o490, o491, o492, o493, o494, o495, o496, o497, o498, o499, o500, o501, o502, o503, o504, o505, o506, o507, o508, o509, o510, o511, o512, o513, o514, o515, o516, o517, o518, o519, o520, o521, o522, o523, o524, o525, o526, o527, o528, o529, o530, o531, o532, o533, o534, o535, o536, o537, o538, o539, o540, o541, o542, o543 P, o544, o545, o546, o547, o548, o549, o550, o551, o552, o553, o554, o555, o556, o557, o558, o559, o560, o561, o562, o563, o564, o565, o566, o567, o568, o569, o570, o571, o572, o573, o574, o575, o576, o577, o578, o579, o580, o581, o582, o583, o584, o585, o586, o587, o588, o589, o590, o591, o592, o593, o594, o595, o596, o597, o598 P, o599, o600, o601, o602, o603]
noncomputable def tree11 (P : Params) : BT := hmkT [boot_o_0 P, boot_o_1 P, o2 P, o3v9 P, boot_o_4 P, boot_o_5 P, boot_o_6 P, boot_o_7 P, boot_o_8 P, boot_o_9 P, boot_o_10 P, o11, o12v9, o13, o14, o15, o16, o17 P, o18, o19, o20, o21, o22, o23, o24, o25, o26, o27, o28, o29, o30, o31, o32, o33 P, o34, o35, o36, o37, o38, o39, o40, o41, o42, o43, o44, o45, o46, o47, o48, o49, o50, o51, o52, o53, o54, o55, o56, o57, o58, o59, o60, o61, o62, o63, o64, o65, o66, o67, o68, o69, o70, o71, o72, o73, o74, o75, o76, o77, o78, o79, o80, o81, o82, o83, o84, o85, o86, o87, o88, o89, o90, o91, o92, o93, o94, o95, o96, o97, o98, o99, o100, o101, o102, o103, o104, o105, o106, o107, o108, o109, o110, o111, o112, o113, o114, o115, o116, o117, o118, o119, o120, o121, o122, o123, o124, o125, o126, o127, o128, o129, o130, o131, o132, o133, o134, o135, o136, o137, o138, o139, o140, o141, o142, o143, o144, o145, o146, o147, o148, o149, o150, o151, o152, o153, o154, o155, o156, o157, o158, o159, o160, o161, o162, o163, o164, o165, o166, o167, o168, o169, o170, o171, o172, o173, o174, o175, o176, o177, o178, o179, o180, o181, o182, o183, o184, o185, o186, o187, o188, o189, o190, o191, o192, o193, o194, o195, o196, o197, o198, o199, o200, o201, o202, o203, o204, o205, o206, o207, o208, o209, o210, o211, o212, o213, o214, o215, o216, o217, o218, o219, o220, o221, o222, o223, o224, o225, o226, o227, o228, o229, o230, o231, o232, o233, o234, o235, o236, o237, o238, o239, o240, o241, o242, o243, o244, o245, o246, o247, o248, o249, o250, o251, o252, o253, o254, o255, o256, o257, o258, o259, o260, o261, o262, o263, o264, o265, o266, o267, o268, o269, o270, o271, o272, o273, o274, o275, o276, o277, o278, o279, o280, o281, o282, o283, o284, o285, o286, o287, o288, o289, o290, o291, o292, o293 P, o294, o295, o296, o297, o298, o299, o300, o301, o302, o303, o304, o305, o306 P, o307, o308, o309, o310, o311, o312, o313, o314, o315, o316, o317, o318, o319, o320, o321, o322, o323, o324, o325, o326, o327, o328, o329, o330, o331, o332, o333, o334, o335, o336, o337, o338, o339, o340, o341, o342, o343, o344, o345, o346, o347, o348, o349, o350, o351, o352, o353, o354, o355, o356, o357, o358, o359, o360, o361, o362, o363, o364, o365, o366, o367, o368, o369, o370, o371, o372, o373, o374, o375, o376, o377, o378, o379, o380, o381, o382, o383, o384, o385, o386, o387, o388, o389, o390, o391, o392, o393, o394, o395, o396, o397, o398, o399, o400, o401, o402, o403, o404, o405, o406, o407, o408, o409 P, o410, o411, o412, o413, o414, o415, o416, o417, o418, o419, o420, o421, o422 P, o423, o424, o425, o426, o427, o428, o429, o430, o431, o432, o433, o434, o435, o436, o437, o438, o439, o440, o441, o442, o443, o444, o445, o446, o447, o448, o449, o450, o451, o452, o453, o454, o455, o456, o457, o458, o459, o460, o461, o462, o463, o464, o465, o466, o467, o468, o469, o470, o471, o472, o473, o474, o475, o476, o477, o478, o479, o480, o481, o482, o483, o484, o485, o486, o487, o488, o489, o490, o491, o492, o493, o494, o495, o496, o497, o498, o499, o500, o501, o502, o503, o504, o505, o506, o507, o508, o509, o510, o511, o512, o513, o514, o515, o516, o517, o518, o519, o520, o521, o522, o523, o524, o525, o526, o527, o528, o529, o530, o531, o532, o533, o534, o535, o536, o537, o538, o539, o540, o541, o542, o543 P, o544, o545, o546, o547, o548, o549, o550, o551, o552, o553, o554, o555, o556, o557, o558, o559, o560, o561, o562, o563, o564, o565, o566, o567, o568, o569, o570, o571, o572, o573, o574, o575, o576, o577, o578, o579, o580, o581, o582, o583, o584, o585, o586, o587, o588, o589, o590, o591, o592, o593, o594, o595, o596, o597, o598 P, o599, o600, o601, o602, o603]
noncomputable def tree12 (P : Params) : BT := hmkT [boot_o_0 P, boot_o_1 P, o2 P, o3v10 P, boot_o_4 P, boot_o_5 P, boot_o_6 P, boot_o_7 P, boot_o_8 P, boot_o_9 P, boot_o_10 P, o11, o12v10, o13, o14, o15, o16, o17 P, o18, o19, o20, o21, o22, o23, o24, o25, o26, o27, o28, o29, o30, o31, o32, o33 P, o34, o35, o36, o37, o38, o39, o40, o41, o42, o43, o44, o45, o46, o47, o48, o49, o50, o51, o52, o53, o54, o55, o56, o57, o58, o59, o60, o61, o62, o63, o64, o65, o66, o67, o68, o69, o70, o71, o72, o73, o74, o75, o76, o77, o78, o79, o80, o81, o82, o83, o84, o85, o86, o87, o88, o89, o90, o91, o92, o93, o94, o95, o96, o97, o98, o99, o100, o101, o102, o103, o104, o105, o106, o107, o108, o109, o110, o111, o112, o113, o114, o115, o116, o117, o118, o119, o120, o121, o122, o123, o124, o125, o126, o127, o128, o129, o130, o131, o132, o133, o134, o135, o136, o137, o138, o139, o140, o141, o142, o143, o144, o145, o146, o147, o148, o149, o150, o151, o152, o153, o154, o155, o156, o157, o158, o159, o160, o161, o162, o163, o164, o165, o166, o167, o168, o169, o170, o171, o172, o173, o174, o175, o176, o177, o178, o179, o180, o181, o182, o183, o184, o185, o186, o187, o188, o189, o190, o191, o192, o193, o194, o195, o196, o197, o198, o199, o200, o201, o202, o203, o204, o205, o206, o207, o208, o209, o210, o211, o212, o213, o214, o215, o216, o217, o218, o219, o220, o221, o222, o223, o224, o225, o226, o227, o228, o229, o230, o231, o232, o233, o234, o235, o236, o237, o238, o239, o240, o241, o242, o243, o244, o245, o246, o247, o248, o249, o250, o251, o252, o253, o254, o255, o256, o257, o258, o259, o260, o261, o262, o263, o264, o265, o266, o267, o268, o269, o270, o271, o272, o273, o274, o275, o276, o277, o278, o279, o280, o281, o282, o283, o284, o285, o286, o287, o288, o289, o290, o291, o292, o293 P, o294, o295, o296, o297, o298, o299, o300, o301, o302, o303, o304, o305, o306 P, o307, o308, o309, o310, o311, o312, o313, o314, o315, o316, o317, o318, o319, o320, o321, o322, o323, o324, o325, o326, o327, o328, o329, o330, o331, o332, o333, o334, o335, o336, o337, o338, o339, o340, o341, o342, o343, o344, o345, o346, o347, o348, o349, o350, o351, o352, o353, o354, o355, o356, o357, o358, o359, o360, o361, o362, o363, o364, o365, o366, o367, o368, o369, o370, o371, o372, o373, o374, o375, o376, o377, o378, o379, o380, o381, o382, o383, o384, o385, o386, o387, o388, o389, o390, o391, o392, o393, o394, o395, o396, o397, o398, o399, o400, o401, o402, o403, o404, o405, o406, o407, o408, o409 P, o410, o411, o412, o413, o414, o415, o416, o417, o418, o419, o420, o421, o422 P, o423, o424, o425, o426, o427, o428, o429, o430, o431, o432, o433, o434, o435, o436, o437, o438, o439, o440, o441, o442, o443, o444, o445, o446, o447, o448, o449, o450, o451, o452, o453, o454, o455, o456, o457, o458, o459, o460, o461, o462, o463, o464, o465, o466, o467, o468, o469, o470, o471, o472, o473, o474, o475, o476, o477, o478, o479, o480, o481, o482, o483, o484, o485, o486, o487, o488, o489, o490, o491, o492, o493, o494, o495, o496, o497, o498, o499, o500, o501, o502, o503, o504, o505, o506, o507, o508, o509, o510, o511, o512, o513, o514, o515, o516, o517, o518, o519, o520, o521, o522, o523, o524, o525, o526, o527, o528, o529, o530, o531, o532, o533, o534, o535, o536, o537, o538, o539, o540, o541, o542, o543 P, o544, o545, o546, o547, o548, o549, o550, o551, o552, o553, o554, o555, o556, o557, o558, o559, o560, o561, o562, o563, o564, o565, o566, o567, o568, o569, o570, o571, o572, o573, o574, o575, o576, o577, o578, o579, o580, o581, o582, o583, o584, o585, o586, o587, o588, o589, o590, o591, o592, o593, o594, o595, o596, o597, o598 P, o599, o600, o601, o602, o603, o604, o605, o606 P, o607, o608, o609, o610, o611, o612, o613, o614, o615, o616, o617, o618, o619, o620, o621, o622, o623, o624, o625, o626, o627, o628, o629, o630, o631, o632, o633, o634, o635, o636, o637, o638, o639, o640, o641, o642, o643, o644, o645, o646, o647, o648, o649, o650, o651, o652, o653, o654 P, o655, o656, o657, o658, o659]
noncomputable def tree13 (P : Params) : BT := hmkT [boot_o_0 P, boot_o_1 P, o2 P, o3v11 P, boot_o_4 P, boot_o_5 P, boot_o_6 P, boot_o_7 P, boot_o_8 P, boot_o_9 P, boot_o_10 P, o11, o12v11, o13, o14, o15, o16, o17 P, o18, o19, o20, o21, o22, o23, o24, o25, o26, o27, o28, o29, o30, o31, o32, o33 P, o34, o35, o36, o37, o38, o39, o40, o41, o42, o43, o44, o45, o46, o47, o48, o49, o50, o51, o52, o53, o54, o55, o56, o57, o58, o59, o60, o61, o62, o63, o64, o65, o66, o67, o68, o69, o70, o71, o72, o73, o74, o75, o76, o77, o78, o79, o80, o81, o82, o83, o84, o85, o86, o87, o88, o89, o90, o91, o92, o93, o94, o95, o96, o97, o98, o99, o100, o101, o102, o103, o104, o105, o106, o107, o108, o109, o110, o111, o112, o113, o114, o115, o116, o117, o118, o119, o120, o121, o122, o123, o124, o125, o126, o127, o128, o129, o130, o131, o132, o133, o134, o135, o136, o137, o138, o139, o140, o141, o142, o143, o144, o145, o146, o147, o148, o149, o150, o151, o152, o153, o154, o155, o156, o157, o158, o159, o160, o161, o162, o163, o164, o165, o166, o167, o168, o169, o170, o171, o172, o173, o174, o175, o176, o177, o178, o179, o180, o181, o182, o183, o184, o185, o186, o187, o188, o189, o190, o191, o192, o193, o194, o195, o196, o197, o198, o199, o200, o201, o202, o203, o204, o205, o206, o207, o208, o209, o210, o211, o212, o213, o214, o215, o216, o217, o218, o219, o220, o221, o222, o223, o224, o225, o226, o227, o228, o229, o230, o231, o232, o233, o234, o235, o236, o237, o238, o239, o240, o241, o242, o243, o244, o245, o246, o247, o248, o249, o250, o251, o252, o253, o254, o255, o256, o257, o258, o259, o260, o261, o262, o263, o264, o265, o266, o267, o268, o269, o270, o271, o272, o273, o274, o275, o276, o277, o278, o279, o280, o281, o282, o283, o284, o285, o286, o287, o288, o289, o290, o291, o292, o293 P, o294, o295, o296, o297, o298, o299, o300, o301, o302, o303, o304, o305, o306 P, o307, o308, o309, o310, o311, o312, o313, o314, o315, o316, o317, o318, o319, o320, o321, o322, o323, o324, o325, o326, o327, o328, o329, o330, o331, o332, o333, o334, o335, o336, o337, o338, o339, o340, o341, o342, o343, o344, o345, o346, o347, o348, o349, o350, o351, o352, o353, o354, o355, o356, o357, o358, o359, o360, o361, o362, o363, o364, o365, o366, o367, o368, o369, o370, o371, o372, o373, o374, o375, o376, o377, o378, o379, o380, o381, o382, o383, o384, o385, o386, o387, o388, o389, o390, o391, o392, o393, o394, o395, o396, o397, o398, o399, o400, o401, o402, o403, o404, o405, o406, o407, o408, o409 P, o410, o411, o412, o413, o414, o415, o416, o417, o418, o419, o420, o421, o422 P, o423, o424, o425, o426, o427, o428, o429, o430, o431, o432, o433, o434, o435, o436, o437, o438, o439, o440, o441, o442, o443, o444, o445, o446, o447, o448, o449, o450, o451, o452, o453, o454, o455, o456, o457, o458, o459, o460, o461, o462, o463, o464, o465, o466, o467, o468, o469, o470, o471, o472, o473, o474, o475, o476, o477, o478, o479, o480, o481, o482, o483, o484, o485, o486, o487, o488, o489, o490, o491, o492, o493, o494, o495, o496, o497, o498, o499, o500, o501, o502, o503, o504, o505, o506, o507, o508, o509, o510, o511, o512, o513, o514, o515, o516, o517, o518, o519, o520, o521, o522, o523, o524, o525, o526, o527, o528, o529, o530, o531, o532, o533, o534, o535, o536, o537, o538, o539, o540, o541, o542, o543 P, o544, o545, o546, o547, o548, o549, o550, o551, o552, o553, o554, o555, o556, o557, o558, o559, o560, o561, o562, o563, o564, o565, o566, o567, o568, o569, o570, o571, o572, o573, o574, o575, o576, o577, o578, o579, o580, o581, o582, o583, o584, o585, o586, o587, o588, o589, o590, o591, o592, o593, o594, o595, o596, o597, o598 P, o599, o600, o601, o602, o603, o604, o605, o606 P, o607, o608, o609, o610, o611, o612, o613, o614, o615, o616, o617, o618, o619, o620, o621, o622, o623, o624, o625, o626, o627, o628, o629, o630, o631, o632, o633, o634, o635, o636, o637, o638, o639, o640, o641, o642, o643, o644, o645, o646, o647, o648, o649, o650, o651, o652, o653, o654 P, o655, o656, o657, o658, o659, o660, o661, o662, o663, o664, o665, o666, o667, o668, o669, o670, o671, o672, o673, o674, o675, o676, o677, o678, o679, o680, o681, o682, o683, o684, o685, o686, o687, o688, o689, o690, o691, o692, o693, o694, o695, o696, o697, o698, o699, o700, o701, o702, o703, o704, o705, o706, o707, o708, o709, o710, o711, o712, o713, o714, o715, o716, o717, o718, o719, o720, o721, o722, o723, o724, o725, o726, o727, o728, o729, o730, o731, o732, o733, o734]
noncomputable def tree14 (P : Params) : BT := hmkT [boot_o_0 P, boot_o_1 P, o2 P, o3v12 P, boot_o_4 P, boot_o_5 P, boot_o_6 P, boot_o_7 P, boot_o_8 P, boot_o_9 P, boot_o_10 P, o11, o12v12, o13, o14, o15, o16, o17 P, o18, o19, o20, o21, o22, o23, o24, o25, o26, o27, o28, o29, o30, o31, o32, o33 P, o34, o35, o36, o37, o38, o39, o40, o41, o42, o43, o44, o45, o46, o47, o48, o49, o50, o51, o52, o53, o54, o55, o56, o57, o58, o59, o60, o61, o62, o63, o64, o65, o66, o67, o68, o69, o70, o71, o72, o73, o74, o75, o76, o77, o78, o79, o80, o81, o82, o83, o84, o85, o86, o87, o88, o89, o90, o91, o92, o93, o94, o95, o96, o97, o98, o99, o100, o101, o102, o103, o104, o105, o106, o107, o108, o109, o110, o111, o112, o113, o114, o115, o116, o117, o118, o119, o120, o121, o122, o123, o124, o125, o126, o127, o128, o129, o130, o131, o132, o133, o134, o135, o136, o137, o138, o139, o140, o141, o142, o143, o144, o145, o146, o147, o148, o149, o150, o151, o152, o153, o154, o155, o156, o157, o158, o159, o160, o161, o162, o163, o164, o165, o166, o167, o168, o169, o170, o171, o172, o173, o174, o175, o176, o177, o178, o179, o180, o181, o182, o183, o184, o185, o186, o187, o188, o189, o190, o191, o192, o193, o194, o195, o196, o197, o198, o199, o200, o201, o202, o203, o204, o205, o206, o207, o208, o209, o210, o211, o212, o213, o214, o215, o216, o217, o218, o219, o220, o221, o222, o223, o224, o225, o226, o227, o228, o229, o230, o231, o232, o233, o234, o235, o236, o237, o238, o239, o240, o241, o242, o243, o244, o245, o246, o247, o248, o249, o250, o251, o252, o253, o254, o255, o256, o257, o258, o259, o260, o261, o262, o263, o264, o265, o266, o267, o268, o269, o270, o271, o272, o273, o274, o275, o276, o277, o278, o279, o280, o281, o282, o283, o284, o285, o286, o287, o288, o289, o290, o291, o292, o293 P, o294, o295, o296, o297, o298, o299, o300, o301, o302, o303, o304, o305, o306 P, o307, o308, o309, o310, o311, o312, o313, o314, o315, o316, o317, o318, o319, o320, o321, o322, o323, o324, o325, o326, o327, o328, o329, o330, o331, o332, o333, o334, o335, o336, o337, o338, o339, o340, o341, o342, o343, o344, o345, o346, o347, o348, o349, o350, o351, o352, o353, o354, o355, o356, o357, o358, o359, o360, o361, o362, o363, o364, o365, o366, o367, o368, o369, o370, o371, o372, o373, o374, o375, o376, o377, o378, o379, o380, o381, o382, o383, o384, o385, o386, o387, o388, o389, o390, o391, o392, o393, o394, o395, o396, o397, o398, o399, o400, o401, o402, o403, o404, o405, o406, o407, o408, o409 P, o410, o411, o412, o413, o414, o415, o416, o417, o418, o419, o420, o421, o422 P, o423, o424, o425, o426, o427, o428, o429, o430, o431, o432, o433, o434, o435, o436, o437, o438, o439, o440, o441, o442, o443, o444, o445, o446, o447, o448, o449, o450, o451, o452, o453, o454, o455, o456, o457, o458, o459, o460, o461, o462, o463, o464, o465, o466, o467, o468, o469, o470, o471, o472, o473, o474, o475, o476, o477, o478, o479, o480, o481, o482, o483, o484, o485, o486, o487, o488, o489, o490, o491, o492, o493, o494, o495, o496, o497, o498, o499, o500, o501, o502, o503, o504, o505, o506, o507, o508, o509, o510, o511, o512, o513, o514, o515, o516, o517, o518, o519, o520, o521, o522, o523, o524, o525, o526, o527, o528, o529, o530, o531, o532, o533, o534, o535, o536, o537, o538, o539, o540, o541, o542, o543 P, o544, o545, o546, o547, o548, o549, o550, o551, o552, o553, o554, o555, o556, o557, o558, o559, o560, o561, o562, o563, o564, o565, o566, o567, o568, o569, o570, o571, o572, o573, o574, o575, o576, o577, o578, o579, o580, o581, o582, o583, o584, o585, o586, o587, o588, o589, o590, o591, o592, o593, o594, o595, o596, o597, o598 P, o599, o600, o601, o602, o603, o604, o605, o606 P, o607, o608, o609, o610, o611, o612, o613, o614, o615, o616, o617, o618, o619, o620, o621, o622, o623, o624, o625, o626, o627, o628, o629, o630, o631, o632, o633, o634, o635, o636, o637, o638, o639, o640, o641, o642, o643, o644, o645, o646, o647, o648, o649, o650, o651, o652, o653, o654 P, o655, o656, o657, o658, o659, o660, o661, o662, o663, o664, o665, o666, o667, o668, o669, o670, o671, o672, o673, o674, o675, o676, o677, o678, o679, o680, o681, o682, o683, o684, o685, o686, o687, o688, o689, o690, o691, o692, o693, o694, o695, o696, o697, o698, o699, o700, o701, o702, o703, o704, o705, o706, o707, o708, o709, o710, o711, o712, o713, o714, o715, o716, o717, o718, o719, o720, o721, o722, o723, o724, o725, o726, o727, o728, o729, o730, o731, o732, o733, o734, o735, o736, o737, o738, o739, o740, o741, o742, o743, o744, o745, o746, o747, o748, o749, o750, o751, o752, o753, o754, o755, o756, o757, o758, o759, o760, o761, o762, o763, o764, o765, o766, o767, o768, o769, o770, o771, o772, o773, o774, o775, o776, o777, o778, o779, o780, o781, o782, o783, o784, o785, o786, o787, o788, o789, o790, o791, o792, o793]
noncomputable def heapF (P : Params) : Heap := ⟨⟨[boot_o_0 P, boot_o_1 P, o2 P, o3v12 P, boot_o_4 P, boot_o_5 P, boot_o_6 P, boot_o_7 P, boot_o_8 P, boot_o_9 P, boot_o_10 P, o11, o12v12, o13, o14, o15, o16, o17 P, o18, o19, o20, o21, o22, o23, o24, o25, o26, o27, o28, o29, o30, o31, o32, o33 P, o34, o35, o36, o37, o38, o39, o40, o41, o42, o43, o44, o45, o46, o47, o48, o49, o50, o51, o52, o53, o54, o55, o56, o57, o58, o59, o60, o61, o62, o63, o64, o65, o66, o67, o68, o69, o70, o71, o72, o73, o74, o75, o76, o77, o78, o79, o80, o81, o82, o83, o84, o85, o86, o87, o88, o89, o90, o91, o92, o93, o94, o95, o96, o97, o98, o99, o100, o101, o102, o103, o104, o105, o106, o107, o108, o109, o110, o111, o112, o113, o114, o115, o116, o117, o118, o119, o120, o121, o122, o123, o124, o125, o126, o127, o128, o129, o130, o131, o132, o133, o134, o135, o136, o137, o138, o139, o140, o141, o142, o143, o144, o145, o146, o147, o148, o149, o150, o151, o152, o153, o154, o155, o156, o157, o158, o159, o160, o161, o162, o163, o164, o165, o166, o167, o168, o169, o170, o171, o172, o173, o174, o175, o176, o177, o178, o179, o180, o181, o182, o183, o184, o185, o186, o187, o188, o189, o190, o191, o192, o193, o194, o195, o196, o197, o198, o199, o200, o201, o202, o203, o204, o205, o206, o207, o208, o209, o210, o211, o212, o213, o214, o215, o216, o217, o218, o219, o220, o221, o222, o223, o224, o225, o226, o227, o228, o229, o230, o231, o232, o233, o234, o235, o236, o237, o238, o239, o240, o241, o242, o243, o244, o245, o246, o247, o248, o249, o250, o251, o252, o253, o254, o255, o256, o257, o258, o259, o260, o261, o262, o263, o264, o265, o266, o267, o268, o269, o270, o271, o272, o273, o274, o275, o276, o277, o278, o279, o280, o281, o282, o283, o284, o285, o286, o287, o288, o289, o290, o291, o292, o293 P, o294, o295, o296, o297, o298, o299, o300, o301, o302, o303, o304, o305, o306 P, o307, o308, o309, o310, o311, o312, o313, o314, o315, o316, o317, o318, o319, o320, o321, o322, o323, o324, o325, o326, o327, o328, o329, o330, o331, o332, o333, o334, o335, o336, o337, o338, o339, o340, o341, o342, o343, o344, o345, o346, o347, o348, o349, o350, o351, o352, o353, o354, o355, o356, o357, o358, o359, o360, o361, o362, o363, o364, o365, o366, o367, o368, o369, o370, o371, o372, o373, o374, o375, o376, o377, o378, o379, o380, o381, o382, o383, o384, o385, o386, o387, o388, o389, o390, o391, o392, o393, o394, o395, o396, o397, o398, o399, o400, o401, o402, o403, o404, o405, o406, o407, o408, o409 P, o410, o411, o412, o413, o414, o415, o416, o417, o418, o419, o420, o421, o422 P, o423, o424, o425, o426, o427, o428, o429, o430, o431, o432, o433, o434, o435, o436, o437, o438, o439, o440, o441, o442, o443, o444, o445, o446, o447, o448, o449, o450, o451, o452, o453, o454, o455, o456, o457, o458, o459, o460, o461, o462, o463, o464, o465, o466, o467, o468, o469, o470, o471, o472, o473, o474, o475, o476, o477, o478, o479, o480, o481, o482, o483, o484, o485, o486, o487, o488, o489, o490, o491, o492, o493, o494, o495, o496, o497, o498, o499, o500, o501, o502, o503, o504, o505, o506, o507, o508, o509, o510, o511, o512, o513, o514, o515, o516, o517, o518, o519, o520, o521, o522, o523, o524, o525, o526, o527, o528, o529, o530, o531, o532, o533, o534, o535, o536, o537, o538, o539, o540, o541, o542, o543 P, o544, o545, o546, o547, o548, o549, o550, o551, o552, o553, o554, o555, o556, o557, o558, o559, o560, o561, o562, o563, o564, o565, o566, o567, o568, o569, o570, o571, o572, o573, o574, o575, o576, o577, o578, o579, o580, o581, o582, o583, o584, o585, o586, o587, o588, o589, o590, o591, o592, o593, o594, o595, o596, o597, o598 P, o599, o600, o601, o602, o603, o604, o605, o606 P, o607, o608, o609, o610, o611, o612, o613, o614, o615, o616, o617, o618, o619, o620, o621, o622, o623, o624, o625, o626, o627, o628, o629, o630, o631, o632, o633, o634, o635, o636, o637, o638, o639, o640, o641, o642, o643, o644, o645, o646, o647, o648, o649, o650, o651, o652, o653, o654 P, o655, o656, o657, o658, o659, o660, o661, o662, o663, o664, o665, o666, o667, o668, o669, o670, o671, o672, o673, o674, o675, o676, o677, o678, o679, o680, o681, o682, o683, o684, o685, o686, o687, o688, o689, o690, o691, o692, o693, o694, o695, o696, o697, o698, o699, o700, o701, o702, o703, o704, o705, o706, o707, o708, o709, o710, o711, o712, o713, o714, o715, o716, o717, o718, o719, o720, o721, o722, o723, o724, o725, o726, o727, o728, o729, o730, o731, o732, o733, o734, o735, o736, o737, o738, o739, o740, o741, o742, o743, o744, o745, o746, o747, o748, o749, o750, o751, o752, o753, o754, o755, o756, o757, o758, o759, o760, o761, o762, o763, o764, o765, o766, o767, o768, o769, o770, o771, o772, o773, o774, o775, o776, o777, o778, o779, o780, o781, o782, o783, o784, o785, o786, o787, o788, o789, o790, o791, o792, o793]⟩, {}⟩
noncomputable def hK (P : Params) : Frag := (nat_lit 2, o2 P) :: (nat_lit 3, o3v12 P) :: (nat_lit 15, o15) :: (nat_lit 18, o18) :: (nat_lit 23, o23) :: (nat_lit 24, o24) :: (nat_lit 25, o25) :: (nat_lit 27, o27) :: (nat_lit 28, o28) :: (nat_lit 30, o30) :: (nat_lit 31, o31) :: (nat_lit 32, o32) :: (nat_lit 33, o33 P) :: (nat_lit 34, o34) :: (nat_lit 35, o35) :: (nat_lit 38, o38) :: (nat_lit 40, o40) :: (nat_lit 41, o41) :: (nat_lit 43, o43) :: (nat_lit 44, o44) :: (nat_lit 45, o45) :: (nat_lit 47, o47) :: (nat_lit 48, o48) :: (nat_lit 50, o50) :: (nat_lit 51, o51) :: (nat_lit 52, o52) :: (nat_lit 54, o54) :: (nat_lit 55, o55) :: (nat_lit 57, o57) :: (nat_lit 58, o58) :: (nat_lit 59, o59) :: (nat_lit 61, o61) :: (nat_lit 62, o62) :: (nat_lit 64, o64) :: (nat_lit 65, o65) :: (nat_lit 66, o66) :: (nat_lit 68, o68) :: (nat_lit 69, o69) :: (nat_lit 71, o71) :: (nat_lit 72, o72) :: (nat_lit 73, o73) :: (nat_lit 75, o75) :: (nat_lit 76, o76) :: (nat_lit 78, o78) :: (nat_lit 79, o79) :: (nat_lit 80, o80) :: (nat_lit 82, o82) :: (nat_lit 83, o83) :: (nat_lit 85, o85) :: (nat_lit 86, o86) :: (nat_lit 87, o87) :: (nat_lit 89, o89) :: (nat_lit 90, o90) :: (nat_lit 92, o92) :: (nat_lit 93, o93) :: (nat_lit 94, o94) :: (nat_lit 96, o96) :: (nat_lit 97, o97) :: (nat_lit 99, o99) :: (nat_lit 100, o100) :: (nat_lit 101, o101) :: (nat_lit 103, o103) :: (nat_lit 104, o104) :: (nat_lit 106, o106) :: (nat_lit 107, o107) :: (nat_lit 108, o108) :: (nat_lit 110, o110) :: (nat_lit 111, o111) :: (nat_lit 113, o113) :: (nat_lit 114, o114) :: (nat_lit 115, o115) :: (nat_lit 117, o117) :: (nat_lit 118, o118) :: (nat_lit 120, o120) :: (nat_lit 121, o121) :: (nat_lit 122, o122) :: (nat_lit 124, o124) :: (nat_lit 125, o125) :: (nat_lit 127, o127) :: (nat_lit 128, o128) :: (nat_lit 129, o129) :: (nat_lit 130, o130) :: (nat_lit 132, o132) :: (nat_lit 133, o133) :: (nat_lit 135, o135) :: (nat_lit 136, o136) :: (nat_lit 137, o137) :: (nat_lit 139, o139) :: (nat_lit 140, o140) :: (nat_lit 142, o142) :: (nat_lit 143, o143) :: (nat_lit 144, o144) :: (nat_lit 146, o146) :: (nat_lit 147, o147) :: (nat_lit 149, o149) :: (nat_lit 150, o150) :: (nat_lit 151, o151) :: (nat_lit 153, o153) :: (nat_lit 154, o154) :: (nat_lit 156, o156) :: (nat_lit 157, o157) :: (nat_lit 158, o158) :: (nat_lit 160, o160) :: (nat_lit 161, o161) :: (nat_lit 163, o163) :: (nat_lit 164, o164) :: (nat_lit 165, o165) :: (nat_lit 167, o167) :: (nat_lit 168, o168) :: (nat_lit 170, o170) :: (nat_lit 171, o171) :: (nat_lit 172, o172) :: (nat_lit 174, o174) :: (nat_lit 175, o175) :: (nat_lit 177, o177) :: (nat_lit 178, o178) :: (nat_lit 179, o179) :: (nat_lit 181, o181) :: (nat_lit 182, o182) :: (nat_lit 184, o184) :: (nat_lit 185, o185) :: (nat_lit 186, o186) :: (nat_lit 188, o188) :: (nat_lit 189, o189) :: (nat_lit 191, o191) :: (nat_lit 192, o192) :: (nat_lit 193, o193) :: (nat_lit 195, o195) :: (nat_lit 196, o196) :: (nat_lit 198, o198) :: (nat_lit 199, o199) :: (nat_lit 200, o200) :: (nat_lit 202, o202) :: (nat_lit 203, o203) :: (nat_lit 205, o205) :: (nat_lit 206, o206) :: (nat_lit 207, o207) :: (nat_lit 209, o209) :: (nat_lit 210, o210) :: (nat_lit 212, o212) :: (nat_lit 213, o213) :: (nat_lit 214, o214) :: (nat_lit 216, o216) :: (nat_lit 217, o217) :: (nat_lit 219, o219) :: (nat_lit 220, o220) :: (nat_lit 221, o221) :: (nat_lit 223, o223) :: (nat_lit 224, o224) :: (nat_lit 226, o226) :: (nat_lit 227, o227) :: (nat_lit 228, o228) :: (nat_lit 230, o230) :: (nat_lit 231, o231) :: (nat_lit 233, o233) :: (nat_lit 234, o234) :: (nat_lit 235, o235) :: (nat_lit 237, o237) :: (nat_lit 238, o238) :: (nat_lit 240, o240) :: (nat_lit 241, o241) :: (nat_lit 242, o242) :: (nat_lit 244, o244) :: (nat_lit 245, o245) :: (nat_lit 247, o247) :: (nat_lit 248, o248) :: (nat_lit 249, o249) :: (nat_lit 251, o251) :: (nat_lit 252, o252) :: (nat_lit 254, o254) :: (nat_lit 255, o255) :: (nat_lit 256, o256) :: (nat_lit 258, o258) :: (nat_lit 259, o259) :: (nat_lit 261, o261) :: (nat_lit 262, o262) :: (nat_lit 263, o263) :: (nat_lit 265, o265) :: (nat_lit 266, o266) :: (nat_lit 268, o268) :: (nat_lit 269, o269) :: (nat_lit 270, o270) :: (nat_lit 272, o272) :: (nat_lit 273, o273) :: (nat_lit 275, o275) :: (nat_lit 276, o276) :: (nat_lit 277, o277) :: (nat_lit 279, o279) :: (nat_lit 280, o280) :: (nat_lit 282, o282) :: (nat_lit 283, o283) :: (nat_lit 284, o284) :: (nat_lit 286, o286) :: (nat_lit 287, o287) :: (nat_lit 289, o289) :: (nat_lit 290, o290) :: (nat_lit 298, o298) :: (nat_lit 300, o300) :: (nat_lit 301, o301) :: (nat_lit 303, o303) :: (nat_lit 304, o304) :: (nat_lit 305, o305) :: (nat_lit 306, o306 P) :: (nat_lit 307, o307) :: (nat_lit 308, o308) :: (nat_lit 309, o309) :: (nat_lit 312, o312) :: (nat_lit 314, o314) :: (nat_lit 315, o315) :: (nat_lit 317, o317) :: (nat_lit 318, o318) :: (nat_lit 319, o319) :: (nat_lit 321, o321) :: (nat_lit 322, o322) :: (nat_lit 324, o324) :: (nat_lit 325, o325) :: (nat_lit 326, o326) :: (nat_lit 328, o328) :: (nat_lit 329, o329) :: (nat_lit 331, o331) :: (nat_lit 332, o332) :: (nat_lit 333, o333) :: (nat_lit 335, o335) :: (nat_lit 336, o336) :: (nat_lit 338, o338) :: (nat_lit 339, o339) :: (nat_lit 340, o340) :: (nat_lit 342, o342) :: (nat_lit 343, o343) :: (nat_lit 345, o345) :: (nat_lit 346, o346) :: (nat_lit 347, o347) :: (nat_lit 349, o349) :: (nat_lit 350, o350) :: (nat_lit 352, o352) :: (nat_lit 353, o353) :: (nat_lit 354, o354) :: (nat_lit 356, o356) :: (nat_lit 357, o357) :: (nat_lit 359, o359) :: (nat_lit 360, o360) :: (nat_lit 361, o361) :: (nat_lit 363, o363) :: (nat_lit 364, o364) :: (nat_lit 366, o366) :: (nat_lit 367, o367) :: (nat_lit 368, o368) :: (nat_lit 371, o371) :: (nat_lit 372, o372) :: (nat_lit 373, o373) :: (nat_lit 376, o376) :: (nat_lit 377, o377) :: (nat_lit 378, o378) :: (nat_lit 379, o379) :: (nat_lit 381, o381) :: (nat_lit 382, o382) :: (nat_lit 384, o384) :: (nat_lit 385, o385) :: (nat_lit 386, o386) :: (nat_lit 388, o388) :: (nat_lit 389, o389) :: (nat_lit 391, o391) :: (nat_lit 392, o392) :: (nat_lit 393, o393) :: (nat_lit 395, o395) :: (nat_lit 396, o396) :: (nat_lit 398, o398) :: (nat_lit 399, o399) :: (nat_lit 400, o400) :: (nat_lit 402, o402) :: (nat_lit 403, o403) :: (nat_lit 405, o405) :: (nat_lit 406, o406) :: (nat_lit 414, o414) :: (nat_lit 416, o416) :: (nat_lit 417, o417) :: (nat_lit 419, o419) :: (nat_lit 420, o420) :: (nat_lit 421, o421) :: (nat_lit 422, o422 P) :: (nat_lit 423, o423) :: (nat_lit 424, o424) :: (nat_lit 425, o425) :: (nat_lit 428, o428) :: (nat_lit 430, o430) :: (nat_lit 431, o431) :: (nat_lit 433, o433) :: (nat_lit 434, o434) :: (nat_lit 435, o435) :: (nat_lit 437, o437) :: (nat_lit 438, o438) :: (nat_lit 440, o440) :: (nat_lit 441, o441) :: (nat_lit 442, o442) :: (nat_lit 444, o444) :: (nat_lit 445, o445) :: (nat_lit 447, o447) :: (nat_lit 448, o448) :: (nat_lit 449, o449) :: (nat_lit 451, o451) :: (nat_lit 452, o452) :: (nat_lit 454, o454) :: (nat_lit 455, o455) :: (nat_lit 456, o456) :: (nat_lit 458, o458) :: (nat_lit 459, o459) :: (nat_lit 461, o461) :: (nat_lit 462, o462) :: (nat_lit 463, o463) :: (nat_lit 465, o465) :: (nat_lit 466, o466) :: (nat_lit 468, o468) :: (nat_lit 469, o469) :: (nat_lit 470, o470) :: (nat_lit 472, o472) :: (nat_lit 473, o473) :: (nat_lit 475, o475) :: (nat_lit 476, o476) :: (nat_lit 477, o477) :: (nat_lit 479, o479) :: (nat_lit 480, o480) :: (nat_lit 482, o482) :: (nat_lit 483, o483) :: (nat_lit 484, o484) :: (nat_lit 486, o486) :: (nat_lit 487, o487) :: (nat_lit 489, o489) :: (nat_lit 490, o490) :: (nat_lit 491, o491) :: (nat_lit 493, o493) :: (nat_lit 494, o494) :: (nat_lit 496, o496) :: (nat_lit 497, o497) :: (nat_lit 498, o498) :: (nat_lit 500, o500) :: (nat_lit 501, o501) :: (nat_lit 503, o503) :: (nat_lit 504, o504) :: (nat_lit 505, o505) :: (nat_lit 506, o506) :: (nat_lit 508, o508) :: (nat_lit 509, o509) :: (nat_lit 511, o511) :: (nat_lit 512, o512) :: (nat_lit 513, o513) :: (nat_lit 515, o515) :: (nat_lit 516, o516) :: (nat_lit 518, o518) :: (nat_lit 519, o519) :: (nat_lit 520, o520) :: (nat_lit 522, o522) :: (nat_lit 523, o523) :: (nat_lit 525, o525) :: (nat_lit 526, o526) :: (nat_lit 527, o527) :: (nat_lit 529, o529) :: (nat_lit 530, o530) :: (nat_lit 532, o532) :: (nat_lit 533, o533) :: (nat_lit 534, o534) :: (nat_lit 536, o536) :: (nat_lit 537, o537) :: (nat_lit 539, o539) :: (nat_lit 540, o540) :: (nat_lit 548, o548) :: (nat_lit 550, o550) :: (nat_lit 551, o551) :: (nat_lit 553, o553) :: (nat_lit 554, o554) :: (nat_lit 555, o555) :: (nat_lit 557, o557) :: (nat_lit 558, o558) :: (nat_lit 560, o560) :: (nat_lit 561, o561) :: (nat_lit 562, o562) :: (nat_lit 564, o564) :: (nat_lit 565, o565) :: (nat_lit 567, o567) :: (nat_lit 568, o568) :: (nat_lit 569, o569) :: (nat_lit 571, o571) :: (nat_lit 572, o572) :: (nat_lit 574, o574) :: (nat_lit 575, o575) :: (nat_lit 576, o576) :: (nat_lit 578, o578) :: (nat_lit 579, o579) :: (nat_lit 581, o581) :: (nat_lit 582, o582) :: (nat_lit 583, o583) :: (nat_lit 585, o585) :: (nat_lit 586, o586) :: (nat_lit 588, o588) :: (nat_lit 589, o589) :: (nat_lit 590, o590) :: (nat_lit 592, o592) :: (nat_lit 593, o593) :: (nat_lit 595, o595) :: (nat_lit 596, o596) :: (nat_lit 597, o597) :: (nat_lit 598, o598 P) :: (nat_lit 599, o599) :: (nat_lit 600, o600) :: (nat_lit 601, o601) :: (nat_lit 611, o611) :: (nat_lit 613, o613) :: (nat_lit 614, o614) :: (nat_lit 616, o616) :: (nat_lit 617, o617) :: (nat_lit 618, o618) :: (nat_lit 620, o620) :: (nat_lit 621, o621) :: (nat_lit 623, o623) :: (nat_lit 624, o624) :: (nat_lit 625, o625) :: (nat_lit 627, o627) :: (nat_lit 628, o628) :: (nat_lit 630, o630) :: (nat_lit 631, o631) :: (nat_lit 632, o632) :: (nat_lit 634, o634) :: (nat_lit 635, o635) :: (nat_lit 637, o637) :: (nat_lit 638, o638) :: (nat_lit 639, o639) :: (nat_lit 641, o641) :: (nat_lit 642, o642) :: (nat_lit 644, o644) :: (nat_lit 645, o645) :: (nat_lit 646, o646) :: (nat_lit 648, o648) :: (nat_lit 649, o649) :: (nat_lit 651, o651) :: (nat_lit 652, o652) :: (nat_lit 653, o653) :: (nat_lit 654, o654 P) :: (nat_lit 655, o655) :: (nat_lit 656, o656) :: (nat_lit 657, o657) :: (nat_lit 660, o660) :: (nat_lit 662, o662) :: (nat_lit 663, o663) :: (nat_lit 665, o665) :: (nat_lit 666, o666) :: (nat_lit 667, o667) :: (nat_lit 668, o668) :: (nat_lit 669, o669) :: (nat_lit 671, o671) :: (nat_lit 672, o672) :: (nat_lit 674, o674) :: (nat_lit 675, o675) :: (nat_lit 676, o676) :: (nat_lit 678, o678) :: (nat_lit 679, o679) :: (nat_lit 681, o681) :: (nat_lit 682, o682) :: (nat_lit 683, o683) :: (nat_lit 685, o685) :: (nat_lit 686, o686) :: (nat_lit 688, o688) :: (nat_lit 689, o689) :: (nat_lit 690, o690) :: (nat_lit 693, o693) :: (nat_lit 694, o694) :: (nat_lit 695, o695) :: (nat_lit 697, o697) :: (nat_lit 698, o698) :: (nat_lit 700, o700) :: (nat_lit 701, o701) :: (nat_lit 702, o702) :: (nat_lit 704, o704) :: (nat_lit 705, o705) :: (nat_lit 707, o707) :: (nat_lit 708, o708) :: (nat_lit 709, o709) :: (nat_lit 711, o711) :: (nat_lit 712, o712) :: (nat_lit 714, o714) :: (nat_lit 715, o715) :: (nat_lit 716, o716) :: (nat_lit 719, o719) :: (nat_lit 720, o720) :: (nat_lit 721, o721) :: (nat_lit 723, o723) :: (nat_lit 724, o724) :: (nat_lit 726, o726) :: (nat_lit 727, o727) :: (nat_lit 728, o728) :: (nat_lit 730, o730) :: (nat_lit 731, o731) :: (nat_lit 733, o733) :: (nat_lit 734, o734) :: (nat_lit 735, o735) :: (nat_lit 737, o737) :: (nat_lit 738, o738) :: (nat_lit 740, o740) :: (nat_lit 741, o741) :: (nat_lit 742, o742) :: (nat_lit 744, o744) :: (nat_lit 745, o745) :: (nat_lit 747, o747) :: (nat_lit 748, o748) :: (nat_lit 749, o749) :: (nat_lit 751, o751) :: (nat_lit 752, o752) :: (nat_lit 754, o754) :: (nat_lit 755, o755) :: (nat_lit 756, o756) :: (nat_lit 758, o758) :: (nat_lit 759, o759) :: (nat_lit 761, o761) :: (nat_lit 762, o762) :: (nat_lit 763, o763) :: (nat_lit 765, o765) :: (nat_lit 766, o766) :: (nat_lit 768, o768) :: (nat_lit 769, o769) :: (nat_lit 770, o770) :: (nat_lit 772, o772) :: (nat_lit 773, o773) :: (nat_lit 775, o775) :: (nat_lit 776, o776) :: (nat_lit 777, o777) :: (nat_lit 780, o780) :: (nat_lit 781, o781) :: (nat_lit 782, o782) :: (nat_lit 784, o784) :: (nat_lit 785, o785) :: (nat_lit 787, o787) :: (nat_lit 788, o788) :: (nat_lit 789, o789) :: (nat_lit 792, o792) :: (nat_lit 793, o793) :: []
noncomputable def hAs : List Addr := [2, 3, 15, 18, 23, 24, 25, 27, 28, 30, 31, 32, 33, 34, 35, 38, 40, 41, 43, 44, 45, 47, 48, 50, 51, 52, 54, 55, 57, 58, 59, 61, 62, 64, 65, 66, 68, 69, 71, 72, 73, 75, 76, 78, 79, 80, 82, 83, 85, 86, 87, 89, 90, 92, 93, 94, 96, 97, 99, 100, 101, 103, 104, 106, 107, 108, 110, 111, 113, 114, 115, 117, 118, 120, 121, 122, 124, 125, 127, 128, 129, 130, 132, 133, 135, 136, 137, 139, 140, 142, 143, 144, 146, 147, 149, 150, 151, 153, 154, 156, 157, 158, 160, 161, 163, 164, 165, 167, 168, 170, 171, 172, 174, 175, 177, 178, 179, 181, 182, 184, 185, 186, 188, 189, 191, 192, 193, 195, 196, 198, 199, 200, 202, 203, 205, 206, 207, 209, 210, 212, 213, 214, 216, 217, 219, 220, 221, 223, 224, 226, 227, 228, 230, 231, 233, 234, 235, 237, 238, 240, 241, 242, 244, 245, 247, 248, 249, 251, 252, 254, 255, 256, 258, 259, 261, 262, 263, 265, 266, 268, 269, 270, 272, 273, 275, 276, 277, 279, 280, 282, 283, 284, 286, 287, 289, 290, 298, 300, 301, 303, 304, 305, 306, 307, 308, 309, 312, 314, 315, 317, 318, 319, 321, 322, 324, 325, 326, 328, 329, 331, 332, 333, 335, 336, 338, 339, 340, 342, 343, 345, 346, 347, 349, 350, 352, 353, 354, 356, 357, 359, 360, 361, 363, 364, 366, 367, 368, 371, 372, 373, 376, 377, 378, 379, 381, 382, 384, 385, 386, 388, 389, 391, 392, 393, 395, 396, 398, 399, 400, 402, 403, 405, 406, 414, 416, 417, 419, 420, 421, 422, 423, 424, 425, 428, 430, 431, 433, 434, 435, 437, 438, 440, 441, 442, 444, 445, 447, 448, 449, 451, 452, 454, 455, 456, 458, 459, 461, 462, 463, 465, 466, 468, 469, 470, 472, 473, 475, 476, 477, 479, 480, 482, 483, 484, 486, 487, 489, 490, 491, 493, 494, 496, 497, 498, 500, 501, 503, 504, 505, 506, 508, 509, 511, 512, 513, 515, 516, 518, 519, 520, 522, 523, 525, 526, 527, 529, 530, 532, 533, 534, 536, 537, 539, 540, 548, 550, 551, 553, 554, 555, 557, 558, 560, 561, 562, 564, 565, 567, 568, 569, 571, 572, 574, 575, 576, 578, 579, 581, 582, 583, 585, 586, 588, 589, 590, 592, 593, 595, 596, 597, 598, 599, 600, 601, 611, 613, 614, 616, 617, 618, 620, 621, 623, 624, 625, 627, 628, 630, 631, 632, 634, 635, 637, 638, 639, 641, 642, 644, 645, 646, 648, 649, 651, 652, 653, 654, 655, 656, 657, 660, 662, 663, 665, 666, 667, 668, 669, 671, 672, 674, 675, 676, 678, 679, 681, 682, 683, 685, 686, 688, 689, 690, 693, 694, 695, 697, 698, 700, 701, 702, 704, 705, 707, 708, 709, 711, 712, 714, 715, 716, 719, 720, 721, 723, 724, 726, 727, 728, 730, 731, 733, 734, 735, 737, 738, 740, 741, 742, 744, 745, 747, 748, 749, 751, 752, 754, 755, 756, 758, 759, 761, 762, 763, 765, 766, 768, 769, 770, 772, 773, 775, 776, 777, 780, 781, 782, 784, 785, 787, 788, 789, 792, 793]
noncomputable def hKeep : List Nat := [1, 2, 3, 4, 5, 6, 7, 8, 9, 10, 11, 12, 13, 14, 15, 16, 18, 19, 20, 21, 22, 23, 24, 25, 26, 27, 28, 29, 31, 32, 33, 34, 35, 36, 37, 38, 39, 40, 41, 42, 43, 45, 46, 47, 48, 49, 50, 51, 52, 53, 54, 55, 56, 58, 59, 60, 62, 63, 64, 65, 66, 67, 68, 69, 70, 71, 72, 73, 75, 76, 77, 78, 79, 80, 81, 83, 85, 87, 88, 89, 90, 91, 92, 93, 94, 95, 96, 98, 99, 100, 101, 102, 103, 104, 105, 106, 107, 108]
noncomputable def hLoose : List Str := [Str.ofString "BasicError", Str.ofString "wend_place"]
abbrev hD : DefRec := ⟨Str.ofString "law", (PySem.Arguments.mk [] [(PySem.Arg.mk (Str.ofString "script") Option.none (PySem.Pos.mk 603 8 603 14))] Option.none [] [] Option.none []), hB (hst 108), (PySem.Scope.mk PySem.ScopeKind.function [((Str.ofString "script"), PySem.NameKind.local), ((Str.ofString "bag"), PySem.NameKind.cell), ((Str.ofString "values"), PySem.NameKind.local), ((Str.ofString "statements"), PySem.NameKind.local), ((Str.ofString "due"), PySem.NameKind.local), ((Str.ofString "lines"), PySem.NameKind.local), ((Str.ofString "ahead"), PySem.NameKind.local), ((Str.ofString "at"), PySem.NameKind.local), ((Str.ofString "run"), PySem.NameKind.cell), ((Str.ofString "end"), PySem.NameKind.local), ((Str.ofString "statement"), PySem.NameKind.local), ((Str.ofString "truth_due"), PySem.NameKind.local), ((Str.ofString "dict"), PySem.NameKind.globalImplicit), ((Str.ofString "_law_statement"), PySem.NameKind.globalImplicit), ((Str.ofString "_law_let"), PySem.NameKind.globalImplicit), ((Str.ofString "_law_test"), PySem.NameKind.globalImplicit), ((Str.ofString "_law_ahead"), PySem.NameKind.globalImplicit), ((Str.ofString "FlowRun"), PySem.NameKind.globalImplicit), ((Str.ofString "flatten"), PySem.NameKind.globalImplicit), ((Str.ofString "_law_done"), PySem.NameKind.globalImplicit), ((Str.ofString "_law_value"), PySem.NameKind.globalImplicit), ((Str.ofString "len"), PySem.NameKind.globalImplicit)] Bool.false Bool.false [((Str.ofString "fast"), (PySem.Const.str (Str.ofString "script"))), ((Str.ofString "fast"), (PySem.Const.str (Str.ofString "bag"))), ((Str.ofString "fast"), (PySem.Const.str (Str.ofString "name"))), ((Str.ofString "fast"), (PySem.Const.str (Str.ofString "values"))), ((Str.ofString "fast"), (PySem.Const.str (Str.ofString "statements"))), ((Str.ofString "fast"), (PySem.Const.str (Str.ofString "due"))), ((Str.ofString "fast"), (PySem.Const.str (Str.ofString "lines"))), ((Str.ofString "fast"), (PySem.Const.str (Str.ofString "ahead"))), ((Str.ofString "fast"), (PySem.Const.str (Str.ofString "at"))), ((Str.ofString "fast"), (PySem.Const.str (Str.ofString "run"))), ((Str.ofString "fast"), (PySem.Const.str (Str.ofString "end"))), ((Str.ofString "fast"), (PySem.Const.str (Str.ofString "statement"))), ((Str.ofString "fast"), (PySem.Const.str (Str.ofString "truth_due")))]), (PySem.Pos.mk 603 0 621 102)⟩
theorem pc1 : hPc 0 7 369 tree1 15 187 (PySem.Pos.mk 0 0 0 0) tree2 59 254 (PySem.Pos.mk 20 0 29 16) := by intro w; kernel_rfl
theorem pc2 : hPc 7 15 394 tree2 59 254 (PySem.Pos.mk 20 0 29 16) tree3 144 360 (PySem.Pos.mk 86 0 88 76) := by intro w; kernel_rfl
theorem pc3 : hPc 22 13 394 tree3 144 360 (PySem.Pos.mk 86 0 88 76) tree4 228 482 (PySem.Pos.mk 136 0 140 53) := by intro w; kernel_rfl
theorem pc4 : hPc 35 11 306 tree4 228 482 (PySem.Pos.mk 136 0 140 53) tree5 291 575 (PySem.Pos.mk 195 0 195 11) := by intro w; kernel_rfl
theorem pc5 : hPc 46 6 379 tree5 291 575 (PySem.Pos.mk 195 0 195 11) tree6 347 650 (PySem.Pos.mk 218 0 219 85) := by intro w; kernel_rfl
theorem pc6 : hPc 52 10 290 tree6 347 650 (PySem.Pos.mk 218 0 219 85) tree7 407 737 (PySem.Pos.mk 272 0 272 8) := by intro w; kernel_rfl
theorem pc7 : hPc 62 6 393 tree7 407 737 (PySem.Pos.mk 272 0 272 8) tree8 463 826 (PySem.Pos.mk 323 0 327 30) := by intro w; kernel_rfl
theorem pc8 : hPc 68 13 388 tree8 463 826 (PySem.Pos.mk 323 0 327 30) tree9 541 955 (PySem.Pos.mk 405 0 412 17) := by intro w; kernel_rfl
theorem pc9 : hPc 81 1 431 tree9 541 955 (PySem.Pos.mk 405 0 412 17) tree10 604 1048 (PySem.Pos.mk 413 0 455 54) := by intro w; kernel_rfl
theorem pc10 : hPc 82 1 10 tree10 604 1048 (PySem.Pos.mk 413 0 455 54) tree11 604 1050 (PySem.Pos.mk 456 0 456 8) := by intro w; kernel_rfl
theorem pc11 : hPc 83 1 394 tree11 604 1050 (PySem.Pos.mk 456 0 456 8) tree12 660 1130 (PySem.Pos.mk 457 0 485 42) := by intro w; kernel_rfl
theorem pc12 : hPc 84 16 389 tree12 660 1130 (PySem.Pos.mk 457 0 485 42) tree13 735 1241 (PySem.Pos.mk 561 0 563 64) := by intro w; kernel_rfl
theorem pc13 : hPc 100 9 268 tree13 735 1241 (PySem.Pos.mk 561 0 563 64) tree14 794 1314 (PySem.Pos.mk 603 0 621 102) := by intro w; kernel_rfl
end Mine
end
section
open PySem PySem.W PySem.Calls PyProof.Rows PySem.W.Fast
set_option maxRecDepth 100000
set_option maxHeartbeats 0
set_option linter.unusedVariables false
namespace Mine
noncomputable def hQ : Program := view hP hKeep
noncomputable abbrev hs (k : Nat) (w : World) (os : OsState) : Shared := { heap := heapF w.params, gens := #[], drawn := {}, toks := k, os := os }
noncomputable abbrev hXt : Shared → Bool := fun s => xlAt hQ [] s && recOk (RowW.records hL.row.toRowW) s
theorem hwell : hL.wellSaid = true := by rw [te9446332074065402090]; kernel_rfl
theorem hopen1 : opening hP = plainProg hP.main.scope.names := by kernel_rfl
theorem hfence : ∀ s, fenceModules? hP s = some s := by intro s; kernel_rfl
theorem hsize : ∀ w : World, ((boot_heap w.params).isNs mainGlobals && (#[] : Array GenState).size == 0, (boot_heap w.params).objs.size, (boot_heap w.params).nsMap mainGlobals "__annotations__") = (true, 11, some (.ref 6)) := by
  rw [te8920871248978507458]; intro w; kernel_rfl
theorem hpre : ∀ w : World, (fun os => topGo treeTable hP w 11 (some (.ref 6)) 12 ⟨boot_heap w.params, #[], boot_drawn, boot_toks, os⟩ (topStub hP)) = fun os => some ((⟨heapA w.params, #[], {}, 187, os⟩ : Shared), (⟨denote treeTable hC, hC, hpos, hF⟩ : Thread)) := by
  rw [te15667345088766844465, te14364793385576792824, te11892475500146522536]; intro w; kernel_rfl
theorem hblock : ∀ w : World, (fun os => segRun treeTable hP w 11 (some (.ref 6)) 1 1 (⟨heapA w.params, #[], {}, 187, os⟩ : Shared) (blockOf (behindTheImports hP) hEnv hC hpos hF)) =
   fun os => some (Flow.next, SharedT.abs { tree := tree1 w.params, n := 15, life := {}, gens := #[], drawn := {}, toks := 187, os := os }, hC, hpos) := by
  rw [te14374325043358763698, te14364793385576792824]; intro w; kernel_rfl
theorem hfin (q : Pos) : ∀ w : World, (fun os => topRun treeTable hP w 11 (some (.ref 6)) 2 (SharedT.abs { tree := tree14 w.params, n := 794, life := {}, gens := #[], drawn := {}, toks := 1314, os := os }) ⟨doneF .next, hC, q, hF⟩) =
   fun os => some (hs 1314 w os) := by
  rw [te14082659384304107361, te14364793385576792824]; intro w; kernel_rfl
theorem lk1 : ∀ w : World, (fun os => (staticsOk (importedModules hP.main.body) (boot_heap w.params) (heapF w.params) && namesBound hP (heapF w.params) && gensDone (hs 1314 w os) && laidKept (boot_heap w.params) (heapF w.params))) = fun _ => true := by
  rw [te5923862056798008813]; intro w; kernel_rfl
theorem sn1 : ∀ w : World, (fun os => seen ((recsOf hQ).map (·.name)) (ownsOf hQ) [] { (hs 1314 w os) with gens := #[] }) = fun _ => expectedOf hQ := by
  rw [te5160383126252970620, te3399658132070893891, te5991557255702980513]; intro w; kernel_rfl
theorem sn2 : ∀ w : World, (fun os => (hs 1314 w os).heap.bltView) = fun _ => bltViewBooted := by intro w; kernel_rfl
theorem sn3 : ∀ w : World, (fun os => ((hs 1314 w os).heap.keysOk (looseW hQ hLoose) ((recsOf hQ).map (·.name)) ((litsOf hQ).map (·.1)) ((clssOf hQ (looseW hQ hLoose)).map (·.name)) && (hs 1314 w os).heap.accountedOkI (importedModules hP.main.body) && (hs 1314 w os).heap.isNs mainGlobals && (hs 1314 w os).heap.isNs builtinsNs && tablesOk hQ (hs 1314 w os).heap && hXt (hs 1314 w os) && (if true then (hs 1314 w os).gens.size == 0 else !leftWithCleanup (hs 1314 w os).gens))) = fun _ => true := by
  rw [te10880121769531294198, te821141287760084731, te3399658132070893891, te7409074990110511671, te13664370479719496447, te14722251495701143533, te5923862056798008813, te10994771534591457954]; intro w; kernel_rfl
theorem sn4 : ∀ w : World, (fun os => tabsOk hQ (hs 1314 w os)) = fun _ => true := by rw [te479339242167458305]; intro w; kernel_rfl
theorem sn5 : ∀ w : World, (fun os => pinSeenD hQ (drecsOf hQ) (hs 1314 w os)) = fun _ => pinGoodD (drecsOf hQ) := by rw [te16090120013241838585, te3247288618530077131]; intro w; kernel_rfl
theorem sn6 : ∀ w : World, (fun os => plainSeenE hQ (looseW hQ hLoose) (hs 1314 w os)) = fun _ => plainGoodE hQ (looseW hQ hLoose) := by rw [te2386780881361962483, te821141287760084731]; intro w; kernel_rfl
theorem sn7 : ∀ w : World, (fun os => plainSeenD hQ hLoose (hs 1314 w os)) = fun _ => plainGoodD hQ hLoose := by rw [te11698064438423848299]; intro w; kernel_rfl
theorem sn8 : ∀ w : World, (fun os => wideSeen hQ (hs 1314 w os)) = fun _ => wideGood hQ := by rw [te7317090234206586261]; intro w; kernel_rfl
theorem sn9 : ∀ w : World, (fun os => clsSeenW hQ hLoose (hs 1314 w os)) = fun _ => clsGoodW hQ hLoose := by rw [te7369524293546568484]; intro w; kernel_rfl
theorem he : ∀ P, hAs = (hK P).map (·.1) := fun _ => by kernel_rfl
noncomputable abbrev hH : Hook := kmHook hK hAs he [790]
theorem sn10 : ∀ w : World, (fun os => hH.obs (hs 1314 w os)) = fun _ => hH.val w := by intro w; kernel_rfl
end Mine
end
section
open PySem PySem.W PySem.Calls PyProof.Rows PySem.W.Fast
set_option maxRecDepth 100000
set_option maxHeartbeats 0
set_option linter.unusedVariables false
namespace Mine
theorem hpiece {a n N m k m' k' : Nat} {T T' : Params → BT} {q q' : Pos} (h : hPc a n N T m k q T' m' k' q') {M : Nat} {r : Shared} {w : World} {os : OsState} {rest : List Stmt}
    (g : topRun treeTable hP w 11 (some (.ref 6)) M (SharedT.abs { tree := T' w.params, n := m', life := {}, gens := #[], drawn := {}, toks := k', os := os }) (restOf rest hEnv hC q' hF) = some r) :
    topRun treeTable hP w 11 (some (.ref 6)) (N + M) (SharedT.abs { tree := T w.params, n := m, life := {}, gens := #[], drawn := {}, toks := k, os := os }) (restOf ((((behindTheImports hP).drop a).take n) ++ rest) hEnv hC q hF) = some r := by
  have h' := congrFun (h w) os
  rw [← te10110043849684766642, ← te14364793385576792824] at h'
  exact piece_app (segRun_of h') g
theorem hcut (a n : Nat) (l : List Stmt) : (l.drop a).take n ++ l.drop (a + n) = l.drop a := by rw [← List.drop_drop]; exact List.take_append_drop n (l.drop a)
theorem hpiece' {a n N m k m' k' : Nat} {T T' : Params → BT} {q q' : Pos} (h : hPc a n N T m k q T' m' k' q') (b : Nat) (e : a + n = b) {M : Nat} {r : Shared} {w : World} {os : OsState}
    (g : topRun treeTable hP w 11 (some (.ref 6)) M (SharedT.abs { tree := T' w.params, n := m', life := {}, gens := #[], drawn := {}, toks := k', os := os }) (restOf ((behindTheImports hP).drop b) hEnv hC q' hF) = some r) :
    topRun treeTable hP w 11 (some (.ref 6)) (N + M) (SharedT.abs { tree := T w.params, n := m, life := {}, gens := #[], drawn := {}, toks := k, os := os }) (restOf ((behindTheImports hP).drop a) hEnv hC q hF) = some r := by
  subst e
  have := hpiece h g
  rwa [hcut] at this
theorem hlast : (behindTheImports hP).drop 109 = [] := by kernel_rfl
theorem hrun (w : World) (os : OsState) : topRun treeTable hP w 11 (some (.ref 6)) (12 + (1 + (369 + (394 + (394 + (306 + (379 + (290 + (393 + (388 + (431 + (10 + (394 + (389 + (268 + 2)))))))))))))))  ⟨boot_heap w.params, #[], boot_drawn, boot_toks, os⟩ (topStub hP) = some (hs 1314 w os) := by
  refine go_top (congrFun (hpre w) os) ?_
  refine piece_block (congrFun (hblock w) os) ?_
  refine hpiece' pc1 7 rfl ?_
  refine hpiece' pc2 22 rfl ?_
  refine hpiece' pc3 35 rfl ?_
  refine hpiece' pc4 46 rfl ?_
  refine hpiece' pc5 52 rfl ?_
  refine hpiece' pc6 62 rfl ?_
  refine hpiece' pc7 68 rfl ?_
  refine hpiece' pc8 81 rfl ?_
  refine hpiece' pc9 82 rfl ?_
  refine hpiece' pc10 83 rfl ?_
  refine hpiece' pc11 84 rfl ?_
  refine hpiece' pc12 100 rfl ?_
  refine hpiece' pc13 109 rfl ?_
  rw [hlast]
  exact piece_nil (congrFun (hfin _ w) os)
theorem hlooks (w : World) : (fun os => ((staticsOk (importedModules hP.main.body) (boot_heap w.params) (heapF w.params) && namesBound hP (heapF w.params) && gensDone (hs 1314 w os) && laidKept (boot_heap w.params) (heapF w.params)),
        openSeen hQ hLoose (importedModules hP.main.body) hXt true (hs 1314 w os), hH.obs (hs 1314 w os))) = fun _ => (true, openGood hQ hLoose, hH.val w) :=
  funext fun os => looks_pair (congrFun (lk1 w) os) (looks_pair (looks_pair (congrFun (sn1 w) os) (looks_pair (congrFun (sn2 w) os) (looks_pair (congrFun (sn3 w) os) (looks_pair (congrFun (sn4 w) os) (looks_pair (congrFun (sn5 w) os) (looks_pair (congrFun (sn6 w) os) (looks_pair (congrFun (sn7 w) os) (looks_pair (congrFun (sn8 w) os) (congrFun (sn9 w) os))))))))) (congrFun (sn10 w) os))
theorem hleft : LeftO hP hQ hLoose hXt hH.obs hH.val 9000 :=
  LeftO.of_pieces (g0 := true) (m₀ := 11) (ann := some (.ref 6)) (boot_open hopen1 (by decide) hfence) hsize hrun (by decide) hlooks
theorem hdef : defOf hQ hL.row.toRowW.name = some (hD, []) := by kernel_rfl
theorem hthe : hP.theDef hL.row.toRowW.name = some (hD.params, hD.body, hD.scope) := by kernel_rfl
theorem hkw : kwWritten? hD.params.kwonlyargs hD.params.kw_defaults = some [] := by kernel_rfl
theorem hchain : (chainsOk hQ && opensWell hP && (frees hL.row.toRowW && hL.row.toRowW.within.isEmpty)) = true := by kernel_rfl
theorem hbare : hP.bare := ⟨rfl, rfl, rfl, rfl, rfl, by kernel_rfl⟩
theorem hprom : PySem.Challenge.rw_xm0046_01.row.toRowW.promised := by w_on; w_witness2
theorem hwrt : (!hL.row.writes || hL.row.toRowW.records.isEmpty) = true := by kernel_rfl
theorem hd (walk : WalkO hQ hLoose (XL hQ []) (kmHook hK hAs he [790]).says PySem.Challenge.rw_xm0046_01.row.toRowW hD [] fun f vs => PySem.call f vs) : PySem.Challenge.rw_xm0046_01.Holds :=
  holds_law hwell fun said => holds_open hleft (kmHook hK hAs he [790]).of (kmHook hK hAs he [790]).keeps (fun s e => xl_of s (Bool.and_eq_true_iff.mp e).1) XL.keeps hdef hthe hkw (fun s e => recFacts_of (Bool.and_eq_true_iff.mp e).2) hwrt said hchain hbare hprom walk
end Mine
end
section
open PySem PySem.W PySem.Calls PyProof.Rows
set_option maxRecDepth 100000
set_option linter.unusedVariables false
namespace Mine
noncomputable def fdOf (o : Obj) : FuncData := match o.data with | .func fd => fd | _ => default
abbrev ref (a : Nat) : V := .raw (.ref a)
abbrev bi (x : String) : V := .raw (.builtin x)
abbrev ty (x : String) : V := .raw (.type x)
noncomputable def isFO (o : Obj) : Bool := match o.data with | .func _ => true | _ => false
noncomputable def fnChk (K : Frag) (o : Obj) (ps : List Str) : Bool := isFO o && (codeIn K (fdOf o).code (fdOf o).qualname && ((fdOf o).closure.isEmpty && ((fdOf o).globals == mainGlobals && ((fdOf o).builtins == builtinsNs && (ps.all (kindB ⟨(fdOf o).scope, .none⟩) && (!(fdOf o).scope.isCoroutine && (!(fdOf o).scope.isGenerator && (fdOf o).scope.kind == .function)))))))
theorem len0 {P : List Value → Prop} (h : P []) : ∀ vals : List Value, vals.length = 0 → P vals := fun vals e => by rw [List.eq_nil_of_length_eq_zero e]; exact h
theorem lenS {P : List Value → Prop} {n : Nat} (h : ∀ a, ∀ vals : List Value, vals.length = n → P (a :: vals)) : ∀ vals : List Value, vals.length = n + 1 → P vals := fun vals e => by
  cases vals with
  | nil => cases e
  | cons a r => exact h a r (Nat.succ.inj e)
theorem len1 {P : List Value → Prop} (h : ∀ a, P [a]) : ∀ vals : List Value, vals.length = 1 → P vals := lenS fun a => len0 (h a)
theorem len2 {P : List Value → Prop} (h : ∀ a b, P [a, b]) : ∀ vals : List Value, vals.length = 2 → P vals := lenS fun a => len1 (h a)
theorem len3 {P : List Value → Prop} (h : ∀ a b c, P [a, b, c]) : ∀ vals : List Value, vals.length = 3 → P vals := lenS fun a => len2 (h a)
theorem len4 {P : List Value → Prop} (h : ∀ a b c d, P [a, b, c, d]) : ∀ vals : List Value, vals.length = 4 → P vals := lenS fun a => len3 (h a)
theorem len5 {P : List Value → Prop} (h : ∀ a b c d e, P [a, b, c, d, e]) : ∀ vals : List Value, vals.length = 5 → P vals := lenS fun a => len4 (h a)
theorem len6 {P : List Value → Prop} (h : ∀ a b c d e f, P [a, b, c, d, e, f]) : ∀ vals : List Value, vals.length = 6 → P vals := lenS fun a => len5 (h a)
theorem fnAt_of {c : Cx} {a : Addr} {o : Obj} {ps : List Str} {body : List Stmt} (X : c.K.In c.hb) (hl : c.K.lookup a = some o) (hc : fnChk c.K o ps = true) (h3 : (fdOf o).body = .stmts body)
    (h8 : ∀ vals : List Value, vals.length = ps.length → bindArgs (fdOf o) ⟨vals, []⟩ = pure (ps.zip vals)) : FnAt c a (fdOf o) ps body := by
  obtain ⟨h0, hc⟩ := and2 hc
  obtain ⟨h1, hc⟩ := and2 hc
  obtain ⟨h2, hc⟩ := and2 hc
  obtain ⟨h4, hc⟩ := and2 hc
  obtain ⟨h5, hc⟩ := and2 hc
  obtain ⟨h6, hc⟩ := and2 hc
  obtain ⟨h7, hc⟩ := and2 hc
  obtain ⟨h9, hc⟩ := and2 hc
  refine ⟨⟨o, X _ _ hl, ?_⟩, codeRec_of X h1, h3, List.isEmpty_iff.mp h2, beq_iff_eq.mp h4, beq_iff_eq.mp h5, kindB_all h6, h8, by simpa using h7, by simpa using h9, beq_iff_eq.mp hc⟩
  obtain ⟨cl, dd, dt, sl⟩ := o
  cases dt with
  | func fd => rfl
  | _ => cases h0
theorem set_hit {σ : St} {n : Nat} {o o' : SO} (h : σ[n]? = some o) : (σ.set n o')[n]? = some o' := List.getElem?_set_self (List.getElem?_eq_some_iff.mp h).1
theorem set_miss {σ : St} {n m : Nat} {o o' : SO} (hn : n ≠ m) (h : σ[m]? = some o) : (σ.set n o')[m]? = some o := by rw [List.getElem?_set_ne hn]; exact h
theorem app_l {σ t : St} {n : Nat} {o : SO} (h : σ[n]? = some o) : (σ ++ t)[n]? = some o := by rw [List.getElem?_append_left (List.getElem?_eq_some_iff.mp h).1]; exact h
theorem app_0 {σ t : St} {o : SO} : (σ ++ o :: t)[σ.length]? = some o := by simp
theorem app_k {σ t : St} {k : Nat} {o : SO} (h : t[k]? = some o) : (σ ++ t)[σ.length + k]? = some o := by rw [List.getElem?_append_right (by omega)]; simpa using h
theorem set_app0 {σ t : St} {o : SO} : (σ ++ t).set σ.length o = σ ++ t.set 0 o := by rw [List.set_append_right _ _ (Nat.le_refl _)]; simp
theorem set_appk {σ t : St} {k : Nat} {o : SO} : (σ ++ t).set (σ.length + k) o = σ ++ t.set k o := by rw [List.set_append_right _ _ (by omega)]; simp
structure CB where
  w : World
  hb : Heap
  g : Array GenState
  os : OsState
  low : ∃ o, hb.get? 2 = some o
abbrev gn (x : String) (v : V) : Str × V := (Str.ofString x, v)
noncomputable def GL : List (Str × V) := [(gn "_law_drawn_next" <| (ref 727)), (gn "_law_leaf" <| (ref 734)), (gn "_law_two" <| (ref 741)), (gn "_law_let" <| (ref 748)), (gn "_law_test" <| (ref 755)), (gn "_law_statement" <| (ref 762)), (gn "_law_put_in" <| (ref 769)), (gn "_law_ahead" <| (ref 776)), (gn "_law_value" <| (ref 781)), (gn "_law_done" <| (ref 788)), (gn "kind_of" <| (ref 44)), (gn "fits" <| (ref 79)), (gn "whole_of" <| (ref 86)), (gn "is_nought" <| (ref 107)), (gn "is_true" <| (ref 114)), (gn "truth" <| (ref 121)), (gn "is_whole" <| (ref 206)), (gn "settled" <| (ref 213)), (gn "whole_reckoned" <| (ref 220)), (gn "reckoned" <| (ref 262)), (gn "order_of" <| (ref 276)), (gn "inverted" <| (ref 283)), (gn "logic" <| (ref 290)), (gn "put_row_of" <| (ref 434)), (gn "put_if" <| (ref 441)), (gn "put_all" <| (ref 448)), (gn "gather" <| (ref 455)), (gn "flatten" <| (ref 476)), (gn "do_flow" <| (ref 512)), (gn "do_jump" <| (ref 519)), (gn "parts_of_tree" <| (ref 666)), (gn "compared" <| (ref 682)), (gn "worth_of_two" <| (ref 694)), (gn "worth_of_one" <| (ref 701)), (gn "worth_of_leaf" <| (ref 708)), (gn "worth_of_tree" <| (ref 715)), (gn "worth" <| (ref 720)), (gn "Control" <| (ref 307)), (gn "Flat" <| (ref 423)), (gn "FlowRun" <| (ref 599)), (gn "PlainHooks" <| (ref 655)), (gn "LOGIC" <| (.tup ((["AND", "OR", "XOR", "EQV", "IMP"] : List Str).map .str))), (gn "COMPARISONS" <| (.tup ((["=", "<>", "<", ">", "<=", ">="] : List Str).map .str))), (gn "JUMPS" <| (.tup ((["IFNOT", "JUMP", "GOTO", "GOSUB", "ONGO", "RETURN"] : List Str).map .str))), (gn "len" <| (bi "len")), (gn "abs" <| (bi "abs")), (gn "isinstance" <| (bi "isinstance")), (gn "str" <| (ty "str")), (gn "tuple" <| (ty "tuple")), (gn "dict" <| (ty "dict")), (gn "range" <| (ty "range")), (gn "enumerate" <| (ty "enumerate")), (gn "reversed" <| (ty "reversed"))]
noncomputable def mkC (b : CB) : Cx := { prog := PySem.Challenge.rw_xm0046_01.row.prog, w := b.w, hb := b.hb, K := hK b.w.params, gl := GL, gens := b.g, os := b.os, low := b.low }
theorem gl_ok (b : CB) : (mkC b).gl.map (fun q => valIn (mkC b).K q) = (mkC b).gl.map (fun q => some q.2) := by kernel_rfl
theorem gl_names : GL.all (fun q => q.1 != "__name__") = true := by kernel_rfl
noncomputable def keepV (K : Frag) (v : V) : Bool := match v with
  | .raw u => (match u with | .builtin _ => true | .type _ => true | u => keepIn K u)
  | _ => true
theorem gl_keep (b : CB) : (mkC b).gl.all (fun q => keepV (mkC b).K q.2) = true := by kernel_rfl
theorem keepV_ok {c : Cx} (C : CxOk c) {v : V} (h : keepV c.K v = true) (hr : isRaw v = true) (σ : St) : Kp c σ v := by
  cases v with
  | raw u => cases u with
    | builtin id => exact Kp_builtin
    | type id => exact Kp_type
    | _ => exact Kp_K C h
  | _ => cases hr
theorem CxK.of {b : CB} (C : CxOk (mkC b)) : CxK (mkC b) := ⟨C, fun x v e hr σ => keepV_ok C (List.all_eq_true.mp (gl_keep b) _ (get_mem' e)) hr σ⟩
section
variable {b : CB}
theorem fn_727 (C : CxK (mkC b)) : FnAt (mkC b) 727 (fdOf o727) ["bag", "below"] (hB  (hst 98)) := fnAt_of C.ok.K (by kernel_rfl) (by kernel_rfl) (by kernel_rfl) (len2 fun a0 a1 => by kernel_rfl) -- _law_drawn_next
theorem fn_734 (C : CxK (mkC b)) : FnAt (mkC b) 734 (fdOf o734) ["bag"] (hB  (hst 99)) := fnAt_of C.ok.K (by kernel_rfl) (by kernel_rfl) (by kernel_rfl) (len1 fun a0 => by kernel_rfl) -- _law_leaf
theorem fn_741 (C : CxK (mkC b)) : FnAt (mkC b) 741 (fdOf o741) ["bag", "signs"] (hB  (hst 100)) := fnAt_of C.ok.K (by kernel_rfl) (by kernel_rfl) (by kernel_rfl) (len2 fun a0 a1 => by kernel_rfl) -- _law_two
theorem fn_748 (C : CxK (mkC b)) : FnAt (mkC b) 748 (fdOf o748) ["bag"] (hB  (hst 101)) := fnAt_of C.ok.K (by kernel_rfl) (by kernel_rfl) (by kernel_rfl) (len1 fun a0 => by kernel_rfl) -- _law_let
theorem fn_755 (C : CxK (mkC b)) : FnAt (mkC b) 755 (fdOf o755) ["bag"] (hB  (hst 102)) := fnAt_of C.ok.K (by kernel_rfl) (by kernel_rfl) (by kernel_rfl) (len1 fun a0 => by kernel_rfl) -- _law_test
theorem fn_762 (C : CxK (mkC b)) : FnAt (mkC b) 762 (fdOf o762) ["bag"] (hB  (hst 103)) := fnAt_of C.ok.K (by kernel_rfl) (by kernel_rfl) (by kernel_rfl) (len1 fun a0 => by kernel_rfl) -- _law_statement
theorem fn_769 (C : CxK (mkC b)) : FnAt (mkC b) 769 (fdOf o769) ["tree", "name", "new"] (hB  (hst 104)) := fnAt_of C.ok.K (by kernel_rfl) (by kernel_rfl) (by kernel_rfl) (len3 fun a0 a1 a2 => by kernel_rfl) -- _law_put_in
theorem fn_776 (C : CxK (mkC b)) : FnAt (mkC b) 776 (fdOf o776) ["statement", "due"] (hB  (hst 105)) := fnAt_of C.ok.K (by kernel_rfl) (by kernel_rfl) (by kernel_rfl) (len2 fun a0 a1 => by kernel_rfl) -- _law_ahead
theorem fn_781 (C : CxK (mkC b)) : FnAt (mkC b) 781 (fdOf o781) ["tree", "values"] (hB  (hst 106)) := fnAt_of C.ok.K (by kernel_rfl) (by kernel_rfl) (by kernel_rfl) (len2 fun a0 a1 => by kernel_rfl) -- _law_value
theorem fn_788 (C : CxK (mkC b)) : FnAt (mkC b) 788 (fdOf o788) ["statement", "values"] (hB  (hst 107)) := fnAt_of C.ok.K (by kernel_rfl) (by kernel_rfl) (by kernel_rfl) (len2 fun a0 a1 => by kernel_rfl) -- _law_done
theorem fn_44 (C : CxK (mkC b)) : FnAt (mkC b) 44 (fdOf o44) ["value"] (hB  (hst 4)) := fnAt_of C.ok.K (by kernel_rfl) (by kernel_rfl) (by kernel_rfl) (len1 fun a0 => by kernel_rfl) -- kind_of
theorem fn_79 (C : CxK (mkC b)) : FnAt (mkC b) 79 (fdOf o79) ["number", "bits"] (hB  (hst 9)) := fnAt_of C.ok.K (by kernel_rfl) (by kernel_rfl) (by kernel_rfl) (len2 fun a0 a1 => by kernel_rfl) -- fits
theorem fn_86 (C : CxK (mkC b)) : FnAt (mkC b) 86 (fdOf o86) ["value", "bits"] (hB  (hst 10)) := fnAt_of C.ok.K (by kernel_rfl) (by kernel_rfl) (by kernel_rfl) (len2 fun a0 a1 => by kernel_rfl) -- whole_of
theorem fn_107 (C : CxK (mkC b)) : FnAt (mkC b) 107 (fdOf o107) ["value"] (hB  (hst 13)) := fnAt_of C.ok.K (by kernel_rfl) (by kernel_rfl) (by kernel_rfl) (len1 fun a0 => by kernel_rfl) -- is_nought
theorem fn_114 (C : CxK (mkC b)) : FnAt (mkC b) 114 (fdOf o114) ["value"] (hB  (hst 14)) := fnAt_of C.ok.K (by kernel_rfl) (by kernel_rfl) (by kernel_rfl) (len1 fun a0 => by kernel_rfl) -- is_true
theorem fn_121 (C : CxK (mkC b)) : FnAt (mkC b) 121 (fdOf o121) ["is_so"] (hB  (hst 15)) := fnAt_of C.ok.K (by kernel_rfl) (by kernel_rfl) (by kernel_rfl) (len1 fun a0 => by kernel_rfl) -- truth
theorem fn_206 (C : CxK (mkC b)) : FnAt (mkC b) 206 (fdOf o206) ["value"] (hB  (hst 31)) := fnAt_of C.ok.K (by kernel_rfl) (by kernel_rfl) (by kernel_rfl) (len1 fun a0 => by kernel_rfl) -- is_whole
theorem fn_213 (C : CxK (mkC b)) : FnAt (mkC b) 213 (fdOf o213) ["number", "bits", "digits"] (hB  (hst 32)) := fnAt_of C.ok.K (by kernel_rfl) (by kernel_rfl) (by kernel_rfl) (len3 fun a0 a1 a2 => by kernel_rfl) -- settled
theorem fn_220 (C : CxK (mkC b)) : FnAt (mkC b) 220 (fdOf o220) ["op", "a", "b", "bits", "digits"] (hB  (hst 33)) := fnAt_of C.ok.K (by kernel_rfl) (by kernel_rfl) (by kernel_rfl) (len5 fun a0 a1 a2 a3 a4 => by kernel_rfl) -- whole_reckoned
theorem fn_262 (C : CxK (mkC b)) : FnAt (mkC b) 262 (fdOf o262) ["op", "a", "b", "bits", "digits"] (hB  (hst 39)) := fnAt_of C.ok.K (by kernel_rfl) (by kernel_rfl) (by kernel_rfl) (len5 fun a0 a1 a2 a3 a4 => by kernel_rfl) -- reckoned
theorem fn_276 (C : CxK (mkC b)) : FnAt (mkC b) 276 (fdOf o276) ["a", "b"] (hB  (hst 41)) := fnAt_of C.ok.K (by kernel_rfl) (by kernel_rfl) (by kernel_rfl) (len2 fun a0 a1 => by kernel_rfl) -- order_of
theorem fn_283 (C : CxK (mkC b)) : FnAt (mkC b) 283 (fdOf o283) ["a", "bits"] (hB  (hst 42)) := fnAt_of C.ok.K (by kernel_rfl) (by kernel_rfl) (by kernel_rfl) (len2 fun a0 a1 => by kernel_rfl) -- inverted
theorem fn_290 (C : CxK (mkC b)) : FnAt (mkC b) 290 (fdOf o290) ["op", "a", "b", "bits"] (hB  (hst 43)) := fnAt_of C.ok.K (by kernel_rfl) (by kernel_rfl) (by kernel_rfl) (len4 fun a0 a1 a2 a3 => by kernel_rfl) -- logic
theorem fn_434 (C : CxK (mkC b)) : FnAt (mkC b) 434 (fdOf o434) ["flat", "line", "statement"] (hB  (hst 63)) := fnAt_of C.ok.K (by kernel_rfl) (by kernel_rfl) (by kernel_rfl) (len3 fun a0 a1 a2 => by kernel_rfl) -- put_row_of
theorem fn_441 (C : CxK (mkC b)) : FnAt (mkC b) 441 (fdOf o441) ["flat", "line", "statement"] (hB  (hst 64)) := fnAt_of C.ok.K (by kernel_rfl) (by kernel_rfl) (by kernel_rfl) (len3 fun a0 a1 a2 => by kernel_rfl) -- put_if
theorem fn_448 (C : CxK (mkC b)) : FnAt (mkC b) 448 (fdOf o448) ["flat", "line", "statements"] (hB  (hst 65)) := fnAt_of C.ok.K (by kernel_rfl) (by kernel_rfl) (by kernel_rfl) (len3 fun a0 a1 a2 => by kernel_rfl) -- put_all
theorem fn_455 (C : CxK (mkC b)) : FnAt (mkC b) 455 (fdOf o455) ["flat"] (hB  (hst 66)) := fnAt_of C.ok.K (by kernel_rfl) (by kernel_rfl) (by kernel_rfl) (len1 fun a0 => by kernel_rfl) -- gather
theorem fn_476 (C : CxK (mkC b)) : FnAt (mkC b) 476 (fdOf o476) ["parsed"] (hB  (hst 69)) := fnAt_of C.ok.K (by kernel_rfl) (by kernel_rfl) (by kernel_rfl) (len1 fun a0 => by kernel_rfl) -- flatten
theorem fn_512 (C : CxK (mkC b)) : FnAt (mkC b) 512 (fdOf o512) ["run", "at", "statement"] (hB  (hst 76)) := fnAt_of C.ok.K (by kernel_rfl) (by kernel_rfl) (by kernel_rfl) (len3 fun a0 a1 a2 => by kernel_rfl) -- do_flow
theorem fn_519 (C : CxK (mkC b)) : FnAt (mkC b) 519 (fdOf o519) ["run", "at", "statement"] (hB  (hst 77)) := fnAt_of C.ok.K (by kernel_rfl) (by kernel_rfl) (by kernel_rfl) (len3 fun a0 a1 a2 => by kernel_rfl) -- do_jump
theorem fn_666 (C : CxK (mkC b)) : FnAt (mkC b) 666 (fdOf o666) ["tree"] (hB  (hst 85)) := fnAt_of C.ok.K (by kernel_rfl) (by kernel_rfl) (by kernel_rfl) (len1 fun a0 => by kernel_rfl) -- parts_of_tree
theorem fn_682 (C : CxK (mkC b)) : FnAt (mkC b) 682 (fdOf o682) ["op", "order"] (hB  (hst 90)) := fnAt_of C.ok.K (by kernel_rfl) (by kernel_rfl) (by kernel_rfl) (len2 fun a0 a1 => by kernel_rfl) -- compared
theorem fn_694 (C : CxK (mkC b)) : FnAt (mkC b) 694 (fdOf o694) ["op", "one", "other", "bits", "digits"] (hB  (hst 92)) := fnAt_of C.ok.K (by kernel_rfl) (by kernel_rfl) (by kernel_rfl) (len5 fun a0 a1 a2 a3 a4 => by kernel_rfl) -- worth_of_two
theorem fn_701 (C : CxK (mkC b)) : FnAt (mkC b) 701 (fdOf o701) ["op", "value", "bits", "digits"] (hB  (hst 93)) := fnAt_of C.ok.K (by kernel_rfl) (by kernel_rfl) (by kernel_rfl) (len4 fun a0 a1 a2 a3 => by kernel_rfl) -- worth_of_one
theorem fn_708 (C : CxK (mkC b)) : FnAt (mkC b) 708 (fdOf o708) ["tree", "bits", "digits"] (hB  (hst 94)) := fnAt_of C.ok.K (by kernel_rfl) (by kernel_rfl) (by kernel_rfl) (len3 fun a0 a1 a2 => by kernel_rfl) -- worth_of_leaf
theorem fn_715 (C : CxK (mkC b)) : FnAt (mkC b) 715 (fdOf o715) ["tree", "parts", "hooks"] (hB  (hst 95)) := fnAt_of C.ok.K (by kernel_rfl) (by kernel_rfl) (by kernel_rfl) (len3 fun a0 a1 a2 => by kernel_rfl) -- worth_of_tree
theorem fn_720 (C : CxK (mkC b)) : FnAt (mkC b) 720 (fdOf o720) ["tree", "hooks"] (hB  (hst 96)) := fnAt_of C.ok.K (by kernel_rfl) (by kernel_rfl) (by kernel_rfl) (len2 fun a0 a1 => by kernel_rfl) -- worth
theorem fn_304 (C : CxK (mkC b)) : FnAt (mkC b) 304 (fdOf o304) ["self", "most"] (hB  (hmb 46 0)) := fnAt_of C.ok.K (by kernel_rfl) (by kernel_rfl) (by kernel_rfl) (len2 fun a0 a1 => by kernel_rfl) -- Control.__init__
theorem fn_420 (C : CxK (mkC b)) : FnAt (mkC b) 420 (fdOf o420) ["self"] (hB  (hmb 62 0)) := fnAt_of C.ok.K (by kernel_rfl) (by kernel_rfl) (by kernel_rfl) (len1 fun a0 => by kernel_rfl) -- Flat.__init__
theorem fn_554 (C : CxK (mkC b)) : FnAt (mkC b) 554 (fdOf o554) ["self", "flat", "values", "worth_of", "bits", "digits"] (hB  (hmb 81 0)) := fnAt_of C.ok.K (by kernel_rfl) (by kernel_rfl) (by kernel_rfl) (len6 fun a0 a1 a2 a3 a4 a5 => by kernel_rfl) -- FlowRun.__init__
theorem fn_561 (C : CxK (mkC b)) : FnAt (mkC b) 561 (fdOf o561) ["self", "tree"] (hB  (hmb 81 1)) := fnAt_of C.ok.K (by kernel_rfl) (by kernel_rfl) (by kernel_rfl) (len2 fun a0 a1 => by kernel_rfl) -- FlowRun.worth
theorem fn_575 (C : CxK (mkC b)) : FnAt (mkC b) 575 (fdOf o575) ["self", "name"] (hB  (hmb 81 3)) := fnAt_of C.ok.K (by kernel_rfl) (by kernel_rfl) (by kernel_rfl) (len2 fun a0 a1 => by kernel_rfl) -- FlowRun.value_of_name
theorem fn_582 (C : CxK (mkC b)) : FnAt (mkC b) 582 (fdOf o582) ["self", "name", "value"] (hB  (hmb 81 4)) := fnAt_of C.ok.K (by kernel_rfl) (by kernel_rfl) (by kernel_rfl) (len3 fun a0 a1 a2 => by kernel_rfl) -- FlowRun.store
theorem fn_596 (C : CxK (mkC b)) : FnAt (mkC b) 596 (fdOf o596) ["self", "at", "most"] (hB  (hmb 81 6)) := fnAt_of C.ok.K (by kernel_rfl) (by kernel_rfl) (by kernel_rfl) (len3 fun a0 a1 a2 => by kernel_rfl) -- FlowRun.go
theorem fn_617 (C : CxK (mkC b)) : FnAt (mkC b) 617 (fdOf o617) ["self", "values", "bits", "digits"] (hB  (hmb 83 0)) := fnAt_of C.ok.K (by kernel_rfl) (by kernel_rfl) (by kernel_rfl) (len4 fun a0 a1 a2 a3 => by kernel_rfl) -- PlainHooks.__init__
theorem fn_624 (C : CxK (mkC b)) : FnAt (mkC b) 624 (fdOf o624) ["self", "word"] (hB  (hmb 83 1)) := fnAt_of C.ok.K (by kernel_rfl) (by kernel_rfl) (by kernel_rfl) (len2 fun a0 a1 => by kernel_rfl) -- PlainHooks.value_of_name
end
end Mine
end
section
open PySem PySem.W PySem.Calls PyProof.Rows
set_option linter.unusedVariables false
set_option maxRecDepth 100000
namespace Mine
section
variable {c : Cx} {sc : Sc} {d : Nat} {ρ : Vars} {σ : St} {Q : Post} {R : Fl → Vars → St → Prop} {B : Bool → St → Prop} {x y : Str} {G : List V → (St → Prop) → St → Prop} {target : Expr} {a b : Int} {n : Nat} {l : List V} {v : V}
theorem Bi_mul (hm : PySem.IntMulOk a b) (h : Q (.int (a * b)) σ) : Bi c d .Mult (.int a) (.int b) σ Q := ⟨BIN_mul hm h⟩
theorem Bi_mod (hb : b ≠ 0) (h : Q (.int (a.fmod b)) σ) : Bi c d .Mod (.int a) (.int b) σ Q := ⟨BIN_mod hb h⟩
theorem Bi_floordiv (hb : b ≠ 0) (hp : Builtin.divisionGoesByPylong a b = false) (h : Q (.int (a.fdiv b)) σ) : Bi c d .FloorDiv (.int a) (.int b) σ Q := ⟨BIN_floordiv hb hp h⟩
theorem Bi_lshift (hb : 0 ≤ b) (hz : (Builtin.Int.intBits a : Int) + b ≤ 2 ^ 27) (h : Q (.int (a * 2 ^ b.toNat)) σ) : Bi c d .LShift (.int a) (.int b) σ Q := ⟨BIN_lshift hb hz h⟩
theorem Bi_and (h : Q (.int (Builtin.bitAnd a b)) σ) : Bi c d .BitAnd (.int a) (.int b) σ Q := ⟨BIN_and h⟩
theorem Bi_or (h : Q (.int (Builtin.bitOr a b)) σ) : Bi c d .BitOr (.int a) (.int b) σ Q := ⟨BIN_or h⟩
theorem Bi_addL {u v : V} {l l' : List V} (ha : isList σ u l) (hb : isList σ v l') (hz : l.length + l'.length ≤ 9000) (h : Q (.lst (l ++ l')) σ) : Bi c d .Add u v σ Q := ⟨BIN_addL ha hb hz h⟩
theorem Bi_mulL {u : V} {n : Nat} (ha : isList σ u l) (hne : l ≠ []) (hz : l.length * n ≤ 9000) (hn : n ≤ 9000) (h : Q (.lst (times n l)) σ) : Bi c d .Mult u (.int n) σ Q := ⟨BIN_mulL ha hne hz hn h⟩
theorem Gi_loc {k : Int} (hn : σ[n]? = some (.list l)) (h0 : 0 ≤ k) (hx : l[k.toNat]? = some v) (h : Q v σ) (hz : k < 2 ^ 63 := by decide) : Gi c d (.loc n) (.int k) σ Q := ⟨GI_list (.inr ⟨n, rfl, .inl hn⟩) h0 hx h hz⟩
theorem Gi_lst {k : Int} (h0 : 0 ≤ k) (hx : l[k.toNat]? = some v) (h : Q v σ) (hz : k < 2 ^ 63 := by decide) : Gi c d (.lst l) (.int k) σ Q := ⟨GI_list (.inl rfl) h0 hx h hz⟩
theorem Gi_dictS {l : List (Str × V)} (hn : σ[n]? = some (.dictS l)) (hx : getK l x = some v) (h : Q v σ) : Gi c d (.loc n) (.str x) σ Q := ⟨GI_dictS hn hx h⟩
theorem Gi_dictI {l : List (Int × V)} {k : Int} (hn : σ[n]? = some (.dictI l)) (hx : getK l k = some v) (h : Q v σ) : Gi c d (.loc n) (.int k) σ Q := ⟨GI_dictI hn hx h⟩
theorem Si_list {k : Int} {P : St → Prop} (hn : σ[n]? = some (.list l)) (h0 : 0 ≤ k) (hk : k < l.length) (h : P (σ.set n (.list (l.set k.toNat v)))) (hz : k < 2 ^ 63 := by decide) : Si c d (.loc n) (.int k) v σ P := ⟨SI_list hn h0 hk h hz⟩
theorem Si_dictS {l : List (Str × V)} {P : St → Prop} (hn : σ[n]? = some (.dictS l)) (hz : l.length ≤ 9000) (h : P (σ.set n (.dictS (putK l x v)))) : Si c d (.loc n) (.str x) v σ P := ⟨SI_dictS hn hz h⟩
theorem Si_dictI {l : List (Int × V)} {k : Int} {P : St → Prop} (hn : σ[n]? = some (.dictI l)) (hz : l.length ≤ 9000) (h : P (σ.set n (.dictI (putK l k v)))) : Si c d (.loc n) (.int k) v σ P := ⟨SI_dictI hn hz h⟩
theorem Ca_len (hn : σ[n]? = some (.list l)) (hz : l.length ≤ 100000) (h : Q (.int l.length) σ) : Ca c d (.raw (.builtin "len")) [.loc n] σ Q := ⟨CALL_lenL (.inr ⟨n, rfl, .inl hn⟩) hz h⟩
theorem Ca_lenF (hz : l.length ≤ 100000) (h : Q (.int l.length) σ) : Ca c d (.raw (.builtin "len")) [.lst l] σ Q := ⟨CALL_lenL (.inl rfl) hz h⟩
theorem Ca_lenS (hz : x.length ≤ 100000) (h : Q (.int x.length) σ) : Ca c d (.raw (.builtin "len")) [.str x] σ Q := ⟨CALL_lenS hz h⟩
theorem Ca_abs (h : Q (.int (if a < 0 then -a else a)) σ) : Ca c d (.raw (.builtin "abs")) [.int a] σ Q := ⟨CALL_abs h⟩
theorem Ca_isStr {t : Bool} (hv : isStrV v = some t) (h : Q (.bool t) σ) : Ca c d (.raw (.builtin "isinstance")) [v, .raw (.type "str")] σ Q := ⟨CALL_isStr hv h⟩
theorem Ca_isTup {t : Bool} (hv : isTupV v = some t) (h : Q (.bool t) σ) : Ca c d (.raw (.builtin "isinstance")) [v, .raw (.type "tuple")] σ Q := ⟨CALL_isTup hv h⟩
theorem Ca_dictP {es : List (Str × V)} (hl : isList σ v (es.map pairV)) (hz : es.length ≤ 900) (h : Q (.loc σ.length) (σ ++ [.dictS (es.foldl (fun acc kv => putK acc kv.1 kv.2) [])])) : Ca c d (.raw (.type "dict")) [v] σ Q := ⟨CALL_dictP hl hz h⟩
theorem Ca_dictD {l : List (Str × V)} (hn : σ[n]? = some (.dictS l)) (hz : l.length ≤ 9000) (h : Q (.loc σ.length) (σ ++ [.dictS l])) : Ca c d (.raw (.type "dict")) [.loc n] σ Q := ⟨CALL_dictD hn hz h⟩
theorem At_inst (K : CxK c) {k : Nat} {C : Addr} {l : List (Str × V)} {name : Str} (hn : σ[n]? = some (.inst C k)) (hk : σ[k]? = some (.attrs l)) (hv : get l name = some v) (ha : AttrOf c.K C name) (hh : hand v = true) (h : Q v σ) : At c d (.loc n) name σ Q := ⟨ATTR_inst K.ok hn hk hv ha hh h⟩
theorem Sa_inst {k : Nat} {C : Addr} {l : List (Str × V)} {attr : Str} {P : St → Prop} (hn : σ[n]? = some (.inst C k)) (hk : σ[k]? = some (.attrs l)) (hs : StoreOf c.K C attr) (hz : l.length ≤ 900) (h : P (σ.set k (.attrs (put l attr v)))) : Sa c (.loc n) attr v σ P := ⟨attrSet hn hk hs hz h⟩
theorem Gm_inst (K : CxK c) {k : Nat} {C f : Addr} {l : List (Str × V)} {name : Str} {Q : V → List V → St → Prop} (hn : σ[n]? = some (.inst C k)) (hk : σ[k]? = some (.attrs l)) (hv : get l name = none) (ha : MethOf c.K C name f) (h : Q (.raw (.ref f)) [.loc n] σ) : Gm c d (.loc n) name σ Q := ⟨GM_inst K.ok hn hk hv ha h⟩
theorem Gm_append {Q : V → List V → St → Prop} (hn : σ[n]? = some (.list l)) (h : Q (.raw (.builtin "list.append")) [.loc n] σ) : Gm c d (.loc n) (Str.ofString "append") σ Q := ⟨GM_list hn F.slot_list_append F.type_list_append h⟩
theorem Gm_pop {Q : V → List V → St → Prop} (hn : σ[n]? = some (.list l)) (h : Q (.raw (.builtin "list.pop")) [.loc n] σ) : Gm c d (.loc n) (Str.ofString "pop") σ Q := ⟨GM_list hn F.slot_list_pop F.type_list_pop h⟩
theorem Gm_extend {Q : V → List V → St → Prop} (hn : σ[n]? = some (.list l)) (h : Q (.raw (.builtin "list.extend")) [.loc n] σ) : Gm c d (.loc n) (Str.ofString "extend") σ Q := ⟨GM_list hn F.slot_list_extend F.type_list_extend h⟩
theorem Gm_get {l : List (Str × V)} {Q : V → List V → St → Prop} (hn : σ[n]? = some (.dictS l)) (h : Q (.raw (.builtin "dict.get")) [.loc n] σ) : Gm c d (.loc n) (Str.ofString "get") σ Q := ⟨GM_dict hn F.slot_dict_get F.type_dict_get h⟩
theorem KCa_append (hn : σ[n]? = some (.list l)) (hsz : l.length ≤ 10000) (h : Q .none (σ.set n (.list (l ++ [v])))) : Kp c σ (.raw (.builtin "list.append")) ∧ Ca c d (.raw (.builtin "list.append")) [.loc n, v] σ Q := ⟨Kp_builtin, ⟨CALL_append hn hsz h⟩⟩
theorem KCa_pop (hn : σ[n]? = some (.list (l ++ [v]))) (hsz : l.length ≤ 9000) (h : Q v (σ.set n (.list l))) : Kp c σ (.raw (.builtin "list.pop")) ∧ Ca c d (.raw (.builtin "list.pop")) [.loc n] σ Q := ⟨Kp_builtin, ⟨CALL_pop hn hsz h⟩⟩
theorem KCa_extend {l' : List V} (hn : σ[n]? = some (.list l)) (hv : isList σ v l') (hsz : l.length ≤ 4000) (hsz' : l'.length ≤ 4000) (h : Q .none (σ.set n (.list (l ++ l')))) : Kp c σ (.raw (.builtin "list.extend")) ∧ Ca c d (.raw (.builtin "list.extend")) [.loc n, v] σ Q := ⟨Kp_builtin, ⟨CALL_extend hn hv hsz hsz' h⟩⟩
theorem KCa_get {l : List (Str × V)} {dflt : V} (hn : σ[n]? = some (.dictS l)) (h : Q ((getK l x).getD dflt) σ) : Kp c σ (.raw (.builtin "dict.get")) ∧ Ca c d (.raw (.builtin "dict.get")) [.loc n, .str x, dflt] σ Q := ⟨Kp_builtin, ⟨CALL_get hn h⟩⟩
theorem KCa_fn {a : Addr} {fd : FuncData} {ps : List Str} {body : List Stmt} {vs : List V} (f : FnAt c a fd ps body) (h : Ca c d (.raw (.ref a)) vs σ Q) : Kp c σ (.raw (.ref a)) ∧ Ca c d (.raw (.ref a)) vs σ Q := ⟨Kp_fn f, h⟩
theorem Cm_eqL {a b : V} (ha : isList σ a l) (hb : isList σ b l) (hf : l.all flat1 = true) (h : Q (.bool true) σ) : Cm c d .Eq a b σ Q := ⟨CMP_eqL ha hb hf h⟩
theorem Cm_neL {a b : V} (ha : isList σ a l) (hb : isList σ b l) (hf : l.all flat1 = true) (h : Q (.bool false) σ) : Cm c d .NotEq a b σ Q := ⟨CMP_neL ha hb hf h⟩
theorem Cm_notInDS {l : List (Str × V)} (hn : σ[n]? = some (.dictS l)) (h : Q (.bool (!(getK l x).isSome)) σ) : Cm c d .NotIn (.str x) (.loc n) σ Q := ⟨CMP_notInDS hn h⟩
theorem Iv_tup (h : G l (fun _ => True) σ) : Iv c d target (.tup l) σ G := ⟨ITV_tup h⟩
theorem Iv_lst (h : ∀ K : St → Prop, (∀ σ', K σ') → G l K σ) : Iv c d target (.lst l) σ G := ⟨ITV_list (.inl rfl) fun K _ hK => h K (hK rfl)⟩
theorem Iv_fz {xs : List Value} {k : Nat} (hn : σ[n]? = some (.fz xs k l)) (h : ∀ K : St → Prop, (∀ σ' : St, σ'[n]? = some (.fz xs k l) → K σ') → G l K σ) : Iv c d target (.loc n) σ G := ⟨ITV_list (.inr ⟨n, xs, k, rfl, hn⟩) fun K hK _ => h K (hK n xs k rfl hn)⟩
theorem Iv_str {p : Pos} (ha : x.cps.all (· < 128) = true) (h : G (x.cps.toList.map fun k => .str ⟨#[k]⟩) (fun _ => True) σ) : Iv c d (.Name y p) (.str x) σ G := ⟨ITV_str ha h⟩
theorem Ic_range {p : Pos} (hn : n ≤ 1000000) (h : G ((List.range n).map fun i => .int (i : Nat)) (fun _ => True) σ) : Ic c d (.Name x p) (.raw (.type "range")) [.int (n : Nat)] σ G := ⟨ITC_range hn h⟩
theorem Ic_reversed {p : Pos} (h : G l.reverse (fun _ => True) σ) : Ic c d (.Name x p) (.raw (.type "reversed")) [.lst l] σ G := ⟨ITC_reversed rfl h⟩
theorem Ic_enumF {es : List Expr} {k : Nat} {p : Pos} {xs : List Value} {m : Nat} (hn : σ[n]? = some (.fz xs m l)) (h : ∀ K : St → Prop, (∀ σ' : St, σ'[n]? = some (.fz xs m l) → K σ') → G (l.mapIdx fun i v => .tup [.int (i : Nat), v]) K σ) : Ic c d (.Tuple es k p) (.raw (.type "enumerate")) [.loc n] σ G := ⟨ITC_enumerate (.inr ⟨n, xs, m, rfl, hn⟩) fun K hK _ => h K (hK n xs m rfl hn)⟩
theorem Ex_fz {m : Nat} {l : List V} {st : Stmt} (hn : σ[m]? = some (.list l)) (h : ∀ xs k, Ex c sc d st ρ (σ.set m (.fz xs k l)) fun f ρ' σ' => σ'[m]? = some (.fz xs k l) ∧ R f ρ' (σ'.set m (.list l))) : Ex c sc d st ρ σ R := ⟨EX_fz hn fun xs k => (h xs k).go⟩
theorem Ca_forget {f : V} {vs : List V} (h : Ca c d f vs σ fun v σ' => ∃ σ₁ g, σ' = σ₁ ++ g ∧ σ₁.length = σ.length ∧ (∀ (i : Nat) (o : SO), σ₁[i]? = some o → σ[i]? = some o ∨ clO σ.length o = true) ∧ clV σ.length v = true ∧ Q v σ₁) : Ca c d f vs σ Q := ⟨CALL_forget h.go⟩
theorem W_dictI {pos : Pos} (h : Q (.loc σ.length) (σ ++ [.dictI []])) : Ev c sc d (.Dict [] [] pos) ρ σ Q := ⟨EV_Dict0I h⟩
theorem Ca_make (K : CxK c) {C f : Addr} {fd : FuncData} {ps : List Str} {body : List Stmt} {vs : List V} (hm : makesIn c.K C = true) (hi : findIn c.K (.ref C) "__init__" = some (some (.ref f))) (hf : typeIn c.K (.ref f) = some (.type "function"))
    (fa : FnAt c f fd ps body) (hlen : vs.length + 1 = ps.length)
    (h : ((wp c d 60) ⟨fd.scope, fd.code⟩).Ss body (binds ps (.loc (σ.length + 1) :: vs) []) (σ ++ [.attrs [], .inst C σ.length]) fun fl _ σ' => retOf fl = .none ∧ Q (.loc (σ.length + 1)) σ') : Ca c (d + 2) (.raw (.ref C)) vs σ Q := ⟨CALL_make K.ok hm hi hf fa hlen (Nat.le_add_left 2 d) ((wp_ok K 60).Ss h)⟩
end
end Mine
end
section
open PySem PySem.W PySem.Calls PyProof.Rows
set_option maxRecDepth 100000
set_option maxHeartbeats 4000000
set_option linter.unusedVariables false
namespace Mine
section
variable {b : CB}
abbrev S (x : String) : Str := Str.ofString x
theorem ints_at {ns : List Int} {k : Nat} (h : k < ns.length) : (ns.map V.int)[(k : Int).toNat]? = some (.int (ns[k]'h)) := by rw [Int.toNat_natCast, List.getElem?_map, List.getElem?_eq_getElem h]; rfl
noncomputable def bagO (ns : List Int) (k : Nat) : SO := .list [.lst (ns.map .int), .int k]
theorem cast_lt {a n : Nat} (h : a ≤ n) {z : Int} (hz : (n : Int) < z) : (a : Int) < z := Int.lt_of_le_of_lt (Int.ofNat_le.mpr h) hz
theorem nz {m : Nat} (h : 0 < m) : (m : Int) ≠ 0 := fun e => absurd (Int.ofNat.inj e) (Nat.ne_of_gt h)
theorem bits_ok {k : Nat} (h : k ≤ 1000) : PySem.IntMulOk (k : Int) ((k : Int) + 3) := PySem.IntMulOk.of_right (PySem.intBits_le_64 (by omega) (by omega))
theorem drawn (C : CxK (mkC b)) {d : Nat} {n m : Nat} {ns : List Int} {k : Nat} {σ : St} {Q : Post} (hn : σ[n]? = some (bagO ns k)) (hlen : ns.length ≤ 64) (hk : k ≤ 1000) (hm : 0 < m)
    (h : ∀ r : Nat, r < m → Q (.int r) (σ.set n (bagO ns (k + 1)))) : Ca (mkC b) (d + 1) (ref 727) [.loc n, .int m] σ Q := by
  refine Ca_def C (fn_727 C) rfl ?_
  have fin : ∀ z : Int, Q (.int (z.fmod m)) (σ.set n (bagO ns (k + 1))) := fun z => by
    have h1 : 0 ≤ z.fmod m := Int.fmod_nonneg_of_pos z (Int.natCast_pos.mpr hm)
    have h2 : z.fmod m < m := Int.fmod_lt_of_pos z (Int.natCast_pos.mpr hm)
    have := h (z.fmod m).toNat (Int.ofNat_lt.mp (by rw [Int.toNat_of_nonneg h1]; exact h2))
    rwa [Int.toNat_of_nonneg h1] at this
  have hn' : (σ.set n (bagO ns (k + 1)))[n]? = some (bagO ns (k + 1)) := set_hit hn
  refine Gi_loc hn (by decide) rfl ?_
  refine Si_list hn (by decide) (show (1 : Int) < 2 by decide) ?_
  refine Gi_loc hn' (by decide) rfl ?_
  refine Ca_lenF (by rw [List.length_map]; exact Nat.le_trans hlen (by decide)) ?_
  rw [List.length_map]
  by_cases hc : (k : Int) < (ns.length : Int)
  · refine br_dT hc ?_
    refine Gi_loc hn' (by decide) rfl ?_
    refine Gi_lst (Int.natCast_nonneg k) (ints_at (Int.ofNat_lt.mp hc)) ?_ (cast_lt hk (by decide))
    exact Ca_abs (Bi_mod (nz hm) (fin _))
  · refine br_dF hc ?_
    exact Bi_mul (bits_ok hk) (Bi_floordiv (by decide) (PyProof.noPylong_of_log2 (by decide +kernel)) (Bi_mod (nz hm) (fin _)))
end
end Mine
end
section
open PySem PySem.W PySem.Calls PyProof.Rows
set_option maxRecDepth 100000
set_option maxHeartbeats 4000000
set_option linter.unusedVariables false
namespace Mine
section
variable {b : CB}
inductive T where
  | nm (x : Str) | wh (n : Int) | two (op : Str) (a b : T) | nt (a : T)
noncomputable def T.v : T → V
  | .nm x => .tup [.str (S "name"), .str x]
  | .wh n => .tup [.str (S "whole"), .int n]
  | .two op a b => .tup [.str (S "two"), .str op, a.v, b.v]
  | .nt a => .tup [.str (S "not"), a.v]
inductive P where
  | set (x : Str) (e : T)
  | br (c : T) (x₁ : Str) (e₁ : T) (x₂ : Str) (e₂ : T)
noncomputable def letV (x : Str) (e : T) : V := .tup [.str (S "LET"), .tup [.str (S "name"), .str x], e.v]
noncomputable def P.v : P → V
  | .set x e => letV x e
  | .br c x₁ e₁ x₂ e₂ => .tup [.str (S "IF"), c.v, .lst [letV x₁ e₁], .lst [letV x₂ e₂]]
noncomputable def ABC : List Str := [S "A", S "B", S "C"]
def isLeaf (t : T) : Prop := (∃ x ∈ ABC, t = .nm x) ∨ t = .wh 3
def isTwo (ops : List Str) (t : T) : Prop := ∃ op a b, op ∈ ops ∧ isLeaf a ∧ isLeaf b ∧ t = .two op a b
noncomputable def pm : List Str := [S "+", S "-"]
noncomputable def cps : List Str := [S "<", S "=", S ">="]
def isP : P → Prop
  | .set x e => x ∈ ABC ∧ isTwo pm e
  | .br c x₁ e₁ x₂ e₂ => isTwo cps c ∧ x₁ ∈ ABC ∧ isTwo pm e₁ ∧ x₂ ∈ ABC ∧ isTwo pm e₂
theorem mA : S "A" ∈ ABC := .head _
theorem mB : S "B" ∈ ABC := .tail _ (.head _)
theorem mC : S "C" ∈ ABC := .tail _ (.tail _ (.head _))
theorem lt2 {r : Nat} (h : r < 2) : r = 0 ∨ r = 1 := by omega
theorem lt3 {r : Nat} (h : r < 3) : r = 0 ∨ r = 1 ∨ r = 2 := by omega
theorem lt4 {r : Nat} (h : r < 4) : r = 0 ∨ r = 1 ∨ r = 2 ∨ r = 3 := by omega
structure Bag (σ : St) (n : Nat) (ns : List Int) (k : Nat) : Prop where
  at_ : σ[n]? = some (bagO ns k)
  len : ns.length ≤ 64
theorem Bag.next {σ : St} {n : Nat} {ns : List Int} {k : Nat} (h : Bag σ n ns k) (k' : Nat) : Bag (σ.set n (bagO ns k')) n ns k' := ⟨set_hit h.at_, h.len⟩
theorem leS {a b c : Nat} (h : a ≤ b) (k : Nat) (e : b + k ≤ c) : a + k ≤ c := Nat.le_trans (Nat.add_le_add_right h k) e
theorem k_leaf (C : CxK (mkC b)) {d : Nat} {n : Nat} {ns : List Int} {k : Nat} {σ : St} {Q : Post} (B : Bag σ n ns k) (hk : k ≤ 1000)
    (h : ∀ t, isLeaf t → Q t.v (σ.set n (bagO ns (k + 1)))) : Ca (mkC b) (d + 2) (ref 734) [.loc n] σ Q := by
  refine Ca_def C (fn_734 C) rfl ?_
  refine drawn C (m := 4) B.at_ B.len hk (by decide) fun r hr => ?_
  rcases lt4 hr with rfl | rfl | rfl | rfl
  · exact h (.nm (S "A")) (.inl ⟨_, mA, rfl⟩)
  · exact h (.nm (S "B")) (.inl ⟨_, mB, rfl⟩)
  · exact h (.nm (S "C")) (.inl ⟨_, mC, rfl⟩)
  · exact h (.wh 3) (.inr rfl)
theorem k_two (C : CxK (mkC b)) {d : Nat} {n : Nat} {ns : List Int} {k : Nat} {σ : St} {Q : Post} {sv : V} {ops : List Str} (B : Bag σ n ns k) (hk : k ≤ 900)
    (hsv : (sv = .str (S "+-") ∧ ops = pm) ∨ (sv = .lst (cps.map .str) ∧ ops = cps))
    (h : ∀ t, isTwo ops t → Q t.v (σ.set n (bagO ns (k + 3)))) : Ca (mkC b) (d + 3) (ref 741) [.loc n, sv] σ Q := by
  refine Ca_def C (fn_741 C) rfl ?_
  have fin : ∀ op ∈ ops, ∀ a bb : T, isLeaf a → isLeaf bb → ∀ σ', σ' = ((σ.set n (bagO ns (k + 1))).set n (bagO ns (k + 1 + 1))).set n (bagO ns (k + 1 + 1 + 1)) → Q (T.v (.two op a bb)) σ' := fun op ho a bb ha hb σ' e => by
    rw [List.set_set, List.set_set] at e
    exact e ▸ h _ ⟨op, a, bb, ho, ha, hb, rfl⟩
  have h1 : k + 1 ≤ 1000 := leS hk 1 (by decide)
  have h2 : k + 1 + 1 ≤ 1000 := leS hk 2 (by decide)
  rcases hsv with ⟨rfl, rfl⟩ | ⟨rfl, rfl⟩
  · refine Ca_lenS (by decide) ?_
    refine drawn C (m := 2) B.at_ B.len (Nat.le_trans hk (by decide)) (by decide) fun r hr => ?_
    rcases lt2 hr with rfl | rfl
    · exact k_leaf C (B.next _) h1 fun a ha => k_leaf C ((B.next _).next _) h2 fun bb hb => fin _ (.head _) a bb ha hb _ rfl
    · exact k_leaf C (B.next _) h1 fun a ha => k_leaf C ((B.next _).next _) h2 fun bb hb => fin _ (.tail _ (.head _)) a bb ha hb _ rfl
  · refine Ca_lenF (by decide) ?_
    refine drawn C (m := 3) B.at_ B.len (Nat.le_trans hk (by decide)) (by decide) fun r hr => ?_
    rcases lt3 hr with rfl | rfl | rfl
    · exact Gi_lst (by decide) rfl (k_leaf C (B.next _) h1 fun a ha => k_leaf C ((B.next _).next _) h2 fun bb hb => fin _ (.head _) a bb ha hb _ rfl)
    · exact Gi_lst (by decide) rfl (k_leaf C (B.next _) h1 fun a ha => k_leaf C ((B.next _).next _) h2 fun bb hb => fin _ (.tail _ (.head _)) a bb ha hb _ rfl)
    · exact Gi_lst (by decide) rfl (k_leaf C (B.next _) h1 fun a ha => k_leaf C ((B.next _).next _) h2 fun bb hb => fin _ (.tail _ (.tail _ (.head _))) a bb ha hb _ rfl)
theorem k_let (C : CxK (mkC b)) {d : Nat} {n : Nat} {ns : List Int} {k : Nat} {σ : St} {Q : Post} (B : Bag σ n ns k) (hk : k ≤ 800)
    (h : ∀ x e, x ∈ ABC → isTwo pm e → Q (letV x e) (σ.set n (bagO ns (k + 4)))) : Ca (mkC b) (d + 4) (ref 748) [.loc n] σ Q := by
  refine Ca_def C (fn_748 C) rfl ?_
  have fin : ∀ x e, x ∈ ABC → isTwo pm e → Q (letV x e) ((σ.set n (bagO ns (k + 1))).set n (bagO ns (k + 1 + 3))) := fun x e hx he => by rw [List.set_set]; exact h x e hx he
  have h1 : k + 1 ≤ 900 := leS hk 1 (by decide)
  refine drawn C (m := 3) B.at_ B.len (Nat.le_trans hk (by decide)) (by decide) fun r hr => ?_
  rcases lt3 hr with rfl | rfl | rfl
  · exact k_two C (B.next _) h1 (.inl ⟨rfl, rfl⟩) fun t ht => fin _ t mA ht
  · exact k_two C (B.next _) h1 (.inl ⟨rfl, rfl⟩) fun t ht => fin _ t mB ht
  · exact k_two C (B.next _) h1 (.inl ⟨rfl, rfl⟩) fun t ht => fin _ t mC ht
theorem k_test (C : CxK (mkC b)) {d : Nat} {n : Nat} {ns : List Int} {k : Nat} {σ : St} {Q : Post} (B : Bag σ n ns k) (hk : k ≤ 800)
    (h : ∀ e, isTwo cps e → Q e.v (σ.set n (bagO ns (k + 3)))) : Ca (mkC b) (d + 4) (ref 755) [.loc n] σ Q := by
  refine Ca_def C (fn_755 C) rfl ?_
  refine W_ListF C ?_
  exact k_two C B (Nat.le_trans hk (by decide)) (.inr ⟨rfl, rfl⟩) h
theorem k_statement (C : CxK (mkC b)) {d : Nat} {n : Nat} {ns : List Int} {k : Nat} {σ : St} {Q : Post} (B : Bag σ n ns k) (hk : k ≤ 700)
    (h : ∀ p k', isP p → k' ≤ k + 12 → Q p.v (σ.set n (bagO ns k'))) : Ca (mkC b) (d + 5) (ref 762) [.loc n] σ Q := by
  refine Ca_def C (fn_762 C) rfl ?_
  refine drawn C (m := 2) B.at_ B.len (Nat.le_trans hk (by decide)) (by decide) fun r hr => ?_
  have h1 : k + 1 ≤ 800 := leS hk 1 (by decide)
  rcases lt2 hr with rfl | rfl
  · refine k_test C (B.next _) h1 fun c hc => ?_
    refine k_let C ((B.next _).next _) (leS hk 4 (by decide)) fun x₁ e₁ hx₁ he₁ => ?_
    refine W_ListF C ?_
    refine W_ListF C ?_
    refine k_let C (((B.next _).next _).next _) (leS hk 8 (by decide)) fun x₂ e₂ hx₂ he₂ => ?_
    show Q (P.v (.br c x₁ e₁ x₂ e₂)) _
    rw [List.set_set, List.set_set, List.set_set]
    exact h _ _ ⟨hc, hx₁, he₁, hx₂, he₂⟩ (Nat.le_refl _)
  · refine k_let C (B.next _) h1 fun x e hx he => ?_
    show Q (P.v (.set x e)) _
    rw [List.set_set]
    exact h _ _ ⟨hx, he⟩ (Nat.add_le_add_left (by decide : 5 ≤ 12) k)
end
end Mine
end
section
open PySem PySem.W PySem.Calls PyProof.Rows
set_option maxRecDepth 100000
set_option maxHeartbeats 4000000
set_option linter.unusedVariables false
namespace Mine
section
variable {b : CB}
noncomputable def T.sub : T → Str → T → T
  | .nm y, x, e => if y = x then e else .nm y
  | .wh n, _, _ => .wh n
  | .two op a b, x, e => .two op (a.sub x e) (b.sub x e)
  | .nt a, x, e => .nt (a.sub x e)
noncomputable def T.dp : T → Nat
  | .nm _ => 0
  | .wh _ => 0
  | .two _ a b => max a.dp b.dp + 1
  | .nt a => a.dp + 1
theorem up1 {a d : Nat} (h : a + 1 ≤ d) : ∃ e, d = e + 1 ∧ a ≤ e := by cases d with | zero => exact absurd h (Nat.not_succ_le_zero _) | succ e => exact ⟨e, rfl, Nat.le_of_succ_le_succ h⟩
theorem k_put (C : CxK (mkC b)) (x : Str) (e : T) : ∀ (t : T) {d : Nat} {σ : St} {Q : Post}, t.dp ≤ d → Q (t.sub x e).v σ → Ca (mkC b) (d + 1) (ref 769) [t.v, .str x, e.v] σ Q := by
  intro t
  induction t with
  | nm y =>
    intro d σ Q hd h
    refine Ca_def C (fn_769 C) rfl ?_
    by_cases hy : y = x
    · subst hy; rw [show T.sub (.nm y) y e = e from if_pos rfl] at h; exact br_dT rfl h
    · rw [show T.sub (.nm y) x e = .nm y from if_neg hy] at h; exact br_dF hy h
  | wh n =>
    intro d σ Q hd h
    exact Ca_def C (fn_769 C) rfl h
  | two op a b iha ihb =>
    intro d σ Q hd h
    obtain ⟨d, rfl, hd'⟩ := up1 hd
    exact Ca_def C (fn_769 C) rfl (iha (Nat.le_trans (Nat.le_max_left _ _) hd') (ihb (Nat.le_trans (Nat.le_max_right _ _) hd') h))
  | nt a iha =>
    intro d σ Q hd h
    obtain ⟨d, rfl, hd'⟩ := up1 hd
    exact Ca_def C (fn_769 C) rfl (iha hd' h)
noncomputable def P.ahead : P → T → T
  | .set x e, q => q.sub x e
  | .br c x₁ e₁ x₂ e₂, q => .two (S "OR") (.two (S "AND") c (q.sub x₁ e₁)) (.two (S "AND") (.nt c) (q.sub x₂ e₂))
theorem k_ahead1 (C : CxK (mkC b)) {x : Str} {e q : T} {d : Nat} {σ : St} {Q : Post} (hd : q.dp ≤ d) (h : Q (q.sub x e).v σ) : Ca (mkC b) (d + 2) (ref 776) [letV x e, q.v] σ Q :=
  Ca_def C (fn_776 C) rfl (k_put C x e q hd h)
theorem k_ahead (C : CxK (mkC b)) {p : P} {q : T} {d : Nat} {σ : St} {Q : Post} (hd : q.dp ≤ d) (h : Q (p.ahead q).v σ) : Ca (mkC b) (d + 3) (ref 776) [p.v, q.v] σ Q := by
  cases p with
  | set x e => exact k_ahead1 C (Nat.le_succ_of_le hd) h
  | br c x₁ e₁ x₂ e₂ =>
    refine Ca_def C (fn_776 C) rfl ?_
    refine Gi_lst (by decide) rfl ?_
    refine k_ahead1 C hd ?_
    refine Gi_lst (by decide) rfl ?_
    exact k_ahead1 C hd ⟨rfl, h⟩
end
end Mine
end
section
open PySem PySem.W PySem.Calls PyProof.Rows
set_option maxRecDepth 100000
set_option maxHeartbeats 4000000
set_option linter.unusedVariables false
namespace Mine
section
variable {b : CB}
abbrev Env0 := List (Str × V)
noncomputable def look (l : Env0) (x : Str) : Int := match getK l x with | some (.int i) => i | _ => 0
def has (l : Env0) : Prop := ∀ x ∈ ABC, getK l x = some (.int (look l x))
noncomputable def cmpF (op : Str) (a b : Int) : Bool := if op = S "<" then decide (a < b) else if op = S "=" then decide (a = b) else decide (b ≤ a)
noncomputable def arF (op : Str) (a b : Int) : Int := if op = S "+" then a + b else a - b
noncomputable def lf (l : Env0) : T → Int
  | .nm x => look l x
  | .wh n => n
  | _ => 0
theorem forget0 {σ g : St} {v : V} {Q : Post} (hv : clV σ.length v = true) (h : Q v σ) : ∃ σ₁ g', σ ++ g = σ₁ ++ g' ∧ σ₁.length = σ.length ∧ (∀ (i : Nat) (o : SO), σ₁[i]? = some o → σ[i]? = some o ∨ clO σ.length o = true) ∧ clV σ.length v = true ∧ Q v σ₁ :=
  ⟨σ, g, rfl, rfl, fun _ _ e => .inl e, hv, h⟩
theorem setLast {σ : St} {o o' : SO} : (σ ++ [o]).set σ.length o' = σ ++ [o'] := set_app0
theorem mem2 {α : Type} {x a b : α} (h : x ∈ [a, b]) : x = a ∨ x = b := by cases h with | head => exact .inl rfl | tail _ h => exact .inr (List.mem_singleton.mp h)
theorem mem3 {α : Type} {x a b c : α} (h : x ∈ [a, b, c]) : x = a ∨ x = b ∨ x = c := by cases h with | head => exact .inl rfl | tail _ h => exact .inr (mem2 h)
theorem wC2 {F : Rec} {sc : Sc} {elt : Expr} {x : Str} {K : St → Prop} {T : List V → St → Prop} {a b ua ub : V} {ρ : Vars} {σ : St} (hK : ∀ σ', K σ') (e1 : ∀ Q : Post, Q ua (σ ++ [.list []]) → (F sc).E elt (put ρ x a) (σ ++ [.list []]) Q)
    (e2 : ∀ Q : Post, Q ub (σ ++ [.list [ua]]) → (F sc).E elt (put (put ρ x a) x b) (σ ++ [.list [ua]]) Q) (h : T [ua, ub] (σ ++ [.list [ua, ub]])) : wCOMPS F sc elt x K σ.length T [a, b] [] ρ (σ ++ [.list []]) := by
  refine e1 _ ⟨app_0, Nat.le_of_ble_eq_true rfl, hK _, ?_⟩
  rw [setLast]
  refine e2 _ ⟨app_0, Nat.le_of_ble_eq_true rfl, hK _, ?_⟩
  rw [setLast]
  exact ⟨app_0, h⟩
theorem k_value (C : CxK (mkC b)) {op : Str} {t u : T} {n : Nat} {l : Env0} {d : Nat} {σ : St} {Q : Post} (ha : isLeaf t) (hb' : isLeaf u) (hn : σ[n]? = some (.dictS l)) (hl : has l)
    (h1 : op ∈ pm → Q (.int (arF op (lf l t) (lf l u))) σ) (h2 : op ∈ cps → Q (.bool (cmpF op (lf l t) (lf l u))) σ) (hop : op ∈ pm ∨ op ∈ cps) : Ca (mkC b) (d + 1) (ref 781) [(T.two op t u).v, .loc n] σ Q := by
  refine Ca_forget ?_
  refine Ca_def C (fn_781 C) rfl ?_
  refine ⟨2, rfl, Nat.le_of_ble_eq_true rfl, Nat.le_of_ble_eq_true rfl, Nat.le_of_ble_eq_true rfl, ?_⟩
  refine Iv_tup ⟨trivial, ?_⟩
  refine wC2 (ua := .int (lf l t)) (ub := .int (lf l u)) (fun _ => trivial) (fun Q q => ?_) (fun Q q => ?_) ⟨_, .inr ⟨_, rfl, .inl app_0⟩, rfl, ?_⟩
  · rcases ha with ⟨x, hx, rfl⟩ | rfl
    · exact Gi_dictS (app_l hn) (hl x hx) q
    · exact q
  · rcases hb' with ⟨x, hx, rfl⟩ | rfl
    · exact Gi_dictS (app_l hn) (hl x hx) q
    · exact q
  rcases hop with ho | ho
  · rcases mem2 ho with rfl | rfl
    · exact forget0 rfl (h1 ho)
    · exact forget0 rfl (h1 ho)
  · rcases mem3 ho with rfl | rfl | rfl
    · exact forget0 rfl (h2 ho)
    · exact forget0 rfl (h2 ho)
    · exact forget0 rfl (h2 ho)
noncomputable def T.val (l : Env0) : T → Int
  | .two op a b => arF op (lf l a) (lf l b)
  | _ => 0
noncomputable def T.tst (l : Env0) : T → Bool
  | .two op a b => cmpF op (lf l a) (lf l b)
  | _ => false
noncomputable def P.run : P → Env0 → Env0
  | .set x e, l => putK l x (.int (e.val l))
  | .br c x₁ e₁ x₂ e₂, l => if c.tst l then putK l x₁ (.int (e₁.val l)) else putK l x₂ (.int (e₂.val l))
theorem pm_not_cps {op : Str} (h : op ∈ pm) (h' : op ∈ cps) : False := by
  rcases mem2 h with rfl | rfl <;> exact absurd h' (by decide)
theorem k_val (C : CxK (mkC b)) {e : T} {n : Nat} {l : Env0} {d : Nat} {σ : St} {Q : Post} (he : isTwo pm e) (hn : σ[n]? = some (.dictS l)) (hl : has l) (h : Q (.int (e.val l)) σ) : Ca (mkC b) (d + 1) (ref 781) [e.v, .loc n] σ Q := by
  obtain ⟨op, a, b, hop, ha, hb', rfl⟩ := he
  exact k_value C ha hb' hn hl (fun _ => h) (fun h' => (pm_not_cps hop h').elim) (.inl hop)
theorem k_tst (C : CxK (mkC b)) {e : T} {n : Nat} {l : Env0} {d : Nat} {σ : St} {Q : Post} (he : isTwo cps e) (hn : σ[n]? = some (.dictS l)) (hl : has l) (h : Q (.bool (e.tst l)) σ) : Ca (mkC b) (d + 1) (ref 781) [e.v, .loc n] σ Q := by
  obtain ⟨op, a, b, hop, ha, hb', rfl⟩ := he
  exact k_value C ha hb' hn hl (fun h' => (pm_not_cps h' hop).elim) (fun _ => h) (.inr hop)
end
end Mine
end
section
open PySem PySem.W PySem.Calls PyProof.Rows
set_option maxRecDepth 100000
set_option maxHeartbeats 4000000
set_option linter.unusedVariables false
namespace Mine
section
variable {b : CB}
theorem k_done (C : CxK (mkC b)) {p : P} {n : Nat} {l : Env0} {d : Nat} {σ : St} {Q : Post} (hp : isP p) (hn : σ[n]? = some (.dictS l)) (hl : has l) (hz : l.length ≤ 900) (h : Q .none (σ.set n (.dictS (p.run l)))) : Ca (mkC b) (d + 2) (ref 788) [p.v, .loc n] σ Q := by
  have hz' : l.length ≤ 9000 := Nat.le_trans hz (Nat.le_of_ble_eq_true rfl)
  cases p with
  | set x e =>
    refine Ca_def C (fn_788 C) rfl ?_
    refine k_val C hp.2 hn hl ?_
    exact Si_dictS hn hz' h
  | br c x₁ e₁ x₂ e₂ =>
    obtain ⟨h1, h2, h3, h4, h5⟩ := hp
    refine Ca_def C (fn_788 C) rfl ?_
    refine k_tst C h1 hn hl ?_
    by_cases hc : c.tst l = true
    · rw [show P.run (.br c x₁ e₁ x₂ e₂) l = putK l x₁ (.int (e₁.val l)) from if_pos hc] at h
      refine br_T hc ?_
      refine Gi_lst (by decide) rfl ?_
      refine k_val C h3 hn hl ?_
      exact Si_dictS hn hz' h
    · rw [show P.run (.br c x₁ e₁ x₂ e₂) l = putK l x₂ (.int (e₂.val l)) from if_neg hc] at h
      refine br_F (Bool.eq_false_iff.mpr hc) ?_
      refine Gi_lst (by decide) rfl ?_
      refine k_val C h5 hn hl ?_
      exact Si_dictS hn hz' h
end
end Mine
end
section
open PySem PySem.W PySem.Calls PyProof.Rows
set_option maxRecDepth 100000
set_option maxHeartbeats 4000000
set_option linter.unusedVariables false
namespace Mine
section
variable {b : CB}
theorem ne_of_kind {σ : St} {n m : Nat} {o o' : SO} (h : σ[n]? = some o) (h' : σ[m]? = some o') (ho : o ≠ o') : n ≠ m := fun e => ho (by subst e; rw [h] at h'; exact Option.some.inj h')
theorem aok {K : Frag} {C : Addr} {name : Str} (h : (plainGet K C name && (hasDictIn K C && (match findIn K (.ref C) name with | some attr => noGet K attr | none => false))) = true) : AttrOf K C name := by
  obtain ⟨h1, h⟩ := and2 h
  obtain ⟨h2, h⟩ := and2 h
  refine ⟨h1, h2, ?_⟩
  cases e : findIn K (.ref C) name with
  | none => rw [e] at h; cases h
  | some attr => rw [e] at h; exact ⟨attr, rfl, h⟩
structure Pf where
  (f a r p dt pr lp fn : Nat)
noncomputable def flatA (z : Pf) : List (Str × V) := [(S "rows", .loc z.r), (S "places", .loc z.p), (S "data", .loc z.dt), (S "pairs", .loc z.pr), (S "loops", .loc z.lp), (S "fns", .loc z.fn)]
structure FlatAt (σ : St) (z : Pf) (L : List V) : Prop where
  inst : σ[z.f]? = some (.inst 423 z.a)
  attrs : σ[z.a]? = some (.attrs (flatA z))
  rows : σ[z.r]? = some (.list L)
theorem FlatAt.set {σ : St} {z : Pf} {L : List V} (H : FlatAt σ z L) (L' : List V) : FlatAt (σ.set z.r (.list L')) z L' :=
  ⟨set_miss (ne_of_kind H.rows H.inst nofun) H.inst, set_miss (ne_of_kind H.rows H.attrs nofun) H.attrs, set_hit H.rows⟩
noncomputable def row (ln : Int) (s : V) : V := .tup [.int ln, s]
theorem At_rows (C : CxK (mkC b)) {d : Nat} {σ : St} {z : Pf} {L : List V} {Q : Post} (H : FlatAt σ z L) (h : Q (.loc z.r) σ) : At (mkC b) d (.loc z.f) (S "rows") σ Q := At_inst C H.inst H.attrs rfl (aok (by kernel_rfl)) rfl h
theorem le_cap {n m : Nat} (h : n ≤ 4000) (e : 4000 ≤ m := by exact Nat.le_of_ble_eq_true rfl) : n ≤ m := Nat.le_trans h e
abbrev upF (σ : St) (z : Pf) (L : List V) : St := σ.set z.r (.list L)
theorem k_row (C : CxK (mkC b)) {z : Pf} {L0 : List V} (L : List V) {ln : Int} {sv : V} {d : Nat} {σ : St} {Q : Post} (H : FlatAt σ z L0) (hz : L.length ≤ 4000)
    (h : Q (.int L.length) (upF σ z (L ++ [row ln sv]))) : Ca (mkC b) (d + 1) (ref 434) [.loc z.f, .int ln, sv] (upF σ z L) Q := by
  have el : (L ++ [row ln sv]).length = L.length + 1 := List.length_append
  have e : (((L ++ [row ln sv]).length : Nat) : Int) - 1 = (L.length : Nat) := by rw [el]; exact Int.add_sub_cancel (L.length : Int) 1
  refine Ca_def C (fn_434 C) rfl ?_
  refine At_rows C (H.set L) ?_
  refine Gm_append (H.set L).rows ?_
  refine KCa_append (H.set L).rows (le_cap hz) ?_
  rw [List.set_set]
  refine At_rows C (H.set _) ?_
  refine Ca_len (H.set _).rows (el ▸ Nat.le_trans (Nat.succ_le_succ hz) (Nat.le_of_ble_eq_true rfl)) ?_
  show Q (.int (((L ++ [row ln sv]).length : Nat) - 1)) _
  rw [e]; exact h
noncomputable def letR (ln : Int) (x : Str) (e : T) : V := row ln (letV x e)
noncomputable def ifnV (t : T) (n : Nat) : V := .tup [.str (S "IFNOT"), t.v, .int (n : Nat)]
noncomputable def jmpV (n : Nat) : V := .tup [.str (S "JUMP"), .int (n : Nat)]
noncomputable def P.rows (ln : Int) (i : Nat) : P → List V
  | .set x e => [letR ln x e]
  | .br c x₁ e₁ x₂ e₂ => [row ln (ifnV c (i + 3)), letR ln x₁ e₁, row ln (jmpV (i + 4)), letR ln x₂ e₂]
theorem k_all1 (C : CxK (mkC b)) {z : Pf} {ln : Int} {x : Str} {e : T} {d : Nat} {L0 : List V} (L : List V) {σ : St} {Q : Post} (H : FlatAt σ z L0) (hz : L.length ≤ 4000)
    (h : Q .none (upF σ z (L ++ [letR ln x e]))) : Ca (mkC b) (d + 2) (ref 448) [.loc z.f, .int ln, .lst [letV x e]] (upF σ z L) Q := by
  refine Ca_def C (fn_448 C) rfl ?_
  refine W_For C ["flat", "line"] (Iv_lst fun K hK => ?_)
  refine k_row C L H hz ?_
  exact ⟨hK _, h⟩
theorem setL {L t : List V} {u v : V} {n : Int} (h : (L.length : Int) = n) : (L ++ u :: t).set n.toNat v = L ++ v :: t := by subst h; rw [Int.toNat_natCast, List.set_append_right _ _ (Nat.le_refl _), Nat.sub_self]; rfl
theorem app1 (L t : List V) (v : V) : (L ++ t) ++ [v] = L ++ (t ++ [v]) := List.append_assoc _ _ _
theorem app2 (L t : List V) (u v : V) : L ++ u :: v :: t = (L ++ [u, v]) ++ t := (List.append_assoc L [u, v] t).symm
theorem Si_row {σ : St} {z : Pf} {L0 L t M M' : List V} {u v : V} {k : Int} {d : Nat} {P : St → Prop} (H : FlatAt σ z L0) (hM : M = L ++ u :: t) (hk : (L.length : Int) = k) (hz : L.length ≤ 4000) (hM' : M' = L ++ v :: t) (h : P (upF σ z M')) : Si (mkC b) d (.loc z.r) (.int k) v (upF σ z M) P := by
  subst hk hM hM'
  refine Si_list (H.set _).rows (Int.natCast_nonneg _) (Int.ofNat_lt.mpr (by rw [List.length_append]; exact Nat.lt_add_of_pos_right (Nat.succ_pos _))) ?_ (cast_lt hz (by decide))
  rw [List.set_set, setL rfl]; exact h
theorem Ca_lenR {σ : St} {z : Pf} {L0 L t : List V} {n m d : Nat} {Q : Post} (H : FlatAt σ z L0) (e : t.length = m) (hz : L.length ≤ n) (hn : Nat.ble (n + m) 100000 = true) (h : Q (.int (L.length + m : Nat)) (upF σ z (L ++ t))) : Ca (mkC b) d (.raw (.builtin "len")) [.loc z.r] (upF σ z (L ++ t)) Q := by
  have el : (L ++ t).length = L.length + m := e ▸ List.length_append
  refine Ca_len (H.set _).rows (el ▸ Nat.le_trans (Nat.add_le_add_right hz m) (Nat.le_of_ble_eq_true hn)) ?_
  rw [el]; exact h
theorem k_if (C : CxK (mkC b)) {z : Pf} {ln : Int} {c : T} {x₁ : Str} {e₁ : T} {x₂ : Str} {e₂ : T} {d : Nat} {L0 : List V} (L : List V) {σ : St} {Q : Post} (H : FlatAt σ z L0) (hz : L.length ≤ 3000)
    (h : Q .none (upF σ z (L ++ P.rows ln L.length (.br c x₁ e₁ x₂ e₂)))) : Ca (mkC b) (d + 3) (ref 441) [.loc z.f, .int ln, (P.br c x₁ e₁ x₂ e₂).v] (upF σ z L) Q := by
  have hz' : ∀ {t : List V} (k : Nat), t.length = k → Nat.ble (3000 + k) 4000 = true → (L ++ t).length ≤ 4000 := fun k e hk => by rw [List.length_append, e]; exact leS hz k (Nat.le_of_ble_eq_true hk)
  have hz1 : L.length ≤ 4000 := Nat.le_trans hz (Nat.le_of_ble_eq_true rfl)
  refine Ca_def C (fn_441 C) rfl ?_
  refine k_row C L H hz1 ?_
  refine k_all1 C _ H (hz' 1 rfl rfl) ?_
  refine Ca_lenF (Nat.le_of_ble_eq_true rfl) ?_
  rw [app1]
  refine k_row C _ H (hz' 2 rfl rfl) ?_
  rw [app1]
  refine At_rows C (H.set _) ?_
  refine Ca_lenR H rfl hz rfl ?_
  refine At_rows C (H.set _) ?_
  refine Si_row H rfl rfl hz1 rfl ?_
  refine k_all1 C _ H (hz' 3 rfl rfl) ?_
  rw [app1]
  refine At_rows C (H.set _) ?_
  refine Ca_lenR H rfl hz rfl ?_
  refine At_rows C (H.set _) ?_
  exact Si_row (L := L ++ [row ln (ifnV c (L.length + 3)), letR ln x₁ e₁]) (t := [letR ln x₂ e₂]) H (app2 _ _ _ _) (by rw [List.length_append, List.length_append]; rfl) (hz' 2 rfl rfl) (app2 _ _ _ _) h
end
end Mine
end
section
open PySem PySem.W PySem.Calls PyProof.Rows
set_option maxRecDepth 100000
set_option maxHeartbeats 4000000
set_option linter.unusedVariables false
namespace Mine
section
variable {b : CB}
noncomputable def remV : V := .tup [.str (S "REM"), .str (S "ahead")]
noncomputable def headR (ln : Int) (t : T) : List V := [letR ln (S "X") t, row ln remV]
theorem k_all2 (C : CxK (mkC b)) {z : Pf} {ln : Int} {t : T} {d : Nat} {L0 : List V} (L : List V) {σ : St} {Q : Post} (H : FlatAt σ z L0) (hz : L.length ≤ 2000)
    (h : Q .none (upF σ z (L ++ headR ln t))) : Ca (mkC b) (d + 2) (ref 448) [.loc z.f, .int ln, .lst [letV (S "X") t, remV]] (upF σ z L) Q := by
  have hz' : L.length + 1 ≤ 4000 := leS hz 1 (Nat.le_of_ble_eq_true rfl)
  refine Ca_def C (fn_448 C) rfl ?_
  refine W_For C ["flat", "line"] (Iv_lst fun K hK => ?_)
  refine k_row C L H (Nat.le_of_succ_le hz') ⟨hK _, ?_⟩
  refine k_row C _ H (List.length_append ▸ hz') ⟨hK _, ?_⟩
  rw [app1]; exact h
theorem k_all3 (C : CxK (mkC b)) {z : Pf} {ln : Int} {t : T} {s : P} {d : Nat} {L0 : List V} (L : List V) {σ : St} {Q : Post} (H : FlatAt σ z L0) (hz : L.length ≤ 2000)
    (h : Q .none (upF σ z (L ++ (headR ln t ++ s.rows ln (L.length + 2))))) : Ca (mkC b) (d + 4) (ref 448) [.loc z.f, .int ln, .lst [letV (S "X") t, remV, s.v]] (upF σ z L) Q := by
  have hz' : L.length + 1 ≤ 4000 := leS hz 1 (Nat.le_of_ble_eq_true rfl)
  have e2 : (L ++ headR ln t).length = L.length + 2 := List.length_append
  have h2 : (L ++ headR ln t).length ≤ 3000 := e2 ▸ leS hz 2 (Nat.le_of_ble_eq_true rfl)
  rw [← List.append_assoc, ← e2] at h
  refine Ca_def C (fn_448 C) rfl ?_
  refine W_For C ["flat", "line"] (Iv_lst fun K hK => ?_)
  refine k_row C L H (Nat.le_of_succ_le hz') ⟨hK _, ?_⟩
  refine k_row C _ H (List.length_append ▸ hz') ⟨hK _, ?_⟩
  rw [app1]
  cases s with
  | set x e => exact k_row C _ H (Nat.le_trans h2 (Nat.le_of_ble_eq_true rfl)) ⟨hK _, h⟩
  | br c x₁ e₁ x₂ e₂ => exact k_if C _ H h2 ⟨hK _, h⟩
end
end Mine
end
section
open PySem PySem.W PySem.Calls PyProof.Rows
set_option maxRecDepth 100000
set_option maxHeartbeats 4000000
set_option linter.unusedVariables false
namespace Mine
section
variable {b : CB}
theorem set_same {σ : St} {n : Nat} {o : SO} (h : σ[n]? = some o) : σ.set n o = σ := by
  apply List.ext_getElem?
  intro i
  by_cases hi : n = i
  · subst hi; rw [List.getElem?_set_self (List.getElem?_eq_some_iff.mp h).1, h]
  · rw [List.getElem?_set_ne hi]
noncomputable def words : List Str := [S "LET", S "REM", S "IFNOT", S "JUMP"]
def quiet (v : V) : Prop := ∃ ln w rest, v = row ln (.tup (.str w :: rest)) ∧ w ∈ words
theorem mem4 {α : Type} {x a b c e : α} (h : x ∈ [a, b, c, e]) : x = a ∨ x = b ∨ x = c ∨ x = e := by cases h with | head => exact .inl rfl | tail _ h => exact .inr (mem3 h)
theorem k_gather (C : CxK (mkC b)) {z : Pf} {d : Nat} {L : List V} {σ : St} {Q : Post} (H : FlatAt σ z L) (hq : ∀ v ∈ L, quiet v) (h : Q .none σ) : Ca (mkC b) (d + 1) (ref 455) [.loc z.f] σ Q := by
  refine Ca_def C (fn_455 C) rfl ?_
  refine W_ListF C ?_
  refine W_ListF C ?_
  refine W_ListF C ⟨rfl, ?_⟩
  refine Ex_fz H.rows fun xs k => W_For C [] ?_
  refine At_inst C (set_miss (ne_of_kind H.rows H.inst nofun) H.inst) (set_miss (ne_of_kind H.rows H.attrs nofun) H.attrs) rfl (aok (by kernel_rfl)) rfl ?_
  refine Ic_enumF (set_hit H.rows) fun K hK => ?_
  refine (?_ : ∀ l : List V, (∀ v ∈ l, ∃ (i : Int) (u : V), v = .tup [.int i, u] ∧ quiet u) → kLOOPS _ _ _ _ _ _ _ _ l [] _) _ ?_
  · intro l
    induction l with
    | nil =>
      intro _
      refine ⟨set_hit H.rows, ?_⟩
      rw [List.set_set, set_same H.rows]
      exact h
    | cons v l ih =>
      intro hv
      obtain ⟨i, u, rfl, ln, wd, rest, rfl, hw⟩ := hv v List.mem_cons_self
      have next := And.intro (hK _ (set_hit H.rows)) (ih fun v m => hv v (List.mem_cons_of_mem _ m))
      refine ⟨rfl, rfl, ?_⟩
      rcases mem4 hw with rfl | rfl | rfl | rfl
      · exact next
      · exact next
      · exact next
      · exact next
  · intro v hv
    obtain ⟨i, hi, rfl⟩ := List.mem_iff_getElem.mp hv
    have hi' : i < L.length := List.length_mapIdx ▸ hi
    rw [List.getElem_mapIdx]
    exact ⟨i, L[i], rfl, hq _ (List.getElem_mem hi')⟩
end
end Mine
end
section
open PySem PySem.W PySem.Calls PyProof.Rows
set_option maxRecDepth 100000
set_option maxHeartbeats 4000000
set_option linter.unusedVariables false
namespace Mine
section
variable {b : CB}
theorem W_list0 (C : CxK (mkC b)) {sc : Sc} {d : Nat} {pos : Pos} {ρ : Vars} {σ t : St} {Q : Post} {k : Nat} (hk : t.length = k) (h : Q (.loc (σ.length + k)) (σ ++ (t ++ [.list []]))) : Ev (mkC b) sc d (.List [] pos) ρ (σ ++ t) Q :=
  W_List C (show Q _ _ by rw [List.length_append, hk, List.append_assoc]; exact h)
theorem W_dict0 {sc : Sc} {d : Nat} {pos : Pos} {ρ : Vars} {σ t : St} {Q : Post} {k : Nat} (hk : t.length = k) (h : Q (.loc (σ.length + k)) (σ ++ (t ++ [.dictI []]))) : Ev (mkC b) sc d (.Dict [] [] pos) ρ (σ ++ t) Q :=
  W_dictI (by rw [List.length_append, hk, List.append_assoc]; exact h)
theorem Sa_new {σ t : St} {l : List (Str × V)} {C : Addr} {attr : Str} {v : V} {P : St → Prop} (hs : StoreOf (mkC b).K C attr) (h1 : t[1]? = some (.inst C σ.length)) (h0 : t[0]? = some (.attrs l)) (hz : Nat.ble l.length 900 = true) (h : P (σ ++ t.set 0 (.attrs (put l attr v)))) : Sa (mkC b) (.loc (σ.length + 1)) attr v (σ ++ t) P :=
  Sa_inst (app_k h1) (app_k (k := 0) h0) hs (Nat.le_of_ble_eq_true hz) (by rw [set_app0]; exact h)
noncomputable def pfN (n : Nat) : Pf := ⟨n + 1, n, n + 2, n + 3, n + 4, n + 5, n + 6, n + 7⟩
noncomputable def flatO (n : Nat) : St := [.attrs (flatA (pfN n)), .inst 423 n, .list [], .dictI [], .list [], .dictI [], .dictI [], .dictI []]
theorem k_Flat (C : CxK (mkC b)) {d : Nat} {σ : St} {Q : Post} (h : Q (.loc (σ.length + 1)) (σ ++ flatO σ.length)) : Ca (mkC b) (d + 2) (ref 423) [] σ Q := by
  refine Ca_make C (f := 420) (by kernel_rfl) (by kernel_rfl) (by kernel_rfl) (fn_420 C) rfl ?_
  refine W_list0 C rfl ?_
  refine Sa_new ⟨by kernel_rfl, by kernel_rfl, by kernel_rfl, by kernel_rfl⟩ rfl rfl rfl ?_
  refine W_dict0 rfl ?_
  refine Sa_new ⟨by kernel_rfl, by kernel_rfl, by kernel_rfl, by kernel_rfl⟩ rfl rfl rfl ?_
  refine W_list0 C rfl ?_
  refine Sa_new ⟨by kernel_rfl, by kernel_rfl, by kernel_rfl, by kernel_rfl⟩ rfl rfl rfl ?_
  refine W_dict0 rfl ?_
  refine Sa_new ⟨by kernel_rfl, by kernel_rfl, by kernel_rfl, by kernel_rfl⟩ rfl rfl rfl ?_
  refine W_dict0 rfl ?_
  refine Sa_new ⟨by kernel_rfl, by kernel_rfl, by kernel_rfl, by kernel_rfl⟩ rfl rfl rfl ?_
  refine W_dict0 rfl ?_
  refine Sa_new ⟨by kernel_rfl, by kernel_rfl, by kernel_rfl, by kernel_rfl⟩ rfl rfl rfl ?_
  exact ⟨rfl, h⟩
theorem getK_put {K : Type} [DecidableEq K] {α : Type} (l : List (K × α)) (k : K) (v : α) : getK (putK l k v) k = some v := by
  unfold putK
  split
  · rename_i h
    induction l with
    | nil => cases h
    | cons p r ih =>
      obtain ⟨a, b⟩ := p
      by_cases ha : a = k
      · subst ha; rw [List.map_cons, if_pos rfl]; exact if_pos rfl
      · rw [List.map_cons, if_neg ha]
        refine (if_neg ha).trans (ih ?_)
        rw [List.any_cons, decide_eq_false ha] at h; exact h
  · rename_i h
    induction l with
    | nil => exact if_pos rfl
    | cons p r ih =>
      obtain ⟨a, b⟩ := p
      rw [List.any_cons] at h
      have ha : ¬ a = k := fun e => h (by rw [decide_eq_true e]; rfl)
      exact (if_neg ha).trans (ih fun e => h (by rw [e, Bool.or_true]))
noncomputable def lineV (ln : Int) (l : List V) : V := .tup [.int ln, .lst l]
end
end Mine
end
section
open PySem PySem.W PySem.Calls PyProof.Rows
set_option maxRecDepth 100000
set_option maxHeartbeats 4000000
set_option linter.unusedVariables false
namespace Mine
section
variable {b : CB}
structure Ln where
  ln : Int
  sts : List V
  out : Nat → List V
noncomputable def Ln.v (x : Ln) : V := lineV x.ln x.sts
structure LnOk (b : CB) (x : Ln) : Prop where
  run : ∀ {z : Pf} {L0 : List V} (L : List V) {d : Nat} {σ : St} {Q : Post}, FlatAt σ z L0 → L.length ≤ 2000 → Q .none (upF σ z (L ++ x.out L.length)) → Ca (mkC b) (d + 4) (ref 448) [.loc z.f, .int x.ln, .lst x.sts] (upF σ z L) Q
  pos : ∀ n, 0 < (x.out n).length
  le : ∀ n, (x.out n).length ≤ 6
  qt : ∀ n, ∀ v ∈ x.out n, quiet v
noncomputable def flatS (n : Nat) (L : List V) (D : List (Int × V)) : St := [.attrs (flatA (pfN n)), .inst 423 n, .list L, .dictI D, .list [], .dictI [], .dictI [], .dictI []]
theorem flatAt0 (σ : St) (L : List V) (D : List (Int × V)) : FlatAt (σ ++ flatS σ.length L D) (pfN σ.length) L := ⟨app_k rfl, app_k (k := 0) rfl, app_k rfl⟩
theorem upF_S (σ : St) (L L' : List V) (D : List (Int × V)) : upF (σ ++ flatS σ.length L D) (pfN σ.length) L' = σ ++ flatS σ.length L' D := set_appk
theorem At_places (C : CxK (mkC b)) {d : Nat} {σ : St} {z : Pf} {L : List V} {Q : Post} (H : FlatAt σ z L) (h : Q (.loc z.p) σ) : At (mkC b) d (.loc z.f) (S "places") σ Q := At_inst C H.inst H.attrs rfl (aok (by kernel_rfl)) rfl h
noncomputable def rowsAll : List Ln → List V → List V
  | [], L => L
  | x :: xs, L => rowsAll xs (L ++ x.out L.length)
theorem putK_le {K : Type} [DecidableEq K] {α : Type} (l : List (K × α)) (x : K) (v : α) : (putK l x v).length ≤ l.length + 1 := by
  unfold putK
  split
  · rw [List.length_map]; exact Nat.le_succ _
  · rw [List.length_append]; exact Nat.le_refl _
theorem lt_app {L t : List V} (h : 0 < t.length) : ¬ ((L.length : Int) = ((L ++ t).length : Nat)) := fun e => by
  have := Int.ofNat.inj e
  rw [List.length_append] at this
  exact absurd this (Nat.ne_of_lt (Nat.lt_add_of_pos_right h))
theorem Si_placed (σ : St) {L : List V} {D : List (Int × V)} {k : Int} {v : V} {d : Nat} {P : St → Prop} (hd : D.length ≤ 100) (h : P (σ ++ flatS σ.length L (putK D k v))) : Si (mkC b) d (.loc (pfN σ.length).p) (.int k) v (σ ++ flatS σ.length L D) P := by
  refine Si_dictI (l := D) (app_k rfl) (Nat.le_trans hd (Nat.le_of_ble_eq_true rfl)) ?_
  rw [show (pfN σ.length).p = σ.length + 3 from rfl, set_appk]; exact h
theorem k_flatten (C : CxK (mkC b)) {d : Nat} {xs : List Ln} {σ : St} {Q : Post} (hok : ∀ x ∈ xs, LnOk b x) (hz : xs.length ≤ 10)
    (h : ∀ D, Q (.loc (σ.length + 1)) (σ ++ flatS σ.length (rowsAll xs []) D)) : Ca (mkC b) (d + 5) (ref 476) [.lst (xs.map Ln.v)] σ Q := by
  refine Ca_def C (fn_476 C) rfl ?_
  refine k_Flat C ?_
  refine W_For C ["flat"] (Iv_lst fun K hK => ?_)
  refine (?_ : ∀ (ys : List Ln) (L : List V) (D : List (Int × V)), (∀ x ∈ ys, LnOk b x) → (∀ v ∈ L, quiet v) → L.length + 6 * ys.length ≤ 100 → D.length + ys.length ≤ 100 → (∀ D, Q (.loc (σ.length + 1)) (σ ++ flatS σ.length (rowsAll ys L) D)) → kLOOPS _ _ _ _ _ _ _ _ (ys.map Ln.v) [(S "flat", .loc (σ.length + 1))] (σ ++ flatS σ.length L D)) xs [] [] hok (fun _ m => nomatch m) (by rw [List.length_nil, Nat.zero_add]; exact Nat.le_trans (Nat.mul_le_mul_left 6 hz) (Nat.le_of_ble_eq_true rfl)) (by rw [List.length_nil, Nat.zero_add]; exact Nat.le_trans hz (Nat.le_of_ble_eq_true rfl)) h
  intro ys
  induction ys with
  | nil => exact fun L D _ hq _ _ h => k_gather C (flatAt0 σ L D) hq (h D)
  | cons x ys ih =>
    intro L D hok hq hL hD h
    have ox := hok x List.mem_cons_self
    have hl : L.length ≤ 100 := Nat.le_of_add_right_le hL
    have hl' : (L ++ x.out L.length).length ≤ 100000 := by rw [List.length_append]; exact Nat.le_trans (Nat.add_le_add hl (ox.le _)) (Nat.le_of_ble_eq_true rfl)
    have hd : D.length ≤ 100 := Nat.le_of_add_right_le hD
    refine ⟨rfl, ?_⟩
    refine At_rows C (flatAt0 σ L D) ?_
    refine Ca_len (flatAt0 σ L D).rows (Nat.le_trans hl (Nat.le_of_ble_eq_true rfl)) ?_
    refine At_places C (flatAt0 σ L D) ?_
    have H := flatAt0 σ L (putK D x.ln (.int (L.length : Nat)))
    refine Si_placed σ hd ?_
    rw [← set_same H.rows]
    refine ox.run L H (Nat.le_trans hl (Nat.le_of_ble_eq_true rfl)) ?_
    rw [upF_S]
    have H' := flatAt0 σ (L ++ x.out L.length) (putK D x.ln (.int (L.length : Nat)))
    refine At_places C H' ?_
    refine Gi_dictI (app_k rfl) (getK_put _ _ _) ?_
    refine At_rows C H' ?_
    refine Ca_len H'.rows hl' ?_
    refine br_dF (lt_app (ox.pos _)) ?_
    refine ⟨hK _, ih _ _ (fun y m => hok y (List.mem_cons_of_mem _ m)) (fun v m => ?_) ?_ ?_ h⟩
    · rcases List.mem_append.mp m with m | m
      · exact hq v m
      · exact ox.qt _ v m
    · rw [List.length_append, Nat.add_assoc]
      exact Nat.le_trans (Nat.add_le_add_left (Nat.le_trans (Nat.add_le_add_right (ox.le _) _) (Nat.le_of_eq (Nat.add_comm 6 _))) _) hL
    · exact Nat.le_trans (Nat.add_le_add_right (putK_le _ _ _) _) (Nat.le_trans (Nat.le_of_eq (Nat.succ_add_eq_add_succ _ _)) hD)
theorem rows_quiet (ln : Int) (i : Nat) (s : P) : ∀ v ∈ s.rows ln i, quiet v := by
  cases s with
  | set x e => intro v hv; rw [List.mem_singleton.mp hv]; exact ⟨ln, _, _, rfl, .head _⟩
  | br c x₁ e₁ x₂ e₂ =>
    intro v hv
    rcases mem4 hv with rfl | rfl | rfl | rfl
    · exact ⟨ln, _, _, rfl, .tail _ (.tail _ (.head _))⟩
    · exact ⟨ln, _, _, rfl, .head _⟩
    · exact ⟨ln, _, _, rfl, .tail _ (.tail _ (.tail _ (.head _)))⟩
    · exact ⟨ln, _, _, rfl, .head _⟩
theorem head_quiet (ln : Int) (t : T) : ∀ v ∈ headR ln t, quiet v := by
  intro v hv
  rcases mem2 hv with rfl | rfl
  · exact ⟨ln, _, _, rfl, .head _⟩
  · exact ⟨ln, _, _, rfl, .tail _ (.head _)⟩
noncomputable def lnS (ln : Int) (t : T) (s : P) : Ln := ⟨ln, [letV (S "X") t, remV, s.v], fun i => headR ln t ++ s.rows ln (i + 2)⟩
noncomputable def lnH (ln : Int) (t : T) : Ln := ⟨ln, [letV (S "X") t, remV], fun _ => headR ln t⟩
theorem lnS_ok (C : CxK (mkC b)) (ln : Int) (t : T) (s : P) : LnOk b (lnS ln t s) :=
  ⟨fun L _ _ _ H hz h => k_all3 C L H hz h, fun _ => Nat.succ_pos _, fun n => by cases s <;> exact Nat.le_of_ble_eq_true rfl, fun n v m => (List.mem_append.mp m).elim (head_quiet ln t v) (rows_quiet ln _ s v)⟩
theorem lnH_ok (C : CxK (mkC b)) (ln : Int) (t : T) : LnOk b (lnH ln t) :=
  ⟨fun L _ _ _ H hz h => k_all2 C L H hz h, fun _ => Nat.succ_pos _, fun _ => Nat.le_of_ble_eq_true rfl, fun _ => head_quiet ln t⟩
end
end Mine
end
section
open PySem PySem.W PySem.Calls PyProof.Rows
set_option maxRecDepth 100000
set_option maxHeartbeats 4000000
set_option linter.unusedVariables false
namespace Mine
section
variable {b : CB}
def small (n : Int) : Prop := -1000000 ≤ n ∧ n ≤ 1000000
theorem k_kind (C : CxK (mkC b)) {n : Int} {d : Nat} {σ : St} {Q : Post} (h : Q (.str (S "whole")) σ) : Ca (mkC b) (d + 1) (ref 44) [.int n] σ Q := Ca_def C (fn_44 C) rfl (Ca_isStr rfl (Ca_isTup rfl h))
theorem Bi_one {c : Cx} {d : Nat} {σ : St} {Q : Post} (h : Q (.int 2147483648) σ) : Bi c d .LShift (.int 1) (.int 31) σ Q := Bi_lshift (by decide) (by decide +kernel) h
theorem k_fits (C : CxK (mkC b)) {n : Int} {d : Nat} {σ : St} {Q : Post} (hn : small n) (h : Q (.bool true) σ) : Ca (mkC b) (d + 1) (ref 79) [.int n, .int 32] σ Q := by
  refine Ca_def C (fn_79 C) rfl ?_
  refine Bi_one ⟨_, rfl, ?_⟩
  refine br_dT (Int.le_trans (by decide) hn.1) ?_
  refine Bi_one ?_
  rw [← decide_eq_true (Int.lt_of_le_of_lt hn.2 (by decide) : n < 2147483648)] at h
  exact h
theorem k_wholeOf (C : CxK (mkC b)) {n : Int} {d : Nat} {σ : St} {Q : Post} (hn : small n) (h : Q (.int n) σ) : Ca (mkC b) (d + 2) (ref 86) [.int n, .int 32] σ Q :=
  Ca_def C (fn_86 C) rfl (Ca_isStr rfl (Ca_isTup rfl (k_fits C hn h)))
theorem k_isWhole (C : CxK (mkC b)) {n : Int} {d : Nat} {σ : St} {Q : Post} (h : Q (.bool true) σ) : Ca (mkC b) (d + 1) (ref 206) [.int n] σ Q := Ca_def C (fn_206 C) rfl (Ca_isStr rfl (Ca_isTup rfl h))
theorem k_settled (C : CxK (mkC b)) {n : Int} {d : Nat} {σ : St} {Q : Post} (hn : small n) (h : Q (.int n) σ) : Ca (mkC b) (d + 2) (ref 213) [.int n, .int 32, .int 9] σ Q := Ca_def C (fn_213 C) rfl (k_fits C hn h)
theorem k_wr (C : CxK (mkC b)) {op : Str} {x y : Int} {d : Nat} {σ : St} {Q : Post} (hop : op ∈ pm) (hn : small (arF op x y)) (h : Q (.int (arF op x y)) σ) : Ca (mkC b) (d + 3) (ref 220) [.str op, .int x, .int y, .int 32, .int 9] σ Q := by
  rcases mem2 hop with rfl | rfl
  · exact Ca_def C (fn_220 C) rfl (k_settled C hn h)
  · exact Ca_def C (fn_220 C) rfl (k_settled C hn h)
theorem k_reckoned (C : CxK (mkC b)) {op : Str} {x y : Int} {d : Nat} {σ : St} {Q : Post} (hop : op ∈ pm) (hn : small (arF op x y)) (h : Q (.int (arF op x y)) σ) : Ca (mkC b) (d + 4) (ref 262) [.str op, .int x, .int y, .int 32, .int 9] σ Q := by
  refine Ca_def C (fn_262 C) rfl ?_
  refine k_isWhole C (k_isWhole C ⟨rfl, ?_⟩)
  rcases mem2 hop with rfl | rfl
  · exact k_wr C hop hn h
  · exact k_wr C hop hn h
noncomputable def ord (x y : Int) : Int := (if decide (y < x) = true then 1 else 0) - (if decide (x < y) = true then 1 else 0)
theorem k_order (C : CxK (mkC b)) {x y : Int} {d : Nat} {σ : St} {Q : Post} (h : Q (.int (ord x y)) σ) : Ca (mkC b) (d + 2) (ref 276) [.int x, .int y] σ Q :=
  Ca_def C (fn_276 C) rfl (Ca_isStr rfl (Ca_isStr rfl (Ca_isStr rfl (k_isWhole C (k_isWhole C h)))))
noncomputable def tr (b : Bool) : Int := if b = true then -1 else 0
theorem k_truth (C : CxK (mkC b)) {t : Bool} {d : Nat} {σ : St} {Q : Post} (h : Q (.int (tr t)) σ) : Ca (mkC b) (d + 1) (ref 121) [.bool t] σ Q := by
  refine Ca_def C (fn_121 C) rfl ?_
  cases t with
  | true => exact ⟨_, rfl, h⟩
  | false => exact h
theorem ord_tri (x y : Int) : (x < y ∧ ord x y = -1) ∨ (x = y ∧ ord x y = 0) ∨ (y < x ∧ ord x y = 1) := by
  unfold ord
  rcases Int.lt_trichotomy x y with h | h | h
  · rw [decide_eq_true h, decide_eq_false (Int.lt_asymm h)]; exact .inl ⟨h, rfl⟩
  · subst h; rw [decide_eq_false (Int.lt_irrefl x)]; exact .inr (.inl ⟨rfl, rfl⟩)
  · rw [decide_eq_true h, decide_eq_false (Int.lt_asymm h)]; exact .inr (.inr ⟨h, rfl⟩)
theorem cmp_lt (x y : Int) : (decide (ord x y < 0) == true) = cmpF (S "<") x y := by
  rcases ord_tri x y with ⟨h, e⟩ | ⟨h, e⟩ | ⟨h, e⟩ <;> rw [e]
  · exact (decide_eq_true h).symm
  · exact (decide_eq_false (h ▸ Int.lt_irrefl x)).symm
  · exact (decide_eq_false (Int.lt_asymm h)).symm
theorem cmp_eq (x y : Int) : (decide (ord x y = 0) == true) = cmpF (S "=") x y := by
  rcases ord_tri x y with ⟨h, e⟩ | ⟨h, e⟩ | ⟨h, e⟩ <;> rw [e]
  · exact (decide_eq_false (Int.ne_of_lt h)).symm
  · exact (decide_eq_true h).symm
  · exact (decide_eq_false (Int.ne_of_gt h)).symm
theorem cmp_ge (x y : Int) : (decide (ord x y < 0) == false) = cmpF (S ">=") x y := by
  rcases ord_tri x y with ⟨h, e⟩ | ⟨h, e⟩ | ⟨h, e⟩ <;> rw [e]
  · exact (decide_eq_false (Int.not_le.mpr h)).symm
  · exact (decide_eq_true (Int.le_of_eq h.symm)).symm
  · exact (decide_eq_true (Int.le_of_lt h)).symm
theorem k_compared (C : CxK (mkC b)) {op : Str} {x y : Int} {d : Nat} {σ : St} {Q : Post} (hop : op ∈ cps) (h : Q (.int (tr (cmpF op x y))) σ) : Ca (mkC b) (d + 2) (ref 682) [.str op, .int (ord x y)] σ Q := by
  refine Ca_def C (fn_682 C) rfl ?_
  rcases mem3 hop with rfl | rfl | rfl
  · rw [← cmp_lt] at h; exact k_truth C h
  · rw [← cmp_eq] at h; exact k_truth C h
  · rw [← cmp_ge] at h; exact k_truth C h
theorem k_isTrue (C : CxK (mkC b)) {n : Int} {d : Nat} {σ : St} {Q : Post} (h : Q (.bool (!decide (n = 0))) σ) : Ca (mkC b) (d + 2) (ref 114) [.int n] σ Q :=
  Ca_def C (fn_114 C) rfl (Ca_def C (fn_107 C) rfl (Ca_isStr rfl (Ca_isTup rfl h)))
def isB (n : Int) : Prop := n = 0 ∨ n = -1
theorem isB.small {n : Int} (h : isB n) : small n := by rcases h with rfl | rfl <;> exact ⟨by decide, by decide⟩
noncomputable def lgF (op : Str) (x y : Int) : Int := if op = S "AND" then (if x = -1 ∧ y = -1 then -1 else 0) else (if x = -1 ∨ y = -1 then -1 else 0)
noncomputable def lgs : List Str := [S "AND", S "OR"]
theorem k_logic (C : CxK (mkC b)) {op : Str} {x y : Int} {d : Nat} {σ : St} {Q : Post} (hop : op ∈ lgs) (ha : isB x) (hb' : isB y) (h : Q (.int (lgF op x y)) σ) : Ca (mkC b) (d + 3) (ref 290) [.str op, .int x, .int y, .int 32] σ Q := by
  refine Ca_def C (fn_290 C) rfl ?_
  refine k_wholeOf C ha.small (k_wholeOf C hb'.small ⟨rfl, ?_⟩)
  rcases mem2 hop with rfl | rfl
  · refine Bi_and ?_
    rw [show Builtin.bitAnd x y = lgF (S "AND") x y by rcases ha with rfl | rfl <;> rcases hb' with rfl | rfl <;> decide]; exact h
  · refine Bi_or ?_
    rw [show Builtin.bitOr x y = lgF (S "OR") x y by rcases ha with rfl | rfl <;> rcases hb' with rfl | rfl <;> decide]; exact h
theorem k_inverted (C : CxK (mkC b)) {n : Int} {d : Nat} {σ : St} {Q : Post} (hn : small n) (h : Q (.int (-1 - n)) σ) : Ca (mkC b) (d + 3) (ref 283) [.int n, .int 32] σ Q :=
  Ca_def C (fn_283 C) rfl ⟨_, rfl, k_wholeOf C hn h⟩
end
end Mine
end
section
open PySem PySem.W PySem.Calls PyProof.Rows
set_option maxRecDepth 100000
set_option maxHeartbeats 4000000
set_option linter.unusedVariables false
namespace Mine
section
variable {b : CB}
noncomputable def opF (op : Str) (x y : Int) : Int := if op ∈ pm then arF op x y else if op ∈ cps then tr (cmpF op x y) else lgF op x y
def opOk (op : Str) (x y : Int) : Prop := (op ∈ pm ∧ small (arF op x y)) ∨ op ∈ cps ∨ (op ∈ lgs ∧ isB x ∧ isB y)
theorem opF_pm {op : Str} {x y : Int} (h : op ∈ pm) : opF op x y = arF op x y := if_pos h
theorem opF_cps {op : Str} {x y : Int} (h : op ∈ cps) : opF op x y = tr (cmpF op x y) := (if_neg fun h' => pm_not_cps h' h).trans (if_pos h)
theorem opF_lgs {op : Str} {x y : Int} (h : op ∈ lgs) : opF op x y = lgF op x y := by
  rcases mem2 h with rfl | rfl <;> exact (if_neg (by decide)).trans (if_neg (by decide))
theorem k_worthTwo (C : CxK (mkC b)) {op : Str} {x y : Int} {d : Nat} {σ : St} {Q : Post} (hop : opOk op x y) (h : Q (.int (opF op x y)) σ) : Ca (mkC b) (d + 5) (ref 694) [.str op, .int x, .int y, .int 32, .int 9] σ Q := by
  refine Ca_forget ?_
  refine Ca_def C (fn_694 C) rfl ?_
  refine Iv_tup ⟨trivial, ?_⟩
  refine wC2 (ua := .bool false) (ub := .bool false) (fun _ => trivial) (fun Q q => k_kind C q) (fun Q q => k_kind C q) ?_
  refine Gi_loc app_0 (by decide) rfl ?_
  refine Gi_loc app_0 (by decide) rfl ?_
  refine Gi_loc app_0 (by decide) rfl ?_
  rcases hop with ⟨hm, hs⟩ | hc | ⟨hl, ha, hb'⟩
  · rw [opF_pm hm] at h
    rcases mem2 hm with rfl | rfl
    · exact k_reckoned C hm hs (forget0 rfl h)
    · exact k_reckoned C hm hs (forget0 rfl h)
  · rw [opF_cps hc] at h
    rcases mem3 hc with rfl | rfl | rfl
    · exact k_order C (k_compared C hc (forget0 rfl h))
    · exact k_order C (k_compared C hc (forget0 rfl h))
    · exact k_order C (k_compared C hc (forget0 rfl h))
  · rw [opF_lgs hl] at h
    rcases mem2 hl with rfl | rfl
    · exact k_logic C hl ha hb' (forget0 rfl h)
    · exact k_logic C hl ha hb' (forget0 rfl h)
theorem k_worthOne (C : CxK (mkC b)) {x : Int} {d : Nat} {σ : St} {Q : Post} (ha : small x) (h : Q (.int (-1 - x)) σ) : Ca (mkC b) (d + 4) (ref 701) [.str (S "not"), .int x, .int 32, .int 9] σ Q :=
  Ca_def C (fn_701 C) rfl (k_kind C (k_inverted C ha h))
theorem k_worthLeaf (C : CxK (mkC b)) {x : Int} {d : Nat} {σ : St} {Q : Post} (ha : small x) (h : Q (.int x) σ) : Ca (mkC b) (d + 2) (ref 708) [(T.wh x).v, .int 32, .int 9] σ Q :=
  Ca_def C (fn_708 C) rfl ⟨rfl, k_fits C ha h⟩
noncomputable def T.parts : T → List V
  | .two _ a b => [a.v, b.v]
  | .nt a => [a.v]
  | _ => []
theorem k_parts (C : CxK (mkC b)) {t : T} {d : Nat} {σ : St} {Q : Post} (h : Q (.lst t.parts) σ) : Ca (mkC b) (d + 1) (ref 666) [t.v] σ Q := by
  cases t with
  | nm x => exact Ca_def C (fn_666 C) rfl (W_ListF C h)
  | wh x => exact Ca_def C (fn_666 C) rfl (W_ListF C h)
  | two op x y => exact Ca_def C (fn_666 C) rfl (W_ListF C h)
  | nt x => exact Ca_def C (fn_666 C) rfl (W_ListF C h)
end
end Mine
end
section
open PySem PySem.W PySem.Calls PyProof.Rows
set_option maxRecDepth 100000
set_option maxHeartbeats 4000000
set_option linter.unusedVariables false
namespace Mine
section
variable {b : CB}
noncomputable def hooksA (v q : Nat) : List (Str × V) := [(S "values", .loc v), (S "bits", .int 32), (S "digits", .int 9), (S "asked", .loc q)]
noncomputable def ev (l : Env0) : T → Int
  | .nm x => look l x
  | .wh n => n
  | .two op a b => opF op (ev l a) (ev l b)
  | .nt a => -1 - ev l a
def okT (l : Env0) : T → Prop
  | .nm x => getK l x = some (.int (look l x)) ∧ small (look l x)
  | .wh n => small n
  | .two op a b => okT l a ∧ okT l b ∧ opOk op (ev l a) (ev l b)
  | .nt a => okT l a ∧ small (ev l a)
noncomputable def kids (l : Env0) : T → List Int
  | .two _ a b => [ev l a, ev l b]
  | .nt a => [ev l a]
  | _ => []
structure HooksAt (σ : St) (h a v q : Nat) (l : Env0) (L : List V) : Prop where
  inst : σ[h]? = some (.inst 655 a)
  attrs : σ[a]? = some (.attrs (hooksA v q))
  dict : σ[v]? = some (.dictS l)
  asked : σ[q]? = some (.list L)
theorem HooksAt.set {σ : St} {h a v q : Nat} {l : Env0} {L : List V} (H : HooksAt σ h a v q l L) (L' : List V) : HooksAt (σ.set q (.list L')) h a v q l L' :=
  ⟨set_miss (ne_of_kind H.asked H.inst nofun) H.inst, set_miss (ne_of_kind H.asked H.attrs nofun) H.attrs, set_miss (ne_of_kind H.asked H.dict nofun) H.dict, set_hit H.asked⟩
theorem mok {K : Frag} {C : Addr} {name : Str} {f : Addr} (h : (plainGet K C name && (isFn K (.ref f) && (match findIn K (.ref C) name with | some (some (.ref g)) => Nat.beq g f | _ => false))) = true) : MethOf K C name f := by
  obtain ⟨h1, h⟩ := and2 h
  obtain ⟨h2, h⟩ := and2 h
  refine ⟨h1, ?_, h2⟩
  split at h
  · next g e => rw [e, Nat.eq_of_beq_eq_true h]
  · cases h
theorem k_von (C : CxK (mkC b)) {h a v q : Nat} {l : Env0} {L : List V} {x : Str} {u : V} {d : Nat} {σ : St} {Q : Post} (H : HooksAt σ h a v q l L) (hx : getK l x = some u) (hz : L.length ≤ 9000)
    (hq : Q u (σ.set q (.list (L ++ [.str x])))) : Ca (mkC b) (d + 1) (ref 624) [.loc h, .str x] σ Q := by
  have H' := H.set (L ++ [.str x])
  refine Ca_def C (fn_624 C) rfl ?_
  refine At_inst C H.inst H.attrs rfl (aok (by kernel_rfl)) rfl ?_
  refine Gm_append H.asked ?_
  refine KCa_append H.asked (Nat.le_trans hz (Nat.le_of_ble_eq_true rfl)) ?_
  refine At_inst C H'.inst H'.attrs rfl (aok (by kernel_rfl)) rfl ?_
  refine Cm_notInDS H'.dict ?_
  refine br_F (by rw [hx]; rfl) ?_
  refine At_inst C H'.inst H'.attrs rfl (aok (by kernel_rfl)) rfl ?_
  exact Gi_dictS H'.dict hx hq
theorem At_bits (C : CxK (mkC b)) {h a v q : Nat} {l : Env0} {L : List V} {d : Nat} {σ : St} {Q : Post} (H : HooksAt σ h a v q l L) (hq : Q (.int 32) σ) : At (mkC b) d (.loc h) (S "bits") σ Q := At_inst C H.inst H.attrs rfl (aok (by kernel_rfl)) rfl hq
theorem At_digits (C : CxK (mkC b)) {h a v q : Nat} {l : Env0} {L : List V} {d : Nat} {σ : St} {Q : Post} (H : HooksAt σ h a v q l L) (hq : Q (.int 9) σ) : At (mkC b) d (.loc h) (S "digits") σ Q := At_inst C H.inst H.attrs rfl (aok (by kernel_rfl)) rfl hq
theorem k_worthTree (C : CxK (mkC b)) {h a v q : Nat} {l : Env0} {L : List V} {t : T} {d : Nat} {σ : St} {Q : Post} (H : HooksAt σ h a v q l L) (ht : okT l t) (hz : L.length ≤ 9000)
    (hq : ∀ L' : List V, L'.length ≤ L.length + 1 → Q (.int (ev l t)) (σ.set q (.list L'))) : Ca (mkC b) (d + 6) (ref 715) [t.v, .lst ((kids l t).map .int), .loc h] σ Q := by
  have hq0 : Q (.int (ev l t)) σ := set_same H.asked ▸ hq L (Nat.le_succ _)
  refine Ca_def C (fn_715 C) rfl ?_
  cases t with
  | nm x =>
    refine Gm_inst C H.inst H.attrs rfl (mok (f := 624) (by kernel_rfl)) ?_
    exact KCa_fn (fn_624 C) (k_von C H ht.1 hz (hq _ (Nat.le_of_eq List.length_append)))
  | wh n => exact At_bits C H (At_digits C H (k_worthLeaf C ht hq0))
  | two op x y =>
    refine Gi_lst (by decide) rfl ?_
    refine Gi_lst (by decide) rfl ?_
    exact At_bits C H (At_digits C H (k_worthTwo C ht.2.2 hq0))
  | nt x =>
    refine Gi_lst (by decide) rfl ?_
    exact At_bits C H (At_digits C H (k_worthOne C ht.2 hq0))
end
end Mine
end
section
open PySem PySem.W PySem.Calls PyProof.Rows
set_option maxRecDepth 100000
set_option maxHeartbeats 4000000
set_option linter.unusedVariables false
namespace Mine
section
variable {b : CB}
noncomputable def cost : T → Nat
  | .nm _ => 1
  | .wh _ => 1
  | .two _ a b => 2 + cost a + cost b
  | .nt a => 2 + cost a
abbrev Wk := List (T × Bool)
noncomputable def costW : Wk → Nat
  | [] => 0
  | (t, c) :: W => (match c with | true => 1 | false => cost t) + costW W
noncomputable def item (x : T × Bool) : V := .tup [x.1.v, .bool x.2]
inductive RW (l : Env0) (r : Int) : Wk → List Int → Prop
  | nil : RW l r [] [r]
  | todo {t : T} {W : Wk} {vs : List Int} : RW l r W (vs ++ [ev l t]) → RW l r ((t, false) :: W) vs
  | ready {t : T} {W : Wk} {pre : List Int} : RW l r W (pre ++ [ev l t]) → RW l r ((t, true) :: W) (pre ++ kids l t)
theorem cost_pos (t : T) : 1 ≤ cost t := by cases t <;> first | exact Nat.le_refl 1 | (unfold cost; omega)
noncomputable def wsOf (W : Wk) : List V := (W.map item).reverse
theorem wsOf_cons (x : T × Bool) (W : Wk) : wsOf (x :: W) = wsOf W ++ [item x] := List.reverse_cons
theorem ws3 (x y z : T × Bool) (W : Wk) : wsOf (x :: y :: z :: W) = (wsOf W ++ [item z]) ++ [item y, item x] := by rw [wsOf_cons, wsOf_cons, wsOf_cons]; exact List.append_assoc _ [item y] [item x]
theorem wsOf_len (W : Wk) : (wsOf W).length ≤ costW W := by
  induction W with
  | nil => exact Nat.le_refl 0
  | cons x W ih =>
    obtain ⟨t, c⟩ := x
    rw [wsOf_cons, List.length_append, Nat.add_comm]
    refine Nat.add_le_add ?_ ih
    cases c
    · exact cost_pos t
    · exact Nat.le_refl 1
theorem getN {A t : St} {N : Nat} {o : SO} (e : A.length = N) : (A ++ o :: t)[N]? = some o := e ▸ app_0
theorem setN {A t : St} {N : Nat} {o o' : SO} (e : A.length = N) : (A ++ o :: t).set N o' = A ++ o' :: t := e ▸ set_app0
theorem setN' {A t r : St} {N : Nat} {o o' : SO} (e : A.length = N) : ((A ++ o :: t) ++ r).set N o' = A ++ o' :: (t ++ r) := by rw [List.append_assoc]; exact setN e
theorem parts_len (l : Env0) (t : T) : t.parts.length = (kids l t).length := by cases t <;> rfl
theorem parts_le (t : T) : t.parts.length ≤ 100000 := by cases t <;> exact Nat.le_of_ble_eq_true rfl
theorem br_or {c : Bool} {P X : Prop} (hX : c = false → P → X) (hP : P) : br c P X := by
  cases c with
  | true => exact hP
  | false => exact hX rfl hP
theorem wC1 {F : Rec} {sc : Sc} {elt : Expr} {x : Str} {K : St → Prop} {T : List V → St → Prop} {a ua : V} {ρ : Vars} {σ : St} (hK : ∀ σ', K σ') (e1 : ∀ Q : Post, Q ua (σ ++ [.list []]) → (F sc).E elt (put ρ x a) (σ ++ [.list []]) Q)
    (h : T [ua] (σ ++ [.list [ua]])) : wCOMPS F sc elt x K σ.length T [a] [] ρ (σ ++ [.list []]) := by
  refine e1 _ ⟨app_0, Nat.le_of_ble_eq_true rfl, hK _, ?_⟩
  rw [setLast]
  exact ⟨app_0, h⟩
theorem setq {σ t : St} {q : Nat} {o₀ o o' : SO} (h : σ[q]? = some o₀) : (σ.set q o ++ t).set q o' = σ.set q o' ++ t := by
  rw [List.set_append_left _ _ (by rw [List.length_set]; exact (List.getElem?_eq_some_iff.mp h).1), List.set_set]
theorem HooksAt.app {σ : St} {h a v q : Nat} {l : Env0} {L : List V} (H : HooksAt σ h a v q l L) (t : St) : HooksAt (σ ++ t) h a v q l L := ⟨app_l H.inst, app_l H.attrs, app_l H.dict, app_l H.asked⟩
structure WorthAt (σ : St) (q h : Nat) (l : Env0) (r : Int) (n : Nat) (ρ : Vars) (σ' : St) (W : Wk) (vs : List Int) (L : List V) (g : St) (B : Nat) : Prop where
  en : n = costW W
  er : ρ = [(S "waiting", .loc σ.length), (S "values", .lst (vs.map .int)), (S "hooks", .loc h)]
  es : σ' = σ.set q (.list L) ++ .list (wsOf W) :: g
  rw_ : RW l r W vs
  ok : ∀ x ∈ W, okT l x.1
  bL : L.length ≤ B
  bv : vs.length ≤ B
  bB : B + costW W ≤ 1600
theorem k_worth (C : CxK (mkC b)) {h a v q : Nat} {l : Env0} {t : T} {d : Nat} {σ : St} {Q : Post} (H : HooksAt σ h a v q l []) (ht : okT l t) (hc : cost t ≤ 1500)
    (hq : ∀ L g, Q (.int (ev l t)) (σ.set q (.list L) ++ g)) : Ca (mkC b) (d + 7) (ref 720) [t.v, .loc h] σ Q := by
  refine Ca_def C (fn_720 C) rfl ?_
  refine W_List C ?_
  refine W_ListF C ⟨rfl, ?_⟩
  refine W_While C ["waiting", "values", "hooks"] (fun n ρ σ' => ∃ W vs L g B, WorthAt σ q h l (ev l t) n ρ σ' W vs L g B) (cost t)
    ⟨[(t, false)], [], [], [], 0, rfl, rfl, (congrArg (· ++ _) (set_same H.asked)).symm, .todo .nil, fun x m => List.mem_singleton.mp m ▸ ht, Nat.le_refl _, Nat.le_refl _, (Nat.zero_add _).symm ▸ Nat.le_trans hc (Nat.le_of_ble_eq_true rfl)⟩ ?_
  rintro n ρ σ' ⟨W, vs, L, g, B, rfl, rfl, rfl, hR, hok, bL, bv, bB⟩
  have eA : (σ.set q (.list L)).length = σ.length := List.length_set
  have hws : (wsOf W).length ≤ 1600 := Nat.le_trans (wsOf_len W) (Nat.le_of_add_left_le bB)
  refine Ca_len (getN eA) (Nat.le_trans hws (Nat.le_of_ble_eq_true rfl)) ?_
  cases W with
  | nil =>
    cases hR
    exact Gi_lst (by decide) rfl (hq _ _)
  | cons x W =>
    obtain ⟨t', c⟩ := x
    rw [wsOf_cons] at hws
    refine br_dT (by rw [wsOf_cons, List.length_append]; exact Int.ofNat_lt.mpr (Nat.succ_pos _)) ?_
    rw [wsOf_cons]
    refine Gm_pop (getN eA) ?_
    refine KCa_pop (getN eA) (Nat.le_trans (Nat.le_trans (by rw [List.length_append]; exact Nat.le_succ _) hws) (Nat.le_of_ble_eq_true rfl)) ?_
    rw [setN eA]
    refine ⟨rfl, ?_⟩
    refine k_parts C ?_
    have ok' : ∀ x ∈ W, okT l x.1 := fun x m => hok x (List.mem_cons_of_mem _ m)
    have ht' : okT l t' := hok _ List.mem_cons_self
    by_cases hp : c = true ∨ t'.parts = []
    · obtain ⟨pre, rfl, hRW⟩ : ∃ pre, vs = pre ++ kids l t' ∧ RW l (ev l t) W (pre ++ [ev l t']) := by
        cases hR with
        | ready h => exact ⟨_, rfl, h⟩
        | todo h =>
          have e : t'.parts = [] := hp.resolve_left (fun e => Bool.noConfusion e)
          have hk : kids l t' = [] := List.eq_nil_of_length_eq_zero (by rw [← parts_len, e]; rfl)
          exact ⟨vs, by rw [hk, List.append_nil], h⟩
      have bP : pre.length + t'.parts.length ≤ B := by rw [parts_len l, ← List.length_append]; exact bv
      have bN : B + 1 + costW W ≤ 1600 := by
        refine Nat.le_trans ?_ bB
        rw [Nat.add_assoc]
        refine Nat.add_le_add_left (Nat.add_le_add_right ?_ _) _
        cases c
        · exact cost_pos t'
        · exact Nat.le_refl 1
      have hB : B ≤ 1600 := Nat.le_of_add_right_le (Nat.le_of_add_right_le bN)
      have el : ((pre ++ kids l t').map V.int).length = pre.length + t'.parts.length := by rw [List.length_map, List.length_append, parts_len l]
      have eb : ((((pre ++ kids l t').map V.int).length : Nat) : Int) - (t'.parts.length : Nat) = (pre.length : Nat) := by rw [el, Int.natCast_add]; exact Int.add_sub_cancel _ _
      have e9 : ((pre ++ kids l t').map V.int).length ≤ 9000 := el ▸ Nat.le_trans bP (Nat.le_trans hB (Nat.le_of_ble_eq_true rfl))
      refine br_or (fun hc' p => Ca_lenF (parts_le _) (br_dT (by rw [hp.resolve_left (fun e => Bool.noConfusion (hc'.symm.trans e))]; rfl) p)) ?_
      refine Ca_lenF (Nat.le_trans e9 (Nat.le_of_ble_eq_true rfl)) ?_
      refine Ca_lenF (parts_le _) ?_
      have ed : pickN ((pre ++ kids l t').map V.int) (some pre.length) none = some ((kids l t').map .int) := congrArg some (by rw [List.map_append, List.drop_left' (List.length_map _)])
      have et : pickN ((pre ++ kids l t').map V.int) none (some pre.length) = some (pre.map .int) := congrArg some (by rw [List.map_append, List.take_left' (List.length_map _)])
      refine ⟨pre.length, congrArg V.int eb, _, _, .inl rfl, e9, ed, ?_⟩
      refine k_worthTree C ((H.set L).app _) ht' (Nat.le_trans bL (Nat.le_trans hB (Nat.le_of_ble_eq_true rfl))) fun L' hL' => ?_
      rw [setq H.asked]
      refine ⟨pre.length, congrArg V.int eb, _, _, .inl rfl, e9, et, ?_⟩
      refine W_ListF C ?_
      have bl : pre.length + 1 ≤ B + 1 := Nat.succ_le_succ (Nat.le_trans (Nat.le_add_right _ _) bP)
      refine Bi_addL (.inl rfl) (.inl rfl) (by rw [List.length_map]; exact Nat.le_trans bl (Nat.le_trans (Nat.succ_le_succ hB) (Nat.le_of_ble_eq_true rfl))) ?_
      refine ⟨costW W, ?_, W, pre ++ [ev l t'], L', g, B + 1, rfl, by rw [show (pre ++ [ev l t']).map V.int = pre.map .int ++ [.int (ev l t')] from List.map_append]; rfl, rfl, hRW, ok', Nat.le_trans hL' (Nat.succ_le_succ bL), by rw [List.length_append]; exact bl, bN⟩
      refine Nat.lt_add_of_pos_left ?_
      cases c
      · exact cost_pos t'
      · exact Nat.succ_pos 0
    · cases c with
      | true => exact (hp (.inl rfl)).elim
      | false =>
        have h9 : ∀ u v : V, (wsOf W ++ [u]).length ≤ 4000 := fun u v => by
          rw [List.length_append] at hws ⊢; exact Nat.le_trans hws (Nat.le_of_ble_eq_true rfl)
        have h10 : (wsOf W).length ≤ 10000 := Nat.le_trans (Nat.le_trans (by rw [List.length_append]; exact Nat.le_succ _) hws) (Nat.le_of_ble_eq_true rfl)
        cases t' with
        | nm x => exact (hp (.inr rfl)).elim
        | wh x => exact (hp (.inr rfl)).elim
        | two op x y =>
          have eC : costW ((x, false) :: (y, false) :: (.two op x y, true) :: W) + 1 = costW ((.two op x y, false) :: W) := by
            show cost x + (cost y + (1 + costW W)) + 1 = 2 + cost x + cost y + costW W
            omega
          refine Ca_lenF (Nat.le_of_ble_eq_true rfl) ?_
          refine Gm_append (getN eA) (KCa_append (getN eA) h10 ?_)
          rw [setN eA]
          refine Gm_extend (getN eA) ?_
          refine Ic_reversed ⟨trivial, ?_⟩
          refine wC2 (ua := item (y, false)) (ub := item (x, false)) (fun _ => trivial) (fun Q q => q) (fun Q q => q) ?_
          refine KCa_extend (app_l (getN eA)) (.inr ⟨_, rfl, .inl app_0⟩) (h9 _ .none) (Nat.le_of_ble_eq_true rfl) ?_
          rw [setN' eA]
          refine ⟨costW ((x, false) :: (y, false) :: (.two op x y, true) :: W), eC ▸ Nat.lt_succ_self _, (x, false) :: (y, false) :: (.two op x y, true) :: W, vs, L, _, B, rfl, rfl,
            by rw [ws3]; rfl, ?_, ?_, bL, bv, Nat.le_of_succ_le (by rw [← eC] at bB; exact bB)⟩
          · cases hR with | todo h => exact .todo (.todo (by rw [List.append_assoc]; exact .ready h))
          · intro z hz
            cases hz with
            | head => exact ht'.1
            | tail _ hz =>
              cases hz with
              | head => exact ht'.2.1
              | tail _ hz =>
                cases hz with
                | head => exact ht'
                | tail _ hz => exact ok' _ hz
        | nt x =>
          have eC : costW ((x, false) :: (.nt x, true) :: W) + 1 = costW ((.nt x, false) :: W) := by
            show cost x + (1 + costW W) + 1 = 2 + cost x + costW W
            omega
          refine Ca_lenF (Nat.le_of_ble_eq_true rfl) ?_
          refine Gm_append (getN eA) (KCa_append (getN eA) h10 ?_)
          rw [setN eA]
          refine Gm_extend (getN eA) ?_
          refine Ic_reversed ⟨trivial, ?_⟩
          refine wC1 (ua := item (x, false)) (fun _ => trivial) (fun Q q => q) ?_
          refine KCa_extend (app_l (getN eA)) (.inr ⟨_, rfl, .inl app_0⟩) (h9 _ .none) (Nat.le_of_ble_eq_true rfl) ?_
          rw [setN' eA]
          refine ⟨costW ((x, false) :: (.nt x, true) :: W), eC ▸ Nat.lt_succ_self _, (x, false) :: (.nt x, true) :: W, vs, L, _, B, rfl, rfl,
            by rw [wsOf_cons, wsOf_cons]; rfl, ?_, ?_, bL, bv, Nat.le_of_succ_le (by rw [← eC] at bB; exact bB)⟩
          · cases hR with | todo h => exact .todo (.ready h)
          · intro z hz
            cases hz with
            | head => exact ht'.1
            | tail _ hz =>
              cases hz with
              | head => exact ht'
              | tail _ hz => exact ok' _ hz
end
end Mine
end
section
open PySem PySem.W PySem.Calls PyProof.Rows
set_option maxRecDepth 100000
set_option maxHeartbeats 4000000
set_option linter.unusedVariables false
namespace Mine
section
variable {b : CB}
noncomputable def lawB : List Stmt := hB (hst 108)
noncomputable def lamOf (b : List Stmt) : Arguments × Expr × Scope := match (b[8]? : Option Stmt) with
  | some (Stmt.Assign _ (Expr.Call _ args _ _) _) => match (args[2]? : Option Expr) with
    | some (Expr.Lambda a b s _) => (a, b, s)
    | _ => default
  | _ => default
noncomputable def lamA : Arguments := (lamOf lawB).1
noncomputable def lamB : Expr := (lamOf lawB).2.1
noncomputable def lamS : Scope := (lamOf lawB).2.2
theorem k_lam (C : CxK (mkC b)) {n v : Nat} {l : Env0} {t : T} {d : Nat} {σ : St} {Q : Post} (hf : σ[n]? = some (.fn (LamIs lamA lamB lamS))) (hv : σ[v]? = some (.dictS l)) (ht : okT l t) (hc : cost t ≤ 1500)
    (hq : Q (.int (ev l t)) σ) : Ca (mkC b) (d + 8) (.loc n) [t.v, .loc v] σ Q := by
  refine Ca_forget ⟨?_⟩
  refine CALL_lam C.ok (ps := ["tree", "told"]) hf rfl (Nat.le_add_left _ _) ?_ ?_ (by kernel_rfl) (by kernel_rfl) (by kernel_rfl) ?_ fun code => (wp_ok C 60).E ?_
  · intro y hy
    have e : (lamS.names.all fun y => y.2 != .cell) = true := by kernel_rfl
    simpa using List.all_eq_true.mp e y hy
  · intro x m
    rcases mem2 m with rfl | rfl <;> kernel_rfl
  · rintro fd ⟨name, qual, pm, cdv, ctv, rfl⟩
    exact len2 fun a b => by kernel_rfl
  refine Ca_make C (f := 617) (by kernel_rfl) (by kernel_rfl) (by kernel_rfl) (fn_617 C) rfl ?_
  refine Sa_new ⟨by kernel_rfl, by kernel_rfl, by kernel_rfl, by kernel_rfl⟩ rfl rfl rfl ?_
  refine Sa_new ⟨by kernel_rfl, by kernel_rfl, by kernel_rfl, by kernel_rfl⟩ rfl rfl rfl ?_
  refine Sa_new ⟨by kernel_rfl, by kernel_rfl, by kernel_rfl, by kernel_rfl⟩ rfl rfl rfl ?_
  refine W_list0 C rfl ?_
  refine Sa_new ⟨by kernel_rfl, by kernel_rfl, by kernel_rfl, by kernel_rfl⟩ rfl rfl rfl ⟨rfl, ?_⟩
  refine k_worth C (h := σ.length + 1) (a := σ.length) (v := v) (q := σ.length + 2) ⟨app_k rfl, app_k (k := 0) rfl, app_l hv, app_k rfl⟩ ht hc fun L g => ?_
  rw [set_appk, List.append_assoc]
  exact forget0 rfl hq
end
end Mine
end
section
open PySem PySem.W PySem.Calls PyProof.Rows
set_option maxRecDepth 100000
set_option maxHeartbeats 4000000
set_option linter.unusedVariables false
namespace Mine
section
variable {b : CB}
noncomputable def runA (f va lam co no : Nat) : List (Str × V) := [(S "flat", .loc f), (S "values", .loc va), (S "worth_of", .loc lam), (S "bits", .int 32), (S "digits", .int 9), (S "control", .loc co), (S "notes", .loc no)]
structure Pl where
  (r a : Nat)
  f : Pf
  (va lam co no : Nat)
structure RunAt (σ : St) (z : Pl) (rows : List V) (l : Env0) (L : List V) : Prop where
  inst : σ[z.r]? = some (.inst 599 z.a)
  attrs : σ[z.a]? = some (.attrs (runA z.f.f z.va z.lam z.co z.no))
  flat : FlatAt σ z.f rows
  dict : σ[z.va]? = some (.dictS l)
  lam : σ[z.lam]? = some (.fn (LamIs lamA lamB lamS))
  notes : σ[z.no]? = some (.list L)
theorem FlatAt.miss {σ : St} {z : Pf} {L : List V} {n : Nat} {o o' : SO} (H : FlatAt σ z L) (h : σ[n]? = some o) (h1 : o ≠ .inst 423 z.a) (h2 : o ≠ .attrs (flatA z)) (h3 : n ≠ z.r) : FlatAt (σ.set n o') z L :=
  ⟨set_miss (ne_of_kind h H.inst h1) H.inst, set_miss (ne_of_kind h H.attrs h2) H.attrs, set_miss h3 H.rows⟩
theorem RunAt.setD {σ : St} {z : Pl} {rows : List V} {l l' : Env0} {L : List V} (H : RunAt σ z rows l L) : RunAt (σ.set z.va (.dictS l')) z rows l' L :=
  ⟨set_miss (ne_of_kind H.dict H.inst nofun) H.inst, set_miss (ne_of_kind H.dict H.attrs nofun) H.attrs, H.flat.miss H.dict nofun nofun (ne_of_kind H.dict H.flat.rows nofun), set_hit H.dict, set_miss (ne_of_kind H.dict H.lam nofun) H.lam, set_miss (ne_of_kind H.dict H.notes nofun) H.notes⟩
theorem RunAt.setN {σ : St} {z : Pl} {rows : List V} {l : Env0} {L L' : List V} (hne : z.no ≠ z.f.r) (H : RunAt σ z rows l L) : RunAt (σ.set z.no (.list L')) z rows l L' :=
  ⟨set_miss (ne_of_kind H.notes H.inst nofun) H.inst, set_miss (ne_of_kind H.notes H.attrs nofun) H.attrs, H.flat.miss H.notes nofun nofun hne, set_miss (ne_of_kind H.notes H.dict nofun) H.dict, set_miss (ne_of_kind H.notes H.lam nofun) H.lam, set_hit H.notes⟩
section
variable {z : Pl} {rows : List V} {l : Env0} {L : List V} {d : Nat} {σ : St} {Q : Post}
theorem At_values (C : CxK (mkC b)) (H : RunAt σ z rows l L) (h : Q (.loc z.va) σ) : At (mkC b) d (.loc z.r) (S "values") σ Q := At_inst C H.inst H.attrs rfl (aok (by kernel_rfl)) rfl h
theorem At_flat (C : CxK (mkC b)) (H : RunAt σ z rows l L) (h : Q (.loc z.f.f) σ) : At (mkC b) d (.loc z.r) (S "flat") σ Q := At_inst C H.inst H.attrs rfl (aok (by kernel_rfl)) rfl h
theorem At_notes (C : CxK (mkC b)) (H : RunAt σ z rows l L) (h : Q (.loc z.no) σ) : At (mkC b) d (.loc z.r) (S "notes") σ Q := At_inst C H.inst H.attrs rfl (aok (by kernel_rfl)) rfl h
theorem k_rworth (C : CxK (mkC b)) {t : T} (H : RunAt σ z rows l L) (ht : okT l t) (hc : cost t ≤ 1500) (hq : Q (.int (ev l t)) σ) : Ca (mkC b) (d + 9) (ref 561) [.loc z.r, t.v] σ Q := by
  refine Ca_def C (fn_561 C) rfl ?_
  refine At_inst C H.inst H.attrs rfl (aok (by kernel_rfl)) rfl ?_
  refine At_values C H ?_
  exact ⟨Kp_loc H.lam, k_lam C H.lam H.dict ht hc hq⟩
theorem k_rvon (C : CxK (mkC b)) {x : Str} (H : RunAt σ z rows l L) (hq : Q ((getK l x).getD (.int 0)) σ) : Ca (mkC b) (d + 1) (ref 575) [.loc z.r, .str x] σ Q := by
  refine Ca_def C (fn_575 C) rfl ?_
  refine At_values C H ?_
  refine Gm_get H.dict ?_
  exact KCa_get H.dict hq
theorem k_rstore (C : CxK (mkC b)) {x : Str} {u : V} (H : RunAt σ z rows l L) (hz : l.length ≤ 9000) (hq : Q .none (σ.set z.va (.dictS (putK l x u)))) : Ca (mkC b) (d + 1) (ref 582) [.loc z.r, .str x, u] σ Q := by
  refine Ca_def C (fn_582 C) rfl ?_
  refine At_values C H ?_
  exact Si_dictS H.dict hz hq
theorem Gm_worth (C : CxK (mkC b)) {Q : V → List V → St → Prop} (H : RunAt σ z rows l L) (h : Q (.raw (.ref 561)) [.loc z.r] σ) : Gm (mkC b) d (.loc z.r) (S "worth") σ Q := Gm_inst C H.inst H.attrs rfl (mok (by kernel_rfl)) h
theorem k_ifn (C : CxK (mkC b)) {t : T} {n k : Nat} (H : RunAt σ z rows l L) (ht : okT l t) (hc : cost t ≤ 1500)
    (hq : Q (.int ((if ev l t = 0 then n else k + 1 : Nat) : Nat)) σ) : Ca (mkC b) (d + 11) (ref 512) [.loc z.r, .int (k : Nat), ifnV t n] σ Q := by
  refine Ca_def C (fn_512 C) rfl ?_
  refine Ca_def C (fn_519 C) rfl ?_
  refine Gm_worth C H ?_
  refine KCa_fn (fn_561 C) (k_rworth C H ht hc ?_)
  refine k_isTrue C ?_
  by_cases h0 : ev l t = 0
  · rw [if_pos h0] at hq
    exact br_F (by rw [decide_eq_true h0]; rfl) hq
  · rw [if_neg h0] at hq
    exact br_T (by rw [decide_eq_false h0]; rfl) hq
theorem k_jmp (C : CxK (mkC b)) {r n k : Nat} (hq : Q (.int (n : Nat)) σ) : Ca (mkC b) (d + 2) (ref 512) [.loc r, .int (k : Nat), jmpV n] σ Q :=
  Ca_def C (fn_512 C) rfl (Ca_def C (fn_519 C) rfl hq)
end
end
end Mine
end
section
open PySem PySem.W PySem.Calls PyProof.Rows
set_option maxRecDepth 100000
set_option maxHeartbeats 4000000
set_option linter.unusedVariables false
namespace Mine
section
variable {b : CB}
inductive Run (rows : List V) (l' : Env0) (L' : List V) : Nat → Nat → Env0 → List V → Prop
  | done {n k : Nat} : k = rows.length → Run rows l' L' n k l' L'
  | set {n k : Nat} {l : Env0} {L : List V} {ln : Int} {x : Str} {e : T} : rows[k]? = some (row ln (letV x e)) → okT l e → cost e ≤ 1500 → Run rows l' L' n (k + 1) (putK l x (.int (ev l e))) L → Run rows l' L' (n + 1) k l L
  | rem {n k : Nat} {l : Env0} {L : List V} {ln : Int} : rows[k]? = some (row ln remV) → Run rows l' L' n (k + 1) l (L ++ [.tup [.str (S "ahead"), (getK l (S "X")).getD (.int 0)]]) → Run rows l' L' (n + 1) k l L
  | ifn {n k m : Nat} {l : Env0} {L : List V} {ln : Int} {t : T} : rows[k]? = some (row ln (ifnV t m)) → okT l t → cost t ≤ 1500 → Run rows l' L' n (if ev l t = 0 then m else k + 1) l L → Run rows l' L' (n + 1) k l L
  | jmp {n k m : Nat} {l : Env0} {L : List V} {ln : Int} : rows[k]? = some (row ln (jmpV m)) → Run rows l' L' n m l L → Run rows l' L' (n + 1) k l L
theorem Run.lt {rows : List V} {l' l : Env0} {L' L : List V} {n k : Nat} (h : Run rows l' L' n k l L) : k = rows.length ∧ l = l' ∧ L = L' ∨ k < rows.length := by
  cases h with
  | done e => exact .inl ⟨e, rfl, rfl⟩
  | set e => exact .inr (List.getElem?_eq_some_iff.mp e).1
  | rem e => exact .inr (List.getElem?_eq_some_iff.mp e).1
  | ifn e => exact .inr (List.getElem?_eq_some_iff.mp e).1
  | jmp e => exact .inr (List.getElem?_eq_some_iff.mp e).1
theorem add_succ_le {a b c n : Nat} (h : a ≤ b + 1) (h2 : b + (c + 1) ≤ n) : a + c ≤ n := Nat.le_trans (Nat.add_le_add_right h c) (Nat.le_trans (Nat.le_of_eq (Nat.succ_add_eq_add_succ b c)) h2)
theorem k_go (C : CxK (mkC b)) {z : Pl} {rows : List V} {l l' : Env0} {L L' : List V} {d : Nat} {σ : St} {Q : Post} (hne : z.no ≠ z.f.r) (hz : rows.length ≤ 100) (hzl : l.length ≤ 100) (hzL : L.length ≤ 100) (H : RunAt σ z rows l L) (hr : Run rows l' L' 40 0 l L)
    (hq : ∀ σ' : St, RunAt σ' z rows l' L' → (∀ i, i ≠ z.va → i ≠ z.no → σ'[i]? = σ[i]?) → Q (.int rows.length) σ') : Ca (mkC b) (d + 12) (ref 596) [.loc z.r, .int 0, .int 40] σ Q := by
  refine Ca_def C (fn_596 C) rfl ?_
  refine W_For C ["self", "at"] (Ic_range (n := 40) (Nat.le_of_ble_eq_true rfl) ?_)
  have hrl : ∀ L' : List V, L'.length ≤ 100 → L'.length ≤ 100000 := fun _ h => Nat.le_trans h (Nat.le_of_ble_eq_true rfl)
  refine (?_ : ∀ (vs : List V) (k : Nat) (l : Env0) (L : List V) (σ₁ : St), l.length + vs.length ≤ 140 → L.length + vs.length ≤ 140 → RunAt σ₁ z rows l L → Run rows l' L' vs.length k l L → (∀ i, i ≠ z.va → i ≠ z.no → σ₁[i]? = σ[i]?) → kLOOPS _ _ _ _ _ _ _ _ vs [(S "self", .loc z.r), (S "at", .int (k : Nat))] σ₁) _ 0 l L σ
    (by rw [List.length_map, List.length_range]; exact leS hzl 40 (Nat.le_of_ble_eq_true rfl)) (by rw [List.length_map, List.length_range]; exact leS hzL 40 (Nat.le_of_ble_eq_true rfl)) H (by rw [List.length_map, List.length_range]; exact hr) (fun _ _ _ => rfl)
  clear hr H hzl hzL
  clear l L
  intro vs
  induction vs with
  | nil =>
    intro k l L σ₁ b1 b2 H hr ho
    refine At_flat C H ?_
    refine At_rows C H.flat ?_
    refine Ca_len H.flat.rows (hrl _ hz) ?_
    rcases hr.lt with ⟨rfl, rfl, rfl⟩ | hk
    · exact br_dT (Int.le_refl _) (hq σ₁ H ho)
    · generalize hn : ([] : List V).length = n at hr
      cases hr with
      | done e => exact absurd e (Nat.ne_of_lt hk)
      | _ => cases hn
  | cons v vs ih =>
    intro k l L σ₁ b1 b2 H hr ho
    refine At_flat C H ?_
    refine At_rows C H.flat ?_
    refine Ca_len H.flat.rows (hrl _ hz) ?_
    rcases hr.lt with ⟨rfl, rfl, rfl⟩ | hk
    · exact br_dT (Int.le_refl _) (hq σ₁ H ho)
    refine br_dF (Int.not_le.mpr (Int.ofNat_lt.mpr hk)) ?_
    refine At_flat C H ?_
    refine At_rows C H.flat ?_
    have hi : ∀ {u : V}, rows[k]? = some u → rows[(k : Int).toNat]? = some u := fun e => by rw [Int.toNat_natCast]; exact e
    have hkz : (k : Int) < 2 ^ 63 := cast_lt (Nat.le_trans (Nat.le_of_lt hk) hz) (by decide)
    have hlz : l.length ≤ 9000 := Nat.le_trans (Nat.le_of_add_right_le b1) (Nat.le_of_ble_eq_true rfl)
    have hLz : L.length ≤ 10000 := Nat.le_trans (Nat.le_of_add_right_le b2) (Nat.le_of_ble_eq_true rfl)
    have b1' : l.length + vs.length ≤ 140 := Nat.le_of_succ_le b1
    have b2' : L.length + vs.length ≤ 140 := Nat.le_of_succ_le b2
    cases hr with
    | done e => exact absurd e (Nat.ne_of_lt hk)
    | set e ho' hc hr' =>
      refine Gi_loc H.flat.rows (Int.natCast_nonneg _) (hi e) ?_ hkz
      refine Gm_inst C H.inst H.attrs rfl (mok (f := 582) (by kernel_rfl)) ?_
      refine Gm_worth C H ?_
      refine KCa_fn (fn_561 C) (k_rworth C H ho' hc ?_)
      refine KCa_fn (fn_582 C) (k_rstore C H hlz ?_)
      refine ⟨_, rfl, _, rfl, trivial, ?_⟩
      exact ih (k + 1) _ L _ (add_succ_le (putK_le _ _ _) b1) b2' H.setD hr' fun i hi hn => by rw [List.getElem?_set_ne (Ne.symm hi)]; exact ho i hi hn
    | rem e hr' =>
      refine Gi_loc H.flat.rows (Int.natCast_nonneg _) (hi e) ?_ hkz
      refine At_notes C H ?_
      refine Gm_append H.notes ?_
      refine Gm_inst C H.inst H.attrs rfl (mok (f := 575) (by kernel_rfl)) ?_
      refine KCa_fn (fn_575 C) (k_rvon C H ?_)
      refine KCa_append H.notes hLz ?_
      refine ⟨_, rfl, _, rfl, trivial, ?_⟩
      exact ih (k + 1) l _ _ b1' (add_succ_le (Nat.le_of_eq List.length_append) b2) (H.setN hne) hr' fun i hi hn => by rw [List.getElem?_set_ne (Ne.symm hn)]; exact ho i hi hn
    | ifn e ho' hc hr' =>
      refine Gi_loc H.flat.rows (Int.natCast_nonneg _) (hi e) ?_ hkz
      exact k_ifn C H ho' hc ⟨trivial, ih _ l L _ b1' b2' H hr' ho⟩
    | jmp e hr' =>
      refine Gi_loc H.flat.rows (Int.natCast_nonneg _) (hi e) ?_ hkz
      exact k_jmp C ⟨trivial, ih _ l L _ b1' b2' H hr' ho⟩
end
end Mine
end
section
open PySem PySem.W PySem.Calls PyProof.Rows
set_option maxRecDepth 100000
set_option maxHeartbeats 4000000
set_option linter.unusedVariables false
namespace Mine
section
variable {b : CB}
noncomputable def ctlO (n : Nat) : St := [.attrs [(S "pile", .loc (n + 2)), (S "most", .int 20), (S "failed_at", .int (-1))], .inst 307 n, .list []]
theorem k_Control (C : CxK (mkC b)) {d : Nat} {σ : St} {Q : Post} (h : Q (.loc (σ.length + 1)) (σ ++ ctlO σ.length)) : Ca (mkC b) (d + 2) (ref 307) [.int 20] σ Q := by
  refine Ca_make C (f := 304) (by kernel_rfl) (by kernel_rfl) (by kernel_rfl) (fn_304 C) rfl ?_
  refine W_list0 C rfl ?_
  refine Sa_new ⟨by kernel_rfl, by kernel_rfl, by kernel_rfl, by kernel_rfl⟩ rfl rfl rfl ?_
  refine Sa_new ⟨by kernel_rfl, by kernel_rfl, by kernel_rfl, by kernel_rfl⟩ rfl rfl rfl ⟨_, rfl, ?_⟩
  exact Sa_new ⟨by kernel_rfl, by kernel_rfl, by kernel_rfl, by kernel_rfl⟩ rfl rfl rfl ⟨rfl, h⟩
theorem k_ControlT (C : CxK (mkC b)) {d : Nat} {σ t : St} {k : Nat} {Q : Post} (hk : t.length = k) (h : Q (.loc (σ.length + k + 1)) (σ ++ (t ++ ctlO (σ.length + k)))) : Ca (mkC b) (d + 2) (ref 307) [.int 20] (σ ++ t) Q :=
  k_Control C (by rw [List.length_append, hk, List.append_assoc]; exact h)
noncomputable def runO (n f va lam : Nat) : St := [.attrs (runA f va lam (n + 3) (n + 5)), .inst 599 n, .attrs [(S "pile", .loc (n + 4)), (S "most", .int 20), (S "failed_at", .int (-1))], .inst 307 (n + 2), .list [], .list []]
theorem k_run (C : CxK (mkC b)) {f va lam : Nat} {d : Nat} {σ : St} {Q : Post} (h : Q (.loc (σ.length + 1)) (σ ++ runO σ.length f va lam)) : Ca (mkC b) (d + 4) (ref 599) [.loc f, .loc va, .loc lam, .int 32, .int 9] σ Q := by
  refine Ca_make C (f := 554) (by kernel_rfl) (by kernel_rfl) (by kernel_rfl) (fn_554 C) rfl ?_
  refine Sa_new ⟨by kernel_rfl, by kernel_rfl, by kernel_rfl, by kernel_rfl⟩ rfl rfl rfl ?_
  refine Sa_new ⟨by kernel_rfl, by kernel_rfl, by kernel_rfl, by kernel_rfl⟩ rfl rfl rfl ?_
  refine Sa_new ⟨by kernel_rfl, by kernel_rfl, by kernel_rfl, by kernel_rfl⟩ rfl rfl rfl ?_
  refine Sa_new ⟨by kernel_rfl, by kernel_rfl, by kernel_rfl, by kernel_rfl⟩ rfl rfl rfl ?_
  refine Sa_new ⟨by kernel_rfl, by kernel_rfl, by kernel_rfl, by kernel_rfl⟩ rfl rfl rfl ?_
  refine k_ControlT C rfl ?_
  refine Sa_new ⟨by kernel_rfl, by kernel_rfl, by kernel_rfl, by kernel_rfl⟩ rfl rfl rfl ?_
  refine W_list0 C rfl ?_
  exact Sa_new ⟨by kernel_rfl, by kernel_rfl, by kernel_rfl, by kernel_rfl⟩ rfl rfl rfl ⟨rfl, h⟩
end
end Mine
end
section
open PySem PySem.W PySem.Calls PyProof.Rows
set_option maxRecDepth 100000
set_option maxHeartbeats 4000000
set_option linter.unusedVariables false
namespace Mine
section
variable {b : CB}
theorem getK_putne {K : Type} [DecidableEq K] {α : Type} (l : List (K × α)) {k x : K} (v : α) (hx : x ≠ k) : getK (putK l k v) x = getK l x := by
  unfold putK
  split
  · (rename_i hh; clear hh)
    induction l with
    | nil => rfl
    | cons p l ih =>
      obtain ⟨y, u⟩ := p
      simp only [List.map_cons]
      by_cases hy : y = k
      · rw [if_pos hy]
        simp only [getK]
        rw [ih]
        by_cases h : y = x
        · exact absurd (h.symm.trans hy) hx
        · simp only [h, if_false]
      · rw [if_neg hy]
        simp only [getK]
        rw [ih]
  · (rename_i hh; clear hh)
    induction l with
    | nil => simp only [List.nil_append, getK]; rw [if_neg (Ne.symm hx)]
    | cons p l ih =>
      obtain ⟨y, u⟩ := p
      simp only [List.cons_append, getK]
      rw [ih]
theorem look_put {l : Env0} {x : Str} {n : Int} : look (putK l x (.int n)) x = n := by unfold look; rw [getK_put]
theorem look_putne {l : Env0} {x y : Str} {v : V} (h : y ≠ x) : look (putK l x v) y = look l y := by unfold look; rw [getK_putne _ _ h]
def Ar : T → Prop
  | .nm x => x ∈ ABC
  | .wh n => n = 3
  | .two op a b => op ∈ pm ∧ Ar a ∧ Ar b
  | .nt _ => False
noncomputable def wd : T → Nat
  | .two _ a b => wd a + wd b
  | _ => 1
def Bo (k : Nat) : T → Prop
  | .two op a b => (op ∈ cps ∧ Ar a ∧ Ar b ∧ wd a ≤ k ∧ wd b ≤ k) ∨ (op ∈ lgs ∧ Bo k a ∧ Bo k b)
  | .nt a => Bo k a
  | _ => False
noncomputable def lv : T → Nat
  | .two _ a b => lv a + lv b
  | .nt a => lv a
  | _ => 1
def EnvB (l : Env0) (M : Nat) : Prop := ∀ x ∈ ABC, getK l x = some (.int (look l x)) ∧ -(M : Int) ≤ look l x ∧ look l x ≤ M
theorem EnvB.has {l : Env0} {M : Nat} (h : EnvB l M) : has l := fun x m => (h x m).1
theorem ar_size {l : Env0} {M : Nat} (hl : EnvB l M) (hM : 3 ≤ M) : ∀ (t : T), Ar t → -((wd t * M : Nat) : Int) ≤ ev l t ∧ ev l t ≤ (wd t * M : Nat)
  | .nm x, h => by have := hl x h; simp only [wd, ev, Nat.one_mul]; exact this.2
  | .wh n, h => by simp only [Ar] at h; subst h; simp only [wd, ev, Nat.one_mul]; omega
  | .two op a b, h => by
    have ha := ar_size hl hM a h.2.1
    have hb := ar_size hl hM b h.2.2
    simp only [wd, ev, Nat.add_mul]
    rw [opF_pm h.1]
    unfold arF
    split <;> omega
  | .nt a, h => h.elim
theorem ar_ok {l : Env0} {M : Nat} (hl : EnvB l M) (hM : 3 ≤ M) : ∀ (t : T), Ar t → wd t * M ≤ 1000000 → okT l t
  | .nm x, h, hz => by have := hl x h; simp only [wd, Nat.one_mul] at hz; exact ⟨this.1, by constructor <;> omega⟩
  | .wh n, h, hz => by simp only [Ar] at h; subst h; constructor <;> decide
  | .two op a b, h, hz => by
    have hs := ar_size hl hM (.two op a b) h
    have hz' := hz
    simp only [wd, Nat.add_mul] at hz
    refine ⟨ar_ok hl hM a h.2.1 (by omega), ar_ok hl hM b h.2.2 (by omega), .inl ⟨h.1, ?_⟩⟩
    simp only [ev] at hs
    rw [opF_pm h.1] at hs
    constructor <;> omega
  | .nt a, h, _ => h.elim
theorem tr_isB (b : Bool) : isB (tr b) := by cases b <;> simp [tr, isB]
theorem lgF_isB {op : Str} {x y : Int} : isB (lgF op x y) := by unfold lgF isB; split <;> split <;> simp
theorem bo_ok {l : Env0} {M k : Nat} (hl : EnvB l M) (hM : 3 ≤ M) (hk : k * M ≤ 1000000) : ∀ (t : T), Bo k t → okT l t ∧ isB (ev l t)
  | .nm x, h => h.elim
  | .wh n, h => h.elim
  | .two op a b, h => by
    rcases h with ⟨h1, h2, h3, h4, h5⟩ | ⟨h1, h2, h3⟩
    · refine ⟨⟨ar_ok hl hM a h2 (Nat.le_trans (Nat.mul_le_mul_right _ h4) hk), ar_ok hl hM b h3 (Nat.le_trans (Nat.mul_le_mul_right _ h5) hk), .inr (.inl h1)⟩, ?_⟩
      simp only [ev]; rw [opF_cps h1]; exact tr_isB _
    · obtain ⟨a1, a2⟩ := bo_ok hl hM hk a h2
      obtain ⟨b1, b2⟩ := bo_ok hl hM hk b h3
      refine ⟨⟨a1, b1, .inr (.inr ⟨h1, a2, b2⟩)⟩, ?_⟩
      simp only [ev]; rw [opF_lgs h1]; exact lgF_isB
  | .nt a, h => by
    obtain ⟨a1, a2⟩ := bo_ok hl hM hk a h
    refine ⟨⟨a1, a2.small⟩, ?_⟩
    simp only [ev]
    rcases a2 with e | e <;> rw [e] <;> simp [isB]
theorem ev_sub {l : Env0} {x : Str} {e : T} : ∀ t : T, ev l (t.sub x e) = ev (putK l x (.int (ev l e))) t
  | .nm y => by
    simp only [T.sub]
    by_cases h : y = x
    · rw [if_pos h]; subst h; simp only [ev, look_put]
    · rw [if_neg h]; simp only [ev]; rw [look_putne h]
  | .wh n => rfl
  | .two op a b => by simp only [T.sub, ev]; rw [ev_sub a, ev_sub b]
  | .nt a => by simp only [T.sub, ev]; rw [ev_sub a]
theorem ar_sub {x : Str} {e : T} (he : Ar e) (hw : wd e ≤ 2) : ∀ t : T, Ar t → Ar (t.sub x e) ∧ wd (t.sub x e) ≤ 2 * wd t
  | .nm y, h => by
    simp only [T.sub]
    split
    · exact ⟨he, by simpa [wd] using hw⟩
    · exact ⟨h, by simp [wd]⟩
  | .wh n, h => ⟨h, by simp [wd, T.sub]⟩
  | .two op a b, h => by
    have ha := ar_sub (x := x) he hw a h.2.1
    have hb := ar_sub (x := x) he hw b h.2.2
    exact ⟨⟨h.1, ha.1, hb.1⟩, by simp only [T.sub, wd]; omega⟩
  | .nt a, h => h.elim
theorem bo_sub {x : Str} {e : T} {k : Nat} (he : Ar e) (hw : wd e ≤ 2) : ∀ t : T, Bo k t → Bo (2 * k) (t.sub x e)
  | .nm y, h => h.elim
  | .wh n, h => h.elim
  | .two op a b, h => by
    rcases h with ⟨h1, h2, h3, h4, h5⟩ | ⟨h1, h2, h3⟩
    · have ha := ar_sub (x := x) he hw a h2
      have hb := ar_sub (x := x) he hw b h3
      exact .inl ⟨h1, ha.1, hb.1, by omega, by omega⟩
    · exact .inr ⟨h1, bo_sub he hw a h2, bo_sub he hw b h3⟩
  | .nt a, h => bo_sub he hw a h
theorem bo_mono {k k' : Nat} (hk : k ≤ k') : ∀ t : T, Bo k t → Bo k' t
  | .nm y, h => h.elim
  | .wh n, h => h.elim
  | .two op a b, h => by
    rcases h with ⟨h1, h2, h3, h4, h5⟩ | ⟨h1, h2, h3⟩
    · exact .inl ⟨h1, h2, h3, by omega, by omega⟩
    · exact .inr ⟨h1, bo_mono hk a h2, bo_mono hk b h3⟩
  | .nt a, h => bo_mono hk a h
theorem lv_sub {x : Str} {e : T} (hl : lv e ≤ 2) (hc : cost e ≤ 4) : ∀ t : T, lv (t.sub x e) ≤ 2 * lv t ∧ cost (t.sub x e) ≤ cost t + 3 * lv t
  | .nm y => by simp only [T.sub]; split <;> simp [lv, cost] <;> omega
  | .wh n => by simp [T.sub, lv, cost]
  | .two op a b => by have := lv_sub (x := x) hl hc a; have := lv_sub (x := x) hl hc b; simp only [T.sub, lv, cost]; omega
  | .nt a => by have := lv_sub (x := x) hl hc a; simp only [T.sub, lv, cost]; omega
theorem leaf_facts {t : T} (h : isLeaf t) : Ar t ∧ wd t = 1 ∧ lv t = 1 ∧ cost t = 1 := by
  rcases h with ⟨x, hx, rfl⟩ | rfl
  · exact ⟨hx, rfl, rfl, rfl⟩
  · exact ⟨rfl, rfl, rfl, rfl⟩
theorem leaf_ev {t : T} (l : Env0) (h : isLeaf t) : ev l t = lf l t := by rcases h with ⟨x, hx, rfl⟩ | rfl <;> rfl
theorem pm_facts {e : T} (h : isTwo pm e) : Ar e ∧ wd e = 2 ∧ lv e = 2 ∧ cost e = 4 ∧ ∀ l, ev l e = e.val l := by
  obtain ⟨op, a, b, hop, ha, hb, rfl⟩ := h
  obtain ⟨a1, a2, a3, a4⟩ := leaf_facts ha
  obtain ⟨b1, b2, b3, b4⟩ := leaf_facts hb
  refine ⟨⟨hop, a1, b1⟩, by simp [wd, a2, b2], by simp [lv, a3, b3], by simp [cost, a4, b4], fun l => ?_⟩
  simp only [ev, T.val]; rw [opF_pm hop, leaf_ev l ha, leaf_ev l hb]
theorem cps_facts {e : T} (h : isTwo cps e) : Bo 1 e ∧ lv e = 2 ∧ cost e = 4 ∧ ∀ l, ev l e = tr (e.tst l) := by
  obtain ⟨op, a, b, hop, ha, hb, rfl⟩ := h
  obtain ⟨a1, a2, a3, a4⟩ := leaf_facts ha
  obtain ⟨b1, b2, b3, b4⟩ := leaf_facts hb
  refine ⟨.inl ⟨hop, a1, b1, by omega, by omega⟩, by simp [lv, a3, b3], by simp [cost, a4, b4], fun l => ?_⟩
  simp only [ev, T.tst]; rw [opF_cps hop, leaf_ev l ha, leaf_ev l hb]
theorem bo_ahead {s : P} (hs : isP s) {k : Nat} (hk : 1 ≤ k) {q : T} (hq : Bo k q) : Bo (2 * k) (s.ahead q) ∧ lv (s.ahead q) ≤ 4 + 4 * lv q ∧ cost (s.ahead q) ≤ 16 + 2 * (cost q + 3 * lv q) := by
  cases s with
  | set x e =>
    obtain ⟨e1, e2, e3, e4, _⟩ := pm_facts hs.2
    have := lv_sub (x := x) (by omega : lv e ≤ 2) (by omega) q
    exact ⟨bo_sub e1 (by omega) q hq, by simp only [P.ahead]; omega, by simp only [P.ahead]; omega⟩
  | br c x₁ e₁ x₂ e₂ =>
    obtain ⟨h1, h2, h3, h4, h5⟩ := hs
    obtain ⟨c1, c2, c3, _⟩ := cps_facts h1
    obtain ⟨e1, e2, e3, e4, _⟩ := pm_facts h3
    obtain ⟨f1, f2, f3, f4, _⟩ := pm_facts h5
    have hA := lv_sub (x := x₁) (by omega : lv e₁ ≤ 2) (by omega) q
    have hB := lv_sub (x := x₂) (by omega : lv e₂ ≤ 2) (by omega) q
    refine ⟨.inr ⟨by decide, .inr ⟨by decide, bo_mono (by omega) _ c1, bo_sub e1 (by omega) q hq⟩, .inr ⟨by decide, bo_mono (by omega) c c1, bo_sub f1 (by omega) q hq⟩⟩, ?_, ?_⟩
    · simp only [P.ahead, lv]; omega
    · simp only [P.ahead, cost]; omega
theorem ev_ahead {s : P} (hs : isP s) {k M : Nat} (hM : 3 ≤ M) (hk : k * M ≤ 100000) {l : Env0} (hl : EnvB l M) {q : T} (hq : Bo k q) (hl' : ∀ x e, x ∈ ABC → isTwo pm e → EnvB (putK l x (.int (e.val l))) (2 * M)) : ev l (s.ahead q) = ev (s.run l) q := by
  cases s with
  | set x e =>
    obtain ⟨e1, e2, e3, e4, e5⟩ := pm_facts hs.2
    simp only [P.ahead, P.run]; rw [ev_sub, e5]
  | br c x₁ e₁ x₂ e₂ =>
    obtain ⟨h1, h2, h3, h4, h5⟩ := hs
    obtain ⟨c1, c2, c3, c4⟩ := cps_facts h1
    obtain ⟨e1, e2, e3, e4, e5⟩ := pm_facts h3
    obtain ⟨f1, f2, f3, f4, f5⟩ := pm_facts h5
    have k1 := (bo_ok (hl' x₁ e₁ h2 h3) (by omega) (show k * (2 * M) ≤ 1000000 by rw [Nat.mul_left_comm]; omega) q hq).2
    have k2 := (bo_ok (hl' x₂ e₂ h4 h5) (by omega) (show k * (2 * M) ≤ 1000000 by rw [Nat.mul_left_comm]; omega) q hq).2
    simp only [P.ahead, P.run, ev]
    rw [ev_sub, ev_sub, c4, e5, f5, opF_lgs (by decide), opF_lgs (by decide), opF_lgs (by decide)]
    have hne : ¬ S "OR" = S "AND" := by decide
    cases hcc : c.tst l <;> rcases k1 with g1 | g1 <;> rcases k2 with g2 | g2 <;> simp [lgF, tr, hcc, g1, g2, hne]
end
end Mine
end
section
open PySem PySem.W PySem.Calls PyProof.Rows
set_option maxRecDepth 100000
set_option maxHeartbeats 4000000
set_option linter.unusedVariables false
namespace Mine
section
variable {b : CB}
noncomputable def addL (L : List V) (ln : Int) (t : T) (s : P) : List V := L ++ (headR ln t ++ s.rows ln (L.length + 2))
noncomputable def allRows (t0 : T) (s0 : P) (t1 : T) (s1 : P) (t2 : T) (s2 : P) (t3 : T) : List V := addL (addL (addL [] 10 t0 s0) 20 t1 s1) 30 t2 s2 ++ headR 40 t3
theorem X_not : ¬ S "X" ∈ ABC := by decide
theorem EnvB.mono {l : Env0} {M M' : Nat} (h : EnvB l M) (hM : M ≤ M') : EnvB l M' := fun x m => by have := h x m; exact ⟨this.1, by omega, by omega⟩
theorem EnvB.put {l : Env0} {M : Nat} (h : EnvB l M) (hM : 3 ≤ M) {x : Str} {e : T} (he : isTwo pm e) : EnvB (putK l x (.int (e.val l))) (2 * M) := fun y m => by
  obtain ⟨e1, e2, e3, e4, e5⟩ := pm_facts he
  by_cases hy : y = x
  · subst hy
    rw [getK_put, look_put]
    have := ar_size h hM e e1
    rw [e2, e5] at this
    exact ⟨rfl, this.1, this.2⟩
  · rw [getK_putne _ _ hy, look_putne hy]
    have := h y m
    exact ⟨this.1, by omega, by omega⟩
theorem EnvB.X {l : Env0} {M : Nat} (h : EnvB l M) (n : Int) : EnvB (putK l (S "X") (.int n)) M := fun y m => by
  have hy : y ≠ S "X" := fun e => X_not (e ▸ m)
  rw [getK_putne _ _ hy, look_putne hy]; exact h y m
theorem EnvB.run {l : Env0} {M : Nat} (h : EnvB l M) (hM : 3 ≤ M) {s : P} (hs : isP s) : EnvB (s.run l) (2 * M) := by
  cases s with
  | set x e => exact h.put hM hs.2
  | br c x₁ e₁ x₂ e₂ =>
    simp only [P.run]
    split
    · exact h.put hM hs.2.2.1
    · exact h.put hM hs.2.2.2.2
def Ag (l l' : Env0) : Prop := ∀ x ∈ ABC, look l x = look l' x
theorem Ag.X (l : Env0) (v : V) : Ag (putK l (S "X") v) l := fun y m => look_putne fun e => X_not (e ▸ m)
theorem ag_lf {l l' : Env0} (h : Ag l l') {t : T} (ht : isLeaf t) : lf l t = lf l' t := by
  rcases ht with ⟨x, hx, rfl⟩ | rfl
  · exact h x hx
  · rfl
theorem ag_val {l l' : Env0} (h : Ag l l') {e : T} {ops : List Str} (he : isTwo ops e) : e.val l = e.val l' := by
  obtain ⟨op, a, b, hop, ha, hb, rfl⟩ := he
  simp only [T.val]; rw [ag_lf h ha, ag_lf h hb]
theorem ag_tst {l l' : Env0} (h : Ag l l') {e : T} {ops : List Str} (he : isTwo ops e) : e.tst l = e.tst l' := by
  obtain ⟨op, a, b, hop, ha, hb, rfl⟩ := he
  simp only [T.tst]; rw [ag_lf h ha, ag_lf h hb]
theorem ag_put {l l' : Env0} (h : Ag l l') {x : Str} {n n' : Int} (hn : n = n') : Ag (putK l x (.int n)) (putK l' x (.int n')) := fun y m => by
  subst hn
  by_cases hy : y = x
  · subst hy; rw [look_put, look_put]
  · rw [look_putne hy, look_putne hy]; exact h y m
theorem ag_run {l l' : Env0} (h : Ag l l') {s : P} (hs : isP s) : Ag (s.run l) (s.run l') := by
  cases s with
  | set x e => exact ag_put h (ag_val h hs.2)
  | br c x₁ e₁ x₂ e₂ =>
    simp only [P.run]
    rw [ag_tst h hs.1]
    split
    · exact ag_put h (ag_val h hs.2.2.1)
    · exact ag_put h (ag_val h hs.2.2.2.2)
theorem ag_ar {l l' : Env0} (h : Ag l l') : ∀ t : T, Ar t → ev l t = ev l' t
  | .nm x, ht => h x ht
  | .wh n, _ => rfl
  | .two op a b, ht => by simp only [ev]; rw [ag_ar h a ht.2.1, ag_ar h b ht.2.2]
  | .nt a, ht => ht.elim
theorem ag_bo {l l' : Env0} (h : Ag l l') {k : Nat} : ∀ t : T, Bo k t → ev l t = ev l' t
  | .nm x, ht => ht.elim
  | .wh n, ht => ht.elim
  | .two op a b, ht => by
    simp only [ev]
    rcases ht with ⟨_, h2, h3, _, _⟩ | ⟨_, h2, h3⟩
    · rw [ag_ar h a h2, ag_ar h b h3]
    · rw [ag_bo h a h2, ag_bo h b h3]
  | .nt a, ht => by simp only [ev]; rw [ag_bo h a ht]
theorem Run.more {rows : List V} {l' : Env0} {L' : List V} {n k : Nat} {l : Env0} {L : List V} (h : Run rows l' L' n k l L) : ∀ m, Run rows l' L' (n + m) k l L := by
  induction h with
  | done e => exact fun m => .done e
  | set h1 h2 h3 h4 ih => intro m; rw [Nat.add_right_comm]; exact .set h1 h2 h3 (ih m)
  | rem h1 h4 ih => intro m; rw [Nat.add_right_comm]; exact .rem h1 (ih m)
  | ifn h1 h2 h3 h4 ih => intro m; rw [Nat.add_right_comm]; exact .ifn h1 h2 h3 (ih m)
  | jmp h1 h4 ih => intro m; rw [Nat.add_right_comm]; exact .jmp h1 (ih m)
noncomputable def note (n : Int) : V := .tup [.str (S "ahead"), .int n]
theorem run_head {rows pre post : List V} {ln : Int} {t : T} (hrows : rows = pre ++ (headR ln t ++ post)) {l l' : Env0} {L L' : List V} {n : Nat} (ht : okT l t) (hc : cost t ≤ 1500)
    (h : Run rows l' L' n (pre.length + 2) (putK l (S "X") (.int (ev l t))) (L ++ [note (ev l t)])) : Run rows l' L' (n + 2) pre.length l L := by
  refine .set (ln := ln) (x := S "X") (e := t) (by rw [hrows]; simp [headR, letR]) ht hc (.rem (ln := ln) (by rw [hrows]; simp [headR]) ?_)
  rw [getK_put]
  exact h
theorem run_stmt {rows pre post : List V} {ln : Int} {s : P} (hs : isP s) {i : Nat} (hi : i = pre.length) (hrows : rows = pre ++ (s.rows ln i ++ post)) {l l' : Env0} {L L' : List V} {n M : Nat} (hl : EnvB l M) (hM : 3 ≤ M) (hz : M ≤ 1000)
    (h : Run rows l' L' n (pre.length + (s.rows ln i).length) (s.run l) L) : Run rows l' L' (n + 3) pre.length l L := by
  subst hi
  have okpm : ∀ e, isTwo pm e → okT l e ∧ cost e ≤ 1500 ∧ ev l e = e.val l := fun e he => by
    obtain ⟨e1, e2, e3, e4, e5⟩ := pm_facts he
    exact ⟨ar_ok hl hM e e1 (by rw [e2]; omega), by omega, e5 l⟩
  cases s with
  | set x e =>
    obtain ⟨k1, k2, k3⟩ := okpm e hs.2
    have := Run.set (rows := rows) (l' := l') (L' := L') (n := n) (k := pre.length) (l := l) (L := L) (ln := ln) (x := x) (e := e) (by rw [hrows]; simp [P.rows, letR]) k1 k2 (by rw [k3]; exact h)
    exact this.more 2
  | br c x₁ e₁ x₂ e₂ =>
    obtain ⟨h1, h2, h3, h4, h5⟩ := hs
    obtain ⟨c1, c2, c3, c4⟩ := cps_facts h1
    obtain ⟨k1, k2, k3⟩ := okpm e₁ h3
    obtain ⟨m1, m2, m3⟩ := okpm e₂ h5
    have hok := (bo_ok hl hM (show 1 * M ≤ 1000000 by omega) c c1).1
    refine .ifn (ln := ln) (t := c) (m := pre.length + 3) (by rw [hrows]; simp [P.rows, ifnV]) hok (by omega) ?_
    rw [c4 l]
    simp only [P.run] at h
    cases hcc : c.tst l with
    | true =>
      rw [hcc, if_pos rfl] at h
      rw [if_neg (by decide)]
      refine .set (ln := ln) (x := x₁) (e := e₁) (by rw [hrows]; simp [P.rows, letR]) k1 k2 ?_
      refine .jmp (ln := ln) (m := pre.length + 4) (by rw [hrows, List.getElem?_append_right (by omega)]; simp [P.rows, jmpV, Nat.add_sub_cancel_left, Nat.add_assoc]) ?_
      rw [k3]; exact h
    | false =>
      rw [hcc, if_neg (by decide)] at h
      rw [if_pos (by decide)]
      have := Run.set (rows := rows) (l' := l') (L' := L') (n := n) (k := pre.length + 3) (l := l) (L := L) (ln := ln) (x := x₂) (e := e₂) (by rw [hrows]; simp [P.rows, letR]) m1 m2 (by rw [m3]; exact h)
      exact this.more 1
end
end Mine
end
section
open PySem PySem.W PySem.Calls PyProof.Rows
set_option maxRecDepth 100000
set_option maxHeartbeats 4000000
set_option linter.unusedVariables false
namespace Mine
section
variable {b : CB}
theorem addL_pre (L : List V) (ln : Int) (t : T) (s : P) : addL L ln t s = L ++ (headR ln t ++ s.rows ln (L.length + 2)) := rfl
theorem run_line {rows pre : List V} {ln : Int} {t : T} {s : P} (hs : isP s) (hrows : addL pre ln t s <+: rows) {l l' : Env0} {L L' : List V} {n M k : Nat} (hl : EnvB l M) (hM : 3 ≤ M) (hz : M ≤ 1000) (hb : Bo k t) (hk : k * M ≤ 1000000) (hc : cost t ≤ 1500)
    (h : Run rows l' L' n (addL pre ln t s).length (s.run (putK l (S "X") (.int (ev l t)))) (L ++ [note (ev l t)])) : Run rows l' L' (n + 5) pre.length l L := by
  obtain ⟨post, hrows⟩ := hrows
  replace hrows := hrows.symm
  refine run_head (ln := ln) (post := s.rows ln (pre.length + 2) ++ post) (by rw [hrows, addL_pre]; simp) (bo_ok hl hM hk t hb).1 hc ?_
  have := run_stmt (rows := rows) (pre := pre ++ headR ln t) (post := post) (ln := ln) hs (i := pre.length + 2) (by simp [headR]) (by rw [hrows, addL_pre]; simp) (l' := l') (L' := L') (L := L ++ [note (ev l t)]) (n := n) (hl.X (ev l t)) hM hz
  rw [show (pre ++ headR ln t).length = pre.length + 2 by simp [headR]] at this
  refine this ?_
  rw [show pre.length + 2 + (s.rows ln (pre.length + 2)).length = (addL pre ln t s).length by rw [addL_pre]; simp [headR]; omega]
  exact h
theorem run_all {s0 s1 s2 : P} {due : T} (h0 : isP s0) (h1 : isP s1) (h2 : isP s2) (hd : isTwo cps due) {l : Env0} (hl : EnvB l 6) :
    ∃ l', Run (allRows (s0.ahead (s1.ahead (s2.ahead due))) s0 (s1.ahead (s2.ahead due)) s1 (s2.ahead due) s2 due) l' (List.replicate 4 (note (tr (due.tst (s2.run (s1.run (s0.run l))))))) 40 0 l [] ∧
      Ag l' (s2.run (s1.run (s0.run l))) ∧ getK l' (S "X") = some (.int (tr (due.tst (s2.run (s1.run (s0.run l)))))) ∧ EnvB l' 48 := by
  obtain ⟨d1, d2, d3, d4⟩ := cps_facts hd
  obtain ⟨b2, v2, c2⟩ := bo_ahead h2 (Nat.le_refl 1) d1
  obtain ⟨b1, v1, c1⟩ := bo_ahead h1 (by omega) b2
  obtain ⟨b0, v0, c0⟩ := bo_ahead h0 (by omega) b1
  have hEv : ∀ {l₁ l₂ : Env0} {M k : Nat} {s : P} {q : T}, isP s → EnvB l₁ M → 3 ≤ M → k * M ≤ 100000 → Bo k q → ev l₁ (s.ahead q) = ev (s.run l₁) q := fun hs he hM hk hq => ev_ahead hs hM hk he hq fun x e _ hee => he.put hM hee
  have L1 := hl.run (by omega) h0
  have L2 := L1.run (by omega) h1
  have L3 := L2.run (by omega) h2
  generalize hv : tr (due.tst (s2.run (s1.run (s0.run l)))) = v
  have e3 : ev (s2.run (s1.run (s0.run l))) due = v := by rw [d4]; exact hv
  have e2 : ev (s1.run (s0.run l)) (s2.ahead due) = v := by rw [← e3]; exact hEv (M := 24) (l₂ := l) h2 L2 (by omega) (by omega) d1
  have e1 : ev (s0.run l) (s1.ahead (s2.ahead due)) = v := by rw [← e2]; exact hEv (M := 12) (l₂ := l) h1 L1 (by omega) (by omega) b2
  have e0 : ev l (s0.ahead (s1.ahead (s2.ahead due))) = v := by rw [← e1]; exact hEv (M := 6) (l₂ := l) h0 hl (by omega) (by omega) b1
  -- the run's own values
  have A0 := hl.X v
  have A1 := A0.run (by omega) h0
  have g1 : Ag (s0.run (putK l (S "X") (.int v))) (s0.run l) := ag_run (Ag.X l _) h0
  generalize hm1 : s0.run (putK l (S "X") (.int v)) = m1 at *
  have f1 : ev m1 (s1.ahead (s2.ahead due)) = v := by rw [ag_bo g1 _ b1]; exact e1
  have B1 := A1.X v
  have B2 := B1.run (by omega) h1
  have g2 : Ag (s1.run (putK m1 (S "X") (.int v))) (s1.run (s0.run l)) := ag_run (fun x m => (Ag.X m1 _ x m).trans (g1 x m)) h1
  generalize hm2 : s1.run (putK m1 (S "X") (.int v)) = m2 at *
  have f2 : ev m2 (s2.ahead due) = v := by rw [ag_bo g2 _ b2]; exact e2
  have C2 := B2.X v
  have C3 := C2.run (by omega) h2
  have g3 : Ag (s2.run (putK m2 (S "X") (.int v))) (s2.run (s1.run (s0.run l))) := ag_run (fun x m => (Ag.X m2 _ x m).trans (g2 x m)) h2
  generalize hm3 : s2.run (putK m2 (S "X") (.int v)) = m3 at *
  have f3 : ev m3 due = v := by rw [ag_bo g3 _ d1]; exact e3
  refine ⟨putK m3 (S "X") (.int v), ?_, fun x m => (Ag.X m3 _ x m).trans (g3 x m), getK_put _ _ _, (C3.X v).mono (by omega)⟩
  have r3 : Run (allRows (s0.ahead (s1.ahead (s2.ahead due))) s0 (s1.ahead (s2.ahead due)) s1 (s2.ahead due) s2 due) (putK m3 (S "X") (.int v)) [note v, note v, note v, note v] 2 (addL (addL (addL [] 10 (s0.ahead (s1.ahead (s2.ahead due))) s0) 20 (s1.ahead (s2.ahead due)) s1) 30 (s2.ahead due) s2).length m3 [note v, note v, note v] := by
    refine run_head (n := 0) (post := []) (ln := 40) (t := due) (by simp [allRows]) (bo_ok C3 (by omega) (by omega) due d1).1 (by omega) ?_
    rw [f3]
    exact .done (by simp [allRows, headR])
  have pL : ∀ (L : List V) (ln : Int) (t : T) (s : P), L <+: addL L ln t s := fun L ln t s => List.prefix_append _ _
  have p3 : addL (addL (addL [] 10 (s0.ahead (s1.ahead (s2.ahead due))) s0) 20 (s1.ahead (s2.ahead due)) s1) 30 (s2.ahead due) s2 <+: allRows (s0.ahead (s1.ahead (s2.ahead due))) s0 (s1.ahead (s2.ahead due)) s1 (s2.ahead due) s2 due := List.prefix_append _ _
  have p2 := (pL (addL (addL [] 10 (s0.ahead (s1.ahead (s2.ahead due))) s0) 20 (s1.ahead (s2.ahead due)) s1) 30 (s2.ahead due) s2).trans p3
  have p1 := (pL (addL [] 10 (s0.ahead (s1.ahead (s2.ahead due))) s0) 20 (s1.ahead (s2.ahead due)) s1).trans p2
  have r2 := run_line (n := 2) h2 p3 (L := [note v, note v]) B2 (by omega) (by omega) b2 (by omega) (by omega) (by rw [f2, hm3]; exact r3)
  have r1 := run_line (n := 2 + 5) h1 p2 (L := [note v]) A1 (by omega) (by omega) b1 (by omega) (by omega) (by rw [f1, hm2]; exact r2)
  have r0 := run_line (n := 2 + 5 + 5) h0 p1 (L := []) hl (by omega) (by omega) b0 (by omega) (by omega) (by rw [e0, hm1]; exact r1)
  exact r0.more 23
end
end Mine
end
section
open PySem PySem.W PySem.Calls PyProof.Rows
set_option maxRecDepth 100000
set_option maxHeartbeats 4000000
set_option linter.unusedVariables false
namespace Mine
section
variable {b : CB}
noncomputable abbrev lawSc : Sc := ⟨hD.scope, .ref 792⟩
theorem FlatAt.app {σ : St} {z : Pf} {L : List V} (H : FlatAt σ z L) (t : St) : FlatAt (σ ++ t) z L := ⟨app_l H.inst, app_l H.attrs, app_l H.rows⟩
theorem RunAt.app {σ : St} {z : Pl} {rows : List V} {l : Env0} {L : List V} (H : RunAt σ z rows l L) (t : St) : RunAt (σ ++ t) z rows l L := ⟨app_l H.inst, app_l H.attrs, H.flat.app t, app_l H.dict, app_l H.lam, app_l H.notes⟩
theorem br_E {F : Fns} {t : Bool} {e o : Expr} {ρ : Vars} {σ : St} {Q : Post} {u : V} (h1 : t = true → ∀ Q : Post, Q u σ → F.E e ρ σ Q) (h2 : t = false → ∀ Q : Post, Q u σ → F.E o ρ σ Q) (h : Q u σ) : br t (F.E e ρ σ Q) (F.E o ρ σ Q) := by
  cases t with
  | true => exact h1 rfl Q h
  | false => exact h2 rfl Q h
theorem wC4 {F : Rec} {sc : Sc} {elt : Expr} {x : Str} {K : St → Prop} {T : List V → St → Prop} {a b c e ua ub uc ue : V} {ρ : Vars} {σ : St} (hK : ∀ σ', K σ') (e1 : ∀ Q : Post, Q ua (σ ++ [.list []]) → (F sc).E elt (put ρ x a) (σ ++ [.list []]) Q)
    (e2 : ∀ Q : Post, Q ub (σ ++ [.list [ua]]) → (F sc).E elt (put (put ρ x a) x b) (σ ++ [.list [ua]]) Q) (e3 : ∀ Q : Post, Q uc (σ ++ [.list [ua, ub]]) → (F sc).E elt (put (put (put ρ x a) x b) x c) (σ ++ [.list [ua, ub]]) Q)
    (e4 : ∀ Q : Post, Q ue (σ ++ [.list [ua, ub, uc]]) → (F sc).E elt (put (put (put (put ρ x a) x b) x c) x e) (σ ++ [.list [ua, ub, uc]]) Q) (h : T [ua, ub, uc, ue] (σ ++ [.list [ua, ub, uc, ue]])) : wCOMPS F sc elt x K σ.length T [a, b, c, e] [] ρ (σ ++ [.list []]) := by
  refine e1 _ ⟨app_0, Nat.le_of_ble_eq_true rfl, hK _, ?_⟩
  rw [setLast]
  refine e2 _ ⟨app_0, Nat.le_of_ble_eq_true rfl, hK _, ?_⟩
  rw [setLast]
  refine e3 _ ⟨app_0, Nat.le_of_ble_eq_true rfl, hK _, ?_⟩
  rw [setLast]
  refine e4 _ ⟨app_0, Nat.le_of_ble_eq_true rfl, hK _, ?_⟩
  rw [setLast]
  exact ⟨app_0, h⟩
theorem k_lawE (C : CxK (mkC b)) {R : Fl → Vars → St → Prop} (h : ∀ ρ σ ps, σ[0]? = some (.tab 790 ps) → R (.ret (.bool true)) ρ σ)
    {v : Nat} {l l' : Env0} {rows : List V} {due : T} {σ : St} {z : Pl} {ps : Array Value} (hdue : isTwo cps due) (hl : EnvB l 48) (hl' : EnvB l' 48) (hag : Ag l' l) (hX : getK l' (S "X") = some (.int (tr (due.tst l)))) (hrl : rows.length ≤ 100)
    (t0 : σ[0]? = some (.tab 790 ps)) (t1 : σ[v]? = some (.dictS l)) (H : RunAt σ z rows l' (List.replicate 4 (note (tr (due.tst l))))) :
    ((wp (mkC b) 40 49) lawSc).Ss (lawB.drop 11) [(S "values", .loc v), (S "due", due.v), (S "run", .loc z.r), (S "end", .int rows.length)] σ R := by
  refine k_tst C hdue t1 hl.has ?_
  refine br_E (u := .int (tr (due.tst l))) (fun e Q q => ?_) (fun e Q q => ?_) ?_
  · rw [e] at q; exact ⟨_, rfl, q⟩
  · rw [e] at q; exact q
  generalize tr (due.tst l) = t at *
  refine At_flat C H (At_rows C H.flat (Ca_len H.flat.rows (Nat.le_trans hrl (Nat.le_of_ble_eq_true rfl)) ?_))
  refine br_F (by rw [decide_eq_true rfl]; rfl) ?_
  refine At_notes C H ?_
  refine W_ListF C ?_
  refine Bi_mulL (n := 4) (.inl rfl) (fun e => nomatch e) (Nat.le_of_ble_eq_true rfl) (Nat.le_of_ble_eq_true rfl) ?_
  refine Cm_neL (.inr ⟨z.no, rfl, .inl H.notes⟩) (.inl rfl) rfl ?_
  refine Iv_str (by decide +kernel) ⟨trivial, ?_⟩
  have hA : ∀ t : St, RunAt (σ ++ t) z rows l' _ := H.app
  refine wC4 (fun _ => trivial) (fun Q q => At_values C (hA _) (Gi_dictS (hA _).dict (hl' _ mA).1 q)) (fun Q q => At_values C (hA _) (Gi_dictS (hA _).dict (hl' _ mB).1 q)) (fun Q q => At_values C (hA _) (Gi_dictS (hA _).dict (hl' _ mC).1 q)) (fun Q q => At_values C (hA _) (Gi_dictS (hA _).dict hX q)) ?_
  refine W_ListF C ?_
  refine Gi_dictS (app_l t1) (hl _ mA).1 ?_
  refine Gi_dictS (app_l t1) (hl _ mB).1 ?_
  refine Gi_dictS (app_l t1) (hl _ mC).1 ?_
  rw [hag _ mA, hag _ mB, hag _ mC]
  exact Cm_eqL (.inr ⟨_, rfl, .inl app_0⟩) (.inl rfl) rfl (h _ _ ps (app_l t0))
end
end Mine
end
section
open PySem PySem.W PySem.Calls PyProof.Rows
set_option maxRecDepth 100000
set_option maxHeartbeats 4000000
set_option linter.unusedVariables false
namespace Mine
section
variable {b : CB}
theorem run_le (s : P) (l : Env0) : (s.run l).length ≤ l.length + 1 := by
  cases s with
  | set x e => exact putK_le _ _ _
  | br c x₁ e₁ x₂ e₂ =>
    show (if c.tst l then putK l x₁ (.int (e₁.val l)) else putK l x₂ (.int (e₂.val l))).length ≤ _
    cases c.tst l
    · exact putK_le _ _ _
    · exact putK_le _ _ _
theorem rows_le (ln : Int) (i : Nat) (s : P) : (s.rows ln i).length ≤ 4 := by cases s <;> exact Nat.le_of_ble_eq_true rfl
theorem addL_le {L : List V} {ln : Int} {t : T} {s : P} {n : Nat} (h : L.length ≤ n) : (addL L ln t s).length ≤ n + 6 := by
  unfold addL
  rw [List.length_append, List.length_append]
  exact Nat.add_le_add h (Nat.add_le_add_left (rows_le _ _ _) 2)
theorem all_le (t0 : T) (s0 : P) (t1 : T) (s1 : P) (t2 : T) (s2 : P) (t3 : T) : (allRows t0 s0 t1 s1 t2 s2 t3).length ≤ 100 := by
  unfold allRows
  rw [List.length_append]
  exact Nat.le_trans (Nat.add_le_add_right (addL_le (addL_le (addL_le (Nat.le_refl 0)))) 2) (Nat.le_of_ble_eq_true rfl)
theorem k_lawD (C : CxK (mkC b)) {R : Fl → Vars → St → Prop} (h : ∀ ρ σ ps, σ[0]? = some (.tab 790 ps) → R (.ret (.bool true)) ρ σ)
    {v n : Nat} {l : Env0} {s0 s1 s2 : P} {due : T} {lv av : V} {σ : St} {z : Pl} {ps : Array Value} (h0 : isP s0) (h1 : isP s1) (h2 : isP s2) (hdue : isTwo cps due) (hl : EnvB l 6) (hz : l.length ≤ 10)
    (t0 : σ[0]? = some (.tab 790 ps)) (t1 : σ[v]? = some (.dictS l)) (t2 : σ[n]? = some (.list [s0.v, s1.v, s2.v])) 
    (H : RunAt σ z (allRows (s0.ahead (s1.ahead (s2.ahead due))) s0 (s1.ahead (s2.ahead due)) s1 (s2.ahead due) s2 due) l []) (hne : z.no ≠ z.f.r) (hva : v ≠ z.va) (hno : n ≠ z.no) (hnr : n ≠ z.f.r) :
    ((wp (mkC b) 40 51) lawSc).Ss (lawB.drop 9) [(S "values", .loc v), (S "statements", .loc n), (S "due", due.v), (S "lines", lv), (S "ahead", av), (S "run", .loc z.r)] σ R := by
  obtain ⟨l', hrun, hag, hX, hB⟩ := run_all h0 h1 h2 hdue hl
  have hrl := all_le (s0.ahead (s1.ahead (s2.ahead due))) s0 (s1.ahead (s2.ahead due)) s1 (s2.ahead due) s2 due
  generalize allRows (s0.ahead (s1.ahead (s2.ahead due))) s0 (s1.ahead (s2.ahead due)) s1 (s2.ahead due) s2 due = rows at *
  refine Gm_inst C H.inst H.attrs rfl (mok (f := 596) (by kernel_rfl)) ?_
  refine KCa_fn (fn_596 C) (k_go C hne hrl (Nat.le_trans hz (Nat.le_of_ble_eq_true rfl)) (Nat.zero_le _) H hrun fun σ₁ H1 ho => ?_)
  have u0 : σ₁[0]? = some (.tab 790 ps) := (ho 0 (ne_of_kind t0 H.dict nofun) (ne_of_kind t0 H.notes nofun)).trans t0
  have u1 : σ₁[v]? = some (.dictS l) := (ho v hva (ne_of_kind t1 H.notes nofun)).trans t1
  have u2 : σ₁[n]? = some (.list [s0.v, s1.v, s2.v]) := (ho n (ne_of_kind t2 H.dict nofun) hno).trans t2
  clear ho H t0 t1 t2
  have nv := ne_of_kind u2 u1 nofun
  have a1 := hl.run (by decide) h0
  have a2 := a1.run (by decide) h1
  have a3 := a2.run (by decide) h2
  have z0 : l.length ≤ 900 := Nat.le_trans hz (Nat.le_of_ble_eq_true rfl)
  have z1 : (s0.run l).length ≤ 11 := Nat.le_trans (run_le s0 l) (Nat.succ_le_succ hz)
  have z2 : (s1.run (s0.run l)).length ≤ 12 := Nat.le_trans (run_le s1 _) (Nat.succ_le_succ z1)
  refine Ex_fz u2 fun xs k => W_For C ["values", "due", "run", "end"] (Iv_fz (set_hit u2) fun K hK => ?_)
  have hf : ∀ o', ((σ₁.set n (.fz xs k [s0.v, s1.v, s2.v])).set v o')[n]? = some (.fz xs k [s0.v, s1.v, s2.v]) := fun o' => set_miss (Ne.symm nv) (set_hit u2)
  have hd : ∀ o', ((σ₁.set n (.fz xs k [s0.v, s1.v, s2.v])).set v o')[v]? = some o' := fun o' => set_hit (set_miss nv u1)
  refine k_done C h0 (set_miss nv u1) hl.has z0 ⟨hK _ (hf _), ?_⟩
  refine k_done C h1 (hd _) a1.has (Nat.le_trans z1 (Nat.le_of_ble_eq_true rfl)) ?_
  rw [List.set_set]
  refine ⟨hK _ (hf _), ?_⟩
  refine k_done C h2 (hd _) a2.has (Nat.le_trans z2 (Nat.le_of_ble_eq_true rfl)) ?_
  rw [List.set_set]
  refine ⟨hK _ (hf _), hf _, ?_⟩
  have up : ∀ {i : Nat} {o : SO}, σ₁[i]? = some o → n ≠ i → v ≠ i → (((σ₁.set n (SO.fz xs k [s0.v, s1.v, s2.v])).set v (SO.dictS (s2.run (s1.run (s0.run l))))).set n (SO.list [s0.v, s1.v, s2.v]))[i]? = some o := fun e x y => set_miss x (set_miss y (set_miss x e))
  exact k_lawE C h hdue a3 hB hag hX hrl (up u0 (ne_of_kind u2 u0 nofun) (ne_of_kind u1 u0 nofun)) (set_miss nv (hd _))
    ⟨up H1.inst (ne_of_kind u2 H1.inst nofun) (ne_of_kind u1 H1.inst nofun), up H1.attrs (ne_of_kind u2 H1.attrs nofun) (ne_of_kind u1 H1.attrs nofun),
      ⟨up H1.flat.inst (ne_of_kind u2 H1.flat.inst nofun) (ne_of_kind u1 H1.flat.inst nofun), up H1.flat.attrs (ne_of_kind u2 H1.flat.attrs nofun) (ne_of_kind u1 H1.flat.attrs nofun), up H1.flat.rows hnr (ne_of_kind u1 H1.flat.rows nofun)⟩,
      up H1.dict (ne_of_kind u2 H1.dict nofun) hva, up H1.lam (ne_of_kind u2 H1.lam nofun) (ne_of_kind u1 H1.lam nofun), up H1.notes hno (ne_of_kind u1 H1.notes nofun)⟩
end
end Mine
end
section
open PySem PySem.W PySem.Calls PyProof.Rows
set_option maxRecDepth 100000
set_option maxHeartbeats 4000000
set_option linter.unusedVariables false
namespace Mine
section
variable {b : CB}
theorem k_lawC (C : CxK (mkC b)) (hcd : CodeHd b.hb 792 790) {R : Fl → Vars → St → Prop} (h : ∀ ρ σ ps, σ[0]? = some (.tab 790 ps) → R (.ret (.bool true)) ρ σ)
    {l : Env0} {s0 s1 s2 : P} {due : T} {av : V} {o1 o2 : SO} (h0 : isP s0) (h1 : isP s1) (h2 : isP s2) (hdue : isTwo cps due) (hl : EnvB l 6) (hz : l.length ≤ 10) :
    ((wp (mkC b) 40 52) lawSc).Ss (lawB.drop 8) [(S "values", .loc 3), (S "statements", .loc 4), (S "due", due.v), (S "lines", .loc 5), (S "ahead", av)]
      [.tab 790 #[], o1, o2, .dictS l, .list [s0.v, s1.v, s2.v], .list [lineV 40 [letV (S "X") due, remV], lineV 30 [letV (S "X") (s2.ahead due), remV, s2.v], lineV 20 [letV (S "X") (s1.ahead (s2.ahead due)), remV, s1.v], lineV 10 [letV (S "X") (s0.ahead (s1.ahead (s2.ahead due))), remV, s0.v]]] R := by
  refine ⟨_, rfl, rfl, _, .inr ⟨_, rfl, .inl rfl⟩, Nat.le_of_ble_eq_true rfl, ?_⟩
  refine k_flatten C (xs := [lnS 10 (s0.ahead (s1.ahead (s2.ahead due))) s0, lnS 20 (s1.ahead (s2.ahead due)) s1, lnS 30 (s2.ahead due) s2, lnH 40 due]) (fun x m => ?_) (Nat.le_of_ble_eq_true rfl) fun D => ?_
  · rcases mem4 m with rfl | rfl | rfl | rfl
    · exact lnS_ok C _ _ _
    · exact lnS_ok C _ _ _
    · exact lnS_ok C _ _ _
    · exact lnH_ok C _ _
  refine Ca_dictD (l := l) rfl (Nat.le_trans hz (Nat.le_of_ble_eq_true rfl)) ?_
  refine ⟨EV_Lambda C.ok (c0 := 792) (P := 790) (k := 0) (ps := #[]) (fun env => rfl) (fun y m => by rcases mem4 m with rfl | rfl | rfl | rfl <;> exact nofun) rfl hcd rfl trivial rfl fun ps => ?_⟩
  refine k_run C ?_
  exact k_lawD C h (z := ⟨17, 16, pfN 6, 14, 15, 19, 21⟩) h0 h1 h2 hdue hl hz rfl rfl rfl ⟨rfl, rfl, ⟨rfl, rfl, rfl⟩, rfl, rfl, rfl⟩ (by decide : 21 ≠ 8) (by decide : 3 ≠ 14) (by decide : 4 ≠ 21) (by decide : 4 ≠ 8)
end
end Mine
end
section
open PySem PySem.W PySem.Calls PyProof.Rows
set_option maxRecDepth 100000
set_option maxHeartbeats 4000000
set_option linter.unusedVariables false
namespace Mine
section
variable {b : CB}
theorem T.dp_sub {x : Str} {e : T} : ∀ q : T, (q.sub x e).dp ≤ q.dp + e.dp
  | .nm y => by
    show (if y = x then e else .nm y : T).dp ≤ 0 + e.dp
    by_cases h : y = x
    · rw [if_pos h, Nat.zero_add]; exact Nat.le_refl _
    · rw [if_neg h]; exact Nat.zero_le _
  | .wh n => Nat.zero_le _
  | .two op a b => by
    show max _ _ + 1 ≤ max _ _ + 1 + _
    rw [Nat.succ_add]
    exact Nat.succ_le_succ (Nat.max_le.mpr ⟨Nat.le_trans (T.dp_sub a) (Nat.add_le_add_right (Nat.le_max_left _ _) _), Nat.le_trans (T.dp_sub b) (Nat.add_le_add_right (Nat.le_max_right _ _) _)⟩)
  | .nt a => by
    show _ + 1 ≤ _ + 1 + _
    rw [Nat.succ_add]; exact Nat.succ_le_succ (T.dp_sub a)
theorem leaf_dp {t : T} (h : isLeaf t) : t.dp = 0 := by rcases h with ⟨x, _, rfl⟩ | rfl <;> rfl
theorem two_dp {t : T} {ops : List Str} (h : isTwo ops t) : t.dp = 1 := by
  obtain ⟨op, a, b, _, ha, hb, rfl⟩ := h
  show max _ _ + 1 = 1
  rw [leaf_dp ha, leaf_dp hb]; rfl
theorem P.dp_ahead {s : P} (hs : isP s) {q : T} {n : Nat} (hq : q.dp ≤ n) : (s.ahead q).dp ≤ n + 4 := by
  have sub : ∀ x e, isTwo pm e → (q.sub x e).dp ≤ n + 1 := fun x e h => Nat.le_trans (T.dp_sub q) (by rw [two_dp h]; exact Nat.succ_le_succ hq)
  cases s with
  | set x e => exact Nat.le_trans (sub x e hs.2) (Nat.add_le_add_left (Nat.le_of_ble_eq_true rfl) n)
  | br c x₁ e₁ x₂ e₂ =>
    obtain ⟨h1, h2, h3, h4, h5⟩ := hs
    have ec := two_dp h1
    refine Nat.succ_le_succ (Nat.max_le.mpr ⟨Nat.succ_le_succ (Nat.max_le.mpr ⟨?_, Nat.le_succ_of_le (sub _ _ h3)⟩), Nat.succ_le_succ (Nat.max_le.mpr ⟨?_, Nat.le_succ_of_le (sub _ _ h5)⟩)⟩)
    · rw [ec]; exact Nat.le_add_left 1 _
    · show c.dp + 1 ≤ n + 2
      rw [ec]; exact Nat.le_add_left 2 _
theorem mul_ok {a k : Int} (h1 : -(2 ^ 64) < k) (h2 : k < 2 ^ 64) : PySem.IntMulOk a k := PySem.IntMulOk.of_right (PySem.intBits_le_64 h1 h2)
theorem k_lawB' (C : CxK (mkC b)) (hcd : CodeHd b.hb 792 790) {R : Fl → Vars → St → Prop} (h : ∀ ρ σ ps, σ[0]? = some (.tab 790 ps) → R (.ret (.bool true)) ρ σ)
    {l : Env0} {s0 s1 s2 : P} {due : T} {sv bv : V} {o1 o2 : SO} (h0 : isP s0) (h1 : isP s1) (h2 : isP s2) (hdue : isTwo cps due) (hl : EnvB l 6) (hz : l.length ≤ 10) :
    ((wp (mkC b) 40 55) lawSc).Ss (lawB.drop 5) [(S "script", sv), (S "bag", bv), (S "values", .loc 3), (S "statements", .loc 4), (S "due", due.v)] [.tab 790 #[], o1, o2, .dictS l, .list [s0.v, s1.v, s2.v]] R := by
  have p0 : due.dp ≤ 1 := Nat.le_of_eq (two_dp hdue)
  have p1 := P.dp_ahead h2 p0
  have p2 := P.dp_ahead h1 p1
  have fin := k_lawC C hcd h (av := (s0.ahead (s1.ahead (s2.ahead due))).v) (o1 := o1) (o2 := o2) h0 h1 h2 hdue hl hz
  refine W_List C ?_
  refine W_ListF C ?_
  refine W_For C ["values", "statements", "due", "lines", "ahead"] (Iv_tup ?_)
  refine (?_ : (∀ (i : Nat) (p : P) (q : T) (r : List V) (L : List V), i ≤ 2 → [s0.v, s1.v, s2.v][i]? = some p.v → q.dp ≤ 37 → L.length ≤ 9 → kLOOPS ?c ?sc ?d ?ns ?t ?b ?K ?R r [(S "values", .loc 3), (S "statements", .loc 4), (S "due", due.v), (S "lines", .loc 5), (S "ahead", (p.ahead q).v)] [.tab 790 #[], o1, o2, .dictS l, .list [s0.v, s1.v, s2.v], .list (L ++ [lineV (10 * i + 10) [letV (S "X") (p.ahead q), remV, p.v]])] →
      kLOOPS ?c ?sc ?d ?ns ?t ?b ?K ?R (.int i :: r) [(S "values", .loc 3), (S "statements", .loc 4), (S "due", due.v), (S "lines", .loc 5), (S "ahead", q.v)] [.tab 790 #[], o1, o2, .dictS l, .list [s0.v, s1.v, s2.v], .list L]) → kLOOPS ?c ?sc ?d ?ns ?t ?b ?K ?R [.int (2 : Nat), .int (1 : Nat), .int (0 : Nat)] _ _) ?_
  · intro step
    refine step 2 s2 due _ _ (Nat.le_refl 2) rfl (Nat.le_trans p0 (Nat.le_of_ble_eq_true rfl)) (Nat.le_of_ble_eq_true rfl) ?_
    refine step 1 s1 _ _ _ (Nat.le_of_ble_eq_true rfl) rfl (Nat.le_trans p1 (Nat.le_of_ble_eq_true rfl)) (Nat.le_of_ble_eq_true rfl) ?_
    refine step 0 s0 _ _ _ (Nat.le_of_ble_eq_true rfl) rfl (Nat.le_trans p2 (Nat.le_of_ble_eq_true rfl)) (Nat.le_of_ble_eq_true rfl) ?_
    exact fin
  · intro i p q r L hi hp hq hL h
    have hi' : ((i : Int)).toNat = i := Int.toNat_natCast i
    refine Gi_loc (n := 4) rfl (Int.natCast_nonneg _) (by rw [hi']; exact hp) ?_ (cast_lt hi (by decide))
    refine k_ahead C hq ?_
    refine Gm_append (n := 5) rfl ?_
    refine Bi_mul (mul_ok (Int.lt_of_lt_of_le (by decide) (Int.natCast_nonneg _)) (cast_lt hi (by decide))) ?_
    refine W_ListF C ?_
    refine Gi_loc (n := 4) rfl (Int.natCast_nonneg _) (by rw [hi']; exact hp) ?_ (cast_lt hi (by decide))
    exact KCa_append (n := 5) rfl (Nat.le_trans hL (Nat.le_of_ble_eq_true rfl)) ⟨trivial, h⟩
theorem k_lawB (C : CxK (mkC b)) (hcd : CodeHd b.hb 792 790) {R : Fl → Vars → St → Prop} (h : ∀ ρ σ ps, σ[0]? = some (.tab 790 ps) → R (.ret (.bool true)) ρ σ)
    {l : Env0} {nz : List Int} {sv : V} {o2 : SO} (hl : EnvB l 6) (hz : l.length ≤ 10) (hlen : nz.length ≤ 64) :
    ((wp (mkC b) 40 58) lawSc).Ss (lawB.drop 2) [(S "script", sv), (S "bag", .loc 1), (S "values", .loc 3)] [.tab 790 #[], bagO nz 3, o2, .dictS l] R := by
  refine W_List C ?_
  refine k_statement C (n := 1) ⟨rfl, hlen⟩ (Nat.le_of_ble_eq_true rfl) fun s0 k0 h0 e0 => ?_
  refine k_statement C (n := 1) ⟨rfl, hlen⟩ (Nat.le_trans e0 (Nat.le_of_ble_eq_true rfl)) fun s1 k1 h1 e1 => ?_
  have e1' : k1 ≤ 27 := Nat.le_trans e1 (Nat.add_le_add_right e0 12)
  refine Gm_append (n := 4) rfl ?_
  refine k_let C (n := 1) ⟨rfl, hlen⟩ (Nat.le_trans e1' (Nat.le_of_ble_eq_true rfl)) fun x2 e2 hx2 he2 => ?_
  refine KCa_append (n := 4) rfl (Nat.le_of_ble_eq_true rfl) ?_
  refine k_test C (n := 1) ⟨rfl, hlen⟩ (leS e1' 4 (Nat.le_of_ble_eq_true rfl)) fun due hdue => ?_
  exact k_lawB' C hcd h h0 h1 (s2 := .set x2 e2) ⟨hx2, he2⟩ hdue hl hz
theorem Ev_script (C : CxK (mkC b)) {sc : Sc} {d : Nat} {ρ : Vars} {σ : St} {Q : Post} {x : Str} {p0 p pos : Pos} {hi : Expr} {ad : Addr} {xs : List Value} {ns : List Int} {k : Nat} (hL : b.hb.IsList ad xs.toArray) (hI : IntsAre xs ns) (hlen : ns.length ≤ 9000)
    (h : ((wp (mkC b) d 20) sc).E (.Name x p0) ρ σ fun v σ₁ => v = .raw (.ref ad) ∧ ((wp (mkC b) d 20) sc).E hi ρ σ₁ fun u σ₃ => u = .int (k : Nat) ∧ Q (.lst ((ns.take k).map .int)) σ₃) : Ev (mkC b) sc d (.Subscript (.Name x p0) (.Slice none (some hi) none p) pos) ρ σ Q :=
  ⟨EV_SliceScript hL hI hlen (((wp_ok C 20).E h).mono fun v σ₁ q => ⟨q.1, ((wp_ok C 20).E q.2).mono fun u σ₃ q => ⟨k, q.1, rfl, q.2⟩⟩) fun _ _ => rfl⟩
theorem k_lawA (C : CxK (mkC b)) (hcd : CodeHd b.hb 792 790) {ad : Addr} {xs : List Value} {ns : List Int} {R : Fl → Vars → St → Prop} (hL : b.hb.IsList ad xs.toArray) (hI : IntsAre xs ns) (hlen : ns.length ≤ 63)
    (h : ∀ ρ σ ps, σ[0]? = some (.tab 790 ps) → R (.ret (.bool true)) ρ σ) : ((wp (mkC b) 40 60) lawSc).Ss lawB [(S "script", ref ad)] [.tab 790 #[]] R := by
  refine W_List C ?_
  refine Ev_script C (k := 34) hL hI (Nat.le_trans hlen (Nat.le_of_ble_eq_true rfl)) ⟨rfl, rfl, ?_⟩
  have hlen' : (ns.take 34).length ≤ 64 := Nat.le_trans (List.length_take_le _ _) (Nat.le_of_ble_eq_true rfl)
  generalize ns.take 34 = nz at *
  refine Iv_str (by decide +kernel) ⟨trivial, ?_⟩
  refine drawn C (n := 1) (k := 0) (m := 7) rfl hlen' (Nat.le_of_ble_eq_true rfl) (by decide) fun r1 hr1 => ⟨rfl, Nat.le_of_ble_eq_true rfl, trivial, ?_⟩
  refine drawn C (n := 1) (k := 1) (m := 7) rfl hlen' (Nat.le_of_ble_eq_true rfl) (by decide) fun r2 hr2 => ⟨rfl, Nat.le_of_ble_eq_true rfl, trivial, ?_⟩
  refine drawn C (n := 1) (k := 2) (m := 7) rfl hlen' (Nat.le_of_ble_eq_true rfl) (by decide) fun r3 hr3 => ⟨rfl, Nat.le_of_ble_eq_true rfl, trivial, rfl, ?_⟩
  refine Ca_dictP (es := [(S "A", .int r1), (S "B", .int r2), (S "C", .int r3)]) (.inr ⟨_, rfl, .inl rfl⟩) (Nat.le_of_ble_eq_true rfl) ?_
  refine k_lawB C hcd h (l := [(S "A", .int r1), (S "B", .int r2), (S "C", .int r3)]) ?_ (Nat.le_of_ble_eq_true rfl) hlen'
  have le : ∀ {r : Nat}, r < 7 → -((6 : Nat) : Int) ≤ (r : Int) ∧ (r : Int) ≤ (6 : Nat) := fun h => ⟨Int.le_trans (by decide) (Int.natCast_nonneg _), Int.ofNat_le.mpr (Nat.le_of_lt_succ h)⟩
  intro x hx
  rcases mem3 hx with rfl | rfl | rfl
  · exact ⟨rfl, le hr1⟩
  · exact ⟨rfl, le hr2⟩
  · exact ⟨rfl, le hr3⟩
end
end Mine
end
section
open PySem PySem.W PySem.Calls PyProof.Rows
set_option maxRecDepth 100000
set_option maxHeartbeats 4000000
namespace Mine
theorem low_of {w : World} {hb : Heap} (X : (hK w.params).In hb) : ∃ o, hb.get? 2 = some o := ⟨_, X 2 (o2 w.params) (by kernel_rfl)⟩
end Mine
open Mine in
theorem PySem.Challenge.cw_xm0046_01_holds : PySem.Challenge.rw_xm0046_01.Holds := by
  apply hd
  k_go0
  rename_i hL ra w1 r0 hI hr hcond hcond' hD h₁ tk o1 o2 left right X0 X T K F N l0
  have low := low_of X
  have CK := fun os : OsState => CxK.of (b := ⟨_, _, #[], os, low⟩) (CxOk.of X T (gl_ok _) gl_names)
  refine law_enter (c := mkC ⟨_, _, #[], _, low⟩) (d := 40) (x := S "script") (P := 790) F N X0 rfl l0 (by decide) (by assumption) rfl rfl room_caller rfl rfl ((wp_ok (CK _) 60).Ss (k_lawA (CK _) codeHd lifted hI (by omega) fun ρ σ ps e => ⟨rfl, ps, e⟩)) ?_
  · rintro s' keep gens os ⟨ps, tb⟩
    refine ⟨⟨.inl ⟨.bool true, .bool true, [], rfl, ?_, .bool true, ?_, fun _ => ⟨.nil, fun a m => by cases m⟩⟩, keep, os, gens⟩, ⟨ps, tb⟩, trivial⟩
    · refine raisesW_false ?_
      wrow_none_raised
    · kc_post
end
