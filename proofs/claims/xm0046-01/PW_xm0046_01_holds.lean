import PyProof.Rows.All
import Wide.All
import OpenK.AllK
import Wide.FinOn
import KE.KLam
import KE.KTurns
import KE.KRevIter
import PyProof.StrWalks
import KE.KRevSl
import PyProof.NoPylong
import PyProof.IsiHeapPairs
import PyProof.AttrMissHeap
import KE.KDictOf
import PyProof.SetNew
import PyProof.SetRoads
import Lean
import PySem.Challenge.RW_xm0046_01
set_option Elab.async false
section
open PySem PySem.W PySem.Calls PyProof.Rows
set_option Elab.async false
namespace Mine

/-- values: tuples are trees, what can be changed lies in the store -/
inductive V where
  | none | bool (b : Bool) | int (i : Int) | str (x : Str) | tup (l : List V) | lst (l : List V) | loc (n : Nat) | raw (v : Value)

inductive SO where
  | list (l : List V)
  | fz (xs : List Value) (n : Nat) (l : List V)
  | dictS (es : List (Str × V))
  | dictI (es : List (Int × V))
  | attrs (es : List (Str × V))
  | inst (C : Addr) (d : Nat)
  | fn (P : FuncData → Prop)
  | tab (P : Addr) (ps : Array Value)

abbrev St := List SO

/-- an exact tuple -/
def IsT (h : Heap) (a : Addr) (items : Array Value) : Prop := ∃ n, h.get? a = some { cls := .type "tuple", dict := none, data := .seq items n, slots := #[] }
theorem IsT.isTup {h : Heap} {a : Addr} {items : Array Value} (x : IsT h a items) : IsTup h a items := let ⟨n, e⟩ := x; ⟨_, e, rfl, n, rfl⟩

mutual
inductive RepV (h : Heap) (θ : List Addr) : V → Value → Prop
  | none : RepV h θ .none .none
  | bool (b : Bool) : RepV h θ (.bool b) (.bool b)
  | int (i : Int) (t : Tok) : RepV h θ (.int i) (.int i t)
  | str (x : Str) (t : Tok) : RepV h θ (.str x) (.str x t)
  | raw (v : Value) : RepV h θ (.raw v) v
  | loc (n : Nat) (a : Addr) : θ[n]? = some a → RepV h θ (.loc n) (.ref a)
  | tup (l : List V) (a : Addr) (xs : List Value) : IsT h a xs.toArray → RepVs h θ l xs → RepV h θ (.tup l) (.ref a)
  | lst (l : List V) (a : Addr) (xs : List Value) (n : Nat) : a ∉ θ → IsL h a xs.toArray n → RepVs h θ l xs → RepV h θ (.lst l) (.ref a)
inductive RepVs (h : Heap) (θ : List Addr) : List V → List Value → Prop
  | nil : RepVs h θ [] []
  | cons {v : V} {x : Value} {l : List V} {xs : List Value} : RepV h θ v x → RepVs h θ l xs → RepVs h θ (v :: l) (x :: xs)
end

inductive RepKs {K : Type} (h : Heap) (θ : List Addr) : List (K × V) → List (K × Value) → Prop
  | nil : RepKs h θ [] []
  | cons {k : K} {v : V} {x : Value} {l : List (K × V)} {xs : List (K × Value)} : RepV h θ v x → RepKs h θ l xs → RepKs h θ ((k, v) :: l) ((k, x) :: xs)

def get {α : Type} : List (Str × α) → Str → Option α
  | [], _ => none
  | (y, v) :: r, x => if y = x then some v else get r x

def put {α : Type} : List (Str × α) → Str → α → List (Str × α)
  | [], x, v => [(x, v)]
  | (y, u) :: r, x, v => if y = x then (x, v) :: r else (y, u) :: put r x v

theorem get_put {α : Type} (l : List (Str × α)) (x : Str) (v : α) (y : Str) : get (put l x v) y = if x = y then some v else get l y := by
  induction l with
  | nil => rfl
  | cons p r ih =>
    obtain ⟨z, u⟩ := p
    unfold put
    by_cases h : z = x
    · subst h; rw [if_pos rfl]; unfold get; split <;> rfl
    · rw [if_neg h]; unfold get; rw [ih]
      by_cases hz : z = y
      · subst hz; rw [if_pos rfl, if_pos rfl, if_neg (fun e => h e.symm)]
      · rw [if_neg hz, if_neg hz]

/-- an instance's own dict -/
inductive RepAs (h : Heap) (θ : List Addr) : List (Str × V) → List DictEntry → Prop
  | nil : RepAs h θ [] []
  | cons {x : Str} {t : Tok} {v : V} {e : DictEntry} {l : List (Str × V)} {es : List DictEntry} : e.key = .str x t → RepV h θ v e.val → RepAs h θ l es → RepAs h θ ((x, v) :: l) (e :: es)

section
variable (prog : Program) (w : World)

def RepO (h : Heap) (θ : List Addr) (a : Addr) : SO → Prop
  | .list l => ∃ (xs : List Value) (n : Nat), IsL h a xs.toArray n ∧ RepVs h θ l xs
  | .fz xs n l => IsL h a xs.toArray n ∧ RepVs h θ l xs
  | .dictS es => ∃ kvs, h.DictOf (strKind prog w) a kvs ∧ RepKs h θ es kvs
  | .dictI es => ∃ kvs, h.DictOf (intKind prog w) a kvs ∧ RepKs h θ es kvs
  | .attrs l => ∃ (es : List DictEntry) (n : Nat), h.get? a = some (dictOf es n) ∧ RepAs h θ l es
  | .inst C d => ∃ dx, θ[d]? = some dx ∧ h.get? a = some (instObj C dx)
  | .tab P ps => a = P ∧ h.get? a = some (tabObj ps) ∧ ∀ x t, ps[1]? ≠ some (.str x t)
  | .fn P => ∃ fd, P fd ∧ h.get? a = some { cls := .type "function", data := .func fd } ∧ h.CodeRec fd.code fd.qualname

structure RepS (h : Heap) (θ : List Addr) (σ : St) : Prop where
  len : θ.length = σ.length
  obj : ∀ (i : Nat) (o : SO) (a : Addr), σ[i]? = some o → θ[i]? = some a → RepO prog w h θ a o
end

def TupOut (h : Heap) (θ : List Addr) : Prop := ∀ a ∈ θ, ∀ items, ¬ IsT h a items

structure Grow (h : Heap) (θ : List Addr) (h' : Heap) (θ' : List Addr) : Prop where
  pre : ∃ t, θ' = θ ++ t
  fresh : ∀ a ∈ θ', a ∉ θ → h.get? a = none
  kept : ∀ b o, h.get? b = some o → b ∉ θ → h'.get? b = some o

theorem Grow.refl (h : Heap) (θ : List Addr) : Grow h θ h θ := ⟨⟨[], (List.append_nil _).symm⟩, fun _ m n => (n m).elim, fun _ _ e _ => e⟩
theorem Grow.mem {h h' : Heap} {θ θ' : List Addr} (g : Grow h θ h' θ') {a : Addr} (m : a ∈ θ) : a ∈ θ' := by
  obtain ⟨t, rfl⟩ := g.pre; exact List.mem_append.mpr (.inl m)
theorem Grow.notMem {h h' : Heap} {θ θ' : List Addr} (g : Grow h θ h' θ') {b : Addr} {o : Obj} (e : h.get? b = some o) (n : b ∉ θ) : b ∉ θ' := fun m => by
  have := g.fresh b m n; rw [e] at this; cases this
theorem Grow.trans {h₁ h₂ h₃ : Heap} {θ₁ θ₂ θ₃ : List Addr} (a : Grow h₁ θ₁ h₂ θ₂) (b : Grow h₂ θ₂ h₃ θ₃) : Grow h₁ θ₁ h₃ θ₃ := by
  refine ⟨?_, fun x m n => ?_, fun x o e n => b.kept x o (a.kept x o e n) (a.notMem e n)⟩
  · obtain ⟨t, rfl⟩ := a.pre
    obtain ⟨u, rfl⟩ := b.pre
    exact ⟨t ++ u, List.append_assoc ..⟩
  · by_cases h2 : x ∈ θ₂
    · exact a.fresh x h2 n
    · cases e : h₁.get? x with
      | none => rfl
      | some o =>
        have := b.fresh x m h2
        rw [a.kept x o e n] at this; cases this
theorem Grow.at {h h' : Heap} {θ θ' : List Addr} (g : Grow h θ h' θ') {n : Nat} {a : Addr} (e : θ[n]? = some a) : θ'[n]? = some a := by
  obtain ⟨t, rfl⟩ := g.pre
  rw [List.getElem?_append_left (List.getElem?_eq_some_iff.mp e).1]; exact e

mutual
theorem RepV.grow {h h' : Heap} {θ θ' : List Addr} (T : TupOut h θ) (g : Grow h θ h' θ') : ∀ {v : V} {x : Value}, RepV h θ v x → RepV h' θ' v x
  | _, _, .none => .none
  | _, _, .bool b => .bool b
  | _, _, .int i t => .int i t
  | _, _, .str x t => .str x t
  | _, _, .raw v => .raw v
  | _, _, .loc n a e => .loc n a (g.at e)
  | _, _, .tup l a xs ht hs => .tup l a xs (let ⟨n, ho⟩ := ht; ⟨n, g.kept a _ ho (fun m => T a m _ ht)⟩) (RepVs.grow T g hs)
  | _, _, .lst l a xs n nm hl hs => .lst l a xs n (g.notMem hl nm) (g.kept a _ hl nm) (RepVs.grow T g hs)
theorem RepVs.grow {h h' : Heap} {θ θ' : List Addr} (T : TupOut h θ) (g : Grow h θ h' θ') : ∀ {l : List V} {xs : List Value}, RepVs h θ l xs → RepVs h' θ' l xs
  | _, _, .nil => .nil
  | _, _, .cons a b => .cons (RepV.grow T g a) (RepVs.grow T g b)
end
theorem RepKs.grow {K : Type} {h h' : Heap} {θ θ' : List Addr} (T : TupOut h θ) (g : Grow h θ h' θ') {l : List (K × V)} {xs : List (K × Value)} (r : RepKs h θ l xs) : RepKs h' θ' l xs := by
  induction r with
  | nil => exact .nil
  | cons a _ ih => exact .cons (a.grow T g) ih
theorem RepAs.grow {h h' : Heap} {θ θ' : List Addr} (T : TupOut h θ) (g : Grow h θ h' θ') {l : List (Str × V)} {xs : List DictEntry} (r : RepAs h θ l xs) : RepAs h' θ' l xs := by
  induction r with
  | nil => exact .nil
  | cons e a _ ih => exact .cons e (a.grow T g) ih
theorem RepAs.length {h : Heap} {θ : List Addr} {l : List (Str × V)} {xs : List DictEntry} (r : RepAs h θ l xs) : l.length = xs.length := by
  induction r with
  | nil => rfl
  | cons _ _ _ ih => exact congrArg Nat.succ ih
theorem RepAs.refKey {h : Heap} {θ : List Addr} {l : List (Str × V)} {xs : List DictEntry} (r : RepAs h θ l xs) : xs.any (·.refKey) = false := by
  induction r with
  | nil => rfl
  | cons e a _ ih => rw [List.any_cons, ih]; unfold DictEntry.refKey; rw [e]; rfl
theorem isStr_eq (x y : Str) (t : Tok) : (Value.str x t).isStr y = decide (x = y) := by
  show (x == y) = _
  by_cases h : x = y
  · subst h; simp
  · simp [h]
theorem RepAs.find {h : Heap} {θ : List Addr} {l : List (Str × V)} {xs : List DictEntry} (r : RepAs h θ l xs) (x : Str) :
    match get l x with | some v => ∃ v', getL x xs = some (some v') ∧ RepV h θ v v' | none => getL x xs = some none := by
  have key : match get l x with | some v => ∃ e, xs.find? (·.key.isStr x) = some e ∧ RepV h θ v e.val | none => xs.find? (·.key.isStr x) = none := by
    induction r with
    | nil => rfl
    | @cons y t v e l es hk a _ ih =>
      unfold get
      rw [List.find?_cons, hk, isStr_eq]
      by_cases hy : y = x
      · rw [if_pos hy, decide_eq_true hy]; exact ⟨e, rfl, a⟩
      · rw [if_neg hy, decide_eq_false hy]; exact ih
  unfold getL
  split at key
  · obtain ⟨e, h1, h2⟩ := key; rw [h1]; exact ⟨_, rfl, h2⟩
  · rw [key, r.refKey]; rfl
theorem RepAs.put {h : Heap} {θ : List Addr} {l : List (Str × V)} {xs : List DictEntry} (r : RepAs h θ l xs) {x : Str} {t : Tok} {hsh : Int} {v : V} {v' : Value} (rv : RepV h θ v v') :
    RepAs h θ (put l x v) (putL x hsh (.str x t) v' xs) := by
  induction r with
  | nil => exact .cons rfl rv .nil
  | @cons y t' u e l es hk a b ih =>
    unfold Mine.put putL
    rw [hk, isStr_eq]
    by_cases hy : y = x
    · subst hy; rw [if_pos rfl, decide_eq_true rfl, if_pos rfl]; exact .cons rfl rv b
    · rw [if_neg hy, decide_eq_false hy, if_neg Bool.false_ne_true]; exact .cons hk a ih

theorem RepVs.length {h : Heap} {θ : List Addr} : ∀ {l : List V} {xs : List Value}, RepVs h θ l xs → l.length = xs.length
  | _, _, .nil => rfl
  | _, _, .cons _ b => congrArg Nat.succ b.length
theorem RepVs.at {h : Heap} {θ : List Addr} : ∀ {l : List V} {xs : List Value}, RepVs h θ l xs → ∀ {i : Nat} {v : V}, l[i]? = some v → ∃ x, xs[i]? = some x ∧ RepV h θ v x
  | _, _, .cons a _, 0, _, e => by cases e; exact ⟨_, rfl, a⟩
  | _, _, .cons _ b, i + 1, v, e => b.at (i := i) (by simpa using e)
theorem RepVs.append {h : Heap} {θ : List Addr} : ∀ {l : List V} {xs : List Value}, RepVs h θ l xs → ∀ {l' : List V} {xs' : List Value}, RepVs h θ l' xs' → RepVs h θ (l ++ l') (xs ++ xs')
  | _, _, .nil, _, _, r => r
  | _, _, .cons a b, _, _, r => .cons a (b.append r)
theorem RepVs.take {h : Heap} {θ : List Addr} : ∀ {l : List V} {xs : List Value}, RepVs h θ l xs → ∀ n : Nat, RepVs h θ (l.take n) (xs.take n)
  | _, _, .nil, _ => by simpa using RepVs.nil
  | _, _, .cons _ _, 0 => .nil
  | _, _, .cons a b, n + 1 => .cons a (b.take n)
theorem RepVs.drop {h : Heap} {θ : List Addr} : ∀ {l : List V} {xs : List Value}, RepVs h θ l xs → ∀ n : Nat, RepVs h θ (l.drop n) (xs.drop n)
  | _, _, .nil, _ => by simpa using RepVs.nil
  | _, _, .cons a b, 0 => .cons a b
  | _, _, .cons _ b, n + 1 => b.drop n
theorem RepVs.reverse {h : Heap} {θ : List Addr} : ∀ {l : List V} {xs : List Value}, RepVs h θ l xs → RepVs h θ l.reverse xs.reverse
  | _, _, .nil => .nil
  | _, _, .cons a b => by rw [List.reverse_cons, List.reverse_cons]; exact b.reverse.append (.cons a .nil)
theorem RepVs.set {h : Heap} {θ : List Addr} : ∀ {l : List V} {xs : List Value}, RepVs h θ l xs → ∀ (i : Nat) {v : V} {x : Value}, RepV h θ v x → RepVs h θ (l.set i v) (xs.set i x)
  | _, _, .nil, _, _, _, _ => .nil
  | _, _, .cons _ b, 0, _, _, r => .cons r b
  | _, _, .cons a b, i + 1, _, _, r => .cons a (b.set i r)

section
variable {prog : Program} {w : World} {h h' : Heap} {θ θ' : List Addr} {σ : St}

theorem RepO.notTup {a : Addr} {o : SO} (r : RepO prog w h θ a o) (items : Array Value) : ¬ IsT h a items := by
  rintro ⟨n, e⟩
  cases o with
  | list l => obtain ⟨xs, n', e', _⟩ := r; have := Option.some.inj (e.symm.trans e'); injection this with h1; exact absurd h1 (by decide)
  | fz xs n l => obtain ⟨e', _⟩ := r; have := Option.some.inj (e.symm.trans e'); injection this with h1; exact absurd h1 (by decide)
  | dictS es => obtain ⟨xs, ⟨o', _, _, e', _, hd', _⟩, _⟩ := r; rw [e] at e'; cases e'; cases hd'
  | dictI es => obtain ⟨xs, ⟨o', _, _, e', _, hd', _⟩, _⟩ := r; rw [e] at e'; cases e'; cases hd'
  | attrs es => obtain ⟨xs, n', e', _⟩ := r; have := Option.some.inj (e.symm.trans e'); injection this with h1 h2 h3; cases h3
  | inst C d => obtain ⟨dx, _, e'⟩ := r; have := Option.some.inj (e.symm.trans e'); injection this with h1 h2 h3; cases h3
  | fn P => obtain ⟨fd, _, e', _⟩ := r; have := Option.some.inj (e.symm.trans e'); injection this with h1 h2 h3; cases h3
  | tab P ps => obtain ⟨_, e', _⟩ := r; have := Option.some.inj (e.symm.trans e'); injection this with h1 h2 h3; cases h3
theorem RepS.tupOut (r : RepS prog w h θ σ) : TupOut h θ := fun a m items => by
  obtain ⟨i, hi, rfl⟩ := List.mem_iff_getElem.mp m
  have hi' : i < σ.length := r.len ▸ hi
  exact (r.obj i σ[i] θ[i] (List.getElem?_eq_getElem hi') (List.getElem?_eq_getElem hi)).notTup items
theorem RepS.exists (r : RepS prog w h θ σ) {a : Addr} (m : a ∈ θ) : ∃ o, h.get? a = some o := by
  obtain ⟨i, hi, rfl⟩ := List.mem_iff_getElem.mp m
  have hi' : i < σ.length := r.len ▸ hi
  have q := r.obj i σ[i] θ[i] (List.getElem?_eq_getElem hi') (List.getElem?_eq_getElem hi)
  revert q
  cases σ[i] with
  | list l => rintro ⟨xs, n, e', _⟩; exact ⟨_, e'⟩
  | fz xs n l => rintro ⟨e', _⟩; exact ⟨_, e'⟩
  | dictS es => rintro ⟨xs, ⟨o', _, _, e', _⟩, _⟩; exact ⟨_, e'⟩
  | dictI es => rintro ⟨xs, ⟨o', _, _, e', _⟩, _⟩; exact ⟨_, e'⟩
  | attrs es => rintro ⟨xs, n, e', _⟩; exact ⟨_, e'⟩
  | inst C d => rintro ⟨dx, _, e'⟩; exact ⟨_, e'⟩
  | fn P => rintro ⟨fd, _, e', _⟩; exact ⟨_, e'⟩
  | tab P ps => rintro ⟨_, e', _⟩; exact ⟨_, e'⟩

/-- an object of the store at a place that stands as it stood -/
theorem RepO.moved {a : Addr} {o : SO} (T : TupOut h θ) (g : Grow h θ h' θ') (same : ∀ ob, h.get? a = some ob → h'.get? a = some ob)
    (code : ∀ b ob, h.get? b = some ob → b ∉ θ → h'.get? b = some ob) (out : ∀ a' ∈ θ, ∀ vs ob, h.get? a' = some ob → ob.data = .fields vs → ∀ x t, vs[1]? ≠ some (.str x t)) (r : RepO prog w h θ a o) : RepO prog w h' θ' a o := by
  cases o with
  | list l => obtain ⟨xs, n, e', q⟩ := r; exact ⟨xs, n, same _ e', q.grow T g⟩
  | fz xs n l => obtain ⟨e', q⟩ := r; exact ⟨same _ e', q.grow T g⟩
  | dictS es => obtain ⟨xs, ⟨o', x, y, e', z⟩, q⟩ := r; exact ⟨xs, ⟨o', x, y, same _ e', z⟩, q.grow T g⟩
  | dictI es => obtain ⟨xs, ⟨o', x, y, e', z⟩, q⟩ := r; exact ⟨xs, ⟨o', x, y, same _ e', z⟩, q.grow T g⟩
  | attrs es => obtain ⟨xs, n, e', q⟩ := r; exact ⟨xs, n, same _ e', q.grow T g⟩
  | inst C d => obtain ⟨dx, q, e'⟩ := r; exact ⟨dx, g.at q, same _ e'⟩
  | tab P ps => obtain ⟨q, e', z⟩ := r; exact ⟨q, same _ e', z⟩
  | fn P =>
    obtain ⟨fd, p, e', ⟨c, oc, vs, t, e1, e2, e3, e4⟩⟩ := r
    exact ⟨fd, p, same _ e', ⟨c, oc, vs, t, e1, code _ _ e2 (fun m => out c m _ _ e2 e3 _ _ e4), e3, e4⟩⟩
theorem RepS.noFields (r : RepS prog w h θ σ) : ∀ a' ∈ θ, ∀ vs ob, h.get? a' = some ob → ob.data = .fields vs → ∀ x t, vs[1]? ≠ some (.str x t) := fun a m vs ob e hd x t => by
  obtain ⟨i, hi, rfl⟩ := List.mem_iff_getElem.mp m
  have hi' : i < σ.length := r.len ▸ hi
  have q := r.obj i σ[i] θ[i] (List.getElem?_eq_getElem hi') (List.getElem?_eq_getElem hi)
  revert q
  cases σ[i] with
  | list l => rintro ⟨xs, n, e', _⟩; have := Option.some.inj (e.symm.trans e'); subst this; cases hd
  | fz xs n l => rintro ⟨e', _⟩; have := Option.some.inj (e.symm.trans e'); subst this; cases hd
  | dictS es => rintro ⟨xs, ⟨o', _, _, e', _, hd', _⟩, _⟩; rw [e] at e'; cases e'; rw [hd] at hd'; cases hd'
  | dictI es => rintro ⟨xs, ⟨o', _, _, e', _, hd', _⟩, _⟩; rw [e] at e'; cases e'; rw [hd] at hd'; cases hd'
  | attrs es => rintro ⟨xs, n, e', _⟩; have := Option.some.inj (e.symm.trans e'); subst this; cases hd
  | inst C d => rintro ⟨dx, _, e'⟩; rw [e] at e'; cases e'; cases hd
  | fn P => rintro ⟨fd, _, e', _⟩; rw [e] at e'; cases e'; cases hd
  | tab P ps => rintro ⟨_, e', z⟩; rw [e] at e'; cases e'; cases hd; exact z x t
end
end Mine
end
section
open PySem PySem.W PySem.Calls PyProof.Rows
set_option Elab.async false
namespace Mine

structure Cx where
  prog : Program
  w : World
  hb : Heap
  K : Frag
  gl : List (Str × V)
  gens : Array GenState
  os : OsState
  low : ∃ o, hb.get? 2 = some o

structure CxOk (c : Cx) : Prop where
  K : c.K.In c.hb
  nolimit : c.hb.NoLimit
  names : ∃ mg mb, c.hb.Ns mainGlobals mg ∧ c.hb.Ns builtinsNs mb ∧
    ∀ x v, get c.gl x = some v → ∃ v', RepV c.hb [] v v' ∧ (mg x = some v' ∨ (mg x = none ∧ mb x = some v'))
  bmain : ∃ mg bm o, c.hb.Ns mainGlobals mg ∧ mg "__builtins__" = some (.ref bm) ∧ bm ≠ builtinsNs ∧ bm ≠ mainGlobals ∧ c.hb.get? bm = some o ∧ o.cls = .type "module" ∧ o.dict = some builtinsNs ∧ o.data = .plain

structure Inv (c : Cx) (s : Shared) (θ : List Addr) (σ : St) : Prop where
  keep : ∀ b o, c.hb.get? b = some o → s.heap.get? b = some o
  apart : ∀ a ∈ θ, c.hb.get? a = none ∧ 2 < a
  nodup : θ.Nodup
  rep : RepS c.prog c.w s.heap θ σ
  gens : s.gens = c.gens
  os : s.os = c.os

structure Sc where
  scope : Scope
  code : Value

structure EnvIs (sc : Sc) (env : Env) : Prop where
  scope : env.scope = sc.scope
  globals : env.globals = mainGlobals
  builtins : env.builtins = builtinsNs
  code : env.code = sc.code
  kind : sc.scope.kind = .function
  cells : ∀ x, sc.scope.names.lookup x = some .cell → (env.cells.lookup x).isSome = true

structure FrA (c : Cx) (h : Heap) (θ : List Addr) (env : Env) (ρ : List (Str × V)) : Prop where
  at_ : ∃ (m cm : Str → Option Value), h.Ns env.locals m ∧ (∀ n k, env.cells.lookup n = some k → h.IsCell k (cm n)) ∧
    ∀ x v, get ρ x = some v → ∃ v', RepV h θ v v' ∧ ((env.kindOf x = some .local ∧ m x = some v') ∨ ((env.kindOf x = some .cell ∨ env.kindOf x = some .free) ∧ (env.cells.lookup x).isSome = true ∧ cm x = some v'))
  lo : env.locals ∉ θ
  lob : c.hb.get? env.locals = none
  cells : ∀ n k, env.cells.lookup n = some k → k ≠ env.locals ∧ k ∉ θ ∧ c.hb.get? k = none
  apart : ∀ n n' k, env.cells.lookup n = some k → env.cells.lookup n' = some k → n = n'

theorem FrA.grow {c : Cx} {h h' : Heap} {θ θ' : List Addr} {env : Env} {ρ : List (Str × V)} (F : FrA c h θ env ρ) (T : TupOut h θ) (g : Grow h θ h' θ') : FrA c h' θ' env ρ := by
  obtain ⟨⟨m, cm, hm, hc, hr⟩, lo, lob, cl, ap⟩ := F
  refine ⟨⟨m, cm, ?_, fun n k e => ?_, fun x v e => ?_⟩, ?_, lob, fun n k e => ?_, ap⟩
  · obtain ⟨o, es, ep, e, r⟩ := hm; exact ⟨o, es, ep, g.kept _ _ e lo, r⟩
  · obtain ⟨o, e', r⟩ := hc n k e; exact ⟨o, g.kept _ _ e' (cl n k e).2.1, r⟩
  · obtain ⟨v', a, b⟩ := hr x v e; exact ⟨v', a.grow T g, b⟩
  · obtain ⟨o, es, ep, e, _⟩ := hm; exact g.notMem e lo
  · obtain ⟨o, e', _⟩ := hc n k e; exact ⟨(cl n k e).1, g.notMem e' (cl n k e).2.1, (cl n k e).2.2⟩

structure Room (A : Around) (d : Nat) : Prop where
  depth : A.depth + 2 * d + 5 < recursionLimit
  units : A.units + 8 * d + 40 < cLine
  handled : A.handled = none

theorem Room.mono {A : Around} {d d' : Nat} (r : Room A d) (h : d' ≤ d) : Room A d' := ⟨by have := r.depth; omega, by have := r.units; omega, r.handled⟩

abbrev Post := V → St → Prop

def OkV (c : Cx) (s : Shared) (θ : List Addr) (Q : Post) : Value → Shared → Prop := fun v' s' => ∃ v σ' θ', Inv c s' θ' σ' ∧ Grow s.heap θ s'.heap θ' ∧ RepV s'.heap θ' v v' ∧ Q v σ'
abbrev NoE : Value → Shared → Prop := fun _ _ => False

def EV (c : Cx) (sc : Sc) (d : Nat) (e : Expr) (ρ : List (Str × V)) (σ : St) (Q : Post) : Prop :=
  ∀ A env s θ, Room A d → EnvIs sc env → Inv c s θ σ → FrA c s.heap θ env ρ → wpAny (model c.prog c.w) A (eval e env) (OkV c s θ Q) NoE s

def OkVs (c : Cx) (s : Shared) (θ : List Addr) (Q : List V → St → Prop) : List Value → Shared → Prop := fun v' s' => ∃ v σ' θ', Inv c s' θ' σ' ∧ Grow s.heap θ s'.heap θ' ∧ RepVs s'.heap θ' v v' ∧ Q v σ'

/-- arguments, one by one -/
def EVs (c : Cx) (sc : Sc) (d : Nat) (es : List Expr) (ρ : List (Str × V)) (σ : St) (Q : List V → St → Prop) : Prop :=
  ∀ A env pos s θ, Room A d → EnvIs sc env → Inv c s θ σ → FrA c s.heap θ env ρ → wpAny (model c.prog c.w) A (spliced (backTo pos (starEach es env))) (OkVs c s θ Q) NoE s

def OkB (c : Cx) (s : Shared) (θ : List Addr) (Q : Bool → St → Prop) : Bool → Shared → Prop := fun b s' => ∃ σ' θ', Inv c s' θ' σ' ∧ Grow s.heap θ s'.heap θ' ∧ Q b σ'

def ET (c : Cx) (sc : Sc) (d : Nat) (e : Expr) (ρ : List (Str × V)) (σ : St) (Q : Bool → St → Prop) : Prop :=
  ∀ A env s θ, Room A d → EnvIs sc env → Inv c s θ σ → FrA c s.heap θ env ρ → wpAny (model c.prog c.w) A (isTrue e env (eval e env)) (OkB c s θ Q) NoE s

def CALL (c : Cx) (d : Nat) (f : V) (vs : List V) (σ : St) (Q : Post) : Prop :=
  ∀ A s θ f' vs', Room A d → Inv c s θ σ → RepV s.heap θ f f' → RepVs s.heap θ vs vs' → wpAny (model c.prog c.w) A (call f' vs' []) (OkV c s θ Q) NoE s

def BIN (c : Cx) (d : Nat) (op : Operator) (a b : V) (σ : St) (Q : Post) : Prop :=
  ∀ A s θ a' b', Room A d → Inv c s θ σ → RepV s.heap θ a a' → RepV s.heap θ b b' → wpAny (model c.prog c.w) A (binaryOp op a' b') (OkV c s θ Q) NoE s

def CMP (c : Cx) (d : Nat) (op : CmpOp) (a b : V) (σ : St) (Q : Post) : Prop :=
  ∀ A s θ a' b', Room A d → Inv c s θ σ → RepV s.heap θ a a' → RepV s.heap θ b b' → wpAny (model c.prog c.w) A (compareOp op a' b') (OkV c s θ Q) NoE s

def TRU (c : Cx) (d : Nat) (a : V) (σ : St) (Q : Bool → St → Prop) : Prop :=
  ∀ A s θ a', Room A d → Inv c s θ σ → RepV s.heap θ a a' → wpAny (model c.prog c.w) A (truthy a') (OkB c s θ Q) NoE s

section
variable {c : Cx} {sc : Sc} {d : Nat} {ρ : List (Str × V)} {σ : St} {Q : Post} {A : Around} {env : Env} {s s₁ : Shared} {θ θ₁ : List Addr}

theorem Inv.tupOut (I : Inv c s θ σ) : TupOut s.heap θ := I.rep.tupOut

theorem OkV.trans {v : Value} {s₂ : Shared} (g : Grow s.heap θ s₁.heap θ₁) (h : OkV c s₁ θ₁ Q v s₂) : OkV c s θ Q v s₂ := by
  obtain ⟨v, σ', θ', a, b, r, q⟩ := h; exact ⟨v, σ', θ', a, g.trans b, r, q⟩
theorem OkVs.trans {Q : List V → St → Prop} {v : List Value} {s₂ : Shared} (g : Grow s.heap θ s₁.heap θ₁) (h : OkVs c s₁ θ₁ Q v s₂) : OkVs c s θ Q v s₂ := by
  obtain ⟨v, σ', θ', a, b, r, q⟩ := h; exact ⟨v, σ', θ', a, g.trans b, r, q⟩
theorem OkB.trans {Q : Bool → St → Prop} {v : Bool} {s₂ : Shared} (g : Grow s.heap θ s₁.heap θ₁) (h : OkB c s₁ θ₁ Q v s₂) : OkB c s θ Q v s₂ := by
  obtain ⟨σ', θ', a, b, q⟩ := h; exact ⟨σ', θ', a, g.trans b, q⟩

theorem wpV.trans {t : Sem Value} {M : Model} (g : Grow s.heap θ s₁.heap θ₁) (h : wpAny M A t (OkV c s₁ θ₁ Q) NoE s₁) : wpAny M A t (OkV c s θ Q) NoE s₁ :=
  wpAny_mono h (fun _ _ x => x.trans g) fun _ _ x => x
theorem wpVs.trans {Q : List V → St → Prop} {t : Sem (List Value)} {M : Model} (g : Grow s.heap θ s₁.heap θ₁) (h : wpAny M A t (OkVs c s₁ θ₁ Q) NoE s₁) : wpAny M A t (OkVs c s θ Q) NoE s₁ :=
  wpAny_mono h (fun _ _ x => x.trans g) fun _ _ x => x
theorem wpB.trans {Q : Bool → St → Prop} {t : Sem Bool} {M : Model} (g : Grow s.heap θ s₁.heap θ₁) (h : wpAny M A t (OkB c s₁ θ₁ Q) NoE s₁) : wpAny M A t (OkB c s θ Q) NoE s₁ :=
  wpAny_mono h (fun _ _ x => x.trans g) fun _ _ x => x

/-- nothing of the heap is touched -/
theorem Inv.toks (I : Inv c s θ σ) (t : Nat) : Inv c { s with toks := t } θ σ := ⟨I.keep, I.apart, I.nodup, I.rep, I.gens, I.os⟩
theorem Inv.okV (I : Inv c s θ σ) {v : V} {v' : Value} (r : RepV s.heap θ v v') (q : Q v σ) : OkV c s θ Q v' s := ⟨v, σ, θ, I, Grow.refl _ _, r, q⟩
theorem Inv.okVt (I : Inv c s θ σ) {v : V} {v' : Value} {t : Nat} (r : RepV s.heap θ v v') (q : Q v σ) : OkV c s θ Q v' { s with toks := t } := ⟨v, σ, θ, I.toks t, Grow.refl _ _, r, q⟩
theorem Inv.okB {Q : Bool → St → Prop} (I : Inv c s θ σ) {b : Bool} (q : Q b σ) : OkB c s θ Q b s := ⟨σ, θ, I, Grow.refl _ _, q⟩

/-- a new object that is in no store (a tuple, a frame, an iterator) -/
theorem Grow.push (h : Heap) (θ : List Addr) (o : Obj) : Grow h θ (h.push o) θ := ⟨⟨[], (List.append_nil _).symm⟩, fun _ m n => (n m).elim, fun _ _ e _ => Heap.get?_push_of_some o e⟩

theorem RepS.grow (I : RepS c.prog c.w s.heap θ σ) {h' : Heap} (hk : ∀ b o, s.heap.get? b = some o → h'.get? b = some o) : RepS c.prog c.w h' θ σ := by
  refine ⟨I.len, fun i o a e1 e2 => ?_⟩
  have g : Grow s.heap θ h' θ := ⟨⟨[], (List.append_nil _).symm⟩, fun _ m n => (n m).elim, fun b o e _ => hk b o e⟩
  exact (I.obj i o a e1 e2).moved I.tupOut g (fun ob e => hk _ _ e) (fun b ob e _ => hk _ _ e) I.noFields
theorem Inv.keeps (I : Inv c s θ σ) {h' : Heap} {t : Nat} (hk : ∀ b o, s.heap.get? b = some o → h'.get? b = some o) : Inv c { s with heap := h', toks := t } θ σ :=
  ⟨fun b o e => hk _ _ (I.keep b o e), I.apart, I.nodup, RepS.grow I.rep hk, I.gens, I.os⟩
theorem grow_keeps {h h' : Heap} (hk : ∀ b o, h.get? b = some o → h'.get? b = some o) : Grow h θ h' θ := ⟨⟨[], (List.append_nil _).symm⟩, fun _ m n => (n m).elim, fun b o e _ => hk b o e⟩

theorem EnvIs.kindOf (X : EnvIs sc env) (x : Str) : env.kindOf x = sc.scope.names.lookup x := by unfold Env.kindOf; rw [X.scope]
theorem EnvIs.fn (X : EnvIs sc env) : env.scope.kind = .function := by rw [X.scope]; exact X.kind

theorem EV.mono {e : Expr} {Q' : Post} (h : EV c sc d e ρ σ Q) (hq : ∀ v σ', Q v σ' → Q' v σ') : EV c sc d e ρ σ Q' := fun A env s θ r X I F =>
  wpAny_mono (h A env s θ r X I F) (fun _ _ ⟨v, σ', θ', a, b, x, q⟩ => ⟨v, σ', θ', a, b, x, hq _ _ q⟩) fun _ _ x => x
theorem CALL.mono {f : V} {vs : List V} {Q' : Post} (h : CALL c d f vs σ Q) (hq : ∀ v σ', Q v σ' → Q' v σ') : CALL c d f vs σ Q' := fun A s θ f' vs' r I F V =>
  wpAny_mono (h A s θ f' vs' r I F V) (fun _ _ ⟨v, σ', θ', a, b, x, q⟩ => ⟨v, σ', θ', a, b, x, hq _ _ q⟩) fun _ _ x => x

theorem EV_int {i : Int} {k : Nat} {pos : Pos} (h : Q (.int i) σ) : EV c sc d (.Constant (.int i) k pos) ρ σ Q := fun _ _ _ _ _ _ I _ => wpAny_Constant_int (I.okVt (.int i _) h)
theorem EV_str {x : Str} {k : Nat} {pos : Pos} (h : Q (.str x) σ) : EV c sc d (.Constant (.str x) k pos) ρ σ Q := fun _ _ _ _ _ _ I _ => Constant_str (I.okVt (.str x _) h)
theorem EV_bool {b : Bool} {k : Nat} {pos : Pos} (h : Q (.bool b) σ) : EV c sc d (.Constant (.bool b) k pos) ρ σ Q := fun _ _ _ _ _ _ I _ => wpAny_Constant_bool (I.okV (.bool b) h)
theorem EV_none {k : Nat} {pos : Pos} (h : Q .none σ) : EV c sc d (.Constant .none k pos) ρ σ Q := fun _ _ _ _ _ _ I _ => wpAny_Constant_none (I.okV .none h)

theorem EV_name {x : Str} {pos : Pos} {v : V} (hv : get ρ x = some v) (h : Q v σ) (hd : (x == ("__debug__" : Str)) = false := by decide) (hn : (x == ("__classdict__" : Str)) = false := by decide) : EV c sc d (.Name x pos) ρ σ Q := fun A env s θ r X I F => by
  obtain ⟨m, cm, hm, hc, hr⟩ := F.at_
  obtain ⟨v', a, b⟩ := hr x v hv
  refine wpAny_Name ?_ hd
  rcases b with ⟨b1, b2⟩ | ⟨b1, b2, b3⟩
  · exact wpAny_loadName_local X.fn b1 hm b2 (I.okV a h)
  · obtain ⟨k, hk⟩ := Option.isSome_iff_exists.mp b2
    rcases b1 with b1 | b1
    · exact wpAny_loadName_cell X.fn b1 hk (b3 ▸ hc x k hk) (I.okV a h)
    · exact wpAny_loadName_free X.fn b1 hk (b3 ▸ hc x k hk) (I.okV a h) hn

theorem Inv.fromBase (I : Inv c s θ σ) : Grow c.hb [] s.heap θ := ⟨⟨θ, rfl⟩, fun a m _ => (I.apart a m).1, fun b o e _ => I.keep b o e⟩
theorem Inv.base (I : Inv c s θ σ) {v : V} {v' : Value} (r : RepV c.hb [] v v') : RepV s.heap θ v v' := r.grow (fun _ m => by cases m) I.fromBase

theorem EV_glob (C : CxOk c) {x : Str} {pos : Pos} {v : V} (hk : sc.scope.names.lookup x = some .globalImplicit) (hv : get c.gl x = some v) (h : Q v σ) (hd : (x == ("__debug__" : Str)) = false := by decide) : EV c sc d (.Name x pos) ρ σ Q := fun A env s θ r X I F => by
  obtain ⟨mg, mb, g, b, hn⟩ := C.names
  obtain ⟨v', a, q⟩ := hn x v hv
  refine Name_function_global X.fn (by rw [X.kindOf]; exact hk) ?_ hd
  have g' : s.heap.Ns env.globals mg := by rw [X.globals]; exact g.keeps I.keep
  have b' : s.heap.Ns env.builtins mb := by rw [X.builtins]; exact b.keeps I.keep
  rcases q with q | ⟨q1, q2⟩
  · exact loadGlobal_global g' q (I.okV (I.base a) h)
  · exact loadGlobal_builtin g' q1 b' q2 (I.okV (I.base a) h)

theorem EV_BinOp {l r : Expr} {op : Operator} {pos : Pos} (h : EV c sc d l ρ σ fun a σ₁ => EV c sc d r ρ σ₁ fun b σ₂ => BIN c d op a b σ₂ Q) : EV c sc d (.BinOp l op r pos) ρ σ Q := fun A env s θ R X I F => by
  refine wpAny_BinOp (wpAny_mono (h A env s θ R X I F) (fun a' s₁ h₁ => ?_) fun _ _ x => x)
  obtain ⟨a, σ₁, θ₁, I₁, g₁, ra, q₁⟩ := h₁
  refine wpAny_mono (q₁ A env s₁ θ₁ R X I₁ (F.grow I.tupOut g₁)) (fun b' s₂ h₂ => ?_) fun _ _ x => x
  obtain ⟨b, σ₂, θ₂, I₂, g₂, rb, q₂⟩ := h₂
  exact wpV.trans (g₁.trans g₂) (q₂ A s₂ θ₂ a' b' R I₂ (ra.grow I₁.tupOut g₂) rb)

theorem EV_Compare1 {l r : Expr} {op : CmpOp} {pos : Pos} (h : EV c sc d l ρ σ fun a σ₁ => EV c sc d r ρ σ₁ fun b σ₂ => CMP c d op a b σ₂ Q)
    (hm : behindInMarks op r = false := by with_unfolding_all rfl) : EV c sc d (.Compare l [op] [r] pos) ρ σ Q := fun A env s θ R X I F => by
  refine wpAny_Compare1 (wpAny_mono (h A env s θ R X I F) (fun a' s₁ h₁ => ?_) fun _ _ x => x) hm
  obtain ⟨a, σ₁, θ₁, I₁, g₁, ra, q₁⟩ := h₁
  refine wpAny_mono (q₁ A env s₁ θ₁ R X I₁ (F.grow I.tupOut g₁)) (fun b' s₂ h₂ => ?_) fun _ _ x => x
  obtain ⟨b, σ₂, θ₂, I₂, g₂, rb, q₂⟩ := h₂
  exact wpV.trans (g₁.trans g₂) (q₂ A s₂ θ₂ a' b' R I₂ (ra.grow I₁.tupOut g₂) rb)

theorem EVs_nil {Q : List V → St → Prop} (h : Q [] σ) : EVs c sc d [] ρ σ Q := fun _ _ _ _ _ _ _ I _ => spliced_nil ⟨[], σ, _, I, Grow.refl _ _, .nil, h⟩
theorem EVs_cons {e : Expr} {es : List Expr} {Q : List V → St → Prop} (h : EV c sc d e ρ σ fun v σ₁ => EVs c sc d es ρ σ₁ fun vs σ₂ => Q (v :: vs) σ₂)
    (hs : ∀ env, starEach (e :: es) env = (false, eval e env) :: starEach es env := by intro _; rfl) : EVs c sc d (e :: es) ρ σ Q := fun A env pos s θ R X I F => by
  rw [hs env]
  show wpAny _ _ (spliced ((false, eval e env) :: backTo pos (starEach es env))) _ _ _
  refine spliced_cons (wpAny_mono (h A env s θ R X I F) (fun a' s₁ h₁ => ?_) fun _ _ x => x)
  obtain ⟨a, σ₁, θ₁, I₁, g₁, ra, q₁⟩ := h₁
  refine wpAny_mono (q₁ A env pos s₁ θ₁ R X I₁ (F.grow I.tupOut g₁)) (fun b' s₂ h₂ => ?_) fun _ _ x => x
  obtain ⟨b, σ₂, θ₂, I₂, g₂, rb, q₂⟩ := h₂
  exact ⟨a :: b, σ₂, θ₂, I₂, g₁.trans g₂, .cons (ra.grow I₁.tupOut g₂) rb, q₂⟩
end
end Mine
end
section
open PySem PySem.W PySem.Calls PyProof.Rows
set_option Elab.async false
set_option linter.unusedVariables false
namespace Mine

def own (env : Env) (a : Addr) : Prop := a = env.locals ∨ ∃ n, env.cells.lookup n = some a

structure GrowX (X : Addr → Prop) (h : Heap) (θ : List Addr) (h' : Heap) (θ' : List Addr) : Prop where
  pre : ∃ t, θ' = θ ++ t
  fresh : ∀ a ∈ θ', a ∉ θ → h.get? a = none
  kept : ∀ b o, h.get? b = some o → b ∉ θ → ¬ X b → h'.get? b = some o

theorem Grow.x {X : Addr → Prop} {h h' : Heap} {θ θ' : List Addr} (g : Grow h θ h' θ') : GrowX X h θ h' θ' := ⟨g.pre, g.fresh, fun b o e n _ => g.kept b o e n⟩
theorem GrowX.refl (X : Addr → Prop) (h : Heap) (θ : List Addr) : GrowX X h θ h θ := (Grow.refl h θ).x
theorem GrowX.notMem {X : Addr → Prop} {h h' : Heap} {θ θ' : List Addr} (g : GrowX X h θ h' θ') {b : Addr} {o : Obj} (e : h.get? b = some o) (n : b ∉ θ) : b ∉ θ' := fun m => by
  have := g.fresh b m n; rw [e] at this; cases this
/-- X: what may be changed stands throughout -/
theorem GrowX.trans {X : Addr → Prop} {h₁ h₂ h₃ : Heap} {θ₁ θ₂ θ₃ : List Addr} (hX : ∀ x, X x → ∃ o, h₂.get? x = some o ∧ x ∉ θ₂) (a : GrowX X h₁ θ₁ h₂ θ₂) (b : GrowX X h₂ θ₂ h₃ θ₃) : GrowX X h₁ θ₁ h₃ θ₃ := by
  refine ⟨?_, fun x m n => ?_, fun x o e n k => b.kept x o (a.kept x o e n k) (a.notMem e n) k⟩
  · obtain ⟨t, rfl⟩ := a.pre
    obtain ⟨u, rfl⟩ := b.pre
    exact ⟨t ++ u, List.append_assoc ..⟩
  · by_cases h2 : x ∈ θ₂
    · exact a.fresh x h2 n
    · cases e : h₁.get? x with
      | none => rfl
      | some o =>
        have := b.fresh x m h2
        by_cases k : X x
        · obtain ⟨o', e', _⟩ := hX x k
          rw [e'] at this; cases this
        · rw [a.kept x o e n k] at this; cases this
/-- seen from the caller, whose heap does not know X -/
theorem GrowX.out {X : Addr → Prop} {h₀ h h' : Heap} {θ θ' : List Addr} (g : GrowX X h θ h' θ') (k : ∀ b o, h₀.get? b = some o → h.get? b = some o ∧ ¬ X b) : Grow h₀ θ h' θ' := by
  refine ⟨g.pre, fun a m n => ?_, fun b o e n => g.kept b o (k b o e).1 n (k b o e).2⟩
  cases e : h₀.get? a with
  | none => rfl
  | some o => rw [← g.fresh a m n]; exact (k a o e).1 ▸ rfl

inductive Fl where
  | next | brk | cont | ret (v : V)
inductive RepF (h : Heap) (θ : List Addr) : Fl → Flow → Prop
  | next : RepF h θ .next .next
  | brk : RepF h θ .brk .brk
  | cont : RepF h θ .cont .cont
  | ret {v : V} {v' : Value} : RepV h θ v v' → RepF h θ (.ret v) (.ret v')

abbrev Vars := List (Str × V)

def OkS (c : Cx) (env : Env) (s : Shared) (θ : List Addr) (Q : Fl → Vars → St → Prop) : Flow → Shared → Prop := fun f' s' =>
  ∃ f ρ' σ' θ', Inv c s' θ' σ' ∧ FrA c s'.heap θ' env ρ' ∧ GrowX (own env) s.heap θ s'.heap θ' ∧ RepF s'.heap θ' f f' ∧ Q f ρ' σ'

def EX (c : Cx) (sc : Sc) (d : Nat) (st : Stmt) (ρ : Vars) (σ : St) (Q : Fl → Vars → St → Prop) : Prop :=
  ∀ A env s θ, Room A d → EnvIs sc env → Inv c s θ σ → FrA c s.heap θ env ρ → wpAny (model c.prog c.w) A (exec st env) (OkS c env s θ Q) NoE s
def EXs (c : Cx) (sc : Sc) (d : Nat) (st : List Stmt) (ρ : Vars) (σ : St) (Q : Fl → Vars → St → Prop) : Prop :=
  ∀ A env s θ, Room A d → EnvIs sc env → Inv c s θ σ → FrA c s.heap θ env ρ → wpAny (model c.prog c.w) A (execs st env) (OkS c env s θ Q) NoE s

section
variable {c : Cx} {sc : Sc} {d : Nat} {ρ : Vars} {σ : St} {Q : Post} {R : Fl → Vars → St → Prop} {A : Around} {env : Env} {s s₁ : Shared} {θ θ₁ : List Addr}

theorem FrA.ownX {h : Heap} (F : FrA c h θ env ρ) : ∀ x, own env x → ∃ o, h.get? x = some o ∧ x ∉ θ := fun x m => by
  obtain ⟨m', cm, hm, hc, _⟩ := F.at_
  rcases m with rfl | ⟨n, e⟩
  · obtain ⟨o, _, _, e, _⟩ := hm; exact ⟨o, e, F.lo⟩
  · obtain ⟨o, e', _⟩ := hc n x e; exact ⟨o, e', (F.cells n x e).2.1⟩

theorem OkS.trans {f : Flow} {s₂ : Shared} (F : FrA c s₁.heap θ₁ env ρ) (g : GrowX (own env) s.heap θ s₁.heap θ₁) (h : OkS c env s₁ θ₁ R f s₂) : OkS c env s θ R f s₂ := by
  obtain ⟨f', ρ', σ', θ', a, b, e, r, q⟩ := h; exact ⟨f', ρ', σ', θ', a, b, GrowX.trans F.ownX g e, r, q⟩

theorem wpS.trans {t : Sem Flow} {M : Model} (F : FrA c s₁.heap θ₁ env ρ) (g : GrowX (own env) s.heap θ s₁.heap θ₁) (h : wpAny M A t (OkS c env s₁ θ₁ R) NoE s₁) : wpAny M A t (OkS c env s θ R) NoE s₁ :=
  wpAny_mono h (fun _ _ x => x.trans F g) fun _ _ x => x

theorem EX.mono {st : Stmt} {R' : Fl → Vars → St → Prop} (h : EX c sc d st ρ σ R) (hq : ∀ f ρ' σ', R f ρ' σ' → R' f ρ' σ') : EX c sc d st ρ σ R' := fun A env s θ r X I F =>
  wpAny_mono (h A env s θ r X I F) (fun _ _ ⟨v, ρ', σ', θ', a, b, x, y, q⟩ => ⟨v, ρ', σ', θ', a, b, x, y, hq _ _ _ q⟩) fun _ _ x => x
theorem EXs.mono {st : List Stmt} {R' : Fl → Vars → St → Prop} (h : EXs c sc d st ρ σ R) (hq : ∀ f ρ' σ', R f ρ' σ' → R' f ρ' σ') : EXs c sc d st ρ σ R' := fun A env s θ r X I F =>
  wpAny_mono (h A env s θ r X I F) (fun _ _ ⟨v, ρ', σ', θ', a, b, x, y, q⟩ => ⟨v, ρ', σ', θ', a, b, x, y, hq _ _ _ q⟩) fun _ _ x => x

theorem EXs_nil (h : R .next ρ σ) : EXs c sc d [] ρ σ R := fun _ _ _ _ _ _ I F => wpAny_execs_nil ⟨.next, ρ, σ, _, I, F, GrowX.refl .., .next, h⟩
def goOn (c : Cx) (sc : Sc) (d : Nat) (rest : List Stmt) (R : Fl → Vars → St → Prop) : Fl → Vars → St → Prop
  | .next, ρ, σ => EXs c sc d rest ρ σ R
  | f, ρ, σ => R f ρ σ
theorem EXs_cons {st : Stmt} {rest : List Stmt} (h : EX c sc d st ρ σ (goOn c sc d rest R)) : EXs c sc d (st :: rest) ρ σ R := fun A env s θ r X I F => by
  refine wpAny_execs_cons (wpAny_mono (h A env s θ r X I F) (fun f' s₁ h₁ => ?_) fun _ _ x => x)
  obtain ⟨f, ρ₁, σ₁, θ₁, I₁, F₁, g₁, r₁, q⟩ := h₁
  cases r₁ with
  | next => exact wpS.trans F₁ g₁ (q A env s₁ θ₁ r X I₁ F₁)
  | brk => exact ⟨_, ρ₁, σ₁, θ₁, I₁, F₁, g₁, .brk, q⟩
  | cont => exact ⟨_, ρ₁, σ₁, θ₁, I₁, F₁, g₁, .cont, q⟩
  | ret x => exact ⟨_, ρ₁, σ₁, θ₁, I₁, F₁, g₁, .ret x, q⟩

theorem EX_Return {e : Expr} {pos : Pos} (h : EV c sc d e ρ σ fun v σ₁ => R (.ret v) ρ σ₁) : EX c sc d (.Return (some e) pos) ρ σ R := fun A env s θ r X I F => by
  refine wpAny_Return_some (wpAny_mono (h A env s θ r X I F) (fun v' s₁ h₁ => ?_) fun _ _ x => x)
  obtain ⟨v, σ₁, θ₁, I₁, g₁, rv, q⟩ := h₁
  exact ⟨.ret v, ρ, σ₁, θ₁, I₁, F.grow I.tupOut g₁, g₁.x, .ret rv, q⟩
theorem EX_Return_none {pos : Pos} (h : R (.ret .none) ρ σ) : EX c sc d (.Return none pos) ρ σ R := fun A env s θ r X I F =>
  wpAny_Return_none ⟨.ret .none, ρ, σ, θ, I, F, GrowX.refl .., .ret .none, h⟩

theorem EX_If {test : Expr} {body orelse : List Stmt} {pos : Pos} (h : ET c sc d test ρ σ fun b σ₁ => if b = true then EXs c sc d body ρ σ₁ R else EXs c sc d orelse ρ σ₁ R) : EX c sc d (.If test body orelse pos) ρ σ R := fun A env s θ r X I F => by
  refine wpAny_If (wpAny_mono (h A env s θ r X I F) (fun b s₁ h₁ => ?_) fun _ _ x => x)
  obtain ⟨σ₁, θ₁, I₁, g₁, q⟩ := h₁
  have F₁ := F.grow I.tupOut g₁
  cases b with
  | true => exact wpS.trans F₁ g₁.x (q A env s₁ θ₁ r X I₁ F₁)
  | false => exact wpS.trans F₁ g₁.x (q A env s₁ θ₁ r X I₁ F₁)

theorem EV_IfExp {test body orelse : Expr} {pos : Pos} (h : ET c sc d test ρ σ fun b σ₁ => if b = true then EV c sc d body ρ σ₁ Q else EV c sc d orelse ρ σ₁ Q) : EV c sc d (.IfExp test body orelse pos) ρ σ Q := fun A env s θ r X I F => by
  refine wpAny_IfExp (wpAny_mono (h A env s θ r X I F) (fun b s₁ h₁ => ?_) fun _ _ x => x)
  obtain ⟨σ₁, θ₁, I₁, g₁, q⟩ := h₁
  have F₁ := F.grow I.tupOut g₁
  cases b with
  | true => exact wpV.trans g₁ (q A env s₁ θ₁ r X I₁ F₁)
  | false => exact wpV.trans g₁ (q A env s₁ θ₁ r X I₁ F₁)

/-- a name of the frame gets a value -/
theorem storeName_ok {x : Str} {v : V} {v' : Value} (X : EnvIs sc env) (I : Inv c s θ σ) (F : FrA c s.heap θ env ρ) (hk : sc.scope.names.lookup x = some .local ∨ sc.scope.names.lookup x = some .cell) (r : RepV s.heap θ v v')
    {P : Unit → Shared → Prop} (h : ∀ s₁, Inv c s₁ θ σ → FrA c s₁.heap θ env (put ρ x v) → GrowX (own env) s.heap θ s₁.heap θ → (∀ a, ¬ own env a → s₁.heap.get? a = s.heap.get? a) → P () s₁) :
    wpAny (model c.prog c.w) A (storeName env x v') P NoE s := by
  obtain ⟨m, cm, hm, hc, hr⟩ := F.at_
  have key : ∀ (a : Addr) (h' : Heap) (t : Nat), own env a → Heap.SameBut a s.heap h' → Inv c { s with heap := h', toks := t } θ σ ∧ GrowX (own env) s.heap θ h' θ ∧ (∀ b, ¬ own env b → h'.get? b = s.heap.get? b) ∧ ∀ {v : V} {v' : Value}, RepV s.heap θ v v' → RepV h' θ v v' := by
    intro a h' t ha hs
    obtain ⟨oa, ea, na⟩ := F.ownX a ha
    have nb : c.hb.get? a = none := by
      rcases ha with rfl | ⟨n, e⟩
      · exact F.lob
      · exact (F.cells n a e).2.2
    have nT : ∀ items, ¬ IsT s.heap a items := by
      rintro items ⟨n, e⟩
      rcases ha with rfl | ⟨n', e'⟩
      · obtain ⟨o', es, ep, e2, hd2, _⟩ := hm; rw [e] at e2; cases e2; cases hd2
      · obtain ⟨o', e2, hd2⟩ := hc n' a e'; rw [e] at e2; cases e2; cases hd2
    have nF : ∀ o vs, s.heap.get? a = some o → o.data ≠ .fields vs := by
      intro o vs e hd
      rcases ha with rfl | ⟨n', e'⟩
      · obtain ⟨o', es, ep, e2, hd2, _⟩ := hm; rw [e] at e2; cases e2; rw [hd] at hd2; cases hd2
      · obtain ⟨o', e2, hd2⟩ := hc n' a e'; rw [e] at e2; cases e2; rw [hd] at hd2; cases hd2
    have k1 : ∀ b, b ∈ θ → b ≠ a := fun b hb e => na (e ▸ hb)
    have hv : ∀ {v : V} {v' : Value}, RepV s.heap θ v v' → RepV h' θ v v' := by
      have go : (∀ (v : V) (v' : Value), RepV s.heap θ v v' → RepV h' θ v v') := by
        intro v v' q
        exact RepV.rec (motive_1 := fun v v' _ => RepV h' θ v v') (motive_2 := fun v v' _ => RepVs h' θ v v') .none .bool .int .str .raw .loc
          (fun l b xs ht _ ih => .tup l b xs (by
            obtain ⟨n, e⟩ := ht
            have : b ≠ a := fun e' => nT _ ⟨n, e' ▸ e⟩
            exact ⟨n, (hs.2 b this).trans e⟩) ih) (fun l b xs n nm e _ ih => .lst l b xs n nm (by
            have : b ≠ a := fun e' => by
              rcases ha with rfl | ⟨n', e2⟩
              · obtain ⟨o', es, ep, e2, hd2, _⟩ := hm; rw [← e'] at e2; rw [show s.heap.get? b = _ from e] at e2; cases e2; cases hd2
              · obtain ⟨o', e3, hd2⟩ := hc n' a e2; rw [← e'] at e3; rw [show s.heap.get? b = _ from e] at e3; cases e3; cases hd2
            exact (hs.2 b this).trans e) ih) .nil (fun _ _ a b => .cons a b) q
      exact fun {v v'} q => go v v' q
    have hvs : ∀ {v : List V} {v' : List Value}, RepVs s.heap θ v v' → RepVs h' θ v v' := by
      intro v v' q
      induction v generalizing v' with
      | nil => cases q; exact .nil
      | cons x l ih => cases q with | cons p q => exact .cons (hv p) (ih q)
    have hks : ∀ {Ky : Type} {v : List (Ky × V)} {v' : List (Ky × Value)}, RepKs s.heap θ v v' → RepKs h' θ v v' := by
      intro Ky v v' q
      induction q with
      | nil => exact .nil
      | cons p _ ih => exact .cons (hv p) ih
    have has : ∀ {v : List (Str × V)} {v' : List DictEntry}, RepAs s.heap θ v v' → RepAs h' θ v v' := by
      intro v v' q
      induction q with
      | nil => exact .nil
      | cons e p _ ih => exact .cons e (hv p) ih
    refine ⟨⟨fun b o e => (hs.2 b (fun e' => by subst e'; rw [nb] at e; cases e)).trans (I.keep b o e), I.apart, I.nodup, ⟨I.rep.len, fun i o b e1 e2 => ?_⟩, I.gens, I.os⟩, ?_, fun b nb' => hs.2 b fun e => nb' (e ▸ ha), hv⟩
    · have hb : b ≠ a := k1 b (List.mem_of_getElem? e2)
      have q := I.rep.obj i o b e1 e2
      have eb := hs.2 b hb
      cases o with
      | list l => obtain ⟨xs, n, e', q⟩ := q; exact ⟨xs, n, eb.trans e', hvs q⟩
      | fz xs n l => obtain ⟨e', q⟩ := q; exact ⟨eb.trans e', hvs q⟩
      | dictS es => obtain ⟨xs, ⟨o', x, y, e', z⟩, q⟩ := q; exact ⟨xs, ⟨o', x, y, eb.trans e', z⟩, hks q⟩
      | dictI es => obtain ⟨xs, ⟨o', x, y, e', z⟩, q⟩ := q; exact ⟨xs, ⟨o', x, y, eb.trans e', z⟩, hks q⟩
      | attrs es => obtain ⟨xs, n, e', q⟩ := q; exact ⟨xs, n, eb.trans e', has q⟩
      | inst C d => obtain ⟨dx, q, e'⟩ := q; exact ⟨dx, q, eb.trans e'⟩
      | tab P ps => obtain ⟨q, e', z⟩ := q; exact ⟨q, eb.trans e', z⟩
      | fn P =>
        obtain ⟨fd, p, e', ⟨c', oc, vs, t, e1, e2, e3, e4⟩⟩ := q
        exact ⟨fd, p, eb.trans e', ⟨c', oc, vs, t, e1, (hs.2 c' (fun z => nF _ vs (z ▸ e2) e3)).trans e2, e3, e4⟩⟩
    · exact ⟨⟨[], (List.append_nil _).symm⟩, fun _ m n => (n m).elim, fun b o e _ k => (hs.2 b (fun e' => k (e' ▸ ha))).trans e⟩
  rcases hk with hk | hk
  · refine wpAny_storeName_local (by rw [X.kindOf]; exact hk) hm (fun h' hn hs => ?_) (by rw [X.scope, X.kind]; rfl)
    obtain ⟨I', g', o', hv⟩ := key env.locals h' (s.toks + 1) (.inl rfl) hs
    refine h _ I' ⟨⟨_, cm, hn, fun n k e => (hc n k e).sameBut hs (F.cells n k e).1, fun y u hy => ?_⟩, F.lo, F.lob, F.cells, F.apart⟩ g' o'
    rw [get_put] at hy
    by_cases hxy : x = y
    · subst hxy
      rw [if_pos rfl] at hy; cases hy
      exact ⟨v', hv r, .inl ⟨by rw [X.kindOf]; exact hk, by simp⟩⟩
    · rw [if_neg hxy] at hy
      obtain ⟨u', a, b⟩ := hr y u hy
      refine ⟨u', hv a, ?_⟩
      rcases b with ⟨b1, b2⟩ | b
      · exact .inl ⟨b1, by (have hyx : ¬ y = x := fun e => hxy e.symm); (simp only [hyx, if_false]); exact b2⟩
      · exact .inr b
  · have hsome := X.cells x hk
    obtain ⟨k, hk'⟩ := Option.isSome_iff_exists.mp hsome
    refine wpAny_storeName_cell X.fn (by rw [X.kindOf]; exact hk) hk' (hc x k hk') (fun h' hn hs => ?_)
    obtain ⟨I', g', o', hv⟩ := key k h' s.toks (.inr ⟨x, hk'⟩) hs
    refine h _ I' ⟨⟨m, fun y => if y = x then some v' else cm y, ?_, fun n k2 e => ?_, fun y u hy => ?_⟩, F.lo, F.lob, F.cells, F.apart⟩ g' o'
    · exact hm.sameBut hs (Ne.symm (F.cells x k hk').1)
    · by_cases hkk : k2 = k
      · subst hkk
        have e0 := F.apart n x k2 e hk'
        subst e0
        simpa using hn
      · have : n ≠ x := fun e' => by subst e'; rw [hk'] at e; cases e; exact hkk rfl
        simpa [this] using (hc n k2 e).sameBut hs hkk
    · rw [get_put] at hy
      by_cases hxy : x = y
      · subst hxy
        rw [if_pos rfl] at hy; cases hy
        exact ⟨v', hv r, .inr ⟨.inl (by rw [X.kindOf]; exact hk), hsome, by simp⟩⟩
      · rw [if_neg hxy] at hy
        obtain ⟨u', a, b⟩ := hr y u hy
        refine ⟨u', hv a, ?_⟩
        rcases b with b | ⟨b1, b2, b3⟩
        · exact .inl b
        · exact .inr ⟨b1, b2, by (have hyx : ¬ y = x := fun e => hxy e.symm); (simp only [hyx, if_false]); exact b3⟩

theorem EX_Assign {x : Str} {value : Expr} {pos' pos : Pos} (h : EV c sc d value ρ σ fun v σ₁ => R .next (put ρ x v) σ₁) (hk : sc.scope.names.lookup x = some .local ∨ sc.scope.names.lookup x = some .cell)
    (hs : ∀ env, swapsWith value (some (.Name x pos')) pos.line env = pure false := by intro _; rfl) : EX c sc d (.Assign [.Name x pos'] value pos) ρ σ R := fun A env s θ r X I F => by
  refine wpAny_Assign_Name (wpAny_mono (h A env s θ r X I F) (fun v' s₁ h₁ => ?_) fun _ _ x => x) (hs env)
  obtain ⟨v, σ₁, θ₁, I₁, g₁, rv, q⟩ := h₁
  have F₁ := F.grow I.tupOut g₁
  exact storeName_ok X I₁ F₁ hk rv fun s₂ I₂ F₂ g₂ _ => ⟨.next, _, σ₁, θ₁, I₂, F₂, GrowX.trans F₁.ownX g₁.x g₂, .next, q⟩
end
end Mine
end
section
open PySem PySem.W PySem.Calls PyProof.Rows
set_option Elab.async false
set_option linter.unusedVariables false
namespace Mine

def binds : List Str → List V → Vars → Vars
  | x :: xs, v :: vs, ρ => binds xs vs (put ρ x v)
  | _, _, ρ => ρ

def retOf : Fl → V
  | .ret v => v
  | _ => .none

theorem RepVs.mapM {h h' : Heap} {θ θ' : List Addr} (f : ∀ {v : V} {x : Value}, RepV h θ v x → RepV h' θ' v x) : ∀ {l : List V} {xs : List Value}, RepVs h θ l xs → RepVs h' θ' l xs
  | _, _, .nil => .nil
  | _, _, .cons a b => .cons (f a) (b.mapM f)

def Bound (h : Heap) (θ : List Addr) (kindOf : Str → Option NameKind) (ρ : Vars) (m cm : Str → Option Value) : Prop :=
  ∀ x v, get ρ x = some v → ∃ v', RepV h θ v v' ∧ ((kindOf x = some .local ∧ m x = some v') ∨ (kindOf x = some .cell ∧ cm x = some v'))

theorem Bound.bind {h : Heap} {θ : List Addr} {kindOf : Str → Option NameKind} : ∀ {xs : List Str} {vs : List V} {vs' : List Value} {ρ : Vars} {m cm : Str → Option Value}, RepVs h θ vs vs' → (∀ x ∈ xs, kindOf x = some .local ∨ kindOf x = some .cell) → Bound h θ kindOf ρ m cm →
    Bound h θ kindOf (binds xs vs ρ) (bindL kindOf (xs.zip vs') m) (bindC kindOf (xs.zip vs') cm)
  | [], _, _, _, _, _, r, _, B => by cases r <;> exact B
  | x :: xs, _, _, _, _, _, .nil, _, B => B
  | x :: xs, v :: vs, v' :: vs', ρ, m, cm, .cons a b, hk, B => by
    show Bound h θ kindOf (binds xs vs (put ρ x v)) (bindL kindOf ((x, v') :: xs.zip vs') m) (bindC kindOf ((x, v') :: xs.zip vs') cm)
    unfold bindL bindC
    refine Bound.bind b (fun y hy => hk y (List.mem_cons_of_mem _ hy)) fun y u hy => ?_
    rw [get_put] at hy
    by_cases hxy : x = y
    · subst hxy
      rw [if_pos rfl] at hy; cases hy
      rcases hk x List.mem_cons_self with e | e
      · exact ⟨v', a, .inl ⟨e, by simp [e]⟩⟩
      · exact ⟨v', a, .inr ⟨e, by simp [e]⟩⟩
    · rw [if_neg hxy] at hy
      obtain ⟨u', p, q⟩ := B y u hy
      have hyx : ¬ y = x := fun e => hxy e.symm
      refine ⟨u', p, ?_⟩
      rcases q with ⟨q1, q2⟩ | ⟨q1, q2⟩
      · left; refine ⟨q1, ?_⟩; split
        · simpa only [hyx, if_false] using q2
        · exact q2
      · right; refine ⟨q1, ?_⟩; split
        · exact q2
        · simpa only [hyx, if_false] using q2

section
variable {c : Cx} {sc : Sc} {d : Nat} {ρ : Vars} {σ : St} {Q : Post} {R : Fl → Vars → St → Prop} {A : Around} {env : Env} {s s₁ : Shared} {θ θ₁ : List Addr}

theorem Inv.ltθ (I : Inv c s θ σ) {a : Addr} (m : a ∈ θ) : a < s.heap.objs.size := let ⟨_, e⟩ := I.rep.exists m; Heap.lt_size e
theorem Inv.new (I : Inv c s θ σ) {a : Addr} (h : s.heap.objs.size ≤ a) : a ∉ θ ∧ c.hb.get? a = none := by
  refine ⟨fun m => absurd (I.ltθ m) (Nat.not_lt.mpr h), ?_⟩
  cases e : c.hb.get? a with
  | none => rfl
  | some o => exact absurd (Heap.lt_size (I.keep a o e)) (Nat.not_lt.mpr h)

structure FnAt (c : Cx) (a : Addr) (fd : FuncData) (ps : List Str) (body : List Stmt) : Prop where
  at_ : ∃ o, c.hb.get? a = some o ∧ o.data = .func fd
  code : c.hb.CodeRec fd.code fd.qualname
  body : fd.body = .stmts body
  closure : fd.closure = []
  globals : fd.globals = mainGlobals
  builtins : fd.builtins = builtinsNs
  kinds : ∀ x ∈ ps, fd.scope.names.lookup x = some .local ∨ fd.scope.names.lookup x = some .cell
  bind : ∀ vals : List Value, vals.length = ps.length → bindArgs fd ⟨vals, []⟩ = pure (ps.zip vals)
  co : fd.scope.isCoroutine = false
  gen : fd.scope.isGenerator = false
  kind : fd.scope.kind = .function

theorem CALL_def (C : CxOk c) {a : Addr} {fd : FuncData} {ps : List Str} {body : List Stmt} {vs : List V} (f : FnAt c a fd ps body) (hlen : vs.length = ps.length) (hd : 1 ≤ d)
    (h : EXs c ⟨fd.scope, fd.code⟩ (d - 1) body (binds ps vs []) σ fun fl _ σ' => Q (retOf fl) σ') : CALL c d (.raw (.ref a)) vs σ Q := fun A s θ f' vs' r I rf rv => by
  cases rf
  obtain ⟨o, ho, hdat⟩ := f.at_
  have hz : ∀ x ∈ ps.zip vs', x.1 ∈ ps := fun x hx => (List.of_mem_zip (show (x.1, x.2) ∈ ps.zip vs' from hx)).1
  refine wpAny_call (codeAny_call_cells (by have := r.depth; omega) (I.keep _ _ ho) hdat (C.nolimit.keeps I.keep) (f.code.keeps I.keep) f.body (f.bind vs' (by rw [← rv.length]; exact hlen)) f.closure ?_ (fun s₁ X => ?_) f.co f.gen f.kind)
  · intro x hx
    rcases f.kinds x.1 (hz x hx) with e | e
    · exact .inl e
    · exact .inr ⟨e, cellsFrom_some _ _ _ (.inl e)⟩
  · obtain ⟨hh, tk, rfl⟩ := X.toInCall.same
    have keep := X.toInCall.keep
    have I₁ : Inv c { s with heap := hh, toks := tk } θ σ := I.keeps keep
    have g₁ : Grow s.heap θ hh θ := grow_keeps keep
    have E₁ : EnvIs ⟨fd.scope, fd.code⟩ (callEnvC fd s.heap.objs.size a) := ⟨rfl, f.globals, f.builtins, rfl, f.kind, fun x hx => cellsFrom_some _ _ _ (.inl hx)⟩
    have above : ∀ n k, (callEnvC fd s.heap.objs.size a).cells.lookup n = some k → s.heap.objs.size < k := fun n k e => X.above n k (mem_of_lookup e)
    have F₁ : FrA c hh θ (callEnvC fd s.heap.objs.size a) (binds ps vs []) := by
      refine ⟨⟨_, _, X.toInCall.ns, X.cell, fun x v hx => ?_⟩, (I.new (Nat.le_refl _)).1, (I.new (Nat.le_refl _)).2, fun n k e => ?_, fun n n' k e e' => ?_⟩
      · have B := Bound.bind (kindOf := (callEnvC fd s.heap.objs.size a).kindOf) (rv.mapM fun q => q.grow I.tupOut g₁) (fun x hx => f.kinds x hx) (ρ := []) (m := fun _ => none) (cm := fun _ => none) (fun _ _ e => by cases e)
        obtain ⟨v', p, q⟩ := B x v hx
        refine ⟨v', p, ?_⟩
        rcases q with q | ⟨q1, q2⟩
        · exact .inl q
        · exact .inr ⟨.inl q1, cellsFrom_some _ _ _ (.inl q1), q2⟩
      · have := above n k e
        exact ⟨Nat.ne_of_gt this, (I.new (Nat.le_of_lt this)).1, (I.new (Nat.le_of_lt this)).2⟩
      · exact name_of_addr X.apart (mem_of_lookup e) (mem_of_lookup e')
    have r₁ : Room (A.deeper (callEnvC fd s.heap.objs.size a)) (d - 1) := by
      have q := r.depth
      have q' := r.units
      have e1 : (A.deeper (callEnvC fd s.heap.objs.size a)).depth = A.depth + 1 := rfl
      have e2 : (A.deeper (callEnvC fd s.heap.objs.size a)).units = A.units + 3 := rfl
      exact ⟨by rw [e1]; omega, by rw [e2]; omega, r.handled⟩
    refine wpAny_mono (h _ _ _ θ r₁ E₁ I₁ F₁) (fun f' s₂ h₂ => ?_) fun _ _ x => x.elim
    obtain ⟨fl, ρ', σ', θ', I₂, _, g₂, rf, q⟩ := h₂
    have G : Grow s.heap θ s₂.heap θ' := g₂.out fun b o e => ⟨keep b o e, fun m => by
      have lt := Heap.lt_size e
      rcases m with e' | ⟨n, e'⟩
      · exact absurd lt (by rw [e']; exact Nat.lt_irrefl _)
      · exact absurd (Nat.lt_trans lt (above n b e')) (Nat.lt_irrefl _)⟩
    cases rf with
    | next => exact ⟨_, σ', θ', I₂, G, .none, q⟩
    | brk => exact ⟨_, σ', θ', I₂, G, .none, q⟩
    | cont => exact ⟨_, σ', θ', I₂, G, .none, q⟩
    | ret rv => exact ⟨_, σ', θ', I₂, G, rv, q⟩

/-- what callWith asks of a callable -/
def Kp (c : Cx) (σ : St) (f : V) : Prop := ∀ s θ f', Inv c s θ σ → RepV s.heap θ f f' → ∃ k, (k = Keeper.frame ∨ k = Keeper.machine ∨ k = Keeper.boundFrame) ∧ Looks (model c.prog c.w) s.heap (keeperOf f') k

theorem Kp_fn {a : Addr} {fd : FuncData} {ps : List Str} {body : List Stmt} (f : FnAt c a fd ps body) : Kp c σ (.raw (.ref a)) := fun s θ f' I r => by
  cases r
  obtain ⟨⟨oc, od, oda, osl⟩, ho, hdat⟩ := f.at_
  dsimp only at hdat
  subst hdat
  exact ⟨.frame, .inl rfl, (Looks.ld (part := none) (I.keep _ _ ho)).andThen .now⟩
theorem Kp_K (C : CxOk c) {f : Value} (hk : keepIn c.K f = true) : Kp c σ (.raw f) := fun s θ f' I r => by
  cases r
  obtain ⟨k, a, b⟩ := looks_keep (M := model c.prog c.w) hk (C.K.keeps I.keep)
  exact ⟨k, a.elim .inl (fun e => .inr (.inl e)), b⟩
theorem Kp_builtin {id : String} : Kp c σ (.raw (.builtin id)) := fun s θ f' I r => by cases r; exact ⟨.machine, .inr (.inl rfl), Looks.of_pure rfl⟩
theorem Kp_type {id : String} : Kp c σ (.raw (.type id)) := fun s θ f' I r => by cases r; exact ⟨.machine, .inr (.inl rfl), Looks.of_pure rfl⟩
theorem Kp_loc {n : Nat} {P : FuncData → Prop} (hn : σ[n]? = some (.fn P)) : Kp c σ (.loc n) := fun s θ f' I r => by
  cases r with
  | loc n a e =>
    obtain ⟨fd, _, e', _⟩ := I.rep.obj n _ a hn e
    exact ⟨.frame, .inl rfl, (Looks.ld (part := none) e').andThen .now⟩

def noStar (es : List Expr) : Bool := es.all fun e => match e with | .Starred .. => false | _ => true
theorem starEach_plain (env : Env) : ∀ {es : List Expr}, noStar es = true → starEach es env = es.map fun e => (false, eval e env)
  | [], _ => rfl
  | e :: es, h => by
    unfold noStar at h
    rw [List.all_cons] at h
    obtain ⟨h1, h2⟩ := Bool.and_eq_true_iff.mp h
    have ih := starEach_plain env (es := es) h2
    cases e <;> first | (exact congrArg _ ih) | cases h1
theorem backTo_plain (pos : Pos) (env : Env) {es : List Expr} (h : noStar es = true) : backTo pos (starEach es env) = es.map fun e => (false, eval e env) := by
  rw [starEach_plain env h]
  simp only [backTo, List.map_map]
  rfl

theorem callWith_ok {f : V} {f' : Value} {first : List V} {first' : List Value} {es : List Expr} {pos : Pos} (hs : noStar es = true) (r : Room A d) (X : EnvIs sc env) (I : Inv c s θ σ) (F : FrA c s.heap θ env ρ) (rf : RepV s.heap θ f f') (rfs : RepVs s.heap θ first first')
    (h : EVs c sc d es ρ σ fun vs σ₂ => Kp c σ₂ f ∧ CALL c d f (first ++ vs) σ₂ Q) : wpAny (model c.prog c.w) A (callWith pos f' first' (backTo pos (starEach es env)) []) (OkV c s θ Q) NoE s := by
  have h0 := h A env pos s θ r X I F
  rw [backTo_plain pos env hs] at h0 ⊢
  have fin : wpAny (model c.prog c.w) A (evalArgs f' true (es.map fun e => (false, eval e env)) []) (fun a s₁ => ((∃ k, (k = Keeper.frame ∨ k = Keeper.machine ∨ k = Keeper.boundFrame) ∧ Looks (model c.prog c.w) s₁.heap (keeperOf f') k) ∧ wpAny (model c.prog c.w) A (call f' (first' ++ a.pos) a.kw) (OkV c s θ Q) NoE s₁)) NoE s := by
    have go : ∀ vs' s₁, OkVs c s θ (fun vs σ₂ => Kp c σ₂ f ∧ CALL c d f (first ++ vs) σ₂ Q) vs' s₁ → ((∃ k, (k = Keeper.frame ∨ k = Keeper.machine ∨ k = Keeper.boundFrame) ∧ Looks (model c.prog c.w) s₁.heap (keeperOf f') k) ∧ wpAny (model c.prog c.w) A (call f' (first' ++ vs') []) (OkV c s θ Q) NoE s₁) := by
      rintro vs' s₁ ⟨vs, σ₁, θ₁, I₁, g₁, rv, kp, q⟩
      exact ⟨kp _ _ _ I₁ (rf.grow I.tupOut g₁), wpV.trans g₁ (q A s₁ θ₁ f' _ r I₁ (rf.grow I.tupOut g₁) ((rfs.grow I.tupOut g₁).append rv))⟩
    cases es with
    | nil =>
      unfold evalArgs
      show wpAny (model c.prog c.w) A (spliced [] >>= _) _ _ s
      refine wpAny_bind (wpAny_mono h0 (fun vs' s' h' => wpAny_bind (wpAny_pure ?_)) fun _ _ x => x)
      refine wpAny_holding ?_
      exact wpAny_bind (wpAny_pure (wpAny_bind (wpAny_pure (wpAny_pure (go _ _ h')))))
    | cons e es => exact evalArgs_plain (wpAny_mono h0 (fun vs' s₁ q => go vs' s₁ q) fun _ _ x => x)
  unfold callWith
  refine wpAny_bind (wpAny_holding (wpAny_mono fin (fun a s₁ h₁ => wpAny_bind (wpAny_standAt ?_)) fun _ _ x => x))
  obtain ⟨⟨k, hk', L⟩, h₂⟩ := h₁
  have hp : ((es.map fun e => ((false : Bool), eval e env)).any (·.1) || ([] : List (Option Str × Sem Value)).any (·.1.isNone)) = false := by simp
  simp only [hp]
  refine wpAny_bind (L.here ?_)
  have tail : ∀ {t : Sem Value}, wpAny (model c.prog c.w) A t (OkV c s θ Q) NoE s₁ → wpAny (model c.prog c.w) A (t >>= fun r => holding [r] point >>= fun _ => pure r) (OkV c s θ Q) NoE s₁ :=
    fun ht => wpAny_bind (wpAny_mono ht (fun r s₂ hr => wpAny_bind (wpAny_holding (wpAny_point (wpAny_pure hr)))) fun _ _ x => x)
  have marked (mk : Value) : wpAny (model c.prog c.w) A (callMarked mk f' (first' ++ a.pos) a.kw) (OkV c s θ Q) NoE s₁ := by unfold callMarked; exact Calls.wpAny_keep h₂
  rcases hk' with rfl | rfl | rfl <;> dsimp only <;> first | exact tail h₂ | (split <;> first | exact tail h₂ | exact tail (marked _))
end
end Mine
end
section
open PySem PySem.W PySem.Calls PyProof.Rows PySem.MeetsSeq PySem.MeetsSeq2 PySem.MeetsSeq3
set_option Elab.async false
set_option linter.unusedVariables false
namespace Mine
section
variable {c : Cx} {sc : Sc} {d : Nat} {ρ : Vars} {σ : St} {Q : Post} {R : Fl → Vars → St → Prop} {A : Around} {env : Env} {s s₁ : Shared} {θ θ₁ : List Addr}

theorem Inv.at (I : Inv c s θ σ) {i : Nat} {o : SO} (hi : σ[i]? = some o) : ∃ a, θ[i]? = some a ∧ RepO c.prog c.w s.heap θ a o := by
  have h1 : i < σ.length := (List.getElem?_eq_some_iff.mp hi).1
  have h2 : i < θ.length := I.rep.len ▸ h1
  exact ⟨θ[i], List.getElem?_eq_getElem h2, I.rep.obj i o _ hi (List.getElem?_eq_getElem h2)⟩

/-- an object of the store is changed -/
theorem Inv.upd (I : Inv c s θ σ) {i : Nat} {a : Addr} {o' : SO} {h' : Heap} {t : Nat} (ha : θ[i]? = some a) (hs : Heap.SameBut a s.heap h') (ho : RepO c.prog c.w h' θ a o') :
    Inv c { s with heap := h', toks := t } θ (σ.set i o') ∧ Grow s.heap θ h' θ := by
  have ma : a ∈ θ := List.mem_of_getElem? ha
  have g : Grow s.heap θ h' θ := ⟨⟨[], (List.append_nil _).symm⟩, fun _ m n => (n m).elim, fun b o e n => (hs.2 b (fun z => n (z ▸ ma))).trans e⟩
  refine ⟨⟨fun b o e => (hs.2 b (fun z => by subst z; have := (I.apart _ ma).1; rw [e] at this; cases this)).trans (I.keep b o e), I.apart, I.nodup, ⟨by rw [List.length_set]; exact I.rep.len, fun j o b e1 e2 => ?_⟩, I.gens, I.os⟩, g⟩
  by_cases hij : i = j
  · subst hij
    rw [ha] at e2; cases e2
    have hl : i < σ.length := I.rep.len ▸ (List.getElem?_eq_some_iff.mp ha).1
    rw [List.getElem?_set_self hl] at e1; cases e1
    exact ho
  · rw [List.getElem?_set_ne hij] at e1
    have hb : b ≠ a := fun z => by
      subst z
      obtain ⟨h1, e3⟩ := List.getElem?_eq_some_iff.mp ha
      obtain ⟨h2, e4⟩ := List.getElem?_eq_some_iff.mp e2
      exact hij ((List.getElem_inj I.nodup).mp (e3.trans e4.symm))
    exact (I.rep.obj j o b e1 e2).moved I.tupOut g (fun ob e => (hs.2 b hb).trans e) (fun b' ob e n => g.kept b' ob e n) I.rep.noFields

/-- a new object of the store -/
theorem Inv.alloc (I : Inv c s θ σ) {ob : Obj} {o : SO} {t : Nat} (ho : RepO c.prog c.w (s.heap.push ob) (θ ++ [s.heap.objs.size]) s.heap.objs.size o) :
    Inv c { s with heap := s.heap.push ob, toks := t } (θ ++ [s.heap.objs.size]) (σ ++ [o]) ∧ Grow s.heap θ (s.heap.push ob) (θ ++ [s.heap.objs.size]) := by
  have k : ∀ b o, s.heap.get? b = some o → (s.heap.push ob).get? b = some o := fun b o e => Heap.get?_push_of_some _ e
  have N := I.new (Nat.le_refl s.heap.objs.size)
  have g : Grow s.heap θ (s.heap.push ob) (θ ++ [s.heap.objs.size]) := by
    refine ⟨⟨_, rfl⟩, fun a m n => ?_, fun b o e _ => k b o e⟩
    rcases List.mem_append.mp m with m | m
    · exact (n m).elim
    · rw [List.mem_singleton.mp m]
      cases e : s.heap.get? s.heap.objs.size with
      | none => rfl
      | some o => exact absurd (Heap.lt_size e) (Nat.lt_irrefl _)
  refine ⟨⟨fun b o e => k _ _ (I.keep b o e), fun a m => ?_, ?_, ⟨by simp [I.rep.len], fun j o' b e1 e2 => ?_⟩, I.gens, I.os⟩, g⟩
  · rcases List.mem_append.mp m with m | m
    · exact I.apart a m
    · rw [List.mem_singleton.mp m]; obtain ⟨o2, e2⟩ := c.low; exact ⟨N.2, Heap.lt_size (I.keep _ _ e2)⟩
  · refine List.nodup_append.mpr ⟨I.nodup, (by simp), fun a m b m' => ?_⟩
    rw [List.mem_singleton.mp m']
    exact fun z => N.1 (z ▸ m)
  · by_cases hj : j < σ.length
    · rw [List.getElem?_append_left hj] at e1
      rw [List.getElem?_append_left (I.rep.len ▸ hj)] at e2
      exact (I.rep.obj j o' b e1 e2).moved I.tupOut g (fun ob e => k _ _ e) (fun b' ob e _ => k _ _ e) I.rep.noFields
    · have hj' : j = σ.length := by
        have := (List.getElem?_eq_some_iff.mp e1).1
        simp at this; omega
      subst hj'
      rw [List.getElem?_append_right (Nat.le_refl _)] at e1
      rw [← I.rep.len, List.getElem?_append_right (Nat.le_refl _)] at e2
      simp at e1 e2
      subst e1 e2
      exact ho

/-- a new tuple -/
theorem Inv.tuple (I : Inv c s θ σ) {vs : List V} {vs' : List Value} {t : Nat} (r : RepVs s.heap θ vs vs') (q : Q (.tup vs) σ) :
    OkV c s θ Q (.ref s.heap.objs.size) { s with heap := s.heap.push { cls := .type "tuple", data := .seq vs'.toArray }, toks := t } := by
  have k : ∀ b o, s.heap.get? b = some o → (s.heap.push { cls := .type "tuple", data := .seq vs'.toArray }).get? b = some o := fun b o e => Heap.get?_push_of_some _ e
  exact ⟨.tup vs, σ, θ, I.keeps k, grow_keeps k, .tup vs _ vs' ⟨0, Heap.get?_push_size _ rfl⟩ (r.grow I.tupOut (grow_keeps k)), q⟩
/-- a new list -/
theorem Inv.list (I : Inv c s θ σ) {vs : List V} {vs' : List Value} {t : Nat} (r : RepVs s.heap θ vs vs') (q : Q (.loc σ.length) (σ ++ [.list vs])) :
    OkV c s θ Q (.ref s.heap.objs.size) { s with heap := s.heap.push { cls := .type "list", data := .seq vs'.toArray }, toks := t } := by
  have k : ∀ b o, s.heap.get? b = some o → (s.heap.push { cls := .type "list", data := .seq vs'.toArray }).get? b = some o := fun b o e => Heap.get?_push_of_some _ e
  have g0 : Grow s.heap θ (s.heap.push { cls := .type "list", data := .seq vs'.toArray }) (θ ++ [s.heap.objs.size]) := by
    refine ⟨⟨_, rfl⟩, fun a m n => ?_, fun b o e _ => k b o e⟩
    rcases List.mem_append.mp m with m | m
    · exact (n m).elim
    · rw [List.mem_singleton.mp m]
      cases e : s.heap.get? s.heap.objs.size with
      | none => rfl
      | some o => exact absurd (Heap.lt_size e) (Nat.lt_irrefl _)
  obtain ⟨I', g⟩ := I.alloc (ob := { cls := .type "list", data := .seq vs'.toArray }) (o := .list vs) (t := t) ⟨vs', 0, Heap.get?_push_size _ rfl, r.grow I.tupOut g0⟩
  exact ⟨.loc σ.length, _, _, I', g, .loc _ _ (by rw [← I.rep.len]; simp), q⟩

theorem EV_Tuple {es : List Expr} {k : Nat} {pos : Pos} (h : EVs c sc d es ρ σ fun vs σ₁ => vs.length ≤ 1000 ∧ Q (.tup vs) σ₁) : EV c sc d (.Tuple es k pos) ρ σ Q := fun A env s θ r X I F => by
  refine Tuple_ (wpAny_mono (h A env pos s θ r X I F) (fun vs' s₁ h₁ => ?_) fun _ _ x => x)
  obtain ⟨vs, σ₁, θ₁, I₁, g₁, rv, hl, q⟩ := h₁
  exact wpV.trans g₁ (wpAny_newObj_type (by exact I₁.tuple (t := s₁.toks) rv q) (by show vs'.toArray.size ≤ sizeLine; rw [List.size_toArray, ← rv.length, sizeLine_eq]; omega))
theorem EV_List {es : List Expr} {pos : Pos} (h : EVs c sc d es ρ σ fun vs σ₁ => vs.length ≤ 1000 ∧ Q (.loc σ₁.length) (σ₁ ++ [.list vs])) : EV c sc d (.List es pos) ρ σ Q := fun A env s θ r X I F => by
  refine List_ (wpAny_mono (h A env pos s θ r X I F) (fun vs' s₁ h₁ => ?_) fun _ _ x => x)
  obtain ⟨vs, σ₁, θ₁, I₁, g₁, rv, hl, q⟩ := h₁
  exact wpV.trans g₁ (wpAny_newObj_type (by exact I₁.list (t := s₁.toks) rv q) (by show vs'.toArray.size ≤ sizeLine; rw [List.size_toArray, ← rv.length, sizeLine_eq]; omega))

theorem EV_Dict0I {pos : Pos} (h : Q (.loc σ.length) (σ ++ [.dictI []])) : EV c sc d (.Dict [] [] pos) ρ σ Q := fun A env s θ r X I F => by
  refine wpAny_Dict_empty ?_
  obtain ⟨I', g⟩ := I.alloc (ob := { cls := .type "dict", data := .dict #[] }) (o := .dictI []) (t := s.toks) ⟨[], Heap.DictOf.new _, .nil⟩
  exact ⟨.loc σ.length, _, _, I', g, .loc _ _ (by rw [← I.rep.len]; simp), h⟩
theorem EV_Dict0S {pos : Pos} (h : Q (.loc σ.length) (σ ++ [.dictS []])) : EV c sc d (.Dict [] [] pos) ρ σ Q := fun A env s θ r X I F => by
  refine wpAny_Dict_empty ?_
  obtain ⟨I', g⟩ := I.alloc (ob := { cls := .type "dict", data := .dict #[] }) (o := .dictS []) (t := s.toks) ⟨[], Heap.DictOf.new _, .nil⟩
  exact ⟨.loc σ.length, _, _, I', g, .loc _ _ (by rw [← I.rep.len]; simp), h⟩

theorem EV_Call {x : Str} {p pos : Pos} {args : List Expr} (hs : noStar args = true) (h : EV c sc d (.Name x p) ρ σ fun f σ₁ => EVs c sc d args ρ σ₁ fun vs σ₂ => Kp c σ₂ f ∧ CALL c d f vs σ₂ Q) : EV c sc d (.Call (.Name x p) args [] pos) ρ σ Q := fun A env s θ r X I F => by
  refine Call_ (wpAny_mono (h A env s θ r X I F) (fun f' s₁ h₁ => ?_) fun _ _ x => x)
  obtain ⟨f, σ₁, θ₁, I₁, g₁, rf, q⟩ := h₁
  exact wpV.trans g₁ (callWith_ok (first := []) hs r X I₁ (F.grow I.tupOut g₁) rf .nil q)

def OkM (c : Cx) (s : Shared) (θ : List Addr) (Q : V → List V → St → Prop) : Value × List Value → Shared → Prop := fun fx s' => ∃ f first σ' θ', Inv c s' θ' σ' ∧ Grow s.heap θ s'.heap θ' ∧ RepV s'.heap θ' f fx.1 ∧ RepVs s'.heap θ' first fx.2 ∧ Q f first σ'
def GM (c : Cx) (d : Nat) (o : V) (name : Str) (σ : St) (Q : V → List V → St → Prop) : Prop :=
  ∀ A s θ o' pl, Room A d → Inv c s θ σ → RepV s.heap θ o o' → wpAny (model c.prog c.w) A (getMethod o' name pl) (OkM c s θ Q) NoE s

theorem EV_MCall {o : Expr} {name : Str} {apos pos : Pos} {args : List Expr} (hs : noStar args = true)
    (h : EV c sc d o ρ σ fun ov σ₁ => GM c d ov name σ₁ fun f first σ₂ => EVs c sc d args ρ σ₂ fun vs σ₃ => Kp c σ₃ f ∧ CALL c d f (first ++ vs) σ₃ Q)
    (he : ∀ env, ∃ pl, eval (.Call (.Attribute o name apos) args [] pos) env = (do
      let ov ← eval o env
      standAt apos.atName
      let (f, first) ← holding [ov] (getMethod ov name pl)
      callWith pos f first (backTo pos (starEach args env)) []) := by exact fun _ => ⟨_, rfl⟩) : EV c sc d (.Call (.Attribute o name apos) args [] pos) ρ σ Q := fun A env s θ r X I F => by
  obtain ⟨pl, he⟩ := he env
  refine MethodCall_ (wpAny_mono (h A env s θ r X I F) (fun o' s₁ h₁ => ?_) fun _ _ x => x) he
  obtain ⟨o, σ₁, θ₁, I₁, g₁, ro, q⟩ := h₁
  refine wpAny_mono (q A s₁ θ₁ o' pl r I₁ ro) (fun fx s₂ h₂ => ?_) fun _ _ x => x
  obtain ⟨f, first, σ₂, θ₂, I₂, g₂, rf, rfs, q₂⟩ := h₂
  exact wpV.trans (g₁.trans g₂) (callWith_ok hs r X I₂ ((F.grow I.tupOut g₁).grow I₁.tupOut g₂) rf rfs q₂)

theorem RepV.ofLoc {h : Heap} {n : Nat} {v' : Value} (r : RepV h θ (.loc n) v') : ∃ a, v' = .ref a ∧ θ[n]? = some a := by
  cases r with | loc n a e => exact ⟨a, rfl, e⟩

theorem Inv.isL (I : Inv c s θ σ) {n : Nat} {a : Addr} {l : List V} (hn : σ[n]? = some (.list l)) (e : θ[n]? = some a) : ∃ xs k, IsL s.heap a xs.toArray k ∧ RepVs s.heap θ l xs := I.rep.obj n _ a hn e

/-- list methods are found -/
theorem GM_list {n : Nat} {l : List V} {name : Str} {id : String} {Q : V → List V → St → Prop} (hn : σ[n]? = some (.list l)) (slot : Slot "list" name id) (hty : typeOf (.builtin id) = pure (.type "method_descriptor")) (h : Q (.raw (.builtin id)) [.loc n] σ) :
    GM c d (.loc n) name σ Q := fun A s θ o' pl r I ro => by
  obtain ⟨a, rfl, e⟩ := ro.ofLoc
  obtain ⟨xs, k, hl, _⟩ := I.isL hn e
  exact getMethod_builtin ⟨_, hl, rfl⟩ F.plainAttrs_list slot hty (fun a' e' => by cases e'; exact ⟨_, hl, rfl⟩) ⟨_, [.loc n], σ, θ, I, Grow.refl _ _, .raw _, .cons (.loc n a e) .nil, h⟩

/-- a list of the store is changed in place -/
theorem Inv.listUpd (I : Inv c s θ σ) {n k t : Nat} {a : Addr} {xs ys : List Value} {l' : List V} {f : Array Value → Array Value} {v : V} {v' : Value} (e : θ[n]? = some a) (hl : IsL s.heap a xs.toArray k)
    (hf : f xs.toArray = ys.toArray) (rl : RepVs s.heap θ l' ys) (rv : RepV s.heap θ v v') (q : Q v (σ.set n (.list l'))) : OkV c s θ Q v' { s with heap := s.heap.update a (Obj.mapSeq f), toks := t } := by
  have hs : Heap.SameBut a s.heap (s.heap.update a (Obj.mapSeq f)) := Heap.SameBut.update ..
  have g : Grow s.heap θ (s.heap.update a (Obj.mapSeq f)) θ := ⟨⟨[], (List.append_nil _).symm⟩, fun _ m n => (n m).elim, fun b o e' n => (hs.2 b (fun z => n (z ▸ List.mem_of_getElem? e))).trans e'⟩
  have hL := hl.update f
  rw [hf] at hL
  obtain ⟨I', _⟩ := I.upd (o' := .list l') (t := t) e hs ⟨ys, _, hL, rl.grow I.tupOut g⟩
  exact ⟨v, _, θ, I', g, rv.grow I.tupOut g, q⟩

theorem RepVs.one {h : Heap} {v : V} {xs : List Value} (r : RepVs h θ [v] xs) : ∃ x, xs = [x] ∧ RepV h θ v x := by
  cases r with | cons a b => cases b; exact ⟨_, rfl, a⟩
theorem RepVs.two {h : Heap} {v u : V} {xs : List Value} (r : RepVs h θ [v, u] xs) : ∃ x y, xs = [x, y] ∧ RepV h θ v x ∧ RepV h θ u y := by
  cases r with | cons a b => obtain ⟨y, rfl, q⟩ := b.one; exact ⟨_, _, rfl, a, q⟩
theorem RepVs.three {h : Heap} {v u t : V} {xs : List Value} (r : RepVs h θ [v, u, t] xs) : ∃ x y z, xs = [x, y, z] ∧ RepV h θ v x ∧ RepV h θ u y ∧ RepV h θ t z := by
  cases r with | cons a b => obtain ⟨y, z, rfl, q⟩ := b.two; exact ⟨_, _, _, rfl, a, q⟩

theorem sz {xs : List Value} {l : List V} {h : Heap} (r : RepVs h θ l xs) (hl : l.length ≤ 10000) : xs.toArray.size ≤ sizeLine := by rw [List.size_toArray, ← r.length, sizeLine_eq]; omega

theorem CALL_append {n : Nat} {l : List V} {v : V} (hn : σ[n]? = some (.list l)) (hsz : l.length ≤ 10000) (h : Q .none (σ.set n (.list (l ++ [v])))) : CALL c d (.raw (.builtin "list.append")) [.loc n, v] σ Q := fun A s θ f' vs' r I rf rv => by
  cases rf
  obtain ⟨x, v', rfl, r1, r2⟩ := rv.two
  obtain ⟨a, rfl, e⟩ := r1.ofLoc
  obtain ⟨xs, k, hl, rl⟩ := I.isL hn e
  exact call_meets F.slot_list_append ⟨_, hl, rfl⟩ F.entry_list_append (F.args_list_append_2 _ _) (list_append a xs.toArray k v' (sz rl hsz)) ⟨hl, I.listUpd e hl (by simp) (rl.append (.cons r2 .nil)) .none h⟩

theorem CALL_pop {n : Nat} {l : List V} {v : V} (hn : σ[n]? = some (.list (l ++ [v]))) (hsz : l.length ≤ 9000) (h : Q v (σ.set n (.list l))) : CALL c d (.raw (.builtin "list.pop")) [.loc n] σ Q := fun A s θ f' vs' r I rf rv => by
  cases rf
  obtain ⟨x, rfl, r1⟩ := rv.one
  obtain ⟨a, rfl, e⟩ := r1.ofLoc
  obtain ⟨xs, k, hl, rl⟩ := I.isL hn e
  have hlen := rl.length
  simp at hlen
  obtain ⟨y, hy, ry⟩ := rl.at (i := l.length) (v := v) (by simp)
  have hy' : xs.toArray[xs.toArray.size - 1]? = some y := by rw [List.size_toArray, ← hlen]; simpa using hy
  refine call_meets F.slot_list_pop ⟨_, hl, rfl⟩ F.entry_list_pop (F.args_list_pop_1 _) (list_pop_last a xs.toArray k y hy' (sz rl (by simp; omega))) ⟨hl, ?_⟩
  refine I.listUpd (ys := xs.take l.length) (l' := l) e hl ?_ (by simpa using rl.take l.length) ry h
  rw [List.size_toArray, ← hlen]
  simp only [Nat.add_sub_cancel]
  have : xs = xs.take l.length ++ [y] := by
    have h1 : xs.drop l.length = [y] := by
      rw [List.drop_eq_getElem_cons (by omega)]
      have : xs[l.length]'(by omega) = y := by
        have := List.getElem?_eq_getElem (l := xs) (i := l.length) (by omega)
        rw [hy] at this; exact (Option.some.inj this).symm
      rw [this, List.drop_eq_nil_of_le (by omega)]
    conv => lhs; rw [← List.take_append_drop l.length xs, h1]
  rw [List.eraseIdxIfInBounds_toArray]
  congr 1
  conv => lhs; rw [this]
  rw [List.eraseIdx_append_of_length_le (by rw [List.length_take]; exact Nat.min_le_left ..)]
  simp [Nat.min_eq_left (show l.length ≤ xs.length by omega)]
end
end Mine
end
section
open PySem PySem.W PySem.Calls PyProof.Rows
set_option Elab.async false
set_option linter.unusedVariables false
namespace Mine
section
variable {c : Cx} {sc : Sc} {d : Nat} {ρ : Vars} {σ : St} {Q : Post} {R : Fl → Vars → St → Prop} {A : Around} {env : Env} {s s₁ : Shared} {θ θ₁ : List Addr}

def hand : V → Bool
  | .raw (.builtin _) => false
  | _ => true
theorem handedIn_of {h : Heap} {v : V} {v' : Value} (e : hand v = true) (r : RepV h θ v v') : handedIn v' = true := by
  cases r with
  | raw => cases v' <;> first | rfl | cases e
  | _ => rfl

/-- what a class says of a name -/
structure AttrOf (K : Frag) (C : Addr) (name : Str) : Prop where
  g : plainGet K C name = true
  h : hasDictIn K C = true
  a : ∃ attr, findIn K (.ref C) name = some attr ∧ noGet K attr = true

theorem Inv.inst (I : Inv c s θ σ) {n k : Nat} {C : Addr} {l : List (Str × V)} (hn : σ[n]? = some (.inst C k)) (hk : σ[k]? = some (.attrs l)) {a : Addr} (e : θ[n]? = some a) :
    ∃ dx es m, θ[k]? = some dx ∧ s.heap.get? dx = some (dictOf es m) ∧ RepAs s.heap θ l es ∧ InstAt s.heap a (instObj C dx) C (some (dictOf es m)) := by
  obtain ⟨dx, h1, h2⟩ := I.rep.obj n _ a hn e
  obtain ⟨es, m, h3, h4⟩ := I.rep.obj k _ dx hk h1
  exact ⟨dx, es, m, h1, h3, h4, ⟨h2, rfl, rfl, h3⟩⟩

def ATTR (c : Cx) (d : Nat) (o : V) (name : Str) (σ : St) (Q : Post) : Prop :=
  ∀ A s θ o' b, Room A d → Inv c s θ σ → RepV s.heap θ o o' → wpAny (model c.prog c.w) A (getAttr o' name b) (OkV c s θ Q) NoE s

theorem ATTR_inst (Cc : CxOk c) {n k : Nat} {C : Addr} {l : List (Str × V)} {name : Str} {v : V} (hn : σ[n]? = some (.inst C k)) (hk : σ[k]? = some (.attrs l)) (hv : get l name = some v) (ha : AttrOf c.K C name) (hh : hand v = true) (h : Q v σ) :
    ATTR c d (.loc n) name σ Q := fun A s θ o' b r I ro => by
  obtain ⟨a, rfl, e⟩ := ro.ofLoc
  obtain ⟨dx, es, m, h1, h2, h3, I'⟩ := I.inst hn hk e
  have q := h3.find name
  rw [hv] at q
  obtain ⟨v', q1, q2⟩ := q
  obtain ⟨attr, a1, a2⟩ := ha.a
  exact get_value (Cc.K.keeps I.keep) I' (plainGet_of ha.g).1 (findObj_own ha.h a1 a2 (show lookIn name (dictOf es m) = some (some v') from q1)) (handedIn_of hh q2) (I.okVt q2 h)

theorem EV_Attr {o : Expr} {name : Str} {pos : Pos} (h : EV c sc d o ρ σ fun ov σ₁ => ATTR c d ov name σ₁ Q)
    (he : ∀ env, eval (.Attribute o name pos) env = (do
      let ov ← eval o env
      standAt pos.atName
      let r ← holding [ov] (getAttr ov name true)
      letTemporaryGo o ov r
      pure r) := by exact fun _ => rfl) : EV c sc d (.Attribute o name pos) ρ σ Q := fun A env s θ r X I F => by
  rw [he env]
  refine wpAny_bind (wpAny_mono (h A env s θ r X I F) (fun o' s₁ h₁ => wpAny_bind (wpAny_standAt ?_)) fun _ _ x => x)
  obtain ⟨o, σ₁, θ₁, I₁, g₁, ro, q⟩ := h₁
  refine wpAny_bind (wpAny_holding (wpAny_mono (q A s₁ θ₁ o' true r I₁ ro) (fun v' s₂ h₂ => ?_) fun _ _ x => x))
  exact wpAny_bind (wpAny_letTemporaryGo (wpAny_pure (h₂.trans g₁)))

/-- a method of an instance's class -/
structure MethOf (K : Frag) (C : Addr) (name : Str) (f : Addr) : Prop where
  g : plainGet K C name = true
  find : findIn K (.ref C) name = some (some (.ref f))
  t : isFn K (.ref f) = true

theorem GM_inst (Cc : CxOk c) {n k : Nat} {C f : Addr} {l : List (Str × V)} {name : Str} {Q : V → List V → St → Prop} (hn : σ[n]? = some (.inst C k)) (hk : σ[k]? = some (.attrs l)) (hv : get l name = none) (ha : MethOf c.K C name f) (h : Q (.raw (.ref f)) [.loc n] σ) :
    GM c d (.loc n) name σ Q := fun A s θ o' pl r I ro => by
  obtain ⟨a, rfl, e⟩ := ro.ofLoc
  obtain ⟨dx, es, m, h1, h2, h3, I'⟩ := I.inst hn hk e
  have q := h3.find name
  rw [hv] at q
  exact method_fn (Cc.K.keeps I.keep) I' (plainGet_of ha.g).1 (plainGet_of ha.g).2 ha.find (beq_iff_eq.mp ha.t) (by show (lookIn name (dictOf es m)).map _ = _; rw [lookIn_dict, q]; rfl) ⟨_, [.loc n], σ, θ, I, Grow.refl _ _, .raw _, .cons (.loc n a e) .nil, h⟩

/-- what a class says of storing under a name -/
structure StoreOf (K : Frag) (C : Addr) (name : Str) : Prop where
  s : findIn K (.ref C) "__setattr__" = some (some (.builtin "object.__setattr__"))
  p : plainOver K C = true
  t : takerIn K C name = some none
  h : hasDictIn K C = true

def OkU (c : Cx) (s : Shared) (θ : List Addr) (Q : St → Prop) : Unit → Shared → Prop := fun _ s' => ∃ σ' θ', Inv c s' θ' σ' ∧ Grow s.heap θ s'.heap θ' ∧ Q σ'

theorem setAttr_ok (Cc : CxOk c) {n k : Nat} {C : Addr} {l : List (Str × V)} {name : Str} {v : V} {o' v' : Value} {Q : St → Prop} (I : Inv c s θ σ) (ro : RepV s.heap θ (.loc n) o') (rv : RepV s.heap θ v v')
    (hn : σ[n]? = some (.inst C k)) (hk : σ[k]? = some (.attrs l)) (ha : StoreOf c.K C name) (hz : l.length ≤ 900) (h : Q (σ.set k (.attrs (put l name v)))) :
    wpAny (model c.prog c.w) A (setAttr o' name v') (OkU c s θ Q) NoE s := by
  obtain ⟨a, rfl, e⟩ := ro.ofLoc
  obtain ⟨dx, es, m, h1, h2, h3, I'⟩ := I.inst hn hk e
  have X := Cc.K.keeps I.keep
  refine set_plain X I' ha.s ?_
  refine osa_open (s := { s with toks := s.toks + 1 }) X I' ha.p ha.t fun b => ?_
  obtain ⟨cd, hc, hd'⟩ := any_some ha.h
  have hx := I'.at_
  refine wpAny_bind (wpAny_pure (wpAny_bind (wpAny_bind (wpAny_loadPart hx (wpAny_bind (looks_clsIn X hc _ _ _ _ (fun _ _ e => e) ?_))))))
  rw [hd']
  refine wpAny_pure (a := some dx) (wpAny_bind (wpAny_pure (wpAny_bind ?_)))
  unfold nsSet
  refine wpAny_bind (wpAny_bind (wpAny_askSetting (wpAny_pure (wpAny_bind (wpAny_mkText (wpAny_bind (wpAny_loadPart h2 ?_)))))))
  dsimp only
  have cN : (!es.toArray.any (·.key.isStr name) && es.toArray.any (·.refKey)) = false := by
    have : es.toArray.any (·.refKey) = false := by rw [List.any_toArray]; exact h3.refKey
    rw [this, Bool.and_false]
  rw [aRefKeyMayBeTheName_at, cN]
  refine wpAny_updatePart h2 ?_
  have fz : Obj.putName name (PyData.keyHash c.w.params name) (.str name (s.toks + 1)) v' (dictOf es m) = dictOf (putL name (PyData.keyHash c.w.params name) (.str name (s.toks + 1)) v' es) (putN name es m) := putName_dict ..
  have D' : (s.heap.update dx (Obj.putName name (PyData.keyHash c.w.params name) (.str name (s.toks + 1)) v')).get? dx = some (dictOf (putL name (PyData.keyHash c.w.params name) (.str name (s.toks + 1)) v' es) (putN name es m)) := by
    rw [Heap.get?_update_self _ h2 (by rw [fz]; rfl), fz]
  have hs : Heap.SameBut dx s.heap (s.heap.update dx (Obj.putName name (PyData.keyHash c.w.params name) (.str name (s.toks + 1)) v')) := Heap.SameBut.update ..
  have g : Grow s.heap θ (s.heap.update dx (Obj.putName name (PyData.keyHash c.w.params name) (.str name (s.toks + 1)) v')) θ := ⟨⟨[], (List.append_nil _).symm⟩, fun _ m n => (n m).elim, fun b o e' n => (hs.2 b (fun z => n (z ▸ List.mem_of_getElem? h1))).trans e'⟩
  have hR := (h3.grow I.tupOut g).put (x := name) (t := s.toks + 1) (hsh := PyData.keyHash c.w.params name) (rv.grow I.tupOut g)
  have hlen : (putL name (PyData.keyHash c.w.params name) (.str name (s.toks + 1)) v' es).length ≤ 1000 := by
    have : (put l name v).length ≤ l.length + 1 := by
      clear hR h hk hz h3
      induction l with
      | nil => simp [put]
      | cons p r ih => obtain ⟨y, u⟩ := p; unfold put; split <;> simp <;> omega
    rw [← hR.length]; omega
  refine wpAny_bind (wpAny_lookBehind D' (pastItsLine_dict (by rw [List.size_toArray, sizeLine_eq]; omega)) ?_)
  refine wpAny_pure ?_
  obtain ⟨I₂, _⟩ := I.upd (o' := .attrs (put l name v)) (t := s.toks + 1 + 1) h1 hs ⟨_, _, D', hR⟩
  exact ⟨_, θ, I₂, g, h⟩
end
end Mine
end
section
open PySem PySem.W PySem.Calls PyProof.Rows
set_option Elab.async false
set_option linter.unusedVariables false
namespace Mine
section
variable {c : Cx} {sc : Sc} {d : Nat} {ρ : Vars} {σ : St} {Q : Post} {R : Fl → Vars → St → Prop} {A : Around} {env : Env} {s s₁ : Shared} {θ θ₁ : List Addr} {a b : Int} {x y : Str}

-- ints
theorem BIN_add (h : Q (.int (a + b)) σ) : BIN c d .Add (.int a) (.int b) σ Q := fun A s θ a' b' r I ra rb => by cases ra; cases rb; exact add_int (I.okVt (.int _ _) h)
theorem BIN_sub (h : Q (.int (a - b)) σ) : BIN c d .Sub (.int a) (.int b) σ Q := fun A s θ a' b' r I ra rb => by cases ra; cases rb; exact sub_int (I.okVt (.int _ _) h)
theorem BIN_mul (hm : PySem.IntMulOk a b) (h : Q (.int (a * b)) σ) : BIN c d .Mult (.int a) (.int b) σ Q := fun A s θ a' b' r I ra rb => by cases ra; cases rb; exact PySem.AutoIntOps.mul_0 (I.okVt (.int _ _) h) hm
theorem BIN_mod (hb : b ≠ 0) (h : Q (.int (a.fmod b)) σ) : BIN c d .Mod (.int a) (.int b) σ Q := fun A s θ a' b' r I ra rb => by cases ra; cases rb; exact mod_int hb (I.okVt (.int _ _) h)
theorem BIN_floordiv (hb : b ≠ 0) (hp : Builtin.divisionGoesByPylong a b = false) (h : Q (.int (a.fdiv b)) σ) : BIN c d .FloorDiv (.int a) (.int b) σ Q := fun A s θ a' b' r I ra rb => by
  cases ra; cases rb; exact PySem.AutoIntOps.floordiv_1 (by simpa using hb) (by rw [hp]; exact Bool.false_ne_true) (I.okVt (.int _ _) h)
theorem BIN_lshift (hb : 0 ≤ b) (hz : (Builtin.Int.intBits a : Int) + b ≤ 2 ^ 27) (h : Q (.int (a * 2 ^ b.toNat)) σ) : BIN c d .LShift (.int a) (.int b) σ Q := fun A s θ a' b' r I ra rb => by cases ra; cases rb; exact lshift_int hb hz (I.okVt (.int _ _) h)
theorem BIN_and (h : Q (.int (Builtin.bitAnd a b)) σ) : BIN c d .BitAnd (.int a) (.int b) σ Q := fun A s θ a' b' r I ra rb => by cases ra; cases rb; exact and_int (I.okVt (.int _ _) h)
theorem BIN_or (h : Q (.int (Builtin.bitOr a b)) σ) : BIN c d .BitOr (.int a) (.int b) σ Q := fun A s θ a' b' r I ra rb => by cases ra; cases rb; exact or_int (I.okVt (.int _ _) h)

theorem CMP_lt (h : Q (.bool (decide (a < b))) σ) : CMP c d .Lt (.int a) (.int b) σ Q := fun A s θ a' b' r I ra rb => by cases ra; cases rb; exact lt_int (I.okV (.bool _) h)
theorem CMP_gt (h : Q (.bool (decide (b < a))) σ) : CMP c d .Gt (.int a) (.int b) σ Q := fun A s θ a' b' r I ra rb => by cases ra; cases rb; exact gt_int (I.okV (.bool _) h)
theorem CMP_le (h : Q (.bool (decide (a ≤ b))) σ) : CMP c d .LtE (.int a) (.int b) σ Q := fun A s θ a' b' r I ra rb => by cases ra; cases rb; exact le_int (I.okV (.bool _) h)
theorem CMP_ge (h : Q (.bool (decide (b ≤ a))) σ) : CMP c d .GtE (.int a) (.int b) σ Q := fun A s θ a' b' r I ra rb => by cases ra; cases rb; exact ge_int (I.okV (.bool _) h)
theorem CMP_eq (h : Q (.bool (decide (a = b))) σ) : CMP c d .Eq (.int a) (.int b) σ Q := fun A s θ a' b' r I ra rb => by cases ra; cases rb; exact PyProof.Rows.eq_int (I.okV (.bool _) h)
theorem CMP_ne (h : Q (.bool (!decide (a = b))) σ) : CMP c d .NotEq (.int a) (.int b) σ Q := fun A s θ a' b' r I ra rb => by cases ra; cases rb; exact PyProof.Rows.ne_int (I.okV (.bool _) h)
theorem CMP_eqS (h : Q (.bool (decide (x = y))) σ) : CMP c d .Eq (.str x) (.str y) σ Q := fun A s θ a' b' r I ra rb => by cases ra; cases rb; exact PyProof.Rows.eq_str (I.okV (.bool _) (by rw [show (x == y) = decide (x = y) from by by_cases h : x = y <;> simp [h]]; exact h))
theorem CMP_neS (h : Q (.bool (!decide (x = y))) σ) : CMP c d .NotEq (.str x) (.str y) σ Q := fun A s θ a' b' r I ra rb => by cases ra; cases rb; exact PyProof.Rows.ne_str (I.okV (.bool _) (by rw [show (x != y) = !decide (x = y) from by by_cases h : x = y <;> simp [h]]; exact h))

def isNone : V → Bool
  | .none => true
  | _ => false
theorem CMP_is {v : V} (hv : ∀ u, v ≠ .raw u) (h : Q (.bool (isNone v)) σ) : CMP c d .Is v .none σ Q := fun A s θ a' b' r I ra rb => by
  cases rb
  refine PySem.is_none (I.okV (.bool _) ?_)
  cases ra with
  | raw v => exact absurd rfl (hv _)
  | _ => exact h
theorem CMP_isNot {v : V} (hv : ∀ u, v ≠ .raw u) (h : Q (.bool (!isNone v)) σ) : CMP c d .IsNot v .none σ Q := fun A s θ a' b' r I ra rb => by
  cases rb
  refine PySem.isNot_none (I.okV (.bool _) ?_)
  cases ra with
  | raw v => exact absurd rfl (hv _)
  | _ => exact h

theorem repStrs {h : Heap} : ∀ {ys : List Str} {xs : List Value}, RepVs h θ (ys.map .str) xs → ∀ z ∈ xs, ∃ y t, z = .str y t
  | [], _, .nil, _, m => nomatch m
  | y :: ys, _, .cons a b, z, m => by
    rcases List.mem_cons.mp m with rfl | m
    · cases a; exact ⟨_, _, rfl⟩
    · exact repStrs b z m
def eqTo (x : Str) : Value → Bool
  | .str y _ => y == x
  | _ => false
theorem anyStrs {h : Heap} : ∀ {ys : List Str} {xs : List Value}, RepVs h θ (ys.map .str) xs → xs.any (eqTo x) = decide (x ∈ ys)
  | [], _, .nil => by simp
  | y :: ys, _, .cons a b => by
    cases a
    rw [List.any_cons, anyStrs b]
    show ((y == x) || decide (x ∈ ys)) = _
    by_cases h : x = y
    · subst h; simp
    · have h' : (y == x) = false := by simp; exact fun e => h e.symm
      rw [h']; simp [h]
theorem eqToGives {h : Heap} {ys : List Str} {xs : List Value} (r : RepVs h θ (ys.map .str) xs) (t : Tok) : ∀ z, z ∈ xs.toArray → MeetsSeq.EqGives z (.str x t) (eqTo x z) := fun z m => by
  obtain ⟨y, u, rfl⟩ := repStrs r z (by simpa using m)
  exact eqGives_str _ _ _ _

theorem CMP_inT {ys : List Str} (h : Q (.bool (decide (x ∈ ys))) σ) : CMP c d .In (.str x) (.tup (ys.map .str)) σ Q := fun A s θ a' b' r I ra rb => by
  cases ra; cases rb with
  | tup l a xs ht hr =>
    obtain ⟨n, ht⟩ := ht
    exact PySem.SeqRoads2.in_tuple (eqTo x) (eqToGives hr _) ht (I.okV (.bool _) (by rw [List.any_toArray, anyStrs hr]; exact h))
theorem CMP_inL {n : Nat} {ys : List Str} (hn : σ[n]? = some (.list (ys.map .str))) (h : Q (.bool (decide (x ∈ ys))) σ) : CMP c d .In (.str x) (.loc n) σ Q := fun A s θ a' b' r I ra rb => by
  cases ra
  obtain ⟨a, rfl, e⟩ := rb.ofLoc
  obtain ⟨xs, k, hl, rl⟩ := I.isL hn e
  exact PySem.SeqRoads2.in_list (eqTo x) (eqToGives rl _) hl (I.okV (.bool _) (by rw [List.any_toArray, anyStrs rl]; exact h))
theorem CMP_notInL {n : Nat} {ys : List Str} (hn : σ[n]? = some (.list (ys.map .str))) (h : Q (.bool (!decide (x ∈ ys))) σ) : CMP c d .NotIn (.str x) (.loc n) σ Q := fun A s θ a' b' r I ra rb => by
  cases ra
  obtain ⟨a, rfl, e⟩ := rb.ofLoc
  obtain ⟨xs, k, hl, rl⟩ := I.isL hn e
  exact PySem.SeqRoads2.notIn_list (eqTo x) (eqToGives rl _) hl (I.okV (.bool _) (by rw [List.any_toArray, anyStrs rl]; exact h))

-- dicts
def getK {K : Type} [DecidableEq K] {α : Type} : List (K × α) → K → Option α
  | [], _ => none
  | (y, v) :: r, x => if y = x then some v else getK r x
def putK {K : Type} [DecidableEq K] {α : Type} (l : List (K × α)) (x : K) (v : α) : List (K × α) :=
  if l.any (fun kv => kv.1 = x) then l.map (fun kv => if kv.1 = x then (kv.1, v) else kv) else l ++ [(x, v)]
theorem RepKs.val {K : Type} [DecidableEq K] {h : Heap} {l : List (K × V)} {kvs : List (K × Value)} (r : RepKs h θ l kvs) (k : K) :
    match getK l k with | some v => ∃ v', valueAt kvs k = some v' ∧ RepV h θ v v' | none => valueAt kvs k = none := by
  induction r with
  | nil => rfl
  | @cons y v x l xs a _ ih =>
    unfold getK
    unfold valueAt
    rw [List.find?_cons]
    by_cases hy : y = k
    · rw [if_pos hy, decide_eq_true hy]; exact ⟨_, rfl, a⟩
    · rw [if_neg hy, decide_eq_false hy]; exact ih
theorem RepKs.some? {K : Type} [DecidableEq K] {h : Heap} {l : List (K × V)} {kvs : List (K × Value)} (r : RepKs h θ l kvs) (k : K) : (valueAt kvs k).isSome = (getK l k).isSome := by
  have := r.val k
  split at this
  · rename_i e; obtain ⟨v', e', _⟩ := this; rw [e, e']; rfl
  · rename_i e; rw [e, this]; rfl
theorem RepKs.any {K : Type} [DecidableEq K] {h : Heap} {l : List (K × V)} {kvs : List (K × Value)} (r : RepKs h θ l kvs) (k : K) : kvs.any (fun kv => kv.1 = k) = l.any (fun kv => kv.1 = k) := by
  induction r with
  | nil => rfl
  | cons a _ ih => rw [List.any_cons, List.any_cons, ih]
theorem RepKs.append {K : Type} {h : Heap} {l : List (K × V)} {kvs : List (K × Value)} (r : RepKs h θ l kvs) {k : K} {v : V} {v' : Value} (rv : RepV h θ v v') : RepKs h θ (l ++ [(k, v)]) (kvs ++ [(k, v')]) := by
  induction r with
  | nil => exact .cons rv .nil
  | cons a _ ih => exact .cons a ih
theorem RepKs.mapped {K : Type} [DecidableEq K] {h : Heap} {l : List (K × V)} {kvs : List (K × Value)} (r : RepKs h θ l kvs) {k : K} {v : V} {v' : Value} (rv : RepV h θ v v') :
    RepKs h θ (l.map fun kv => if kv.1 = k then (kv.1, v) else kv) (kvs.map fun kv => if kv.1 = k then (kv.1, v') else kv) := by
  induction r with
  | nil => exact .nil
  | @cons y u x l xs a _ ih =>
    rw [List.map_cons, List.map_cons]
    by_cases hy : y = k
    · rw [if_pos hy, if_pos hy]; exact .cons rv ih
    · rw [if_neg hy, if_neg hy]; exact .cons a ih
theorem RepKs.stored {K : Type} [DecidableEq K] {h : Heap} {l : List (K × V)} {kvs : List (K × Value)} (r : RepKs h θ l kvs) {k : K} {v : V} {v' : Value} (rv : RepV h θ v v') : RepKs h θ (putK l k v) (PySem.stored kvs k v') := by
  unfold putK PySem.stored
  rw [r.any k]
  split
  · exact r.mapped rv
  · exact r.append rv
theorem RepKs.length {K : Type} {h : Heap} {l : List (K × V)} {kvs : List (K × Value)} (r : RepKs h θ l kvs) : l.length = kvs.length := by
  induction r with
  | nil => rfl
  | cons _ _ ih => exact congrArg Nat.succ ih

theorem Inv.notMods (I : Inv c s θ σ) {n : Nat} {a : Addr} (e : θ[n]? = some a) : (a == sysModules) = false := by
  have := (I.apart a (List.mem_of_getElem? e)).2
  have h1 : a ≠ sysModules := fun z => by rw [z] at this; exact absurd this (by decide)
  simpa using h1
theorem isStr_is (x : Str) (t : Tok) : (strKind c.prog c.w).is x (.str x t) = true := strKind_is c.prog c.w x t
theorem isInt_is (i : Int) (t : Tok) : (intKind c.prog c.w).is i (.int i t) = true := by simp [intKind, Value.isInt]

theorem CMP_inDS {n : Nat} {l : List (Str × V)} (hn : σ[n]? = some (.dictS l)) (h : Q (.bool (getK l x).isSome) σ) : CMP c d .In (.str x) (.loc n) σ Q := fun A s θ a' b' r I ra rb => by
  cases ra
  obtain ⟨a, rfl, e⟩ := rb.ofLoc
  obtain ⟨kvs, hd, hr⟩ := I.rep.obj n _ a hn e
  exact wpAny_in_of (isStr_is x _) (I.notMods e) hd.mapOf (I.okVt (.bool _) (by rw [hr.some?]; exact h))
theorem notIn_of {K : Type} [DecidableEq K] {knd : KeyKind c.prog c.w K} {k : K} {key : Value} {dd : Addr} {f : K → Option Value} {Q : Value → Shared → Prop} {E : Value → Shared → Prop} (hkey : knd.is k key = true) (hd : (dd == sysModules) = false) (hm : s.heap.MapOf knd dd f)
    (h : Q (.bool (!(f k).isSome)) { s with toks := s.toks + 1 }) : wpAny (model c.prog c.w) A (compareOp .NotIn key (.ref dd)) Q E s := wpAny_notIn_of hkey hd hm h
theorem CMP_notInDS {n : Nat} {l : List (Str × V)} (hn : σ[n]? = some (.dictS l)) (h : Q (.bool (!(getK l x).isSome)) σ) : CMP c d .NotIn (.str x) (.loc n) σ Q := fun A s θ a' b' r I ra rb => by
  cases ra
  obtain ⟨a, rfl, e⟩ := rb.ofLoc
  obtain ⟨kvs, hd, hr⟩ := I.rep.obj n _ a hn e
  exact notIn_of (isStr_is x _) (I.notMods e) hd.mapOf (I.okVt (.bool _) (by rw [hr.some?]; exact h))
theorem CMP_notInDI {n : Nat} {l : List (Int × V)} (hn : σ[n]? = some (.dictI l)) (h : Q (.bool (!(getK l a).isSome)) σ) : CMP c d .NotIn (.int a) (.loc n) σ Q := fun A s θ a' b' r I ra rb => by
  cases ra
  obtain ⟨z, rfl, e⟩ := rb.ofLoc
  obtain ⟨kvs, hd, hr⟩ := I.rep.obj n _ z hn e
  exact notIn_of (isInt_is a _) (I.notMods e) hd.mapOf (I.okVt (.bool _) (by rw [hr.some?]; exact h))
end
end Mine
end
section
open PySem PySem.W PySem.Calls PyProof.Rows PySem.MeetsSeq PySem.MeetsSeq2 PySem.MeetsSeq3
set_option Elab.async false
set_option linter.unusedVariables false
namespace Mine
section
variable {c : Cx} {sc : Sc} {d : Nat} {ρ : Vars} {σ : St} {Q : Post} {B : Bool → St → Prop} {A : Around} {env : Env} {s s₁ : Shared} {θ θ₁ : List Addr} {a b : Int} {x y : Str}

theorem TRU_bool {b : Bool} (h : B b σ) : TRU c d (.bool b) σ B := fun A s θ a' r I ra => by cases ra; exact wpAny_truthy_bool (I.okB h)
theorem TRU_int (h : B (a != 0) σ) : TRU c d (.int a) σ B := fun A s θ a' r I ra => by cases ra; exact P.truthy_int (I.okB h)
theorem TRU_none (h : B false σ) : TRU c d .none σ B := fun A s θ a' r I ra => by cases ra; exact truthy_none (I.okB h)

theorem ET_val {e : Expr} (h : EV c sc d e ρ σ fun v σ₁ => TRU c d v σ₁ B)
    (he : ∀ env, PySem.isTrue e env (eval e env) = (do
          let v ← eval e env
          standAt e.pos
          holding [v] (truthy v)) := by exact fun _ => rfl) : ET c sc d e ρ σ B := fun A env s θ r X I F => by
  refine wpAny_isTrue_value (wpAny_mono (h A env s θ r X I F) (fun v' s₁ h₁ => ?_) fun _ _ x => x) (he env)
  obtain ⟨v, σ₁, θ₁, I₁, g₁, rv, q⟩ := h₁
  exact wpB.trans g₁ (q A s₁ θ₁ v' r I₁ rv)
theorem ET_cmp {l r : Expr} {op : CmpOp} {pos : Pos} (h : EV c sc d l ρ σ fun a σ₁ => EV c sc d r ρ σ₁ fun b σ₂ => CMP c d op a b σ₂ fun v σ₃ => TRU c d v σ₃ B)
    (hm : behindInMarks op r = false := by with_unfolding_all rfl) : ET c sc d (.Compare l [op] [r] pos) ρ σ B := fun A env s θ R X I F => by
  refine wpAny_isTrue_Compare1 (wpAny_mono (h A env s θ R X I F) (fun a' s₁ h₁ => ?_) fun _ _ x => x) hm
  obtain ⟨a, σ₁, θ₁, I₁, g₁, ra, q₁⟩ := h₁
  refine wpAny_mono (q₁ A env s₁ θ₁ R X I₁ (F.grow I.tupOut g₁)) (fun b' s₂ h₂ => ?_) fun _ _ x => x
  obtain ⟨b, σ₂, θ₂, I₂, g₂, rb, q₂⟩ := h₂
  refine wpAny_mono (q₂ A s₂ θ₂ a' b' R I₂ (ra.grow I₁.tupOut g₂) rb) (fun c' s₃ h₃ => ?_) fun _ _ x => x
  obtain ⟨v, σ₃, θ₃, I₃, g₃, rv, q₃⟩ := h₃
  exact wpB.trans ((g₁.trans g₂).trans g₃) (q₃ A s₃ θ₃ c' R I₃ rv)
theorem ET_not {e : Expr} {pos : Pos} (h : ET c sc d e ρ σ fun b σ₁ => B (!b) σ₁) : ET c sc d (.UnaryOp .Not e pos) ρ σ B := fun A env s θ R X I F =>
  wpAny_isTrue_Not (wpAny_mono (h A env s θ R X I F) (fun b s₁ h₁ => h₁) fun _ _ x => x)

def ETA (c : Cx) (sc : Sc) (d : Nat) (op : BoolOp) (es : List Expr) (ρ : Vars) (σ : St) (B : Bool → St → Prop) : Prop :=
  ∀ A env s θ, Room A d → EnvIs sc env → Inv c s θ σ → FrA c s.heap θ env ρ → wpAny (model c.prog c.w) A (allTrue op es env) (OkB c s θ B) NoE s
theorem ET_BoolOp {op : BoolOp} {es : List Expr} {pos : Pos} (h : ETA c sc d op es ρ σ B) : ET c sc d (.BoolOp op es pos) ρ σ B := fun A env s θ R X I F => wpAny_isTrue_BoolOp (h A env s θ R X I F)
theorem ETA_And_nil (h : B true σ) : ETA c sc d .And [] ρ σ B := fun A env s θ R X I F => wpAny_allTrue_And_nil (I.okB h)
theorem ETA_Or_nil (h : B false σ) : ETA c sc d .Or [] ρ σ B := fun A env s θ R X I F => wpAny_allTrue_Or_nil (I.okB h)
theorem ETA_And_cons {e : Expr} {es : List Expr} (h : ET c sc d e ρ σ fun b σ₁ => if b = true then ETA c sc d .And es ρ σ₁ B else B false σ₁) : ETA c sc d .And (e :: es) ρ σ B := fun A env s θ R X I F => by
  refine wpAny_allTrue_And_cons (wpAny_mono (h A env s θ R X I F) (fun b s₁ h₁ => ?_) fun _ _ x => x)
  obtain ⟨σ₁, θ₁, I₁, g₁, q⟩ := h₁
  cases b with
  | true => exact wpB.trans g₁ (q A env s₁ θ₁ R X I₁ (F.grow I.tupOut g₁))
  | false => exact ⟨σ₁, θ₁, I₁, g₁, q⟩
theorem ETA_Or_cons {e : Expr} {es : List Expr} (h : ET c sc d e ρ σ fun b σ₁ => if b = true then B true σ₁ else ETA c sc d .Or es ρ σ₁ B) : ETA c sc d .Or (e :: es) ρ σ B := fun A env s θ R X I F => by
  refine wpAny_allTrue_Or_cons (wpAny_mono (h A env s θ R X I F) (fun b s₁ h₁ => ?_) fun _ _ x => x)
  obtain ⟨σ₁, θ₁, I₁, g₁, q⟩ := h₁
  cases b with
  | true => exact ⟨σ₁, θ₁, I₁, g₁, q⟩
  | false => exact wpB.trans g₁ (q A env s₁ θ₁ R X I₁ (F.grow I.tupOut g₁))

theorem EV_neg {e : Expr} {pos : Pos} (h : EV c sc d e ρ σ fun v σ₁ => ∃ i, v = .int i ∧ Q (.int (-i)) σ₁) : EV c sc d (.UnaryOp .USub e pos) ρ σ Q := fun A env s θ R X I F => by
  refine wpAny_UnaryOp (wpAny_mono (h A env s θ R X I F) (fun v' s₁ h₁ => ?_) fun _ _ x => x)
  obtain ⟨v, σ₁, θ₁, I₁, g₁, rv, i, rfl, q⟩ := h₁
  cases rv
  exact neg_int (.trans g₁ (I₁.okVt (.int _ _) q))
theorem EV_not {e : Expr} {pos : Pos} (h : EV c sc d e ρ σ fun v σ₁ => TRU c d v σ₁ fun b σ₂ => Q (.bool !b) σ₂) : EV c sc d (.UnaryOp .Not e pos) ρ σ Q := fun A env s θ R X I F => by
  refine wpAny_UnaryOp (wpAny_mono (h A env s θ R X I F) (fun v' s₁ h₁ => ?_) fun _ _ x => x)
  obtain ⟨v, σ₁, θ₁, I₁, g₁, rv, q⟩ := h₁
  refine not_value (wpAny_mono (q A s₁ θ₁ v' R I₁ rv) (fun b s₂ h₂ => ?_) fun _ _ x => x)
  obtain ⟨σ₂, θ₂, I₂, g₂, q₂⟩ := h₂
  exact ⟨.bool !b, σ₂, θ₂, I₂, g₁.trans g₂, .bool _, q₂⟩
end
end Mine
end
section
open PySem PySem.W PySem.Calls PyProof.Rows PySem.MeetsSeq PySem.MeetsSeq2 PySem.MeetsSeq3
set_option Elab.async false
set_option linter.unusedVariables false
namespace Mine
section
variable {c : Cx} {sc : Sc} {d : Nat} {ρ : Vars} {σ : St} {Q : Post} {R : Fl → Vars → St → Prop} {A : Around} {env : Env} {s s₁ : Shared} {θ θ₁ : List Addr} {x y : Str}

/-- a list, frozen or of the store -/
def isList (σ : St) (v : V) (l : List V) : Prop := v = .lst l ∨ ∃ n, v = .loc n ∧ (σ[n]? = some (.list l) ∨ ∃ xs k, σ[n]? = some (.fz xs k l))

theorem Inv.asL (I : Inv c s θ σ) {v : V} {l : List V} {v' : Value} (h : isList σ v l) (r : RepV s.heap θ v v') : ∃ a xs k, v' = .ref a ∧ IsL s.heap a xs.toArray k ∧ RepVs s.heap θ l xs := by
  rcases h with rfl | ⟨n, rfl, h⟩
  · cases r with | lst l a xs n nm hl hs => exact ⟨a, xs, n, rfl, hl, hs⟩
  · obtain ⟨a, rfl, e⟩ := r.ofLoc
    rcases h with h | ⟨xs, k, h⟩
    · obtain ⟨xs, k, hl, rl⟩ := I.rep.obj n _ a h e; exact ⟨a, xs, k, rfl, hl, rl⟩
    · obtain ⟨hl, rl⟩ := I.rep.obj n _ a h e; exact ⟨a, xs, k, rfl, hl, rl⟩

/-- a new frozen list -/
theorem Inv.frozen (I : Inv c s θ σ) {vs : List V} {vs' : List Value} {t : Nat} (r : RepVs s.heap θ vs vs') (q : Q (.lst vs) σ) :
    OkV c s θ Q (.ref s.heap.objs.size) { s with heap := s.heap.push { cls := .type "list", data := .seq vs'.toArray }, toks := t } := by
  have k : ∀ b o, s.heap.get? b = some o → (s.heap.push { cls := .type "list", data := .seq vs'.toArray }).get? b = some o := fun b o e => Heap.get?_push_of_some _ e
  exact ⟨.lst vs, σ, θ, I.keeps k, grow_keeps k, .lst vs _ vs' 0 (I.new (Nat.le_refl _)).1 (Heap.get?_push_size _ rfl) (r.grow I.tupOut (grow_keeps k)), q⟩
theorem EV_ListF {es : List Expr} {pos : Pos} (h : EVs c sc d es ρ σ fun vs σ₁ => vs.length ≤ 1000 ∧ Q (.lst vs) σ₁) : EV c sc d (.List es pos) ρ σ Q := fun A env s θ r X I F => by
  refine List_ (wpAny_mono (h A env pos s θ r X I F) (fun vs' s₁ h₁ => ?_) fun _ _ x => x)
  obtain ⟨vs, σ₁, θ₁, I₁, g₁, rv, hl, q⟩ := h₁
  exact wpV.trans g₁ (wpAny_newObj_type (by exact I₁.frozen (t := s₁.toks) rv q) (by show vs'.toArray.size ≤ sizeLine; rw [List.size_toArray, ← rv.length, sizeLine_eq]; omega))

def GI (c : Cx) (d : Nat) (o i : V) (σ : St) (Q : Post) : Prop :=
  ∀ A s θ o' i', Room A d → Inv c s θ σ → RepV s.heap θ o o' → RepV s.heap θ i i' →
    (∃ T id, s.TypeIs o' T ∧ typeLookup (.type T) (Str.ofString "__getitem__") = pure (some (.builtin id))) ∧ wpAny (model c.prog c.w) A (getItem o' i') (OkV c s θ Q) NoE s

theorem EV_Sub {o i : Expr} {pos : Pos} (h : EV c sc d o ρ σ fun ov σ₁ => EV c sc d i ρ σ₁ fun iv σ₂ => GI c d ov iv σ₂ Q)
    (hs : ∀ ov iv, ∃ ops, subscripted i false ov iv = operate ops (getItem ov iv) := by exact fun _ _ => ⟨_, rfl⟩) : EV c sc d (.Subscript o i pos) ρ σ Q := fun A env s θ r X I F => by
  refine Subscript_ (wpAny_mono (h A env s θ r X I F) (fun o' s₁ h₁ => ?_) fun _ _ x => x)
  obtain ⟨ov, σ₁, θ₁, I₁, g₁, ro, q₁⟩ := h₁
  refine wpAny_mono (q₁ A env s₁ θ₁ r X I₁ (F.grow I.tupOut g₁)) (fun i' s₂ h₂ => ?_) fun _ _ x => x
  obtain ⟨iv, σ₂, θ₂, I₂, g₂, ri, q₂⟩ := h₂
  obtain ⟨⟨T, id, hT, hl⟩, q⟩ := q₂ A s₂ θ₂ o' i' r I₂ (ro.grow I₁.tupOut g₂) ri
  obtain ⟨ops, hs⟩ := hs o' i'
  exact tail_any hT hl (wpV.trans (g₁.trans g₂) q) hs

theorem GI_list {o v : V} {l : List V} {k : Int} (hl : isList σ o l) (h0 : 0 ≤ k) (hx : l[k.toNat]? = some v) (h : Q v σ) (hz : k < 2 ^ 63 := by decide) : GI c d o (.int k) σ Q := fun A s θ o' i' r I ro ri => by
  cases ri
  obtain ⟨a, xs, n, rfl, hL, rl⟩ := I.asL hl ro
  obtain ⟨v', e, rv⟩ := rl.at hx
  exact ⟨⟨_, _, hL.isList.typeIs, slot_list_getitem.lookup⟩, wpAny_getItem_list hL.isList h0 hz (x := v') (by simpa using e) (I.okV rv h)⟩
theorem GI_tup {v : V} {l : List V} {k : Int} (h0 : 0 ≤ k) (hx : l[k.toNat]? = some v) (h : Q v σ) (hz : k < 2 ^ 63 := by decide) : GI c d (.tup l) (.int k) σ Q := fun A s θ o' i' r I ro ri => by
  cases ri
  cases ro with
  | tup l a xs ht hs =>
    obtain ⟨v', e, rv⟩ := hs.at hx
    have hk : k = (k.toNat : Int) := (Int.toNat_of_nonneg h0).symm
    have hn : k.toNat < xs.length := (List.getElem?_eq_some_iff.mp e).1
    exact ⟨⟨_, _, ht.isTup.typeIs, slot_tuple_getitem.lookup⟩, getItem_tuple ht.isTup (by omega) hz (seqIndex_of h0 (by simpa using (by omega : k < (xs.length : Int)))) (x := v') (by simpa using e) (I.okV rv h)⟩
theorem GI_dictS {n : Nat} {l : List (Str × V)} {v : V} (hn : σ[n]? = some (.dictS l)) (hx : getK l x = some v) (h : Q v σ) : GI c d (.loc n) (.str x) σ Q := fun A s θ o' i' r I ro ri => by
  cases ri
  obtain ⟨a, rfl, e⟩ := ro.ofLoc
  obtain ⟨kvs, hd, hr⟩ := I.rep.obj n _ a hn e
  have q := hr.val x
  rw [hx] at q
  obtain ⟨v', q1, q2⟩ := q
  exact ⟨⟨_, _, hd.typeIs, slot_dict_getitem.lookup⟩, wpAny_getItem_of (isStr_is x _) hd.mapOf q1 (I.okVt q2 h)⟩
theorem GI_dictI {n : Nat} {l : List (Int × V)} {k : Int} {v : V} (hn : σ[n]? = some (.dictI l)) (hx : getK l k = some v) (h : Q v σ) : GI c d (.loc n) (.int k) σ Q := fun A s θ o' i' r I ro ri => by
  cases ri
  obtain ⟨a, rfl, e⟩ := ro.ofLoc
  obtain ⟨kvs, hd, hr⟩ := I.rep.obj n _ a hn e
  have q := hr.val k
  rw [hx] at q
  obtain ⟨v', q1, q2⟩ := q
  exact ⟨⟨_, _, hd.typeIs, slot_dict_getitem.lookup⟩, wpAny_getItem_of (isInt_is k _) hd.mapOf q1 (I.okVt q2 h)⟩
theorem GI_str {k : Int} {ch : Nat} (h0 : 0 ≤ k) (hx : x.cps[k.toNat]? = some ch) (h : Q (.str ⟨#[ch]⟩) σ) (hz : k < 2 ^ 63 := by decide) : GI c d (.str x) (.int k) σ Q := fun A s θ o' i' r I ro ri => by
  cases ri; cases ro
  have hn : k.toNat < x.cps.size := (Array.getElem?_eq_some_iff.mp hx).1
  refine ⟨⟨_, _, (by exact rfl), slot_str_getitem.lookup⟩, getItem_str (c := ch) ?_ ?_ (I.okVt (.str _ _) h)⟩
  · simp; omega
  · rw [seqIndex_of h0 (by show k < (x.length : Int); unfold Str.length; omega)]; exact hx
end
end Mine
end
section
open PySem PySem.W PySem.Calls PyProof.Rows PySem.MeetsSeq PySem.MeetsSeq2 PySem.MeetsSeq3
set_option Elab.async false
set_option linter.unusedVariables false
namespace Mine

section
variable {prog : Program} {w : World} {A : Around} {E : Value → Shared → Prop} {s : Shared}
theorem draw_list {it t : Addr} {items : Array Value} (hne : t ≠ it) : ∀ (n i : Nat) (s : Shared) (Q : List Value → Shared → Prop), s.heap.IsListIter it t i → s.heap.IsList t items → i + n ≤ items.size →
    (∀ h', h'.IsListIter it t (i + n) → Heap.SameBut it s.heap h' → Q ((items.toList.drop i).take n) { s with heap := h' }) → wpAny (model prog w) A (draw (.ref it) n) Q E s
  | 0, i, s, Q, hit, _, _, hQ => by
    show wpAny _ _ (pure []) Q E s
    exact wpAny_pure (by simpa using hQ s.heap hit (Heap.SameBut.refl ..))
  | n + 1, i, s, Q, hit, ht, hle, hQ => by
    have hlt : i < items.size := by omega
    show wpAny _ _ (pyNext (.ref it) >>= _) Q E s
    refine wpAny_bind (wpAny_pyNext_list_item hit ht (x := items[i]) (by simp [hlt]) fun h₁ hit₁ hs₁ => ?_)
    refine wpAny_bind (wpAny_holding (draw_list hne n (i + 1) _ _ hit₁ (ht.extBut hs₁.extBut hne) (by omega) fun h₂ hit₂ hs₂ => wpAny_pure ?_))
    have hd : items.toList.drop i = items[i] :: items.toList.drop (i + 1) := by simp [List.drop_eq_getElem_cons, hlt]
    have := hQ h₂ (by rw [show i + (n + 1) = i + 1 + n by omega]; exact hit₂) (hs₁.trans hs₂)
    rw [hd, List.take_succ_cons] at this
    exact this

theorem unpackItems_list {t : Addr} {items : Array Value} {Q : List Value → Shared → Prop} (hh : A.handled = none) (ht : s.heap.IsList t items)
    (hQ : ∀ h', Heap.ExtBut s.heap.objs.size s.heap h' → Q items.toList { s with heap := h' }) : wpAny (model prog w) A (unpackItems (.ref t) items.size none) Q E s := by
  have hlt : t ≠ s.heap.objs.size := by obtain ⟨o, ho, _⟩ := ht; exact Nat.ne_of_lt (Heap.lt_size ho)
  unfold unpackItems
  refine wpAny_bind ?_
  · unfold notIterableAtAll
    refine wpAny_bind (wpAny_specialOf ht.typeIs F.slot_list_iter.lookup ?_)
    refine wpAny_pure ?_
    simp only [Bool.false_eq_true, if_false]
    refine wpAny_bind (wpAny_holding (wpAny_pyIter_list ht ?_))
    refine wpAny_bind (wpAny_holding (draw_list hlt items.size 0 _ _ ⟨_, Heap.get?_push_size _ rfl, rfl, rfl⟩ (ht.push _) (by omega) fun h₁ hit₁ hs₁ => ?_))
    have hall : List.take items.size (List.drop 0 items.toList) = items.toList := by
      rw [List.drop_zero]; exact List.take_of_length_le (by simp)
    rw [hall]
    rw [if_neg (by simp)]
    have ht₁ : h₁.IsList t items := (ht.push _).extBut hs₁.extBut hlt
    refine wpAny_bind (wpAny_holding (wpAny_pyNext_list_end hh hit₁ ht₁ (by simp) fun h₂ he₂ => ?_))
    simp only [Option.isSome_none, Bool.false_eq_true, if_false]
    refine wpAny_pure (hQ h₂ fun b o hb e => he₂ b o hb (hs₁.extBut b o hb (Heap.get?_push_of_some _ e)))
theorem unpack_list {t : Addr} {items : Array Value} {targets : List (Bool × (Value → Sem Unit))} {Q : Unit → Shared → Prop} (hh : A.handled = none) (ht : s.heap.IsList t items)
    (hn : targets.length = items.size) (hstar : targets.findIdx? (·.1) = none)
    (h : ∀ h', Heap.ExtBut s.heap.objs.size s.heap h' → wpAny (model prog w) A (assignInOrder (targets.map (·.2)) items.toList) Q E { s with heap := h' }) :
    wpAny (model prog w) A (unpack (.ref t) targets) Q E s := by
  unfold unpack
  rw [hn, hstar]
  exact wpAny_bind (wpAny_holding (unpackItems_list hh ht h))
theorem setItem_listL {l : Addr} {items : Array Value} {k : Int} {t : Tok} {v : Value} {Q : Unit → Shared → Prop} (hl : s.heap.IsList l items)
    (h0 : 0 ≤ k) (hfit : k < 2 ^ 63) (hn : k < items.size)
    (hQ : Q () { s with heap := s.heap.update l (Obj.mapSeq (·.setIfInBounds k.toNat v)) }) :
    wpAny (model prog w) A (setItem (.ref l) (.int k t) v) Q E s := by
  obtain ⟨o, ho, hc, ne, hd⟩ := id hl
  unfold setItem
  try with_reducible refine wpAny_holding ?_
  first | refine wpAny_bind (wpAny_pure ?_) | skip
  refine wpAny_bind (wpAny_sequenceKey hl.typeIs (by decide) ?_)
  refine wpAny_bind (wpAny_callSpecial?_slot (name := Str.ofString "__setitem__") hl.typeIs slot_list_setitem
    (wpAny_call_entry slot_list_setitem hl.typeIs entry_list_setitem ?_ (args_list_setitem _ _ _)))
  show wpAny _ _ (Builtin.List.listSubscript? (.int k t) >>= _) _ _ s
  refine wpAny_bind (wpAny_listSubscript_int (fitsIndex_of h0 hfit) ?_)
  clear hfit
  obtain ⟨j, rfl⟩ := Int.eq_ofNat_of_zero_le h0
  have hj : j < items.size := by omega
  have hx' : items[j]? = some items[j] := Array.getElem?_eq_getElem hj
  show wpAny _ _ ((seqItemAt l j >>= fun r => pure (r.map (j, ·))) >>= _) _ _ s
  refine wpAny_bind (wpAny_bind (wpAny_seqItemAt ho hd (wpAny_pure ?_)))
  rw [hx']
  show wpAny _ _ (setSeqItemAt l j v >>= _) _ _ s
  refine wpAny_bind (wpAny_setSeqItemAt ho hd ?_)
  first
    | exact wpAny_bind (wpAny_pure (wpAny_pure ⟨.none, rfl, wpAny_pure hQ⟩))
    | exact wpAny_pure ⟨.none, rfl, wpAny_pure hQ⟩
end

def namesOf : List Expr → Option (List Str)
  | [] => some []
  | .Name x _ :: r => (namesOf r).map (x :: ·)
  | _ => none

theorem namesOf_cons {e : Expr} {es : List Expr} {xs : List Str} (h : namesOf (e :: es) = some xs) : ∃ x p ys, e = .Name x p ∧ xs = x :: ys ∧ namesOf es = some ys := by
  cases e <;> first | cases h | skip
  rename_i x p
  unfold namesOf at h
  obtain ⟨ys, h1, rfl⟩ := Option.map_eq_some_iff.mp h
  exact ⟨x, p, ys, rfl, rfl, h1⟩

theorem assignEach_len (env : Env) : ∀ (es : List Expr), (assignEach es env).length = es.length
  | [] => rfl
  | e :: es => by
    have := assignEach_len env es
    cases e <;> (unfold assignEach; rw [List.length_cons, List.length_cons, this])
theorem assignEach_noStar (env : Env) : ∀ (es : List Expr) {xs : List Str}, namesOf es = some xs → (assignEach es env).findIdx? (·.1) = none
  | [], _, _ => rfl
  | e :: es, xs, h => by
    obtain ⟨x, p, ys, rfl, rfl, h1⟩ := namesOf_cons h
    have := assignEach_noStar env es h1
    unfold assignEach
    rw [List.findIdx?_cons, this]; rfl
theorem namesOf_len : ∀ {es : List Expr} {xs : List Str}, namesOf es = some xs → es.length = xs.length
  | [], _, h => by cases h; rfl
  | e :: es, xs, h => by
    obtain ⟨x, p, ys, rfl, rfl, h1⟩ := namesOf_cons h
    rw [List.length_cons, List.length_cons, namesOf_len h1]

section
variable {c : Cx} {sc : Sc} {d : Nat} {ρ : Vars} {σ : St} {Q : Post} {R : Fl → Vars → St → Prop} {A : Around} {env : Env} {s s₁ : Shared} {θ θ₁ : List Addr} {x y : Str}

def kindOk (sc : Sc) (x : Str) : Prop := sc.scope.names.lookup x = some .local ∨ sc.scope.names.lookup x = some .cell

inductive StL (M : Model) (A : Around) (env : Env) : List Str → List (Value → Sem Unit) → Prop
  | nil : StL M A env [] []
  | cons {x : Str} {f : Value → Sem Unit} {xs : List Str} {fs : List (Value → Sem Unit)} : (∀ v' (P : Unit → Shared → Prop) s, wpAny M A (storeName env x v') P NoE s → wpAny M A (f v') P NoE s) → StL M A env xs fs → StL M A env (x :: xs) (f :: fs)

theorem FrA.ownNoT (F : FrA c s.heap θ env ρ) : ∀ b, own env b → ∀ items, ¬ IsT s.heap b items := by
  rintro b (rfl | ⟨n', e'⟩) items ⟨n, e⟩
  · obtain ⟨m, cm, hm, hc, hr⟩ := F.at_; obtain ⟨o', es, ep, e2, hd2, _⟩ := hm; rw [e] at e2; cases e2; cases hd2
  · obtain ⟨m, cm, hm, hc, hr⟩ := F.at_; obtain ⟨o', e2, hd2⟩ := hc n' b e'; rw [e] at e2; cases e2; cases hd2
theorem FrA.ownNoL (F : FrA c s.heap θ env ρ) : ∀ b, own env b → ∀ items n, ¬ IsL s.heap b items n := by
  rintro b (rfl | ⟨n', e'⟩) items n e
  · obtain ⟨m, cm, hm, hc, hr⟩ := F.at_; obtain ⟨o', es, ep, e2, hd2, _⟩ := hm; rw [show s.heap.get? _ = _ from e] at e2; cases e2; cases hd2
  · obtain ⟨m, cm, hm, hc, hr⟩ := F.at_; obtain ⟨o', e2, hd2⟩ := hc n' b e'; rw [show s.heap.get? _ = _ from e] at e2; cases e2; cases hd2
theorem repSame (F : FrA c s.heap θ env ρ) (hsame : ∀ a, ¬ own env a → s₁.heap.get? a = s.heap.get? a) {v : V} {x : Value} (q : RepV s.heap θ v x) : RepV s₁.heap θ v x :=
  RepV.rec (motive_1 := fun v v' _ => RepV s₁.heap θ v v') (motive_2 := fun v v' _ => RepVs s₁.heap θ v v') .none .bool .int .str .raw .loc
    (fun l b xs ht _ ih => .tup l b xs (by obtain ⟨n, e⟩ := ht; exact ⟨n, (hsame b fun o => F.ownNoT b o _ ⟨n, e⟩).trans e⟩) ih)
    (fun l b xs n nm e _ ih => .lst l b xs n nm ((hsame b fun o => F.ownNoL b o _ _ e).trans e) ih) .nil (fun _ _ a b => .cons a b) q

theorem inOrder_ok (X : EnvIs sc env) {xs : List Str} {fs : List (Value → Sem Unit)} (L : StL (model c.prog c.w) A env xs fs) :
    ∀ (vs : List V) (vs' : List Value) (ρ : Vars) (s : Shared), Inv c s θ σ → FrA c s.heap θ env ρ → RepVs s.heap θ vs vs' → xs.length = vs.length → (∀ x ∈ xs, kindOk sc x) →
    ∀ {P : Unit → Shared → Prop}, (∀ s₁, Inv c s₁ θ σ → FrA c s₁.heap θ env (binds xs vs ρ) → GrowX (own env) s.heap θ s₁.heap θ → P () s₁) → wpAny (model c.prog c.w) A (assignInOrder fs vs') P NoE s := by
  induction L with
  | nil =>
    intro vs vs' ρ s I F rv hl hk P h
    cases vs with
    | cons => cases hl
    | nil => cases rv; exact wpAny_pure (h s I F (GrowX.refl ..))
  | @cons x f xs fs hf L ih =>
    intro vs vs' ρ s I F rv hl hk P h
    cases rv with
    | nil => cases hl
    | @cons v v' vs vs' ra rb =>
      show wpAny _ _ (holding vs' (f v') >>= fun _ => assignInOrder fs vs') _ _ _
      refine wpAny_bind (wpAny_holding (hf v' _ s (storeName_ok X I F (hk x List.mem_cons_self) ra fun s₁ I₁ F₁ g₁ hsame => ?_)))
      exact ih vs vs' (put ρ x v) s₁ I₁ F₁ (rb.mapM fun q => repSame F hsame q) (by simpa using hl) (fun y hy => hk y (List.mem_cons_of_mem _ hy)) fun s₂ I₂ F₂ g₂ => h s₂ I₂ F₂ (GrowX.trans F₁.ownX g₁ g₂)

theorem stl_names {M : Model} : ∀ {es : List Expr} {xs : List Str}, namesOf es = some xs → StL M A env xs ((assignEach es env).map (·.2))
  | [], _, h => by cases h; exact .nil
  | e :: es, xs, h => by
    obtain ⟨x, p, ys, rfl, rfl, h1⟩ := namesOf_cons h
    unfold assignEach
    exact .cons (fun v' P s h => wpAny_assign_Name h) (stl_names h1)
theorem stl_binds {M : Model} : ∀ (xs : List Str), StL M A env xs (xs.map fun n => bindName env n)
  | [] => .nil
  | x :: xs => .cons (fun v' P s h => wpAny_bindName h) (stl_binds xs)

/-- how a target takes a value -/
inductive AS (sc : Sc) : Expr → V → Vars → Vars → Prop
  | name {x : Str} {p : Pos} {v : V} {ρ : Vars} : kindOk sc x → AS sc (.Name x p) v ρ (put ρ x v)
  | tup {es : List Expr} {k : Nat} {p : Pos} {xs : List Str} {vs : List V} {ρ : Vars} : namesOf es = some xs → xs.length = vs.length → (∀ x ∈ xs, kindOk sc x) → AS sc (.Tuple es k p) (.tup vs) ρ (binds xs vs ρ)
  | lst {es : List Expr} {k : Nat} {p : Pos} {xs : List Str} {vs : List V} {ρ : Vars} : namesOf es = some xs → xs.length = vs.length → (∀ x ∈ xs, kindOk sc x) → AS sc (.Tuple es k p) (.lst vs) ρ (binds xs vs ρ)

theorem Inv.extNew (I : Inv c s θ σ) {h' : Heap} (e : Heap.ExtBut s.heap.objs.size s.heap h') : ∀ b o, s.heap.get? b = some o → h'.get? b = some o := fun b o x => e b o (Nat.ne_of_lt (Heap.lt_size x)) x

theorem Inv.ext (I : Inv c s θ σ) (F : FrA c s.heap θ env ρ) {h' : Heap} (e : Heap.ExtBut s.heap.objs.size s.heap h') : Inv c { s with heap := h' } θ σ ∧ FrA c h' θ env ρ ∧ Grow s.heap θ h' θ ∧ ∀ {v : V} {x : Value}, RepV s.heap θ v x → RepV h' θ v x :=
  have g : Grow s.heap θ h' θ := grow_keeps (I.extNew e)
  ⟨I.keeps (I.extNew e), F.grow I.tupOut g, g, fun q => q.grow I.tupOut g⟩

theorem assign_ok (X : EnvIs sc env) (I : Inv c s θ σ) (F : FrA c s.heap θ env ρ) (hh : A.handled = none) {t : Expr} {v : V} {v' : Value} {ρ' : Vars} (a : AS sc t v ρ ρ') (r : RepV s.heap θ v v')
    {P : Unit → Shared → Prop} (h : ∀ s₁, Inv c s₁ θ σ → FrA c s₁.heap θ env ρ' → GrowX (own env) s.heap θ s₁.heap θ → P () s₁) : wpAny (model c.prog c.w) A (assign t env v') P NoE s := by
  cases a with
  | name hk => exact wpAny_assign_Name (storeName_ok X I F hk r fun s₁ I₁ F₁ g₁ _ => h s₁ I₁ F₁ g₁)
  | @tup es k p xs vs ρ hn hl hk =>
    cases r with
    | tup l b ys ht hr =>
      refine wpAny_assign_Tuple hh ht.isTup ?_ (assignEach_noStar env es hn) fun h' e => ?_
      · rw [assignEach_len, namesOf_len hn, hl, hr.length]; simp
      · obtain ⟨I', F', g', q'⟩ := I.ext F e
        exact inOrder_ok X (stl_names hn) vs _ ρ _ I' F' (by simpa using hr.mapM q') hl hk fun s₁ I₁ F₁ g₁ => h s₁ I₁ F₁ (GrowX.trans F'.ownX g'.x g₁)
  | @lst es k p xs vs ρ hn hl hk =>
    cases r with
    | lst l b ys n nm ht hr =>
      rw [arm_assign_Tuple]
      refine wpAny_bind (wpAny_standAt (unpack_list hh (IsL.isList (n := n) ht) ?_ (assignEach_noStar env es hn) fun h' e => ?_))
      · rw [assignEach_len, namesOf_len hn, hl, hr.length]; simp
      · obtain ⟨I', F', g', q'⟩ := I.ext F e
        exact inOrder_ok X (stl_names hn) vs _ ρ _ I' F' (by simpa using hr.mapM q') hl hk fun s₁ I₁ F₁ g₁ => h s₁ I₁ F₁ (GrowX.trans F'.ownX g'.x g₁)

theorem EX_AssignT {es : List Expr} {k : Nat} {tp pos : Pos} {value : Expr} (h : EV c sc d value ρ σ fun v σ₁ => ∃ ρ', AS sc (.Tuple es k tp) v ρ ρ' ∧ R .next ρ' σ₁)
    (hs : ∀ env, swapsWithSole [.Tuple es k tp] value pos.line env = pure false := by intro _; rfl)
    (hw : ∀ env : Env, env.scope = sc.scope → swappedStores [.Tuple es k tp] value env = pure none := by intro _ _; rfl) : EX c sc d (.Assign [.Tuple es k tp] value pos) ρ σ R := fun A env s θ r X I F => by
  refine Assign_Tuple (wpAny_mono (h A env s θ r X I F) (fun v' s₁ h₁ => ?_) fun _ _ x => x) (hs env) (hw env X.scope)
  obtain ⟨v, σ₁, θ₁, I₁, g₁, rv, ρ', a, q⟩ := h₁
  have F₁ := F.grow I.tupOut g₁
  exact assign_ok X I₁ F₁ r.handled a rv fun s₂ I₂ F₂ g₂ => ⟨.next, ρ', σ₁, θ₁, I₂, F₂, GrowX.trans F₁.ownX g₁.x g₂, .next, q⟩
theorem RepVs.rev {h : Heap} {vs : List V} {xs : List Value} (r : RepVs h θ vs xs) : RepVs h θ vs.reverse xs.reverse := r.reverse
theorem EX_AssignSw {es : List Expr} {k : Nat} {tp pos : Pos} {value : Expr} {xs : List Str} (hk : ∀ x ∈ xs, kindOk sc x) (h : EV c sc d value ρ σ fun v σ₁ => ∃ vs, v = .tup vs ∧ xs.length = vs.length ∧ R .next (binds xs.reverse vs.reverse ρ) σ₁)
    (hw : ∀ env : Env, env.scope = sc.scope → swappedStores [.Tuple es k tp] value env = pure (some xs))
    (hs : ∀ env, swapsWithSole [.Tuple es k tp] value pos.line env = pure false := by intro _; rfl) : EX c sc d (.Assign [.Tuple es k tp] value pos) ρ σ R := fun A env s θ r X I F => by
  refine Assign_Tuple_swapped (wpAny_mono (h A env s θ r X I F) (fun v' s₁ h₁ => ?_) fun _ _ x => x) (hs env) (hw env X.scope)
  obtain ⟨v, σ₁, θ₁, I₁, g₁, rv, vs, rfl, hl, q⟩ := h₁
  have F₁ := F.grow I.tupOut g₁
  cases rv with
  | tup l b ys ht hr =>
    have e : xs.length = ys.toArray.size := by rw [hl, hr.length]; simp
    rw [e]
    refine wpAny_unpackItems_tuple r.handled ht.isTup fun h' e => ?_
    obtain ⟨I', F', g', q'⟩ := I₁.ext F₁ e
    exact inOrder_ok X (stl_binds xs.reverse) vs.reverse _ ρ _ I' F' (by simpa using (hr.mapM q').reverse) (by simpa using hl) (fun x hx => hk x (by simpa using hx)) fun s₂ I₂ F₂ g₂ =>
      ⟨.next, _, σ₁, θ₁, I₂, F₂, GrowX.trans F₁.ownX g₁.x (GrowX.trans F'.ownX g'.x g₂), .next, q⟩

theorem EX_AssignAttr {o value : Expr} {attr : Str} {pos' pos : Pos} (h : EV c sc d value ρ σ fun v σ₁ => EV c sc d o ρ σ₁ fun ov σ₂ => ∃ n k C l, ov = .loc n ∧ σ₂[n]? = some (.inst C k) ∧ σ₂[k]? = some (.attrs l) ∧ StoreOf c.K C attr ∧ l.length ≤ 900 ∧ R .next ρ (σ₂.set k (.attrs (put l attr v)))) (Cc : CxOk c)
    (hs : ∀ env, swapsWith value (some (.Attribute o attr pos')) pos.line env = pure false := by intro _; rfl) : EX c sc d (.Assign [.Attribute o attr pos'] value pos) ρ σ R := fun A env s θ r X I F => by
  refine plainObj_wpAny_Assign_Attribute (wpAny_mono (h A env s θ r X I F) (fun v' s₁ h₁ => ?_) fun _ _ x => x) (hs env)
  obtain ⟨v, σ₁, θ₁, I₁, g₁, rv, q⟩ := h₁
  have F₁ := F.grow I.tupOut g₁
  refine wpAny_mono (q A env s₁ θ₁ r X I₁ F₁) (fun o' s₂ h₂ => ?_) fun _ _ x => x
  obtain ⟨ov, σ₂, θ₂, I₂, g₂, ro, n, k, C, l, rfl, h1, h2, h3, h4, q⟩ := h₂
  have F₂ := F₁.grow I₁.tupOut g₂
  refine wpAny_mono (setAttr_ok (Q := fun σ' => σ' = σ₂.set k (.attrs (put l attr v))) Cc I₂ ro (rv.grow I₁.tupOut g₂) h1 h2 h3 h4 rfl) (fun _ s₃ h₃ => ?_) fun _ _ x => x
  obtain ⟨σ₃, θ₃, I₃, g₃, rfl⟩ := h₃
  exact ⟨.next, ρ, _, θ₃, I₃, F₂.grow I₂.tupOut g₃, ((g₁.trans g₂).trans g₃).x, .next, q⟩

/-- o[i] = v -/
def SI (c : Cx) (d : Nat) (o i v : V) (σ : St) (Q : St → Prop) : Prop :=
  ∀ A s θ o' i' v', Room A d → Inv c s θ σ → RepV s.heap θ o o' → RepV s.heap θ i i' → RepV s.heap θ v v' → wpAny (model c.prog c.w) A (setItem o' i' v') (OkU c s θ Q) NoE s
theorem EX_AssignSub {o i value : Expr} {pos' pos : Pos} (h : EV c sc d value ρ σ fun v σ₁ => EV c sc d o ρ σ₁ fun ov σ₂ => EV c sc d i ρ σ₂ fun iv σ₃ => SI c d ov iv v σ₃ fun σ₄ => R .next ρ σ₄)
    (hs : ∀ env, swapsWith value (some (.Subscript o i pos')) pos.line env = pure false := by intro _; rfl) : EX c sc d (.Assign [.Subscript o i pos'] value pos) ρ σ R := fun A env s θ r X I F => by
  refine wpAny_Assign_Subscript (wpAny_mono (h A env s θ r X I F) (fun v' s₁ h₁ => ?_) fun _ _ x => x) (hs env)
  obtain ⟨v, σ₁, θ₁, I₁, g₁, rv, q⟩ := h₁
  have F₁ := F.grow I.tupOut g₁
  refine wpAny_mono (q A env s₁ θ₁ r X I₁ F₁) (fun o' s₂ h₂ => ?_) fun _ _ x => x
  obtain ⟨ov, σ₂, θ₂, I₂, g₂, ro, q⟩ := h₂
  have F₂ := F₁.grow I₁.tupOut g₂
  refine wpAny_mono (q A env s₂ θ₂ r X I₂ F₂) (fun i' s₃ h₃ => ?_) fun _ _ x => x
  obtain ⟨iv, σ₃, θ₃, I₃, g₃, ri, q⟩ := h₃
  have F₃ := F₂.grow I₂.tupOut g₃
  refine wpAny_mono (q A s₃ θ₃ o' i' v' r I₃ (ro.grow I₂.tupOut g₃) ri ((rv.grow I₁.tupOut g₂).grow I₂.tupOut g₃)) (fun _ s₄ h₄ => ?_) fun _ _ x => x
  obtain ⟨σ₄, θ₄, I₄, g₄, q⟩ := h₄
  exact ⟨.next, ρ, σ₄, θ₄, I₄, F₃.grow I₃.tupOut g₄, (((g₁.trans g₂).trans g₃).trans g₄).x, .next, q⟩

theorem SI_list {n : Nat} {l : List V} {k : Int} {v : V} {Q : St → Prop} (hn : σ[n]? = some (.list l)) (h0 : 0 ≤ k) (hk : k < l.length) (h : Q (σ.set n (.list (l.set k.toNat v)))) (hz : k < 2 ^ 63 := by decide) : SI c d (.loc n) (.int k) v σ Q := fun A s θ o' i' v' r I ro ri rv => by
  cases ri
  obtain ⟨a, rfl, e⟩ := ro.ofLoc
  obtain ⟨xs, m, hl, rl⟩ := I.isL hn e
  refine setItem_listL hl.isList h0 hz (by rw [List.size_toArray, ← rl.length]; exact hk) ?_
  obtain ⟨v₂, σ₂, θ₂, I₂, g₂, _, q⟩ := I.listUpd (Q := fun _ σ' => σ' = σ.set n (.list (l.set k.toNat v))) (t := s.toks) (ys := xs.set k.toNat v') (l' := l.set k.toNat v) (f := (·.setIfInBounds k.toNat v')) (v := .none) (v' := .none) e hl (by simp) (rl.set _ rv) .none rfl
  exact ⟨_, θ₂, I₂, g₂, q ▸ h⟩
theorem SI_dictS {n : Nat} {l : List (Str × V)} {v : V} {Q : St → Prop} (hn : σ[n]? = some (.dictS l)) (hz : l.length ≤ 9000) (h : Q (σ.set n (.dictS (putK l x v)))) : SI c d (.loc n) (.str x) v σ Q := fun A s θ o' i' v' r I ro ri rv => by
  cases ri
  obtain ⟨a, rfl, e⟩ := ro.ofLoc
  obtain ⟨kvs, hd, hr⟩ := I.rep.obj n _ a hn e
  refine wpAny_setItem_pairs (isStr_is x _) hd (fun h' hd' hs => ?_) (by rw [← hr.length, sizeLine_eq]; omega)
  have g : Grow s.heap θ h' θ := ⟨⟨[], (List.append_nil _).symm⟩, fun _ m n => (n m).elim, fun b o e' n => (hs.2 b (fun z => n (z ▸ List.mem_of_getElem? e))).trans e'⟩
  obtain ⟨I', g'⟩ := I.upd (o' := .dictS (putK l x v)) (t := s.toks + 1) e hs ⟨_, hd', (hr.grow I.tupOut g).stored (rv.grow I.tupOut g)⟩
  exact ⟨_, θ, I', g', h⟩
theorem SI_dictI {n : Nat} {l : List (Int × V)} {k : Int} {v : V} {Q : St → Prop} (hn : σ[n]? = some (.dictI l)) (hz : l.length ≤ 9000) (h : Q (σ.set n (.dictI (putK l k v)))) : SI c d (.loc n) (.int k) v σ Q := fun A s θ o' i' v' r I ro ri rv => by
  cases ri
  obtain ⟨a, rfl, e⟩ := ro.ofLoc
  obtain ⟨kvs, hd, hr⟩ := I.rep.obj n _ a hn e
  refine wpAny_setItem_pairs (isInt_is k _) hd (fun h' hd' hs => ?_) (by rw [← hr.length, sizeLine_eq]; omega)
  have g : Grow s.heap θ h' θ := ⟨⟨[], (List.append_nil _).symm⟩, fun _ m n => (n m).elim, fun b o e' n => (hs.2 b (fun z => n (z ▸ List.mem_of_getElem? e))).trans e'⟩
  obtain ⟨I', g'⟩ := I.upd (o' := .dictI (putK l k v)) (t := s.toks + 1) e hs ⟨_, hd', (hr.grow I.tupOut g).stored (rv.grow I.tupOut g)⟩
  exact ⟨_, θ, I', g', h⟩

theorem EX_Expr {e : Expr} {pos : Pos} (h : EV c sc d e ρ σ fun _ σ₁ => R .next ρ σ₁)
    (hs : ∀ env, swapsWith e none pos.line env = pure false := by intro _; rfl) : EX c sc d (.Expr e pos) ρ σ R := fun A env s θ r X I F => by
  refine wpAny_Expr_any (wpAny_mono (h A env s θ r X I F) (fun v' s₁ h₁ => ?_) fun _ _ x => x) (by unfold interactive; rw [X.fn]; rfl) (hs env)
  obtain ⟨v, σ₁, θ₁, I₁, g₁, rv, q⟩ := h₁
  exact ⟨.next, ρ, σ₁, θ₁, I₁, F.grow I.tupOut g₁, g₁.x, .next, q⟩
end
end Mine
end
section
open PySem PySem.W PySem.Calls PyProof.Rows PySem.MeetsSeq PySem.MeetsSeq2 PySem.MeetsSeq3
set_option Elab.async false
set_option linter.unusedVariables false
namespace Mine
section
variable {c : Cx} {sc : Sc} {d : Nat} {ρ : Vars} {σ : St} {Q : Post} {R : Fl → Vars → St → Prop} {A : Around} {env : Env} {s s₁ : Shared} {θ θ₁ : List Addr} {x y : Str}

/-- an iterator's own object -/
def Itl (h : Heap) (b : Addr) : Prop := ∃ o vs, h.get? b = some o ∧ o.data = .fields vs ∧ ∀ x t, vs[1]? ≠ some (.str x t)
theorem Itl.notT {h : Heap} {b : Addr} (x : Itl h b) (items : Array Value) : ¬ IsT h b items := by
  rintro ⟨n, e⟩; obtain ⟨o, vs, e', hd, _⟩ := x; rw [e] at e'; cases e'; cases hd
theorem Itl.notL {h : Heap} {b : Addr} (x : Itl h b) (items : Array Value) (n : Nat) : ¬ IsL h b items n := by
  intro e; obtain ⟨o, vs, e', hd, _⟩ := x; rw [show h.get? b = _ from e] at e'; cases e'; cases hd

/-- no value and no code stands here -/
structure Off (h : Heap) (b : Addr) : Prop where
  notT : ∀ items, ¬ IsT h b items
  notL : ∀ items n, ¬ IsL h b items n
  notC : ∀ o vs x t, h.get? b = some o → o.data = .fields vs → vs[1]? ≠ some (.str x t)
theorem Itl.off {h : Heap} {b : Addr} (q : Itl h b) : Off h b := ⟨q.notT, q.notL, fun o vs x t e hd => by
  obtain ⟨o2, vs2, g1, g2, g3⟩ := q
  rw [e] at g1; cases g1; rw [hd] at g2; cases g2; exact g3 _ _⟩
theorem Off.ns {h : Heap} {b : Addr} {m : Str → Option Value} (q : h.Ns b m) : Off h b := by
  obtain ⟨o', es, ep, e2, hd2, _⟩ := q
  exact ⟨fun items q => by (obtain ⟨n, e⟩ := q; rw [e] at e2; cases e2; cases hd2), fun items n e => by (rw [show h.get? b = _ from e] at e2; cases e2; cases hd2), fun o vs x t e hd => by rw [e] at e2; cases e2; rw [hd] at hd2; cases hd2⟩

theorem RepV.but {h h' : Heap} {W : Addr → Prop} (hw : ∀ b, W b → Off h b) (hk : ∀ b o, ¬ W b → h.get? b = some o → h'.get? b = some o) {v : V} {x : Value} (q : RepV h θ v x) : RepV h' θ v x :=
  RepV.rec (motive_1 := fun v v' _ => RepV h' θ v v') (motive_2 := fun v v' _ => RepVs h' θ v v') .none .bool .int .str .raw .loc
    (fun l b xs ht _ ih => .tup l b xs (by obtain ⟨n, e⟩ := ht; exact ⟨n, hk b _ (fun z => (hw b z).notT _ ⟨n, e⟩) e⟩) ih)
    (fun l b xs n nm e _ ih => .lst l b xs n nm (hk b _ (fun z => (hw b z).notL _ _ e) e) ih) .nil (fun _ _ a b => .cons a b) q

/-- iterators may turn -/
theorem Inv.but {W : Addr → Prop} (I : Inv c s θ σ) {h' : Heap} {t : Nat} (hw : ∀ b, W b → Off s.heap b ∧ b ∉ θ ∧ c.hb.get? b = none) (hk : ∀ b o, ¬ W b → s.heap.get? b = some o → h'.get? b = some o) : Inv c { s with heap := h', toks := t } θ σ := by
  have rv : ∀ {v : V} {x : Value}, RepV s.heap θ v x → RepV h' θ v x := fun q => q.but (fun b z => (hw b z).1) hk
  have hks : ∀ {Ky : Type} {v : List (Ky × V)} {v' : List (Ky × Value)}, RepKs s.heap θ v v' → RepKs h' θ v v' := by
    intro Ky v v' q
    induction q with
    | nil => exact .nil
    | cons p _ ih => exact .cons (rv p) ih
  have has : ∀ {v : List (Str × V)} {v' : List DictEntry}, RepAs s.heap θ v v' → RepAs h' θ v v' := by
    intro v v' q
    induction q with
    | nil => exact .nil
    | cons e p _ ih => exact .cons e (rv p) ih
  refine ⟨fun b o e => hk b o (fun z => by rw [(hw b z).2.2] at e; cases e) (I.keep b o e), I.apart, I.nodup, ⟨I.rep.len, fun i o b e1 e2 => ?_⟩, I.gens, I.os⟩
  have hb : ∀ ob, s.heap.get? b = some ob → h'.get? b = some ob := fun ob e => hk b ob (fun z => (hw b z).2.1 (List.mem_of_getElem? e2)) e
  have q := I.rep.obj i o b e1 e2
  cases o with
  | list l => obtain ⟨xs, n, e', q⟩ := q; exact ⟨xs, n, hb _ e', q.mapM rv⟩
  | fz xs n l => obtain ⟨e', q⟩ := q; exact ⟨hb _ e', q.mapM rv⟩
  | dictS es => obtain ⟨xs, ⟨o', x, y, e', z⟩, q⟩ := q; exact ⟨xs, ⟨o', x, y, hb _ e', z⟩, hks q⟩
  | dictI es => obtain ⟨xs, ⟨o', x, y, e', z⟩, q⟩ := q; exact ⟨xs, ⟨o', x, y, hb _ e', z⟩, hks q⟩
  | attrs es => obtain ⟨xs, n, e', q⟩ := q; exact ⟨xs, n, hb _ e', has q⟩
  | inst C d => obtain ⟨dx, q, e'⟩ := q; exact ⟨dx, q, hb _ e'⟩
  | tab P ps => obtain ⟨q, e', z⟩ := q; exact ⟨q, hb _ e', z⟩
  | fn P =>
    obtain ⟨fd, p, e', ⟨c', oc, vs, t, e1, e2, e3, e4⟩⟩ := q
    refine ⟨fd, p, hb _ e', ⟨c', oc, vs, t, e1, hk _ _ (fun z => ?_) e2, e3, e4⟩⟩
    exact (hw c' z).1.notC _ _ _ _ e2 e3 e4
theorem FrA.but {W : Addr → Prop} (F : FrA c s.heap θ env ρ) {h' : Heap} (hw : ∀ b, W b → Off s.heap b ∧ ¬ own env b) (hk : ∀ b o, ¬ W b → s.heap.get? b = some o → h'.get? b = some o) : FrA c h' θ env ρ := by
  obtain ⟨⟨m, cm, hm, hc, hr⟩, lo, lob, cl, ap⟩ := F
  refine ⟨⟨m, cm, hm.at' fun o e => hk _ _ (fun z => (hw _ z).2 (.inl rfl)) e, fun n k e => ?_, fun x v e => ?_⟩, lo, lob, cl, ap⟩
  · obtain ⟨o, e', r⟩ := hc n k e; exact ⟨o, hk _ _ (fun z => (hw _ z).2 (.inr ⟨n, e⟩)) e', r⟩
  · obtain ⟨v', a, b⟩ := hr x v e; exact ⟨v', a.but (fun b z => (hw b z).1) hk, b⟩

def ITEM (target : Expr) (h₂ : Heap) (θ : List Addr) (h : Heap) (x : V) (v : Value) : Prop := RepV h₂ θ x v ∨ ∃ T vals xs, (∃ es k p, target = .Tuple es k p) ∧ v = .ref T ∧ x = .tup xs ∧ h.IsTuple T vals.toArray ∧ RepVs h₂ θ xs vals

/-- an iterator that gives the items of l; K: what the store must go on to say -/
def IT (c : Cx) (A : Around) (target : Expr) (env : Env) (s s₂ : Shared) (θ : List Addr) (K : St → Prop) (it : Value) (l : List V) : Prop :=
  ∃ (I : Addr) (fp wr : List Addr) (P Md : Nat → Value → Heap → Prop) (S : Nat → Heap → Prop), it = .ref I ∧ KTurns c.prog c.w A target I fp wr l.length P Md S ∧ S 0 s₂.heap ∧
    (∀ b ∈ wr, s.heap.get? b = none ∧ b ∉ θ ∧ c.hb.get? b = none) ∧
    (∀ b ∈ fp, ¬ own env b ∧ (b ∉ θ ∨ ∃ (n : Nat) (xs : List Value) (k : Nat) (l' : List V), θ[n]? = some b ∧ ∀ σ' : St, K σ' → σ'[n]? = some (SO.fz xs k l'))) ∧
    (∀ i h b, S i h → b ∈ wr → Itl h b) ∧
    (∀ i h b, S i h → b ∈ fp → ∃ o, h.get? b = some o) ∧
    (∀ i (s : Shared) (Q : Value → Shared → Prop) (E : Value → Shared → Prop), S i s.heap → Q (.ref I) s → wpAny (model c.prog c.w) A (pyIter (.ref I)) Q E s) ∧
    ∀ i v h, P i v h → ∃ x, l[i]? = some x ∧ ITEM target s₂.heap θ h x v

def LOOPS (c : Cx) (sc : Sc) (d : Nat) (target : Expr) (body : List Stmt) (K : St → Prop) (R : Fl → Vars → St → Prop) : List V → Vars → St → Prop
  | [], ρ, σ => R .next ρ σ
  | x :: r, ρ, σ => ∃ ρ₁, AS sc target x ρ ρ₁ ∧ EXs c sc d body ρ₁ σ fun f ρ' σ' => match f with
      | .next => K σ' ∧ LOOPS c sc d target body K R r ρ' σ'
      | .cont => K σ' ∧ LOOPS c sc d target body K R r ρ' σ'
      | .brk => R .next ρ' σ'
      | .ret v => R (.ret v) ρ' σ'

def ITX (c : Cx) (sc : Sc) (d : Nat) (target e : Expr) (ρ : Vars) (σ : St) (G : List V → (St → Prop) → St → Prop) : Prop :=
  ∀ A env s θ, Room A d → EnvIs sc env → Inv c s θ σ → FrA c s.heap θ env ρ → wpAny (model c.prog c.w) A (eval e env) (fun x s₁ => wpAny (model c.prog c.w) A (pyIter x) (fun it s₂ =>
    ∃ l K σ' θ', Inv c s₂ θ' σ' ∧ Grow s.heap θ s₂.heap θ' ∧ IT c A target env s s₂ θ' K it l ∧ K σ' ∧ G l K σ') NoE s₁) NoE s

theorem item_ok (X : EnvIs sc env) (I : Inv c s θ σ) (F : FrA c s.heap θ env ρ) (hh : A.handled = none) {t : Expr} {v : V} {v' : Value} {ρ' : Vars} (a : AS sc t v ρ ρ')
    (r : RepV s.heap θ v v' ∨ ∃ T vals xs, (∃ es k p, t = .Tuple es k p) ∧ v' = .ref T ∧ v = .tup xs ∧ s.heap.IsTuple T vals.toArray ∧ RepVs s.heap θ xs vals)
    {P : Unit → Shared → Prop} (h : ∀ s₁, Inv c s₁ θ σ → FrA c s₁.heap θ env ρ' → GrowX (own env) s.heap θ s₁.heap θ → P () s₁) : wpAny (model c.prog c.w) A (assign t env v') P NoE s := by
  rcases r with r | ⟨T, vals, xs, ⟨es, k, p, rfl⟩, rfl, rfl, ht, hr⟩
  · exact assign_ok X I F hh a r h
  · cases a with
    | @tup es k p ys vs ρ hn hl hk =>
      refine wpAny_assign_Tuple hh ht ?_ (assignEach_noStar env es hn) fun h' e => ?_
      · rw [assignEach_len, namesOf_len hn, hl, hr.length]; simp
      · obtain ⟨I', F', g', q'⟩ := I.ext F e
        exact inOrder_ok X (stl_names hn) _ _ ρ _ I' F' (by simpa using hr.mapM q') hl hk fun s₁ I₁ F₁ g₁ => h s₁ I₁ F₁ (GrowX.trans F'.ownX g'.x g₁)

theorem GrowX.weaken {X Y : Addr → Prop} {h h' : Heap} {θ θ' : List Addr} (g : GrowX X h θ h' θ') (k : ∀ b, X b → Y b) : GrowX Y h θ h' θ' := ⟨g.pre, g.fresh, fun b o e n m => g.kept b o e n fun z => m (k b z)⟩

theorem EX_For {target iter : Expr} {body : List Stmt} {pos : Pos} (h : ITX c sc d target iter ρ σ fun l K σ' => LOOPS c sc d target body K R l ρ σ')
    (hs : ∀ env x, foldedSetIterable iter env x = pure x := by intro _ _; rfl) : EX c sc d (.For target iter body [] pos) ρ σ R := fun A env s θ r X I F => by
  refine wpAny_For (wpAny_mono (h A env s θ r X I F) (fun x s₁ h₁ => wpAny_mono h₁ (fun it s₂ h₂ => ?_) fun _ _ x => x) fun _ _ x => x) (hs env)
  obtain ⟨l, K, σ₂, θ₂, I₂, g₂, ⟨Ja, fp, wr, P, Md, S, rfl, W, hS, hwr, hfp, hit, hex, _, hP⟩, hK, hL⟩ := h₂
  have F₂ := F.grow I.tupOut g₂
  have hwo : ∀ b ∈ wr, ¬ own env b := fun b hb => (hfp b (W.sub b hb)).1
  let W' : Addr → Prop := fun b => b ∈ wr
  let X' : Addr → Prop := fun b => own env b ∨ b ∈ wr
  refine codeAny_forLoop_any
    (fun k s' => ∃ i ρ' σ' θ', k = l.length + 1 - i ∧ i ≤ l.length ∧ S i s'.heap ∧ Inv c s' θ' σ' ∧ FrA c s'.heap θ' env ρ' ∧ GrowX X' s₂.heap θ₂ s'.heap θ' ∧ (∀ b ∈ wr, b ∉ θ') ∧ K σ' ∧ LOOPS c sc d target body K R (l.drop i) ρ' σ')
    ?_ (l.length + 1) ⟨0, ρ, σ₂, θ₂, rfl, Nat.zero_le _, hS, I₂, F₂, GrowX.refl .., fun b hb => (hwr b hb).2.1, hK, by rw [List.drop_zero]; exact hL⟩
  rintro k s' ⟨i, ρ', σ', θ', rfl, hi, hS', I', F', g', hwθ, hK', hL'⟩
  have exX : ∀ {t : Shared} {τ : List Addr} {ρ₀ : Vars} {j : Nat}, S j t.heap → FrA c t.heap τ env ρ₀ → (∀ b ∈ wr, b ∉ τ) → ∀ x, X' x → ∃ o, t.heap.get? x = some o ∧ x ∉ τ := fun hs f hw x hx => by
    rcases hx with hx | hx
    · exact f.ownX x hx
    · obtain ⟨o, _, e, _⟩ := hit _ _ x hs hx; exact ⟨o, e, hw x hx⟩
  have turned : ∀ {h₁ : Heap} {t : Nat}, (∀ b o, b ∉ wr → s'.heap.get? b = some o → h₁.get? b = some o) → Inv c { s' with heap := h₁, toks := t } θ' σ' ∧ FrA c h₁ θ' env ρ' ∧ GrowX X' s'.heap θ' h₁ θ' := fun {h₁ t} hk =>
    ⟨I'.but (W := W') (fun b hb => ⟨(hit i _ b hS' hb).off, hwθ b hb, (hwr b hb).2.2⟩) hk, F'.but (W := W') (fun b hb => ⟨(hit i _ b hS' hb).off, hwo b hb⟩) hk,
     ⟨⟨[], (List.append_nil _).symm⟩, fun _ m n => (n m).elim, fun b o e _ nx => hk b o (fun z => nx (.inr z)) e⟩⟩
  by_cases hlt : i < l.length
  · refine W.item i _ _ _ hlt hS' fun v h₁ tk₁ hMd hk₁ => ?_
    refine W.go i v _ _ _ hMd fun h₂ hPi hS₂ hk₂ => ?_
    obtain ⟨J₂, G₂, e₂⟩ := turned (t := tk₁) (fun b o hb x => hk₂ b o hb (hk₁ b o hb x))
    obtain ⟨x, hx, hv⟩ := hP i v h₂ hPi
    have hd : l.drop i = x :: l.drop (i + 1) := by
      rw [List.drop_eq_getElem_cons hlt]; congr 1
      exact Option.some.inj ((List.getElem?_eq_getElem hlt).symm.trans hx)
    rw [hd] at hL'
    obtain ⟨ρ₁, as, hb⟩ := hL'
    have up : ∀ {v : V} {x : Value}, RepV s₂.heap θ₂ v x → RepV h₂ θ' v x := by
      intro v x q
      -- from s₂ to here: own and the iterators turned, the rest stands
      have gg : GrowX X' s₂.heap θ₂ h₂ θ' := GrowX.trans (exX hS' F' hwθ) g' e₂
      refine RepV.rec (motive_1 := fun v v' _ => RepV h₂ θ' v v') (motive_2 := fun v v' _ => RepVs h₂ θ' v v') .none .bool .int .str .raw
        (fun n a e => .loc n a ?_) (fun l b xs ht _ ih => .tup l b xs ?_ ih) (fun l b xs n nm e _ ih => .lst l b xs n ?_ ?_ ih) .nil (fun _ _ a b => .cons a b) q
      · obtain ⟨t, e'⟩ := gg.pre; rw [e']; rw [List.getElem?_append_left (List.getElem?_eq_some_iff.mp e).1]; exact e
      · obtain ⟨n, e⟩ := ht
        refine ⟨n, gg.kept b _ e (fun m => I₂.tupOut b m _ ⟨n, e⟩) ?_⟩
        rintro (z | z)
        · exact F₂.ownNoT b z _ ⟨n, e⟩
        · exact (hit 0 _ b hS z).notT _ ⟨n, e⟩
      · exact gg.notMem e nm
      · refine gg.kept b _ e nm ?_
        rintro (z | z)
        · exact F₂.ownNoL b z _ _ e
        · exact (hit 0 _ b hS z).notL _ _ e
    have hv' : RepV h₂ θ' x v ∨ ∃ T vals xs, (∃ es k p, target = .Tuple es k p) ∧ v = .ref T ∧ x = .tup xs ∧ h₂.IsTuple T vals.toArray ∧ RepVs h₂ θ' xs vals := by
      rcases hv with q | ⟨T, vals, xs, e0, e1, e2, e3, e4⟩
      · exact .inl (up q)
      · exact .inr ⟨T, vals, xs, e0, e1, e2, e3, e4.mapM up⟩
    have core : wpAny (model c.prog c.w) A (assign target env v) (fun _ s₃ => wpAny (model c.prog c.w) A (execs body env) (fun f s₄ => match f with
          | .next | .cont => ∃ m, m < l.length + 1 - i ∧ ∃ i ρ' σ' θ', m = l.length + 1 - i ∧ i ≤ l.length ∧ S i s₄.heap ∧ Inv c s₄ θ' σ' ∧ FrA c s₄.heap θ' env ρ' ∧ GrowX X' s₂.heap θ₂ s₄.heap θ' ∧ (∀ b ∈ wr, b ∉ θ') ∧ K σ' ∧ LOOPS c sc d target body K R (l.drop i) ρ' σ'
          | .brk => OkS c env s θ R .next s₄
          | .ret v => OkS c env s θ R (.ret v) s₄) NoE s₃) NoE { s' with heap := h₂, toks := tk₁ } := by
      have step : ∀ s₃, Inv c s₃ θ' σ' → FrA c s₃.heap θ' env ρ₁ → GrowX (own env) h₂ θ' s₃.heap θ' → wpAny (model c.prog c.w) A (execs body env) (fun f s₄ => match f with
          | .next | .cont => ∃ m, m < l.length + 1 - i ∧ ∃ i ρ' σ' θ', m = l.length + 1 - i ∧ i ≤ l.length ∧ S i s₄.heap ∧ Inv c s₄ θ' σ' ∧ FrA c s₄.heap θ' env ρ' ∧ GrowX X' s₂.heap θ₂ s₄.heap θ' ∧ (∀ b ∈ wr, b ∉ θ') ∧ K σ' ∧ LOOPS c sc d target body K R (l.drop i) ρ' σ'
          | .brk => OkS c env s θ R .next s₄
          | .ret v => OkS c env s θ R (.ret v) s₄) NoE s₃ := by
        intro s₃ I₃ F₃ g₃
        refine wpAny_mono (hb A env s₃ θ' r X I₃ F₃) (fun f s₄ h₄ => ?_) fun _ _ x => x
        obtain ⟨fl, ρ₄, σ₄, θ₄, I₄, F₄, g₄, rf, q⟩ := h₄
        have g34 : GrowX (own env) h₂ θ' s₄.heap θ₄ := GrowX.trans F₃.ownX g₃ g₄
        have hwθ₄ : ∀ b ∈ wr, b ∉ θ₄ := fun b hb => by obtain ⟨o, _, e, _⟩ := hit _ _ b hS₂ hb; exact g34.notMem e (hwθ b hb)
        have all : GrowX X' s₂.heap θ₂ s₄.heap θ₄ := GrowX.trans (exX (t := { s' with heap := h₂, toks := tk₁ }) hS₂ G₂ hwθ) (GrowX.trans (exX hS' F' hwθ) g' e₂) (g34.weaken fun b z => .inl z)
        have out : GrowX (own env) s.heap θ s₄.heap θ₄ := by
          refine ⟨?_, fun a m n => ?_, fun b o e n nx => ?_⟩
          · obtain ⟨t, e⟩ := g₂.pre; obtain ⟨u, e'⟩ := all.pre; exact ⟨t ++ u, by rw [e', e, List.append_assoc]⟩
          · by_cases h2 : a ∈ θ₂
            · exact g₂.fresh a h2 n
            · cases e : s.heap.get? a with
              | none => rfl
              | some o => have := all.fresh a m h2; rw [g₂.kept a o e n] at this; cases this
          · refine all.kept b o (g₂.kept b o e n) (g₂.notMem e n) ?_
            rintro (z | z)
            · exact nx z
            · rw [(hwr b z).1] at e; cases e
        have again : K σ₄ ∧ LOOPS c sc d target body K R (l.drop (i + 1)) ρ₄ σ₄ → ∃ m, m < l.length + 1 - i ∧ ∃ i ρ' σ' θ', m = l.length + 1 - i ∧ i ≤ l.length ∧ S i s₄.heap ∧ Inv c s₄ θ' σ' ∧ FrA c s₄.heap θ' env ρ' ∧ GrowX X' s₂.heap θ₂ s₄.heap θ' ∧ (∀ b ∈ wr, b ∉ θ') ∧ K σ' ∧ LOOPS c sc d target body K R (l.drop i) ρ' σ' := by
          rintro ⟨hK₄, hL₄⟩
          refine ⟨l.length + 1 - (i + 1), by omega, i + 1, ρ₄, σ₄, θ₄, rfl, hlt, ?_, I₄, F₄, all, hwθ₄, hK₄, hL₄⟩
          refine W.frame _ _ _ hS₂ fun b hb o e => ?_
          rcases (hfp b hb).2 with hn | ⟨n, xs, kk, l', e1, e2⟩
          · have : b ∉ θ' := by
              obtain ⟨o2, e2⟩ := hex 0 _ b hS hb
              exact g'.notMem e2 hn
            exact g34.kept b o e this (hfp b hb).1
          · have a1 : θ'[n]? = some b := by obtain ⟨t, e'⟩ := g'.pre; rw [e', List.getElem?_append_left (List.getElem?_eq_some_iff.mp e1).1]; exact e1
            have a2 : θ₄[n]? = some b := by obtain ⟨t, e'⟩ := all.pre; rw [e', List.getElem?_append_left (List.getElem?_eq_some_iff.mp e1).1]; exact e1
            have b1 : IsL h₂ b xs.toArray kk := (J₂.rep.obj n _ b (e2 _ hK') a1).1
            have b2 : IsL s₄.heap b xs.toArray kk := (I₄.rep.obj n _ b (e2 _ hK₄) a2).1
            have : o = _ := Option.some.inj (e.symm.trans b1)
            rw [this]; exact b2
        cases rf with
        | next => exact again q
        | cont => exact again q
        | brk => exact ⟨.next, ρ₄, σ₄, θ₄, I₄, F₄, out, .next, q⟩
        | ret rv => exact ⟨.ret _, ρ₄, σ₄, θ₄, I₄, F₄, out, .ret rv, q⟩
      exact item_ok X J₂ G₂ r.handled as hv' step
    refine wpAny_mono core (fun _ s₃ h₃ => wpAny_mono h₃ (fun f s₄ h₄ => ?_) fun _ _ x => x.elim) fun _ _ x => x.elim
    cases f <;> exact h₄
  · have hin : i = l.length := by omega
    subst hin
    refine W.done _ _ _ hS' fun h₁ tk₁ hk₁ => wpAny_execs_nil ?_
    obtain ⟨J₁, G₁, e₁⟩ := turned (t := tk₁) hk₁
    rw [List.drop_length] at hL'
    have all : GrowX X' s₂.heap θ₂ h₁ θ' := GrowX.trans (exX hS' F' hwθ) g' e₁
    refine ⟨.next, ρ', σ', θ', J₁, G₁, ?_, .next, hL'⟩
    refine ⟨?_, fun a m n => ?_, fun b o e n nx => ?_⟩
    · obtain ⟨t, e⟩ := g₂.pre; obtain ⟨u, e'⟩ := all.pre; exact ⟨t ++ u, by rw [e', e, List.append_assoc]⟩
    · by_cases h2 : a ∈ θ₂
      · exact g₂.fresh a h2 n
      · cases e : s.heap.get? a with
        | none => rfl
        | some o => have := all.fresh a m h2; rw [g₂.kept a o e n] at this; cases this
    · refine all.kept b o (g₂.kept b o e n) (g₂.notMem e n) ?_
      rintro (z | z)
      · exact nx z
      · rw [(hwr b z).1] at e; cases e
end
end Mine
end
section
open PySem PySem.W PySem.Calls PyProof.Rows PySem.MeetsSeq PySem.MeetsSeq2 PySem.MeetsSeq3
set_option Elab.async false
set_option linter.unusedVariables false
namespace Mine
section
variable {c : Cx} {sc : Sc} {d : Nat} {ρ : Vars} {σ : St} {Q : Post} {R : Fl → Vars → St → Prop} {A : Around} {env : Env} {s s₁ : Shared} {θ θ₁ : List Addr} {x y : Str} {G : List V → (St → Prop) → St → Prop} {target : Expr}

/-- iterating a value -/
def ITV (c : Cx) (d : Nat) (target : Expr) (v : V) (σ : St) (G : List V → (St → Prop) → St → Prop) : Prop :=
  ∀ A env s θ ρ v', Room A d → Inv c s θ σ → FrA c s.heap θ env ρ → RepV s.heap θ v v' → wpAny (model c.prog c.w) A (pyIter v') (fun it s₂ =>
    ∃ l K, Inv c s₂ θ σ ∧ Grow s.heap θ s₂.heap θ ∧ IT c A target env s s₂ θ K it l ∧ K σ ∧ G l K σ) NoE s

theorem IT.older {s₂ : Shared} {K : St → Prop} {it : Value} {l : List V} {θ₂ : List Addr} (g : Grow s.heap θ s₁.heap θ₁) (hex : ∀ b ∈ θ, ∃ o, s₁.heap.get? b = some o) (h : IT c A target env s₁ s₂ θ₂ K it l) : IT c A target env s s₂ θ₂ K it l := by
  obtain ⟨Ja, fp, wr, P, Md, S, e, W, hS, hwr, r⟩ := h
  refine ⟨Ja, fp, wr, P, Md, S, e, W, hS, fun b hb => ⟨?_, (hwr b hb).2⟩, r⟩
  cases h : s.heap.get? b with
  | none => rfl
  | some o =>
    have q := (hwr b hb).1
    by_cases m : b ∈ θ
    · obtain ⟨o, e⟩ := hex b m; rw [e] at q; cases q
    · rw [g.kept b o h m] at q; cases q

theorem ITX_val {e : Expr} (h : EV c sc d e ρ σ fun v σ₁ => ITV c d target v σ₁ G) : ITX c sc d target e ρ σ G := fun A env s θ r X I F => by
  refine wpAny_mono (h A env s θ r X I F) (fun v' s₁ h₁ => ?_) fun _ _ x => x
  obtain ⟨v, σ₁, θ₁, I₁, g₁, rv, q⟩ := h₁
  refine wpAny_mono (q A env s₁ θ₁ ρ v' r I₁ (F.grow I.tupOut g₁) rv) (fun it s₂ h₂ => ?_) fun _ _ x => x
  obtain ⟨l, K, I₂, g₂, ht, hK, hG⟩ := h₂
  exact ⟨l, K, σ₁, θ₁, I₂, g₁.trans g₂, ht.older g₁ (fun b m => I₁.rep.exists (g₁.mem m)), hK, hG⟩

theorem pushed (I : Inv c s θ σ) (o : Obj) (t : Nat) : Inv c { s with heap := s.heap.push o, toks := t } θ σ ∧ Grow s.heap θ (s.heap.push o) θ := ⟨I.keeps fun b o' e => Heap.get?_push_of_some _ e, grow_keeps fun b o' e => Heap.get?_push_of_some _ e⟩
theorem FrA.lt {h : Heap} (F : FrA c h θ env ρ) {b : Addr} (o : own env b) : b < h.objs.size := let ⟨_, e, _⟩ := F.ownX b o; Heap.lt_size e

theorem itl_list {h : Heap} {I a : Addr} {i : Nat} (x : h.IsListIter I a i) : Itl h I := by obtain ⟨o, e, hc, hd⟩ := x; exact ⟨o, _, e, hd, fun x t h => by simp at h⟩
theorem itl_tuple {h : Heap} {I a : Addr} {i : Nat} (x : h.IsTupleIter I a i) : Itl h I := by obtain ⟨o, e, hc, hd⟩ := x; exact ⟨o, _, e, hd, fun x t h => by simp at h⟩
theorem itl_str {h : Heap} {I : Addr} {T : String} {x : Str} {t : Tok} {i : Nat} (q : h.IsStrIter I T x t i) : Itl h I := by obtain ⟨o, e, hc, hd⟩ := q; exact ⟨o, _, e, hd, fun x t h => by simp at h⟩
theorem itl_range {h : Heap} {I : Addr} {a b k : Int} (q : IsRangeIter h I a b k) : Itl h I := ⟨_, _, q, rfl, fun x t h => by simp [rawInt] at h⟩
theorem itl_rev {h : Heap} {I a : Addr} {i : Int} (q : h.IsRevIter I a i) : Itl h I := by obtain ⟨o, e, hc, hd⟩ := q; exact ⟨o, _, e, hd, fun x t h => by simp [rawInt] at h⟩

theorem Inv.none' (I : Inv c s θ σ) {b : Addr} (h : s.heap.objs.size ≤ b) : s.heap.get? b = none := by
  cases e : s.heap.get? b with
  | none => rfl
  | some o => exact absurd (Heap.lt_size e) (Nat.not_lt.mpr h)

theorem IT.mk1 {s₂ : Shared} {l : List V} {Ja : Addr} {fp : List Addr} {P Md : Nat → Value → Heap → Prop} {S : Nat → Heap → Prop} {K : St → Prop} (I : Inv c s θ σ) (F : FrA c s.heap θ env ρ) (W : KTurns c.prog c.w A target Ja fp [Ja] l.length P Md S) (hS : S 0 s₂.heap) (hI : s.heap.objs.size ≤ Ja)
    (hfp : ∀ b ∈ fp, b = Ja ∨ (¬ own env b ∧ (b ∉ θ ∨ ∃ (n : Nat) (xs : List Value) (k : Nat) (l' : List V), θ[n]? = some b ∧ ∀ σ' : St, K σ' → σ'[n]? = some (SO.fz xs k l')) ∧ ∀ i h, S i h → ∃ o, h.get? b = some o))
    (hit : ∀ i h, S i h → Itl h Ja) (hself : ∀ i (s : Shared) (Q : Value → Shared → Prop) (E : Value → Shared → Prop), S i s.heap → Q (.ref Ja) s → wpAny (model c.prog c.w) A (pyIter (.ref Ja)) Q E s) (hP : ∀ i v h, P i v h → ∃ x, l[i]? = some x ∧ ITEM target s₂.heap θ h x v) : IT c A target env s s₂ θ K (.ref Ja) l := by
  refine ⟨Ja, fp, [Ja], P, Md, S, rfl, W, hS, fun b hb => ?_, fun b hb => ?_, fun i h b hs hb => ?_, fun i h b hs hb => ?_, hself, hP⟩
  · rw [List.mem_singleton.mp hb]; exact ⟨I.none' hI, I.new hI⟩
  · rcases hfp b hb with rfl | q
    · exact ⟨fun o => absurd (F.lt o) (Nat.not_lt.mpr hI), .inl (I.new hI).1⟩
    · exact ⟨q.1, q.2.1⟩
  · rw [List.mem_singleton.mp hb]; exact hit i h hs
  · rcases hfp b hb with rfl | q
    · obtain ⟨o, _, e, _⟩ := hit i h hs; exact ⟨o, e⟩
    · exact q.2.2 i h hs

theorem itemsOf {h h' : Heap} {l : List V} {xs : List Value} (hr : RepVs h θ l xs) (up : ∀ {v : V} {x : Value}, RepV h θ v x → RepV h' θ v x) {i : Nat} {v : Value} {h₁ : Heap} (hp : xs.toArray[i]? = some v) : ∃ x, l[i]? = some x ∧ ITEM target h' θ h₁ x v := by
  have hv : xs[i]? = some v := by simpa using hp
  have hi : i < l.length := by rw [hr.length]; exact (List.getElem?_eq_some_iff.mp hv).1
  obtain ⟨v₂, e, rv⟩ := hr.at (List.getElem?_eq_getElem hi)
  rw [hv] at e; cases e
  exact ⟨_, List.getElem?_eq_getElem hi, .inl (up rv)⟩

theorem KTurns.lt {Ja : Addr} {fp wr : List Addr} {n : Nat} {P Md : Nat → Value → Heap → Prop} {S : Nat → Heap → Prop} (W : KTurns c.prog c.w A target Ja fp wr n P Md S) : KTurns c.prog c.w A target Ja fp wr n (fun i v h => i < n ∧ P i v h) (fun i v h => i < n ∧ Md i v h) S :=
  ⟨W.sub, W.frame, fun i s Q E hi st hQ => W.item i s Q E hi st fun v h' tk m k => hQ v h' tk ⟨hi, m⟩ k, fun i v s Q E m hQ => W.go i v s Q E m.2 fun h' p st k => hQ h' ⟨m.1, p⟩ st k, W.done⟩

theorem KTurns.cast {Ja : Addr} {fp wr : List Addr} {n m : Nat} {P Md : Nat → Value → Heap → Prop} {S : Nat → Heap → Prop} (e : n = m) (W : KTurns c.prog c.w A target Ja fp wr n P Md S) : KTurns c.prog c.w A target Ja fp wr m P Md S := e ▸ W

theorem ITV_tup {l : List V} (h : G l (fun _ => True) σ) : ITV c d target (.tup l) σ G := fun A env s θ ρ v' r I F rv => by
  cases rv with
  | tup l a xs ht hr =>
    have hlt : a < s.heap.objs.size := by obtain ⟨n, e⟩ := ht; exact Heap.lt_size e
    have ht' : s.heap.IsTuple a xs.toArray := ht.isTup
    refine wpAny_pyIter_tuple ht' ?_
    obtain ⟨I', g'⟩ := pushed I { cls := .type "tuple_iterator", data := .fields #[.ref a, .int 0 0] } s.toks
    have W := KTurns.ofWalks (target := target) (Walks.tuple (prog := c.prog) (w := c.w) r.handled s.heap.objs.size a (Nat.ne_of_lt hlt) xs.toArray) fun i v s Q E st q => letGo_tupleiter st.1 q
    rw [show xs.toArray.size = l.length by rw [List.size_toArray, hr.length]] at W
    exact ⟨l, fun _ => True, I', g', IT.mk1 I F W ⟨⟨_, Heap.get?_push_size _ rfl, rfl, rfl⟩, ht'.push _⟩ (Nat.le_refl _)
      (fun b hb => by
        have hb : b = s.heap.objs.size ∨ b = a := by simpa using hb
        exact hb.imp id fun e => by subst e; exact ⟨fun o => F.ownNoT _ o _ ht, .inl fun m => I.tupOut _ m _ ht, fun i h hS => let ⟨o, e, _⟩ := hS.2; ⟨o, e⟩⟩)
      (fun i h hS => itl_tuple hS.1) (fun _ _ _ _ st q => wpAny_pyIter_tupleiter st.1 q) (fun i v h hp => itemsOf hr (fun q => q.grow I.tupOut g') hp), trivial, h⟩

theorem ITV_list {v : V} {l : List V} (hl : v = .lst l ∨ ∃ n xs k, v = .loc n ∧ σ[n]? = some (.fz xs k l)) (h : ∀ K : St → Prop, (∀ n xs k, v = .loc n → σ[n]? = some (.fz xs k l) → ∀ σ' : St, σ'[n]? = some (.fz xs k l) → K σ') → (v = .lst l → ∀ σ', K σ') → G l K σ) : ITV c d target v σ G := fun A env s θ ρ v' r I F rv => by
  have key : ∃ (a : Addr) (xs : List Value) (k : Nat) (K : St → Prop), v' = .ref a ∧ IsL s.heap a xs.toArray k ∧ RepVs s.heap θ l xs ∧ K σ ∧ G l K σ ∧ (a ∉ θ ∨ ∃ (n : Nat) (xs : List Value) (k : Nat) (l' : List V), θ[n]? = some a ∧ ∀ σ' : St, K σ' → σ'[n]? = some (SO.fz xs k l')) := by
    rcases hl with rfl | ⟨n, xs, k, rfl, hn⟩
    · cases rv with
      | lst l a xs n nm hl hr => exact ⟨a, xs, n, fun _ => True, rfl, hl, hr, trivial, h _ (fun _ _ _ e => by cases e) (fun _ _ => trivial), .inl nm⟩
    · obtain ⟨a, rfl, e⟩ := rv.ofLoc
      obtain ⟨hl, hr⟩ := I.rep.obj n _ a hn e
      refine ⟨a, xs, k, fun σ' => σ'[n]? = some (.fz xs k l), rfl, hl, hr, hn, h _ (fun n' xs' k' e' h' σ' h2 => ?_) (fun e => by cases e), .inr ⟨n, xs, k, l, e, fun _ h => h⟩⟩
      cases e'; rw [hn] at h'; cases h'; exact h2
  obtain ⟨a, xs, k, K, rfl, hL, hr, hK, hG, hfz⟩ := key
  have hlt : a < s.heap.objs.size := Heap.lt_size hL
  refine wpAny_pyIter_list hL.isList ?_
  obtain ⟨I', g'⟩ := pushed I { cls := .type "list_iterator", data := .fields #[.ref a, .int 0 0] } s.toks
  have W := KTurns.ofWalks (target := target) (Walks.list (prog := c.prog) (w := c.w) r.handled s.heap.objs.size a (Nat.ne_of_lt hlt) xs.toArray) fun i v s Q E st q => letGo_listiter st.1 q
  rw [show xs.toArray.size = l.length by rw [List.size_toArray, hr.length]] at W
  exact ⟨l, K, I', g', IT.mk1 I F W ⟨⟨_, Heap.get?_push_size _ rfl, rfl, rfl⟩, hL.isList.push _⟩ (Nat.le_refl _)
      (fun b hb => by
        have hb : b = s.heap.objs.size ∨ b = a := by simpa using hb
        exact hb.imp id fun e => by subst e; exact ⟨fun o => F.ownNoL _ o _ _ hL, hfz, fun i h hS => let ⟨o, e, _⟩ := hS.2; ⟨o, e⟩⟩)
      (fun i h hS => itl_list hS.1) (fun _ _ _ _ st q => wpAny_pyIter_listiter st.1 q) (fun i v h hp => itemsOf hr (fun q => q.grow I.tupOut g') hp), hK, hG⟩

theorem ITV_str {x : Str} {y : Str} {p : Pos} (ha : x.cps.all (· < 128) = true) (h : G (x.cps.toList.map fun k => .str ⟨#[k]⟩) (fun _ => True) σ) : ITV c d (.Name y p) (.str x) σ G := fun A env s θ ρ v' r I F rv => by
  cases rv with
  | str x t =>
    refine wpAny_pyIter_ascii ha ?_
    obtain ⟨I', g'⟩ := pushed I { cls := .type "str_ascii_iterator", data := .fields #[.str x t, .int 0 0] } s.toks
    have W := KTurns.ofWalks (target := .Name y p) (Walks.strAscii (prog := c.prog) (w := c.w) r.handled s.heap.objs.size x t) fun i v s Q E st q => wpAny_pure q
    rw [show x.cps.size = (x.cps.toList.map fun k => V.str ⟨#[k]⟩).length by simp] at W
    exact ⟨_, fun _ => True, I', g', IT.mk1 I F W ⟨_, Heap.get?_push_size _ rfl, rfl, rfl⟩ (Nat.le_refl _) (fun b hb => .inl (by simpa using hb)) (fun i h hS => itl_str hS) (fun _ _ _ _ st q => wpAny_pyIter_striter_ascii st q)
      (fun i v h hp => by obtain ⟨k, t', hk, rfl⟩ := hp; exact ⟨.str ⟨#[k]⟩, by simp [hk], .inl (.str _ _)⟩), trivial, h⟩

/-- a call whose result is used at once -/
theorem callWith_gen {f : V} {f' : Value} {first : List V} {first' : List Value} {es : List Expr} {pos : Pos} {P : Value → Shared → Prop} (hs : noStar es = true) (r : Room A d) (X : EnvIs sc env) (I : Inv c s θ σ) (F : FrA c s.heap θ env ρ) (rf : RepV s.heap θ f f') (rfs : RepVs s.heap θ first first')
    (h : EVs c sc d es ρ σ fun vs σ₂ => Kp c σ₂ f ∧ ∀ s₂ θ₂ f'' vs', Inv c s₂ θ₂ σ₂ → Grow s.heap θ s₂.heap θ₂ → RepV s₂.heap θ₂ f f'' → RepVs s₂.heap θ₂ (first ++ vs) vs' → wpAny (model c.prog c.w) A (call f'' vs' []) P NoE s₂) : wpAny (model c.prog c.w) A (callWith pos f' first' (backTo pos (starEach es env)) []) P NoE s := by
  have h0 := h A env pos s θ r X I F
  rw [backTo_plain pos env hs] at h0 ⊢
  have fin : wpAny (model c.prog c.w) A (evalArgs f' true (es.map fun e => (false, eval e env)) []) (fun a s₁ => ((∃ k, (k = Keeper.frame ∨ k = Keeper.machine ∨ k = Keeper.boundFrame) ∧ Looks (model c.prog c.w) s₁.heap (keeperOf f') k) ∧ wpAny (model c.prog c.w) A (call f' (first' ++ a.pos) a.kw) P NoE s₁)) NoE s := by
    have go : ∀ vs' s₁, OkVs c s θ (fun vs σ₂ => Kp c σ₂ f ∧ ∀ s₂ θ₂ f'' vs', Inv c s₂ θ₂ σ₂ → Grow s.heap θ s₂.heap θ₂ → RepV s₂.heap θ₂ f f'' → RepVs s₂.heap θ₂ (first ++ vs) vs' → wpAny (model c.prog c.w) A (call f'' vs' []) P NoE s₂) vs' s₁ → ((∃ k, (k = Keeper.frame ∨ k = Keeper.machine ∨ k = Keeper.boundFrame) ∧ Looks (model c.prog c.w) s₁.heap (keeperOf f') k) ∧ wpAny (model c.prog c.w) A (call f' (first' ++ vs') []) P NoE s₁) := by
      rintro vs' s₁ ⟨vs, σ₁, θ₁, I₁, g₁, rv, kp, q⟩
      exact ⟨kp _ _ _ I₁ (rf.grow I.tupOut g₁), q s₁ θ₁ f' _ I₁ g₁ (rf.grow I.tupOut g₁) ((rfs.grow I.tupOut g₁).append rv)⟩
    cases es with
    | nil =>
      unfold evalArgs
      show wpAny (model c.prog c.w) A (spliced [] >>= _) _ _ s
      refine wpAny_bind (wpAny_mono h0 (fun vs' s' h' => wpAny_bind (wpAny_pure ?_)) fun _ _ x => x)
      refine wpAny_holding ?_
      exact wpAny_bind (wpAny_pure (wpAny_bind (wpAny_pure (wpAny_pure (go _ _ h')))))
    | cons e es => exact evalArgs_plain (wpAny_mono h0 (fun vs' s₁ q => go vs' s₁ q) fun _ _ x => x)
  unfold callWith
  refine wpAny_bind (wpAny_holding (wpAny_mono fin (fun a s₁ h₁ => wpAny_bind (wpAny_standAt ?_)) fun _ _ x => x))
  obtain ⟨⟨k, hk', L⟩, h₂⟩ := h₁
  have hp : ((es.map fun e => ((false : Bool), eval e env)).any (·.1) || ([] : List (Option Str × Sem Value)).any (·.1.isNone)) = false := by simp
  simp only [hp]
  refine wpAny_bind (L.here ?_)
  have tail : ∀ {t : Sem Value}, wpAny (model c.prog c.w) A t P NoE s₁ → wpAny (model c.prog c.w) A (t >>= fun r => holding [r] point >>= fun _ => pure r) P NoE s₁ :=
    fun ht => wpAny_bind (wpAny_mono ht (fun r s₂ hr => wpAny_bind (wpAny_holding (wpAny_point (wpAny_pure hr)))) fun _ _ x => x)
  have marked (mk : Value) : wpAny (model c.prog c.w) A (callMarked mk f' (first' ++ a.pos) a.kw) P NoE s₁ := by unfold callMarked; exact Calls.wpAny_keep h₂
  rcases hk' with rfl | rfl | rfl <;> dsimp only <;> first | exact tail h₂ | (split <;> first | exact tail h₂ | exact tail (marked _))

/-- iterating what a call gives -/
def ITC (c : Cx) (d : Nat) (target : Expr) (f : V) (vs : List V) (σ : St) (G : List V → (St → Prop) → St → Prop) : Prop :=
  ∀ A env s θ ρ f' vs', Room A d → Inv c s θ σ → FrA c s.heap θ env ρ → RepV s.heap θ f f' → RepVs s.heap θ vs vs' → wpAny (model c.prog c.w) A (call f' vs' []) (fun x s₁ => wpAny (model c.prog c.w) A (pyIter x) (fun it s₂ =>
    ∃ l K, Inv c s₂ θ σ ∧ Grow s.heap θ s₂.heap θ ∧ IT c A target env s s₂ θ K it l ∧ K σ ∧ G l K σ) NoE s₁) NoE s

theorem ITX_call {x : Str} {p pos : Pos} {args : List Expr} (hs : noStar args = true) (h : EV c sc d (.Name x p) ρ σ fun f σ₁ => EVs c sc d args ρ σ₁ fun vs σ₂ => Kp c σ₂ f ∧ ITC c d target f vs σ₂ G) : ITX c sc d target (.Call (.Name x p) args [] pos) ρ σ G := fun A env s θ r X I F => by
  refine Call_ (wpAny_mono (h A env s θ r X I F) (fun f' s₁ h₁ => ?_) fun _ _ x => x)
  obtain ⟨f, σ₁, θ₁, I₁, g₁, rf, q⟩ := h₁
  have F₁ := F.grow I.tupOut g₁
  refine callWith_gen (first := []) hs r X I₁ F₁ rf .nil fun A' env' pos' s' θ' r' X' I' F' => wpAny_mono (q A' env' pos' s' θ' r' X' I' F') (fun vs' s₂ h₂ => ?_) fun _ _ x => x
  obtain ⟨vs, σ₂, θ₂, I₂, g₂, rvs, kp, q⟩ := h₂
  refine ⟨vs, σ₂, θ₂, I₂, g₂, rvs, kp, fun s₃ θ₃ f'' vs'' I₃ g₃ rf' rvs' => ?_⟩
  refine wpAny_mono (q A env s₃ θ₃ ρ f'' vs'' r I₃ (F₁.grow I₁.tupOut g₃) rf' rvs') (fun xv s₄ h₄ => wpAny_mono h₄ (fun it s₅ h₅ => ?_) fun _ _ x => x) fun _ _ x => x
  obtain ⟨l, K, I₅, g₅, ht, hK, hG⟩ := h₅
  have gg := g₁.trans g₃
  exact ⟨l, K, σ₂, θ₃, I₅, gg.trans g₅, ht.older gg (fun b m => I₃.rep.exists (gg.mem m)), hK, hG⟩

theorem ITC_range {n : Nat} {x : Str} {p : Pos} (hn : n ≤ 1000000) (h : G ((List.range n).map fun i => .int (i : Nat)) (fun _ => True) σ) : ITC c d (.Name x p) (.raw (.type "range")) [.int (n : Nat)] σ G := fun A env s θ ρ f' vs' r I F rf rv => by
  cases rf
  obtain ⟨v', rfl, r1⟩ := rv.one
  cases r1 with
  | int i t =>
    refine call_range_1 ?_
    have hsz : Builtin.Range.rangeSize 0 (n : Int) 1 = n := by
      unfold Builtin.Range.rangeSize
      rcases Nat.eq_zero_or_pos n with rfl | h0
      · rfl
      · simp; omega
    refine wpAny_pyIter_range (IsRange.new ..) ?_ ?_
    · unfold Builtin.Range.small
      rw [hsz]
      unfold Builtin.Range.rangeFitsLong
      simp; omega
    · rw [hsz, Heap.size_push]
      have k1 : ∀ (o o' : Obj) b ob, s.heap.get? b = some ob → ((s.heap.push o).push o').get? b = some ob := fun o o' b ob e => Heap.get?_push_of_some _ (Heap.get?_push_of_some _ e)
      have W := KTurns.ofWalks (target := .Name x p) (Walks.range (prog := c.prog) (w := c.w) r.handled (s.heap.objs.size + 1) 0 1 n) fun i v s Q E st q => wpAny_pure q
      have W' := KTurns.lt W
      have e : n = ((List.range n).map fun i => V.int (i : Nat)).length := by simp
      have W' := KTurns.cast e W'
      refine ⟨_, fun _ => True, I.keeps (k1 _ _), grow_keeps (k1 _ _), IT.mk1 I F W' ?_ (by omega) (fun b hb => .inl (by simpa using hb)) (fun i h hS => itl_range hS) (fun _ _ _ _ st q => wpAny_pyIter_rangeiter st q) ?_, trivial, h⟩
      · have q := Heap.get?_push_size (s.heap.push { cls := .type "range", data := .fields #[.int 0 s.toks, .int n t, .int 1 (s.toks + 1)] }) (o := { cls := .type "range_iterator", data := .fields #[rawInt 0, rawInt (n : Int), rawInt 1] }) rfl
        rw [Heap.size_push] at q
        have e1 : (0 : Int) + ((0 : Nat) : Int) * 1 = 0 := by simp
        have e2 : (n : Int) - ((0 : Nat) : Int) = n := by simp
        show IsRangeIter _ _ _ _ _
        rw [e1, e2]
        exact q
      · rintro i v h ⟨hi, t, rfl⟩
        exact ⟨.int (i : Nat), by simp [hi], .inl (by simpa using RepV.int (0 + (i : Int) * 1) t)⟩

theorem ITC_reversed {v : V} {l : List V} {x : Str} {p : Pos} (hl : v = .lst l) (h : G l.reverse (fun _ => True) σ) : ITC c d (.Name x p) (.raw (.type "reversed")) [v] σ G := fun A env s θ ρ f' vs' r I F rf rv => by
  cases rf
  subst hl
  obtain ⟨v', rfl, r1⟩ := rv.one
  cases r1 with
  | lst l a xs n nm hL hr =>
    refine call_reversed_list hL.isList ?_
    obtain ⟨I', g'⟩ := pushed I (revObj a ((xs.toArray.size : Int) - 1)) s.toks
    have hlt : a < s.heap.objs.size := Heap.lt_size hL
    have hri : (s.heap.push (revObj a ((xs.toArray.size : Int) - 1))).IsRevIter s.heap.objs.size a ((xs.toArray.size : Int) - 1) := ⟨_, Heap.get?_push_size _ rfl, rfl, rfl⟩
    refine wpAny_pyIter_revIter hri ?_
    have W := KTurns.lt <| KTurns.ofWalks (target := .Name x p) (Walks.listRev (prog := c.prog) (w := c.w) r.handled s.heap.objs.size a (Nat.ne_of_lt hlt) xs.toArray) fun i v s Q E st q => wpAny_pure q
    rw [show xs.toArray.size = l.reverse.length by rw [List.size_toArray, List.length_reverse, hr.length]] at W
    refine ⟨l.reverse, fun _ => True, I', g', IT.mk1 I F W ⟨Nat.zero_le _, ?_, hL.isList.push _⟩ (Nat.le_refl _)
      (fun b hb => by
        have hb : b = s.heap.objs.size ∨ b = a := by simpa using hb
        exact hb.imp id fun e => by subst e; exact ⟨fun o => F.ownNoL _ o _ _ hL, .inl nm, fun i h hS => let ⟨o, e, _⟩ := hS.2.2; ⟨o, e⟩⟩)
      (fun i h hS => itl_rev hS.2.1) (fun _ _ _ _ st q => wpAny_pyIter_revIter st.2.1 q) (fun i v h hp => ?_), trivial, h⟩
    · have e : ((l.reverse.length : Nat) : Int) - 1 - ((0 : Nat) : Int) = (xs.toArray.size : Int) - 1 := by rw [List.size_toArray, List.length_reverse, hr.length]; simp
      rw [e]; exact hri
    · obtain ⟨hi, hp⟩ := hp
      have hp : xs[xs.length - 1 - i]? = some v := by rw [← hr.length]; simpa using hp
      have hi : i < l.length := by simpa using hi
      have hrr := hr.reverse
      have e1 : xs.reverse[i]? = some v := by rw [List.getElem?_reverse (by rw [← hr.length]; exact hi)]; exact hp
      have hi' : i < l.reverse.length := by simpa using hi
      obtain ⟨v₂, e, rv⟩ := hrr.at (List.getElem?_eq_getElem hi')
      rw [e1] at e; cases e
      exact ⟨_, List.getElem?_eq_getElem hi', .inl (rv.grow I.tupOut g')⟩
end
end Mine
end
section
open PySem PySem.W PySem.Calls PyProof.Rows PySem.MeetsSeq PySem.MeetsSeq2 PySem.MeetsSeq3
set_option Elab.async false
set_option linter.unusedVariables false
namespace Mine
section
variable {c : Cx} {sc : Sc} {d : Nat} {ρ : Vars} {σ : St} {Q : Post} {R : Fl → Vars → St → Prop} {A : Around} {env : Env} {s s₁ : Shared} {θ θ₁ : List Addr} {x y : Str} {G : List V → (St → Prop) → St → Prop} {target : Expr}

theorem EX_While {test : Expr} {body : List Stmt} {pos : Pos} (J : Nat → Vars → St → Prop) (n : Nat) (h0 : J n ρ σ)
    (step : ∀ n ρ σ, J n ρ σ → ET c sc d test ρ σ fun b σ₁ => if b = true then EXs c sc d body ρ σ₁ (fun f ρ' σ' => match f with
      | .next => ∃ m, m < n ∧ J m ρ' σ'
      | .cont => ∃ m, m < n ∧ J m ρ' σ'
      | .brk => R .next ρ' σ'
      | .ret v => R (.ret v) ρ' σ') else R .next ρ σ₁) : EX c sc d (.While test body [] pos) ρ σ R := fun A env s θ r X I F => by
  refine wpAny_While (codeAny_whileLoop (fun n s' => ∃ ρ' σ' θ', Inv c s' θ' σ' ∧ FrA c s'.heap θ' env ρ' ∧ GrowX (own env) s.heap θ s'.heap θ' ∧ J n ρ' σ') ?_ n ⟨ρ, σ, θ, I, F, GrowX.refl .., h0⟩)
  rintro n s' ⟨ρ', σ', θ', I', F', g', hJ⟩
  refine wpAny_mono (step n ρ' σ' hJ A env s' θ' r X I' F') (fun b s₂ h₂ => ?_) fun _ _ x => x.elim
  obtain ⟨σ₂, θ₂, I₂, g₂, q⟩ := h₂
  have F₂ := F'.grow I'.tupOut g₂
  have gg := GrowX.trans F'.ownX g' g₂.x
  cases b with
  | true =>
    refine wpAny_mono (q A env s₂ θ₂ r X I₂ F₂) (fun f s₃ h₃ => ?_) fun _ _ x => x.elim
    obtain ⟨fl, ρ₃, σ₃, θ₃, I₃, F₃, g₃, rf, q₃⟩ := h₃
    have g4 := GrowX.trans F₂.ownX gg g₃
    cases rf with
    | next => obtain ⟨m, hm, hJ⟩ := q₃; exact ⟨m, hm, ρ₃, σ₃, θ₃, I₃, F₃, g4, hJ⟩
    | cont => obtain ⟨m, hm, hJ⟩ := q₃; exact ⟨m, hm, ρ₃, σ₃, θ₃, I₃, F₃, g4, hJ⟩
    | brk => exact ⟨.next, ρ₃, σ₃, θ₃, I₃, F₃, g4, .next, q₃⟩
    | ret rv => exact ⟨.ret _, ρ₃, σ₃, θ₃, I₃, F₃, g4, .ret rv, q₃⟩
  | false => exact wpAny_execs_nil ⟨.next, ρ', σ₂, θ₂, I₂, F₂, gg, .next, q⟩

theorem loadName_ok (X : EnvIs sc env) (I : Inv c s θ σ) (F : FrA c s.heap θ env ρ) {v : V} (hv : get ρ x = some v) (hn : (x == ("__classdict__" : Str)) = false) {P : Value → Shared → Prop} (h : ∀ v', RepV s.heap θ v v' → P v' s) : wpAny (model c.prog c.w) A (loadName env x) P NoE s := by
  obtain ⟨m, cm, hm, hc, hr⟩ := F.at_
  obtain ⟨v', a, b⟩ := hr x v hv
  rcases b with ⟨b1, b2⟩ | ⟨b1, b2, b3⟩
  · exact wpAny_loadName_local X.fn b1 hm b2 (h v' a)
  · obtain ⟨k, hk⟩ := Option.isSome_iff_exists.mp b2
    rcases b1 with b1 | b1
    · exact wpAny_loadName_cell X.fn b1 hk (b3 ▸ hc x k hk) (h v' a)
    · exact wpAny_loadName_free X.fn b1 hk (b3 ▸ hc x k hk) (h v' a) hn

theorem EX_AugAdd {x : Str} {value : Expr} {p pos : Pos} {a : Int} (hv : get ρ x = some (.int a)) (hk : kindOk sc x) (h : EV c sc d value ρ σ fun v σ₁ => ∃ b, v = .int b ∧ R .next (put ρ x (.int (a + b))) σ₁)
    (hn : (x == ("__classdict__" : Str)) = false := by decide) : EX c sc d (.AugAssign (.Name x p) .Add value pos) ρ σ R := fun A env s θ r X I F => by
  refine wpAny_AugAssign_Name (loadName_ok X I F hv hn fun v' rv => ?_)
  cases rv with
  | int a t =>
    refine wpAny_mono (h A env s θ r X I F) (fun w' s₁ h₁ => ?_) fun _ _ x => x
    obtain ⟨v, σ₁, θ₁, I₁, g₁, rv, b, rfl, q⟩ := h₁
    cases rv with
    | int b u =>
      refine iadd_int ?_
      have F₁ := F.grow I.tupOut g₁
      exact storeName_ok (s := { s₁ with toks := s₁.toks + 1 }) X (I₁.toks (s₁.toks + 1)) F₁ hk (.int (a + b) s₁.toks) fun s₂ I₂ F₂ g₂ _ => ⟨.next, _, σ₁, θ₁, I₂, F₂, GrowX.trans F₁.ownX g₁.x g₂, .next, q⟩

/-- enumerate over a list -/
theorem ITC_enumerate {v : V} {l : List V} {es : List Expr} {k : Nat} {p : Pos} (hl : v = .lst l ∨ ∃ n xs k, v = .loc n ∧ σ[n]? = some (.fz xs k l))
    (h : ∀ K : St → Prop, (∀ n xs k, v = .loc n → σ[n]? = some (.fz xs k l) → ∀ σ' : St, σ'[n]? = some (.fz xs k l) → K σ') → (v = .lst l → ∀ σ', K σ') → G (l.mapIdx fun i v => .tup [.int (i : Nat), v]) K σ) : ITC c d (.Tuple es k p) (.raw (.type "enumerate")) [v] σ G := fun A env s θ ρ f' vs' r I F rf rv => by
  cases rf
  obtain ⟨v', rfl, r1⟩ := rv.one
  have key : ∃ (a : Addr) (xs : List Value) (k : Nat) (K : St → Prop), v' = .ref a ∧ IsL s.heap a xs.toArray k ∧ RepVs s.heap θ l xs ∧ K σ ∧ G (l.mapIdx fun i v => .tup [.int (i : Nat), v]) K σ ∧ (a ∉ θ ∨ ∃ (n : Nat) (xs : List Value) (k : Nat) (l' : List V), θ[n]? = some a ∧ ∀ σ' : St, K σ' → σ'[n]? = some (SO.fz xs k l')) := by
    rcases hl with rfl | ⟨n, xs, k, rfl, hn⟩
    · cases r1 with
      | lst l a xs n nm hl hr => exact ⟨a, xs, n, fun _ => True, rfl, hl, hr, trivial, h _ (fun _ _ _ e => by cases e) (fun _ _ => trivial), .inl nm⟩
    · obtain ⟨a, rfl, e⟩ := r1.ofLoc
      obtain ⟨hl, hr⟩ := I.rep.obj n _ a hn e
      refine ⟨a, xs, k, fun σ' => σ'[n]? = some (.fz xs k l), rfl, hl, hr, hn, h _ (fun n' xs' k' e' h' σ' h2 => ?_) (fun e => by cases e), .inr ⟨n, xs, k, l, e, fun _ h => h⟩⟩
      cases e'; rw [hn] at h'; cases h'; exact h2
  obtain ⟨a, xs, kk, K, rfl, hL, hr, hK, hG, hfz⟩ := key
  have hlt : a < s.heap.objs.size := Heap.lt_size hL
  refine call_enumerate_list hL.isList fun h' hE hI hsz hk => ?_
  refine wpAny_pyIter_enum hE ?_
  have hI' : Inv c { s with heap := h', toks := s.toks } θ σ := I.keeps hk
  have g' : Grow s.heap θ h' θ := grow_keeps hk
  have W := KTurns.lt <| KTurns.ofWalksU (elts := es) (k := k) (pos := p) (WalksT.enumerate (prog := c.prog) (w := c.w) r.handled (s.heap.objs.size + 1) s.heap.objs.size a (Nat.succ_ne_self _) (ktu_ne 1 hlt) (Nat.ne_of_lt hlt) xs.toArray).toU
  have el : xs.toArray.size = (l.mapIdx fun i v => V.tup [.int (i : Nat), v]).length := by rw [List.size_toArray, List.length_mapIdx, hr.length]
  have W' := KTurns.cast el W
  have ht : IT c A (.Tuple es k p) env s { s with heap := h' } θ K (.ref (s.heap.objs.size + 1)) (l.mapIdx fun i v => V.tup [.int (i : Nat), v]) := by
    refine ⟨_, _, _, _, _, _, rfl, W', ⟨⟨_, hE⟩, hI, hL.isList.at fun o e => hk _ _ e⟩, fun b hb => ?_, fun b hb => ?_, fun i h b hS hb => ?_, fun i h b hS hb => ?_, fun i s Q E st q => ?_, ?_⟩
    · have hb : b = s.heap.objs.size + 1 ∨ b = s.heap.objs.size := by simpa using hb
      have hle : s.heap.objs.size ≤ b := by rcases hb with rfl | rfl; exact Nat.le_succ _; exact Nat.le_refl _
      exact ⟨I.none' hle, I.new hle⟩
    · have hb : b = s.heap.objs.size + 1 ∨ b = s.heap.objs.size ∨ b = a := by simpa using hb
      by_cases hle : s.heap.objs.size ≤ b
      · exact ⟨fun o => absurd (F.lt o) (Nat.not_lt.mpr hle), .inl (I.new hle).1⟩
      · have : b = a := by
          rcases hb with rfl | rfl | rfl
          · exact absurd (Nat.le_succ _) hle
          · exact absurd (Nat.le_refl _) hle
          · rfl
        subst this
        exact ⟨fun o => F.ownNoL _ o _ _ hL, hfz⟩
    · have hb : b = s.heap.objs.size + 1 ∨ b = s.heap.objs.size := by simpa using hb
      obtain ⟨⟨old, he⟩, hi, _⟩ := hS
      rcases hb with rfl | rfl
      · exact ⟨_, _, he, rfl, fun x t h => by simp at h⟩
      · exact itl_list hi
    · have hb : b = s.heap.objs.size + 1 ∨ b = s.heap.objs.size ∨ b = a := by simpa using hb
      obtain ⟨⟨old, he⟩, hi, hl⟩ := hS
      rcases hb with rfl | rfl | rfl
      · exact ⟨_, he⟩
      · obtain ⟨o, e, _⟩ := hi; exact ⟨o, e⟩
      · obtain ⟨o, e, _⟩ := hl; exact ⟨o, e⟩
    · obtain ⟨⟨old, he⟩, _, _⟩ := st
      exact wpAny_pyIter_enum he q
    · rintro i v h ⟨hi, T, vals, rfl, ⟨t, x, hx, rfl⟩, hT⟩
      have hx : xs[i]? = some x := by simpa using hx
      have hil : i < l.length := by rw [hr.length]; exact (List.getElem?_eq_some_iff.mp hx).1
      obtain ⟨v₂, e, rv⟩ := hr.at (List.getElem?_eq_getElem hil)
      rw [hx] at e; cases e
      exact ⟨.tup [.int (i : Nat), l[i]], by simp [List.getElem?_mapIdx, hil], .inr ⟨T, [.int i t, x], _, ⟨_, _, _, rfl⟩, rfl, rfl, hT, .cons (.int _ _) (.cons (rv.grow I.tupOut g') .nil)⟩⟩
  exact ⟨_, K, hI', g', ht, hK, hG⟩

theorem RepV.growX {X : Addr → Prop} {h h' : Heap} {θ' : List Addr} (T : TupOut h θ) (g : GrowX X h θ h' θ') (hX : ∀ b, X b → Off h b) {v : V} {x : Value} (q : RepV h θ v x) : RepV h' θ' v x :=
  RepV.rec (motive_1 := fun v v' _ => RepV h' θ' v v') (motive_2 := fun v v' _ => RepVs h' θ' v v') .none .bool .int .str .raw
    (fun n a e => .loc n a (by obtain ⟨t, e'⟩ := g.pre; rw [e', List.getElem?_append_left (List.getElem?_eq_some_iff.mp e).1]; exact e))
    (fun l b xs ht _ ih => .tup l b xs (by obtain ⟨n, e⟩ := ht; exact ⟨n, g.kept b _ e (fun m => T b m _ ⟨n, e⟩) fun z => (hX b z).notT _ ⟨n, e⟩⟩) ih)
    (fun l b xs n nm e _ ih => .lst l b xs n (g.notMem e nm) (g.kept b _ e nm fun z => (hX b z).notL _ _ e) ih) .nil (fun _ _ a b => .cons a b) q
theorem FrA.growX {X : Addr → Prop} {h h' : Heap} {θ' : List Addr} (F : FrA c h θ env ρ) (T : TupOut h θ) (g : GrowX X h θ h' θ') (hX : ∀ b, X b → Off h b ∧ ¬ own env b) : FrA c h' θ' env ρ := by
  obtain ⟨⟨m, cm, hm, hc, hr⟩, lo, lob, cl, ap⟩ := F
  refine ⟨⟨m, cm, hm.at' fun o e => g.kept _ _ e lo (fun z => (hX _ z).2 (.inl rfl)), fun n k e => ?_, fun x v e => ?_⟩, ?_, lob, fun n k e => ?_, ap⟩
  · obtain ⟨o, e', r⟩ := hc n k e; exact ⟨o, g.kept _ _ e' (cl n k e).2.1 (fun z => (hX _ z).2 (.inr ⟨n, e⟩)), r⟩
  · obtain ⟨v', a, b⟩ := hr x v e; exact ⟨v', a.growX T g (fun b z => (hX b z).1), b⟩
  · obtain ⟨o, es, ep, e, _⟩ := hm; exact g.notMem e lo
  · obtain ⟨o, e', _⟩ := hc n k e; exact ⟨(cl n k e).1, g.notMem e' (cl n k e).2.1, (cl n k e).2.2⟩

/-- a local of the frame gets a value: nothing else is touched -/
theorem storeLocal_ok {v : V} {v' : Value} (X : EnvIs sc env) (I : Inv c s θ σ) (F : FrA c s.heap θ env ρ) (hk : sc.scope.names.lookup x = some .local) (r : RepV s.heap θ v v')
    {P : Unit → Shared → Prop} (h : ∀ s₁, Inv c s₁ θ σ → FrA c s₁.heap θ env (put ρ x v) → GrowX (· = env.locals) s.heap θ s₁.heap θ → P () s₁) :
    wpAny (model c.prog c.w) A (storeName env x v') P NoE s := by
  obtain ⟨m, cm, hm, hc, hr⟩ := F.at_
  refine wpAny_storeName_local (by rw [X.kindOf]; exact hk) hm (fun h' hn hs => ?_) (by rw [X.scope, X.kind]; rfl)
  have hw : ∀ b, b = env.locals → Off s.heap b ∧ b ∉ θ ∧ c.hb.get? b = none := fun b e => by subst e; exact ⟨.ns hm, F.lo, F.lob⟩
  have hkp : ∀ b o, ¬ b = env.locals → s.heap.get? b = some o → h'.get? b = some o := fun b o n e => hs.extBut b o n e
  have hv : ∀ {v : V} {v' : Value}, RepV s.heap θ v v' → RepV h' θ v v' := fun q => q.but (W := (· = env.locals)) (fun b z => (hw b z).1) hkp
  refine h _ (I.but (t := s.toks + 1) hw hkp) ⟨⟨_, cm, hn, fun n k e => (hc n k e).sameBut hs (F.cells n k e).1, fun y u hy => ?_⟩, F.lo, F.lob, F.cells, F.apart⟩ ⟨⟨[], (List.append_nil _).symm⟩, fun _ m n => (n m).elim, fun b o e _ k => hkp b o k e⟩
  rw [get_put] at hy
  by_cases hxy : x = y
  · subst hxy
    rw [if_pos rfl] at hy; cases hy
    exact ⟨v', hv r, .inl ⟨by rw [X.kindOf]; exact hk, by simp⟩⟩
  · rw [if_neg hxy] at hy
    obtain ⟨u', a, b⟩ := hr y u hy
    refine ⟨u', hv a, ?_⟩
    rcases b with ⟨b1, b2⟩ | b
    · exact .inl ⟨b1, by (have hyx : ¬ y = x := fun e => hxy e.symm); (simp only [hyx, if_false]); exact b2⟩
    · exact .inr b

theorem closureFor_ok (scope : Scope) (env : Env) (h : ∀ x ∈ scope.names, x.2 = .free → (env.cells.lookup x.1).isSome = true) :
    ∃ cl, closureFor scope env = pure cl ∧ (∀ n k, cl.lookup n = some k → env.cells.lookup n = some k) ∧ ∀ x ∈ scope.names, x.2 = .free → (cl.lookup x.1).isSome = true := by
  unfold closureFor
  have go : ∀ (names : List (Str × NameKind)) (cs : List (Str × Addr)), (∀ x ∈ names, x.2 = .free → (env.cells.lookup x.1).isSome = true) → (∀ n k, cs.lookup n = some k → env.cells.lookup n = some k) →
      ∃ cl, (forIn names cs fun p r => (if (p.2 == NameKind.free) = true then do let a ← cellOf env p.1; pure (ForInStep.yield ((p.1, a) :: r)) else pure (ForInStep.yield r) : Sem _)) = pure cl ∧ (∀ n k, cl.lookup n = some k → env.cells.lookup n = some k) ∧
        (∀ n, (cs.lookup n).isSome = true → (cl.lookup n).isSome = true) ∧ ∀ x ∈ names, x.2 = .free → (cl.lookup x.1).isSome = true := by
    intro names
    induction names with
    | nil => intro cs _ hcs; exact ⟨cs, rfl, hcs, fun _ h => h, fun _ m => by cases m⟩
    | cons p names ih =>
      intro cs hf hcs
      obtain ⟨n, k⟩ := p
      rw [List.forIn_cons]
      by_cases hk : k = .free
      · subst hk
        obtain ⟨a, ha⟩ := Option.isSome_iff_exists.mp (hf (n, .free) List.mem_cons_self rfl)
        have ha' : env.cells.lookup n = some a := ha
        obtain ⟨cl, e, h1, h2, h3⟩ := ih ((n, a) :: cs) (fun x hx => hf x (List.mem_cons_of_mem _ hx)) (fun n' k' e => by
          rw [List.lookup_cons] at e
          split at e
          · rename_i q; cases e; rw [beq_iff_eq.mp q]; exact ha'
          · exact hcs _ _ e)
        refine ⟨cl, ?_, h1, fun n' hn' => h2 n' ?_, fun x hx hxf => ?_⟩
        · show (do let a ← cellOf env n; pure (ForInStep.yield ((n, a) :: cs)) : Sem _) >>= _ = _
          have : cellOf env n = pure a := by unfold cellOf; rw [ha']
          rw [this]
          exact e
        · rw [List.lookup_cons]; split <;> first | rfl | exact hn'
        · rcases List.mem_cons.mp hx with rfl | hx
          · exact h2 n (by rw [List.lookup_cons, beq_self_eq_true]; rfl)
          · exact h3 x hx hxf
      · obtain ⟨cl, e, h1, h2, h3⟩ := ih cs (fun x hx => hf x (List.mem_cons_of_mem _ hx)) hcs
        refine ⟨cl, ?_, h1, h2, fun x hx hxf => ?_⟩
        · have : (k == NameKind.free) = false := by simpa using hk
          simp only [this]
          exact e
        · rcases List.mem_cons.mp hx with rfl | hx
          · exact absurd hxf hk
          · exact h3 x hx hxf
  obtain ⟨cl, e, h1, _, h3⟩ := go scope.names [] h (fun n k e => by cases e)
  refine ⟨cl, ?_, h1, h3⟩
  show ((forIn scope.names [] fun p r => (if (p.2 == NameKind.free) = true then do let a ← cellOf env p.1; pure (ForInStep.yield ((p.1, a) :: r)) else pure (ForInStep.yield r) : Sem _)) >>= fun cs => pure cs) = pure cl
  rw [e]
  rfl
end
end Mine
end
section
open PySem PySem.W PySem.Calls PyProof.Rows PySem.MeetsSeq PySem.MeetsSeq2 PySem.MeetsSeq3
set_option Elab.async false
set_option linter.unusedVariables false
namespace Mine
section
variable {c : Cx} {sc : Sc} {d : Nat} {ρ : Vars} {σ : St} {Q : Post} {R : Fl → Vars → St → Prop} {A : Around} {env : Env} {s s₁ : Shared} {θ θ₁ : List Addr} {x y : Str} {G : List V → (St → Prop) → St → Prop} {target : Expr}

def relabelS (scope : Scope) (sc : Sc) : Scope :=
  { scope with names := scope.names.map fun (n, k) => if (k == .free && sc.scope.kind == .function && sc.scope.names.lookup n == some .cell) then (n, .cell) else (n, k) }
theorem relabel_eq (X : EnvIs sc env) (scope : Scope) : relabel scope env = relabelS scope sc := by
  unfold relabel relabelS
  congr 1
  refine List.map_congr_left fun p _ => ?_
  obtain ⟨n, k⟩ := p
  show (if (k == NameKind.free && env.scope.kind == .function && env.kindOf n == some .cell) = true then (n, NameKind.cell) else (n, k)) = _
  rw [X.kindOf, X.scope]
def compSc (scope : Scope) (sc : Sc) : Sc := ⟨relabelS scope sc, sc.code⟩

theorem relabel_cell {sc : Sc} : ∀ {names : List (Str × NameKind)} {x : Str}, (∀ y ∈ names, y.2 ≠ .cell) → (names.map fun (n, k) => if (k == NameKind.free && sc.scope.kind == .function && sc.scope.names.lookup n == some .cell) then (n, NameKind.cell) else (n, k)).lookup x = some .cell → (x, .free) ∈ names
  | [], _, _, h => by cases h
  | (n, k) :: r, x, hc, h => by
    rw [List.map_cons, List.lookup_cons] at h
    by_cases hn : x = n
    · subst hn
      by_cases hf : k = .free
      · subst hf; exact List.mem_cons_self
      · have h1 : ((k == NameKind.free) = false) := by simpa using hf
        simp only [h1, Bool.false_and, Bool.false_eq_true, if_false, beq_self_eq_true] at h
        exact absurd (Option.some.inj h) (hc (x, k) List.mem_cons_self)
    · have key : ∀ kk : NameKind, ((x == ((n, kk) : Str × NameKind).1)) = false := fun kk => by simpa using hn
      have : (x == (if (k == NameKind.free && sc.scope.kind == .function && sc.scope.names.lookup n == some .cell) = true then (n, NameKind.cell) else (n, k)).1) = false := by split <;> exact key _
      rw [this] at h
      exact List.mem_cons_of_mem _ (relabel_cell (fun y hy => hc y (List.mem_cons_of_mem _ hy)) h)

def COMPS (c : Cx) (sc : Sc) (d : Nat) (elt : Expr) (x : Str) (K : St → Prop) (n : Nat) (T : List V → St → Prop) : List V → List V → Vars → St → Prop
  | [], acc, _, σ => σ[n]? = some (.list acc) ∧ T acc σ
  | v :: r, acc, ρ, σ => EV c sc d elt (put ρ x v) σ fun u σ₁ => σ₁[n]? = some (.list acc) ∧ acc.length ≤ 9000 ∧ K (σ₁.set n (.list (acc ++ [u]))) ∧ COMPS c sc d elt x K n T r (acc ++ [u]) (put ρ x v) (σ₁.set n (.list (acc ++ [u])))

theorem get_mem {α : Type} : ∀ {l : List (Str × α)} {x : Str} {v : α}, get l x = some v → (x, v) ∈ l
  | [], _, _, h => by cases h
  | (y, u) :: r, x, v, h => by
    unfold get at h
    split at h
    · rename_i e; subst e; cases h; exact List.mem_cons_self
    · exact List.mem_cons_of_mem _ (get_mem h)

theorem comp_ok {elt iter : Expr} {px : Pos} {scope : Scope} {pos pos' : Pos} {use : Option (Value → Sem Unit)} {P : Value → Shared → Prop} {ρc : Vars} {T : Nat → List V → St → Prop}
    (r : Room A d) (X : EnvIs sc env) (I : Inv c s θ σ) (F : FrA c s.heap θ env ρ)
    (hkind : scope.kind = .function) (hcell : ∀ y ∈ scope.names, y.2 ≠ .cell) (hfree : ∀ y ∈ scope.names, y.2 = .free → sc.scope.names.lookup y.1 = some .cell)
    (hnames : ∀ y ∈ scope.names, y.2 = .local → scope.names.lookup y.1 = some .local) (hx : (compSc scope sc).scope.names.lookup x = some .local)
    (hρ : ∀ p ∈ ρc, get ρ p.1 = some p.2 ∧ (p.1, .free) ∈ scope.names ∧ (compSc scope sc).scope.names.lookup p.1 = some .cell)
    (h : ITX c sc d (.Name x px) iter ρ σ fun l K σ₂ => K (σ₂ ++ [.list []]) ∧ COMPS c (compSc scope sc) d elt x K σ₂.length (T σ₂.length) l [] ρc (σ₂ ++ [.list []]))
    (fin : ∀ (C D : Addr) (n : Nat) (vs : List V) (σ' : St) (θ' : List Addr) (s' : Shared), Inv c s' θ' σ' → FrA c s'.heap θ' env ρ → Grow s.heap θ s'.heap θ' → s.heap.get? C = none → C ∉ θ' → c.hb.get? C = none → ¬ own env C → (∃ m, s'.heap.Ns C m) → θ'[n]? = some D → σ'[n]? = some (SO.list vs) → T n vs σ' → compPost (model c.prog c.w) A NoE use P (.ref D) C (.ok .next) s')
    (hs : ∀ env x, foldedSetIterable iter env x = pure x := by intro _ _; rfl) :
    wpAny (model c.prog c.w) A (comprehension (.ListComp elt [⟨.Name x px, iter, [], 0⟩] scope pos) scope env pos' (newList []) false (eval iter env) use) P NoE s := by
  obtain ⟨cl, hcl, hcl1, hcl2⟩ := closureFor_ok scope env fun y hy hf => X.cells _ (hfree y hy hf)
  refine wpAny_comprehension_free rfl (hs env) hcl hkind hnames (wpAny_mono (h A env s θ r X I F) (fun xv s₁ h₁ => wpAny_mono h₁ (fun it s₂ h₂ => ?_) fun _ _ x => x) fun _ _ x => x)
  obtain ⟨l, K, σ₂, θ₂, I₂, g₂, ⟨Ja, fp, wr, PP, Md, S, rfl, W, hS, hwr, hfp, hit, hex, hself, hP⟩, hK, hK', hL⟩ := h₂
  have F₂ := F.grow I.tupOut g₂
  refine wpAny_newObj_type ?_ (by show ([] : List Value).toArray.size ≤ sizeLine; rw [sizeLine_eq]; decide)
  -- the list that grows
  have L₃ := I₂.list (Q := fun v σ' => v = .loc σ₂.length ∧ σ' = σ₂ ++ [.list []]) (t := s₂.toks) RepVs.nil ⟨rfl, rfl⟩
  obtain ⟨v₃, σ₃, θ₃, I₃, g₃, rD, rfl, rfl⟩ := L₃
  obtain ⟨D, hD, eD⟩ := rD.ofLoc
  have hD' : s₂.heap.objs.size = D := by injection hD
  rw [hD']
  refine wpAny_newFunctionEnv hcell (by intro y hy; simp at hy) (fun h₁ hns₁ hsb₁ => ?_) hkind
  dsimp only at hns₁ hsb₁ I₃ g₃ ⊢
  have F₃ := F₂.grow I₂.tupOut g₃
  generalize hH : s₂.heap.push { cls := .type "list", dict := none, data := .seq ([] : List Value).toArray } = H at *
  have C0 : H.objs.size = H.objs.size := rfl
  generalize hC : H.objs.size = C at *
  have keep₁ : ∀ b o, H.get? b = some o → h₁.get? b = some o := fun b o e => hsb₁.extBut b o (by rw [← hC]; exact Nat.ne_of_lt (Heap.lt_size e)) (Heap.get?_push_of_some _ e)
  generalize hs₄ : ({ heap := h₁, gens := s₂.gens, drawn := s₂.drawn, toks := s₂.toks + ([] : List (Str × Value)).length, os := s₂.os } : Shared) = s₄
  have e₄ : s₄.heap = h₁ := by rw [← hs₄]
  have I₄ : Inv c s₄ θ₃ (σ₂ ++ [.list []]) := by rw [← hs₄]; exact I₃.keeps keep₁
  have g₄ : Grow H θ₃ s₄.heap θ₃ := by rw [e₄]; exact grow_keeps keep₁
  have F₄ : FrA c s₄.heap θ₃ env ρ := F₃.grow I₃.tupOut g₄
  have Cnew : ∀ b, own env b → b ≠ C := fun b ob e => by
    have := F₃.lt ob; rw [e, ← hC] at this; exact Nat.lt_irrefl _ this
  have Cθ : C ∉ θ₃ ∧ c.hb.get? C = none := I₃.new (by show H.objs.size ≤ C; rw [hC]; exact Nat.le_refl _)
  have Cs2 : s₂.heap.get? C = none := by
    cases e : s₂.heap.get? C with
    | none => rfl
    | some o => exact absurd (Heap.lt_size e) (by rw [← hC, ← hH, Heap.size_push]; exact Nat.not_lt.mpr (Nat.le_succ _))
  have Cs : s.heap.get? C = none := by
    cases e : s.heap.get? C with
    | none => rfl
    | some o =>
      by_cases m : C ∈ θ
      · exact absurd (g₃.mem (g₂.mem m)) Cθ.1
      · have q := g₂.kept C o e m; rw [Cs2] at q; cases q
  have hlo : ∀ b ∈ wr, b ≠ C := fun b hb e => by
    obtain ⟨o, _, e', _⟩ := hit 0 _ b hS hb; rw [e, Cs2] at e'; cases e'
  let cenv : Env := { scope := relabel scope env, locals := C, globals := env.globals, cells := cl, qual := env.qual, func := none, code := env.code, frame := env.frame, builtins := env.builtins }
  have Xc : EnvIs (compSc scope sc) cenv := ⟨relabel_eq X scope, X.globals, X.builtins, X.code, hkind, fun y hy => hcl2 _ (relabel_cell hcell hy) rfl⟩
  have Fc : FrA c s₄.heap θ₃ cenv ρc := by
    obtain ⟨m, cm, hm, hc, hr⟩ := F₄.at_
    refine ⟨⟨_, cm, by rw [e₄]; exact hns₁, fun n k e => hc n k (hcl1 n k e), fun y v hy => ?_⟩, Cθ.1, Cθ.2, fun n k e => ?_, fun n n' k e e' => F₄.apart n n' k (hcl1 _ _ e) (hcl1 _ _ e')⟩
    · obtain ⟨h1, h2, h3⟩ := hρ _ (get_mem hy)
      obtain ⟨v', a, b⟩ := hr y v h1
      refine ⟨v', a, .inr ⟨.inl ?_, hcl2 _ h2 rfl, ?_⟩⟩
      · show Env.kindOf cenv y = _
        rw [Xc.kindOf]; exact h3
      · rcases b with ⟨b1, _⟩ | b
        · rw [X.kindOf] at b1
          rw [hfree _ h2 rfl] at b1; cases b1
        · exact b.2.2
    · have q := F₄.cells n k (hcl1 _ _ e)
      exact ⟨Cnew k (.inr ⟨n, hcl1 _ _ e⟩), q.2⟩
  have hS₄ : S 0 s₄.heap := W.frame _ _ _ hS fun b hb o e => by
    rw [e₄]; refine keep₁ b o ?_; rw [← hH]; exact Heap.get?_push_of_some _ e
  let XC : Addr → Prop := fun b => b = C ∨ b ∈ wr
  have loop : codeAny (model c.prog c.w) A (.compLoop (.ListComp elt [⟨.Name x px, iter, [], 0⟩] scope pos) 0 (.ref Ja) (.ref D) cenv) (compPost (model c.prog c.w) A NoE use P (.ref D) C) s₄ := by
    refine codeAny_compLoop_tests
      (fun k s' => ∃ i ρ' σ' θ' acc, k = l.length + 1 - i ∧ i ≤ l.length ∧ S i s'.heap ∧ Inv c s' θ' σ' ∧ FrA c s'.heap θ' cenv ρ' ∧ FrA c s'.heap θ' env ρ ∧ GrowX XC s₄.heap θ₃ s'.heap θ' ∧ (∀ b ∈ wr, b ∉ θ') ∧ K σ' ∧ COMPS c (compSc scope sc) d elt x K σ₂.length (T σ₂.length) (l.drop i) acc ρ' σ')
      ?_ (l.length + 1) ⟨0, ρc, _, θ₃, [], rfl, Nat.zero_le _, hS₄, I₄, Fc, F₄, GrowX.refl .., fun b hb m => ?_, hK', by rw [List.drop_zero]; exact hL⟩
    · rintro k s' ⟨i, ρ', σ', θ', acc, rfl, hi, hS', I', F', Fo', g', hwθ, hK', hL'⟩
      have offC : ∀ {t : Shared} {τ : List Addr} {ρ₀ : Vars}, FrA c t.heap τ cenv ρ₀ → Off t.heap C := fun f => by obtain ⟨m, _, hm, _⟩ := f.at_; exact .ns hm
      have exX : ∀ {t : Shared} {τ : List Addr} {ρ₀ : Vars} {j : Nat}, S j t.heap → FrA c t.heap τ cenv ρ₀ → (∀ b ∈ wr, b ∉ τ) → ∀ x, XC x → ∃ o, t.heap.get? x = some o ∧ x ∉ τ := fun hs f hw x hx => by
        rcases hx with rfl | hx
        · exact f.ownX _ (.inl rfl)
        · obtain ⟨o, _, e, _⟩ := hit _ _ x hs hx; exact ⟨o, e, hw x hx⟩
      have turned : ∀ {h₁ : Heap} {t : Nat}, (∀ b o, b ∉ wr → s'.heap.get? b = some o → h₁.get? b = some o) → Inv c { s' with heap := h₁, toks := t } θ' σ' ∧ FrA c h₁ θ' cenv ρ' ∧ FrA c h₁ θ' env ρ ∧ GrowX XC s'.heap θ' h₁ θ' := fun {h₁ t} hk => by
        refine ⟨I'.but (W := fun b => b ∈ wr) (fun b hb => ⟨(hit i _ b hS' hb).off, hwθ b hb, (hwr b hb).2.2⟩) hk, F'.but (W := fun b => b ∈ wr) (fun b hb => ⟨(hit i _ b hS' hb).off, ?_⟩) hk, Fo'.but (W := fun b => b ∈ wr) (fun b hb => ⟨(hit i _ b hS' hb).off, (hfp b (W.sub b hb)).1⟩) hk,
          ⟨⟨[], (List.append_nil _).symm⟩, fun _ m n => (n m).elim, fun b o e _ nx => hk b o (fun z => nx (.inr z)) e⟩⟩
        rintro (e | ⟨n, e⟩)
        · exact hlo b hb e
        · exact (hfp b (W.sub b hb)).1 (.inr ⟨n, hcl1 _ _ e⟩)
      by_cases hlt : i < l.length
      · refine W.item i _ _ _ hlt hS' fun v h₁ tk₁ hMd hk₁ => ?_
        show wpAny _ A (letOwnedTupleGo (.Name x px) (.ref Ja) v >>= fun _ => assign (.Name x px) cenv v) _ _ _
        refine wpAny_bind (W.go i v _ _ _ hMd fun h₂ hPi hS₂ hk₂ => ?_)
        obtain ⟨J₂, G₂, Go₂, e₂⟩ := turned (t := tk₁) (fun b o hb x => hk₂ b o hb (hk₁ b o hb x))
        obtain ⟨xv, hxv, hv⟩ := hP i v h₂ hPi
        have hd : l.drop i = xv :: l.drop (i + 1) := by
          rw [List.drop_eq_getElem_cons hlt]; congr 1
          exact Option.some.inj ((List.getElem?_eq_getElem hlt).symm.trans hxv)
        rw [hd] at hL'
        have hv' : RepV h₂ θ' xv v := by
          rcases hv with q | ⟨_, _, _, ⟨_, _, _, e⟩, _⟩
          · have q4 : RepV s₄.heap θ₃ xv v := (q.grow I₂.tupOut g₃).grow I₃.tupOut g₄
            refine q4.growX I₄.tupOut (GrowX.trans (exX hS' F' hwθ) g' e₂) ?_
            rintro b (rfl | hb)
            · exact offC Fc
            · exact (hit 0 _ b hS₄ hb).off
          · cases e
        have core : wpAny (model c.prog c.w) A (assign (.Name x px) cenv v) (fun _ s₂ => wpAny (model c.prog c.w) A (eval elt cenv) (fun y s₄' => wpAny (model c.prog c.w) A (call (.builtin "list.append") [.ref D, y]) (fun _ s₅ => ∃ m, m < l.length + 1 - i ∧ ∃ i ρ' σ' θ' acc, m = l.length + 1 - i ∧ i ≤ l.length ∧ S i s₅.heap ∧ Inv c s₅ θ' σ' ∧ FrA c s₅.heap θ' cenv ρ' ∧ FrA c s₅.heap θ' env ρ ∧ GrowX XC s₄.heap θ₃ s₅.heap θ' ∧ (∀ b ∈ wr, b ∉ θ') ∧ K σ' ∧ COMPS c (compSc scope sc) d elt x K σ₂.length (T σ₂.length) (l.drop i) acc ρ' σ') NoE s₄') NoE s₂) NoE { s' with heap := h₂, toks := tk₁ } := by
          refine wpAny_assign_Name (storeLocal_ok Xc J₂ G₂ hx hv' fun s₅ I₅ F₅ g₅ => ?_)
          have Fo₅ : FrA c s₅.heap θ' env ρ := Go₂.growX J₂.tupOut g₅ fun b z => by subst z; exact ⟨offC (t := { s' with heap := h₂, toks := tk₁ }) G₂, fun ob => Cnew _ ob rfl⟩
          refine wpAny_mono (hL' A cenv s₅ θ' r Xc I₅ F₅) (fun y s₆ h₆ => ?_) fun _ _ x => x
          obtain ⟨u, σ₆, θ₆, I₆, g₆, ru, hn6, hsz6, hK6, q₆⟩ := h₆
          have F₆ := F₅.grow I₅.tupOut g₆
          have Fo₆ := Fo₅.grow I₅.tupOut g₆
          have eD3 : θ₆[σ₂.length]? = some D := g₆.at (by obtain ⟨t, e'⟩ := g'.pre; rw [e', List.getElem?_append_left (List.getElem?_eq_some_iff.mp eD).1]; exact eD)
          refine wpAny_mono (CALL_append (c := c) (d := d) (Q := fun v σ' => σ' = σ₆.set σ₂.length (.list (acc ++ [u]))) hn6 (by omega) rfl A s₆ θ₆ _ [.ref D, y] r I₆ (.raw _) (.cons (.loc _ _ eD3) (.cons ru .nil))) (fun _ s₇ h₇ => ?_) fun _ _ x => x
          obtain ⟨_, σ₇, θ₇, I₇, g₇, _, rfl⟩ := h₇
          have F₇ := F₆.grow I₆.tupOut g₇
          have Fo₇ := Fo₆.grow I₆.tupOut g₇
          have g57 : GrowX XC h₂ θ' s₇.heap θ₇ := GrowX.trans (fun x hx => by
            rcases hx with rfl | hx
            · exact F₅.ownX _ (.inl rfl)
            · obtain ⟨o, _, e, _⟩ := hit _ _ x hS₂ hx
              exact ⟨o, g₅.kept _ _ e (hwθ x hx) (hlo x hx), hwθ x hx⟩) (g₅.weaken fun b z => .inl z) (g₆.trans g₇).x
          have all : GrowX XC s₄.heap θ₃ s₇.heap θ₇ := GrowX.trans (exX (t := { s' with heap := h₂, toks := tk₁ }) hS₂ G₂ hwθ) (GrowX.trans (exX hS' F' hwθ) g' e₂) g57
          have hwθ₇ : ∀ b ∈ wr, b ∉ θ₇ := fun b hb => by obtain ⟨o, _, e, _⟩ := hit _ _ b hS₂ hb; exact g57.notMem e (hwθ b hb)
          refine ⟨l.length + 1 - (i + 1), by omega, i + 1, _, _, θ₇, _, rfl, hlt, ?_, I₇, F₇, Fo₇, all, hwθ₇, hK6, q₆⟩
          refine W.frame _ _ _ hS₂ fun b hb o e => ?_
          have bC : b ≠ C := by
            rintro rfl
            obtain ⟨o2, e2⟩ := hex 0 _ _ hS hb
            rw [Cs2] at e2; cases e2
          rcases (hfp b hb).2 with hn | ⟨n, xs, kk, l', e1, e2⟩
          · have hn3 : b ∉ θ' := by
              obtain ⟨o2, e2⟩ := hex 0 _ b hS hb
              have : b ∉ θ₃ := g₃.notMem e2 hn
              obtain ⟨o4, e4⟩ := hex 0 _ b hS₄ hb
              exact g'.notMem e4 this
            refine (g₆.trans g₇).kept b o (g₅.kept b o e hn3 bC) hn3
          · have a3 : θ₃[n]? = some b := g₃.at e1
            have a1 : θ'[n]? = some b := by obtain ⟨t, e'⟩ := g'.pre; rw [e', List.getElem?_append_left (List.getElem?_eq_some_iff.mp a3).1]; exact a3
            have a2 : θ₇[n]? = some b := by obtain ⟨t, e'⟩ := all.pre; rw [e', List.getElem?_append_left (List.getElem?_eq_some_iff.mp a3).1]; exact a3
            have b1 : IsL h₂ b xs.toArray kk := (J₂.rep.obj n _ b (e2 _ hK') a1).1
            have b2 : IsL s₇.heap b xs.toArray kk := (I₇.rep.obj n _ b (e2 _ hK6) a2).1
            have : o = _ := Option.some.inj (e.symm.trans b1)
            rw [this]; exact b2
        refine wpAny_mono core (fun _ s₂ h₂ => ?_) fun _ _ x => x.elim
        refine wpAny_pure ?_
        exact wpAny_mono h₂ (fun _ s₃ h₃ => wpAny_mono h₃ (fun _ _ x => x) fun _ _ x => x.elim) fun _ _ x => x.elim
      · have hin : i = l.length := by omega
        subst hin
        refine W.done _ _ _ hS' fun h₁ tk₁ hk₁ => ?_
        obtain ⟨J₁, G₁, Go₁, e₁⟩ := turned (t := tk₁) hk₁
        rw [List.drop_length] at hL'
        obtain ⟨hn, hT⟩ := hL'
        have all : GrowX XC s₄.heap θ₃ h₁ θ' := GrowX.trans (exX hS' F' hwθ) g' e₁
        refine fin C D σ₂.length acc σ' θ' _ J₁ Go₁ ?_ Cs G₁.lo Cθ.2 (fun ob => Cnew _ ob rfl) (by obtain ⟨m, _, hm, _⟩ := G₁.at_; exact ⟨m, hm⟩) ?_ hn hT
        · have g24 : Grow s.heap θ s₄.heap θ₃ := (g₂.trans g₃).trans g₄
          refine ⟨?_, fun a m n => ?_, fun b o e n => ?_⟩
          · obtain ⟨t, e⟩ := g24.pre; obtain ⟨u, e'⟩ := all.pre; exact ⟨t ++ u, by rw [e', e, List.append_assoc]⟩
          · by_cases h2 : a ∈ θ₃
            · exact g24.fresh a h2 n
            · cases e : s.heap.get? a with
              | none => rfl
              | some o => have := all.fresh a m h2; rw [g24.kept a o e n] at this; cases this
          · refine all.kept b o (g24.kept b o e n) (g24.notMem e n) ?_
            rintro (z | z)
            · rw [z, Cs] at e; cases e
            · rw [(hwr b z).1] at e; cases e
        · obtain ⟨t, e'⟩ := g'.pre; rw [e', List.getElem?_append_left (List.getElem?_eq_some_iff.mp eD).1]; exact eD
    · obtain ⟨o, _, e, _⟩ := hit 0 _ b hS hb
      exact g₃.notMem e (hwr b hb).2.1 m
  exact codeAny_compStart_list loop (hself 0 _ _ _ hS₄ loop)
end
end Mine
end
section
open PySem PySem.W PySem.Calls PyProof.Rows PySem.MeetsSeq PySem.MeetsSeq2 PySem.MeetsSeq3
set_option Elab.async false
set_option linter.unusedVariables false
namespace Mine
mutual
def clV (n : Nat) : V → Bool
  | .loc k => decide (k < n)
  | .tup l => clVs n l
  | .lst l => clVs n l
  | _ => true
def clVs (n : Nat) : List V → Bool
  | [] => true
  | v :: r => clV n v && clVs n r
end
def clO (n : Nat) : SO → Bool
  | .list l => clVs n l
  | .fz _ _ l => clVs n l
  | .dictS es => clVs n (es.map (·.2))
  | .dictI es => clVs n (es.map (·.2))
  | .attrs es => clVs n (es.map (·.2))
  | .inst _ d => decide (d < n)
  | .fn _ => true
  | .tab _ _ => true

section
variable {c : Cx} {sc : Sc} {d : Nat} {ρ : Vars} {σ : St} {Q : Post} {R : Fl → Vars → St → Prop} {A : Around} {env : Env} {s s₁ : Shared} {θ θ₁ : List Addr} {x y : Str} {target : Expr}

mutual
theorem RepV.cl {h : Heap} : ∀ {v : V} {x : Value}, RepV h θ v x → clV θ.length v = true
  | _, _, .none => rfl
  | _, _, .bool b => rfl
  | _, _, .int i t => rfl
  | _, _, .str x t => rfl
  | _, _, .raw v => rfl
  | _, _, .loc n a e => decide_eq_true (List.getElem?_eq_some_iff.mp e).1
  | _, _, .tup l a xs ht hs => RepVs.cl hs
  | _, _, .lst l a xs n nm hl hs => RepVs.cl hs
theorem RepVs.cl {h : Heap} : ∀ {l : List V} {xs : List Value}, RepVs h θ l xs → clVs θ.length l = true
  | _, _, .nil => rfl
  | _, _, .cons a b => by unfold clVs; rw [RepV.cl a, RepVs.cl b]; rfl
end
theorem clVs_of {n : Nat} : ∀ {l : List V}, clVs n l = true → ∀ v ∈ l, clV n v = true
  | _ :: _, h, v, m => by
    unfold clVs at h
    obtain ⟨h1, h2⟩ := Bool.and_eq_true_iff.mp h
    rcases List.mem_cons.mp m with rfl | m
    · exact h1
    · exact clVs_of h2 v m

mutual
theorem RepV.shrink {h : Heap} {t : List Addr} : ∀ {v : V} {x : Value}, RepV h (θ ++ t) v x → clV θ.length v = true → RepV h θ v x
  | _, _, .none, _ => .none
  | _, _, .bool b, _ => .bool b
  | _, _, .int i u, _ => .int i u
  | _, _, .str x u, _ => .str x u
  | _, _, .raw v, _ => .raw v
  | _, _, .loc n a e, hc => .loc n a (by rw [← e]; exact (List.getElem?_append_left (of_decide_eq_true hc)).symm)
  | _, _, .tup l a xs ht hs, hc => .tup l a xs ht (RepVs.shrink hs hc)
  | _, _, .lst l a xs n nm hl hs, hc => .lst l a xs n (fun m => nm (List.mem_append.mpr (.inl m))) hl (RepVs.shrink hs hc)
theorem RepVs.shrink {h : Heap} {t : List Addr} : ∀ {l : List V} {xs : List Value}, RepVs h (θ ++ t) l xs → clVs θ.length l = true → RepVs h θ l xs
  | _, _, .nil, _ => .nil
  | _, _, .cons a b, hc => by
    unfold clVs at hc
    obtain ⟨h1, h2⟩ := Bool.and_eq_true_iff.mp hc
    exact .cons (RepV.shrink a h1) (RepVs.shrink b h2)
end
theorem RepKs.cl {K : Type} {h : Heap} {l : List (K × V)} {xs : List (K × Value)} (r : RepKs h θ l xs) : clVs θ.length (l.map (·.2)) = true := by
  induction r with
  | nil => rfl
  | cons a _ ih => rw [List.map_cons]; unfold clVs; rw [ih, a.cl]; rfl
theorem RepAs.cl {h : Heap} {l : List (Str × V)} {xs : List DictEntry} (r : RepAs h θ l xs) : clVs θ.length (l.map (·.2)) = true := by
  induction r with
  | nil => rfl
  | cons _ a _ ih => rw [List.map_cons]; unfold clVs; rw [ih, a.cl]; rfl
theorem RepKs.shrink {K : Type} {h : Heap} {t : List Addr} {l : List (K × V)} {xs : List (K × Value)} (r : RepKs h (θ ++ t) l xs) (hc : clVs θ.length (l.map (·.2)) = true) : RepKs h θ l xs := by
  induction r with
  | nil => exact .nil
  | cons a _ ih =>
    rw [List.map_cons] at hc; unfold clVs at hc
    obtain ⟨h1, h2⟩ := Bool.and_eq_true_iff.mp hc
    exact .cons (a.shrink h1) (ih h2)
theorem RepAs.shrink {h : Heap} {t : List Addr} {l : List (Str × V)} {xs : List DictEntry} (r : RepAs h (θ ++ t) l xs) (hc : clVs θ.length (l.map (·.2)) = true) : RepAs h θ l xs := by
  induction r with
  | nil => exact .nil
  | cons e a _ ih =>
    rw [List.map_cons] at hc; unfold clVs at hc
    obtain ⟨h1, h2⟩ := Bool.and_eq_true_iff.mp hc
    exact .cons e (a.shrink h1) (ih h2)
theorem RepO.cl {prog : Program} {w : World} {h : Heap} {a : Addr} {o : SO} (r : RepO prog w h θ a o) : clO θ.length o = true := by
  cases o with
  | list l => obtain ⟨_, _, _, q⟩ := r; exact q.cl
  | fz xs n l => obtain ⟨_, q⟩ := r; exact q.cl
  | dictS es => obtain ⟨_, _, q⟩ := r; exact q.cl
  | dictI es => obtain ⟨_, _, q⟩ := r; exact q.cl
  | attrs es => obtain ⟨_, _, _, q⟩ := r; exact q.cl
  | inst C d => obtain ⟨_, e, _⟩ := r; exact decide_eq_true (List.getElem?_eq_some_iff.mp e).1
  | fn P => rfl
  | tab P ps => rfl
theorem RepO.shrink {prog : Program} {w : World} {h : Heap} {a : Addr} {o : SO} {t : List Addr} (r : RepO prog w h (θ ++ t) a o) (hc : clO θ.length o = true) : RepO prog w h θ a o := by
  cases o with
  | list l => obtain ⟨xs, n, e, q⟩ := r; exact ⟨xs, n, e, q.shrink hc⟩
  | fz xs n l => obtain ⟨e, q⟩ := r; exact ⟨e, q.shrink hc⟩
  | dictS es => obtain ⟨xs, e, q⟩ := r; exact ⟨xs, e, q.shrink hc⟩
  | dictI es => obtain ⟨xs, e, q⟩ := r; exact ⟨xs, e, q.shrink hc⟩
  | attrs es => obtain ⟨xs, n, e, q⟩ := r; exact ⟨xs, n, e, q.shrink hc⟩
  | inst C d => obtain ⟨dx, e, q⟩ := r; exact ⟨dx, by rw [← e]; exact (List.getElem?_append_left (of_decide_eq_true hc)).symm, q⟩
  | fn P => exact r
  | tab P ps => exact r

theorem RepVs.mem {h : Heap} : ∀ {l : List V} {xs : List Value}, RepVs h θ l xs → clVs θ.length l = true := fun r => r.cl

/-- what a call has made for itself is forgotten -/
theorem CALL_forget {f : V} {vs : List V} (h : CALL c d f vs σ fun v σ' => ∃ σ₁ g, σ' = σ₁ ++ g ∧ σ₁.length = σ.length ∧ (∀ (i : Nat) (o : SO), σ₁[i]? = some o → σ[i]? = some o ∨ clO σ.length o = true) ∧ clV σ.length v = true ∧ Q v σ₁) : CALL c d f vs σ Q := fun A s θ f' vs' r I rf rv => by
  refine wpAny_mono (h A s θ f' vs' r I rf rv) (fun v' s₁ h₁ => ?_) fun _ _ x => x
  obtain ⟨v, σ', θ', I', g, rv', σ₁, gg, rfl, hl, ho, hc, q⟩ := h₁
  obtain ⟨t, rfl⟩ := g.pre
  have hlen : σ.length = θ.length := I.rep.len.symm
  refine ⟨v, σ₁, θ, ⟨I'.keep, I.apart, I.nodup, ⟨by rw [hl, hlen], fun i o a e1 e2 => ?_⟩, I'.gens, I'.os⟩, ⟨⟨[], (List.append_nil _).symm⟩, fun _ m n => (n m).elim, g.kept⟩, rv'.shrink (by rw [← hlen]; exact hc), q⟩
  have e1' : (σ₁ ++ gg)[i]? = some o := by rw [List.getElem?_append_left (List.getElem?_eq_some_iff.mp e1).1]; exact e1
  have e2' : (θ ++ t)[i]? = some a := by rw [List.getElem?_append_left (List.getElem?_eq_some_iff.mp e2).1]; exact e2
  refine (I'.rep.obj i o a e1' e2').shrink ?_
  rcases ho i o e1 with e | e
  · exact (I.rep.obj i o a e e2).cl
  · rw [← hlen]; exact e

theorem EV_ListComp {elt iter : Expr} {px : Pos} {scope : Scope} {pos : Pos} {ρc : Vars}
    (hkind : scope.kind = .function) (hcell : ∀ y ∈ scope.names, y.2 ≠ .cell) (hfree : ∀ y ∈ scope.names, y.2 = .free → sc.scope.names.lookup y.1 = some .cell)
    (hnames : ∀ y ∈ scope.names, y.2 = .local → scope.names.lookup y.1 = some .local) (hx : (compSc scope sc).scope.names.lookup x = some .local)
    (hρ : ∀ p ∈ ρc, get ρ p.1 = some p.2 ∧ (p.1, .free) ∈ scope.names ∧ (compSc scope sc).scope.names.lookup p.1 = some .cell)
    (h : ITX c sc d (.Name x px) iter ρ σ fun l K σ₂ => K (σ₂ ++ [.list []]) ∧ COMPS c (compSc scope sc) d elt x K σ₂.length (fun vs σ₃ => Q (.loc σ₂.length) σ₃) l [] ρc (σ₂ ++ [.list []]))
    (hs : ∀ env x, foldedSetIterable iter env x = pure x := by intro _ _; rfl) : EV c sc d (.ListComp elt [⟨.Name x px, iter, [], 0⟩] scope pos) ρ σ Q := fun A env s θ r X I F => by
  rw [eval_ListComp]
  refine comp_ok (use := none) (T := fun n vs σ' => Q (.loc n) σ') r X I F hkind hcell hfree hnames hx hρ h (fun C D n vs σ' θ' s' I' F' g' hC hCθ hCb hCo hm hn hσ q => ?_) hs
  obtain ⟨m, hm⟩ := hm
  refine ⟨m, hm, fun h' hs' => ?_⟩
  have hk : ∀ b o, ¬ b = C → s'.heap.get? b = some o → h'.get? b = some o := fun b o n e => hs'.extBut b o n e
  refine ⟨.loc n, σ', θ', I'.but (t := s'.toks) (W := (· = C)) (fun b e => by subst e; exact ⟨.ns hm, hCθ, hCb⟩) hk, ⟨g'.pre, g'.fresh, fun b o e n => hk b o (fun z => by rw [z, hC] at e; cases e) (g'.kept b o e n)⟩, .loc n D hn, q⟩

/-- the value of a comprehension goes into a name of its line -/
theorem EX_AssignComp {elt iter : Expr} {px py : Pos} {scope : Scope} {pos spos : Pos} {ρc : Vars} (hky : kindOk sc y)
    (hkind : scope.kind = .function) (hcell : ∀ y ∈ scope.names, y.2 ≠ .cell) (hfree : ∀ y ∈ scope.names, y.2 = .free → sc.scope.names.lookup y.1 = some .cell)
    (hnames : ∀ y ∈ scope.names, y.2 = .local → scope.names.lookup y.1 = some .local) (hx : (compSc scope sc).scope.names.lookup x = some .local)
    (hρ : ∀ p ∈ ρc, get ρ p.1 = some p.2 ∧ (p.1, .free) ∈ scope.names ∧ (compSc scope sc).scope.names.lookup p.1 = some .cell)
    (h : ITX c sc d (.Name x px) iter ρ σ fun l K σ₂ => K (σ₂ ++ [.list []]) ∧ COMPS c (compSc scope sc) d elt x K σ₂.length (fun vs σ₃ => R .next (put ρ y (.loc σ₂.length)) σ₃) l [] ρc (σ₂ ++ [.list []]))
    (hsw : ∀ env : Env, env.scope = sc.scope → swapsWith (.ListComp elt [⟨.Name x px, iter, [], 0⟩] scope pos) (some (.Name y py)) spos.line env = pure true)
    (hs : ∀ env x, foldedSetIterable iter env x = pure x := by intro _ _; rfl) : EX c sc d (.Assign [.Name y py] (.ListComp elt [⟨.Name x px, iter, [], 0⟩] scope pos) spos) ρ σ R := fun A env s θ r X I F => by
  rw [exec_Assign_Name_used _ _ _ _ (hsw env X.scope)]
  refine wpAny_bind (wpAny_standAt (wpAny_bind ?_))
  show wpAny _ A (do let _ ← comprehension (.ListComp elt [⟨.Name x px, iter, [], 0⟩] scope pos) scope env _ (newList []) false (eval iter env) (some (assign (.Name y py) env))) _ _ s
  refine wpAny_bind (wpAny_mono (comp_ok (use := some (assign (.Name y py) env)) (P := fun _ s' => OkS c env s θ R .next s') (T := fun n vs σ' => R .next (put ρ y (.loc n)) σ') r X I F hkind hcell hfree hnames hx hρ h (fun C D n vs σ' θ' s' I' F' g' hC hCθ hCb hCo hm hn hσ q => ?_) hs) (fun _ s' hq => wpAny_pure (wpAny_pure hq)) fun _ _ e => e)
  obtain ⟨m, hm⟩ := hm
  show wpAny _ A (assign (.Name y py) env (.ref D)) _ _ _
  refine wpAny_assign_Name (storeName_ok X I' F' hky (.loc n D hn) fun s₂ I₂ F₂ g₂ hsame => ?_)
  have hm₂ : s₂.heap.Ns C m := hm.at' fun o e => (hsame C hCo).trans e
  refine ⟨m, hm₂, fun h' hs' => ?_⟩
  have hk : ∀ b o, ¬ b = C → s₂.heap.get? b = some o → h'.get? b = some o := fun b o n e => hs'.extBut b o n e
  have gg := GrowX.trans F'.ownX g'.x g₂
  refine ⟨.next, _, σ', θ', I₂.but (t := s₂.toks) (W := (· = C)) (fun b e => by subst e; exact ⟨.ns hm₂, hCθ, hCb⟩) hk, F₂.but (W := (· = C)) (fun b e => by subst e; exact ⟨.ns hm₂, hCo⟩) hk,
    ⟨gg.pre, gg.fresh, fun b o e n nx => hk b o (fun z => by rw [z, hC] at e; cases e) (gg.kept b o e n nx)⟩, .next, q⟩

/-- names take the items of a list of the store -/
theorem EX_AssignTL {es : List Expr} {k : Nat} {tp pos : Pos} {value : Expr} {xs : List Str} (hn : namesOf es = some xs) (hk : ∀ x ∈ xs, kindOk sc x) (h : EV c sc d value ρ σ fun v σ₁ => ∃ vs, isList σ₁ v vs ∧ xs.length = vs.length ∧ R .next (binds xs vs ρ) σ₁)
    (hs : ∀ env, swapsWithSole [.Tuple es k tp] value pos.line env = pure false := by intro _; rfl)
    (hw : ∀ env : Env, env.scope = sc.scope → swappedStores [.Tuple es k tp] value env = pure none := by intro _ _; rfl) : EX c sc d (.Assign [.Tuple es k tp] value pos) ρ σ R := fun A env s θ r X I F => by
  refine Assign_Tuple (wpAny_mono (h A env s θ r X I F) (fun v' s₁ h₁ => ?_) fun _ _ x => x) (hs env) (hw env X.scope)
  obtain ⟨v, σ₁, θ₁, I₁, g₁, rv, vs, hL, hlen, q⟩ := h₁
  have F₁ := F.grow I.tupOut g₁
  obtain ⟨a, ys, n, rfl, ht, hr⟩ := I₁.asL hL rv
  rw [arm_assign_Tuple]
  refine wpAny_bind (wpAny_standAt (unpack_list r.handled ht.isList ?_ (assignEach_noStar env es hn) fun h' e => ?_))
  · rw [assignEach_len, namesOf_len hn, hlen, hr.length]; simp
  · obtain ⟨I', F', g', q'⟩ := I₁.ext F₁ e
    exact inOrder_ok X (stl_names hn) vs _ ρ _ I' F' (by simpa using hr.mapM q') hlen hk fun s₂ I₂ F₂ g₂ => ⟨.next, _, σ₁, θ₁, I₂, F₂, GrowX.trans F₁.ownX g₁.x (GrowX.trans F'.ownX g'.x g₂), .next, q⟩
end
end Mine
end
section
open PySem PySem.W PySem.Calls PyProof.Rows PySem.MeetsSeq PySem.MeetsSeq2 PySem.MeetsSeq3
set_option Elab.async false
set_option linter.unusedVariables false
set_option maxRecDepth 20000
namespace Mine
section
variable {c : Cx} {sc : Sc} {d : Nat} {ρ : Vars} {σ : St} {Q : Post} {R : Fl → Vars → St → Prop} {A : Around} {env : Env} {s s₁ : Shared} {θ θ₁ : List Addr} {x y : Str} {target : Expr}

/-- a bound of a slice -/
def EVP (c : Cx) (sc : Sc) (d : Nat) (e : Option Expr) (ρ : Vars) (σ : St) (B : Option Nat → St → Prop) : Prop :=
  match e with
  | none => B none σ
  | some e => EV c sc d e ρ σ fun v σ' => ∃ n : Nat, v = .int n ∧ B (some n) σ'

def pickN (l : List V) : Option Nat → Option Nat → Option (List V)
  | some a, none => some (l.drop a)
  | none, some b => some (l.take b)
  | none, none => some l
  | some _, some _ => none

theorem pick_rep {h : Heap} {l l' : List V} {xs : List Value} (r : RepVs h θ l xs) : ∀ {lo hi : Option Nat}, pickN l lo hi = some l' → ∃ ys : List Value, slicePick xs.toArray (lo.map Int.ofNat) (hi.map Int.ofNat) none = ys.toArray ∧ RepVs h θ l' ys ∧ ys.length ≤ xs.length
  | some a, none, e => by
    cases e
    refine ⟨xs.drop a, ?_, r.drop a, by simp⟩
    have := slicePick_from' xs.toArray a
    simpa using this
  | none, some b, e => by
    cases e
    refine ⟨xs.take b, ?_, r.take b, by simp; omega⟩
    have := slicePick_upto' xs.toArray b
    simpa using this
  | none, none, e => by
    cases e
    exact ⟨xs, by simpa using slicePick_all xs.toArray, r, Nat.le_refl _⟩

def PartIs (h : Heap) (v : Value) (o : Option Nat) : Prop := match o with | none => v = .none | some n => ∃ t, v = .int n t
theorem PartIs.isPart {h : Heap} {v : Value} : ∀ {o : Option Nat}, PartIs h v o → IsPart v (o.map Int.ofNat)
  | none, e => by cases e; exact .none
  | some n, ⟨t, e⟩ => by subst e; exact .int _ _

theorem EVP_ok {e : Option Expr} {B : Option Nat → St → Prop} (h : EVP c sc d e ρ σ B) (r : Room A d) (X : EnvIs sc env) (I : Inv c s θ σ) (F : FrA c s.heap θ env ρ) {P : Value → Shared → Prop}
    (k : ∀ v' s₁ σ₁ θ₁ o, Inv c s₁ θ₁ σ₁ → Grow s.heap θ s₁.heap θ₁ → PartIs s₁.heap v' o → B o σ₁ → P v' s₁) : wpAny (model c.prog c.w) A (evalPart e env) P NoE s := by
  cases e with
  | none => exact wpAny_evalPart_none (k _ s σ θ none I (Grow.refl ..) rfl h)
  | some e =>
    refine wpAny_evalPart_some (wpAny_mono (h A env s θ r X I F) (fun v' s₁ h₁ => ?_) fun _ _ x => x)
    obtain ⟨v, σ₁, θ₁, I₁, g₁, rv, n, rfl, q⟩ := h₁
    cases rv with | int i t => exact k _ s₁ σ₁ θ₁ (some n) I₁ g₁ ⟨t, rfl⟩ q

theorem EV_SliceL {value : Expr} {lo hi : Option Expr} {p pos : Pos}
    (h : EV c sc d value ρ σ fun v σ₁ => EVP c sc d lo ρ σ₁ fun a σ₂ => EVP c sc d hi ρ σ₂ fun b σ₃ => ∃ l l', isList σ₃ v l ∧ l.length ≤ 9000 ∧ pickN l a b = some l' ∧ Q (.lst l') σ₃)
    (hg : ∀ o r, letTemporaryGo value o r = pure () := by intro _ _; rfl) : EV c sc d (.Subscript value (.Slice lo hi none p) pos) ρ σ Q := fun A env s θ r X I F => by
  refine wpAny_Subscript_Slice slot_list_getitem.lookup (wpAny_mono (h A env s θ r X I F) (fun o' s₁ h₁ => ?_) fun _ _ x => x) hg
  obtain ⟨v, σ₁, θ₁, I₁, g₁, rv, q⟩ := h₁
  have F₁ := F.grow I.tupOut g₁
  refine wpAny_Slice (EVP_ok q r X I₁ F₁ fun va s₂ σ₂ θ₂ a I₂ g₂ pa q₂ => ?_)
  have F₂ := F₁.grow I₁.tupOut g₂
  refine EVP_ok q₂ r X I₂ F₂ fun vb s₃ σ₃ θ₃ b I₃ g₃ pb q₃ => wpAny_evalPart_none ?_
  obtain ⟨l, l', hL, hlen, hp, q⟩ := q₃
  obtain ⟨ad, xs, n, rfl, hl, rl⟩ := I₃.asL hL ((rv.grow I₁.tupOut g₂).grow I₂.tupOut g₃)
  obtain ⟨I₄, g₄⟩ := pushed I₃ { cls := .type "slice", data := .fields #[va, vb, .none] } s₃.toks
  have hl' : (s₃.heap.push { cls := .type "slice", data := .fields #[va, vb, .none] }).IsList ad xs.toArray := hl.isList.push _
  refine ⟨hl'.typeIs, ?_⟩
  obtain ⟨ys, e1, e2, e3⟩ := pick_rep rl hp
  refine wpAny_getItem_list_slice hl' ⟨_, Heap.get?_push_size _ rfl, rfl, rfl⟩ pa.isPart pb.isPart .none (by simp) ?_ (by rw [List.size_toArray, ← rl.length, sizeLine_eq]; omega)
  rw [e1]
  exact .trans (((g₁.trans g₂).trans g₃).trans g₄) (I₄.frozen (t := s₃.toks) (e2.grow I₃.tupOut g₄) q)

theorem EV_SliceRev {value one : Expr} {p pos p1 : Pos} {k : Nat}
    (h : EV c sc d value ρ σ fun v σ₁ => EV c sc d one ρ σ₁ fun u σ₃ => u = .int (-1) ∧ ∃ l, isList σ₃ v l ∧ l.length ≤ 9000 ∧ Q (.lst l.reverse) σ₃)
    (hg : ∀ o r, letTemporaryGo value o r = pure () := by intro _ _; rfl) : EV c sc d (.Subscript value (.Slice none none (some one) p) pos) ρ σ Q := fun A env s θ r X I F => by
  refine wpAny_Subscript_Slice_step slot_list_getitem.lookup (wpAny_mono (h A env s θ r X I F) (fun o' s₁ h₁ => ?_) fun _ _ x => x) hg
  obtain ⟨v, σ₁, θ₁, I₁, g₁, rv, q⟩ := h₁
  have F₁ := F.grow I.tupOut g₁
  refine wpAny_Slice (wpAny_evalPart_none (wpAny_evalPart_none (wpAny_evalPart_some (wpAny_mono (q A env s₁ θ₁ r X I₁ F₁) (fun u' s₃ h₃ => ?_) fun _ _ x => x))))
  obtain ⟨u, σ₃, θ₃, I₃, g₃, ru, rfl, l, hL, hlen, q⟩ := h₃
  cases ru with
  | int i t =>
    obtain ⟨ad, xs, n, rfl, hl, rl⟩ := I₃.asL hL (rv.grow I₁.tupOut g₃)
    obtain ⟨I₄, g₄⟩ := pushed I₃ { cls := .type "slice", data := .fields #[.none, .none, .int (-1) t] } s₃.toks
    have hl' : (s₃.heap.push { cls := .type "slice", data := .fields #[.none, .none, .int (-1) t] }).IsList ad xs.toArray := hl.isList.push _
    refine ⟨hl'.typeIs, ?_⟩
    refine wpAny_getItem_list_slice hl' ⟨_, Heap.get?_push_size _ rfl, rfl, rfl⟩ .none .none (.int _ _) (by simp) ?_ (by rw [List.size_toArray, ← rl.length, sizeLine_eq]; omega)
    rw [krv_pick]
    exact .trans ((g₁.trans g₃).trans g₄) (I₄.frozen (t := s₃.toks) (rl.reverse.grow I₃.tupOut g₄) q)

theorem EV_SliceT {value lo : Expr} {p pos : Pos}
    (h : EV c sc d value ρ σ fun v σ₁ => EV c sc d lo ρ σ₁ fun u σ₃ => ∃ (n : Nat) (l : List V), u = .int n ∧ v = .tup l ∧ l.length ≤ 9000 ∧ 1 ≤ n ∧ n ≤ l.length ∧ Q (.tup (l.drop n)) σ₃)
    (hg : ∀ o r, letTemporaryGo value o r = pure () := by intro _ _; rfl) : EV c sc d (.Subscript value (.Slice (some lo) none none p) pos) ρ σ Q := fun A env s θ r X I F => by
  refine wpAny_Subscript_Slice slot_tuple_getitem.lookup (wpAny_mono (h A env s θ r X I F) (fun o' s₁ h₁ => ?_) fun _ _ x => x) hg
  obtain ⟨v, σ₁, θ₁, I₁, g₁, rv, q⟩ := h₁
  have F₁ := F.grow I.tupOut g₁
  refine wpAny_Slice (wpAny_evalPart_some (wpAny_mono (q A env s₁ θ₁ r X I₁ F₁) (fun u' s₃ h₃ => wpAny_evalPart_none (wpAny_evalPart_none ?_)) fun _ _ x => x))
  obtain ⟨u, σ₃, θ₃, I₃, g₃, ru, n, l, rfl, rfl, hlen, h1, h2, q⟩ := h₃
  cases ru with
  | int i t =>
    have rv' := rv.grow I₁.tupOut g₃
    cases rv' with
    | tup l ad xs ht rl =>
      obtain ⟨I₄, g₄⟩ := pushed I₃ { cls := .type "slice", data := .fields #[.int (n : Nat) t, .none, .none] } s₃.toks
      have ht' : IsTup (s₃.heap.push { cls := .type "slice", data := .fields #[.int (n : Nat) t, .none, .none] }) ad xs.toArray := by
        obtain ⟨m, e⟩ := ht; exact IsT.isTup ⟨m, Heap.get?_push_of_some _ e⟩
      refine ⟨ht'.typeIs, ?_⟩
      refine getItem_tuple_from ht' ⟨_, Heap.get?_push_size _ rfl, rfl, rfl⟩ h1 (by rw [List.size_toArray, ← rl.length]; exact h2) ?_ (by rw [List.size_toArray, ← rl.length, sizeLine_eq]; omega)
      exact .trans ((g₁.trans g₃).trans g₄) (I₄.tuple (t := s₃.toks) ((rl.drop n).grow I₃.tupOut g₄) q)

-- lists
theorem BIN_addL {a b : V} {l l' : List V} (ha : isList σ a l) (hb : isList σ b l') (hz : l.length + l'.length ≤ 9000) (h : Q (.lst (l ++ l')) σ) : BIN c d .Add a b σ Q := fun A s θ a' b' r I ra rb => by
  obtain ⟨x, xs, n, rfl, hx, rx⟩ := I.asL ha ra
  obtain ⟨y, ys, m, rfl, hy, ry⟩ := I.asL hb rb
  refine P.add_list hx hy ?_ (by rw [List.size_toArray, List.size_toArray, ← rx.length, ← ry.length, sizeLine_eq]; omega)
  have e : xs.toArray ++ ys.toArray = (xs ++ ys).toArray := by simp
  rw [e]
  exact I.frozen (t := s.toks) (rx.append ry) h

def times {α : Type} (n : Nat) (l : List α) : List α := (List.replicate n l).flatten
theorem times_rep {h : Heap} {l : List V} {xs : List Value} (r : RepVs h θ l xs) : ∀ n : Nat, RepVs h θ (times n l) (times n xs)
  | 0 => .nil
  | n + 1 => by
    show RepVs h θ (List.replicate (n + 1) l).flatten (List.replicate (n + 1) xs).flatten
    rw [List.replicate_succ, List.replicate_succ, List.flatten_cons, List.flatten_cons]
    exact r.append (times_rep r n)
theorem foldl_times (xs : List Value) : ∀ (n : Nat) (acc : Array Value), List.foldl (fun x1 x2 => x1 ++ x2) acc (List.replicate n xs.toArray) = acc ++ (times n xs).toArray
  | 0, acc => by simp [times]
  | n + 1, acc => by
    rw [List.replicate_succ, List.foldl_cons, foldl_times xs n]
    unfold times
    rw [List.replicate_succ, List.flatten_cons]
    simp
theorem mulCore {prog : Program} {w : World} {A : Around} {E : Value → Shared → Prop} {s : Shared} {l : Addr} {items : Array Value} {k : Nat} {x : Int} {u : Tok} {Q : Value → Shared → Prop}
    (hl : s.heap.get? l = some { cls := .type "list", dict := none, data := .seq items k, slots := #[] })
    (hlo : -(2 ^ 63 : Int) ≤ x) (hhi : x < 2 ^ 63) (hsz : items.size * x.toNat ≤ 2 ^ 24)
    (h : Q (.ref s.heap.objs.size) { s with heap := s.heap.push { cls := .type "list", data := .seq (List.foldl (fun x1 x2 => x1 ++ x2) #[] (List.replicate (if items.isEmpty = true then 0 else x.toNat) items)) } }) :
    wpAny (model prog w) A (binaryOp .Mult (.ref l) (.int x u)) Q E s :=
  wpAny_binaryOp_repeat_ref (T := "list") (U := "int") (by decide) ⟨_, hl, rfl⟩ (fun s' => typeIs_int s' x u) noFill_list_mul F.fills_int_mul F.slot_int_rmul repeat_list F.slot_int_index.lookup
    (call_meets F.slot_int_rmul (typeIs_int s x u) F.entry_int_rmul (F.args_int_rmul_2 _ _) (int___rmul___int_list x u l items k)
      ⟨hl, rfl, ⟨_, hl, rfl⟩, call_meets F.slot_list_mul ⟨_, hl, rfl⟩ F.entry_list_mul (F.args_list_mul_2 _ _)
        (AutoListH.list___mul___list_int_3 l items k x u (by simp [Builtin.List.listFitsIndex]; omega) (by omega) (by simp [Builtin.List.listTooLong, sizeLine]; omega))
        ⟨hl, h⟩⟩)
theorem BIN_mulL {a : V} {l : List V} {n : Nat} (ha : isList σ a l) (hne : l ≠ []) (hz : l.length * n ≤ 9000) (hn : n ≤ 9000) (h : Q (.lst (times n l)) σ) : BIN c d .Mult a (.int n) σ Q := fun A s θ a' b' r I ra rb => by
  obtain ⟨x, xs, k, rfl, hx, rx⟩ := I.asL ha ra
  cases rb with
  | int i t =>
    refine mulCore hx (by omega) (by omega) (by rw [List.size_toArray, ← rx.length, Int.toNat_natCast]; exact Nat.le_trans hz (by decide)) ?_
    have hem : xs.toArray.isEmpty = false := by
      cases xs with
      | nil => exact absurd (List.eq_nil_of_length_eq_zero (by rw [rx.length]; rfl)) hne
      | cons => rfl
    rw [hem]
    simp only [Bool.false_eq_true, if_false, Int.toNat_natCast]
    rw [foldl_times, show (#[] : Array Value) ++ (times n xs).toArray = (times n xs).toArray from by simp]
    exact I.frozen (t := s.toks) (times_rep rx n) h

-- what is alike is equal
def flat0 : V → Bool
  | .none | .bool _ | .int _ | .str _ => true
  | _ => false
def flat1 : V → Bool
  | .tup l => l.all flat0
  | v => flat0 v
theorem eq0 {h : Heap} {v : V} {a b : Value} (hf : flat0 v = true) (ra : RepV h θ v a) (rb : RepV h θ v b) (A : Around) (s : Shared) : SeqAt.EqAt A s a b true := by
  cases ra with
  | none => cases rb; exact .same _
  | bool b => cases rb; exact .same _
  | int i t => cases rb with | int i u => have := SeqAt.EqAt.int_int (A := A) (s := s) i t i u; rwa [beq_self_eq_true] at this
  | str x t => cases rb with | str x u => have := SeqAt.EqAt.str_str (A := A) (s := s) x t x u; rwa [beq_self_eq_true] at this
  | _ => cases hf
theorem eqs {P : Value → Value → Prop} {h : Heap} : ∀ {l : List V} {xs ys : List Value}, RepVs h θ l xs → RepVs h θ l ys → (∀ v ∈ l, ∀ a b, RepV h θ v a → RepV h θ v b → P a b) → ∀ (j : Nat) (h1 : j < xs.toArray.size) (h2 : j < ys.toArray.size), P (xs.toArray[j]) (ys.toArray[j])
  | _, _, _, .nil, _, _, j, h1, _ => by simp at h1
  | _, _, _, .cons a b, .cons a' b', H, 0, _, _ => H _ List.mem_cons_self _ _ a a'
  | _, _, _, .cons a b, .cons a' b', H, j + 1, h1, h2 => by
    have := eqs b b' (fun v m => H v (List.mem_cons_of_mem _ m)) j (by simpa using h1) (by simpa using h2)
    simpa using this
theorem eq1 {h : Heap} {v : V} {a b : Value} (hf : flat1 v = true) (s : Shared) (ra : RepV s.heap θ v a) (rb : RepV s.heap θ v b) (A : Around) (hu : A.units < cLine) : SeqAt.EqAt A s a b true := by
  cases v with
  | tup l =>
    cases ra with
    | tup l x xs hx rx =>
      cases rb with
      | tup l y ys hy ry =>
        by_cases hxy : x = y
        · subst hxy; exact .same _
        · refine .of_refs hxy ?_
          have := SeqAt.RcAt.tuples (A := A) (e := fun _ => true) (show s.heap.IsTuple x xs.toArray from hx.isTup) (show s.heap.IsTuple y ys.toArray from hy.isTup) hu (eqs rx ry fun v m a b ra rb => eq0 (List.all_eq_true.mp hf v m) ra rb _ _)
          have e : xs.toArray.size = ys.toArray.size := by rw [List.size_toArray, List.size_toArray, ← rx.length, ry.length]
          rw [e, show ((List.range (min ys.toArray.size ys.toArray.size)).all fun _ => true) = true from List.all_eq_true.mpr fun _ _ => rfl] at this
          simpa using this
  | _ => exact eq0 (by exact hf) ra rb A s

theorem CMP_eqL {a b : V} {l : List V} (ha : isList σ a l) (hb : isList σ b l) (hf : l.all flat1 = true) (h : Q (.bool true) σ) : CMP c d .Eq a b σ Q := fun A s θ a' b' r I ra rb => by
  obtain ⟨x, xs, n, rfl, hx, rx⟩ := I.asL ha ra
  obtain ⟨y, ys, m, rfl, hy, ry⟩ := I.asL hb rb
  have hu0 : A.units < cLine := by have q := r.units; omega
  have hu : A.in1.units < cLine := by have q := r.units; rw [show A.in1.units = A.units + 1 from rfl]; omega
  have ea : ((List.range xs.toArray.size).all fun _ => true) = true := List.all_eq_true.mpr fun _ _ => rfl
  refine SeqAt.eq_listAt (e := fun _ => true) hx.isList hy.isList (by rw [List.size_toArray, List.size_toArray, ← rx.length, ry.length]) hu0 (eqs rx ry fun v m a b ra rb => eq1 (h := s.heap) (List.all_eq_true.mp hf v m) s ra rb _ hu) ?_
  rw [ea]
  exact I.okV (.bool _) h
theorem CMP_neL {a b : V} {l : List V} (ha : isList σ a l) (hb : isList σ b l) (hf : l.all flat1 = true) (h : Q (.bool false) σ) : CMP c d .NotEq a b σ Q := fun A s θ a' b' r I ra rb => by
  obtain ⟨x, xs, n, rfl, hx, rx⟩ := I.asL ha ra
  obtain ⟨y, ys, m, rfl, hy, ry⟩ := I.asL hb rb
  have hu0 : A.units < cLine := by have q := r.units; omega
  have hu : A.in1.units < cLine := by have q := r.units; rw [show A.in1.units = A.units + 1 from rfl]; omega
  have ea : ((List.range xs.toArray.size).all fun _ => true) = true := List.all_eq_true.mpr fun _ _ => rfl
  have := SeqAt.RcNeAt.lists (A := A) (e := fun _ => true) hx.isList hy.isList (by rw [List.size_toArray, List.size_toArray, ← rx.length, ry.length]) hu0 (eqs rx ry fun v m a b ra rb => eq1 (h := s.heap) (List.all_eq_true.mp hf v m) s ra rb _ hu)
  refine this _ _ _ _ ?_
  rw [ea]
  exact I.okV (.bool _) h
theorem CMP_eqB {a b : Bool} (h : Q (.bool (a == b)) σ) : CMP c d .Eq (.bool a) (.bool b) σ Q := fun A s θ a' b' r I ra rb => by cases ra; cases rb; exact PyProof.Rows.eq_bool (I.okV (.bool _) h)
theorem CMP_neB {a b : Bool} (h : Q (.bool (a != b)) σ) : CMP c d .NotEq (.bool a) (.bool b) σ Q := fun A s θ a' b' r I ra rb => by cases ra; cases rb; exact PyProof.Rows.ne_bool (I.okV (.bool _) h)
/-- bools are numbers in a difference -/
theorem BIN_subB {a b : Bool} (h : Q (.int ((if a then 1 else 0) - (if b then 1 else 0))) σ) : BIN c d .Sub (.bool a) (.bool b) σ Q := fun A s θ a' b' r I ra rb => by
  cases ra; cases rb; exact PyProof.Rows.sub_bool (I.okVt (.int _ _) h)
end
end Mine
end
section
open PySem PySem.W PySem.Calls PyProof.Rows PySem.MeetsSeq PySem.MeetsSeq2 PySem.MeetsSeq3
set_option Elab.async false
set_option linter.unusedVariables false
set_option maxRecDepth 20000
namespace Mine
section
variable {c : Cx} {sc : Sc} {d : Nat} {ρ : Vars} {σ : St} {Q : Post} {R : Fl → Vars → St → Prop} {A : Around} {env : Env} {s s₁ : Shared} {θ θ₁ : List Addr} {x y : Str} {target : Expr}

theorem EV_Chain2 {l r₁ r₂ : Expr} {op₁ op₂ : CmpOp} {pos : Pos}
    (h : EV c sc d l ρ σ fun a σ₁ => EV c sc d r₁ ρ σ₁ fun b σ₂ => CMP c d op₁ a b σ₂ fun v σ₃ => TRU c d v σ₃ fun t σ₄ => if t = true then EV c sc d r₂ ρ σ₄ fun w σ₅ => CMP c d op₂ b w σ₅ Q else Q v σ₄)
    (hm : behindInMarks op₂ r₂ = false := by with_unfolding_all rfl) : EV c sc d (.Compare l [op₁, op₂] [r₁, r₂] pos) ρ σ Q := fun A env s θ R X I F => by
  show wpAny _ _ (eval l env >>= fun left => compareChain pos left [op₁, op₂] [eval r₁ env, markedBehindIn op₂ r₂ (eval r₂ env)]) _ _ _
  rw [markedBehindIn_of_false hm]
  refine wpAny_bind (wpAny_mono (h A env s θ R X I F) (fun a' s₁ h₁ => ?_) fun _ _ x => x)
  obtain ⟨a, σ₁, θ₁, I₁, g₁, ra, q₁⟩ := h₁
  unfold compareChain
  refine wpAny_bind (wpAny_holding (wpAny_mono (q₁ A env s₁ θ₁ R X I₁ (F.grow I.tupOut g₁)) (fun b' s₂ h₂ => wpAny_bind (wpAny_standAt ?_)) fun _ _ x => x))
  obtain ⟨b, σ₂, θ₂, I₂, g₂, rb, q₂⟩ := h₂
  have F₂ := (F.grow I.tupOut g₁).grow I₁.tupOut g₂
  refine wpAny_bind (wpAny_holding (wpAny_mono (q₂ A s₂ θ₂ a' b' R I₂ (ra.grow I₁.tupOut g₂) rb) (fun v' s₃ h₃ => wpAny_bind (wpAny_release ?_)) fun _ _ x => x))
  obtain ⟨v, σ₃, θ₃, I₃, g₃, rv, q₃⟩ := h₃
  refine wpAny_bind (wpAny_holding (wpAny_mono (q₃ A s₃ θ₃ v' R I₃ rv) (fun t s₄ h₄ => ?_) fun _ _ x => x))
  obtain ⟨σ₄, θ₄, I₄, g₄, q₄⟩ := h₄
  have gg := ((g₁.trans g₂).trans g₃).trans g₄
  cases t with
  | false => exact wpAny_pure ⟨v, σ₄, θ₄, I₄, gg, rv.grow I₃.tupOut g₄, q₄⟩
  | true =>
    have F₄ := (F₂.grow I₂.tupOut g₃).grow I₃.tupOut g₄
    unfold compareChain
    refine wpAny_bind (wpAny_holding (wpAny_mono (q₄ A env s₄ θ₄ R X I₄ F₄) (fun w' s₅ h₅ => wpAny_bind (wpAny_standAt ?_)) fun _ _ x => x))
    obtain ⟨w, σ₅, θ₅, I₅, g₅, rw', q₅⟩ := h₅
    exact fun Γ p hΓ => by
      rw [Sem.wp_operate]
      exact wpV.trans (gg.trans g₅) (q₅ A s₅ θ₅ b' w' R I₅ (((rb.grow I₂.tupOut g₃).grow I₃.tupOut g₄).grow I₄.tupOut g₅) rw') Γ p hΓ

theorem CALL_lenL {v : V} {l : List V} (hl : isList σ v l) (hz : l.length ≤ 100000) (h : Q (.int l.length) σ) : CALL c d (.raw (.builtin "len")) [v] σ Q := fun A s θ f' vs' r I rf rv => by
  cases rf
  obtain ⟨v', rfl, r1⟩ := rv.one
  obtain ⟨a, xs, n, rfl, hL, rl⟩ := I.asL hl r1
  have e : xs.toArray.size = l.length := by rw [List.size_toArray, rl.length]
  refine call_len_list hL.isList (by rw [e]; omega) ?_
  rw [e]
  exact I.okVt (t := s.toks + 1 + 1) (.int _ _) h
theorem CALL_lenT {l : List V} (hz : l.length ≤ 100000) (h : Q (.int l.length) σ) : CALL c d (.raw (.builtin "len")) [.tup l] σ Q := fun A s θ f' vs' r I rf rv => by
  cases rf
  obtain ⟨v', rfl, r1⟩ := rv.one
  cases r1 with
  | tup l a xs ht hr =>
    obtain ⟨n, ht⟩ := ht
    have e : xs.toArray.size = l.length := by rw [List.size_toArray, hr.length]
    refine P.len_tuple ht (by rw [e]; omega) ?_
    rw [e]
    exact I.okVt (t := s.toks + 1 + 1) (.int _ _) h
theorem CALL_lenS (hz : x.length ≤ 100000) (h : Q (.int x.length) σ) : CALL c d (.raw (.builtin "len")) [.str x] σ Q := fun A s θ f' vs' r I rf rv => by
  cases rf
  obtain ⟨v', rfl, r1⟩ := rv.one
  cases r1
  exact len_str (by omega) (I.okVt (t := s.toks + 1 + 1) (.int _ _) h)
theorem CALL_abs {a : Int} (h : Q (.int (if a < 0 then -a else a)) σ) : CALL c d (.raw (.builtin "abs")) [.int a] σ Q := fun A s θ f' vs' r I rf rv => by
  cases rf
  obtain ⟨v', rfl, r1⟩ := rv.one
  cases r1
  exact call_abs_int fun u tk => I.okVt (t := tk) (.int _ _) h

def isStrV : V → Option Bool
  | .str _ => some true
  | .int _ | .bool _ | .none | .tup _ => some false
  | _ => none
def isTupV : V → Option Bool
  | .tup _ => some true
  | .int _ | .bool _ | .none | .str _ => some false
  | _ => none
theorem CALL_isStr {v : V} {b : Bool} (hv : isStrV v = some b) (h : Q (.bool b) σ) : CALL c d (.raw (.builtin "isinstance")) [v, .raw (.type "str")] σ Q := fun A s θ f' vs' r I rf rv => by
  cases rf
  obtain ⟨v', t', rfl, r1, r2⟩ := rv.two
  cases r2
  cases r1 with
  | none => cases hv; exact IsiPair.NoneType_str (I.okVt (.bool _) h)
  | bool => cases hv; exact IsiPair.bool_str (I.okVt (.bool _) h)
  | int => cases hv; exact IsiPair.int_str (I.okVt (.bool _) h)
  | str => cases hv; exact IsiPair.str_str (I.okV (.bool _) h)
  | tup l a xs ht hr => cases hv; obtain ⟨n, ht⟩ := ht; exact IsiPair.tuple_str ht rfl (I.okVt (.bool _) h)
  | _ => cases hv
theorem CALL_isTup {v : V} {b : Bool} (hv : isTupV v = some b) (h : Q (.bool b) σ) : CALL c d (.raw (.builtin "isinstance")) [v, .raw (.type "tuple")] σ Q := fun A s θ f' vs' r I rf rv => by
  cases rf
  obtain ⟨v', t', rfl, r1, r2⟩ := rv.two
  cases r2
  cases r1 with
  | none => cases hv; exact IsiPair.NoneType_tuple (I.okVt (.bool _) h)
  | bool => cases hv; exact IsiPair.bool_tuple (I.okVt (.bool _) h)
  | int => cases hv; exact IsiPair.int_tuple (I.okVt (.bool _) h)
  | str => cases hv; exact IsiPair.str_tuple (I.okVt (.bool _) h)
  | tup l a xs ht hr => cases hv; obtain ⟨n, ht⟩ := ht; exact IsiPair.tuple_tuple ht rfl (I.okV (.bool _) h)
  | _ => cases hv

theorem GM_dict {n : Nat} {l : List (Str × V)} {name : Str} {id : String} {Q : V → List V → St → Prop} (hn : σ[n]? = some (.dictS l)) (slot : Slot "dict" name id) (hty : typeOf (.builtin id) = pure (.type "method_descriptor")) (h : Q (.raw (.builtin id)) [.loc n] σ) :
    GM c d (.loc n) name σ Q := fun A s θ o' pl r I ro => by
  obtain ⟨a, rfl, e⟩ := ro.ofLoc
  obtain ⟨kvs, hd, hr⟩ := I.rep.obj n _ a hn e
  have hd' := hd
  obtain ⟨o', es, ep, e1, e2, e3, e4⟩ := hd'
  exact getMethod_builtin hd.typeIs F.plainAttrs_dict slot hty (fun a' e' => by cases e'; exact ⟨_, e1, e2.2.1⟩) ⟨_, [.loc n], σ, θ, I, Grow.refl _ _, .raw _, .cons (.loc n a e) .nil, h⟩
theorem CALL_get {n : Nat} {l : List (Str × V)} {dflt : V} (hn : σ[n]? = some (.dictS l)) (h : Q ((getK l x).getD dflt) σ) : CALL c d (.raw (.builtin "dict.get")) [.loc n, .str x, dflt] σ Q := fun A s θ f' vs' r I rf rv => by
  cases rf
  obtain ⟨a', k', z', rfl, r1, r2, r3⟩ := rv.three
  obtain ⟨a, rfl, e⟩ := r1.ofLoc
  obtain ⟨kvs, hd, hr⟩ := I.rep.obj n _ a hn e
  cases r2
  refine call_meetsIn PySem.F.slot_dict_get hd.typeIs PySem.F.entry_dict_get (PySem.F.args_dict_get_3 _ _ _) (meets_dict_get_default (strKind c.prog c.w) a (isStr_is x _) (I.notMods e) z') ⟨_, hd.mapOf, ?_⟩
  have q := hr.val x
  refine I.okVt (t := s.toks + 1) (v := (getK l x).getD dflt) ?_ h
  cases hg : getK l x with
  | none => rw [hg] at q; rw [q]; exact r3
  | some v => rw [hg] at q; obtain ⟨v', e1, e2⟩ := q; rw [e1]; exact e2
theorem CALL_extend {n : Nat} {l l' : List V} {v : V} (hn : σ[n]? = some (.list l)) (hv : isList σ v l') (hsz : l.length ≤ 4000) (hsz' : l'.length ≤ 4000) (h : Q .none (σ.set n (.list (l ++ l')))) : CALL c d (.raw (.builtin "list.extend")) [.loc n, v] σ Q := fun A s θ f' vs' r I rf rv => by
  cases rf
  obtain ⟨x, v', rfl, r1, r2⟩ := rv.two
  obtain ⟨b, ys, m, rfl, hb, rb⟩ := I.asL hv r2
  obtain ⟨a, rfl, e⟩ := r1.ofLoc
  obtain ⟨xs, k, hl, rl⟩ := I.isL hn e
  have e1 : xs.toArray.size = l.length := by rw [List.size_toArray, rl.length]
  have e2 : ys.toArray.size = l'.length := by rw [List.size_toArray, rb.length]
  refine call_meets F.slot_list_extend ⟨_, hl, rfl⟩ F.entry_list_extend (F.args_list_extend_2 _ _) (AutoSeq1.list_extend_list_list_0 a xs.toArray k b ys.toArray m ?_ ?_ ?_) ⟨hl, hb, ?_⟩
  · rw [e1, e2]; unfold Builtin.List.listTooLong; rw [sizeLine_eq]; simp; omega
  · rw [e1, sizeLine_eq]; omega
  · rw [e1, e2, sizeLine_eq]; omega
  · refine I.listUpd (t := s.toks) (ys := xs ++ ys) (l' := l ++ l') e hl (by simp) (rl.append rb) .none h

/-- dict(d) of a dict -/
theorem CALL_dictD {n : Nat} {l : List (Str × V)} (hn : σ[n]? = some (.dictS l)) (hz : l.length ≤ 9000) (h : Q (.loc σ.length) (σ ++ [.dictS l])) : CALL c d (.raw (.type "dict")) [.loc n] σ Q := fun A s θ f' vs' r I rf rv => by
  cases rf
  obtain ⟨v', rfl, r1⟩ := rv.one
  obtain ⟨a, rfl, e⟩ := r1.ofLoc
  obtain ⟨kvs, hd, hr⟩ := I.rep.obj n _ a hn e
  refine kt_call_dict (I.notMods e) hd (by rw [← hr.length, sizeLine_eq]; omega) fun h' hd' hs' => ?_
  -- the new dict is put in the store
  obtain ⟨I₁, g₁⟩ := I.alloc (ob := { cls := .type "dict", data := .dict #[] }) (o := .dictS []) (t := s.toks) ⟨[], Heap.DictOf.new _, .nil⟩
  have en : (θ ++ [s.heap.objs.size])[σ.length]? = some s.heap.objs.size := by rw [← I.rep.len]; simp
  have g2 : Grow (s.heap.push { cls := .type "dict", data := .dict #[] }) (θ ++ [s.heap.objs.size]) h' (θ ++ [s.heap.objs.size]) := ⟨⟨[], (List.append_nil _).symm⟩, fun _ m n => (n m).elim, fun b o e' n => (hs'.2 b (fun z => n (by rw [z]; exact List.mem_of_getElem? en))).trans e'⟩
  obtain ⟨I₂, g₂⟩ := I₁.upd (o' := .dictS l) (t := s.toks) en hs' ⟨_, hd', (hr.grow I.tupOut g₁).grow I₁.tupOut g2⟩
  refine ⟨.loc σ.length, _, _, I₂, g₁.trans g₂, .loc _ _ en, ?_⟩
  have : (σ ++ [SO.dictS []]).set σ.length (.dictS l) = σ ++ [.dictS l] := by simp
  rw [this]; exact h
end
end Mine
end
section
open PySem PySem.W PySem.Calls PyProof.Rows
set_option Elab.async false
set_option linter.unusedVariables false
set_option linter.deprecated false
set_option maxRecDepth 100000
namespace Mine
section
variable {prog : Program} {w : World} {A : Around} {E : Value → Shared → Prop} {s : Shared}
theorem lk_list_keys : typeLookup (.type "list") "keys" = pure none := by rw [typeLookup_type, builtinLookup_eq_fast]; kernel_rfl
theorem keys_none {a : Addr} {xs : Array Value} {k : Nat} {Q : Option Value → Shared → Prop} (hx : s.heap.get? a = some { cls := .type "list", dict := none, data := .seq xs k, slots := #[] }) (hA : A.handled = none)
    (h : ∀ h' tk, (∀ b o, s.heap.get? b = some o → h'.get? b = some o) → Q none { s with heap := h', toks := tk }) : wpAny (model prog w) A (getAttr? (.ref a) (Str.ofString "keys")) Q E s := by
  obtain ⟨hp, g, d, tk, os⟩ := s
  have hT : ∀ s' : Shared, s'.heap = hp → s'.TypeIs (.ref a) "list" := fun s' e => ⟨_, e ▸ hx, rfl⟩
  have f1 := sub_AttributeError
  have f3 := F.slot_list_getattribute.lookup
  have f4 := F.slot_list_getattribute.bind (.ref a)
  have f5 := am_list_getattr_none
  have hT0 : (⟨hp, g, d, tk, os⟩ : Shared).TypeIs (.ref a) "list" := hT _ rfl
  unfold getAttr? getAttrBy? getAttrBy
  repeat (any_goals (first | assumption | ((with_reducible show wpAny _ _ (call (Value.builtin "list.__getattribute__") _ _) _ _ _); refine call_meets F.slot_list_getattribute (hT _ rfl) am_entry_list_getattribute (F.args_list_getattribute_2 _ _) (meets_getattribute_miss_list a xs k #[] _ _ lk_list_keys (by decide +kernel) (by rw [sizeLine_eq]; decide +kernel)) ⟨hx, hA, fun h' tk' e hx => ?_⟩) | wp_step))
  have hk : ∀ b o, hp.get? b = some o → h'.get? b = some o := hx.keeps
  obtain ⟨t', u', he⟩ := hx.there
  show wpAny _ _ (getattributeRaised _ _ _ _ _ _ _) _ _ _
  unfold getattributeRaised
  repeat (any_goals (first | assumption | wp_step))
  exact h _ _ hk

theorem stored_le {K : Type} [DecidableEq K] (l : List (K × Value)) (k : K) (v : Value) : (stored l k v).length ≤ l.length + 1 := by
  unfold stored; split <;> simp
theorem foldl_le {K : Type} [DecidableEq K] : ∀ (l acc : List (K × Value)), (l.foldl (fun acc kv => stored acc kv.1 kv.2) acc).length ≤ acc.length + l.length
  | [], acc => by simp
  | kv :: l, acc => by
    rw [List.foldl_cons]
    have h1 := foldl_le l (stored acc kv.1 kv.2)
    have h2 := stored_le acc kv.1 kv.2
    simp; omega
theorem plain_update_loop : plainId "dict.update.loop" = true := by decide +kernel
theorem entry_update_loop : entryFor table "dict.update.loop" = some Builtin.«dict.update.loop» := entryFor_of_tree (by kernel_rfl)

theorem update_loop {K : Type} [DecidableEq K] {knd : KeyKind prog w K} {R : Result → Shared → Prop} {D I l : Addr} {items : Array Value} (hne : l ≠ I) (hDI : D ≠ I) (hDl : D ≠ l) (hA : A.handled = none) (ks : List (K × Value)) (hlen : items.size = ks.length) (hz : items.size ≤ 1000)
    (hit : ∀ i (h : i < items.size) (kv : K × Value), ks[i]? = some kv → ∀ h', (∀ b o, b ≠ D → b ≠ I → s.heap.get? b = some o → h'.get? b = some o) → ∃ T key, items[i] = .ref T ∧ T ≠ D ∧ T ≠ I ∧ IsT h' T #[key, kv.2] ∧ knd.is kv.1 key = true)
    (hR : ∀ h' tk, h'.DictOf knd D (ks.foldl (fun acc kv => stored acc kv.1 kv.2) []) → (∀ b o, b ≠ D → b ≠ I → s.heap.get? b = some o → h'.get? b = some o) → R (.ok (.ret .none)) { s with heap := h', toks := tk }) :
    ∀ (j : Nat) (i : Nat) (h' : Heap) (tk : Nat), items.size - i = j → i ≤ items.size → h'.DictOf knd D ((ks.take i).foldl (fun acc kv => stored acc kv.1 kv.2) []) → h'.IsListIter I l i → h'.IsList l items → (∀ b o, b ≠ D → b ≠ I → s.heap.get? b = some o → h'.get? b = some o) →
      codeAny (model prog w) A (.builtin "dict.update.loop" ⟨[.ref D, .ref I, rawInt (i : Nat), .none], []⟩) R { s with heap := h', toks := tk } := by
  intro j
  induction j with
  | zero =>
    intro i h' tk hj hi hd hI hl hk
    have hi' : i = ks.length := by omega
    subst hi'
    refine codeAny_builtin entry_update_loop ?_
    rw [Around.under_plainId plain_update_loop _]
    unfold Builtin.«dict.update.loop»
    refine wpAny_bind (wpAny_pyNext_list_end hA hI hl (by simp; omega) fun h₁ he => ?_)
    refine wpAny_bind (wpAny_pure (wpAny_pure ?_))
    rw [List.take_length] at hd
    exact hR _ _ (hd.extBut he hDI) fun b o h1 h2 e => he b o h2 (hk b o h1 h2 e)
  | succ j ih =>
    intro i h' tk hj hi hd hI hl hk
    have hlt : i < items.size := by omega
    have hks : i < ks.length := by omega
    refine codeAny_builtin entry_update_loop ?_
    rw [Around.under_plainId plain_update_loop _]
    unfold Builtin.«dict.update.loop»
    refine wpAny_bind (wpAny_pyNext_list_item hI hl (x := items[i]) (by simp [hlt]) fun h₁ hI₁ hs => ?_)
    have hk₁ : ∀ b o, b ≠ D → b ≠ I → s.heap.get? b = some o → h₁.get? b = some o := fun b o n1 n2 e => hs.extBut b o n2 (hk b o n1 n2 e)
    obtain ⟨T, key, e1, hTD, hTI, hT, hkey⟩ := hit i hlt ks[i] (List.getElem?_eq_getElem hks) h₁ hk₁
    rw [e1]
    have hT2 : (⟨h₁, s.gens, s.drawn, tk, s.os⟩ : Shared).TypeIs (.ref T) "tuple" := (let ⟨_, e⟩ := hT; ⟨_, e, rfl⟩)
    refine wpAny_bind (wpAny_holding ?_)
    refine wpAny_bind (wpAny_tryCatch ?_)
    unfold Builtin.Dict.pairItems
    refine wpAny_bind (wpAny_typeOf hT2 ?_)
    rw [if_pos (by decide)]
    obtain ⟨nn, hTe⟩ := hT
    refine wpAny_bind (wpAny_seqItems hTe rfl (wpAny_pure ?_))
    show wpAny _ _ (holding [key, ks[i].2] (dictSet D key ks[i].2)) _ _ _
    have hd₁ : h₁.DictOf knd D ((ks.take i).foldl (fun acc kv => stored acc kv.1 kv.2) []) := hd.extBut hs.extBut hDI
    refine wpAny_holding (wpAny_dictSet_pairs hkey hd₁ (fun h₂ hd₂ hs₂ => ?_) ?_)
    · have hc : ((i : Int) + 1) = ((i + 1 : Nat) : Int) := by push_cast; rfl
      refine wpAny_pure ?_
      rw [show rawInt ((i : Nat) + 1) = rawInt ((i + 1 : Nat) : Int) from by rw [hc]]
      refine ⟨plainId_quiet plain_update_loop _, ih (i + 1) h₂ _ (by omega) hlt ?_ ?_ ?_ ?_⟩
      · have e2 : ks.take (i + 1) = ks.take i ++ [ks[i]] := by rw [List.take_succ, List.getElem?_eq_getElem hks]; rfl
        rw [e2, List.foldl_append]; exact hd₂
      · exact hI₁.at fun o e => (hs₂.2 I hDI.symm).trans e
      · exact (hl.extBut hs.extBut hne).at fun o e => (hs₂.2 l hDl.symm).trans e
      · exact fun b o n1 n2 e => (hs₂.2 b n1).trans (hk₁ b o n1 n2 e)
    · have : ((ks.take i).foldl (fun acc kv => stored acc kv.1 kv.2) []).length ≤ 0 + (ks.take i).length := foldl_le _ _
      have h2 : (ks.take i).length ≤ i := by simp; omega
      rw [sizeLine_eq]; omega

theorem call_dict_pairs {K : Type} [DecidableEq K] {knd : KeyKind prog w K} {l : Addr} {xs : Array Value} {k : Nat} {Q : Value → Shared → Prop} (hA : A.handled = none) (hl : s.heap.get? l = some { cls := .type "list", dict := none, data := .seq xs k, slots := #[] }) (ks : List (K × Value)) (hlen : xs.size = ks.length) (hz : xs.size ≤ 1000)
    (hit : ∀ i (h : i < xs.size) (kv : K × Value), ks[i]? = some kv → ∃ T key, xs[i] = .ref T ∧ IsT s.heap T #[key, kv.2] ∧ knd.is kv.1 key = true)
    (h : ∀ h' tk, h'.DictOf knd s.heap.objs.size (ks.foldl (fun acc kv => stored acc kv.1 kv.2) []) → (∀ b o, s.heap.get? b = some o → h'.get? b = some o) → Q (.ref s.heap.objs.size) { s with heap := h', toks := tk }) :
    wpAny (model prog w) A (call (.type "dict") [.ref l]) Q E s := by
  refine callType_codes (Q₁ := fun obj s₁ => obj = .ref s.heap.objs.size ∧ s₁ = { s with heap := s.heap.push { cls := .type "dict", data := .dict #[] } }) F.kt_called_dict (F.kt_typeCall_dict_1 _) F.entry_dict_init (kt_code_dict_new _ ⟨rfl, rfl⟩) ?_
  rintro obj s₁ ⟨rfl, rfl⟩
  have hnew : (s.heap.push { cls := .type "dict", data := .dict #[] }).DictOf knd s.heap.objs.size [] := Heap.DictOf.new s.heap
  have hl1 : (s.heap.push { cls := .type "dict", data := .dict #[] }).get? l = some { cls := .type "list", dict := none, data := .seq xs k, slots := #[] } := Heap.get?_push_of_some _ hl
  have hlt : l < s.heap.objs.size := Heap.lt_size hl
  refine ⟨hnew.typeIs, F.args_dict_init_2 _ _, ?_⟩
  unfold Builtin.«dict.__init__»
  refine wpAny_bind ?_
  unfold Builtin.Dict.selfAndRest
  refine wpAny_bind (wpAny_notOrdered_dict hnew.typeIs ?_)
  show wpAny _ _ (pure (s.heap.objs.size, [Value.ref l])) _ _ _
  refine wpAny_pure ?_
  show wpAny _ _ (Builtin.Dict.updateFrom "dict.__init__" s.heap.objs.size (.ref l) [] .none) _ _ _
  unfold Builtin.Dict.updateFrom
  refine wpAny_bind (wpAny_typeOf (T := "list") ⟨_, hl1, rfl⟩ ?_)
  rw [if_pos (by decide)]
  refine wpAny_bind (keys_none hl1 hA fun h₁ tk₁ hk₁ => ?_)
  rw [if_pos (by rfl)]
  refine wpAny_bind (wpAny_rule ?_)
  have hl2 : h₁.get? l = some { cls := .type "list", dict := none, data := .seq xs k, slots := #[] } := hk₁ _ _ hl1
  refine wpAny_bind (wpAny_pyIter_list ⟨_, hl2, rfl, k, rfl⟩ ?_)
  have hd2 : (h₁.push { cls := .type "list_iterator", data := .fields #[.ref l, .int 0 0] }).DictOf knd s.heap.objs.size [] := by
    obtain ⟨o, es, ep, e, r⟩ := hnew; exact ⟨o, es, ep, Heap.get?_push_of_some _ (hk₁ _ _ e), r⟩
  have hsz1 : s.heap.objs.size < h₁.objs.size := by obtain ⟨o, es, ep, e, r⟩ := hnew; exact Heap.lt_size (hk₁ _ _ e)
  have old : ∀ b o, s.heap.get? b = some o → (h₁.push { cls := .type "list_iterator", data := .fields #[.ref l, .int 0 0] }).get? b = some o := fun b o e => Heap.get?_push_of_some _ (hk₁ _ _ (Heap.get?_push_of_some _ e))
  refine wpAny_bind (wpAny_pure ?_)
  refine wpAny_pure ?_
  have L := update_loop (s := { s with heap := h₁.push { cls := .type "list_iterator", data := .fields #[.ref l, .int 0 0] }, toks := tk₁ }) (A := A.in1) (D := s.heap.objs.size) (I := h₁.objs.size) (l := l) (items := xs) (knd := knd)
    (R := wants (fun r s₂ => r = .none ∧ Q (.ref s.heap.objs.size) s₂) E) (Nat.ne_of_lt (Nat.lt_trans hlt hsz1)) (Nat.ne_of_lt hsz1) (Nat.ne_of_gt hlt) hA ks hlen hz
    (fun i hi kv hkv h' hk' => by
      obtain ⟨T, key, e1, hT, hkey⟩ := hit i hi kv hkv
      obtain ⟨n, hT⟩ := hT
      have hTlt : T < s.heap.objs.size := Heap.lt_size hT
      exact ⟨T, key, e1, Nat.ne_of_lt hTlt, Nat.ne_of_lt (Nat.lt_trans hTlt hsz1), ⟨n, hk' _ _ (Nat.ne_of_lt hTlt) (Nat.ne_of_lt (Nat.lt_trans hTlt hsz1)) (old _ _ hT)⟩, hkey⟩)
    (fun h' tk hd' hk' => ⟨rfl, h h' tk hd' fun b o e => hk' b o (Nat.ne_of_lt (Heap.lt_size e)) (Nat.ne_of_lt (Nat.lt_trans (Heap.lt_size e) hsz1)) (old b o e)⟩)
    xs.size 0 (h₁.push { cls := .type "list_iterator", data := .fields #[.ref l, .int 0 0] }) tk₁ (by simp) (Nat.zero_le _) (by simpa using hd2) ⟨_, Heap.get?_push_size _ rfl, rfl, rfl⟩ ⟨_, Heap.get?_push_of_some _ hl2, rfl, k, rfl⟩ (fun _ _ _ _ e => e)
  exact ⟨plainId_quiet plain_update_loop _, L⟩
end

section
variable {c : Cx} {sc : Sc} {d : Nat} {ρ : Vars} {σ : St} {Q : Post} {A : Around} {s : Shared} {θ : List Addr}

def pairV (kv : Str × V) : V := .tup [.str kv.1, kv.2]
theorem pairs_rep {h : Heap} : ∀ {es : List (Str × V)} {xs : List Value}, RepVs h θ (es.map pairV) xs → ∃ ks : List (Str × Value), ks.length = xs.length ∧ RepKs h θ es ks ∧ ∀ (i : Nat) (h1 : i < xs.length) (kv : Str × Value), ks[i]? = some kv → ∃ T t, xs[i] = .ref T ∧ IsT h T #[.str kv.1 t, kv.2]
  | [], _, .nil => ⟨[], rfl, .nil, fun _ h => absurd h (Nat.not_lt_zero _)⟩
  | (k, v) :: es, _, .cons a b => by
    obtain ⟨ks, h1, h2, h3⟩ := pairs_rep b
    cases a with
    | tup l T ys ht hr =>
      obtain ⟨x, y, rfl, r1, r2⟩ := hr.two
      cases r1 with
      | str k t =>
        refine ⟨(k, y) :: ks, by simp [h1], .cons r2 h2, fun i hi kv e => ?_⟩
        cases i with
        | zero => cases e; exact ⟨T, t, rfl, ht⟩
        | succ i => exact h3 i (by simpa using hi) kv (by simpa using e)
theorem fold_rep {h : Heap} : ∀ {es : List (Str × V)} {ks : List (Str × Value)}, RepKs h θ es ks → ∀ {a : List (Str × V)} {b : List (Str × Value)}, RepKs h θ a b → RepKs h θ (es.foldl (fun acc kv => putK acc kv.1 kv.2) a) (ks.foldl (fun acc kv => stored acc kv.1 kv.2) b)
  | _, _, .nil, _, _, r => r
  | _, _, .cons p q, _, _, r => fold_rep q (r.stored p)

/-- dict(pairs) -/
theorem CALL_dictP {v : V} {es : List (Str × V)} (hl : isList σ v (es.map pairV)) (hz : es.length ≤ 900) (h : Q (.loc σ.length) (σ ++ [.dictS (es.foldl (fun acc kv => putK acc kv.1 kv.2) [])])) : CALL c d (.raw (.type "dict")) [v] σ Q := fun A s θ f' vs' r I rf rv => by
  cases rf
  obtain ⟨v', rfl, r1⟩ := rv.one
  obtain ⟨a, xs, n, rfl, hL, rl⟩ := I.asL hl r1
  obtain ⟨ks, k1, k2, k3⟩ := pairs_rep rl
  have hxs : xs.length = es.length := by rw [← rl.length]; simp
  refine call_dict_pairs (knd := strKind c.prog c.w) r.handled hL ks (by simp [k1]) (by rw [List.size_toArray, hxs]; omega) (fun i hi kv e => by
    obtain ⟨T, t, e1, e2⟩ := k3 i (by simpa using hi) kv e
    exact ⟨T, _, by simpa using e1, e2, isStr_is _ _⟩) fun h' tk hd' hk => ?_
  obtain ⟨I₁, g₁⟩ := I.alloc (ob := { cls := .type "dict", data := .dict #[] }) (o := .dictS []) (t := tk) ⟨[], Heap.DictOf.new _, .nil⟩
  have en : (θ ++ [s.heap.objs.size])[σ.length]? = some s.heap.objs.size := by rw [← I.rep.len]; simp
  have g2 : Grow s.heap θ h' (θ ++ [s.heap.objs.size]) := ⟨⟨_, rfl⟩, g₁.fresh, fun b o e _ => hk b o e⟩
  have k' : ∀ b o, s.heap.get? b = some o → h'.get? b = some o := hk
  refine ⟨.loc σ.length, _, θ ++ [s.heap.objs.size], ⟨fun b o e => hk _ _ (I.keep b o e), I₁.apart, I₁.nodup, ⟨by simp [I.rep.len], fun j o' b e1 e2 => ?_⟩, I.gens, I.os⟩, g2, .loc _ _ en, h⟩
  by_cases hj : j < σ.length
  · rw [List.getElem?_append_left hj] at e1
    rw [List.getElem?_append_left (I.rep.len ▸ hj)] at e2
    exact (I.rep.obj j o' b e1 e2).moved I.tupOut g2 (fun ob e => hk _ _ e) (fun b' ob e _ => hk _ _ e) I.rep.noFields
  · have hj' : j = σ.length := by
      have := (List.getElem?_eq_some_iff.mp e1).1
      simp at this; omega
    subst hj'
    rw [List.getElem?_append_right (Nat.le_refl _)] at e1
    rw [en] at e2
    simp at e1 e2
    subst e1 e2
    exact ⟨_, hd', fold_rep (k2.grow I.tupOut g2) .nil⟩
end
end Mine
end
section
open PySem PySem.W PySem.Calls PyProof.Rows PySem.MeetsSeq PySem.MeetsSeq2 PySem.MeetsSeq3
set_option Elab.async false
set_option linter.unusedVariables false
set_option maxRecDepth 20000
namespace Mine
section
variable {c : Cx} {sc : Sc} {d : Nat} {ρ : Vars} {σ : St} {Q : Post} {R : Fl → Vars → St → Prop} {A : Around} {env : Env} {s s₁ : Shared} {θ θ₁ : List Addr} {x y : Str} {target : Expr}

/-- a call of a function of the text, told of codes -/
theorem code_def (C : CxOk c) {a : Addr} {fd : FuncData} {ps : List Str} {body : List Stmt} {vs : List V} {vs' : List Value} (f : FnAt c a fd ps body) (hlen : vs.length = ps.length) (hd : 1 ≤ d)
    (h : EXs c ⟨fd.scope, fd.code⟩ (d - 1) body (binds ps vs []) σ fun fl _ σ' => Q (retOf fl) σ') (r : Room A d) (I : Inv c s θ σ) (rv : RepVs s.heap θ vs vs') :
    codeAny (model c.prog c.w) A (.call (.ref a) ⟨vs', []⟩) (fun r s' => match r with | .ok (.ret v) => OkV c s θ Q v s' | _ => False) s := by
  obtain ⟨o, ho, hdat⟩ := f.at_
  have hz : ∀ x ∈ ps.zip vs', x.1 ∈ ps := fun x hx => (List.of_mem_zip (show (x.1, x.2) ∈ ps.zip vs' from hx)).1
  refine codeAny_call_cells (by have := r.depth; omega) (I.keep _ _ ho) hdat (C.nolimit.keeps I.keep) (f.code.keeps I.keep) f.body (f.bind vs' (by rw [← rv.length]; exact hlen)) f.closure ?_ (fun s₁ X => ?_) f.co f.gen f.kind
  · intro x hx
    rcases f.kinds x.1 (hz x hx) with e | e
    · exact .inl e
    · exact .inr ⟨e, cellsFrom_some _ _ _ (.inl e)⟩
  · obtain ⟨hh, tk, rfl⟩ := X.toInCall.same
    have keep := X.toInCall.keep
    have I₁ : Inv c { s with heap := hh, toks := tk } θ σ := I.keeps keep
    have g₁ : Grow s.heap θ hh θ := grow_keeps keep
    have E₁ : EnvIs ⟨fd.scope, fd.code⟩ (callEnvC fd s.heap.objs.size a) := ⟨rfl, f.globals, f.builtins, rfl, f.kind, fun x hx => cellsFrom_some _ _ _ (.inl hx)⟩
    have above : ∀ n k, (callEnvC fd s.heap.objs.size a).cells.lookup n = some k → s.heap.objs.size < k := fun n k e => X.above n k (mem_of_lookup e)
    have F₁ : FrA c hh θ (callEnvC fd s.heap.objs.size a) (binds ps vs []) := by
      refine ⟨⟨_, _, X.toInCall.ns, X.cell, fun x v hx => ?_⟩, (I.new (Nat.le_refl _)).1, (I.new (Nat.le_refl _)).2, fun n k e => ?_, fun n n' k e e' => ?_⟩
      · have B := Bound.bind (kindOf := (callEnvC fd s.heap.objs.size a).kindOf) (rv.mapM fun q => q.grow I.tupOut g₁) (fun x hx => f.kinds x hx) (ρ := []) (m := fun _ => none) (cm := fun _ => none) (fun _ _ e => by cases e)
        obtain ⟨v', p, q⟩ := B x v hx
        refine ⟨v', p, ?_⟩
        rcases q with q | ⟨q1, q2⟩
        · exact .inl q
        · exact .inr ⟨.inl q1, cellsFrom_some _ _ _ (.inl q1), q2⟩
      · have := above n k e
        exact ⟨Nat.ne_of_gt this, (I.new (Nat.le_of_lt this)).1, (I.new (Nat.le_of_lt this)).2⟩
      · exact name_of_addr X.apart (mem_of_lookup e) (mem_of_lookup e')
    have r₁ : Room (A.deeper (callEnvC fd s.heap.objs.size a)) (d - 1) := by
      have q := r.depth
      have q' := r.units
      have e1 : (A.deeper (callEnvC fd s.heap.objs.size a)).depth = A.depth + 1 := rfl
      have e2 : (A.deeper (callEnvC fd s.heap.objs.size a)).units = A.units + 3 := rfl
      exact ⟨by rw [e1]; omega, by rw [e2]; omega, r.handled⟩
    refine wpAny_mono (h _ _ _ θ r₁ E₁ I₁ F₁) (fun f' s₂ h₂ => ?_) fun _ _ x => x.elim
    obtain ⟨fl, ρ', σ', θ', I₂, _, g₂, rf, q⟩ := h₂
    have G : Grow s.heap θ s₂.heap θ' := g₂.out fun b o e => ⟨keep b o e, fun m => by
      have lt := Heap.lt_size e
      rcases m with e' | ⟨n, e'⟩
      · exact absurd lt (by rw [e']; exact Nat.lt_irrefl _)
      · exact absurd (Nat.lt_trans lt (above n b e')) (Nat.lt_irrefl _)⟩
    cases rf with
    | next => exact ⟨_, σ', θ', I₂, G, .none, q⟩
    | brk => exact ⟨_, σ', θ', I₂, G, .none, q⟩
    | cont => exact ⟨_, σ', θ', I₂, G, .none, q⟩
    | ret rv => exact ⟨_, σ', θ', I₂, G, rv, q⟩

theorem ite_le (p : Prop) [Decidable p] : (if p then 1 else 0) ≤ 1 := by split <;> omega
theorem room_make (r : Room A d) (hd : 1 ≤ d) (args : Args) : Room (A.under (.builtin "type.__call__" args)) (d - 1) := by
  have q := r.depth
  have q' := r.units
  have e1 : (A.under (.builtin "type.__call__" args)).depth ≤ A.depth + 1 := by
    show A.depth + _ ≤ A.depth + 1
    refine Nat.add_le_add_left ?_ _
    have h1 : (Code.builtin "type.__call__" args).isFrame = false := by first | rfl | decide
    have h2 : ¬ "type.__call__" ∈ guardIds := by decide +kernel
    simp [Code.weight, Code.frames, Code.isCreation, Code.isGuard, Code.isCaller, h1, h2]
    exact ite_le _
  have e2 : (A.under (.builtin "type.__call__" args)).units ≤ A.units + 4 := by
    show A.units + _ ≤ A.units + 4
    refine Nat.add_le_add_left ?_ _
    have h1 : (Code.builtin "type.__call__" args).isFrame = false := by first | rfl | decide
    simp [Code.cUnits, Code.frames, h1]
  exact ⟨by omega, by omega, r.handled⟩

/-- an instance of a class of the text is made -/
theorem CALL_make (Cc : CxOk c) {C f : Addr} {fd : FuncData} {ps : List Str} {body : List Stmt} {vs : List V} (hm : makesIn c.K C = true) (hi : findIn c.K (.ref C) "__init__" = some (some (.ref f))) (hf : typeIn c.K (.ref f) = some (.type "function"))
    (fa : FnAt c f fd ps body) (hlen : vs.length + 1 = ps.length) (hd : 2 ≤ d)
    (h : EXs c ⟨fd.scope, fd.code⟩ (d - 2) body (binds ps (.loc (σ.length + 1) :: vs) []) (σ ++ [.attrs [], .inst C σ.length]) fun fl _ σ' => retOf fl = .none ∧ Q (.loc (σ.length + 1)) σ') : CALL c d (.raw (.ref C)) vs σ Q := fun A s θ f' vs' r I rf rv => by
  cases rf
  refine wpAny_call ?_
  have X := Cc.K.keeps I.keep
  obtain ⟨hh, g, dr, t, os⟩ := s
  refine make_core (makes_of X hm) (looks_findIn X hi) (fun self => bind_fn X self hf) (.inl rfl) ?_
  have A₁ := I.alloc (ob := emptyDict) (o := .attrs []) (t := t) ⟨[], 0, Heap.get?_push_size _ rfl, .nil⟩
  obtain ⟨I₁, g₁⟩ := A₁
  dsimp only at I₁ g₁
  have e0 : (θ ++ [hh.objs.size])[σ.length]? = some hh.objs.size := by rw [← I.rep.len]; simp
  have A₂ := I₁.alloc (ob := instObj C hh.objs.size) (o := .inst C σ.length) (t := t) ⟨hh.objs.size, by
      rw [List.getElem?_append_left (List.getElem?_eq_some_iff.mp e0).1]; exact e0, Heap.get?_push_size _ rfl⟩
  obtain ⟨I₂, g₂⟩ := A₂
  dsimp only at I₂ g₂
  rw [Heap.size_push] at I₂ g₂
  have e1 : ((θ ++ [hh.objs.size]) ++ [hh.objs.size + 1])[σ.length + 1]? = some (hh.objs.size + 1) := by rw [← I.rep.len]; simp
  have gg := g₁.trans g₂
  have eσ : (σ ++ [SO.attrs []]) ++ [SO.inst C σ.length] = σ ++ [.attrs [], .inst C σ.length] := by simp
  rw [eσ] at I₂
  have hb := code_def (Q := fun v σ' => v = .none ∧ Q (.loc (σ.length + 1)) σ') (s := ⟨(hh.push emptyDict).push (instObj C hh.objs.size), g, dr, t, os⟩) Cc fa (vs := .loc (σ.length + 1) :: vs) (d := d - 1) (by simpa using hlen) (by omega) h (room_make r (by omega) ⟨.ref C :: vs', []⟩) I₂ (.cons (.loc _ _ e1) (rv.grow I.tupOut gg))
  refine codeAny_mono hb fun r' s' hr => ?_
  cases r' with
  | error e => exact hr.elim
  | ok fl =>
    cases fl with
    | ret v =>
      obtain ⟨u, σ', θ', I', g', ru, rfl, q⟩ := hr
      cases ru
      exact ⟨rfl, .loc (σ.length + 1), σ', θ', I', gg.trans g', .loc _ _ (g'.at e1), q⟩
    | _ => exact hr.elim
theorem Kp_cls (C : CxOk c) {a : Addr} (h : keepIn c.K (.ref a) = true) : Kp c σ (.raw (.ref a)) := Kp_K C h
end
end Mine
end
section
open PySem PySem.W PySem.Calls PyProof.Rows PySem.MeetsSeq PySem.MeetsSeq2 PySem.MeetsSeq3
set_option Elab.async false
set_option linter.unusedVariables false
set_option maxRecDepth 20000
namespace Mine
section
variable {c : Cx} {sc : Sc} {d : Nat} {ρ : Vars} {σ : St} {Q : Post} {R : Fl → Vars → St → Prop} {A : Around} {env : Env} {s s₁ : Shared} {θ θ₁ : List Addr} {x y : Str} {target : Expr}

def LamIs (args : Arguments) (body : Expr) (scope : Scope) (fd : FuncData) : Prop := ∃ name qual pm cdv ctv, fd = kla_fn name qual args body scope [] pm cdv ctv

theorem Inv.updE (I : Inv c s θ σ) {i : Nat} {a : Addr} {o' : SO} {h' : Heap} {t : Nat} (ha : θ[i]? = some a) (hs : Heap.ExtBut a s.heap h') (ho : RepO c.prog c.w h' θ a o') :
    Inv c { s with heap := h', toks := t } θ (σ.set i o') ∧ Grow s.heap θ h' θ := by
  have ma : a ∈ θ := List.mem_of_getElem? ha
  have g : Grow s.heap θ h' θ := ⟨⟨[], (List.append_nil _).symm⟩, fun _ m n => (n m).elim, fun b o e n => hs b o (fun z => n (z ▸ ma)) e⟩
  refine ⟨⟨fun b o e => hs b o (fun z => by subst z; have := (I.apart _ ma).1; rw [e] at this; cases this) (I.keep b o e), I.apart, I.nodup, ⟨by rw [List.length_set]; exact I.rep.len, fun j o b e1 e2 => ?_⟩, I.gens, I.os⟩, g⟩
  by_cases hij : i = j
  · subst hij
    rw [ha] at e2; cases e2
    have hl : i < σ.length := I.rep.len ▸ (List.getElem?_eq_some_iff.mp ha).1
    rw [List.getElem?_set_self hl] at e1; cases e1
    exact ho
  · rw [List.getElem?_set_ne hij] at e1
    have hb : b ≠ a := fun z => by
      subst z
      obtain ⟨h1, e3⟩ := List.getElem?_eq_some_iff.mp ha
      obtain ⟨h2, e4⟩ := List.getElem?_eq_some_iff.mp e2
      exact hij ((List.getElem_inj I.nodup).mp (e3.trans e4.symm))
    exact (I.rep.obj j o b e1 e2).moved I.tupOut g (fun ob e => hs b ob hb e) (fun b' ob e n => g.kept b' ob e n) I.rep.noFields

theorem EV_Lambda (Cc : CxOk c) {args : Arguments} {body : Expr} {scope : Scope} {pos : Pos} {c0 P : Addr} {k : Nat} {ps : Array Value}
    (hd : ∀ env, defaultsOf args env = ([], [])) (hfree : ∀ y ∈ scope.names, y.2 ≠ .free) (hcode : sc.code = .ref c0) (C : CodeHd c.hb c0 P) (hk : σ[k]? = some (.tab P ps)) (ht : TriplesOk ps.toList) (hnf : codeAmong pos ps.toList = none)
    (h : ∀ ps', Q (.loc σ.length) (σ.set k (.tab P ps') ++ [.fn (LamIs args body scope)])) : EV c sc d (.Lambda args body scope pos) ρ σ Q := fun A env s θ r X I F => by
  show wpAny _ _ (do
    let (d, kd) := defaultsOf args env
    let dv ← evalAll d
    let kdv ← holding dv (evalAllOpt kd)
    makeFunction "<lambda>" (env.qual ++ "<lambda>") args (.expr body) scope env dv kdv [] pos pos.line) _ _ _
  rw [hd env]
  refine wpAny_bind (wpAny_pure (a := ([] : List Value)) (wpAny_bind (wpAny_holding (wpAny_of_eq rfl ?_))))
  obtain ⟨a, ha, rfl, hP, hnoC⟩ := I.at hk
  obtain ⟨mg, bm, ob, hg, b1, b2, b3, b4, b5, b6, b7⟩ := Cc.bmain
  have inθ : ∀ b o, c.hb.get? b = some o → b ≠ a := fun b o e z => by subst z; have := (I.apart _ (List.mem_of_getElem? ha)).1; rw [e] at this; cases this
  have hgP : mainGlobals ≠ a := by obtain ⟨o, es, ep, e, _⟩ := hg; exact inθ _ _ e
  refine kla_makeFunction (mg := mg) (closureFor_none hfree) X.globals (hg.keeps I.keep) (X.code.trans hcode) (C.keeps I.keep) hP ht hnf hgP ⟨bm, ob, b1, b2, b3, inθ _ _ b4, I.keep _ _ b4, b5, b6, b7⟩ fun c' ctv h' tk hx hge hlt hrec htb => ?_
  have hps' : ∀ x t, (ps ++ #[rawInt pos.line, rawInt pos.col, .ref c'])[1]? ≠ some (.str x t) := by
    intro x t
    cases hp : ps.toList with
    | nil => have : ps = #[] := by cases ps; cases hp; rfl
             subst this; simp [rawInt]
    | cons p l =>
      cases hl : l with
      | nil => rw [hp, hl] at ht; cases p <;> exact ht.elim
      | cons q l' =>
        have e : (ps ++ #[rawInt pos.line, rawInt pos.col, .ref c'])[1]? = ps[1]? := by
          rw [Array.getElem?_append_left]
          have : ps.size = (p :: q :: l').length := by rw [← hl, ← hp]; simp
          rw [this]; simp
        rw [e]; exact hnoC x t
  obtain ⟨I₁, g₁⟩ := I.updE (t := tk) (o' := .tab a (ps ++ #[rawInt pos.line, rawInt pos.col, .ref c'])) ha hx ⟨rfl, htb, hps'⟩
  obtain ⟨I₂, g₂⟩ := I₁.alloc (t := tk) (ob := kla_obj "<lambda>" (env.qual ++ "<lambda>") args body scope [] ((mg "__name__").getD .none) c' ctv) (o := .fn (LamIs args body scope))
    ⟨_, ⟨_, _, _, _, _, rfl⟩, Heap.get?_push_size _ rfl, hrec.push _⟩
  refine ⟨.loc σ.length, _, _, I₂, g₁.trans g₂, .loc _ _ (by rw [← I.rep.len]; simp), ?_⟩
  exact h _

theorem get_binds_zip {h : Heap} : ∀ {xs : List Str} {vs : List V} {vs' : List Value} {ρ : Vars} {m : Str → Option Value}, RepVs h θ vs vs' → (∀ x v, get ρ x = some v → ∃ v', RepV h θ v v' ∧ m x = some v') →
    ∀ x v, get (binds xs vs ρ) x = some v → ∃ v', RepV h θ v v' ∧ ((xs.zip vs').reverse.lookup x).or (m x) = some v'
  | [], _, _, _, _, r, B, x, v, hx => by
    cases r <;> simpa using B x v hx
  | _ :: _, _, _, _, _, .nil, B, x, v, hx => by simpa using B x v hx
  | z :: xs, _, _, ρ, m, .cons (v := u) (x := u') a b, B, x, v, hx => by
    have := get_binds_zip (xs := xs) (ρ := put ρ z u) (m := fun y => if y = z then some u' else m y) b (fun y w hy => by
      rw [get_put] at hy
      by_cases e : z = y
      · subst e; rw [if_pos rfl] at hy; cases hy; exact ⟨u', a, by simp⟩
      · rw [if_neg e] at hy; obtain ⟨w', p, q⟩ := B y w hy; exact ⟨w', p, by (have e' : ¬ y = z := fun z => e z.symm); (simp only [e', if_false]); exact q⟩) x v hx
    obtain ⟨v', p, q⟩ := this
    refine ⟨v', p, ?_⟩
    rw [List.zip_cons_cons, List.reverse_cons, List.lookup_append]
    rw [← q]
    cases hl : (xs.zip _).reverse.lookup x with
    | some w => simp
    | none =>
      by_cases e : x = z
      · subst e; simp
      · have : (x == z) = false := by simpa using e
        simp [List.lookup_cons, this, e]

theorem CALL_lam (C : CxOk c) {n : Nat} {args : Arguments} {body : Expr} {scope : Scope} {ps : List Str} {vs : List V} (hn : σ[n]? = some (.fn (LamIs args body scope))) (hlen : vs.length = ps.length) (hd : 1 ≤ d)
    (hcell : ∀ y ∈ scope.names, y.2 ≠ .cell) (hk : ∀ x ∈ ps, scope.names.lookup x = some .local) (hkind : scope.kind = .function) (hco : scope.isCoroutine = false) (hgen : scope.isGenerator = false)
    (hb : ∀ fd, LamIs args body scope fd → ∀ vals : List Value, vals.length = ps.length → bindArgs fd ⟨vals, []⟩ = pure (ps.zip vals))
    (h : ∀ code, EV c ⟨scope, code⟩ (d - 1) body (binds ps vs []) σ Q) : CALL c d (.loc n) vs σ Q := fun A s θ f' vs' r I rf rv => by
  obtain ⟨a, rfl, e⟩ := rf.ofLoc
  obtain ⟨fd, hfd, ho, hrec⟩ := I.rep.obj n _ a hn e
  have hfd' := hfd
  obtain ⟨name, qual, pm, cdv, ctv, rfl⟩ := hfd'
  refine wpAny_call (kla_callFunE (by have := r.depth; omega) ho rfl hco hgen rfl hrec ?_)
  rw [hb _ hfd vs' (by rw [← rv.length]; exact hlen)]
  refine wpAny_pure ?_
  have hz : ∀ x ∈ ps.zip vs', scope.names.lookup x.1 = some .local := fun x hx => hk _ (List.of_mem_zip (show (x.1, x.2) ∈ ps.zip vs' from hx)).1
  refine wpAny_newFunctionEnv hcell hz (fun h₁ hns hsb => ?_) hkind
  dsimp only at hns hsb ⊢
  have keep : ∀ b o, s.heap.get? b = some o → h₁.get? b = some o := fun b o e => hsb.extBut b o (Nat.ne_of_lt (Heap.lt_size e)) (Heap.get?_push_of_some _ e)
  refine ⟨(C.nolimit.keeps I.keep).keeps keep, kla_codeExpr ?_⟩
  have I₁ : Inv c { s with heap := h₁, toks := s.toks + (ps.zip vs').length } θ σ := I.keeps keep
  have g₁ : Grow s.heap θ h₁ θ := grow_keeps keep
  have E₁ : EnvIs ⟨scope, cdv⟩ (newEnv scope s.heap.objs.size mainGlobals [] (qual ++ ".<locals>.") (some a) cdv none builtinsNs) := ⟨rfl, rfl, rfl, rfl, hkind, fun x hx => False.elim (by
    have : ∀ (l : List (Str × NameKind)), l.lookup x = some .cell → ∃ y ∈ l, y.2 = .cell := by
      intro l
      induction l with
      | nil => intro h; cases h
      | cons p l ih =>
        intro h
        obtain ⟨n, k⟩ := p
        rw [List.lookup_cons] at h
        split at h
        · cases h; exact ⟨_, List.mem_cons_self, rfl⟩
        · obtain ⟨y, m, q⟩ := ih h; exact ⟨y, List.mem_cons_of_mem _ m, q⟩
    obtain ⟨y, m, q⟩ := this _ hx
    exact hcell y m q)⟩
  have F₁ : FrA c h₁ θ (newEnv scope s.heap.objs.size mainGlobals [] (qual ++ ".<locals>.") (some a) cdv none builtinsNs) (binds ps vs []) := by
    refine ⟨⟨_, fun _ => none, hns, fun n k e => (by cases e), fun x v hx => ?_⟩, (I.new (Nat.le_refl _)).1, (I.new (Nat.le_refl _)).2, fun n k e => (by cases e), fun n n' k e => (by cases e)⟩
    obtain ⟨v', p, q⟩ := get_binds_zip (m := fun _ => none) (ρ := []) (rv.mapM fun q => q.grow I.tupOut g₁) (fun _ _ e => by cases e) x v hx
    have q' : (ps.zip vs').reverse.lookup x = some v' := by simpa using q
    refine ⟨v', p, .inl ⟨?_, q'⟩⟩
    have hm : (x, v') ∈ (ps.zip vs') := by have := mem_of_lookup q'; simpa using this
    exact hz _ hm
  have r₁ : Room (A.deeper (newEnv scope s.heap.objs.size mainGlobals [] (qual ++ ".<locals>.") (some a) cdv none builtinsNs)) (d - 1) := by
    have q := r.depth
    have q' := r.units
    refine ⟨?_, ?_, r.handled⟩
    · show A.depth + 1 + _ + _ < _; omega
    · show A.units + 3 + _ + _ < _; omega
  refine wpAny_mono (h cdv _ _ _ θ r₁ E₁ I₁ F₁) (fun v' s₂ h₂ => h₂.trans g₁) fun _ _ x => x.elim
end
end Mine
end
section
open PySem PySem.W PySem.Calls PyProof.Rows PySem.MeetsSeq PySem.MeetsSeq2 PySem.MeetsSeq3
set_option Elab.async false
set_option linter.unusedVariables false
set_option maxRecDepth 20000
namespace Mine
/-- what is asked of a comprehension's names, as a check -/
def compB (scope : Scope) (sc : Scope) (x : Str) (xs : List Str) : Bool :=
  scope.kind == .function && scope.names.all (fun y => y.2 != .cell) && scope.names.all (fun y => y.2 != .free || sc.names.lookup y.1 == some .cell) && scope.names.all (fun y => y.2 != .local || scope.names.lookup y.1 == some .local) &&
    ((relabelS scope ⟨sc, .none⟩).names.lookup x == some .local) && xs.all fun y => scope.names.any (fun p => p.1 == y && p.2 == .free) && (relabelS scope ⟨sc, .none⟩).names.lookup y == some .cell
section
variable {c : Cx} {sc : Sc} {d : Nat} {ρ : Vars} {σ : St} {Q : Post} {R : Fl → Vars → St → Prop} {x y : Str}
theorem compB_ok {scope : Scope} {xs : List Str} (h : compB scope sc.scope x xs = true) : scope.kind = .function ∧ (∀ y ∈ scope.names, y.2 ≠ .cell) ∧ (∀ y ∈ scope.names, y.2 = .free → sc.scope.names.lookup y.1 = some .cell) ∧ (∀ y ∈ scope.names, y.2 = .local → scope.names.lookup y.1 = some .local) ∧
    (compSc scope sc).scope.names.lookup x = some .local ∧ ∀ y ∈ xs, (y, .free) ∈ scope.names ∧ (compSc scope sc).scope.names.lookup y = some .cell := by
  unfold compB at h
  simp only [Bool.and_eq_true] at h
  obtain ⟨⟨⟨⟨⟨h1, h2⟩, h3⟩, h4⟩, h5⟩, h6⟩ := h
  refine ⟨beq_iff_eq.mp h1, fun y hy => by simpa using List.all_eq_true.mp h2 y hy, fun y hy hf => ?_, fun y hy hf => ?_, beq_iff_eq.mp h5, fun y hy => ?_⟩
  · have := List.all_eq_true.mp h3 y hy
    rw [hf] at this; simpa using this
  · have := List.all_eq_true.mp h4 y hy
    rw [hf] at this; simpa using this
  · have := List.all_eq_true.mp h6 y hy
    rw [Bool.and_eq_true] at this
    obtain ⟨a, b⟩ := this
    obtain ⟨p, hp, hq⟩ := List.any_eq_true.mp a
    rw [Bool.and_eq_true] at hq
    refine ⟨?_, beq_iff_eq.mp b⟩
    have e1 := beq_iff_eq.mp hq.1
    have e2 := beq_iff_eq.mp hq.2
    obtain ⟨p1, p2⟩ := p
    dsimp only at e1 e2
    subst e1 e2; exact hp
theorem EV_LC {elt iter : Expr} {px : Pos} {scope : Scope} {pos : Pos} {ρc : Vars} (hB : compB scope sc.scope x (ρc.map (·.1)) = true) (hρ : ∀ p ∈ ρc, get ρ p.1 = some p.2)
    (h : ITX c sc d (.Name x px) iter ρ σ fun l K σ₂ => K (σ₂ ++ [.list []]) ∧ COMPS c (compSc scope sc) d elt x K σ₂.length (fun vs σ₃ => Q (.loc σ₂.length) σ₃) l [] ρc (σ₂ ++ [.list []]))
    (hs : ∀ env x, foldedSetIterable iter env x = pure x := by intro _ _; rfl) : EV c sc d (.ListComp elt [⟨.Name x px, iter, [], 0⟩] scope pos) ρ σ Q := by
  obtain ⟨h1, h2, h3, h4, h5, h6⟩ := compB_ok hB
  exact EV_ListComp h1 h2 h3 h4 h5 (fun p hp => ⟨hρ p hp, h6 _ (List.mem_map.mpr ⟨p, hp, rfl⟩)⟩) h hs
theorem EX_LC {elt iter : Expr} {px py : Pos} {scope : Scope} {pos spos : Pos} {ρc : Vars} (hky : kindOk sc y) (hB : compB scope sc.scope x (ρc.map (·.1)) = true) (hρ : ∀ p ∈ ρc, get ρ p.1 = some p.2)
    (h : ITX c sc d (.Name x px) iter ρ σ fun l K σ₂ => K (σ₂ ++ [.list []]) ∧ COMPS c (compSc scope sc) d elt x K σ₂.length (fun vs σ₃ => R .next (put ρ y (.loc σ₂.length)) σ₃) l [] ρc (σ₂ ++ [.list []]))
    (hsw : ∀ env : Env, env.scope = sc.scope → swapsWith (.ListComp elt [⟨.Name x px, iter, [], 0⟩] scope pos) (some (.Name y py)) spos.line env = pure true)
    (hs : ∀ env x, foldedSetIterable iter env x = pure x := by intro _ _; rfl) : EX c sc d (.Assign [.Name y py] (.ListComp elt [⟨.Name x px, iter, [], 0⟩] scope pos) spos) ρ σ R := by
  obtain ⟨h1, h2, h3, h4, h5, h6⟩ := compB_ok hB
  exact EX_AssignComp hky h1 h2 h3 h4 h5 (fun p hp => ⟨hρ p hp, h6 _ (List.mem_map.mpr ⟨p, hp, rfl⟩)⟩) h hsw hs
theorem attrSet {n k : Nat} {C : Addr} {l : List (Str × V)} {attr : Str} {v : V} {p : St → Prop} (hn : σ[n]? = some (.inst C k)) (hk : σ[k]? = some (.attrs l)) (hs : StoreOf c.K C attr) (hz : l.length ≤ 900) (h : p (σ.set k (.attrs (put l attr v)))) :
    ∃ n' k' C' l', V.loc n = .loc n' ∧ σ[n']? = some (.inst C' k') ∧ σ[k']? = some (.attrs l') ∧ StoreOf c.K C' attr ∧ l'.length ≤ 900 ∧ p (σ.set k' (.attrs (put l' attr v))) := ⟨n, k, C, l, rfl, hn, hk, hs, hz, h⟩
theorem Inv.re {s : Shared} {θ : List Addr} {i : Nat} {a : Addr} {o' : SO} (I : Inv c s θ σ) (ha : θ[i]? = some a) (ho : RepO c.prog c.w s.heap θ a o') : Inv c s θ (σ.set i o') := by
  refine ⟨I.keep, I.apart, I.nodup, ⟨by rw [List.length_set]; exact I.rep.len, fun j o b e1 e2 => ?_⟩, I.gens, I.os⟩
  by_cases hij : i = j
  · subst hij
    rw [ha] at e2; cases e2
    have hl : i < σ.length := I.rep.len ▸ (List.getElem?_eq_some_iff.mp ha).1
    rw [List.getElem?_set_self hl] at e1; cases e1
    exact ho
  · rw [List.getElem?_set_ne hij] at e1
    exact I.rep.obj j o b e1 e2
/-- a list that stands while a statement runs -/
theorem EX_fz {st : Stmt} {n : Nat} {l : List V} (hn : σ[n]? = some (.list l)) (h : ∀ xs k, EX c sc d st ρ (σ.set n (.fz xs k l)) fun f ρ' σ' => σ'[n]? = some (.fz xs k l) ∧ R f ρ' (σ'.set n (.list l))) : EX c sc d st ρ σ R := fun A env s θ r X I F => by
  obtain ⟨a, ha, xs, k, h1, h2⟩ := I.at hn
  refine wpAny_mono (h xs k A env s θ r X (I.re ha ⟨h1, h2⟩) F) (fun f' s₁ h₁ => ?_) fun _ _ x => x
  obtain ⟨f, ρ', σ', θ', I', F', g', rf, hn', q⟩ := h₁
  have ha' : θ'[n]? = some a := by obtain ⟨t, e⟩ := g'.pre; rw [e, List.getElem?_append_left (List.getElem?_eq_some_iff.mp ha).1]; exact ha
  obtain ⟨h1', h2'⟩ := I'.rep.obj n _ a hn' ha'
  exact ⟨f, ρ', _, θ', I'.re (o' := .list l) ha' ⟨xs, k, h1', h2'⟩, F', g', rf, q⟩
theorem LOOPS_nil {target : Expr} {body : List Stmt} {K : St → Prop} (h : R .next ρ σ) : LOOPS c sc d target body K R [] ρ σ := h
theorem LOOPS_cons {target : Expr} {body : List Stmt} {K : St → Prop} {x : V} {r : List V} {ρ₁ : Vars} (ha : AS sc target x ρ ρ₁) (h : EXs c sc d body ρ₁ σ fun f ρ' σ' => match f with
      | .next => K σ' ∧ LOOPS c sc d target body K R r ρ' σ'
      | .cont => K σ' ∧ LOOPS c sc d target body K R r ρ' σ'
      | .brk => R .next ρ' σ'
      | .ret v => R (.ret v) ρ' σ') : LOOPS c sc d target body K R (x :: r) ρ σ := ⟨ρ₁, ha, h⟩
end
end Mine
end
section
open PySem PySem.W PySem.Calls PyProof.Rows PySem.MeetsSeq PySem.MeetsSeq2 PySem.MeetsSeq3
set_option Elab.async false
set_option linter.unusedVariables false
set_option maxRecDepth 20000
namespace Mine
theorem ints_rep {h : Heap} {θ : List Addr} {xs : List Value} {ns : List Int} (q : IntsAre xs ns) : RepVs h θ (ns.map .int) xs := by
  induction q with
  | nil => exact .nil
  | cons n t r ih => exact .cons (.int _ _) ih
section
variable {c : Cx} {sc : Sc} {d : Nat} {ρ : Vars} {σ : St} {Q : Post} {R : Fl → Vars → St → Prop} {x y : Str}
/-- the start of the script -/
theorem EV_SliceScript {value hi : Expr} {p pos : Pos} {ad : Addr} {xs : List Value} {ns : List Int} {b : Nat} (hL : c.hb.IsList ad xs.toArray) (hI : IntsAre xs ns) (hlen : ns.length ≤ 9000)
    (h : EV c sc d value ρ σ fun v σ₁ => v = .raw (.ref ad) ∧ EVP c sc d (some hi) ρ σ₁ fun o σ₃ => o = some b ∧ Q (.lst ((ns.take b).map .int)) σ₃)
    (hg : ∀ o r, letTemporaryGo value o r = pure () := by intro _ _; rfl) : EV c sc d (.Subscript value (.Slice none (some hi) none p) pos) ρ σ Q := fun A env s θ r X I F => by
  refine wpAny_Subscript_Slice slot_list_getitem.lookup (wpAny_mono (h A env s θ r X I F) (fun o' s₁ h₁ => ?_) fun _ _ x => x) hg
  obtain ⟨v, σ₁, θ₁, I₁, g₁, rv, rfl, q⟩ := h₁
  have F₁ := F.grow I.tupOut g₁
  refine wpAny_Slice (wpAny_evalPart_none (EVP_ok q r X I₁ F₁ fun vb s₃ σ₃ θ₃ b' I₃ g₃ pb q₃ => wpAny_evalPart_none ?_))
  obtain ⟨rfl, q⟩ := q₃
  cases rv
  obtain ⟨I₄, g₄⟩ := pushed I₃ { cls := .type "slice", data := .fields #[.none, vb, .none] } s₃.toks
  have rl : RepVs s₃.heap θ₃ (ns.map .int) xs := ints_rep hI
  have hl' : (s₃.heap.push { cls := .type "slice", data := .fields #[.none, vb, .none] }).IsList ad xs.toArray := (hL.at fun o e => I₃.keep _ _ e).push _
  refine ⟨hl'.typeIs, ?_⟩
  obtain ⟨ys, e1, e2, e3⟩ := pick_rep rl (lo := none) (hi := some b) rfl
  refine wpAny_getItem_list_slice hl' ⟨_, Heap.get?_push_size _ rfl, rfl, rfl⟩ .none pb.isPart .none (by simp) ?_ (by rw [List.size_toArray, ← rl.length, sizeLine_eq]; simp; omega)
  rw [show (Option.map Int.ofNat none : Option Int) = none from rfl] at e1
  rw [e1]
  rw [← List.map_take] at e2
  exact .trans ((g₁.trans g₃).trans g₄) (I₄.frozen (t := s₃.toks) (e2.grow I₃.tupOut g₄) q)
end
end Mine
end
section
open PySem PySem.W PySem.Calls PyProof.Rows PySem.MeetsSeq PySem.MeetsSeq2 PySem.MeetsSeq3
set_option Elab.async false
set_option linter.unusedVariables false
set_option maxRecDepth 20000
namespace Mine

def strsOf : List Value → Option (List Str)
  | [] => some []
  | .str x _ :: r => (strsOf r).map (x :: ·)
  | _ => none
theorem strsOf_rep {h : Heap} {θ : List Addr} {xs : List Value} : ∀ {ys : List Str}, strsOf xs = some ys → RepVs h θ (ys.map .str) xs := by
  induction xs with
  | nil => intro ys e; cases e; exact .nil
  | cons v r ih =>
    intro ys e
    cases v with
    | str x t =>
      unfold strsOf at e
      cases h2 : strsOf r with
      | none => rw [h2] at e; cases e
      | some zs => rw [h2] at e; cases e; exact .cons (.str _ _) (ih h2)
    | _ => simp [strsOf] at e
/-- a tuple of texts that stands at the top -/
def strsIn (K : Frag) (x : Str) : Option (List Str) := match nsIn K mainGlobals x with
  | some (some (.ref a)) => (match K.lookup a with
    | some ⟨.type t, none, .seq items n, ⟨[]⟩⟩ => if t = "tuple" then strsOf items.toList else none
    | _ => none)
  | _ => none
def rawIn (K : Frag) (x : Str) : Option Value := match nsIn K mainGlobals x with
  | some (some v) => some v
  | some none => bootBuiltins x
  | none => none
def isTupV' : V → Bool
  | .tup _ => true
  | _ => false
def valIn (K : Frag) (p : Str × V) : Option V := if isTupV' p.2 then (strsIn K p.1).map fun ys => .tup (ys.map .str) else (rawIn K p.1).map .raw

theorem get_mem' {α : Type} : ∀ {l : List (Str × α)} {x : Str} {v : α}, get l x = some v → (x, v) ∈ l
  | (y, u) :: r, x, v, e => by
    unfold get at e
    split at e
    · rename_i h; subst h; cases e; exact List.mem_cons_self
    · exact List.mem_cons_of_mem _ (get_mem' e)

theorem CxOk.of {c : Cx} {p : Program} {loose : List Str} {mean : ExcName → Option Value} {mg mb : Str → Option Value} (X : c.K.In c.hb) (T : Top p loose mean mg mb c.hb)
    (hg : c.gl.map (fun q => valIn c.K q) = c.gl.map (fun q => some q.2)) (hn : c.gl.all (fun q => q.1 != "__name__") = true) : CxOk c where
  K := X
  nolimit := T.nolimit
  names := by
    refine ⟨mg, mb, T.g, T.b, fun x v e => ?_⟩
    have hm := get_mem' e
    have hx : x ≠ "__name__" := by simpa using List.all_eq_true.mp hn _ hm
    have hv : valIn c.K (x, v) = some v := by
      have := List.map_inj_left.mp hg _ hm
      exact this
    unfold valIn at hv
    split at hv
    · obtain ⟨ys, h1, h2⟩ := Option.map_eq_some_iff.mp hv
      subst h2
      unfold strsIn at h1
      split at h1
      · rename_i a hns
        split at h1
        · rename_i t items n hl
          split at h1
          · rename_i ht
            subst ht
            exact ⟨.ref a, .tup _ a items.toList ⟨n, X _ _ hl⟩ (strsOf_rep h1), .inl (mg_of X T.g hns)⟩
          · cases h1
        · cases h1
      · cases h1
    · obtain ⟨u, h1, h2⟩ := Option.map_eq_some_iff.mp hv
      subst h2
      refine ⟨u, .raw u, ?_⟩
      unfold rawIn at h1
      split at h1
      · rename_i v' hns; cases h1; exact .inl (mg_of X T.g hns)
      · rename_i hns; exact .inr ⟨mg_none_of X T.g hns, (T.builtins x hx).trans h1⟩
      · cases h1
  bmain := by
    obtain ⟨bm, ob, h1, h2, h3, h4, h5, h6⟩ := T.bmain
    refine ⟨mg, bm, ob, T.g, h1, h2, fun e => ?_, h3, h4, h5, h6⟩
    obtain ⟨o, es, ep, e1, hd, _⟩ := T.g
    subst e
    rw [h3] at e1; cases e1
    rw [h6] at hd; cases hd

theorem cells_above : ∀ (names : List (Str × NameKind)) (n lo : Nat) (acc : List (Str × Addr)), lo < n → (∀ p ∈ acc, lo < p.2 ∧ p.2 < n) → acc.Pairwise (fun x y => x.2 ≠ y.2) →
    (∀ p ∈ cellsFrom n names acc, lo < p.2) ∧ (cellsFrom n names acc).Pairwise (fun x y => x.2 ≠ y.2)
  | [], n, lo, acc, _, h, hp => ⟨fun p m => (h p m).1, hp⟩
  | (name, kind) :: r, n, lo, acc, hn, h, hp => by
    unfold cellsFrom
    split
    · refine cells_above r (n + 1) lo _ (by omega) (fun p m => ?_) (List.pairwise_cons.mpr ⟨fun y hy e => ?_, hp⟩)
      · rcases List.mem_cons.mp m with rfl | m
        · exact ⟨hn, Nat.lt_succ_self _⟩
        · have := h p m; exact ⟨this.1, Nat.lt_succ_of_lt this.2⟩
      · exact absurd (h y hy).2 (by rw [← show n = y.2 from e]; exact Nat.lt_irrefl _)
    · exact cells_above r n lo acc hn h hp

theorem room_caller {env : Env} : Room (callerA.deeper env) 40 := ⟨by show callerA.depth + 1 + 2 * 40 + 5 < recursionLimit; decide, by show callerA.units + 3 + 8 * 40 + 40 < cLine; decide, rfl⟩
/-- the law's frame: from the walk's facts to mine -/
theorem law_enter {c : Cx} {A : Around} {name x : Str} {scope : Scope} {fa P L d : Nat} {cd v : Value} {m cm : Str → Option Value} {cells news : List (Addr × Obj)} {s : Shared} {body : List Stmt} {E : Value → Shared → Prop} {Q : Flow → Shared → Prop}
    (F : Fr c.hb L s.heap m) (N : News c.hb L s.heap news) (X0 : CellsAre cm (cellsFrom (L + 1) scope.names []) cells) (hnews : news = cells ++ [(P, tabObj #[])]) (l0 : P < L) (hP2 : 2 < P) (hg : s.gens = c.gens) (hos : s.os = c.os) (hk : scope.kind = .function) (r : Room A d)
    (hm : m x = some v) (hx : scope.names.lookup x = some .local)
    (h : EXs c ⟨scope, cd⟩ d body [(x, .raw v)] [.tab P #[]] fun fl _ σ' => fl = .ret (.bool true) ∧ ∃ ps, σ'[0]? = some (.tab P ps))
    (hQ : ∀ s', (∀ b o, c.hb.get? b = some o → s'.heap.get? b = some o) → s'.gens = c.gens → s'.os = c.os → (∃ ps, s'.heap.get? P = some (tabObj ps)) → Q (.ret (.bool true)) s') :
    wpAny (model c.prog c.w) A (execs body (envOfC name scope L fa cd)) Q E s := by
  subst hnews
  obtain ⟨ab, ap⟩ := cells_above scope.names (L + 1) L [] (by omega) (fun _ m => by cases m) .nil
  have NP := N (P, tabObj #[]) (List.mem_append_right _ List.mem_cons_self)
  have C : Cl L (cellsFrom (L + 1) scope.names []) s.heap cm := Cl.of_news (own := []) (fun p hp => N p (List.mem_append_left _ hp)) X0 ap (fun n k m => ab (n, k) m)
  have hbn : ∀ b, L ≤ b → c.hb.get? b = none := fun b hb => Heap.get?_none_of_le (Nat.le_trans F.above hb)
  have I : Inv c s [P] [.tab P #[]] := by
    refine ⟨F.keep, fun a ha => ?_, by simp, ⟨rfl, fun i o a e1 e2 => ?_⟩, hg, hos⟩
    · have : a = P := by simpa using ha
      subst this; exact ⟨NP.2.2, hP2⟩
    · cases i with
      | zero => cases e1; cases e2; exact ⟨rfl, NP.1, by simp⟩
      | succ i => simp at e1
  have X : EnvIs ⟨scope, cd⟩ (envOfC name scope L fa cd) := ⟨rfl, rfl, rfl, rfl, hk, fun y hy => cellsFrom_some _ _ _ (.inl hy)⟩
  have FA : FrA c s.heap [P] (envOfC name scope L fa cd) [(x, .raw v)] := by
    refine ⟨⟨m, cm, F.ns, fun n k e => C.cell n k e, fun y u hy => ?_⟩, ?_, hbn L (Nat.le_refl _), fun n k e => ?_, fun n n' k e e' => ?_⟩
    · unfold get at hy
      split at hy
      · rename_i e; subst e; cases hy; exact ⟨v, .raw v, .inl ⟨hx, hm⟩⟩
      · cases hy
    · show L ∉ [P]
      simp only [List.mem_cons, List.not_mem_nil, or_false]; exact Nat.ne_of_gt l0
    · have a := C.above n k (mem_of_lookup e)
      refine ⟨Nat.ne_of_gt a, ?_, hbn k (Nat.le_of_lt a)⟩
      simp only [List.mem_cons, List.not_mem_nil, or_false]; exact Nat.ne_of_gt (Nat.lt_trans l0 a)
    · exact name_of_addr C.apart (mem_of_lookup e) (mem_of_lookup e')
  refine wpAny_mono (h A _ s [P] r X I FA) (fun f' s' h' => ?_) fun _ _ x => x.elim
  obtain ⟨fl, ρ', σ', θ', I', _, g', rf, rfl, ps, ht⟩ := h'
  cases rf with
  | ret rv =>
    cases rv
    refine hQ s' I'.keep I'.gens I'.os ⟨ps, ?_⟩
    have hl : 0 < θ'.length := by rw [I'.rep.len]; exact (List.getElem?_eq_some_iff.mp ht).1
    obtain ⟨rfl, q, _⟩ := I'.rep.obj 0 _ _ ht (List.getElem?_eq_getElem hl)
    exact q
end Mine
end
section
open PySem PySem.W PySem.Calls PyProof.Rows
set_option Elab.async false
set_option linter.unusedVariables false
set_option maxRecDepth 100000
namespace Mine

theorem put_led (t : SetTable) (j : Nat) : (t.put j).1.led = t.led ∧ (t.put j).1.plain = t.plain := ⟨rfl, rfl⟩
theorem standIn_led (t : SetTable) (n : Nat) : (t.orStandIn n).led = t.led ∧ (t.plain = false → (t.orStandIn n).plain = false) := by
  unfold SetTable.orStandIn
  split
  · exact ⟨rfl, fun h => h⟩
  · exact ⟨rfl, fun _ => rfl⟩
theorem layNew_led (t : SetTable) (es : Array (Int × Value)) (h : Int) (x : Value) : (layNew t es h x).2.1.led = t.led ∧ (t.plain = false → (layNew t es h x).2.1.plain = false) := by
  unfold layNew
  split
  · rename_i slot wd _
    have a := standIn_led (t.put slot).1 (SetTable.insertAt es (t.put slot).2 (h, x)).size
    exact ⟨a.1, fun hp => a.2 hp⟩
  · exact ⟨rfl, fun _ => rfl⟩
theorem laid_led {mask finger moves : Nat} {led plain : Bool} {hs : Array Int} {r : SetTable × Array Nat} (e : SetTable.laid mask finger moves led plain hs = some r) : r.1.led = led ∧ r.1.plain = plain := by
  unfold SetTable.laid at e
  cases h : SetTable.layClean mask hs with
  | none => rw [h] at e; cases e
  | some o => rw [h] at e; cases e; exact ⟨rfl, rfl⟩
theorem relayAll_led (t : SetTable) (es : Array (Int × Value)) (n : Nat) : (relayAll t es n).2.1.led = t.led ∧ (t.plain = false → (relayAll t es n).2.1.plain = false) := by
  unfold relayAll
  split
  · rename_i t' order e
    have := laid_led e
    dsimp only
    split
    · exact ⟨this.1, fun h => this.2.trans h⟩
    · exact ⟨rfl, fun _ => rfl⟩
  · exact ⟨rfl, fun _ => rfl⟩

def keyOf : Value → Str
  | .str x _ => x
  | _ => default
section
variable {prog : Program} {w : World} {A : Around} {E : Value → Shared → Prop} {s : Shared}
abbrev SK (prog : Program) (w : World) := PySem.strKind prog w
theorem str_key {k : Str} {v : Value} (h : (SK prog w).is k v = true) : ∃ t, v = .str k t := Value.isStrOf_shape h

/-- a set of texts: what it holds, up to the order -/
def SetIs (prog : Program) (w : World) (h : Heap) (a : Addr) (b : Bool) (l : List Str) : Prop :=
  ∃ es ep t, h.get? a = some { cls := .type "set", dict := none, data := .set es ep t, slots := #[] } ∧ ElemsOf (SK prog w) es.toList ∧ t.fits es.size = true ∧ t.led = !b ∧ (es.size ≠ 0 → t.plain = false) ∧
    (es.toList.map fun e => keyOf e.2).Perm l

theorem SetIs.size {l : List Str} {es : Array (Int × Value)} (p : (es.toList.map fun e => keyOf e.2).Perm l) : es.size = l.length := by
  rw [← p.length_eq, List.length_map, Array.length_toList]

theorem elem_key {es : List (Int × Value)} (h : ElemsOf (SK prog w) es) (k : Str) : k ∈ es.map (fun e => keyOf e.2) ↔ ∃ e ∈ es, (SK prog w).is k e.2 = true := by
  rw [List.mem_map]
  constructor
  · rintro ⟨e, he, rfl⟩
    obtain ⟨⟨k', hk, _⟩, _⟩ := h e he
    obtain ⟨t, e2⟩ := str_key hk
    refine ⟨e, he, ?_⟩
    rw [e2] at hk ⊢
    exact hk
  · rintro ⟨e, he, hk⟩
    obtain ⟨t, e2⟩ := str_key hk
    exact ⟨e, he, by rw [e2]; rfl⟩

theorem set_store {h : Heap} {a : Addr} {b : Bool} {l : List Str} {es es' : Array (Int × Value)} {ep : Nat} {t t' : SetTable} (ho : h.get? a = some { cls := .type "set", dict := none, data := .set es ep t, slots := #[] })
    (hel : ElemsOf (SK prog w) es'.toList) (hf : t'.fits es'.size = true) (hl : t'.led = !b) (hp : t'.plain = false) (hq : (es'.toList.map fun e => keyOf e.2).Perm l) :
    (h.update a (Obj.putSet es' t')).get? a = some { cls := .type "set", dict := none, data := .set es' (ep + 1) t', slots := #[] } ∧ SetIs prog w (h.update a (Obj.putSet es' t')) a b l := by
  have e := Heap.get?_update_self (Obj.putSet es' t') ho rfl
  exact ⟨e, es', ep + 1, t', e, hel, hf, hl, fun _ => hp, hq⟩

theorem setAdd_str {a : Addr} {b : Bool} {l : List Str} {k : Str} {tk : Tok} {Q : Bool → Shared → Prop} (hS : SetIs prog w s.heap a b l) (hz : l.length + 1 < scanBound)
    (h : ∀ r h', Heap.SameBut a s.heap h' → SetIs prog w h' a b (if k ∈ l then l else l ++ [k]) → Q r { s with heap := h', toks := s.toks + 1 }) : wpAny (model prog w) A (setAdd a (.str k tk)) Q E s := by
  have hkey : (SK prog w).is k (.str k tk) = true := strKind_is prog w k tk
  have hsc : (Value.str k tk).scannable = true := rfl
  obtain ⟨es, ep, t, ho, hel, hf, hl, hp, hq⟩ := hS
  have hsz := SetIs.size hq
  have hb : es.size < scanBound := by omega
  have hmem : k ∈ l ↔ ∃ e ∈ es.toList, (SK prog w).is k e.2 = true := by rw [← elem_key hel]; exact (hq.mem_iff).symm
  unfold setAdd
  refine wpAny_holding (wpAny_bind ((SK prog w).pyHash hkey ?_))
  unfold setAddHashed setAddHashedIn
  refine wpAny_holding (wpAny_bind (wpAny_setState_of (s := { s with toks := s.toks + 1 }) ho rfl hf ?_))
  dsimp only
  rw [byScan_of hsc hb hel, if_pos rfl]
  unfold setAddByScan
  refine wpAny_bind (wpAny_bind (wpAny_rule (wpAny_bind (wpAny_setScan_of (s := { s with toks := s.toks + 1 }) hkey ho rfl hf hel ?_))))
  have gw : ∀ (b : Bool) (s₁ : Shared) (Q' : Unit → Shared → Prop), Q' () s₁ → wpAny (model prog w) A (match b with | true => rule "set.scan.the-table-gave-way" | false => pure ()) Q' E s₁ :=
    fun b s₁ Q' q => by cases b <;> first | exact wpAny_pure q | exact wpAny_rule q
  cases hr : List.findIdx? (fun e => (SK prog w).is k e.2) es.toList with
  | some j =>
    obtain ⟨hj, hpj, _⟩ := List.findIdx?_eq_some_iff_getElem.mp hr
    have hk : k ∈ l := hmem.mpr ⟨_, List.getElem_mem hj, hpj⟩
    rw [if_pos hk] at h
    exact wpAny_pure (wpAny_pure (h _ s.heap (Heap.SameBut.refl ..) ⟨es, ep, t, ho, hel, hf, hl, hp, hq⟩))
  | none =>
    have hk : k ∉ l := fun hk => by
      obtain ⟨e, he, q⟩ := hmem.mp hk
      have := List.findIdx?_eq_none_iff.mp hr e he
      rw [q] at this; cases this
    rw [if_neg hk] at h
    have p1 := layNew_perm t es ((SK prog w).hash k) (.str k tk)
    have f1 := layNew_fits t es ((SK prog w).hash k) (.str k tk)
    have d1 := layNew_led t es ((SK prog w).hash k) (.str k tk)
    generalize layNew t es ((SK prog w).hash k) (.str k tk) = N at p1 f1 d1 ⊢
    obtain ⟨es1, t1, wd, gave⟩ := N
    dsimp only at p1 f1 d1 ⊢
    rw [Array.toList_push] at p1
    have el1 : ElemsOf (SK prog w) es1.toList := (hel.push hkey hsc).perm p1
    have q1 : (es1.toList.map fun e => keyOf e.2).Perm (l ++ [k]) := (p1.map _).trans (by rw [List.map_append]; exact hq.append_right _)
    have z1 : es1.size ≤ sizeLine := by rw [SetIs.size q1, sizeLine_eq]; simp; have : scanBound = 4096 := rfl; omega
    refine wpAny_bind (gw _ _ _ ?_)
    have tail : ∀ (g : Bool → Sem Unit), (∀ (b : Bool) (s₁ : Shared) (Q' : Unit → Shared → Prop), Q' () s₁ → wpAny (model prog w) A (g b) Q' E s₁) → ∀ t2 : SetTable, t2.led = !b → t2.plain = false → t2.fits es1.size = true →
        wpAny (model prog w) A (do
          storeSet a es1 t2
          if (!wd && t2.tooFull) = true then do
            g (relayAll t2 es1 (SetTable.grown es1.size)).2.2
            storeSet a (relayAll t2 es1 (SetTable.grown es1.size)).1 (relayAll t2 es1 (SetTable.grown es1.size)).2.1
            pure (some true)
          else pure (some true)) (fun r s₂ => wpAny (model prog w) A (match r with | some added => pure added | none => setAddHashedIn a (.str k tk) ((SK prog w).hash k) 99999) Q E s₂) E { s with toks := s.toks + 1 } := by
      intro g hg t2 hl2 hp2 hf2
      refine wpAny_bind (wpAny_storeSet_of ho rfl ?_ z1)
      obtain ⟨o1, S1⟩ := set_store (w := w) (prog := prog) (b := b) ho el1 hf2 hl2 hp2 q1
      split
      · have p2 := relayAll_perm t2 es1 (SetTable.grown es1.size)
        have f2 := relayAll_fits t2 es1 (SetTable.grown es1.size)
        have d2 := relayAll_led t2 es1 (SetTable.grown es1.size)
        generalize relayAll t2 es1 (SetTable.grown es1.size) = N2 at p2 f2 d2 ⊢
        obtain ⟨es2, t3, g2⟩ := N2
        dsimp only at p2 f2 d2 ⊢
        have q2 : (es2.toList.map fun e => keyOf e.2).Perm (l ++ [k]) := (p2.map _).trans q1
        have z2 : es2.size ≤ sizeLine := by rw [SetIs.size q2, ← SetIs.size q1]; exact z1
        refine wpAny_bind (hg _ _ _ ?_)
        refine wpAny_bind (wpAny_storeSet_of o1 rfl ?_ z2)
        obtain ⟨_, S2⟩ := set_store (w := w) (prog := prog) (b := b) o1 (el1.perm p2) f2 (d2.1.trans hl2) (d2.2 hp2) q2
        exact wpAny_pure (wpAny_pure (h _ _ ((Heap.SameBut.update ..).trans (Heap.SameBut.update ..)) S2))
      · exact wpAny_pure (wpAny_pure (h _ _ (Heap.SameBut.update ..) S1))
    split
    · rw [hashByValue_scannable 8 hsc]
      refine wpAny_bind (wpAny_pure ?_)
      refine tail _ ?_ _ (d1.1.trans hl) rfl (SetTable.fits_plain_off f1)
      intro b s₁ Q' q; cases b <;> first | exact wpAny_pure q | exact wpAny_rule q
    · rename_i hpl
      refine wpAny_bind (wpAny_pure ?_)
      refine tail _ ?_ _ (d1.1.trans hl) (by simpa using hpl) f1
      intro b s₁ Q' q; cases b <;> first | exact wpAny_pure q | exact wpAny_rule q

def addAll (ys l : List Str) : List Str := ys.foldl (fun l k => if k ∈ l then l else l ++ [k]) l
theorem addAll_len : ∀ (ys l : List Str), (addAll ys l).length ≤ l.length + ys.length
  | [], l => by simp [addAll]
  | y :: ys, l => by
    show (addAll ys (if y ∈ l then l else l ++ [y])).length ≤ _
    have := addAll_len ys (if y ∈ l then l else l ++ [y])
    have h2 : (if y ∈ l then l else l ++ [y]).length ≤ l.length + 1 := by split <;> simp
    simp only [List.length_cons]; omega
theorem addAll_mem : ∀ (ys l : List Str) (k : Str), k ∈ addAll ys l ↔ k ∈ l ∨ k ∈ ys
  | [], l, k => by simp [addAll]
  | y :: ys, l, k => by
    show k ∈ addAll ys (if y ∈ l then l else l ++ [y]) ↔ _
    rw [addAll_mem ys]
    by_cases hy : y ∈ l
    · rw [if_pos hy]; simp only [List.mem_cons]
      constructor
      · rintro (h | h) <;> simp [h]
      · rintro (h | h | h) <;> simp_all
    · rw [if_neg hy]; simp only [List.mem_append, List.mem_cons, List.not_mem_nil, or_false, or_assoc]
theorem addAll_nodup : ∀ (ys l : List Str), l.Nodup → (addAll ys l).Nodup
  | [], l, h => h
  | y :: ys, l, h => by
    show (addAll ys (if y ∈ l then l else l ++ [y])).Nodup
    refine addAll_nodup ys _ ?_
    split
    · exact h
    · rename_i hy
      rw [List.nodup_append]
      exact ⟨h, by simp, fun a ha b hb e => by
        have : b = y := by simpa using hb
        subst this; subst e; exact hy ha⟩

theorem plain_set_loop : plainId "set.update.loop" = true := by decide +kernel
theorem entry_set_loop : entryFor table "set.update.loop" = some Builtin.«set.update.loop» := entryFor_of_tree (by kernel_rfl)
theorem set_loop {R : Result → Shared → Prop} {D I l : Addr} {items : Array Value} {b : Bool} (hne : l ≠ I) (hDI : D ≠ I) (hDl : D ≠ l) (hA : A.handled = none) (ys : List Str) (hlen : items.size = ys.length) (hz : items.size ≤ 1000)
    (hit : ∀ i (h : i < items.size) (y : Str), ys[i]? = some y → ∃ t, items[i] = .str y t)
    (hR : ∀ h' tk, SetIs prog w h' D b (addAll ys []) → (∀ b o, b ≠ D → b ≠ I → s.heap.get? b = some o → h'.get? b = some o) → R (.ok (.ret .none)) { s with heap := h', toks := tk }) :
    ∀ (j : Nat) (i : Nat) (h' : Heap) (tk : Nat), items.size - i = j → i ≤ items.size → SetIs prog w h' D b (addAll (ys.take i) []) → h'.IsListIter I l i → h'.IsList l items → (∀ b o, b ≠ D → b ≠ I → s.heap.get? b = some o → h'.get? b = some o) →
      codeAny (model prog w) A (.builtin "set.update.loop" ⟨[.ref D, .ref I], []⟩) R { s with heap := h', toks := tk } := by
  have ext : ∀ {h h' : Heap} {a x : Addr} {l : List Str}, SetIs prog w h a b l → Heap.ExtBut x h h' → a ≠ x → SetIs prog w h' a b l := fun ⟨es, ep, t, e, r⟩ hx hn => ⟨es, ep, t, hx _ _ hn e, r⟩
  intro j
  induction j with
  | zero =>
    intro i h' tk hj hi hd hI hl hk
    have hi' : i = ys.length := by omega
    subst hi'
    refine codeAny_builtin entry_set_loop ?_
    rw [Around.under_plainId plain_set_loop _]
    unfold Builtin.«set.update.loop»
    refine wpAny_bind (wpAny_pyNext_list_end hA hI hl (by simp; omega) fun h₁ he => ?_)
    rw [List.take_length] at hd
    exact wpAny_pure (hR _ _ (ext hd he hDI) fun b o h1 h2 e => he b o h2 (hk b o h1 h2 e))
  | succ j ih =>
    intro i h' tk hj hi hd hI hl hk
    have hlt : i < items.size := by omega
    have hks : i < ys.length := by omega
    refine codeAny_builtin entry_set_loop ?_
    rw [Around.under_plainId plain_set_loop _]
    unfold Builtin.«set.update.loop»
    refine wpAny_bind (wpAny_pyNext_list_item hI hl (x := items[i]) (by simp [hlt]) fun h₁ hI₁ hs => ?_)
    have hk₁ : ∀ b o, b ≠ D → b ≠ I → s.heap.get? b = some o → h₁.get? b = some o := fun b o n1 n2 e => hs.extBut b o n2 (hk b o n1 n2 e)
    obtain ⟨t, e1⟩ := hit i hlt ys[i] (List.getElem?_eq_getElem hks)
    rw [e1]
    have hlen2 : (addAll (ys.take i) []).length + 1 < scanBound := by
      have h1 := addAll_len (ys.take i) []
      have h2 : (ys.take i).length ≤ i := by simp; omega
      have h3 : scanBound = 4096 := rfl
      have h4 : ([] : List Str).length = 0 := rfl
      omega
    refine wpAny_bind (wpAny_holding (setAdd_str (b := b) (s := { s with heap := h₁, toks := tk }) (ext hd hs.extBut hDI) hlen2 fun r h₂ hs₂ hd₂ => ?_))
    refine wpAny_pure ⟨plainId_quiet plain_set_loop _, ih (i + 1) h₂ _ (by omega) hlt ?_ ?_ ?_ ?_⟩
    · have e2 : ys.take (i + 1) = ys.take i ++ [ys[i]] := by rw [List.take_add_one, List.getElem?_eq_getElem hks]; rfl
      rw [e2]
      show SetIs prog w h₂ D b (List.foldl _ _ _)
      rw [List.foldl_append]; exact hd₂
    · exact hI₁.at fun o e => (hs₂.2 I hDI.symm).trans e
    · exact (hl.extBut hs.extBut hne).at fun o e => (hs₂.2 l hDl.symm).trans e
    · exact fun b o n1 n2 e => (hs₂.2 b n1).trans (hk₁ b o n1 n2 e)

theorem newCall_set_1 (a : Value) : checkBuiltinCall "set.__new__" ⟨[.type "set", a], []⟩ = pure () := by kernel_rfl
theorem typeCall_set_1 (a : Value) : checkTypeCall "set" ⟨[a], []⟩ = pure () := by kernel_rfl
def byText (w : World) : Bool := w.params.followText "set-order"
theorem code_set_new1 (a : Value) {Q₁ : Value → Shared → Prop}
    (h : Q₁ (.ref s.heap.objs.size) { s with heap := s.heap.push { cls := .type "set", dict := none, data := .set #[] 0 (.fresh 0 0 (!byText w)) } }) :
    codeAny (model prog w) A (.call (.builtin "set.__new__") ⟨[.type "set", a], []⟩) (wants Q₁ E) s := by
  refine codeAny_of_tree ?_
  show wpAny _ A.in1 (do checkBuiltinCall "set.__new__" ⟨[.type "set", a], []⟩; again (.builtin "set.__new__" ⟨[.type "set", a], []⟩)) _ _ s
  refine wpAny_bind (wpAny_of_eq (newCall_set_1 a) (wpAny_pure ⟨plainId_quiet F.plain_set_new _, codeAny_builtin F.entry_set_new ?_⟩))
  rw [Around.under_plainId F.plain_set_new _]
  unfold Builtin.«set.__new__» Builtin.Frozenset.newClass
  have hsub := sub_set_self
  obtain ⟨hp, g, d, tk, os⟩ := s
  dsimp only
  wp_walk
  refine wpAny_askSetting (wpAny_pure ?_)
  dsimp only
  simp only [newObj]
  refine wpAny_bind (wpAny_alloc (wpAny_pure ?_))
  exact wpAny_pure h

theorem check_set_init1 {M : Model} {self x : Value} {Q : Unit → Shared → Prop} (hT : s.TypeIs self "set") (hQ : Q () s) :
    wpAny M A (checkBuiltinCall "set.__init__" ⟨[self, x], []⟩) Q E s := by
  simp only [checkBuiltinCall, kind_set_init, split_set_init, sig_set_init]
  refine wpAny_bind (wpAny_isInstance hT sub_set_self ?_)
  simp only [Bool.not_true, Bool.false_eq_true, if_false]
  unfold Bind.checkArgs
  dsimp only
  refine wpAny_bind (m := Bind.printed "set" true _ _) (PyProof.Rows.printed_name (by decide) ?_)
  refine wpAny_bind (m := Bind.printed "*" false _ _) (PyProof.Rows.printed_star (self := self) rfl hT fun short => ?_)
  have hrn : (Manifest.Receiver.self == Manifest.Receiver.none) = false := by decide
  have hn : (if (Manifest.Receiver.self == Manifest.Receiver.none) = true then [self, x].length else [self, x].length - 1) = 1 := by simp [hrn]
  rw [hn]
  simp only [List.map_nil]
  have hc : Bind.check ⟨.positional, "set", "*", .self, [⟨"iterable", .posOnly, false⟩]⟩ "set" short 1 [] = pure () := by
    simp [Bind.check, Bind.checkCount, Bind.isPositional]
    intro h; exact absurd h (by decide)
  rw [hc]
  exact wpAny_pure hQ

theorem typeName_set : typeName (.type "set") = pure "set" := by unfold typeName; rw [find?_eq_fast]; kernel_rfl
theorem cut_set {n : Nat} {a : Addr} {M : Model} {Q : String → Shared → Prop} (hT : s.TypeIs (.ref a) "set") (h : Q "set" s) : wpAny M A (typeNameOfCut n (.ref a)) Q E s := by
  unfold typeNameOfCut shownTypeOf
  refine wpAny_bind (wpAny_bind (wpAny_typeOf hT ?_))
  simp only [show (Value.type "set" == Value.type "builtin_function_or_method") = false by decide, Bool.false_eq_true, if_false]
  refine wpAny_pure ?_
  rw [show typeNameCut n (.type "set") = typeName (.type "set") from rfl, typeName_set]
  exact wpAny_pure h
theorem set_init {R : Result → Shared → Prop} {S l : Addr} {xs : Array Value} {k : Nat} (hA : A.handled = none) (hl : s.heap.get? l = some { cls := .type "list", dict := none, data := .seq xs k, slots := #[] }) (hne : S ≠ l)
    (hS : s.heap.get? S = some { cls := .type "set", dict := none, data := .set #[] 0 (.fresh 0 0 (!byText w)) }) (ys : List Str) (hlen : xs.size = ys.length) (hz : xs.size ≤ 1000)
    (hit : ∀ i (h : i < xs.size) (y : Str), ys[i]? = some y → ∃ t, xs[i] = .str y t)
    (hR : ∀ h' tk, SetIs prog w h' S (byText w) (addAll ys []) → (∀ b o, b ≠ S → s.heap.get? b = some o → h'.get? b = some o) → R (.ok (.ret .none)) { s with heap := h', toks := tk }) :
    wpAny (model prog w) A.in1.in1 (Builtin.«set.__init__» ⟨[.ref S, .ref l], []⟩)
      (fun fin s' => match fin with | .done f => R (.ok f) s' | .again c' => c'.quiet = true ∧ codeAny (model prog w) A.in1 c' R s') (fun e s' => R (.error e) s') s := by
  have hT : s.TypeIs (.ref S) "set" := ⟨_, hS, rfl⟩
  have hTl : s.TypeIs (.ref l) "list" := ⟨_, hl, rfl⟩
  unfold Builtin.«set.__init__»
  refine wpAny_bind (m := noKeywords "set" _) (wpAny_pure ?_)
  dsimp only
  refine wpAny_bind (cut_set hT ?_)
  refine wpAny_bind (m := checkCount _ 0 1 _) (wpAny_pure ?_)
  refine wpAny_bind (m := Builtin.Frozenset.addrOf _) (wpAny_pure ?_)
  trace_state
  sorry

theorem call_set_list {l : Addr} {xs : Array Value} {k : Nat} {Q : Value → Shared → Prop} (hA : A.handled = none) (hl : s.heap.get? l = some { cls := .type "list", dict := none, data := .seq xs k, slots := #[] }) (ys : List Str) (hlen : xs.size = ys.length) (hz : xs.size ≤ 1000)
    (hit : ∀ i (h : i < xs.size) (y : Str), ys[i]? = some y → ∃ t, xs[i] = .str y t)
    (h : ∀ h' tk, SetIs prog w h' s.heap.objs.size (byText w) (addAll ys []) → (∀ b o, s.heap.get? b = some o → h'.get? b = some o) → Q (.ref s.heap.objs.size) { s with heap := h', toks := tk }) :
    wpAny (model prog w) A (call (.type "set") [.ref l]) Q E s := by
  obtain ⟨c, tl, hmro⟩ := F.called_set.mro
  have hmade := F.called_set.made
  have hsub := F.called_set.sub
  refine wpAny_call (codeAny_of_tree ?_)
  show wpAny _ _ (callAny (.type "set") _) _ _ _
  refine wpAny_pure ⟨Code.quiet_builtin _ (by decide +kernel), codeAny_builtin F.entry_type_call ?_⟩
  rw [Around.under_plain (weight_type_call_type "set" [.ref l] []) rfl]
  have h1 := F.called_set.notType
  have h2 := F.called_set.canCreate
  have hct := typeCall_set_1 (.ref l)
  repeat (any_goals (first | assumption | wp_step))
  refine codeAny_mono (code_set_new1 (E := E) (.ref l) (Q₁ := fun obj s₁ => obj = .ref s.heap.objs.size ∧ s₁ = { s with heap := s.heap.push { cls := .type "set", dict := none, data := .set #[] 0 (.fresh 0 0 (!byText w)) } }) ⟨rfl, rfl⟩) fun r s₁ hr => ?_
  cases r with
  | error e => exact hr
  | ok fl =>
    cases fl with
    | ret obj =>
      obtain ⟨rfl, rfl⟩ := hr
      have hS : (s.heap.push { cls := .type "set", dict := none, data := .set #[] 0 (.fresh 0 0 (!byText w)) }).get? s.heap.objs.size = some { cls := .type "set", dict := none, data := .set #[] 0 (.fresh 0 0 (!byText w)) } := Heap.get?_push_size _ rfl
      have hT : Shared.TypeIs { s with heap := s.heap.push { cls := .type "set", dict := none, data := .set #[] 0 (.fresh 0 0 (!byText w)) } } (.ref s.heap.objs.size) "set" := ⟨_, hS, rfl⟩
      have hli := F.called_set.init.lookup
      have hbi := F.called_set.init.bind (.ref s.heap.objs.size)
      repeat (any_goals (first | assumption | wp_step))
      refine codeAny_mono (codeAny_call_builtin (R := wants (fun r s₂ => r = .none ∧ Q (.ref s.heap.objs.size) s₂) E) F.called_set.init.plain F.entry_set_init (check_set_init1 hT ?_)) fun r₂ s₂ hr₂ => ?_
      · exact set_init (s := { s with heap := s.heap.push { cls := .type "set", dict := none, data := .set #[] 0 (.fresh 0 0 (!byText w)) } }) hA (Heap.get?_push_of_some _ hl) (Nat.ne_of_gt (Heap.lt_size hl)) hS ys hlen hz hit fun h' tk hd hk => ⟨rfl, h h' tk hd fun b o e => hk b o (Nat.ne_of_lt (Heap.lt_size e)) (Heap.get?_push_of_some _ e)⟩
      · cases r₂ with
        | error e => exact hr₂
        | ok fl₂ =>
          cases fl₂ with
          | ret r =>
            obtain ⟨rfl, hq⟩ := hr₂
            repeat (any_goals (first | assumption | wp_step))
          | _ => exact hr₂.elim
    | _ => exact hr.elim
end
end Mine
end
section
open PySem PySem.W PyProof.Rows
set_option maxRecDepth 100000
set_option maxHeartbeats 0
namespace Mine
open_top hdA for PySem.Challenge.rw_xm0046_01
end Mine
end
section
open PySem PySem.W PySem.Calls PyProof.Rows
set_option Elab.async false
set_option maxRecDepth 100000
set_option linter.unusedVariables false
namespace Mine
def fdOf (o : Obj) : FuncData := match o.data with | .func fd => fd | _ => default
def bodyOf (o : Obj) : List Stmt := match (fdOf o).body with | .stmts b => b | _ => []
def ob (K : Frag) (a : Nat) : Obj := (K.lookup a).getD default
abbrev ref (a : Nat) : V := .raw (.ref a)
abbrev bi (x : String) : V := .raw (.builtin x)
abbrev ty (x : String) : V := .raw (.type x)
abbrev gn (x : String) (v : V) : Str × V := (Str.ofString x, v)
def GL : List (Str × V) := [(gn "_law_drawn_next" <| (ref 727)), (gn "_law_leaf" <| (ref 734)), (gn "_law_two" <| (ref 741)), (gn "_law_let" <| (ref 748)), (gn "_law_test" <| (ref 755)), (gn "_law_statement" <| (ref 762)), (gn "_law_put_in" <| (ref 769)), (gn "_law_ahead" <| (ref 776)), (gn "_law_value" <| (ref 781)), (gn "_law_done" <| (ref 788)), (gn "kind_of" <| (ref 44)), (gn "fits" <| (ref 79)), (gn "whole_of" <| (ref 86)), (gn "is_nought" <| (ref 107)), (gn "is_true" <| (ref 114)), (gn "truth" <| (ref 121)), (gn "is_whole" <| (ref 206)), (gn "settled" <| (ref 213)), (gn "whole_reckoned" <| (ref 220)), (gn "reckoned" <| (ref 262)), (gn "order_of" <| (ref 276)), (gn "inverted" <| (ref 283)), (gn "logic" <| (ref 290)), (gn "put_row_of" <| (ref 434)), (gn "put_if" <| (ref 441)), (gn "put_all" <| (ref 448)), (gn "gather" <| (ref 455)), (gn "flatten" <| (ref 476)), (gn "do_flow" <| (ref 512)), (gn "do_jump" <| (ref 519)), (gn "parts_of_tree" <| (ref 666)), (gn "compared" <| (ref 682)), (gn "worth_of_two" <| (ref 694)), (gn "worth_of_one" <| (ref 701)), (gn "worth_of_leaf" <| (ref 708)), (gn "worth_of_tree" <| (ref 715)), (gn "worth" <| (ref 720)), (gn "Control" <| (ref 307)), (gn "Flat" <| (ref 423)), (gn "FlowRun" <| (ref 599)), (gn "PlainHooks" <| (ref 655)), (gn "LOGIC" <| (.tup ((["AND", "OR", "XOR", "EQV", "IMP"] : List Str).map .str))), (gn "COMPARISONS" <| (.tup ((["=", "<>", "<", ">", "<=", ">="] : List Str).map .str))), (gn "JUMPS" <| (.tup ((["IFNOT", "JUMP", "GOTO", "GOSUB", "ONGO", "RETURN"] : List Str).map .str))), (gn "len" <| (bi "len")), (gn "abs" <| (bi "abs")), (gn "isinstance" <| (bi "isinstance")), (gn "str" <| (ty "str")), (gn "tuple" <| (ty "tuple")), (gn "dict" <| (ty "dict")), (gn "range" <| (ty "range")), (gn "enumerate" <| (ty "enumerate")), (gn "reversed" <| (ty "reversed"))]

theorem fnAt_of {c : Cx} {a : Addr} {fd : FuncData} {ps : List Str} {body : List Stmt} (X : c.K.In c.hb) (h1 : (c.K.lookup a).map (·.data) = some (.func fd)) (h2 : codeIn c.K fd.code fd.qualname = true) (h3 : fd.body = .stmts body) (h4 : fd.closure = []) (h5 : fd.globals = mainGlobals) (h6 : fd.builtins = builtinsNs)
    (h7 : ∀ x ∈ ps, fd.scope.names.lookup x = some .local ∨ fd.scope.names.lookup x = some .cell) (h8 : ∀ vals : List Value, vals.length = ps.length → bindArgs fd ⟨vals, []⟩ = pure (ps.zip vals)) (h9 : fd.scope.isCoroutine = false) (h10 : fd.scope.isGenerator = false) (h11 : fd.scope.kind = .function) : FnAt c a fd ps body := by
  cases h : c.K.lookup a with
  | none => rw [h] at h1; cases h1
  | some o =>
    rw [h] at h1
    exact ⟨⟨o, X _ _ h, Option.some.inj h1⟩, codeRec_of X h2, h3, h4, h5, h6, h7, h8, h9, h10, h11⟩

def kindsB (fd : FuncData) (ps : List Str) : Bool := ps.all fun x => fd.scope.names.lookup x == some .local || fd.scope.names.lookup x == some .cell
theorem kinds_of {fd : FuncData} {ps : List Str} (h : kindsB fd ps = true) : ∀ x ∈ ps, fd.scope.names.lookup x = some .local ∨ fd.scope.names.lookup x = some .cell := fun x hx => by
  have := List.all_eq_true.mp h x hx
  rcases Bool.or_eq_true_iff.mp this with e | e
  · exact .inl (beq_iff_eq.mp e)
  · exact .inr (beq_iff_eq.mp e)

section
variable {w : World} {hb : Heap} {g : Array GenState} {os : OsState} {low : ∃ o, hb.get? 2 = some o}
noncomputable abbrev mkC (w : World) (hb : Heap) (g : Array GenState) (os : OsState) (low : ∃ o, hb.get? 2 = some o) : Cx := { prog := PySem.Challenge.rw_xm0046_01.row.prog, w, hb, K := hdA.heap_39 w.params, gl := GL, gens := g, os, low }

theorem gl_0 : get (mkC w hb g os low).gl (Str.ofString "_law_drawn_next") = some ((ref 727)) := by kernel_rfl
theorem gl_1 : get (mkC w hb g os low).gl (Str.ofString "_law_leaf") = some ((ref 734)) := by kernel_rfl
theorem gl_2 : get (mkC w hb g os low).gl (Str.ofString "_law_two") = some ((ref 741)) := by kernel_rfl
theorem gl_3 : get (mkC w hb g os low).gl (Str.ofString "_law_let") = some ((ref 748)) := by kernel_rfl
theorem gl_4 : get (mkC w hb g os low).gl (Str.ofString "_law_test") = some ((ref 755)) := by kernel_rfl
theorem gl_5 : get (mkC w hb g os low).gl (Str.ofString "_law_statement") = some ((ref 762)) := by kernel_rfl
theorem gl_6 : get (mkC w hb g os low).gl (Str.ofString "_law_put_in") = some ((ref 769)) := by kernel_rfl
theorem gl_7 : get (mkC w hb g os low).gl (Str.ofString "_law_ahead") = some ((ref 776)) := by kernel_rfl
theorem gl_8 : get (mkC w hb g os low).gl (Str.ofString "_law_value") = some ((ref 781)) := by kernel_rfl
theorem gl_9 : get (mkC w hb g os low).gl (Str.ofString "_law_done") = some ((ref 788)) := by kernel_rfl
theorem gl_10 : get (mkC w hb g os low).gl (Str.ofString "kind_of") = some ((ref 44)) := by kernel_rfl
theorem gl_11 : get (mkC w hb g os low).gl (Str.ofString "fits") = some ((ref 79)) := by kernel_rfl
theorem gl_12 : get (mkC w hb g os low).gl (Str.ofString "whole_of") = some ((ref 86)) := by kernel_rfl
theorem gl_13 : get (mkC w hb g os low).gl (Str.ofString "is_nought") = some ((ref 107)) := by kernel_rfl
theorem gl_14 : get (mkC w hb g os low).gl (Str.ofString "is_true") = some ((ref 114)) := by kernel_rfl
theorem gl_15 : get (mkC w hb g os low).gl (Str.ofString "truth") = some ((ref 121)) := by kernel_rfl
theorem gl_16 : get (mkC w hb g os low).gl (Str.ofString "is_whole") = some ((ref 206)) := by kernel_rfl
theorem gl_17 : get (mkC w hb g os low).gl (Str.ofString "settled") = some ((ref 213)) := by kernel_rfl
theorem gl_18 : get (mkC w hb g os low).gl (Str.ofString "whole_reckoned") = some ((ref 220)) := by kernel_rfl
theorem gl_19 : get (mkC w hb g os low).gl (Str.ofString "reckoned") = some ((ref 262)) := by kernel_rfl
theorem gl_20 : get (mkC w hb g os low).gl (Str.ofString "order_of") = some ((ref 276)) := by kernel_rfl
theorem gl_21 : get (mkC w hb g os low).gl (Str.ofString "inverted") = some ((ref 283)) := by kernel_rfl
theorem gl_22 : get (mkC w hb g os low).gl (Str.ofString "logic") = some ((ref 290)) := by kernel_rfl
theorem gl_23 : get (mkC w hb g os low).gl (Str.ofString "put_row_of") = some ((ref 434)) := by kernel_rfl
theorem gl_24 : get (mkC w hb g os low).gl (Str.ofString "put_if") = some ((ref 441)) := by kernel_rfl
theorem gl_25 : get (mkC w hb g os low).gl (Str.ofString "put_all") = some ((ref 448)) := by kernel_rfl
theorem gl_26 : get (mkC w hb g os low).gl (Str.ofString "gather") = some ((ref 455)) := by kernel_rfl
theorem gl_27 : get (mkC w hb g os low).gl (Str.ofString "flatten") = some ((ref 476)) := by kernel_rfl
theorem gl_28 : get (mkC w hb g os low).gl (Str.ofString "do_flow") = some ((ref 512)) := by kernel_rfl
theorem gl_29 : get (mkC w hb g os low).gl (Str.ofString "do_jump") = some ((ref 519)) := by kernel_rfl
theorem gl_30 : get (mkC w hb g os low).gl (Str.ofString "parts_of_tree") = some ((ref 666)) := by kernel_rfl
theorem gl_31 : get (mkC w hb g os low).gl (Str.ofString "compared") = some ((ref 682)) := by kernel_rfl
theorem gl_32 : get (mkC w hb g os low).gl (Str.ofString "worth_of_two") = some ((ref 694)) := by kernel_rfl
theorem gl_33 : get (mkC w hb g os low).gl (Str.ofString "worth_of_one") = some ((ref 701)) := by kernel_rfl
theorem gl_34 : get (mkC w hb g os low).gl (Str.ofString "worth_of_leaf") = some ((ref 708)) := by kernel_rfl
theorem gl_35 : get (mkC w hb g os low).gl (Str.ofString "worth_of_tree") = some ((ref 715)) := by kernel_rfl
theorem gl_36 : get (mkC w hb g os low).gl (Str.ofString "worth") = some ((ref 720)) := by kernel_rfl
theorem gl_37 : get (mkC w hb g os low).gl (Str.ofString "Control") = some ((ref 307)) := by kernel_rfl
theorem gl_38 : get (mkC w hb g os low).gl (Str.ofString "Flat") = some ((ref 423)) := by kernel_rfl
theorem gl_39 : get (mkC w hb g os low).gl (Str.ofString "FlowRun") = some ((ref 599)) := by kernel_rfl
theorem gl_40 : get (mkC w hb g os low).gl (Str.ofString "PlainHooks") = some ((ref 655)) := by kernel_rfl
theorem gl_41 : get (mkC w hb g os low).gl (Str.ofString "LOGIC") = some ((.tup ((["AND", "OR", "XOR", "EQV", "IMP"] : List Str).map .str))) := by kernel_rfl
theorem gl_42 : get (mkC w hb g os low).gl (Str.ofString "COMPARISONS") = some ((.tup ((["=", "<>", "<", ">", "<=", ">="] : List Str).map .str))) := by kernel_rfl
theorem gl_43 : get (mkC w hb g os low).gl (Str.ofString "JUMPS") = some ((.tup ((["IFNOT", "JUMP", "GOTO", "GOSUB", "ONGO", "RETURN"] : List Str).map .str))) := by kernel_rfl
theorem gl_44 : get (mkC w hb g os low).gl (Str.ofString "len") = some ((bi "len")) := by kernel_rfl
theorem gl_45 : get (mkC w hb g os low).gl (Str.ofString "abs") = some ((bi "abs")) := by kernel_rfl
theorem gl_46 : get (mkC w hb g os low).gl (Str.ofString "isinstance") = some ((bi "isinstance")) := by kernel_rfl
theorem gl_47 : get (mkC w hb g os low).gl (Str.ofString "str") = some ((ty "str")) := by kernel_rfl
theorem gl_48 : get (mkC w hb g os low).gl (Str.ofString "tuple") = some ((ty "tuple")) := by kernel_rfl
theorem gl_49 : get (mkC w hb g os low).gl (Str.ofString "dict") = some ((ty "dict")) := by kernel_rfl
theorem gl_50 : get (mkC w hb g os low).gl (Str.ofString "range") = some ((ty "range")) := by kernel_rfl
theorem gl_51 : get (mkC w hb g os low).gl (Str.ofString "enumerate") = some ((ty "enumerate")) := by kernel_rfl
theorem gl_52 : get (mkC w hb g os low).gl (Str.ofString "reversed") = some ((ty "reversed")) := by kernel_rfl
theorem set_hit {σ : St} {n : Nat} {o o' : SO} (h : σ[n]? = some o) : (σ.set n o')[n]? = some o' := List.getElem?_set_self (List.getElem?_eq_some_iff.mp h).1
theorem set_miss {σ : St} {n m : Nat} {o o' : SO} (hn : n ≠ m) (h : σ[m]? = some o) : (σ.set n o')[m]? = some o := by rw [List.getElem?_set_ne hn]; exact h
theorem app_l {σ t : St} {n : Nat} {o : SO} (h : σ[n]? = some o) : (σ ++ t)[n]? = some o := by rw [List.getElem?_append_left (List.getElem?_eq_some_iff.mp h).1]; exact h
theorem app_0 {σ t : St} {o : SO} : (σ ++ o :: t)[σ.length]? = some o := by simp
theorem app_1 {σ t : St} {o o' : SO} : (σ ++ o :: o' :: t)[σ.length + 1]? = some o' := by simp

theorem goOn_next {c : Cx} {sc : Sc} {d : Nat} {rest : List Stmt} {R : Fl → Vars → St → Prop} {ρ : Vars} {σ : St} (h : EXs c sc d rest ρ σ R) : goOn c sc d rest R .next ρ σ := h
theorem goOn_ret {c : Cx} {sc : Sc} {d : Nat} {rest : List Stmt} {R : Fl → Vars → St → Prop} {v : V} {ρ : Vars} {σ : St} (h : R (.ret v) ρ σ) : goOn c sc d rest R (.ret v) ρ σ := h
theorem CALL_app {c : Cx} {d : Nat} {f a : V} {vs : List V} {σ : St} {Q : Post} (h : CALL c d f (a :: vs) σ Q) : CALL c d f ([a] ++ vs) σ Q := h
theorem len_and {l : List V} {p : Prop} (h1 : l.length ≤ 1000) (h2 : p) : l.length ≤ 1000 ∧ p := ⟨h1, h2⟩
theorem iteT {p : Prop} {a b : Prop} [Decidable p] (hp : p) (h : a) : if decide p = true then a else b := by rw [if_pos (decide_eq_true hp)]; exact h
theorem iteF {p : Prop} {a b : Prop} [Decidable p] (hp : ¬ p) (h : b) : if decide p = true then a else b := by rw [if_neg (by simpa using hp)]; exact h
theorem iteNT {p : Prop} {a b : Prop} [Decidable p] (hp : ¬ p) (h : a) : if (!decide p) = true then a else b := by rw [if_pos (by simp [hp])]; exact h
theorem iteNF {p : Prop} {a b : Prop} [Decidable p] (hp : p) (h : b) : if (!decide p) = true then a else b := by rw [if_neg (by simp [hp])]; exact h
theorem iteBT {a b : Prop} (h : a) : if true = true then a else b := by rw [if_pos rfl]; exact h
theorem iteBF {a b : Prop} (h : b) : if false = true then a else b := by rw [if_neg (by decide)]; exact h
theorem app_k {σ t : St} {k : Nat} {o : SO} (h : t[k]? = some o) : (σ ++ t)[σ.length + k]? = some o := by rw [List.getElem?_append_right (by omega)]; simpa using h
theorem set_app0 {σ t : St} {o : SO} : (σ ++ t).set σ.length o = σ ++ t.set 0 o := by rw [List.set_append_right _ _ (Nat.le_refl _)]; simp
theorem set_appk {σ t : St} {k : Nat} {o : SO} : (σ ++ t).set (σ.length + k) o = σ ++ t.set k o := by rw [List.set_append_right _ _ (by omega)]; simp
-- _law_drawn_next
theorem fn_727 (X : (hdA.heap_39 w.params).In hb) : FnAt (mkC w hb g os low) 727 (fdOf (ob (hdA.heap_39 w.params) 727)) ["bag", "below"] (bodyOf (ob (hdA.heap_39 w.params) 727)) :=
  fnAt_of X (by kernel_rfl) (by kernel_rfl) (by kernel_rfl) (by kernel_rfl) (by kernel_rfl) (by kernel_rfl) (kinds_of (by kernel_rfl)) (fun vals h => match vals, h with | [v0, v1], _ => by kernel_rfl) (by kernel_rfl) (by kernel_rfl) (by kernel_rfl)
-- _law_leaf
theorem fn_734 (X : (hdA.heap_39 w.params).In hb) : FnAt (mkC w hb g os low) 734 (fdOf (ob (hdA.heap_39 w.params) 734)) ["bag"] (bodyOf (ob (hdA.heap_39 w.params) 734)) :=
  fnAt_of X (by kernel_rfl) (by kernel_rfl) (by kernel_rfl) (by kernel_rfl) (by kernel_rfl) (by kernel_rfl) (kinds_of (by kernel_rfl)) (fun vals h => match vals, h with | [v0], _ => by kernel_rfl) (by kernel_rfl) (by kernel_rfl) (by kernel_rfl)
-- _law_two
theorem fn_741 (X : (hdA.heap_39 w.params).In hb) : FnAt (mkC w hb g os low) 741 (fdOf (ob (hdA.heap_39 w.params) 741)) ["bag", "signs"] (bodyOf (ob (hdA.heap_39 w.params) 741)) :=
  fnAt_of X (by kernel_rfl) (by kernel_rfl) (by kernel_rfl) (by kernel_rfl) (by kernel_rfl) (by kernel_rfl) (kinds_of (by kernel_rfl)) (fun vals h => match vals, h with | [v0, v1], _ => by kernel_rfl) (by kernel_rfl) (by kernel_rfl) (by kernel_rfl)
-- _law_let
theorem fn_748 (X : (hdA.heap_39 w.params).In hb) : FnAt (mkC w hb g os low) 748 (fdOf (ob (hdA.heap_39 w.params) 748)) ["bag"] (bodyOf (ob (hdA.heap_39 w.params) 748)) :=
  fnAt_of X (by kernel_rfl) (by kernel_rfl) (by kernel_rfl) (by kernel_rfl) (by kernel_rfl) (by kernel_rfl) (kinds_of (by kernel_rfl)) (fun vals h => match vals, h with | [v0], _ => by kernel_rfl) (by kernel_rfl) (by kernel_rfl) (by kernel_rfl)
-- _law_test
theorem fn_755 (X : (hdA.heap_39 w.params).In hb) : FnAt (mkC w hb g os low) 755 (fdOf (ob (hdA.heap_39 w.params) 755)) ["bag"] (bodyOf (ob (hdA.heap_39 w.params) 755)) :=
  fnAt_of X (by kernel_rfl) (by kernel_rfl) (by kernel_rfl) (by kernel_rfl) (by kernel_rfl) (by kernel_rfl) (kinds_of (by kernel_rfl)) (fun vals h => match vals, h with | [v0], _ => by kernel_rfl) (by kernel_rfl) (by kernel_rfl) (by kernel_rfl)
-- _law_statement
theorem fn_762 (X : (hdA.heap_39 w.params).In hb) : FnAt (mkC w hb g os low) 762 (fdOf (ob (hdA.heap_39 w.params) 762)) ["bag"] (bodyOf (ob (hdA.heap_39 w.params) 762)) :=
  fnAt_of X (by kernel_rfl) (by kernel_rfl) (by kernel_rfl) (by kernel_rfl) (by kernel_rfl) (by kernel_rfl) (kinds_of (by kernel_rfl)) (fun vals h => match vals, h with | [v0], _ => by kernel_rfl) (by kernel_rfl) (by kernel_rfl) (by kernel_rfl)
-- _law_put_in
theorem fn_769 (X : (hdA.heap_39 w.params).In hb) : FnAt (mkC w hb g os low) 769 (fdOf (ob (hdA.heap_39 w.params) 769)) ["tree", "name", "new"] (bodyOf (ob (hdA.heap_39 w.params) 769)) :=
  fnAt_of X (by kernel_rfl) (by kernel_rfl) (by kernel_rfl) (by kernel_rfl) (by kernel_rfl) (by kernel_rfl) (kinds_of (by kernel_rfl)) (fun vals h => match vals, h with | [v0, v1, v2], _ => by kernel_rfl) (by kernel_rfl) (by kernel_rfl) (by kernel_rfl)
-- _law_ahead
theorem fn_776 (X : (hdA.heap_39 w.params).In hb) : FnAt (mkC w hb g os low) 776 (fdOf (ob (hdA.heap_39 w.params) 776)) ["statement", "due"] (bodyOf (ob (hdA.heap_39 w.params) 776)) :=
  fnAt_of X (by kernel_rfl) (by kernel_rfl) (by kernel_rfl) (by kernel_rfl) (by kernel_rfl) (by kernel_rfl) (kinds_of (by kernel_rfl)) (fun vals h => match vals, h with | [v0, v1], _ => by kernel_rfl) (by kernel_rfl) (by kernel_rfl) (by kernel_rfl)
-- _law_value
theorem fn_781 (X : (hdA.heap_39 w.params).In hb) : FnAt (mkC w hb g os low) 781 (fdOf (ob (hdA.heap_39 w.params) 781)) ["tree", "values"] (bodyOf (ob (hdA.heap_39 w.params) 781)) :=
  fnAt_of X (by kernel_rfl) (by kernel_rfl) (by kernel_rfl) (by kernel_rfl) (by kernel_rfl) (by kernel_rfl) (kinds_of (by kernel_rfl)) (fun vals h => match vals, h with | [v0, v1], _ => by kernel_rfl) (by kernel_rfl) (by kernel_rfl) (by kernel_rfl)
-- _law_done
theorem fn_788 (X : (hdA.heap_39 w.params).In hb) : FnAt (mkC w hb g os low) 788 (fdOf (ob (hdA.heap_39 w.params) 788)) ["statement", "values"] (bodyOf (ob (hdA.heap_39 w.params) 788)) :=
  fnAt_of X (by kernel_rfl) (by kernel_rfl) (by kernel_rfl) (by kernel_rfl) (by kernel_rfl) (by kernel_rfl) (kinds_of (by kernel_rfl)) (fun vals h => match vals, h with | [v0, v1], _ => by kernel_rfl) (by kernel_rfl) (by kernel_rfl) (by kernel_rfl)
-- kind_of
theorem fn_44 (X : (hdA.heap_39 w.params).In hb) : FnAt (mkC w hb g os low) 44 (fdOf (ob (hdA.heap_39 w.params) 44)) ["value"] (bodyOf (ob (hdA.heap_39 w.params) 44)) :=
  fnAt_of X (by kernel_rfl) (by kernel_rfl) (by kernel_rfl) (by kernel_rfl) (by kernel_rfl) (by kernel_rfl) (kinds_of (by kernel_rfl)) (fun vals h => match vals, h with | [v0], _ => by kernel_rfl) (by kernel_rfl) (by kernel_rfl) (by kernel_rfl)
-- fits
theorem fn_79 (X : (hdA.heap_39 w.params).In hb) : FnAt (mkC w hb g os low) 79 (fdOf (ob (hdA.heap_39 w.params) 79)) ["number", "bits"] (bodyOf (ob (hdA.heap_39 w.params) 79)) :=
  fnAt_of X (by kernel_rfl) (by kernel_rfl) (by kernel_rfl) (by kernel_rfl) (by kernel_rfl) (by kernel_rfl) (kinds_of (by kernel_rfl)) (fun vals h => match vals, h with | [v0, v1], _ => by kernel_rfl) (by kernel_rfl) (by kernel_rfl) (by kernel_rfl)
-- whole_of
theorem fn_86 (X : (hdA.heap_39 w.params).In hb) : FnAt (mkC w hb g os low) 86 (fdOf (ob (hdA.heap_39 w.params) 86)) ["value", "bits"] (bodyOf (ob (hdA.heap_39 w.params) 86)) :=
  fnAt_of X (by kernel_rfl) (by kernel_rfl) (by kernel_rfl) (by kernel_rfl) (by kernel_rfl) (by kernel_rfl) (kinds_of (by kernel_rfl)) (fun vals h => match vals, h with | [v0, v1], _ => by kernel_rfl) (by kernel_rfl) (by kernel_rfl) (by kernel_rfl)
-- is_nought
theorem fn_107 (X : (hdA.heap_39 w.params).In hb) : FnAt (mkC w hb g os low) 107 (fdOf (ob (hdA.heap_39 w.params) 107)) ["value"] (bodyOf (ob (hdA.heap_39 w.params) 107)) :=
  fnAt_of X (by kernel_rfl) (by kernel_rfl) (by kernel_rfl) (by kernel_rfl) (by kernel_rfl) (by kernel_rfl) (kinds_of (by kernel_rfl)) (fun vals h => match vals, h with | [v0], _ => by kernel_rfl) (by kernel_rfl) (by kernel_rfl) (by kernel_rfl)
-- is_true
theorem fn_114 (X : (hdA.heap_39 w.params).In hb) : FnAt (mkC w hb g os low) 114 (fdOf (ob (hdA.heap_39 w.params) 114)) ["value"] (bodyOf (ob (hdA.heap_39 w.params) 114)) :=
  fnAt_of X (by kernel_rfl) (by kernel_rfl) (by kernel_rfl) (by kernel_rfl) (by kernel_rfl) (by kernel_rfl) (kinds_of (by kernel_rfl)) (fun vals h => match vals, h with | [v0], _ => by kernel_rfl) (by kernel_rfl) (by kernel_rfl) (by kernel_rfl)
-- truth
theorem fn_121 (X : (hdA.heap_39 w.params).In hb) : FnAt (mkC w hb g os low) 121 (fdOf (ob (hdA.heap_39 w.params) 121)) ["is_so"] (bodyOf (ob (hdA.heap_39 w.params) 121)) :=
  fnAt_of X (by kernel_rfl) (by kernel_rfl) (by kernel_rfl) (by kernel_rfl) (by kernel_rfl) (by kernel_rfl) (kinds_of (by kernel_rfl)) (fun vals h => match vals, h with | [v0], _ => by kernel_rfl) (by kernel_rfl) (by kernel_rfl) (by kernel_rfl)
-- is_whole
theorem fn_206 (X : (hdA.heap_39 w.params).In hb) : FnAt (mkC w hb g os low) 206 (fdOf (ob (hdA.heap_39 w.params) 206)) ["value"] (bodyOf (ob (hdA.heap_39 w.params) 206)) :=
  fnAt_of X (by kernel_rfl) (by kernel_rfl) (by kernel_rfl) (by kernel_rfl) (by kernel_rfl) (by kernel_rfl) (kinds_of (by kernel_rfl)) (fun vals h => match vals, h with | [v0], _ => by kernel_rfl) (by kernel_rfl) (by kernel_rfl) (by kernel_rfl)
-- settled
theorem fn_213 (X : (hdA.heap_39 w.params).In hb) : FnAt (mkC w hb g os low) 213 (fdOf (ob (hdA.heap_39 w.params) 213)) ["number", "bits", "digits"] (bodyOf (ob (hdA.heap_39 w.params) 213)) :=
  fnAt_of X (by kernel_rfl) (by kernel_rfl) (by kernel_rfl) (by kernel_rfl) (by kernel_rfl) (by kernel_rfl) (kinds_of (by kernel_rfl)) (fun vals h => match vals, h with | [v0, v1, v2], _ => by kernel_rfl) (by kernel_rfl) (by kernel_rfl) (by kernel_rfl)
-- whole_reckoned
theorem fn_220 (X : (hdA.heap_39 w.params).In hb) : FnAt (mkC w hb g os low) 220 (fdOf (ob (hdA.heap_39 w.params) 220)) ["op", "a", "b", "bits", "digits"] (bodyOf (ob (hdA.heap_39 w.params) 220)) :=
  fnAt_of X (by kernel_rfl) (by kernel_rfl) (by kernel_rfl) (by kernel_rfl) (by kernel_rfl) (by kernel_rfl) (kinds_of (by kernel_rfl)) (fun vals h => match vals, h with | [v0, v1, v2, v3, v4], _ => by kernel_rfl) (by kernel_rfl) (by kernel_rfl) (by kernel_rfl)
-- reckoned
theorem fn_262 (X : (hdA.heap_39 w.params).In hb) : FnAt (mkC w hb g os low) 262 (fdOf (ob (hdA.heap_39 w.params) 262)) ["op", "a", "b", "bits", "digits"] (bodyOf (ob (hdA.heap_39 w.params) 262)) :=
  fnAt_of X (by kernel_rfl) (by kernel_rfl) (by kernel_rfl) (by kernel_rfl) (by kernel_rfl) (by kernel_rfl) (kinds_of (by kernel_rfl)) (fun vals h => match vals, h with | [v0, v1, v2, v3, v4], _ => by kernel_rfl) (by kernel_rfl) (by kernel_rfl) (by kernel_rfl)
-- order_of
theorem fn_276 (X : (hdA.heap_39 w.params).In hb) : FnAt (mkC w hb g os low) 276 (fdOf (ob (hdA.heap_39 w.params) 276)) ["a", "b"] (bodyOf (ob (hdA.heap_39 w.params) 276)) :=
  fnAt_of X (by kernel_rfl) (by kernel_rfl) (by kernel_rfl) (by kernel_rfl) (by kernel_rfl) (by kernel_rfl) (kinds_of (by kernel_rfl)) (fun vals h => match vals, h with | [v0, v1], _ => by kernel_rfl) (by kernel_rfl) (by kernel_rfl) (by kernel_rfl)
-- inverted
theorem fn_283 (X : (hdA.heap_39 w.params).In hb) : FnAt (mkC w hb g os low) 283 (fdOf (ob (hdA.heap_39 w.params) 283)) ["a", "bits"] (bodyOf (ob (hdA.heap_39 w.params) 283)) :=
  fnAt_of X (by kernel_rfl) (by kernel_rfl) (by kernel_rfl) (by kernel_rfl) (by kernel_rfl) (by kernel_rfl) (kinds_of (by kernel_rfl)) (fun vals h => match vals, h with | [v0, v1], _ => by kernel_rfl) (by kernel_rfl) (by kernel_rfl) (by kernel_rfl)
-- logic
theorem fn_290 (X : (hdA.heap_39 w.params).In hb) : FnAt (mkC w hb g os low) 290 (fdOf (ob (hdA.heap_39 w.params) 290)) ["op", "a", "b", "bits"] (bodyOf (ob (hdA.heap_39 w.params) 290)) :=
  fnAt_of X (by kernel_rfl) (by kernel_rfl) (by kernel_rfl) (by kernel_rfl) (by kernel_rfl) (by kernel_rfl) (kinds_of (by kernel_rfl)) (fun vals h => match vals, h with | [v0, v1, v2, v3], _ => by kernel_rfl) (by kernel_rfl) (by kernel_rfl) (by kernel_rfl)
-- put_row_of
theorem fn_434 (X : (hdA.heap_39 w.params).In hb) : FnAt (mkC w hb g os low) 434 (fdOf (ob (hdA.heap_39 w.params) 434)) ["flat", "line", "statement"] (bodyOf (ob (hdA.heap_39 w.params) 434)) :=
  fnAt_of X (by kernel_rfl) (by kernel_rfl) (by kernel_rfl) (by kernel_rfl) (by kernel_rfl) (by kernel_rfl) (kinds_of (by kernel_rfl)) (fun vals h => match vals, h with | [v0, v1, v2], _ => by kernel_rfl) (by kernel_rfl) (by kernel_rfl) (by kernel_rfl)
-- put_if
theorem fn_441 (X : (hdA.heap_39 w.params).In hb) : FnAt (mkC w hb g os low) 441 (fdOf (ob (hdA.heap_39 w.params) 441)) ["flat", "line", "statement"] (bodyOf (ob (hdA.heap_39 w.params) 441)) :=
  fnAt_of X (by kernel_rfl) (by kernel_rfl) (by kernel_rfl) (by kernel_rfl) (by kernel_rfl) (by kernel_rfl) (kinds_of (by kernel_rfl)) (fun vals h => match vals, h with | [v0, v1, v2], _ => by kernel_rfl) (by kernel_rfl) (by kernel_rfl) (by kernel_rfl)
-- put_all
theorem fn_448 (X : (hdA.heap_39 w.params).In hb) : FnAt (mkC w hb g os low) 448 (fdOf (ob (hdA.heap_39 w.params) 448)) ["flat", "line", "statements"] (bodyOf (ob (hdA.heap_39 w.params) 448)) :=
  fnAt_of X (by kernel_rfl) (by kernel_rfl) (by kernel_rfl) (by kernel_rfl) (by kernel_rfl) (by kernel_rfl) (kinds_of (by kernel_rfl)) (fun vals h => match vals, h with | [v0, v1, v2], _ => by kernel_rfl) (by kernel_rfl) (by kernel_rfl) (by kernel_rfl)
-- gather
theorem fn_455 (X : (hdA.heap_39 w.params).In hb) : FnAt (mkC w hb g os low) 455 (fdOf (ob (hdA.heap_39 w.params) 455)) ["flat"] (bodyOf (ob (hdA.heap_39 w.params) 455)) :=
  fnAt_of X (by kernel_rfl) (by kernel_rfl) (by kernel_rfl) (by kernel_rfl) (by kernel_rfl) (by kernel_rfl) (kinds_of (by kernel_rfl)) (fun vals h => match vals, h with | [v0], _ => by kernel_rfl) (by kernel_rfl) (by kernel_rfl) (by kernel_rfl)
-- flatten
theorem fn_476 (X : (hdA.heap_39 w.params).In hb) : FnAt (mkC w hb g os low) 476 (fdOf (ob (hdA.heap_39 w.params) 476)) ["parsed"] (bodyOf (ob (hdA.heap_39 w.params) 476)) :=
  fnAt_of X (by kernel_rfl) (by kernel_rfl) (by kernel_rfl) (by kernel_rfl) (by kernel_rfl) (by kernel_rfl) (kinds_of (by kernel_rfl)) (fun vals h => match vals, h with | [v0], _ => by kernel_rfl) (by kernel_rfl) (by kernel_rfl) (by kernel_rfl)
-- do_flow
theorem fn_512 (X : (hdA.heap_39 w.params).In hb) : FnAt (mkC w hb g os low) 512 (fdOf (ob (hdA.heap_39 w.params) 512)) ["run", "at", "statement"] (bodyOf (ob (hdA.heap_39 w.params) 512)) :=
  fnAt_of X (by kernel_rfl) (by kernel_rfl) (by kernel_rfl) (by kernel_rfl) (by kernel_rfl) (by kernel_rfl) (kinds_of (by kernel_rfl)) (fun vals h => match vals, h with | [v0, v1, v2], _ => by kernel_rfl) (by kernel_rfl) (by kernel_rfl) (by kernel_rfl)
-- do_jump
theorem fn_519 (X : (hdA.heap_39 w.params).In hb) : FnAt (mkC w hb g os low) 519 (fdOf (ob (hdA.heap_39 w.params) 519)) ["run", "at", "statement"] (bodyOf (ob (hdA.heap_39 w.params) 519)) :=
  fnAt_of X (by kernel_rfl) (by kernel_rfl) (by kernel_rfl) (by kernel_rfl) (by kernel_rfl) (by kernel_rfl) (kinds_of (by kernel_rfl)) (fun vals h => match vals, h with | [v0, v1, v2], _ => by kernel_rfl) (by kernel_rfl) (by kernel_rfl) (by kernel_rfl)
-- parts_of_tree
theorem fn_666 (X : (hdA.heap_39 w.params).In hb) : FnAt (mkC w hb g os low) 666 (fdOf (ob (hdA.heap_39 w.params) 666)) ["tree"] (bodyOf (ob (hdA.heap_39 w.params) 666)) :=
  fnAt_of X (by kernel_rfl) (by kernel_rfl) (by kernel_rfl) (by kernel_rfl) (by kernel_rfl) (by kernel_rfl) (kinds_of (by kernel_rfl)) (fun vals h => match vals, h with | [v0], _ => by kernel_rfl) (by kernel_rfl) (by kernel_rfl) (by kernel_rfl)
-- compared
theorem fn_682 (X : (hdA.heap_39 w.params).In hb) : FnAt (mkC w hb g os low) 682 (fdOf (ob (hdA.heap_39 w.params) 682)) ["op", "order"] (bodyOf (ob (hdA.heap_39 w.params) 682)) :=
  fnAt_of X (by kernel_rfl) (by kernel_rfl) (by kernel_rfl) (by kernel_rfl) (by kernel_rfl) (by kernel_rfl) (kinds_of (by kernel_rfl)) (fun vals h => match vals, h with | [v0, v1], _ => by kernel_rfl) (by kernel_rfl) (by kernel_rfl) (by kernel_rfl)
-- worth_of_two
theorem fn_694 (X : (hdA.heap_39 w.params).In hb) : FnAt (mkC w hb g os low) 694 (fdOf (ob (hdA.heap_39 w.params) 694)) ["op", "one", "other", "bits", "digits"] (bodyOf (ob (hdA.heap_39 w.params) 694)) :=
  fnAt_of X (by kernel_rfl) (by kernel_rfl) (by kernel_rfl) (by kernel_rfl) (by kernel_rfl) (by kernel_rfl) (kinds_of (by kernel_rfl)) (fun vals h => match vals, h with | [v0, v1, v2, v3, v4], _ => by kernel_rfl) (by kernel_rfl) (by kernel_rfl) (by kernel_rfl)
-- worth_of_one
theorem fn_701 (X : (hdA.heap_39 w.params).In hb) : FnAt (mkC w hb g os low) 701 (fdOf (ob (hdA.heap_39 w.params) 701)) ["op", "value", "bits", "digits"] (bodyOf (ob (hdA.heap_39 w.params) 701)) :=
  fnAt_of X (by kernel_rfl) (by kernel_rfl) (by kernel_rfl) (by kernel_rfl) (by kernel_rfl) (by kernel_rfl) (kinds_of (by kernel_rfl)) (fun vals h => match vals, h with | [v0, v1, v2, v3], _ => by kernel_rfl) (by kernel_rfl) (by kernel_rfl) (by kernel_rfl)
-- worth_of_leaf
theorem fn_708 (X : (hdA.heap_39 w.params).In hb) : FnAt (mkC w hb g os low) 708 (fdOf (ob (hdA.heap_39 w.params) 708)) ["tree", "bits", "digits"] (bodyOf (ob (hdA.heap_39 w.params) 708)) :=
  fnAt_of X (by kernel_rfl) (by kernel_rfl) (by kernel_rfl) (by kernel_rfl) (by kernel_rfl) (by kernel_rfl) (kinds_of (by kernel_rfl)) (fun vals h => match vals, h with | [v0, v1, v2], _ => by kernel_rfl) (by kernel_rfl) (by kernel_rfl) (by kernel_rfl)
-- worth_of_tree
theorem fn_715 (X : (hdA.heap_39 w.params).In hb) : FnAt (mkC w hb g os low) 715 (fdOf (ob (hdA.heap_39 w.params) 715)) ["tree", "parts", "hooks"] (bodyOf (ob (hdA.heap_39 w.params) 715)) :=
  fnAt_of X (by kernel_rfl) (by kernel_rfl) (by kernel_rfl) (by kernel_rfl) (by kernel_rfl) (by kernel_rfl) (kinds_of (by kernel_rfl)) (fun vals h => match vals, h with | [v0, v1, v2], _ => by kernel_rfl) (by kernel_rfl) (by kernel_rfl) (by kernel_rfl)
-- worth
theorem fn_720 (X : (hdA.heap_39 w.params).In hb) : FnAt (mkC w hb g os low) 720 (fdOf (ob (hdA.heap_39 w.params) 720)) ["tree", "hooks"] (bodyOf (ob (hdA.heap_39 w.params) 720)) :=
  fnAt_of X (by kernel_rfl) (by kernel_rfl) (by kernel_rfl) (by kernel_rfl) (by kernel_rfl) (by kernel_rfl) (kinds_of (by kernel_rfl)) (fun vals h => match vals, h with | [v0, v1], _ => by kernel_rfl) (by kernel_rfl) (by kernel_rfl) (by kernel_rfl)
-- Control.__init__
theorem fn_304 (X : (hdA.heap_39 w.params).In hb) : FnAt (mkC w hb g os low) 304 (fdOf (ob (hdA.heap_39 w.params) 304)) ["self", "most"] (bodyOf (ob (hdA.heap_39 w.params) 304)) :=
  fnAt_of X (by kernel_rfl) (by kernel_rfl) (by kernel_rfl) (by kernel_rfl) (by kernel_rfl) (by kernel_rfl) (kinds_of (by kernel_rfl)) (fun vals h => match vals, h with | [v0, v1], _ => by kernel_rfl) (by kernel_rfl) (by kernel_rfl) (by kernel_rfl)
-- Flat.__init__
theorem fn_420 (X : (hdA.heap_39 w.params).In hb) : FnAt (mkC w hb g os low) 420 (fdOf (ob (hdA.heap_39 w.params) 420)) ["self"] (bodyOf (ob (hdA.heap_39 w.params) 420)) :=
  fnAt_of X (by kernel_rfl) (by kernel_rfl) (by kernel_rfl) (by kernel_rfl) (by kernel_rfl) (by kernel_rfl) (kinds_of (by kernel_rfl)) (fun vals h => match vals, h with | [v0], _ => by kernel_rfl) (by kernel_rfl) (by kernel_rfl) (by kernel_rfl)
-- FlowRun.__init__
theorem fn_554 (X : (hdA.heap_39 w.params).In hb) : FnAt (mkC w hb g os low) 554 (fdOf (ob (hdA.heap_39 w.params) 554)) ["self", "flat", "values", "worth_of", "bits", "digits"] (bodyOf (ob (hdA.heap_39 w.params) 554)) :=
  fnAt_of X (by kernel_rfl) (by kernel_rfl) (by kernel_rfl) (by kernel_rfl) (by kernel_rfl) (by kernel_rfl) (kinds_of (by kernel_rfl)) (fun vals h => match vals, h with | [v0, v1, v2, v3, v4, v5], _ => by kernel_rfl) (by kernel_rfl) (by kernel_rfl) (by kernel_rfl)
-- FlowRun.worth
theorem fn_561 (X : (hdA.heap_39 w.params).In hb) : FnAt (mkC w hb g os low) 561 (fdOf (ob (hdA.heap_39 w.params) 561)) ["self", "tree"] (bodyOf (ob (hdA.heap_39 w.params) 561)) :=
  fnAt_of X (by kernel_rfl) (by kernel_rfl) (by kernel_rfl) (by kernel_rfl) (by kernel_rfl) (by kernel_rfl) (kinds_of (by kernel_rfl)) (fun vals h => match vals, h with | [v0, v1], _ => by kernel_rfl) (by kernel_rfl) (by kernel_rfl) (by kernel_rfl)
-- FlowRun.value_of_name
theorem fn_575 (X : (hdA.heap_39 w.params).In hb) : FnAt (mkC w hb g os low) 575 (fdOf (ob (hdA.heap_39 w.params) 575)) ["self", "name"] (bodyOf (ob (hdA.heap_39 w.params) 575)) :=
  fnAt_of X (by kernel_rfl) (by kernel_rfl) (by kernel_rfl) (by kernel_rfl) (by kernel_rfl) (by kernel_rfl) (kinds_of (by kernel_rfl)) (fun vals h => match vals, h with | [v0, v1], _ => by kernel_rfl) (by kernel_rfl) (by kernel_rfl) (by kernel_rfl)
-- FlowRun.store
theorem fn_582 (X : (hdA.heap_39 w.params).In hb) : FnAt (mkC w hb g os low) 582 (fdOf (ob (hdA.heap_39 w.params) 582)) ["self", "name", "value"] (bodyOf (ob (hdA.heap_39 w.params) 582)) :=
  fnAt_of X (by kernel_rfl) (by kernel_rfl) (by kernel_rfl) (by kernel_rfl) (by kernel_rfl) (by kernel_rfl) (kinds_of (by kernel_rfl)) (fun vals h => match vals, h with | [v0, v1, v2], _ => by kernel_rfl) (by kernel_rfl) (by kernel_rfl) (by kernel_rfl)
-- FlowRun.go
theorem fn_596 (X : (hdA.heap_39 w.params).In hb) : FnAt (mkC w hb g os low) 596 (fdOf (ob (hdA.heap_39 w.params) 596)) ["self", "at", "most"] (bodyOf (ob (hdA.heap_39 w.params) 596)) :=
  fnAt_of X (by kernel_rfl) (by kernel_rfl) (by kernel_rfl) (by kernel_rfl) (by kernel_rfl) (by kernel_rfl) (kinds_of (by kernel_rfl)) (fun vals h => match vals, h with | [v0, v1, v2], _ => by kernel_rfl) (by kernel_rfl) (by kernel_rfl) (by kernel_rfl)
-- PlainHooks.__init__
theorem fn_617 (X : (hdA.heap_39 w.params).In hb) : FnAt (mkC w hb g os low) 617 (fdOf (ob (hdA.heap_39 w.params) 617)) ["self", "values", "bits", "digits"] (bodyOf (ob (hdA.heap_39 w.params) 617)) :=
  fnAt_of X (by kernel_rfl) (by kernel_rfl) (by kernel_rfl) (by kernel_rfl) (by kernel_rfl) (by kernel_rfl) (kinds_of (by kernel_rfl)) (fun vals h => match vals, h with | [v0, v1, v2, v3], _ => by kernel_rfl) (by kernel_rfl) (by kernel_rfl) (by kernel_rfl)
-- PlainHooks.value_of_name
theorem fn_624 (X : (hdA.heap_39 w.params).In hb) : FnAt (mkC w hb g os low) 624 (fdOf (ob (hdA.heap_39 w.params) 624)) ["self", "word"] (bodyOf (ob (hdA.heap_39 w.params) 624)) :=
  fnAt_of X (by kernel_rfl) (by kernel_rfl) (by kernel_rfl) (by kernel_rfl) (by kernel_rfl) (by kernel_rfl) (kinds_of (by kernel_rfl)) (fun vals h => match vals, h with | [v0, v1], _ => by kernel_rfl) (by kernel_rfl) (by kernel_rfl) (by kernel_rfl)

end
end Mine
end
section
open PySem PySem.W PySem.Calls PyProof.Rows
set_option maxRecDepth 100000
set_option maxHeartbeats 4000000
set_option linter.unusedVariables false
namespace Mine
section
variable {w : World} {hb : Heap} {g : Array GenState} {os : OsState} {low : ∃ o, hb.get? 2 = some o}
local macro_rules | `(tactic| kts_caughtN) => `(tactic| first | with_reducible exact gl_0 | with_reducible exact gl_1 | with_reducible exact gl_2 | with_reducible exact gl_3 | with_reducible exact gl_4 | with_reducible exact gl_5 | with_reducible exact gl_6 | with_reducible exact gl_7 | with_reducible exact gl_8 | with_reducible exact gl_9 | with_reducible exact gl_10 | with_reducible exact gl_11 | with_reducible exact gl_12 | with_reducible exact gl_13 | with_reducible exact gl_14 | with_reducible exact gl_15 | with_reducible exact gl_16 | with_reducible exact gl_17 | with_reducible exact gl_18 | with_reducible exact gl_19 | with_reducible exact gl_20 | with_reducible exact gl_21 | with_reducible exact gl_22 | with_reducible exact gl_23 | with_reducible exact gl_24 | with_reducible exact gl_25 | with_reducible exact gl_26 | with_reducible exact gl_27 | with_reducible exact gl_28 | with_reducible exact gl_29 | with_reducible exact gl_30 | with_reducible exact gl_31 | with_reducible exact gl_32 | with_reducible exact gl_33 | with_reducible exact gl_34 | with_reducible exact gl_35 | with_reducible exact gl_36 | with_reducible exact gl_37 | with_reducible exact gl_38 | with_reducible exact gl_39 | with_reducible exact gl_40 | with_reducible exact gl_41 | with_reducible exact gl_42 | with_reducible exact gl_43 | with_reducible exact gl_44 | with_reducible exact gl_45 | with_reducible exact gl_46 | with_reducible exact gl_47 | with_reducible exact gl_48 | with_reducible exact gl_49 | with_reducible exact gl_50 | with_reducible exact gl_51 | with_reducible exact gl_52 | rfl)
-- a place of the store
local macro_rules | `(tactic| tb_start) => `(tactic| first | with_reducible assumption | with_reducible exact app_0 | ((with_reducible refine app_k ?_); rfl) | ((with_reducible apply set_hit); tb_start) | ((with_reducible apply app_l); tb_start) | ((with_reducible apply set_miss); (first | with_reducible assumption | decide | omega); tb_start) | rfl)
-- one step
local macro_rules | `(tactic| tb_rel) => `(tactic| first
  | with_reducible refine' EXs_cons ?_
  | with_reducible refine' EXs_nil ?_
  | with_reducible refine' EX_Return ?_
  | with_reducible refine' EX_If ?_
  | (with_reducible refine' EX_Assign ?zh ?zk (hs := ?zs)); (case zk => first | exact .inl rfl | exact .inr rfl); (case zs => intro _; rfl)
  | (with_reducible refine' EX_AssignSub ?zh (hs := ?zs)); (case zs => intro _; rfl)
  | (with_reducible refine' EX_Expr ?zh (hs := ?zs)); (case zs => intro _; rfl)
  | with_reducible refine' EV_int ?_
  | with_reducible refine' EV_str ?_
  | with_reducible refine' EV_bool ?_
  | with_reducible refine' EV_none ?_
  | ((with_reducible refine' EV_glob (by with_reducible assumption) ?zk ?zv ?zh (hd := ?za)); (case zk => exact rfl); (case zv => kts_caughtN); (case za => kernel_rfl))
  | ((with_reducible refine' EV_name ?zk ?zh (hd := ?za) (hn := ?zb)); (case zk => first | with_reducible assumption | exact rfl | (simp only [binds, get_put]; rfl) | (simp (config := { decide := true }) only [binds, get_put, reduceIte]; with_reducible assumption)); (case za => kernel_rfl); (case zb => kernel_rfl))
  | with_reducible refine' EV_BinOp ?_
  | (with_reducible refine' EV_Compare1 ?zh (hm := ?zm)); (case zm => rfl)
  | with_reducible refine' EV_Tuple ?_
  | with_reducible refine' EV_IfExp ?_
  | ((with_reducible refine' EV_SliceL ?zh (hg := ?zg)); (case zg => intro _ _; rfl))
  | ((with_reducible refine' EV_SliceRev (p1 := default) (k := 0) ?zh (hg := ?zg)); (case zg => intro _ _; rfl))
  | (with_reducible refine' EV_Sub ?zh (hs := ?zs)); (case zs => exact fun _ _ => ⟨_, rfl⟩)
  | with_reducible refine' EV_neg ?_
  | with_reducible refine' EV_not ?_
  | (with_reducible refine' EV_Call ?zs ?zh); (case zs => rfl)
  | (with_reducible refine' EV_MCall ?zs ?zh (he := ?ze)); (case zs => rfl); (case ze => exact fun _ => ⟨_, rfl⟩)
  | (with_reducible refine' EV_Attr ?zh (he := ?ze)); (case ze => exact fun _ => rfl)
  | (with_reducible refine' EVs_cons ?zh (hs := ?zs)); (case zs => intro _; rfl)
  | with_reducible refine' EVs_nil ?_
  | with_reducible refine' ET_not ?_
  | with_reducible refine' ET_BoolOp ?_
  | with_reducible refine' ETA_And_cons ?_
  | with_reducible refine' ETA_Or_cons ?_
  | with_reducible refine' ETA_And_nil ?_
  | with_reducible refine' ETA_Or_nil ?_
  | (with_reducible refine' ET_cmp ?zh (hm := ?zm)); (case zm => rfl)
  | (with_reducible refine' ET_val ?zh (he := ?ze)); (case ze => exact fun _ => rfl)
  | with_reducible refine' BIN_add ?_
  | with_reducible refine' BIN_sub ?_
  | with_reducible refine' TRU_bool ?_
  | with_reducible refine' CMP_lt ?_
  | with_reducible refine' CMP_gt ?_
  | with_reducible refine' CMP_le ?_
  | with_reducible refine' CMP_ge ?_
  | with_reducible refine' CMP_eq ?_
  | with_reducible refine' CMP_ne ?_
  | with_reducible refine' CMP_eqS ?_
  | with_reducible refine' CMP_neS ?_
  | ((with_reducible refine' GI_list ?zl ?zz ?zx ?zh (hz := ?zb)); (case zl => first | exact .inl rfl | (refine .inr ⟨_, rfl, .inl ?_⟩; tb_start)); (case zz => first | decide | omega); (case zx => first | rfl | with_reducible assumption); (case zb => first | decide | omega))
  | ((with_reducible refine' GI_tup ?zz ?zx ?zh (hz := ?zb)); (case zz => decide); (case zx => rfl); (case zb => decide))
  | ((with_reducible refine' SI_list ?zl ?zz ?zx ?zh (hz := ?zb)); (case zl => tb_start); (case zz => first | decide | omega); (case zx => first | decide | (simp; omega) | simp); (case zb => first | decide | omega))
  | (with_reducible refine' And.intro Kp_builtin ?_)
  | (with_reducible refine' And.intro Kp_type ?_)
  | ((with_reducible refine' And.intro (Kp_K (by with_reducible assumption) ?zk) ?zh); (case zk => kernel_rfl))
  | ((with_reducible refine' BIN_mul ?zm ?zh); (case zm => exact PySem.IntMulOk.of_right (PySem.intBits_le_64 (by omega) (by omega))))
  | ((with_reducible refine' BIN_mod ?zn ?zh); (case zn => omega))
  | ((with_reducible refine' BIN_floordiv ?zn ?zp ?zh); (case zn => omega); (case zp => exact PyProof.noPylong_of_log2 (by decide +kernel)))
  | (with_reducible refine' CALL_abs ?_)
  | ((with_reducible refine' CALL_lenL ?zl ?zz ?zh); (case zl => first | exact .inl rfl | (refine .inr ⟨_, rfl, .inl ?_⟩; tb_start)); (case zz => first | decide | omega | (simp; omega) | simp))
  | ((with_reducible refine' GI_str ?zz ?zx ?zh (hz := ?zb)); (case zz => first | decide | omega); (case zx => rfl); (case zb => first | decide | omega))
  | ((with_reducible refine' ATTR_inst (by with_reducible assumption) ?zn ?zk ?zv ?za ?zh ?zq); (case zn => tb_start); (case zk => tb_start); (case zv => rfl); (case za => exact ⟨by kernel_rfl, by kernel_rfl, ⟨none, by kernel_rfl, by kernel_rfl⟩⟩); (case zh => rfl))
  | ((with_reducible refine' EX_AssignAttr ?zh (by with_reducible assumption) (hs := ?zs)); (case zs => intro _; rfl))
  | ((with_reducible refine' attrSet ?zn ?zk ?zs ?zz ?zh); (case zn => tb_start); (case zk => tb_start); (case zs => exact ⟨by kernel_rfl, by kernel_rfl, by kernel_rfl, by kernel_rfl⟩); (case zz => first | exact Nat.le_of_ble_eq_true rfl | decide | (simp; omega) | simp))
  | ((with_reducible refine' GM_list ?zn F.slot_list_append F.type_list_append ?zh); (case zn => tb_start))
  | ((with_reducible refine' GM_list ?zn F.slot_list_pop F.type_list_pop ?zh); (case zn => tb_start))
  | ((with_reducible refine' GM_list ?zn F.slot_list_extend F.type_list_extend ?zh); (case zn => tb_start))
  | ((with_reducible refine' CALL_append ?zn ?zz ?zh); (case zn => tb_start); (case zz => first | decide | omega | (simp; omega) | simp | with_reducible assumption))
  | ((with_reducible refine' CALL_isStr ?zv ?zh); (case zv => rfl))
  | ((with_reducible refine' CALL_isTup ?zv ?zh); (case zv => rfl))
  | ((with_reducible refine' EV_Chain2 ?zh (hm := ?zm)); (case zm => rfl))
  | ((with_reducible refine' BIN_lshift ?zp ?zz ?zh); (case zp => first | decide | omega); (case zz => decide +kernel))
  | with_reducible refine' CMP_eqB ?_
  | with_reducible refine' CMP_neB ?_
  | with_reducible refine' BIN_subB ?_
  | with_reducible refine' BIN_and ?_
  | with_reducible refine' BIN_or ?_
  | ((with_reducible refine' len_and ?zl ?zh); (case zl => first | decide | (simp; omega) | simp))
  | ((with_reducible refine' iteT ?zp ?zh); (case zp => first | decide | (simp; done)))
  | ((with_reducible refine' iteF ?zp ?zh); (case zp => first | decide | (simp; done)))
  | ((with_reducible refine' iteNT ?zp ?zh); (case zp => first | decide | (simp; done)))
  | ((with_reducible refine' iteNF ?zp ?zh); (case zp => first | decide | (simp; done)))
  | with_reducible refine' iteBT ?_
  | with_reducible refine' iteBF ?_
  | rw [if_neg (show ¬ ((!true) = true) by decide)]
  | rw [if_pos (show ((!false) = true) by decide)]
  | with_reducible refine' goOn_next ?_
  | with_reducible refine' goOn_ret ?_
  | with_reducible refine' CALL_app ?_
  | with_reducible assumption
  | ((fail_if_success (with_reducible show CALL _ _ _ _ _ _)); (fail_if_success (with_reducible show EV _ _ _ _ _ _ _)); (fail_if_success (with_reducible show EVs _ _ _ _ _ _ _)); (fail_if_success (with_reducible show EX _ _ _ _ _ _ _)); (fail_if_success (with_reducible show EXs _ _ _ _ _ _ _)); (fail_if_success (with_reducible show ET _ _ _ _ _ _ _)); (fail_if_success (with_reducible show ETA _ _ _ _ _ _ _ _)); (fail_if_success (with_reducible show BIN _ _ _ _ _ _ _)); (fail_if_success (with_reducible show CMP _ _ _ _ _ _ _)); (fail_if_success (with_reducible show TRU _ _ _ _ _)); (fail_if_success (with_reducible show GI _ _ _ _ _ _)); (fail_if_success (with_reducible show ITX _ _ _ _ _ _ _ _)); (fail_if_success (with_reducible show ITV _ _ _ _ _ _)); (fail_if_success (with_reducible show ITC _ _ _ _ _ _ _)); (fail_if_success (with_reducible show COMPS _ _ _ _ _ _ _ _ _ _ _ _)); (fail_if_success (with_reducible show LOOPS _ _ _ _ _ _ _ _ _ _)); assumption))
/-- a draw: some number below -/
theorem k_drawn (C : CxOk (mkC w hb g os low)) {d : Nat} {n b : Nat} {ns : List Int} {k : Int} {σ : St} {Q : Post} (hd : 1 ≤ d) (hn : σ[n]? = some (.list [.lst (ns.map .int), .int k])) (hlen : ns.length ≤ 64) (hk : 0 ≤ k) (hk' : k ≤ 1000) (hbp : 0 < b)
    (h : ∀ r : Nat, r < b → Q (.int r) (σ.set n (.list [.lst (ns.map .int), .int (k + 1)]))) : CALL (mkC w hb g os low) d (ref 727) [.loc n, .int b] σ Q := by
  refine CALL_def C (fn_727 C.K) rfl hd ?_
  conv => arg 2; arg 1; whnf
  conv => arg 4; whnf
  have fin : ∀ z : Int, Q (.int (z.fmod b)) (σ.set n (.list [.lst (ns.map .int), .int (k + 1)])) := fun z => by
    have h1 : 0 ≤ z.fmod b := Int.fmod_nonneg_of_pos z (by omega)
    have h2 : z.fmod b < b := Int.fmod_lt_of_pos z (by omega)
    have := h (z.fmod b).toNat (by omega)
    rwa [Int.toNat_of_nonneg h1] at this
  repeat tb_rel
  rw [List.length_map]
  by_cases hc : k < (ns.length : Int)
  · rw [if_pos (decide_eq_true hc)]
    have hx : (ns.map V.int)[k.toNat]? = some (.int (ns[k.toNat]'(by omega))) := by rw [List.getElem?_map, List.getElem?_eq_getElem (by omega)]; rfl
    repeat tb_rel
    exact fin _
  · rw [if_neg (by simpa using hc)]
    repeat tb_rel
    exact fin _
abbrev S (x : String) : Str := Str.ofString x
/-- trees of the programs -/
inductive T where
  | nm (x : Str) | wh (n : Int) | two (op : Str) (a b : T) | nt (a : T)
def T.v : T → V
  | .nm x => .tup [.str (S "name"), .str x]
  | .wh n => .tup [.str (S "whole"), .int n]
  | .two op a b => .tup [.str (S "two"), .str op, a.v, b.v]
  | .nt a => .tup [.str (S "not"), a.v]
inductive P where
  | set (x : Str) (e : T)
  | br (c : T) (x₁ : Str) (e₁ : T) (x₂ : Str) (e₂ : T)
def letV (x : Str) (e : T) : V := .tup [.str (S "LET"), .tup [.str (S "name"), .str x], e.v]
def P.v : P → V
  | .set x e => letV x e
  | .br c x₁ e₁ x₂ e₂ => .tup [.str (S "IF"), c.v, .lst [letV x₁ e₁], .lst [letV x₂ e₂]]
def ABC : List Str := [S "A", S "B", S "C"]
def isLeaf (t : T) : Prop := (∃ x ∈ ABC, t = .nm x) ∨ t = .wh 3
def isTwo (ops : List Str) (t : T) : Prop := ∃ op a b, op ∈ ops ∧ isLeaf a ∧ isLeaf b ∧ t = .two op a b
def pm : List Str := [S "+", S "-"]
def cps : List Str := [S "<", S "=", S ">="]
def isP : P → Prop
  | .set x e => x ∈ ABC ∧ isTwo pm e
  | .br c x₁ e₁ x₂ e₂ => isTwo cps c ∧ x₁ ∈ ABC ∧ isTwo pm e₁ ∧ x₂ ∈ ABC ∧ isTwo pm e₂

/-- the bag of what is drawn -/
def bagO (ns : List Int) (k : Nat) : SO := .list [.lst (ns.map .int), .int k]
theorem drawn (C : CxOk (mkC w hb g os low)) {d : Nat} {n b : Nat} {ns : List Int} {k : Nat} {σ : St} {Q : Post} (hd : 1 ≤ d) (hn : σ[n]? = some (bagO ns k)) (hlen : ns.length ≤ 64) (hk' : k ≤ 1000) (hbp : 0 < b)
    (h : ∀ r : Nat, r < b → Q (.int r) (σ.set n (bagO ns (k + 1)))) : CALL (mkC w hb g os low) d (ref 727) [.loc n, .int b] σ Q :=
  k_drawn C hd hn hlen (by omega) (by omega) hbp h

theorem k_leaf (C : CxOk (mkC w hb g os low)) {d : Nat} {n : Nat} {ns : List Int} {k : Nat} {σ : St} {Q : Post} (hd : 2 ≤ d) (hn : σ[n]? = some (bagO ns k)) (hlen : ns.length ≤ 64) (hk' : k ≤ 1000)
    (h : ∀ t, isLeaf t → Q t.v (σ.set n (bagO ns (k + 1)))) : CALL (mkC w hb g os low) d (ref 734) [.loc n] σ Q := by
  refine CALL_def C (fn_734 C.K) rfl (by omega) ?_
  conv => arg 2; arg 1; whnf
  conv => arg 4; whnf
  repeat tb_rel
  refine drawn C (b := 4) (by omega) hn hlen hk' (by decide) fun r hr => ?_
  repeat tb_rel
  have hr4 : r = 0 ∨ r = 1 ∨ r = 2 ∨ r = 3 := by omega
  rcases hr4 with rfl | rfl | rfl | rfl
  · refine iteT (by decide) ?_
    repeat tb_rel
    exact h (.nm (S "A")) (.inl ⟨_, by simp [ABC], rfl⟩)
  · refine iteT (by decide) ?_
    repeat tb_rel
    exact h (.nm (S "B")) (.inl ⟨_, by simp [ABC], rfl⟩)
  · refine iteT (by decide) ?_
    repeat tb_rel
    exact h (.nm (S "C")) (.inl ⟨_, by simp [ABC], rfl⟩)
  · refine iteF (by decide) ?_
    repeat tb_rel
    exact h (.wh 3) (.inr rfl)

theorem k_two (C : CxOk (mkC w hb g os low)) {d : Nat} {n : Nat} {ns : List Int} {k : Nat} {σ : St} {Q : Post} {sv : V} {ops : List Str} (hd : 3 ≤ d) (hn : σ[n]? = some (bagO ns k)) (hlen : ns.length ≤ 64) (hk' : k ≤ 900)
    (hl : ∀ (σ : St) (Q : Post), Q (.int ops.length) σ → CALL (mkC w hb g os low) (d - 1) (bi "len") [sv] σ Q) (h0 : 0 < ops.length)
    (hg : ∀ (r : Nat) (σ : St) (Q : Post), r < ops.length → (∀ op ∈ ops, Q (.str op) σ) → GI (mkC w hb g os low) (d - 1) sv (.int r) σ Q)
    (h : ∀ t, isTwo ops t → Q t.v (σ.set n (bagO ns (k + 3)))) : CALL (mkC w hb g os low) d (ref 741) [.loc n, sv] σ Q := by
  refine CALL_def C (fn_741 C.K) rfl (by omega) ?_
  conv => arg 2; arg 1; whnf
  conv => arg 4; whnf
  repeat tb_rel
  refine hl _ _ ?_
  repeat tb_rel
  refine drawn C (by omega) hn hlen (by omega) h0 fun r hr => ?_
  refine hg r _ _ hr fun op hop => ?_
  repeat tb_rel
  refine k_leaf C (by omega) (set_hit hn) hlen (by omega) fun a ha => ?_
  repeat tb_rel
  refine k_leaf C (by omega) (set_hit (set_hit hn)) hlen (by omega) fun b hb => ?_
  repeat tb_rel
  show Q (T.v (.two op a b)) _
  rw [List.set_set, List.set_set]
  exact h _ ⟨op, a, b, hop, ha, hb, rfl⟩

theorem pmG {c : Cx} {d : Nat} (r : Nat) (σ : St) (Q : Post) (hr : r < pm.length) (h : ∀ op ∈ pm, Q (.str op) σ) : GI c d (.str (S "+-")) (.int r) σ Q := by
  have : r = 0 ∨ r = 1 := by have : pm.length = 2 := rfl; omega
  rcases this with rfl | rfl
  · exact GI_str (by decide) rfl (h (S "+") (by simp [pm]))
  · exact GI_str (by decide) rfl (h (S "-") (by simp [pm]))
theorem cpG {c : Cx} {d : Nat} (r : Nat) (σ : St) (Q : Post) (hr : r < cps.length) (h : ∀ op ∈ cps, Q (.str op) σ) : GI c d (.lst (cps.map .str)) (.int r) σ Q := by
  have hx : (cps.map V.str)[r]? = some (.str cps[r]) := by rw [List.getElem?_map, List.getElem?_eq_getElem hr]; rfl
  have hl : cps.length = 3 := rfl
  exact GI_list (.inl rfl) (by omega) (by simpa using hx) (h _ (List.getElem_mem hr)) (by omega)

theorem k_let (C : CxOk (mkC w hb g os low)) {d : Nat} {n : Nat} {ns : List Int} {k : Nat} {σ : St} {Q : Post} (hd : 4 ≤ d) (hn : σ[n]? = some (bagO ns k)) (hlen : ns.length ≤ 64) (hk' : k ≤ 800)
    (h : ∀ x e, x ∈ ABC → isTwo pm e → Q (letV x e) (σ.set n (bagO ns (k + 4)))) : CALL (mkC w hb g os low) d (ref 748) [.loc n] σ Q := by
  refine CALL_def C (fn_748 C.K) rfl (by omega) ?_
  conv => arg 2; arg 1; whnf
  conv => arg 4; whnf
  repeat tb_rel
  refine drawn C (b := 3) (by omega) hn hlen (by omega) (by decide) fun r hr => ?_
  have fin : ∀ x ∈ ABC, ∀ σ', σ' = σ.set n (bagO ns (k + 1)) → CALL (mkC w hb g os low) (d - 1) (ref 741) [.loc n, .str (S "+-")] σ' fun v σ'' => Q (.tup [.str (S "LET"), .tup [.str (S "name"), .str x], v]) σ'' := fun x hx σ' e => by
    subst e
    refine k_two C (ops := pm) (by omega) (set_hit hn) hlen (by omega) (fun σ Q q => CALL_lenS (by decide) q) (by decide) pmG fun t ht => ?_
    rw [List.set_set]
    exact h x t hx ht
  have hr3 : r = 0 ∨ r = 1 ∨ r = 2 := by omega
  rcases hr3 with rfl | rfl | rfl
  · repeat tb_rel
    refine (fin (S "A") (by simp [ABC]) _ rfl).mono fun v σ' q => ?_
    repeat tb_rel
  · repeat tb_rel
    refine (fin (S "B") (by simp [ABC]) _ rfl).mono fun v σ' q => ?_
    repeat tb_rel
  · repeat tb_rel
    refine (fin (S "C") (by simp [ABC]) _ rfl).mono fun v σ' q => ?_
    repeat tb_rel

theorem k_test (C : CxOk (mkC w hb g os low)) {d : Nat} {n : Nat} {ns : List Int} {k : Nat} {σ : St} {Q : Post} (hd : 4 ≤ d) (hn : σ[n]? = some (bagO ns k)) (hlen : ns.length ≤ 64) (hk' : k ≤ 800)
    (h : ∀ e, isTwo cps e → Q e.v (σ.set n (bagO ns (k + 3)))) : CALL (mkC w hb g os low) d (ref 755) [.loc n] σ Q := by
  refine CALL_def C (fn_755 C.K) rfl (by omega) ?_
  conv => arg 2; arg 1; whnf
  conv => arg 4; whnf
  repeat tb_rel
  refine EV_ListF ?_
  repeat tb_rel
  exact k_two C (ops := cps) (sv := .lst (cps.map .str)) (by omega) hn hlen (by omega) (fun σ Q q => CALL_lenL (l := cps.map .str) (.inl rfl) (by decide) q) (by decide) cpG fun t ht => h t ht

theorem k_statement (C : CxOk (mkC w hb g os low)) {d : Nat} {n : Nat} {ns : List Int} {k : Nat} {σ : St} {Q : Post} (hd : 5 ≤ d) (hn : σ[n]? = some (bagO ns k)) (hlen : ns.length ≤ 64) (hk' : k ≤ 700)
    (h : ∀ p k', isP p → k' ≤ k + 12 → Q p.v (σ.set n (bagO ns k'))) : CALL (mkC w hb g os low) d (ref 762) [.loc n] σ Q := by
  refine CALL_def C (fn_762 C.K) rfl (by omega) ?_
  conv => arg 2; arg 1; whnf
  conv => arg 4; whnf
  repeat tb_rel
  refine drawn C (b := 2) (by omega) hn hlen (by omega) (by decide) fun r hr => ?_
  repeat tb_rel
  have hr2 : r = 0 ∨ r = 1 := by omega
  rcases hr2 with rfl | rfl
  · refine iteF (by decide) ?_
    repeat tb_rel
    refine k_test C (by omega) (set_hit hn) hlen (by omega) fun c hc => ?_
    repeat tb_rel
    refine k_let C (by omega) (set_hit (set_hit hn)) hlen (by omega) fun x₁ e₁ hx₁ he₁ => ?_
    repeat tb_rel
    refine EV_ListF ?_
    repeat tb_rel
    refine EV_ListF ?_
    repeat tb_rel
    refine k_let C (by omega) (set_hit (set_hit (set_hit hn))) hlen (by omega) fun x₂ e₂ hx₂ he₂ => ?_
    repeat tb_rel
    show Q (P.v (.br c x₁ e₁ x₂ e₂)) _
    rw [List.set_set, List.set_set, List.set_set]
    exact h _ _ ⟨hc, hx₁, he₁, hx₂, he₂⟩ (by omega)
  · refine iteT (by decide) ?_
    repeat tb_rel
    refine k_let C (by omega) (set_hit hn) hlen (by omega) fun x e hx he => ?_
    repeat tb_rel
    show Q (P.v (.set x e)) _
    rw [List.set_set]
    exact h _ _ ⟨hx, he⟩ (by omega)
def T.sub : T → Str → T → T
  | .nm y, x, e => if y = x then e else .nm y
  | .wh n, _, _ => .wh n
  | .two op a b, x, e => .two op (a.sub x e) (b.sub x e)
  | .nt a, x, e => .nt (a.sub x e)
def T.dp : T → Nat
  | .nm _ => 0
  | .wh _ => 0
  | .two _ a b => max a.dp b.dp + 1
  | .nt a => a.dp + 1

theorem k_put (C : CxOk (mkC w hb g os low)) (x : Str) (e : T) : ∀ (t : T) {d : Nat} {σ : St} {Q : Post}, t.dp + 1 ≤ d → Q (t.sub x e).v σ → CALL (mkC w hb g os low) d (ref 769) [t.v, .str x, e.v] σ Q := by
  intro t
  induction t with
  | nm y =>
    intro d σ Q hd h
    refine CALL_def C (fn_769 C.K) rfl (by omega) ?_
    conv => arg 2; arg 1; whnf
    conv => arg 4; whnf
    simp only [T.v]
    repeat tb_rel
    by_cases hy : y = x
    · refine iteT hy ?_
      repeat tb_rel
      simp only [T.sub, if_pos hy] at h
      exact h
    · refine iteF hy ?_
      repeat tb_rel
      simp only [T.sub, if_neg hy] at h
      exact h
  | wh n =>
    intro d σ Q hd h
    refine CALL_def C (fn_769 C.K) rfl (by omega) ?_
    conv => arg 2; arg 1; whnf
    conv => arg 4; whnf
    simp only [T.v]
    repeat tb_rel
  | two op a b iha ihb =>
    intro d σ Q hd h
    have hd' : max a.dp b.dp + 2 ≤ d := hd
    refine CALL_def C (fn_769 C.K) rfl (by omega) ?_
    conv => arg 2; arg 1; whnf
    conv => arg 4; whnf
    simp only [T.v]
    repeat tb_rel
    refine iha (by omega) ?_
    repeat tb_rel
    refine ihb (by omega) ?_
    repeat tb_rel
  | nt a iha =>
    intro d σ Q hd h
    have hd' : a.dp + 2 ≤ d := hd
    refine CALL_def C (fn_769 C.K) rfl (by omega) ?_
    conv => arg 2; arg 1; whnf
    conv => arg 4; whnf
    simp only [T.v]
    repeat tb_rel
    refine iha (by omega) ?_
    repeat tb_rel

def P.ahead : P → T → T
  | .set x e, q => q.sub x e
  | .br c x₁ e₁ x₂ e₂, q => .two (S "OR") (.two (S "AND") c (q.sub x₁ e₁)) (.two (S "AND") (.nt c) (q.sub x₂ e₂))

theorem k_ahead1 (C : CxOk (mkC w hb g os low)) {x : Str} {e q : T} {d : Nat} {σ : St} {Q : Post} (hd : q.dp + 2 ≤ d) (h : Q (q.sub x e).v σ) : CALL (mkC w hb g os low) d (ref 776) [letV x e, q.v] σ Q := by
  refine CALL_def C (fn_776 C.K) rfl (by omega) ?_
  conv => arg 2; arg 1; whnf
  conv => arg 4; whnf
  simp only [letV]
  repeat tb_rel
  refine k_put C x e q (by omega) ?_
  repeat tb_rel
theorem k_ahead (C : CxOk (mkC w hb g os low)) {p : P} {q : T} {d : Nat} {σ : St} {Q : Post} (hd : q.dp + 3 ≤ d) (h : Q (p.ahead q).v σ) : CALL (mkC w hb g os low) d (ref 776) [p.v, q.v] σ Q := by
  cases p with
  | set x e => exact k_ahead1 C (by omega) h
  | br c x₁ e₁ x₂ e₂ =>
    refine CALL_def C (fn_776 C.K) rfl (by omega) ?_
    conv => arg 2; arg 1; whnf
    conv => arg 4; whnf
    simp only [P.v]
    repeat tb_rel
    refine EX_AssignSw (xs := ["one", "other"]) (by intro x hx; simp only [List.mem_cons, List.not_mem_nil, or_false] at hx; rcases hx with rfl | rfl <;> exact .inl rfl) ?_ (by intro env he; obtain ⟨sc, l, gg, ce, qu, fu, co, fr, bu⟩ := env; cases he; rfl)
    repeat tb_rel
    refine k_ahead1 C (by omega) ?_
    repeat tb_rel
    refine k_ahead1 C (by omega) ?_
    repeat tb_rel
    refine ⟨_, rfl, rfl, ?_⟩
    repeat tb_rel
abbrev Env0 := List (Str × V)
def look (l : Env0) (x : Str) : Int := match getK l x with | some (.int i) => i | _ => 0
def has (l : Env0) : Prop := ∀ x ∈ ABC, getK l x = some (.int (look l x))
def cmpF (op : Str) (a b : Int) : Bool := if op = S "<" then decide (a < b) else if op = S "=" then decide (a = b) else decide (b ≤ a)
def arF (op : Str) (a b : Int) : Int := if op = S "+" then a + b else a - b
def lf (l : Env0) : T → Int
  | .nm x => look l x
  | .wh n => n
  | _ => 0

theorem leafelt {c : Cx} {sc : Sc} {ρ : Vars} {k1 k2 k3 k4 : Nat} {p1 p2 p3 p4 p5 p6 p7 p8 p9 p10 p11 p12 p13 p14 : Pos} {a : T} {n : Nat} {l : Env0} {d : Nat} {σ : St} {Q : Post} (ha : isLeaf a) (hn : σ[n]? = some (.dictS l)) (hl : has l)
    (hr1 : get ρ (S "leaf") = some a.v) (hr2 : get ρ (S "values") = some (.loc n)) (h : Q (.int (lf l a)) σ) :
    EV c sc d (.IfExp (.Compare (.Subscript (.Name (S "leaf") p1) (.Constant (.int 0) k1 p2) p3) [.Eq] [.Constant (.str (S "name")) k2 p4] p5)
      (.Subscript (.Name (S "values") p6) (.Subscript (.Name (S "leaf") p7) (.Constant (.int 1) k3 p8) p9) p10)
      (.Subscript (.Name (S "leaf") p11) (.Constant (.int 1) k4 p12) p13) p14) ρ σ Q := by
  rcases ha with ⟨x, hx, rfl⟩ | rfl
  · simp only [T.v] at hr1
    repeat tb_rel
    exact GI_dictS hn (hl x hx) h
  · simp only [T.v] at hr1
    repeat tb_rel

theorem COMPS_cons {c : Cx} {sc : Sc} {d : Nat} {elt : Expr} {x : Str} {K : St → Prop} {n : Nat} {T : List V → St → Prop} {v : V} {r acc : List V} {ρ : Vars} {σ : St}
    (h : EV c sc d elt (put ρ x v) σ fun u σ₁ => σ₁[n]? = some (.list acc) ∧ acc.length ≤ 9000 ∧ K (σ₁.set n (.list (acc ++ [u]))) ∧ COMPS c sc d elt x K n T r (acc ++ [u]) (put ρ x v) (σ₁.set n (.list (acc ++ [u])))) : COMPS c sc d elt x K n T (v :: r) acc ρ σ := h
theorem COMPS_nil {c : Cx} {sc : Sc} {d : Nat} {elt : Expr} {x : Str} {K : St → Prop} {n : Nat} {T : List V → St → Prop} {acc : List V} {ρ : Vars} {σ : St} (h : σ[n]? = some (.list acc)) (h2 : T acc σ) : COMPS c sc d elt x K n T [] acc ρ σ := ⟨h, h2⟩

theorem setLast {σ : St} {o o' : SO} : (σ ++ [o]).set σ.length o' = σ ++ [o'] := by simp
theorem forget0 {σ g : St} {v : V} {Q : Post} (hv : clV σ.length v = true) (h : Q v σ) : ∃ σ₁ g', σ ++ g = σ₁ ++ g' ∧ σ₁.length = σ.length ∧ (∀ (i : Nat) (o : SO), σ₁[i]? = some o → σ[i]? = some o ∨ clO σ.length o = true) ∧ clV σ.length v = true ∧ Q v σ₁ :=
  ⟨σ, g, rfl, rfl, fun _ _ e => .inl e, hv, h⟩

theorem k_value (C : CxOk (mkC w hb g os low)) {op : Str} {a b : T} {n : Nat} {l : Env0} {d : Nat} {σ : St} {Q : Post} (hd : 4 ≤ d) (ha : isLeaf a) (hb' : isLeaf b) (hn : σ[n]? = some (.dictS l)) (hl : has l)
    (h1 : op ∈ pm → Q (.int (arF op (lf l a) (lf l b))) σ) (h2 : op ∈ cps → Q (.bool (cmpF op (lf l a) (lf l b))) σ) (hop : op ∈ pm ∨ op ∈ cps) : CALL (mkC w hb g os low) d (ref 781) [(T.two op a b).v, .loc n] σ Q := by
  refine CALL_forget ?_
  refine CALL_def C (fn_781 C.K) rfl (by omega) ?_
  conv => arg 2; arg 1; whnf
  conv => arg 4; whnf
  simp only [T.v]
  repeat tb_rel
  refine EX_AssignTL (xs := ["one", "other"]) rfl (by intro x hx; simp only [List.mem_cons, List.not_mem_nil, or_false] at hx; rcases hx with rfl | rfl <;> exact .inl rfl) ?_
  refine EV_LC (ρc := [(Str.ofString "values", .loc n)]) (by rfl) (by intro p hp; simp only [List.mem_cons, List.not_mem_nil, or_false] at hp; subst hp; rfl) ?_
  refine ITX_val ?_
  refine EV_SliceT ?_
  repeat tb_rel
  refine ⟨2, _, rfl, rfl, by simp, by decide, by simp, ?_⟩
  refine ITV_tup ⟨trivial, ?_⟩
  refine COMPS_cons ?_
  refine leafelt ha (app_l hn) hl rfl rfl ?_
  refine ⟨app_0, by simp, trivial, ?_⟩
  rw [setLast]
  refine COMPS_cons ?_
  refine leafelt hb' (app_l hn) hl rfl rfl ?_
  refine ⟨app_0, by simp, trivial, ?_⟩
  rw [setLast]
  refine COMPS_nil app_0 ?_
  refine ⟨_, .inr ⟨_, rfl, .inl app_0⟩, rfl, ?_⟩
  have e5 : op = S "+" ∨ op = S "-" ∨ op = S "<" ∨ op = S "=" ∨ op = S ">=" := by
    simp only [pm, cps, List.mem_cons, List.not_mem_nil, or_false] at hop
    rcases hop with (h | h) | (h | h | h) <;> simp [h]
  rcases e5 with rfl | rfl | rfl | rfl | rfl
  · repeat tb_rel
    exact forget0 rfl (h1 (by decide))
  · repeat tb_rel
    exact forget0 rfl (h1 (by decide))
  · repeat tb_rel
    exact forget0 rfl (h2 (by decide))
  · repeat tb_rel
    exact forget0 rfl (h2 (by decide))
  · repeat tb_rel
    exact forget0 rfl (h2 (by decide))
def T.val (l : Env0) : T → Int
  | .two op a b => arF op (lf l a) (lf l b)
  | _ => 0
def T.tst (l : Env0) : T → Bool
  | .two op a b => cmpF op (lf l a) (lf l b)
  | _ => false
def P.run : P → Env0 → Env0
  | .set x e, l => putK l x (.int (e.val l))
  | .br c x₁ e₁ x₂ e₂, l => if c.tst l then putK l x₁ (.int (e₁.val l)) else putK l x₂ (.int (e₂.val l))

theorem pm_not_cps {op : Str} (h : op ∈ pm) (h' : op ∈ cps) : False := by
  simp only [pm, cps, List.mem_cons, List.not_mem_nil, or_false] at h h'
  rcases h with rfl | rfl <;> rcases h' with h | h | h <;> exact absurd h (by decide)

theorem k_val (C : CxOk (mkC w hb g os low)) {e : T} {n : Nat} {l : Env0} {d : Nat} {σ : St} {Q : Post} (hd : 4 ≤ d) (he : isTwo pm e) (hn : σ[n]? = some (.dictS l)) (hl : has l) (h : Q (.int (e.val l)) σ) : CALL (mkC w hb g os low) d (ref 781) [e.v, .loc n] σ Q := by
  obtain ⟨op, a, b, hop, ha, hb', rfl⟩ := he
  exact k_value C hd ha hb' hn hl (fun _ => h) (fun h' => (pm_not_cps hop h').elim) (.inl hop)
theorem k_tst (C : CxOk (mkC w hb g os low)) {e : T} {n : Nat} {l : Env0} {d : Nat} {σ : St} {Q : Post} (hd : 4 ≤ d) (he : isTwo cps e) (hn : σ[n]? = some (.dictS l)) (hl : has l) (h : Q (.bool (e.tst l)) σ) : CALL (mkC w hb g os low) d (ref 781) [e.v, .loc n] σ Q := by
  obtain ⟨op, a, b, hop, ha, hb', rfl⟩ := he
  exact k_value C hd ha hb' hn hl (fun h' => (pm_not_cps h' hop).elim) (fun _ => h) (.inr hop)

theorem putK_le {K : Type} [DecidableEq K] {α : Type} (l : List (K × α)) (x : K) (v : α) : (putK l x v).length ≤ l.length + 1 := by
  unfold putK; split <;> simp

theorem k_done (C : CxOk (mkC w hb g os low)) {p : P} {n : Nat} {l : Env0} {d : Nat} {σ : St} {Q : Post} (hd : 5 ≤ d) (hp : isP p) (hn : σ[n]? = some (.dictS l)) (hl : has l) (hz : l.length ≤ 900) (h : Q .none (σ.set n (.dictS (p.run l)))) : CALL (mkC w hb g os low) d (ref 788) [p.v, .loc n] σ Q := by
  cases p with
  | set x e =>
    refine CALL_def C (fn_788 C.K) rfl (by omega) ?_
    conv => arg 2; arg 1; whnf
    conv => arg 4; whnf
    simp only [P.v, letV]
    repeat tb_rel
    refine k_val C (by omega) hp.2 hn hl ?_
    repeat tb_rel
    refine SI_dictS hn (by omega) ?_
    repeat tb_rel
  | br c x₁ e₁ x₂ e₂ =>
    obtain ⟨h1, h2, h3, h4, h5⟩ := hp
    refine CALL_def C (fn_788 C.K) rfl (by omega) ?_
    conv => arg 2; arg 1; whnf
    conv => arg 4; whnf
    simp only [P.v, letV]
    repeat tb_rel
    refine k_tst C (by omega) h1 hn hl ?_
    repeat tb_rel
    by_cases hc : c.tst l = true
    · rw [if_pos hc]
      simp only [P.run, if_pos hc] at h
      repeat tb_rel
      refine k_val C (by omega) h3 hn hl ?_
      repeat tb_rel
      refine SI_dictS hn (by omega) ?_
      repeat tb_rel
    · rw [if_neg hc]
      simp only [P.run, if_neg hc] at h
      repeat tb_rel
      refine k_val C (by omega) h5 hn hl ?_
      repeat tb_rel
      refine SI_dictS hn (by omega) ?_
      repeat tb_rel
def flatA (r p dt pr lp fn : Nat) : List (Str × V) := [(S "rows", .loc r), (S "places", .loc p), (S "data", .loc dt), (S "pairs", .loc pr), (S "loops", .loc lp), (S "fns", .loc fn)]
def row (ln : Int) (s : V) : V := .tup [.int ln, s]

theorem k_row (C : CxOk (mkC w hb g os low)) {f a r p dt pr lp fn : Nat} {L : List V} {ln : Int} {sv : V} {d : Nat} {σ : St} {Q : Post} (hd : 2 ≤ d) (hf : σ[f]? = some (.inst 423 a)) (ha : σ[a]? = some (.attrs (flatA r p dt pr lp fn))) (hr : σ[r]? = some (.list L)) (hz : L.length ≤ 5000)
    (h : Q (.int L.length) (σ.set r (.list (L ++ [row ln sv])))) (har : r ≠ a) (hfr : r ≠ f) : CALL (mkC w hb g os low) d (ref 434) [.loc f, .int ln, sv] σ Q := by
  refine CALL_def C (fn_434 C.K) rfl (by omega) ?_
  conv => arg 2; arg 1; whnf
  conv => arg 4; whnf
  repeat tb_rel
  have e : (((L ++ [V.tup [V.int ln, sv]]).length : Nat) : Int) - 1 = (L.length : Nat) := by simp
  rw [e]
  exact h

def letR (ln : Int) (x : Str) (e : T) : V := row ln (letV x e)
/-- the rows that a statement becomes, from row i on -/
def P.rows (ln : Int) (i : Nat) : P → List V
  | .set x e => [letR ln x e]
  | .br c x₁ e₁ x₂ e₂ => [row ln (.tup [.str (S "IFNOT"), c.v, .int ((i + 3 : Nat))]), letR ln x₁ e₁, row ln (.tup [.str (S "JUMP"), .int ((i + 4 : Nat))]), letR ln x₂ e₂]

/-- statements that are no IF are put one by one -/
theorem k_all1 (C : CxOk (mkC w hb g os low)) {f a r p dt pr lp fn : Nat} {ln : Int} (har : r ≠ a) (hfr : r ≠ f) {x : Str} {e : T} {d : Nat} {L : List V} {σ : St} {Q : Post} (hd : 4 ≤ d) (hf : σ[f]? = some (.inst 423 a)) (ha : σ[a]? = some (.attrs (flatA r p dt pr lp fn))) (hr : σ[r]? = some (.list L)) (hz : L.length ≤ 4000)
    (h : Q .none (σ.set r (.list (L ++ [letR ln x e])))) : CALL (mkC w hb g os low) d (ref 448) [.loc f, .int ln, .lst [letV x e]] σ Q := by
  refine CALL_def C (fn_448 C.K) rfl (by omega) ?_
  conv => arg 2; arg 1; whnf
  conv => arg 4; whnf
  simp only [letV]
  repeat tb_rel
  refine EX_For ?_
  refine ITX_val ?_
  repeat tb_rel
  refine ITV_list (.inl rfl) fun K hK1 hK2 => ?_
  refine LOOPS_cons (.name (.inl rfl)) ?_
  repeat tb_rel
  refine k_row C (by omega) hf ha hr (by omega) ?_ har hfr
  repeat tb_rel
  refine ⟨hK2 rfl _, ?_⟩
  refine LOOPS_nil ?_
  repeat tb_rel

theorem k_if (C : CxOk (mkC w hb g os low)) {f a r p dt pr lp fn : Nat} {ln : Int} (har : r ≠ a) (hfr : r ≠ f) {c : T} {x₁ : Str} {e₁ : T} {x₂ : Str} {e₂ : T} {d : Nat} {L : List V} {σ : St} {Q : Post} (hd : 5 ≤ d) (hf : σ[f]? = some (.inst 423 a)) (ha : σ[a]? = some (.attrs (flatA r p dt pr lp fn))) (hr : σ[r]? = some (.list L)) (hz : L.length ≤ 3000)
    (h : Q .none (σ.set r (.list (L ++ P.rows ln L.length (.br c x₁ e₁ x₂ e₂))))) : CALL (mkC w hb g os low) d (ref 441) [.loc f, .int ln, (P.br c x₁ e₁ x₂ e₂).v] σ Q := by
  refine CALL_def C (fn_441 C.K) rfl (by omega) ?_
  conv => arg 2; arg 1; whnf
  conv => arg 4; whnf
  simp only [P.v]
  repeat tb_rel
  refine k_row C (by omega) (by tb_start) (by tb_start) hr (by omega) ?_ har hfr
  repeat tb_rel
  refine k_all1 C har hfr (by omega) (by tb_start) (by tb_start) (set_hit hr) (by simp; omega) ?_
  repeat tb_rel
  refine k_row C (by omega) (by tb_start) (by tb_start) (set_hit (set_hit hr)) (by simp; omega) ?_ har hfr
  repeat tb_rel
  refine k_all1 C har hfr (by omega) (by tb_start) (by tb_start) (set_hit (set_hit (set_hit (set_hit hr)))) (by simp; omega) ?_
  repeat tb_rel
  simp only [List.set_set]
  refine SI_list (set_hit hr) (by omega) (by first | (simp; done) | (simp; omega)) ?_ (by first | (simp; done) | (simp; omega))
  repeat tb_rel
  simp only [List.set_set]
  refine Eq.mp (congrArg (fun l => Q V.none (List.set σ r (SO.list l))) (?_ : L ++ P.rows ln L.length (.br c x₁ e₁ x₂ e₂) = _)) h
  have e0 : ((L.length : Int) + 2).toNat = L.length + 2 := by omega
  simp [P.rows, List.set_append, row, letR, e0]
def remV : V := .tup [.str (S "REM"), .str (S "ahead")]
/-- what is told ahead of a statement -/
def headR (ln : Int) (t : T) : List V := [letR ln (S "X") t, row ln remV]

theorem k_all2 (C : CxOk (mkC w hb g os low)) {f a r p dt pr lp fn : Nat} {ln : Int} (har : r ≠ a) (hfr : r ≠ f) {t : T} {d : Nat} {L : List V} {σ : St} {Q : Post} (hd : 4 ≤ d) (hf : σ[f]? = some (.inst 423 a)) (ha : σ[a]? = some (.attrs (flatA r p dt pr lp fn))) (hr : σ[r]? = some (.list L)) (hz : L.length ≤ 2000)
    (h : Q .none (σ.set r (.list (L ++ headR ln t)))) : CALL (mkC w hb g os low) d (ref 448) [.loc f, .int ln, .lst [letV (S "X") t, remV]] σ Q := by
  refine CALL_def C (fn_448 C.K) rfl (by omega) ?_
  conv => arg 2; arg 1; whnf
  conv => arg 4; whnf
  simp only [letV, remV]
  repeat tb_rel
  refine EX_For ?_
  refine ITX_val ?_
  repeat tb_rel
  refine ITV_list (.inl rfl) fun K hK1 hK2 => ?_
  refine LOOPS_cons (.name (.inl rfl)) ?_
  repeat tb_rel
  refine k_row C (by omega) hf ha hr (by omega) ?_ har hfr
  repeat tb_rel
  refine ⟨hK2 rfl _, ?_⟩
  refine LOOPS_cons (.name (.inl rfl)) ?_
  repeat tb_rel
  refine k_row C (by omega) (by tb_start) (by tb_start) (set_hit hr) (by simp; omega) ?_ har hfr
  repeat tb_rel
  refine ⟨hK2 rfl _, ?_⟩
  refine LOOPS_nil ?_
  repeat tb_rel
  simp only [List.set_set]
  refine Eq.mp (congrArg (fun l => Q V.none (List.set σ r (SO.list l))) (?_ : L ++ headR ln t = _)) h
  simp [headR, letR, row, letV, remV]

theorem k_all3 (C : CxOk (mkC w hb g os low)) {f a r p dt pr lp fn : Nat} {ln : Int} (har : r ≠ a) (hfr : r ≠ f) {t : T} {s : P} {d : Nat} {L : List V} {σ : St} {Q : Post} (hd : 7 ≤ d) (hf : σ[f]? = some (.inst 423 a)) (ha : σ[a]? = some (.attrs (flatA r p dt pr lp fn))) (hr : σ[r]? = some (.list L)) (hz : L.length ≤ 2000)
    (h : Q .none (σ.set r (.list (L ++ (headR ln t ++ s.rows ln (L.length + 2)))))) : CALL (mkC w hb g os low) d (ref 448) [.loc f, .int ln, .lst [letV (S "X") t, remV, s.v]] σ Q := by
  refine CALL_def C (fn_448 C.K) rfl (by omega) ?_
  conv => arg 2; arg 1; whnf
  conv => arg 4; whnf
  simp only [letV, remV]
  repeat tb_rel
  refine EX_For ?_
  refine ITX_val ?_
  repeat tb_rel
  refine ITV_list (.inl rfl) fun K hK1 hK2 => ?_
  refine LOOPS_cons (.name (.inl rfl)) ?_
  repeat tb_rel
  refine k_row C (by omega) hf ha hr (by omega) ?_ har hfr
  repeat tb_rel
  refine ⟨hK2 rfl _, ?_⟩
  refine LOOPS_cons (.name (.inl rfl)) ?_
  repeat tb_rel
  refine k_row C (by omega) (by tb_start) (by tb_start) (set_hit hr) (by simp; omega) ?_ har hfr
  repeat tb_rel
  refine ⟨hK2 rfl _, ?_⟩
  refine LOOPS_cons (.name (.inl rfl)) ?_
  cases s with
  | set x e =>
    simp only [P.v, letV]
    repeat tb_rel
    refine k_row C (by omega) (by tb_start) (by tb_start) (set_hit (set_hit hr)) (by simp; omega) ?_ har hfr
    repeat tb_rel
    refine ⟨hK2 rfl _, ?_⟩
    refine LOOPS_nil ?_
    repeat tb_rel
    simp only [List.set_set]
    refine Eq.mp (congrArg (fun l => Q V.none (List.set σ r (SO.list l))) (?_ : L ++ (headR ln t ++ P.rows ln (L.length + 2) (.set x e)) = _)) h
    simp [headR, letR, row, letV, remV, P.rows]
  | br c x₁ e₁ x₂ e₂ =>
    simp only [P.v]
    repeat tb_rel
    refine k_if C har hfr (by omega) (by tb_start) (by tb_start) (set_hit (set_hit hr)) (by simp; omega) ?_
    repeat tb_rel
    refine ⟨hK2 rfl _, ?_⟩
    refine LOOPS_nil ?_
    repeat tb_rel
    simp only [List.set_set]
    refine Eq.mp (congrArg (fun l => Q V.none (List.set σ r (SO.list l))) (?_ : L ++ (headR ln t ++ P.rows ln (L.length + 2) (.br c x₁ e₁ x₂ e₂)) = _)) h
    simp [headR, letR, row, letV, remV, P.rows]
theorem set_same {σ : St} {n : Nat} {o : SO} (h : σ[n]? = some o) : σ.set n o = σ := by
  apply List.ext_getElem?
  intro i
  by_cases hi : n = i
  · subst hi; rw [List.getElem?_set_self (List.getElem?_eq_some_iff.mp h).1, h]
  · rw [List.getElem?_set_ne hi]
def words : List Str := [S "LET", S "REM", S "IFNOT", S "JUMP"]
def quiet (v : V) : Prop := ∃ ln w rest, v = row ln (.tup (.str w :: rest)) ∧ w ∈ words

theorem k_gather (C : CxOk (mkC w hb g os low)) {f a r p dt pr lp fn : Nat} (har : r ≠ a) (hfr : r ≠ f) {d : Nat} {L : List V} {σ : St} {Q : Post} (hd : 4 ≤ d) (hf : σ[f]? = some (.inst 423 a)) (ha : σ[a]? = some (.attrs (flatA r p dt pr lp fn))) (hr : σ[r]? = some (.list L))
    (hq : ∀ v ∈ L, quiet v) (h : Q .none σ) : CALL (mkC w hb g os low) d (ref 455) [.loc f] σ Q := by
  refine CALL_def C (fn_455 C.K) rfl (by omega) ?_
  conv => arg 2; arg 1; whnf
  conv => arg 4; whnf
  repeat tb_rel
  refine EX_AssignSw (xs := ["whiles", "fors", "heads"]) (by intro x hx; simp only [List.mem_cons, List.not_mem_nil, or_false] at hx; rcases hx with rfl | rfl | rfl <;> exact .inl rfl) ?_ (by intro env he; obtain ⟨sc, l, gg, ce, qu, fu, co, fr, bu⟩ := env; cases he; rfl)
  repeat tb_rel
  refine EV_ListF ?_
  repeat tb_rel
  refine EV_ListF ?_
  repeat tb_rel
  refine EV_ListF ?_
  repeat tb_rel
  refine ⟨_, rfl, rfl, ?_⟩
  repeat tb_rel
  refine EX_fz hr fun xs k => ?_
  refine EX_For ?_
  refine ITX_call rfl ?_
  repeat tb_rel
  refine ITC_enumerate (.inr ⟨r, xs, k, rfl, set_hit hr⟩) fun K hK1 hK2 => ?_
  refine (?_ : ∀ (l : List V) (ρ : Vars), (∀ v ∈ l, ∃ (i : Int) (u : V), v = .tup [.int i, u] ∧ quiet u) → LOOPS _ _ _ _ _ _ _ l ρ _) _ _ ?_
  · intro l
    induction l with
    | nil =>
      intro ρ _
      refine LOOPS_nil ⟨set_hit hr, ?_⟩
      repeat tb_rel
      rw [List.set_set, set_same hr]
      exact h
    | cons v l ih =>
      intro ρ hv
      obtain ⟨i, u, rfl, ln, wd, rest, rfl, hw⟩ := hv v List.mem_cons_self
      refine LOOPS_cons (.tup rfl rfl (by intro x hx; simp only [List.mem_cons, List.not_mem_nil, or_false] at hx; rcases hx with rfl | rfl <;> exact .inl rfl)) ?_
      have next : ∀ ρ', K (σ.set r (.fz xs k L)) ∧ LOOPS _ _ _ _ _ _ _ l ρ' (σ.set r (.fz xs k L)) := fun ρ' => ⟨hK1 r xs k rfl (set_hit hr) _ (set_hit hr), ih ρ' fun v m => hv v (List.mem_cons_of_mem _ m)⟩
      simp only [row]
      repeat tb_rel
      refine' EX_AssignT ?hh (hs := ?ss) (hw := ?ww)
      case ss => intro _; rfl
      case ww => intro _ _; rfl
      repeat tb_rel
      refine ⟨_, .tup (xs := ["line", "statement"]) rfl rfl (by intro x hx; simp only [List.mem_cons, List.not_mem_nil, or_false] at hx; rcases hx with rfl | rfl <;> exact .inl rfl), ?_⟩
      repeat tb_rel
      simp only [words, List.mem_cons, List.not_mem_nil, or_false] at hw
      rcases hw with rfl | rfl | rfl | rfl
      · repeat tb_rel
        exact next _
      · repeat tb_rel
        exact next _
      · repeat tb_rel
        exact next _
      · repeat tb_rel
        exact next _
  · intro v hv
    obtain ⟨i, hi, rfl⟩ := List.mem_iff_getElem.mp hv
    have hi' : i < L.length := by simpa using hi
    rw [List.getElem_mapIdx]
    exact ⟨i, L[i], rfl, hq _ (List.getElem_mem hi')⟩
def flatO (n : Nat) : St := [.attrs (flatA (n + 2) (n + 3) (n + 4) (n + 5) (n + 6) (n + 7)), .inst 423 n, .list [], .dictI [], .list [], .dictI [], .dictI [], .dictI []]
theorem k_Flat (C : CxOk (mkC w hb g os low)) {d : Nat} {σ : St} {Q : Post} (hd : 3 ≤ d) (h : Q (.loc (σ.length + 1)) (σ ++ flatO σ.length)) : CALL (mkC w hb g os low) d (ref 423) [] σ Q := by
  refine CALL_make C (f := 420) (by kernel_rfl) (by kernel_rfl) (by kernel_rfl) (fn_420 C.K) rfl (by omega) ?_
  conv => arg 2; arg 1; whnf
  conv => arg 4; whnf
  repeat tb_rel
  refine EV_List ?_
  repeat tb_rel
  simp (config := { proj := false }) only [List.append_assoc, List.cons_append, List.nil_append, set_app0, List.set_cons_zero, List.length_append, List.length_cons, List.length_nil, Nat.zero_add, Nat.reduceAdd]
  refine EV_Dict0I ?_
  repeat tb_rel
  simp (config := { proj := false }) only [List.append_assoc, List.cons_append, List.nil_append, set_app0, List.set_cons_zero, List.length_append, List.length_cons, List.length_nil, Nat.zero_add, Nat.reduceAdd]
  refine EV_List ?_
  repeat tb_rel
  simp (config := { proj := false }) only [List.append_assoc, List.cons_append, List.nil_append, set_app0, List.set_cons_zero, List.length_append, List.length_cons, List.length_nil, Nat.zero_add, Nat.reduceAdd]
  refine EV_Dict0I ?_
  repeat tb_rel
  simp (config := { proj := false }) only [List.append_assoc, List.cons_append, List.nil_append, set_app0, List.set_cons_zero, List.length_append, List.length_cons, List.length_nil, Nat.zero_add, Nat.reduceAdd]
  refine EV_Dict0I ?_
  repeat tb_rel
  simp (config := { proj := false }) only [List.append_assoc, List.cons_append, List.nil_append, set_app0, List.set_cons_zero, List.length_append, List.length_cons, List.length_nil, Nat.zero_add, Nat.reduceAdd]
  refine EV_Dict0I ?_
  repeat tb_rel
  simp (config := { proj := false }) only [List.append_assoc, List.cons_append, List.nil_append, set_app0, List.set_cons_zero, List.length_append, List.length_cons, List.length_nil, Nat.zero_add, Nat.reduceAdd]
  exact ⟨rfl, h⟩

theorem getK_put {K : Type} [DecidableEq K] {α : Type} (l : List (K × α)) (k : K) (v : α) : getK (putK l k v) k = some v := by
  unfold putK
  split
  · rename_i h
    induction l with
    | nil => cases h
    | cons p r ih =>
      obtain ⟨a, b⟩ := p
      by_cases ha : a = k
      · simp [getK, ha]
      · have : r.any (fun kv => kv.1 = k) = true := by simpa [ha] using h
        simp only [List.map_cons, ha, if_false]
        unfold getK
        rw [if_neg ha]
        exact ih this
  · rename_i h
    induction l with
    | nil => simp [getK]
    | cons p r ih =>
      obtain ⟨a, b⟩ := p
      have ha : ¬ a = k := fun e => h (by simp [e])
      rw [List.cons_append]
      unfold getK
      rw [if_neg ha]
      exact ih fun e => h (by simp [ha] at e ⊢; exact e)

/-- one line of the program is laid -/
def lineV (ln : Int) (l : List V) : V := .tup [.int ln, .lst l]
theorem ne_of_kind {σ : St} {n m : Nat} {o o' : SO} (h : σ[n]? = some o) (h' : σ[m]? = some o') (ho : o ≠ o') : n ≠ m := fun e => ho (by subst e; rw [h] at h'; exact Option.some.inj h')
def addL (L : List V) (ln : Int) (t : T) (s : P) : List V := L ++ (headR ln t ++ s.rows ln (L.length + 2))
def allRows (t0 : T) (s0 : P) (t1 : T) (s1 : P) (t2 : T) (s2 : P) (t3 : T) : List V := addL (addL (addL [] 10 t0 s0) 20 t1 s1) 30 t2 s2 ++ headR 40 t3
theorem P.rows_le (ln : Int) (i : Nat) (s : P) : (s.rows ln i).length ≤ 4 := by cases s <;> simp [P.rows]
theorem P.rows_pos (ln : Int) (i : Nat) (s : P) : 1 ≤ (s.rows ln i).length := by cases s <;> simp [P.rows]
theorem addL_len (L : List V) (ln : Int) (t : T) (s : P) : L.length + 3 ≤ (addL L ln t s).length ∧ (addL L ln t s).length ≤ L.length + 6 := by
  have := P.rows_le ln (L.length + 2) s
  have := P.rows_pos ln (L.length + 2) s
  simp [addL, headR]; omega
theorem rows_quiet (ln : Int) (i : Nat) (s : P) : ∀ v ∈ s.rows ln i, quiet v := by
  cases s with
  | set x e => intro v hv; simp only [P.rows, List.mem_cons, List.not_mem_nil, or_false] at hv; subst hv; exact ⟨ln, _, _, rfl, by decide⟩
  | br c x₁ e₁ x₂ e₂ =>
    intro v hv
    simp only [P.rows, List.mem_cons, List.not_mem_nil, or_false] at hv
    rcases hv with rfl | rfl | rfl | rfl <;> exact ⟨ln, _, _, rfl, by decide⟩
theorem head_quiet (ln : Int) (t : T) : ∀ v ∈ headR ln t, quiet v := by
  intro v hv
  simp only [headR, List.mem_cons, List.not_mem_nil, or_false] at hv
  rcases hv with rfl | rfl <;> exact ⟨ln, _, _, rfl, by decide⟩
theorem addL_quiet {L : List V} (h : ∀ v ∈ L, quiet v) (ln : Int) (t : T) (s : P) : ∀ v ∈ addL L ln t s, quiet v := by
  intro v hv
  rcases List.mem_append.mp hv with hv | hv
  · exact h v hv
  · rcases List.mem_append.mp hv with hv | hv
    · exact head_quiet _ _ v hv
    · exact rows_quiet _ _ _ v hv

theorem k_flatten (C : CxOk (mkC w hb g os low)) {t0 t1 t2 t3 : T} {s0 s1 s2 : P} {d : Nat} {σ : St} {Q : Post} (hd : 9 ≤ d)
    (h : ∀ σ' : St, σ'[σ.length + 1]? = some (.inst 423 σ.length) → σ'[σ.length]? = some (.attrs (flatA (σ.length + 2) (σ.length + 3) (σ.length + 4) (σ.length + 5) (σ.length + 6) (σ.length + 7))) → σ'[σ.length + 2]? = some (.list (allRows t0 s0 t1 s1 t2 s2 t3)) → (∀ i, i < σ.length → σ'[i]? = σ[i]?) → σ'.length = σ.length + 8 → Q (.loc (σ.length + 1)) σ') :
    CALL (mkC w hb g os low) d (ref 476) [.lst [lineV 10 [letV (S "X") t0, remV, s0.v], lineV 20 [letV (S "X") t1, remV, s1.v], lineV 30 [letV (S "X") t2, remV, s2.v], lineV 40 [letV (S "X") t3, remV]]] σ Q := by
  refine CALL_def C (fn_476 C.K) rfl (by omega) ?_
  conv => arg 2; arg 1; whnf
  conv => arg 4; whnf
  repeat tb_rel
  refine k_Flat C (by omega) ?_
  have hf : (σ ++ flatO σ.length)[σ.length + 1]? = some (.inst 423 σ.length) := app_k rfl
  have ha : (σ ++ flatO σ.length)[σ.length]? = some (.attrs (flatA (σ.length + 2) (σ.length + 3) (σ.length + 4) (σ.length + 5) (σ.length + 6) (σ.length + 7))) := app_0
  have hr : (σ ++ flatO σ.length)[σ.length + 2]? = some (.list []) := app_k rfl
  have hp0 : (σ ++ flatO σ.length)[σ.length + 3]? = some (.dictI []) := app_k rfl
  obtain ⟨D0, hp, hz0⟩ : ∃ D : List (Int × V), (σ ++ flatO σ.length)[σ.length + 3]? = some (.dictI D) ∧ D.length ≤ 0 := ⟨[], hp0, Nat.le_refl _⟩
  clear hp0
  have hold : ∀ i, i < σ.length → (σ ++ flatO σ.length)[i]? = σ[i]? := fun i hi => List.getElem?_append_left hi
  have hlen : (σ ++ flatO σ.length).length = σ.length + 8 := by simp [flatO]
  generalize σ ++ flatO σ.length = σ₀ at *
  generalize hN : σ.length = N at *
  have har : N + 2 ≠ N := by omega
  have hfr : N + 2 ≠ N + 1 := by omega
  repeat tb_rel
  refine EX_For ?_
  refine ITX_val ?_
  repeat tb_rel
  refine ITV_list (.inl rfl) fun K hK1 hK2 => ?_
  clear hK1
  have l0 : ([] : List V).length = 0 := rfl
  have l1 := addL_len [] 10 t0 s0
  have l2 := addL_len (addL [] 10 t0 s0) 20 t1 s1
  have l3 := addL_len (addL (addL [] 10 t0 s0) 20 t1 s1) 30 t2 s2
  refine LOOPS_cons (.tup (xs := ["line", "statements"]) rfl rfl (by intro x hx; simp only [List.mem_cons, List.not_mem_nil, or_false] at hx; rcases hx with rfl | rfl <;> exact .inl rfl)) ?_
  repeat tb_rel
  refine SI_dictI hp (by omega) ?_
  repeat tb_rel
  refine k_all3 C har hfr (by omega) (by tb_start) (by tb_start) (by tb_start) (by first | (simp; done) | omega) ?_
  repeat tb_rel
  refine GI_dictI (by tb_start) (getK_put _ _ _) ?_
  repeat tb_rel
  try refine CALL_lenL (.inr ⟨_, rfl, .inl (set_hit (by tb_start))⟩) (by show (addL ([] : List V) 10 t0 s0).length ≤ 100000; have := addL_len ([] : List V) 10 t0 s0; omega) ?_
  repeat tb_rel
  refine iteF (by show ¬ ((([] : List V).length : Nat) : Int) = ((addL ([] : List V) 10 t0 s0).length : Nat); have := addL_len ([] : List V) 10 t0 s0; omega) ?_
  repeat tb_rel
  refine ⟨hK2 rfl _, ?_⟩
  refine (?_ : ∀ σ₁ : St, σ₁[N + 1]? = some (.inst 423 N) → σ₁[N]? = some (.attrs (flatA (N + 2) (N + 3) (N + 4) (N + 5) (N + 6) (N + 7))) → σ₁[N + 2]? = some (.list (addL [] 10 t0 s0)) → (∃ D : List (Int × V), σ₁[N + 3]? = some (.dictI D) ∧ D.length ≤ 1) → (∀ i, i < N → σ₁[i]? = σ[i]?) → σ₁.length = N + 8 → LOOPS _ _ _ _ _ _ _ _ _ σ₁) _ (by tb_start) (by tb_start) (by first | tb_start | (apply set_hit; tb_start)) ⟨_, by tb_start, by have := putK_le D0 10 (V.int (([] : List V).length : Nat)); omega⟩ (by intro i hi; rw [List.getElem?_set_ne (by omega), List.getElem?_set_ne (by omega)]; exact hold i hi) (by simp [hlen])
  clear hf ha hr hp hold hlen
  clear σ₀
  intro σ₀ hf ha hr hD hold hlen
  obtain ⟨D1, hp, hz1⟩ := hD
  refine LOOPS_cons (.tup (xs := ["line", "statements"]) rfl rfl (by intro x hx; simp only [List.mem_cons, List.not_mem_nil, or_false] at hx; rcases hx with rfl | rfl <;> exact .inl rfl)) ?_
  repeat tb_rel
  refine SI_dictI hp (by omega) ?_
  repeat tb_rel
  refine k_all3 C har hfr (by omega) (by tb_start) (by tb_start) (by tb_start) (by first | (simp; done) | omega) ?_
  repeat tb_rel
  refine GI_dictI (by tb_start) (getK_put _ _ _) ?_
  repeat tb_rel
  try refine CALL_lenL (.inr ⟨_, rfl, .inl (set_hit (by tb_start))⟩) (by show (addL (addL [] 10 t0 s0) 20 t1 s1).length ≤ 100000; have := addL_len (addL [] 10 t0 s0) 20 t1 s1; omega) ?_
  repeat tb_rel
  refine iteF (by show ¬ (((addL [] 10 t0 s0).length : Nat) : Int) = ((addL (addL [] 10 t0 s0) 20 t1 s1).length : Nat); have := addL_len (addL [] 10 t0 s0) 20 t1 s1; omega) ?_
  repeat tb_rel
  refine ⟨hK2 rfl _, ?_⟩
  refine (?_ : ∀ σ₁ : St, σ₁[N + 1]? = some (.inst 423 N) → σ₁[N]? = some (.attrs (flatA (N + 2) (N + 3) (N + 4) (N + 5) (N + 6) (N + 7))) → σ₁[N + 2]? = some (.list (addL (addL [] 10 t0 s0) 20 t1 s1)) → (∃ D : List (Int × V), σ₁[N + 3]? = some (.dictI D) ∧ D.length ≤ 2) → (∀ i, i < N → σ₁[i]? = σ[i]?) → σ₁.length = N + 8 → LOOPS _ _ _ _ _ _ _ _ _ σ₁) _ (by tb_start) (by tb_start) (by first | tb_start | (apply set_hit; tb_start)) ⟨_, by tb_start, by have := putK_le D1 20 (V.int ((addL [] 10 t0 s0).length : Nat)); omega⟩ (by intro i hi; rw [List.getElem?_set_ne (by omega), List.getElem?_set_ne (by omega)]; exact hold i hi) (by simp [hlen])
  clear hf ha hr hp hold hlen
  clear σ₀
  intro σ₀ hf ha hr hD hold hlen
  obtain ⟨D2, hp, hz2⟩ := hD
  refine LOOPS_cons (.tup (xs := ["line", "statements"]) rfl rfl (by intro x hx; simp only [List.mem_cons, List.not_mem_nil, or_false] at hx; rcases hx with rfl | rfl <;> exact .inl rfl)) ?_
  repeat tb_rel
  refine SI_dictI hp (by omega) ?_
  repeat tb_rel
  refine k_all3 C har hfr (by omega) (by tb_start) (by tb_start) (by tb_start) (by first | (simp; done) | omega) ?_
  repeat tb_rel
  refine GI_dictI (by tb_start) (getK_put _ _ _) ?_
  repeat tb_rel
  try refine CALL_lenL (.inr ⟨_, rfl, .inl (set_hit (by tb_start))⟩) (by show (addL (addL (addL [] 10 t0 s0) 20 t1 s1) 30 t2 s2).length ≤ 100000; have := addL_len (addL (addL [] 10 t0 s0) 20 t1 s1) 30 t2 s2; omega) ?_
  repeat tb_rel
  refine iteF (by show ¬ (((addL (addL [] 10 t0 s0) 20 t1 s1).length : Nat) : Int) = ((addL (addL (addL [] 10 t0 s0) 20 t1 s1) 30 t2 s2).length : Nat); have := addL_len (addL (addL [] 10 t0 s0) 20 t1 s1) 30 t2 s2; omega) ?_
  repeat tb_rel
  refine ⟨hK2 rfl _, ?_⟩
  refine (?_ : ∀ σ₁ : St, σ₁[N + 1]? = some (.inst 423 N) → σ₁[N]? = some (.attrs (flatA (N + 2) (N + 3) (N + 4) (N + 5) (N + 6) (N + 7))) → σ₁[N + 2]? = some (.list (addL (addL (addL [] 10 t0 s0) 20 t1 s1) 30 t2 s2)) → (∃ D : List (Int × V), σ₁[N + 3]? = some (.dictI D) ∧ D.length ≤ 3) → (∀ i, i < N → σ₁[i]? = σ[i]?) → σ₁.length = N + 8 → LOOPS _ _ _ _ _ _ _ _ _ σ₁) _ (by tb_start) (by tb_start) (by first | tb_start | (apply set_hit; tb_start)) ⟨_, by tb_start, by have := putK_le D2 30 (V.int ((addL (addL [] 10 t0 s0) 20 t1 s1).length : Nat)); omega⟩ (by intro i hi; rw [List.getElem?_set_ne (by omega), List.getElem?_set_ne (by omega)]; exact hold i hi) (by simp [hlen])
  clear hf ha hr hp hold hlen
  clear σ₀
  intro σ₀ hf ha hr hD hold hlen
  obtain ⟨D3, hp, hz3⟩ := hD
  refine LOOPS_cons (.tup (xs := ["line", "statements"]) rfl rfl (by intro x hx; simp only [List.mem_cons, List.not_mem_nil, or_false] at hx; rcases hx with rfl | rfl <;> exact .inl rfl)) ?_
  repeat tb_rel
  refine SI_dictI hp (by omega) ?_
  repeat tb_rel
  refine k_all2 C har hfr (by omega) (by tb_start) (by tb_start) (by tb_start) (by first | (simp; done) | omega) ?_
  repeat tb_rel
  refine GI_dictI (by tb_start) (getK_put _ _ _) ?_
  repeat tb_rel
  try refine CALL_lenL (.inr ⟨_, rfl, .inl (set_hit (by tb_start))⟩) (by simp [headR]; omega) ?_
  repeat tb_rel
  refine iteF (by simp [headR]; try omega) ?_
  repeat tb_rel
  refine ⟨hK2 rfl _, ?_⟩
  refine (?_ : ∀ σ₁ : St, σ₁[N + 1]? = some (.inst 423 N) → σ₁[N]? = some (.attrs (flatA (N + 2) (N + 3) (N + 4) (N + 5) (N + 6) (N + 7))) → σ₁[N + 2]? = some (.list (addL (addL (addL [] 10 t0 s0) 20 t1 s1) 30 t2 s2 ++ headR 40 t3)) → (∃ D : List (Int × V), σ₁[N + 3]? = some (.dictI D) ∧ D.length ≤ 4) → (∀ i, i < N → σ₁[i]? = σ[i]?) → σ₁.length = N + 8 → LOOPS _ _ _ _ _ _ _ _ _ σ₁) _ (by tb_start) (by tb_start) (by first | tb_start | (apply set_hit; tb_start)) ⟨_, by tb_start, by have := putK_le D3 40 (V.int ((addL (addL (addL [] 10 t0 s0) 20 t1 s1) 30 t2 s2).length : Nat)); omega⟩ (by intro i hi; rw [List.getElem?_set_ne (by omega), List.getElem?_set_ne (by omega)]; exact hold i hi) (by simp [hlen])
  clear hf ha hr hp hold hlen
  clear σ₀
  intro σ₀ hf ha hr hD hold hlen
  obtain ⟨D4, hp, hz4⟩ := hD
  refine LOOPS_nil ?_
  repeat tb_rel
  refine k_gather C har hfr (by omega) hf ha hr (by
    intro v hv
    rcases List.mem_append.mp hv with hv | hv
    · exact addL_quiet (addL_quiet (addL_quiet (fun _ m => by cases m) _ _ _) _ _ _) _ _ _ v hv
    · exact head_quiet _ _ v hv) ?_
  repeat tb_rel
  exact h σ₀ hf ha hr hold hlen
def small (n : Int) : Prop := -1000000 ≤ n ∧ n ≤ 1000000

theorem k_kind (C : CxOk (mkC w hb g os low)) {n : Int} {d : Nat} {σ : St} {Q : Post} (hd : 2 ≤ d) (h : Q (.str (S "whole")) σ) : CALL (mkC w hb g os low) d (ref 44) [.int n] σ Q := by
  refine CALL_def C (fn_44 C.K) rfl (by omega) ?_
  conv => arg 2; arg 1; whnf
  conv => arg 4; whnf
  repeat tb_rel
theorem k_fits (C : CxOk (mkC w hb g os low)) {n : Int} {d : Nat} {σ : St} {Q : Post} (hd : 2 ≤ d) (hn : small n) (h : Q (.bool true) σ) : CALL (mkC w hb g os low) d (ref 79) [.int n, .int 32] σ Q := by
  obtain ⟨hn1, hn2⟩ := hn
  refine CALL_def C (fn_79 C.K) rfl (by omega) ?_
  conv => arg 2; arg 1; whnf
  conv => arg 4; whnf
  repeat tb_rel
  have e : (1 : Int) * 2 ^ ((32 : Int) - 1).toNat = 2147483648 := by decide
  rw [e]
  refine ⟨_, rfl, ?_⟩
  repeat tb_rel
  refine iteT (by omega) ?_
  repeat tb_rel
  rw [e, decide_eq_true (show n < 2147483648 by omega)]
  repeat tb_rel
theorem k_wholeOf (C : CxOk (mkC w hb g os low)) {n : Int} {d : Nat} {σ : St} {Q : Post} (hd : 3 ≤ d) (hn : small n) (h : Q (.int n) σ) : CALL (mkC w hb g os low) d (ref 86) [.int n, .int 32] σ Q := by
  refine CALL_def C (fn_86 C.K) rfl (by omega) ?_
  conv => arg 2; arg 1; whnf
  conv => arg 4; whnf
  repeat tb_rel
  refine k_fits C (by omega) hn ?_
  repeat tb_rel
theorem k_isWhole (C : CxOk (mkC w hb g os low)) {n : Int} {d : Nat} {σ : St} {Q : Post} (hd : 2 ≤ d) (h : Q (.bool true) σ) : CALL (mkC w hb g os low) d (ref 206) [.int n] σ Q := by
  refine CALL_def C (fn_206 C.K) rfl (by omega) ?_
  conv => arg 2; arg 1; whnf
  conv => arg 4; whnf
  repeat tb_rel
theorem k_settled (C : CxOk (mkC w hb g os low)) {n : Int} {d : Nat} {σ : St} {Q : Post} (hd : 3 ≤ d) (hn : small n) (h : Q (.int n) σ) : CALL (mkC w hb g os low) d (ref 213) [.int n, .int 32, .int 9] σ Q := by
  refine CALL_def C (fn_213 C.K) rfl (by omega) ?_
  conv => arg 2; arg 1; whnf
  conv => arg 4; whnf
  repeat tb_rel
  refine k_fits C (by omega) hn ?_
  repeat tb_rel
theorem k_wr (C : CxOk (mkC w hb g os low)) {op : Str} {a b : Int} {d : Nat} {σ : St} {Q : Post} (hd : 4 ≤ d) (hop : op ∈ pm) (hn : small (arF op a b)) (h : Q (.int (arF op a b)) σ) : CALL (mkC w hb g os low) d (ref 220) [.str op, .int a, .int b, .int 32, .int 9] σ Q := by
  refine CALL_def C (fn_220 C.K) rfl (by omega) ?_
  conv => arg 2; arg 1; whnf
  conv => arg 4; whnf
  simp only [pm, List.mem_cons, List.not_mem_nil, or_false] at hop
  rcases hop with rfl | rfl
  · repeat tb_rel
    exact k_settled C (by omega) hn h
  · repeat tb_rel
    exact k_settled C (by omega) hn h
theorem k_reckoned (C : CxOk (mkC w hb g os low)) {op : Str} {a b : Int} {d : Nat} {σ : St} {Q : Post} (hd : 5 ≤ d) (hop : op ∈ pm) (hn : small (arF op a b)) (h : Q (.int (arF op a b)) σ) : CALL (mkC w hb g os low) d (ref 262) [.str op, .int a, .int b, .int 32, .int 9] σ Q := by
  refine CALL_def C (fn_262 C.K) rfl (by omega) ?_
  conv => arg 2; arg 1; whnf
  conv => arg 4; whnf
  repeat tb_rel
  refine EX_AssignSw (xs := ["is_first", "is_second"]) (by intro x hx; simp only [List.mem_cons, List.not_mem_nil, or_false] at hx; rcases hx with rfl | rfl <;> exact .inl rfl) ?_ (by intro env he; obtain ⟨sc, l, gg, ce, qu, fu, co, fr, bu⟩ := env; cases he; rfl)
  repeat tb_rel
  refine k_isWhole C (by omega) ?_
  repeat tb_rel
  refine k_isWhole C (by omega) ?_
  repeat tb_rel
  refine ⟨_, rfl, rfl, ?_⟩
  have hop' := hop
  simp only [pm, List.mem_cons, List.not_mem_nil, or_false] at hop'
  rcases hop' with rfl | rfl
  · repeat tb_rel
    exact k_wr C (by omega) hop hn h
  · repeat tb_rel
    exact k_wr C (by omega) hop hn h
def b2 (b : Bool) : Int := if b then 1 else 0
theorem k_order (C : CxOk (mkC w hb g os low)) {a b : Int} {d : Nat} {σ : St} {Q : Post} (hd : 3 ≤ d) (h : Q (.int ((if decide (b < a) = true then 1 else 0) - (if decide (a < b) = true then 1 else 0))) σ) : CALL (mkC w hb g os low) d (ref 276) [.int a, .int b] σ Q := by
  refine CALL_def C (fn_276 C.K) rfl (by omega) ?_
  conv => arg 2; arg 1; whnf
  conv => arg 4; whnf
  repeat tb_rel
  rw [if_neg (by decide)]
  repeat tb_rel
  refine k_isWhole C (by omega) ?_
  repeat tb_rel
  refine k_isWhole C (by omega) ?_
  repeat tb_rel
theorem k_truth (C : CxOk (mkC w hb g os low)) {b : Bool} {d : Nat} {σ : St} {Q : Post} (hd : 3 ≤ d) (h : Q (.int (if b = true then -1 else 0)) σ) : CALL (mkC w hb g os low) d (ref 121) [.bool b] σ Q := by
  refine CALL_def C (fn_121 C.K) rfl (by omega) ?_
  conv => arg 2; arg 1; whnf
  conv => arg 4; whnf
  cases b with
  | true =>
    repeat tb_rel
    refine ⟨_, rfl, ?_⟩
    repeat tb_rel
  | false =>
    repeat tb_rel
def tr (b : Bool) : Int := if b = true then -1 else 0
def ord (a b : Int) : Int := (if decide (b < a) = true then 1 else 0) - (if decide (a < b) = true then 1 else 0)
theorem k_compared (C : CxOk (mkC w hb g os low)) {op : Str} {a b : Int} {d : Nat} {σ : St} {Q : Post} (hd : 4 ≤ d) (hop : op ∈ cps) (h : Q (.int (tr (cmpF op a b))) σ) : CALL (mkC w hb g os low) d (ref 682) [.str op, .int (ord a b)] σ Q := by
  have o1 : decide (ord a b < 0) = decide (a < b) := by unfold ord; by_cases h1 : a < b <;> by_cases h2 : b < a <;> simp [h1, h2] <;> omega
  have o2 : decide (ord a b = 0) = decide (a = b) := by
    unfold ord
    by_cases h1 : a < b <;> by_cases h2 : b < a <;> simp [h1, h2] <;> omega
  refine CALL_def C (fn_682 C.K) rfl (by omega) ?_
  conv => arg 2; arg 1; whnf
  conv => arg 4; whnf
  simp only [cps, List.mem_cons, List.not_mem_nil, or_false] at hop
  rcases hop with rfl | rfl | rfl
  · repeat tb_rel
    refine k_truth C (by omega) ?_
    repeat tb_rel
    rw [o1]
    have e : (decide (a < b) == decide (Str.ofString "<" = Str.ofString "<")) = cmpF (S "<") a b := by simp [cmpF]
    exact e ▸ h
  · repeat tb_rel
    refine k_truth C (by omega) ?_
    repeat tb_rel
    rw [o2]
    have e : (decide (a = b) == decide (Str.ofString "=" = Str.ofString "=")) = cmpF (S "=") a b := by
      unfold cmpF; rw [if_neg (by decide), if_pos rfl]; simp
    exact e ▸ h
  · repeat tb_rel
    refine k_truth C (by omega) ?_
    repeat tb_rel
    rw [o1]
    have e : (decide (a < b) == decide (Str.ofString ">=" = Str.ofString "<")) = cmpF (S ">=") a b := by
      unfold cmpF; rw [if_neg (by decide), if_neg (by decide), show decide (Str.ofString ">=" = Str.ofString "<") = false by decide]
      by_cases h1 : a < b <;> simp [h1] <;> omega
    exact e ▸ h
theorem k_nought (C : CxOk (mkC w hb g os low)) {n : Int} {d : Nat} {σ : St} {Q : Post} (hd : 2 ≤ d) (h : Q (.bool (decide (n = 0))) σ) : CALL (mkC w hb g os low) d (ref 107) [.int n] σ Q := by
  refine CALL_def C (fn_107 C.K) rfl (by omega) ?_
  conv => arg 2; arg 1; whnf
  conv => arg 4; whnf
  repeat tb_rel
theorem k_isTrue (C : CxOk (mkC w hb g os low)) {n : Int} {d : Nat} {σ : St} {Q : Post} (hd : 3 ≤ d) (h : Q (.bool (!decide (n = 0))) σ) : CALL (mkC w hb g os low) d (ref 114) [.int n] σ Q := by
  refine CALL_def C (fn_114 C.K) rfl (by omega) ?_
  conv => arg 2; arg 1; whnf
  conv => arg 4; whnf
  repeat tb_rel
  refine k_nought C (by omega) ?_
  repeat tb_rel
def isB (n : Int) : Prop := n = 0 ∨ n = -1
theorem isB.small {n : Int} (h : isB n) : small n := by rcases h with rfl | rfl <;> constructor <;> decide
def lgF (op : Str) (x y : Int) : Int := if op = S "AND" then (if x = -1 ∧ y = -1 then -1 else 0) else (if x = -1 ∨ y = -1 then -1 else 0)
def lgs : List Str := [S "AND", S "OR"]
theorem k_logic (C : CxOk (mkC w hb g os low)) {op : Str} {a b : Int} {d : Nat} {σ : St} {Q : Post} (hd : 5 ≤ d) (hop : op ∈ lgs) (ha : isB a) (hb' : isB b) (h : Q (.int (lgF op a b)) σ) : CALL (mkC w hb g os low) d (ref 290) [.str op, .int a, .int b, .int 32] σ Q := by
  refine CALL_def C (fn_290 C.K) rfl (by omega) ?_
  conv => arg 2; arg 1; whnf
  conv => arg 4; whnf
  refine EXs_cons ?_
  refine EX_AssignSw (xs := ["one", "other"]) (by intro x hx; simp only [List.mem_cons, List.not_mem_nil, or_false] at hx; rcases hx with rfl | rfl <;> exact .inl rfl) ?_ (by intro env he; obtain ⟨sc, l, gg, ce, qu, fu, co, fr, bu⟩ := env; cases he; rfl)
  repeat tb_rel
  refine k_wholeOf C (by omega) ha.small ?_
  repeat tb_rel
  refine k_wholeOf C (by omega) hb'.small ?_
  repeat tb_rel
  refine ⟨_, rfl, rfl, ?_⟩
  simp only [lgs, List.mem_cons, List.not_mem_nil, or_false] at hop
  rcases hop with rfl | rfl
  · repeat tb_rel
    have e : Builtin.bitAnd a b = lgF (S "AND") a b := by
      rcases ha with rfl | rfl <;> rcases hb' with rfl | rfl <;> decide
    exact e ▸ h
  · repeat tb_rel
    have e : Builtin.bitOr a b = lgF (S "OR") a b := by
      rcases ha with rfl | rfl <;> rcases hb' with rfl | rfl <;> decide
    exact e ▸ h
theorem k_inverted (C : CxOk (mkC w hb g os low)) {n : Int} {d : Nat} {σ : St} {Q : Post} (hd : 4 ≤ d) (hn : small n) (h : Q (.int (-1 - n)) σ) : CALL (mkC w hb g os low) d (ref 283) [.int n, .int 32] σ Q := by
  refine CALL_def C (fn_283 C.K) rfl (by omega) ?_
  conv => arg 2; arg 1; whnf
  conv => arg 4; whnf
  repeat tb_rel
  refine ⟨_, rfl, ?_⟩
  repeat tb_rel
  refine k_wholeOf C (by omega) hn ?_
  repeat tb_rel
def opF (op : Str) (x y : Int) : Int := if op ∈ pm then arF op x y else if op ∈ cps then tr (cmpF op x y) else lgF op x y
/-- what the operator asks of its two sides -/
def opOk (op : Str) (x y : Int) : Prop := (op ∈ pm ∧ small (arF op x y)) ∨ op ∈ cps ∨ (op ∈ lgs ∧ isB x ∧ isB y)

theorem opF_pm {op : Str} {x y : Int} (h : op ∈ pm) : opF op x y = arF op x y := if_pos h
theorem opF_cps {op : Str} {x y : Int} (h : op ∈ cps) : opF op x y = tr (cmpF op x y) := by unfold opF; rw [if_neg fun h' => pm_not_cps h' h, if_pos h]
theorem opF_lgs {op : Str} {x y : Int} (h : op ∈ lgs) : opF op x y = lgF op x y := by
  simp only [lgs, List.mem_cons, List.not_mem_nil, or_false] at h
  rcases h with rfl | rfl <;> (unfold opF; rw [if_neg (by decide), if_neg (by decide)])

theorem k_worthTwo (C : CxOk (mkC w hb g os low)) {op : Str} {a b : Int} {d : Nat} {σ : St} {Q : Post} (hd : 7 ≤ d) (hop : opOk op a b) (h : Q (.int (opF op a b)) σ) : CALL (mkC w hb g os low) d (ref 694) [.str op, .int a, .int b, .int 32, .int 9] σ Q := by
  refine CALL_forget ?_
  refine CALL_def C (fn_694 C.K) rfl (by omega) ?_
  conv => arg 2; arg 1; whnf
  conv => arg 4; whnf
  refine EXs_cons ?_
  refine EX_LC (ρc := []) (.inl rfl) (by rfl) (by intro p hp; cases hp) ?_ (by intro env he; obtain ⟨sc, l, gg, ce, qu, fu, co, fr, bu⟩ := env; cases he; rfl)
  refine ITX_val ?_
  repeat tb_rel
  refine ITV_tup ⟨trivial, ?_⟩
  refine COMPS_cons ?_
  repeat tb_rel
  refine k_kind C (by omega) ?_
  repeat tb_rel
  refine ⟨app_0, by simp, trivial, ?_⟩
  rw [setLast]
  refine COMPS_cons ?_
  repeat tb_rel
  refine k_kind C (by omega) ?_
  repeat tb_rel
  refine ⟨app_0, by simp, trivial, ?_⟩
  rw [setLast]
  refine COMPS_nil app_0 ?_
  rw [show decide (S "whole" = Str.ofString "text") = false by decide]
  repeat tb_rel
  rw [if_neg (by decide)]
  repeat tb_rel
  rcases hop with ⟨hm, hs⟩ | hc | ⟨hl, ha, hb'⟩
  · rw [opF_pm hm] at h
    have hm' := hm
    simp only [pm, List.mem_cons, List.not_mem_nil, or_false] at hm'
    rcases hm' with rfl | rfl
    · refine CMP_inT ?_
      repeat tb_rel
      refine CMP_inT ?_
      repeat tb_rel
      refine k_reckoned C (by omega) hm hs ?_
      repeat tb_rel
      exact forget0 rfl h
    · refine CMP_inT ?_
      repeat tb_rel
      refine CMP_inT ?_
      repeat tb_rel
      refine k_reckoned C (by omega) hm hs ?_
      repeat tb_rel
      exact forget0 rfl h
  · rw [opF_cps hc] at h
    have hc' := hc
    simp only [cps, List.mem_cons, List.not_mem_nil, or_false] at hc'
    refine CMP_inT ?_
    refine TRU_bool (iteT (by rcases hc' with rfl | rfl | rfl <;> decide) ?_)
    repeat tb_rel
    refine k_order C (by omega) ?_
    repeat tb_rel
    refine k_compared C (by omega) hc ?_
    repeat tb_rel
    exact forget0 rfl h
  · rw [opF_lgs hl] at h
    have hl' := hl
    simp only [lgs, List.mem_cons, List.not_mem_nil, or_false] at hl'
    refine CMP_inT ?_
    refine TRU_bool (iteF (by rcases hl' with rfl | rfl <;> decide) ?_)
    repeat tb_rel
    refine CMP_inT ?_
    refine TRU_bool (iteT (by rcases hl' with rfl | rfl <;> decide) ?_)
    repeat tb_rel
    refine k_logic C (by omega) hl ha hb' ?_
    repeat tb_rel
    exact forget0 rfl h

theorem k_worthOne (C : CxOk (mkC w hb g os low)) {a : Int} {d : Nat} {σ : St} {Q : Post} (hd : 6 ≤ d) (ha : small a) (h : Q (.int (-1 - a)) σ) : CALL (mkC w hb g os low) d (ref 701) [.str (S "not"), .int a, .int 32, .int 9] σ Q := by
  refine CALL_def C (fn_701 C.K) rfl (by omega) ?_
  conv => arg 2; arg 1; whnf
  conv => arg 4; whnf
  repeat tb_rel
  refine k_kind C (by omega) ?_
  repeat tb_rel
  refine k_inverted C (by omega) ha ?_
  repeat tb_rel
theorem k_worthLeaf (C : CxOk (mkC w hb g os low)) {a : Int} {d : Nat} {σ : St} {Q : Post} (hd : 4 ≤ d) (ha : small a) (h : Q (.int a) σ) : CALL (mkC w hb g os low) d (ref 708) [(T.wh a).v, .int 32, .int 9] σ Q := by
  refine CALL_def C (fn_708 C.K) rfl (by omega) ?_
  conv => arg 2; arg 1; whnf
  conv => arg 4; whnf
  simp only [T.v]
  refine EXs_cons ?_
  refine' EX_AssignT ?hh (hs := ?ss) (hw := ?ww)
  case ss => intro _; rfl
  case ww => intro _ _; rfl
  repeat tb_rel
  refine ⟨_, .tup (xs := ["kind", "value"]) rfl rfl (by intro x hx; simp only [List.mem_cons, List.not_mem_nil, or_false] at hx; rcases hx with rfl | rfl <;> exact .inl rfl), ?_⟩
  repeat tb_rel
  refine k_fits C (by omega) ha ?_
  repeat tb_rel
def T.parts : T → List V
  | .two _ a b => [a.v, b.v]
  | .nt a => [a.v]
  | _ => []
theorem k_parts (C : CxOk (mkC w hb g os low)) {t : T} {d : Nat} {σ : St} {Q : Post} (hd : 2 ≤ d) (h : Q (.lst t.parts) σ) : CALL (mkC w hb g os low) d (ref 666) [t.v] σ Q := by
  refine CALL_def C (fn_666 C.K) rfl (by omega) ?_
  conv => arg 2; arg 1; whnf
  conv => arg 4; whnf
  cases t with
  | nm x =>
    simp only [T.v]
    repeat tb_rel
    refine CMP_inT (ys := ["item", "call", "fn"]) ?_
    repeat tb_rel
    refine CMP_inT (ys := ["neg", "not"]) ?_
    repeat tb_rel
    refine EV_ListF ?_
    repeat tb_rel
  | wh x =>
    simp only [T.v]
    repeat tb_rel
    refine CMP_inT (ys := ["item", "call", "fn"]) ?_
    repeat tb_rel
    refine CMP_inT (ys := ["neg", "not"]) ?_
    repeat tb_rel
    refine EV_ListF ?_
    repeat tb_rel
  | two op x y =>
    simp only [T.v]
    repeat tb_rel
    refine CMP_inT (ys := ["item", "call", "fn"]) ?_
    repeat tb_rel
    refine EV_ListF ?_
    repeat tb_rel
  | nt x =>
    simp only [T.v]
    repeat tb_rel
    refine CMP_inT (ys := ["item", "call", "fn"]) ?_
    repeat tb_rel
    refine CMP_inT (ys := ["neg", "not"]) ?_
    repeat tb_rel
    refine EV_ListF ?_
    repeat tb_rel
def hooksA (v q : Nat) : List (Str × V) := [(S "values", .loc v), (S "bits", .int 32), (S "digits", .int 9), (S "asked", .loc q)]
def ev (l : Env0) : T → Int
  | .nm x => look l x
  | .wh n => n
  | .two op a b => opF op (ev l a) (ev l b)
  | .nt a => -1 - ev l a
def okT (l : Env0) : T → Prop
  | .nm x => getK l x = some (.int (look l x)) ∧ small (look l x)
  | .wh n => small n
  | .two op a b => okT l a ∧ okT l b ∧ opOk op (ev l a) (ev l b)
  | .nt a => okT l a ∧ small (ev l a)
def kids (l : Env0) : T → List Int
  | .two _ a b => [ev l a, ev l b]
  | .nt a => [ev l a]
  | _ => []
structure HooksAt (σ : St) (h a v q : Nat) (l : Env0) (L : List V) : Prop where
  inst : σ[h]? = some (.inst 655 a)
  attrs : σ[a]? = some (.attrs (hooksA v q))
  dict : σ[v]? = some (.dictS l)
  asked : σ[q]? = some (.list L)

theorem k_von (C : CxOk (mkC w hb g os low)) {h a v q : Nat} {l : Env0} {L : List V} {x : Str} {u : V} {d : Nat} {σ : St} {Q : Post} (hd : 3 ≤ d) (H : HooksAt σ h a v q l L) (hx : getK l x = some u) (hz : L.length ≤ 9000)
    (hq : Q u (σ.set q (.list (L ++ [.str x])))) : CALL (mkC w hb g os low) d (ref 624) [.loc h, .str x] σ Q := by
  obtain ⟨h1, h2, h3, h4⟩ := H
  have n1 := ne_of_kind h4 h1 (by simp)
  have n2 := ne_of_kind h4 h2 (by simp)
  have n3 := ne_of_kind h4 h3 (by simp)
  refine CALL_def C (fn_624 C.K) rfl (by omega) ?_
  conv => arg 2; arg 1; whnf
  conv => arg 4; whnf
  repeat tb_rel
  refine CMP_notInDS (by tb_start) ?_
  rw [hx]
  refine TRU_bool ?_
  rw [if_neg (by simp)]
  repeat tb_rel
  refine GI_dictS (by tb_start) hx ?_
  repeat tb_rel

theorem k_worthTree (C : CxOk (mkC w hb g os low)) {h a v q : Nat} {l : Env0} {L : List V} {t : T} {d : Nat} {σ : St} {Q : Post} (hd : 9 ≤ d) (H : HooksAt σ h a v q l L) (ht : okT l t) (hz : L.length ≤ 9000)
    (hq : ∀ L' : List V, L'.length ≤ L.length + 1 → Q (.int (ev l t)) (σ.set q (.list L'))) : CALL (mkC w hb g os low) d (ref 715) [t.v, .lst ((kids l t).map .int), .loc h] σ Q := by
  have H0 := H
  obtain ⟨h1, h2, h3, h4⟩ := H
  have hq0 : Q (.int (ev l t)) σ := by have := hq L (by omega); rwa [set_same h4] at this
  refine CALL_def C (fn_715 C.K) rfl (by omega) ?_
  conv => arg 2; arg 1; whnf
  conv => arg 4; whnf
  cases t with
  | nm x =>
    simp only [T.v, kids, List.map_nil]
    repeat tb_rel
    refine GM_inst C h1 h2 rfl (f := 624) ⟨by kernel_rfl, by kernel_rfl, by kernel_rfl⟩ ?_
    repeat tb_rel
    refine k_von C (by omega) H0 ht.1 hz ?_
    repeat tb_rel
    exact hq _ (by simp)
  | wh n =>
    simp only [T.v, kids, List.map_nil]
    repeat tb_rel
    refine k_worthLeaf C (by omega) ht ?_
    repeat tb_rel
  | two op x y =>
    simp only [T.v, kids, List.map_cons, List.map_nil]
    repeat tb_rel
    refine k_worthTwo C (by omega) ht.2.2 ?_
    repeat tb_rel
  | nt x =>
    simp only [T.v, kids, List.map_cons, List.map_nil]
    repeat tb_rel
    refine k_worthOne C (by omega) ht.2 ?_
    repeat tb_rel

def cost : T → Nat
  | .nm _ => 1
  | .wh _ => 1
  | .two _ a b => 2 + cost a + cost b
  | .nt a => 2 + cost a
abbrev Wk := List (T × Bool)
def costW : Wk → Nat
  | [] => 0
  | (t, false) :: W => cost t + costW W
  | (_, true) :: W => 1 + costW W
def item (x : T × Bool) : V := .tup [x.1.v, .bool x.2]
inductive RW (l : Env0) (r : Int) : Wk → List Int → Prop
  | nil : RW l r [] [r]
  | todo {t : T} {W : Wk} {vs : List Int} : RW l r W (vs ++ [ev l t]) → RW l r ((t, false) :: W) vs
  | ready {t : T} {W : Wk} {pre : List Int} : RW l r W (pre ++ [ev l t]) → RW l r ((t, true) :: W) (pre ++ kids l t)
theorem cost_pos (t : T) : 1 ≤ cost t := by cases t <;> simp [cost] <;> omega

theorem k_worth (C : CxOk (mkC w hb g os low)) {h a v q : Nat} {l : Env0} {t : T} {d : Nat} {σ : St} {Q : Post} (hd : 11 ≤ d) (H : HooksAt σ h a v q l []) (ht : okT l t) (hc : cost t ≤ 1500)
    (hq : ∀ σ' : St, (∀ i, i < σ.length → i ≠ q → σ'[i]? = σ[i]?) → (∃ L, σ'[q]? = some (.list L)) → σ.length ≤ σ'.length → Q (.int (ev l t)) σ') : CALL (mkC w hb g os low) d (ref 720) [t.v, .loc h] σ Q := by
  refine CALL_def C (fn_720 C.K) rfl (by omega) ?_
  conv => arg 2; arg 1; whnf
  conv => arg 4; whnf
  refine EXs_cons ?_
  refine EX_AssignSw (xs := ["waiting", "values"]) (by intro x hx; simp only [List.mem_cons, List.not_mem_nil, or_false] at hx; rcases hx with rfl | rfl <;> exact .inl rfl) ?_ (by intro env he; obtain ⟨sc, l, gg, ce, qu, fu, co, fr, bu⟩ := env; cases he; rfl)
  repeat tb_rel
  refine EV_List ?_
  repeat tb_rel
  refine EV_ListF ?_
  repeat tb_rel
  refine ⟨_, rfl, rfl, ?_⟩
  repeat tb_rel
  have hql : q < σ.length := (List.getElem?_eq_some_iff.mp H.asked).1
  refine EX_While (fun n ρ σ' => ∃ (W : Wk) (vs : List Int) (L : List V), n = costW W ∧ get ρ (S "waiting") = some (.loc σ.length) ∧ get ρ (S "values") = some (.lst (vs.map .int)) ∧ get ρ (S "hooks") = some (.loc h) ∧
      σ'[σ.length]? = some (.list ((W.map item).reverse)) ∧ σ'[q]? = some (.list L) ∧ (∀ i, i < σ.length → i ≠ q → σ'[i]? = σ[i]?) ∧ σ.length ≤ σ'.length ∧ RW l (ev l t) W vs ∧ (∀ x ∈ W, okT l x.1) ∧ W.length + 2 * costW W ≤ 3100 ∧ L.length + costW W ≤ 1600 ∧ vs.length + costW W ≤ 1600) (cost t) ⟨[(t, false)], [], [], by simp [costW], rfl, rfl, rfl, app_0, app_l H.asked, fun i hi hne => List.getElem?_append_left hi, by simp, .todo .nil, by simpa using ht, by simp [costW]; omega, by simp [costW]; omega, by simp [costW]; omega⟩ ?_
  rintro n ρ σ' ⟨W, vs, L, rfl, hw, hv, hh, sw, sq, hold, hle, hR, hok, b1, b2, b3⟩
  repeat tb_rel
  cases W with
  | nil =>
    rw [if_neg (by simp)]
    cases hR
    repeat tb_rel
    exact hq σ' hold ⟨L, sq⟩ hle
  | cons x W =>
    obtain ⟨t', b⟩ := x
    rw [if_pos (by simp)]
    have ht' : okT l t' := hok _ List.mem_cons_self
    have hok' : ∀ x ∈ W, okT l x.1 := fun x m => hok x (List.mem_cons_of_mem _ m)
    have sw' : σ'[σ.length]? = some (.list ((W.map item).reverse ++ [item (t', b)])) := by rw [sw]; simp
    have hWl : ((W.map item).reverse).length = W.length := by simp
    have hpl : t'.parts.length = (kids l t').length := by cases t' <;> rfl
    have up : ∀ {i : Nat} {o : SO}, σ[i]? = some o → i ≠ q → (σ'.set σ.length (.list (W.map item).reverse))[i]? = some o := fun {i o} e hne => by
      have hi := (List.getElem?_eq_some_iff.mp e).1
      rw [List.getElem?_set_ne (Nat.ne_of_gt hi), hold i hi hne]; exact e
    have H2 : HooksAt (σ'.set σ.length (.list (W.map item).reverse)) h a v q l L := ⟨up H.inst (ne_of_kind H.inst H.asked (by simp)), up H.attrs (ne_of_kind H.attrs H.asked (by simp)), up H.dict (ne_of_kind H.dict H.asked (by simp)), set_miss (Nat.ne_of_gt hql) sq⟩
    refine EXs_cons ?_
    refine' EX_AssignT ?hh (hs := ?ss) (hw := ?ww)
    case ss => intro _; rfl
    case ww => intro _ _; rfl
    repeat tb_rel
    refine CALL_pop sw' (by simp at b1; omega) ?_
    refine ⟨_, .tup (xs := ["here", "is_ready"]) rfl rfl (by intro x hx; simp only [List.mem_cons, List.not_mem_nil, or_false] at hx; rcases hx with rfl | rfl <;> exact .inl rfl), ?_⟩
    repeat tb_rel
    refine k_parts C (by omega) ?_
    repeat tb_rel
    cases b with
    | true =>
      rw [if_pos rfl]
      obtain ⟨pre, rfl, hRW⟩ : ∃ pre, vs = pre ++ kids l t' ∧ RW l (ev l t) W (pre ++ [ev l t']) := by cases hR with | ready h => exact ⟨_, rfl, h⟩
      have hp2 : t'.parts.length ≤ 2 := by cases t' <;> simp [T.parts]
      have b3' : pre.length + (kids l t').length + 1 + costW W ≤ 1600 := by rw [List.length_append] at b3; simp only [costW] at b3; omega
      repeat tb_rel
      dsimp only [EVP]
      repeat tb_rel
      refine ⟨pre.length, by rw [hpl]; simp, _, _, .inl rfl, by simp; omega, rfl, ?_⟩
      rw [show (List.map V.int (pre ++ kids l t')).drop pre.length = (kids l t').map V.int from by simp]
      repeat tb_rel
      refine k_worthTree C (by omega) H2 ht' (by omega) fun L' hL' => ?_
      repeat tb_rel
      dsimp only [EVP]
      repeat tb_rel
      refine ⟨pre.length, by rw [hpl]; simp, ?_⟩
      repeat tb_rel
      refine ⟨_, _, .inl rfl, by simp; omega, rfl, ?_⟩
      rw [show (List.map V.int (pre ++ kids l t')).take pre.length = pre.map V.int from by simp]
      refine EV_ListF ?_
      repeat tb_rel
      refine BIN_addL (.inl rfl) (.inl rfl) (by simp; omega) ?_
      repeat tb_rel
      refine ⟨costW W, by simp [costW], W, pre ++ [ev l t'], L', rfl, by (simp (config := { decide := true }) only [binds, get_put, reduceIte]; assumption), by (simp (config := { decide := true }) only [binds, get_put, reduceIte]; simp), by (simp (config := { decide := true }) only [binds, get_put, reduceIte]; assumption), ?_, ?_, ?_, ?_, hRW, hok', ?_, ?_, ?_⟩
      · exact set_miss (Nat.ne_of_lt hql) (set_hit sw')
      · exact set_hit (set_miss (Nat.ne_of_gt hql) sq)
      · intro i hi hne
        rw [List.getElem?_set_ne (Ne.symm hne), List.getElem?_set_ne (Nat.ne_of_gt hi)]; exact hold i hi hne
      · simpa using hle
      · simp [costW] at b1; omega
      · simp [costW] at b2; omega
      · simp; omega
    | false =>
      rw [if_neg (by decide)]
      by_cases hparts : t'.parts = []
      · obtain ⟨pre, rfl, hRW⟩ : ∃ pre, vs = pre ++ kids l t' ∧ RW l (ev l t) W (pre ++ [ev l t']) := by
          have hk : kids l t' = [] := List.eq_nil_of_length_eq_zero (by rw [← hpl, hparts]; rfl)
          cases hR with | todo h => exact ⟨vs, by rw [hk]; simp, h⟩
        have hcp := cost_pos t'
        repeat tb_rel
        refine CALL_lenL (.inl rfl) (by rw [hparts]; decide) ?_
        repeat tb_rel
        refine iteT (by rw [hparts]; rfl) ?_
        have hp2 : t'.parts.length ≤ 2 := by cases t' <;> simp [T.parts]
        have b3' : pre.length + (kids l t').length + 1 + costW W ≤ 1600 := by rw [List.length_append] at b3; simp only [costW] at b3; omega
        repeat tb_rel
        dsimp only [EVP]
        repeat tb_rel
        refine ⟨pre.length, by rw [hpl]; simp, _, _, .inl rfl, by simp; omega, rfl, ?_⟩
        rw [show (List.map V.int (pre ++ kids l t')).drop pre.length = (kids l t').map V.int from by simp]
        repeat tb_rel
        refine k_worthTree C (by omega) H2 ht' (by omega) fun L' hL' => ?_
        repeat tb_rel
        dsimp only [EVP]
        repeat tb_rel
        refine ⟨pre.length, by rw [hpl]; simp, ?_⟩
        repeat tb_rel
        refine ⟨_, _, .inl rfl, by simp; omega, rfl, ?_⟩
        rw [show (List.map V.int (pre ++ kids l t')).take pre.length = pre.map V.int from by simp]
        refine EV_ListF ?_
        repeat tb_rel
        refine BIN_addL (.inl rfl) (.inl rfl) (by simp; omega) ?_
        repeat tb_rel
        refine ⟨costW W, by simp only [costW]; omega, W, pre ++ [ev l t'], L', rfl, by (simp (config := { decide := true }) only [binds, get_put, reduceIte]; assumption), by (simp (config := { decide := true }) only [binds, get_put, reduceIte]; simp), by (simp (config := { decide := true }) only [binds, get_put, reduceIte]; assumption), ?_, ?_, ?_, ?_, hRW, hok', ?_, ?_, ?_⟩
        · exact set_miss (Nat.ne_of_lt hql) (set_hit sw')
        · exact set_hit (set_miss (Nat.ne_of_gt hql) sq)
        · intro i hi hne
          rw [List.getElem?_set_ne (Ne.symm hne), List.getElem?_set_ne (Nat.ne_of_gt hi)]; exact hold i hi hne
        · simpa using hle
        · simp [costW] at b1; omega
        · simp [costW] at b2; omega
        · simp; omega
      · cases t' with
        | nm x => exact absurd rfl hparts
        | wh x => exact absurd rfl hparts
        | two op x y =>
          have hR' : RW l (ev l t) ((x, false) :: (y, false) :: (T.two op x y, true) :: W) vs := by
            cases hR with | todo h => exact .todo (.todo (by rw [List.append_assoc]; exact .ready h))
          repeat tb_rel
          refine CALL_lenL (.inl rfl) (by simp [T.parts]) ?_
          repeat tb_rel
          refine iteF (by simp [T.parts]) ?_
          repeat tb_rel
          refine CALL_append (set_hit sw') (by simp; simp at b1; omega) ?_
          repeat tb_rel
          refine EV_LC (ρc := []) (by rfl) (by intro p hp; cases hp) ?_
          refine ITX_call rfl ?_
          repeat tb_rel
          refine ITC_reversed rfl ⟨trivial, ?_⟩
          rw [show List.reverse (T.parts (T.two op x y)) = [y.v, x.v] from rfl]
          refine COMPS_cons ?_
          repeat tb_rel
          refine ⟨app_0, by simp, by trivial, ?_⟩
          rw [setLast]
          refine COMPS_cons ?_
          repeat tb_rel
          refine ⟨app_0, by simp, by trivial, ?_⟩
          rw [setLast]
          refine COMPS_nil app_0 ?_
          simp (config := { proj := false }) only [List.nil_append, List.cons_append]
          repeat tb_rel
          have hll : List.length σ < List.length σ' := (List.getElem?_eq_some_iff.mp sw').1
          refine CALL_extend (n := σ.length) (l := (W.map item).reverse ++ [item (T.two op x y, true)]) (l' := [item (y, false), item (x, false)]) ?_ (.inr ⟨_, rfl, .inl app_0⟩) (by simp; simp at b1; omega) (by simp) ?_
          · exact app_l (set_hit (set_hit sw'))
          repeat tb_rel
          refine ⟨costW ((x, false) :: (y, false) :: (T.two op x y, true) :: W), by simp only [costW, cost]; omega, (x, false) :: (y, false) :: (T.two op x y, true) :: W, vs, L, rfl, by (simp (config := { decide := true }) only [binds, get_put, reduceIte]; assumption), by (simp (config := { decide := true }) only [binds, get_put, reduceIte]; assumption), by (simp (config := { decide := true }) only [binds, get_put, reduceIte]; assumption), ?_, ?_, ?_, ?_, hR', ?_, ?_, ?_, ?_⟩
          · rw [show (List.map item ((x, false) :: (y, false) :: (T.two op x y, true) :: W)).reverse = (W.map item).reverse ++ [item (T.two op x y, true)] ++ [item (y, false), item (x, false)] by simp]
            exact set_hit (app_l (set_hit (set_hit sw')))
          · exact set_miss (Nat.ne_of_gt hql) (app_l (set_miss (Nat.ne_of_gt hql) (set_miss (Nat.ne_of_gt hql) sq)))
          · intro i hi hne
            have hne' : List.length σ ≠ i := Nat.ne_of_gt hi
            rw [List.getElem?_set_ne hne', List.getElem?_append_left (by simp; omega), List.getElem?_set_ne hne', List.getElem?_set_ne hne']; exact hold i hi hne
          · simp; omega
          · intro z hz
            simp only [List.mem_cons] at hz
            rcases hz with rfl | rfl | rfl | hz
            all_goals first | exact ht' | exact ht'.1 | exact ht'.2 | exact ht'.2.1 | exact ht'.2.2 | exact hok' _ hz
          · simp [costW, cost] at b2 b1 ⊢; omega
          · simp [costW, cost] at b2 ⊢; omega
          · simp [costW, cost] at b3 ⊢; omega
        | nt x =>
          have hR' : RW l (ev l t) ((x, false) :: (T.nt x, true) :: W) vs := by
            cases hR with | todo h => exact .todo (.ready h)
          repeat tb_rel
          refine CALL_lenL (.inl rfl) (by simp [T.parts]) ?_
          repeat tb_rel
          refine iteF (by simp [T.parts]) ?_
          repeat tb_rel
          refine CALL_append (set_hit sw') (by simp; simp at b1; omega) ?_
          repeat tb_rel
          refine EV_LC (ρc := []) (by rfl) (by intro p hp; cases hp) ?_
          refine ITX_call rfl ?_
          repeat tb_rel
          refine ITC_reversed rfl ⟨trivial, ?_⟩
          rw [show List.reverse (T.parts (T.nt x)) = [x.v] from rfl]
          refine COMPS_cons ?_
          repeat tb_rel
          refine ⟨app_0, by simp, by trivial, ?_⟩
          rw [setLast]
          refine COMPS_nil app_0 ?_
          simp (config := { proj := false }) only [List.nil_append, List.cons_append]
          repeat tb_rel
          have hll : List.length σ < List.length σ' := (List.getElem?_eq_some_iff.mp sw').1
          refine CALL_extend (n := σ.length) (l := (W.map item).reverse ++ [item (T.nt x, true)]) (l' := [item (x, false)]) ?_ (.inr ⟨_, rfl, .inl app_0⟩) (by simp; simp at b1; omega) (by simp) ?_
          · exact app_l (set_hit (set_hit sw'))
          repeat tb_rel
          refine ⟨costW ((x, false) :: (T.nt x, true) :: W), by simp only [costW, cost]; omega, (x, false) :: (T.nt x, true) :: W, vs, L, rfl, by (simp (config := { decide := true }) only [binds, get_put, reduceIte]; assumption), by (simp (config := { decide := true }) only [binds, get_put, reduceIte]; assumption), by (simp (config := { decide := true }) only [binds, get_put, reduceIte]; assumption), ?_, ?_, ?_, ?_, hR', ?_, ?_, ?_, ?_⟩
          · rw [show (List.map item ((x, false) :: (T.nt x, true) :: W)).reverse = (W.map item).reverse ++ [item (T.nt x, true)] ++ [item (x, false)] by simp]
            exact set_hit (app_l (set_hit (set_hit sw')))
          · exact set_miss (Nat.ne_of_gt hql) (app_l (set_miss (Nat.ne_of_gt hql) (set_miss (Nat.ne_of_gt hql) sq)))
          · intro i hi hne
            have hne' : List.length σ ≠ i := Nat.ne_of_gt hi
            rw [List.getElem?_set_ne hne', List.getElem?_append_left (by simp; omega), List.getElem?_set_ne hne', List.getElem?_set_ne hne']; exact hold i hi hne
          · simp; omega
          · intro z hz
            simp only [List.mem_cons] at hz
            rcases hz with rfl | rfl | hz
            all_goals first | exact ht' | exact ht'.1 | exact ht'.2 | exact ht'.2.1 | exact ht'.2.2 | exact hok' _ hz
          · simp [costW, cost] at b2 b1 ⊢; omega
          · simp [costW, cost] at b2 ⊢; omega
          · simp [costW, cost] at b3 ⊢; omega
def lamOf (b : List Stmt) : Arguments × Expr × Scope := match (b[8]? : Option Stmt) with
  | some (Stmt.Assign _ (Expr.Call _ args _ _) _) => match (args[2]? : Option Expr) with
    | some (Expr.Lambda a b s _) => (a, b, s)
    | _ => default
  | _ => default
noncomputable def lamA (w : World) : Arguments := (lamOf (bodyOf (ob (hdA.heap_39 w.params) 793))).1
noncomputable def lamB (w : World) : Expr := (lamOf (bodyOf (ob (hdA.heap_39 w.params) 793))).2.1
noncomputable def lamS (w : World) : Scope := (lamOf (bodyOf (ob (hdA.heap_39 w.params) 793))).2.2

theorem forgetN {σ σ' : St} (h : ∀ i, i < σ.length → σ'[i]? = σ[i]?) : σ' = σ ++ σ'.drop σ.length := by
  apply List.ext_getElem?
  intro i
  rw [List.getElem?_append]
  split
  · next hi => exact h i hi
  · next hi => rw [List.getElem?_drop]; congr 1; omega

theorem k_lam (C : CxOk (mkC w hb g os low)) {n v : Nat} {l : Env0} {t : T} {d : Nat} {σ : St} {Q : Post} (hd : 13 ≤ d) (hf : σ[n]? = some (.fn (LamIs (lamA w) (lamB w) (lamS w)))) (hv : σ[v]? = some (.dictS l)) (ht : okT l t) (hc : cost t ≤ 1500)
    (hq : Q (.int (ev l t)) σ) : CALL (mkC w hb g os low) d (.loc n) [t.v, .loc v] σ Q := by
  have hvl : v < σ.length := (List.getElem?_eq_some_iff.mp hv).1
  refine CALL_forget ?_
  refine CALL_lam C (ps := ["tree", "told"]) hf rfl (by omega) ?_ ?_ (by kernel_rfl) (by kernel_rfl) (by kernel_rfl) ?_ fun code => ?_
  · intro y hy
    have e : ((lamS w).names.all fun y => y.2 != .cell) = true := by kernel_rfl
    simpa using List.all_eq_true.mp e y hy
  · intro x hx
    simp only [List.mem_cons, List.not_mem_nil, or_false] at hx
    rcases hx with rfl | rfl <;> kernel_rfl
  · rintro fd ⟨name, qual, pm, cdv, ctv, rfl⟩ vals hv
    match vals, hv with
    | [v0, v1], _ => kernel_rfl
  conv => arg 4; whnf
  conv => arg 2; arg 1; whnf
  repeat tb_rel
  refine CALL_make C (f := 617) (by kernel_rfl) (by kernel_rfl) (by kernel_rfl) (fn_617 C.K) rfl (by omega) ?_
  conv => arg 2; arg 1; whnf
  conv => arg 4; whnf
  repeat tb_rel
  refine EV_List ?_
  repeat tb_rel
  simp (config := { proj := false }) only [List.append_assoc, List.cons_append, List.nil_append, set_app0, List.set_cons_zero, List.length_append, List.length_cons, List.length_nil, Nat.zero_add, Nat.reduceAdd]
  refine ⟨rfl, ?_⟩
  repeat tb_rel
  refine k_worth C (h := σ.length + 1) (a := σ.length) (v := v) (q := σ.length + 2) (by omega) ⟨app_k rfl, app_k (k := 0) rfl, app_l hv, app_k rfl⟩ ht hc fun σ' ho _ hle => ?_
  simp only [List.length_append, List.length_cons, List.length_nil] at ho hle
  have e : σ' = σ ++ σ'.drop σ.length := forgetN fun i hi => by rw [ho i (by omega) (by omega)]; exact List.getElem?_append_left hi
  rw [e]
  exact forget0 rfl hq
def runA (f va lam co no : Nat) : List (Str × V) := [(S "flat", .loc f), (S "values", .loc va), (S "worth_of", .loc lam), (S "bits", .int 32), (S "digits", .int 9), (S "control", .loc co), (S "notes", .loc no)]
/-- where the parts of a run lie -/
structure Pl where
  (r a f fa rw p dt pr lp fn va lam co no : Nat)
structure RunAt (w : World) (σ : St) (z : Pl) (rows : List V) (l : Env0) (L : List V) : Prop where
  inst : σ[z.r]? = some (.inst 599 z.a)
  attrs : σ[z.a]? = some (.attrs (runA z.f z.va z.lam z.co z.no))
  finst : σ[z.f]? = some (.inst 423 z.fa)
  fattrs : σ[z.fa]? = some (.attrs (flatA z.rw z.p z.dt z.pr z.lp z.fn))
  rows : σ[z.rw]? = some (.list rows)
  dict : σ[z.va]? = some (.dictS l)
  lam : σ[z.lam]? = some (.fn (LamIs (lamA w) (lamB w) (lamS w)))
  notes : σ[z.no]? = some (.list L)

theorem RunAt.setD {σ : St} {z : Pl} {rows : List V} {l l' : Env0} {L : List V} (H : RunAt w σ z rows l L) : RunAt w (σ.set z.va (.dictS l')) z rows l' L := by
  obtain ⟨h1, h2, h3, h4, h5, h6, h7, h8⟩ := H
  exact ⟨set_miss (ne_of_kind h6 h1 (by simp)) h1, set_miss (ne_of_kind h6 h2 (by simp)) h2, set_miss (ne_of_kind h6 h3 (by simp)) h3, set_miss (ne_of_kind h6 h4 (by simp)) h4, set_miss (ne_of_kind h6 h5 (by simp)) h5, set_hit h6, set_miss (ne_of_kind h6 h7 (by simp)) h7, set_miss (ne_of_kind h6 h8 (by simp)) h8⟩
theorem RunAt.setN {σ : St} {z : Pl} {rows : List V} {l : Env0} {L L' : List V} (hne : z.no ≠ z.rw) (H : RunAt w σ z rows l L) : RunAt w (σ.set z.no (.list L')) z rows l L' := by
  obtain ⟨h1, h2, h3, h4, h5, h6, h7, h8⟩ := H
  exact ⟨set_miss (ne_of_kind h8 h1 (by simp)) h1, set_miss (ne_of_kind h8 h2 (by simp)) h2, set_miss (ne_of_kind h8 h3 (by simp)) h3, set_miss (ne_of_kind h8 h4 (by simp)) h4, set_miss hne h5, set_miss (ne_of_kind h8 h6 (by simp)) h6, set_miss (ne_of_kind h8 h7 (by simp)) h7, set_hit h8⟩

theorem k_rworth (C : CxOk (mkC w hb g os low)) {z : Pl} {rows : List V} {l : Env0} {L : List V} {t : T} {d : Nat} {σ : St} {Q : Post} (hd : 15 ≤ d) (H : RunAt w σ z rows l L) (ht : okT l t) (hc : cost t ≤ 1500)
    (hq : Q (.int (ev l t)) σ) : CALL (mkC w hb g os low) d (ref 561) [.loc z.r, t.v] σ Q := by
  obtain ⟨h1, h2, h3, h4, h5, h6, h7, h8⟩ := H
  refine CALL_def C (fn_561 C.K) rfl (by omega) ?_
  conv => arg 2; arg 1; whnf
  conv => arg 4; whnf
  repeat tb_rel
  refine ⟨Kp_loc h7, ?_⟩
  refine k_lam C (by omega) h7 h6 ht hc ?_
  repeat tb_rel

theorem k_rvon (C : CxOk (mkC w hb g os low)) {z : Pl} {rows : List V} {l : Env0} {L : List V} {x : Str} {d : Nat} {σ : St} {Q : Post} (hd : 2 ≤ d) (H : RunAt w σ z rows l L)
    (hq : Q ((getK l x).getD (.int 0)) σ) : CALL (mkC w hb g os low) d (ref 575) [.loc z.r, .str x] σ Q := by
  obtain ⟨h1, h2, h3, h4, h5, h6, h7, h8⟩ := H
  refine CALL_def C (fn_575 C.K) rfl (by omega) ?_
  conv => arg 2; arg 1; whnf
  conv => arg 4; whnf
  repeat tb_rel
  refine GM_dict h6 F.slot_dict_get F.type_dict_get ?_
  repeat tb_rel
  refine CALL_get h6 ?_
  repeat tb_rel

theorem k_rstore (C : CxOk (mkC w hb g os low)) {z : Pl} {rows : List V} {l : Env0} {L : List V} {x : Str} {u : V} {d : Nat} {σ : St} {Q : Post} (hd : 2 ≤ d) (H : RunAt w σ z rows l L) (hz : l.length ≤ 9000)
    (hq : Q .none (σ.set z.va (.dictS (putK l x u)))) : CALL (mkC w hb g os low) d (ref 582) [.loc z.r, .str x, u] σ Q := by
  obtain ⟨h1, h2, h3, h4, h5, h6, h7, h8⟩ := H
  refine CALL_def C (fn_582 C.K) rfl (by omega) ?_
  conv => arg 2; arg 1; whnf
  conv => arg 4; whnf
  repeat tb_rel
  refine SI_dictS h6 hz ?_
  repeat tb_rel
def ifnV (t : T) (n : Nat) : V := .tup [.str (S "IFNOT"), t.v, .int (n : Nat)]
def jmpV (n : Nat) : V := .tup [.str (S "JUMP"), .int (n : Nat)]
theorem k_ifn (C : CxOk (mkC w hb g os low)) {z : Pl} {rows : List V} {l : Env0} {L : List V} {t : T} {n k : Nat} {d : Nat} {σ : St} {Q : Post} (hd : 17 ≤ d) (H : RunAt w σ z rows l L) (ht : okT l t) (hc : cost t ≤ 1500)
    (hq : Q (.int ((if ev l t = 0 then n else k + 1 : Nat) : Nat)) σ) : CALL (mkC w hb g os low) d (ref 512) [.loc z.r, .int (k : Nat), ifnV t n] σ Q := by
  have H0 := H
  obtain ⟨h1, h2, h3, h4, h5, h6, h7, h8⟩ := H
  refine CALL_def C (fn_512 C.K) rfl (by omega) ?_
  conv => arg 2; arg 1; whnf
  conv => arg 4; whnf
  simp only [ifnV]
  repeat tb_rel
  refine CMP_inT (ys := ["IFNOT", "JUMP", "GOTO", "GOSUB", "ONGO", "RETURN"]) ?_
  repeat tb_rel
  refine CALL_def C (fn_519 C.K) rfl (by omega) ?_
  conv => arg 2; arg 1; whnf
  conv => arg 4; whnf
  repeat tb_rel
  refine GM_inst C h1 h2 rfl (f := 561) ⟨by kernel_rfl, by kernel_rfl, by kernel_rfl⟩ ?_
  repeat tb_rel
  refine k_rworth C (by omega) H0 ht hc ?_
  repeat tb_rel
  refine k_isTrue C (by omega) ?_
  repeat tb_rel
  by_cases h0 : ev l t = 0
  · rw [if_pos h0] at hq
    rw [if_neg (by simp [h0])]
    repeat tb_rel
  · rw [if_neg h0] at hq
    rw [if_pos (by simp [h0])]
    repeat tb_rel
theorem k_jmp (C : CxOk (mkC w hb g os low)) {r n k : Nat} {d : Nat} {σ : St} {Q : Post} (hd : 17 ≤ d) 
    (hq : Q (.int (n : Nat)) σ) : CALL (mkC w hb g os low) d (ref 512) [.loc r, .int (k : Nat), jmpV n] σ Q := by
  refine CALL_def C (fn_512 C.K) rfl (by omega) ?_
  conv => arg 2; arg 1; whnf
  conv => arg 4; whnf
  simp only [jmpV]
  repeat tb_rel
  refine CMP_inT (ys := ["IFNOT", "JUMP", "GOTO", "GOSUB", "ONGO", "RETURN"]) ?_
  repeat tb_rel
  refine CALL_def C (fn_519 C.K) rfl (by omega) ?_
  conv => arg 2; arg 1; whnf
  conv => arg 4; whnf
  repeat tb_rel
/-- what a run does from a row on, n turns at most -/
inductive Run (rows : List V) (l' : Env0) (L' : List V) : Nat → Nat → Env0 → List V → Prop
  | done {n k : Nat} : k = rows.length → Run rows l' L' n k l' L'
  | set {n k : Nat} {l : Env0} {L : List V} {ln : Int} {x : Str} {e : T} : rows[k]? = some (row ln (letV x e)) → okT l e → cost e ≤ 1500 → Run rows l' L' n (k + 1) (putK l x (.int (ev l e))) L → Run rows l' L' (n + 1) k l L
  | rem {n k : Nat} {l : Env0} {L : List V} {ln : Int} : rows[k]? = some (row ln remV) → Run rows l' L' n (k + 1) l (L ++ [.tup [.str (S "ahead"), (getK l (S "X")).getD (.int 0)]]) → Run rows l' L' (n + 1) k l L
  | ifn {n k m : Nat} {l : Env0} {L : List V} {ln : Int} {t : T} : rows[k]? = some (row ln (ifnV t m)) → okT l t → cost t ≤ 1500 → Run rows l' L' n (if ev l t = 0 then m else k + 1) l L → Run rows l' L' (n + 1) k l L
  | jmp {n k m : Nat} {l : Env0} {L : List V} {ln : Int} : rows[k]? = some (row ln (jmpV m)) → Run rows l' L' n m l L → Run rows l' L' (n + 1) k l L

theorem putK_length {l : Env0} {x : Str} {v : V} : (putK l x v).length ≤ l.length + 1 := putK_le l x v
theorem k_go (C : CxOk (mkC w hb g os low)) {z : Pl} {rows : List V} {l l' : Env0} {L L' : List V} {d : Nat} {σ : St} {Q : Post} (hd : 19 ≤ d) (hne : z.no ≠ z.rw) (hz : rows.length ≤ 100) (hzl : l.length ≤ 100) (hzL : L.length ≤ 100) (H : RunAt w σ z rows l L) (hr : Run rows l' L' 40 0 l L)
    (hq : ∀ σ' : St, RunAt w σ' z rows l' L' → (∀ i, i ≠ z.va → i ≠ z.no → σ'[i]? = σ[i]?) → σ'.length = σ.length → Q (.int rows.length) σ') : CALL (mkC w hb g os low) d (ref 596) [.loc z.r, .int 0, .int 40] σ Q := by
  refine CALL_def C (fn_596 C.K) rfl (by omega) ?_
  conv => arg 2; arg 1; whnf
  conv => arg 4; whnf
  repeat tb_rel
  refine EX_For ?_
  refine ITX_call rfl ?_
  repeat tb_rel
  refine ITC_range (by decide) ?_
  refine (?_ : ∀ (vs : List V) (k : Nat) (l : Env0) (L : List V) (ρ : Vars) (σ₁ : St), l.length + vs.length ≤ 140 → L.length + vs.length ≤ 140 → RunAt w σ₁ z rows l L → Run rows l' L' vs.length k l L → get ρ "self" = some (.loc z.r) → get ρ "at" = some (.int (k : Nat)) → (∀ i, i ≠ z.va → i ≠ z.no → σ₁[i]? = σ[i]?) → σ₁.length = σ.length → LOOPS _ _ _ _ _ _ _ vs ρ σ₁) _ 0 l L _ σ (by simp; omega) (by simp; omega) H (by simpa using hr) rfl rfl (fun _ _ _ => rfl) rfl
  clear hr H hzl hzL
  clear l L
  intro vs
  induction vs with
  | nil =>
    intro k l L ρ σ₁ b1 b2 H hr hs ha ho hlen
    generalize hn : ([] : List V).length = n at hr
    cases hr with
    | done hk =>
      have H0 := H
      obtain ⟨h1, h2, h3, h4, h5, h6, h7, h8⟩ := H
      refine LOOPS_nil ?_
      repeat tb_rel
      rw [if_pos (by simp; omega)]
      subst hk
      have h := hq σ₁ H0 ho hlen
      repeat tb_rel
    | _ => simp at hn
  | cons v vs ih =>
    intro k l L ρ σ₁ b1 b2 H hr hs ha ho hlen
    have H0 := H
    obtain ⟨h1, h2, h3, h4, h5, h6, h7, h8⟩ := H
    simp only [List.length_cons] at b1 b2 hr
    refine LOOPS_cons (.name (.inl rfl)) ?_
    repeat tb_rel
    by_cases hk : k = rows.length
    · rw [if_pos (by simp; omega)]
      subst hk
      cases hr with
      | done _ =>
        have h := hq σ₁ H0 ho hlen
        repeat tb_rel
      | set e => simp at e
      | rem e => simp at e
      | ifn e => simp at e
      | jmp e => simp at e
    have hlt : k < rows.length := by
      cases hr with
      | done e => exact absurd e hk
      | set e => exact (List.getElem?_eq_some_iff.mp e).1
      | rem e => exact (List.getElem?_eq_some_iff.mp e).1
      | ifn e => exact (List.getElem?_eq_some_iff.mp e).1
      | jmp e => exact (List.getElem?_eq_some_iff.mp e).1
    rw [if_neg (by simp; omega)]
    repeat tb_rel
    cases hr with
    | done e => exact absurd e hk
    | set e ho' hc hr' =>
      refine GI_list (.inr ⟨_, rfl, .inl h5⟩) (by omega) (by simpa using e) ?_ (by omega)
      simp only [row, letV]
      repeat tb_rel
      refine GM_inst C h1 h2 rfl (f := 582) ⟨by kernel_rfl, by kernel_rfl, by kernel_rfl⟩ ?_
      repeat tb_rel
      refine GM_inst C h1 h2 rfl (f := 561) ⟨by kernel_rfl, by kernel_rfl, by kernel_rfl⟩ ?_
      repeat tb_rel
      refine k_rworth C (by omega) H0 ho' hc ?_
      repeat tb_rel
      refine k_rstore C (by omega) H0 (by omega) ?_
      repeat tb_rel
      refine EX_AugAdd (by simp (config := { decide := true }) only [get_put, reduceIte]; exact ha) (.inl rfl) ?_
      repeat tb_rel
      refine ⟨_, rfl, ?_⟩
      repeat tb_rel
      refine ⟨trivial, ih (k + 1) _ L _ _ (Nat.le_trans (Nat.add_le_add_right (putK_le _ _ _) _) (by omega)) (by omega) H0.setD hr' (by simp (config := { decide := true }) only [get_put, reduceIte]; assumption) (by simp (config := { decide := true }) only [get_put, reduceIte] <;> rfl) ?_ (by simp [hlen])⟩
      intro i hi hn
      rw [List.getElem?_set_ne (Ne.symm hi)]; exact ho i hi hn
    | rem e hr' =>
      refine GI_list (.inr ⟨_, rfl, .inl h5⟩) (by omega) (by simpa using e) ?_ (by omega)
      simp only [row, remV]
      repeat tb_rel
      refine GM_inst C h1 h2 rfl (f := 575) ⟨by kernel_rfl, by kernel_rfl, by kernel_rfl⟩ ?_
      repeat tb_rel
      refine k_rvon C (by omega) H0 ?_
      repeat tb_rel
      refine EX_AugAdd (by simp (config := { decide := true }) only [get_put, reduceIte]; exact ha) (.inl rfl) ?_
      repeat tb_rel
      refine ⟨_, rfl, ?_⟩
      repeat tb_rel
      refine ⟨trivial, ih (k + 1) l _ _ _ (by omega) (by simp; omega) (H0.setN hne) hr' (by simp (config := { decide := true }) only [get_put, reduceIte]; assumption) (by simp (config := { decide := true }) only [get_put, reduceIte] <;> rfl) ?_ (by simp [hlen])⟩
      intro i hi hn
      rw [List.getElem?_set_ne (Ne.symm hn)]; exact ho i hi hn
    | ifn e ho' hc hr' =>
      refine GI_list (.inr ⟨_, rfl, .inl h5⟩) (by omega) (by simpa using e) ?_ (by omega)
      simp only [row, ifnV]
      repeat tb_rel
      refine k_ifn C (by omega) H0 ho' hc ?_
      repeat tb_rel
      refine ⟨trivial, ih _ l L _ _ (by omega) (by omega) H0 hr' (by simp (config := { decide := true }) only [get_put, reduceIte]; assumption) (by simp (config := { decide := true }) only [get_put, reduceIte] <;> rfl) ho hlen⟩
    | jmp e hr' =>
      refine GI_list (.inr ⟨_, rfl, .inl h5⟩) (by omega) (by simpa using e) ?_ (by omega)
      simp only [row, jmpV]
      repeat tb_rel
      refine k_jmp C (by omega) ?_
      repeat tb_rel
      refine ⟨trivial, ih _ l L _ _ (by omega) (by omega) H0 hr' (by simp (config := { decide := true }) only [get_put, reduceIte]; assumption) (by simp (config := { decide := true }) only [get_put, reduceIte] <;> rfl) ho hlen⟩
def runO (n f va lam : Nat) : St := [.attrs (runA f va lam (n + 3) (n + 5)), .inst 599 n, .attrs [(S "pile", .loc (n + 4)), (S "most", .int 20), (S "failed_at", .int (-1))], .inst 307 (n + 2), .list [], .list []]
theorem k_run (C : CxOk (mkC w hb g os low)) {f va lam : Nat} {d : Nat} {σ : St} {Q : Post} (hd : 6 ≤ d) (h : Q (.loc (σ.length + 1)) (σ ++ runO σ.length f va lam)) : CALL (mkC w hb g os low) d (ref 599) [.loc f, .loc va, .loc lam, .int 32, .int 9] σ Q := by
  refine CALL_make C (f := 554) (by kernel_rfl) (by kernel_rfl) (by kernel_rfl) (fn_554 C.K) rfl (by omega) ?_
  conv => arg 2; arg 1; whnf
  conv => arg 4; whnf
  repeat tb_rel
  refine CALL_make C (f := 304) (by kernel_rfl) (by kernel_rfl) (by kernel_rfl) (fn_304 C.K) rfl (by omega) ?_
  conv => arg 2; arg 1; whnf
  conv => arg 4; whnf
  repeat tb_rel
  simp (config := { proj := false }) only [List.append_assoc, List.cons_append, List.nil_append, set_app0, List.set_cons_zero, List.length_append, List.length_cons, List.length_nil, Nat.zero_add, Nat.reduceAdd]
  refine EV_List ?_
  repeat tb_rel
  simp (config := { proj := false }) only [List.append_assoc, List.cons_append, List.nil_append, set_app0, set_appk, List.set_cons_zero, List.set_cons_succ, List.length_append, List.length_cons, List.length_nil, Nat.zero_add, Nat.reduceAdd, Nat.add_assoc]
  refine attrSet (n := σ.length + 3) (k := σ.length + 2) (app_k rfl) (app_k rfl) ⟨by kernel_rfl, by kernel_rfl, by kernel_rfl, by kernel_rfl⟩ (by first | exact Nat.le_of_ble_eq_true rfl | decide | simp) ?_
  simp (config := { proj := false }) only [List.append_assoc, List.cons_append, List.nil_append, set_app0, set_appk, List.set_cons_zero, List.set_cons_succ, List.length_append, List.length_cons, List.length_nil, Nat.zero_add, Nat.reduceAdd, Nat.add_assoc]
  repeat tb_rel
  refine ⟨_, rfl, ?_⟩
  repeat tb_rel
  simp (config := { proj := false }) only [List.append_assoc, List.cons_append, List.nil_append, set_app0, set_appk, List.set_cons_zero, List.set_cons_succ, List.length_append, List.length_cons, List.length_nil, Nat.zero_add, Nat.reduceAdd, Nat.add_assoc]
  try repeat tb_rel
  refine ⟨rfl, ?_⟩
  repeat tb_rel
  refine EV_List ?_
  repeat tb_rel
  simp (config := { proj := false }) only [List.append_assoc, List.cons_append, List.nil_append, set_app0, set_appk, List.set_cons_zero, List.set_cons_succ, List.length_append, List.length_cons, List.length_nil, Nat.zero_add, Nat.reduceAdd, Nat.add_assoc]
  try repeat tb_rel
  exact ⟨rfl, h⟩
theorem getK_putne {K : Type} [DecidableEq K] {α : Type} (l : List (K × α)) {k x : K} (v : α) (hx : x ≠ k) : getK (putK l k v) x = getK l x := by
  unfold putK
  split
  · (rename_i hh; clear hh)
    induction l with
    | nil => rfl
    | cons p l ih =>
      obtain ⟨y, u⟩ := p
      simp only [List.map_cons]
      by_cases hy : y = k
      · rw [if_pos hy]
        simp only [getK]
        rw [ih]
        by_cases h : y = x
        · exact absurd (h.symm.trans hy) hx
        · simp only [h, if_false]
      · rw [if_neg hy]
        simp only [getK]
        rw [ih]
  · (rename_i hh; clear hh)
    induction l with
    | nil => simp only [List.nil_append, getK]; rw [if_neg (Ne.symm hx)]
    | cons p l ih =>
      obtain ⟨y, u⟩ := p
      simp only [List.cons_append, getK]
      rw [ih]
theorem look_put {l : Env0} {x : Str} {n : Int} : look (putK l x (.int n)) x = n := by unfold look; rw [getK_put]
theorem look_putne {l : Env0} {x y : Str} {v : V} (h : y ≠ x) : look (putK l x v) y = look l y := by unfold look; rw [getK_putne _ _ h]

def Ar : T → Prop
  | .nm x => x ∈ ABC
  | .wh n => n = 3
  | .two op a b => op ∈ pm ∧ Ar a ∧ Ar b
  | .nt _ => False
def wd : T → Nat
  | .two _ a b => wd a + wd b
  | _ => 1
def Bo (k : Nat) : T → Prop
  | .two op a b => (op ∈ cps ∧ Ar a ∧ Ar b ∧ wd a ≤ k ∧ wd b ≤ k) ∨ (op ∈ lgs ∧ Bo k a ∧ Bo k b)
  | .nt a => Bo k a
  | _ => False
def lv : T → Nat
  | .two _ a b => lv a + lv b
  | .nt a => lv a
  | _ => 1
/-- the names have whole numbers of such a size -/
def EnvB (l : Env0) (M : Nat) : Prop := ∀ x ∈ ABC, getK l x = some (.int (look l x)) ∧ -(M : Int) ≤ look l x ∧ look l x ≤ M
theorem EnvB.has {l : Env0} {M : Nat} (h : EnvB l M) : has l := fun x m => (h x m).1

theorem ar_size {l : Env0} {M : Nat} (hl : EnvB l M) (hM : 3 ≤ M) : ∀ (t : T), Ar t → -((wd t * M : Nat) : Int) ≤ ev l t ∧ ev l t ≤ (wd t * M : Nat)
  | .nm x, h => by have := hl x h; simp only [wd, ev, Nat.one_mul]; exact this.2
  | .wh n, h => by simp only [Ar] at h; subst h; simp only [wd, ev, Nat.one_mul]; omega
  | .two op a b, h => by
    have ha := ar_size hl hM a h.2.1
    have hb := ar_size hl hM b h.2.2
    simp only [wd, ev, Nat.add_mul]
    rw [opF_pm h.1]
    unfold arF
    split <;> omega
  | .nt a, h => h.elim
theorem ar_ok {l : Env0} {M : Nat} (hl : EnvB l M) (hM : 3 ≤ M) : ∀ (t : T), Ar t → wd t * M ≤ 1000000 → okT l t
  | .nm x, h, hz => by have := hl x h; simp only [wd, Nat.one_mul] at hz; exact ⟨this.1, by constructor <;> omega⟩
  | .wh n, h, hz => by simp only [Ar] at h; subst h; constructor <;> decide
  | .two op a b, h, hz => by
    have hs := ar_size hl hM (.two op a b) h
    have hz' := hz
    simp only [wd, Nat.add_mul] at hz
    refine ⟨ar_ok hl hM a h.2.1 (by omega), ar_ok hl hM b h.2.2 (by omega), .inl ⟨h.1, ?_⟩⟩
    simp only [ev] at hs
    rw [opF_pm h.1] at hs
    constructor <;> omega
  | .nt a, h, _ => h.elim
theorem tr_isB (b : Bool) : isB (tr b) := by cases b <;> simp [tr, isB]
theorem lgF_isB {op : Str} {x y : Int} : isB (lgF op x y) := by unfold lgF isB; split <;> split <;> simp
theorem bo_ok {l : Env0} {M k : Nat} (hl : EnvB l M) (hM : 3 ≤ M) (hk : k * M ≤ 1000000) : ∀ (t : T), Bo k t → okT l t ∧ isB (ev l t)
  | .nm x, h => h.elim
  | .wh n, h => h.elim
  | .two op a b, h => by
    rcases h with ⟨h1, h2, h3, h4, h5⟩ | ⟨h1, h2, h3⟩
    · refine ⟨⟨ar_ok hl hM a h2 (Nat.le_trans (Nat.mul_le_mul_right _ h4) hk), ar_ok hl hM b h3 (Nat.le_trans (Nat.mul_le_mul_right _ h5) hk), .inr (.inl h1)⟩, ?_⟩
      simp only [ev]; rw [opF_cps h1]; exact tr_isB _
    · obtain ⟨a1, a2⟩ := bo_ok hl hM hk a h2
      obtain ⟨b1, b2⟩ := bo_ok hl hM hk b h3
      refine ⟨⟨a1, b1, .inr (.inr ⟨h1, a2, b2⟩)⟩, ?_⟩
      simp only [ev]; rw [opF_lgs h1]; exact lgF_isB
  | .nt a, h => by
    obtain ⟨a1, a2⟩ := bo_ok hl hM hk a h
    refine ⟨⟨a1, a2.small⟩, ?_⟩
    simp only [ev]
    rcases a2 with e | e <;> rw [e] <;> simp [isB]

theorem ev_sub {l : Env0} {x : Str} {e : T} : ∀ t : T, ev l (t.sub x e) = ev (putK l x (.int (ev l e))) t
  | .nm y => by
    simp only [T.sub]
    by_cases h : y = x
    · rw [if_pos h]; subst h; simp only [ev, look_put]
    · rw [if_neg h]; simp only [ev]; rw [look_putne h]
  | .wh n => rfl
  | .two op a b => by simp only [T.sub, ev]; rw [ev_sub a, ev_sub b]
  | .nt a => by simp only [T.sub, ev]; rw [ev_sub a]
theorem ar_sub {x : Str} {e : T} (he : Ar e) (hw : wd e ≤ 2) : ∀ t : T, Ar t → Ar (t.sub x e) ∧ wd (t.sub x e) ≤ 2 * wd t
  | .nm y, h => by
    simp only [T.sub]
    split
    · exact ⟨he, by simpa [wd] using hw⟩
    · exact ⟨h, by simp [wd]⟩
  | .wh n, h => ⟨h, by simp [wd, T.sub]⟩
  | .two op a b, h => by
    have ha := ar_sub (x := x) he hw a h.2.1
    have hb := ar_sub (x := x) he hw b h.2.2
    exact ⟨⟨h.1, ha.1, hb.1⟩, by simp only [T.sub, wd]; omega⟩
  | .nt a, h => h.elim
theorem bo_sub {x : Str} {e : T} {k : Nat} (he : Ar e) (hw : wd e ≤ 2) : ∀ t : T, Bo k t → Bo (2 * k) (t.sub x e)
  | .nm y, h => h.elim
  | .wh n, h => h.elim
  | .two op a b, h => by
    rcases h with ⟨h1, h2, h3, h4, h5⟩ | ⟨h1, h2, h3⟩
    · have ha := ar_sub (x := x) he hw a h2
      have hb := ar_sub (x := x) he hw b h3
      exact .inl ⟨h1, ha.1, hb.1, by omega, by omega⟩
    · exact .inr ⟨h1, bo_sub he hw a h2, bo_sub he hw b h3⟩
  | .nt a, h => bo_sub he hw a h
theorem bo_mono {k k' : Nat} (hk : k ≤ k') : ∀ t : T, Bo k t → Bo k' t
  | .nm y, h => h.elim
  | .wh n, h => h.elim
  | .two op a b, h => by
    rcases h with ⟨h1, h2, h3, h4, h5⟩ | ⟨h1, h2, h3⟩
    · exact .inl ⟨h1, h2, h3, by omega, by omega⟩
    · exact .inr ⟨h1, bo_mono hk a h2, bo_mono hk b h3⟩
  | .nt a, h => bo_mono hk a h
theorem lv_sub {x : Str} {e : T} (hl : lv e ≤ 2) (hc : cost e ≤ 4) : ∀ t : T, lv (t.sub x e) ≤ 2 * lv t ∧ cost (t.sub x e) ≤ cost t + 3 * lv t
  | .nm y => by simp only [T.sub]; split <;> simp [lv, cost] <;> omega
  | .wh n => by simp [T.sub, lv, cost]
  | .two op a b => by have := lv_sub (x := x) hl hc a; have := lv_sub (x := x) hl hc b; simp only [T.sub, lv, cost]; omega
  | .nt a => by have := lv_sub (x := x) hl hc a; simp only [T.sub, lv, cost]; omega

theorem leaf_facts {t : T} (h : isLeaf t) : Ar t ∧ wd t = 1 ∧ lv t = 1 ∧ cost t = 1 := by
  rcases h with ⟨x, hx, rfl⟩ | rfl
  · exact ⟨hx, rfl, rfl, rfl⟩
  · exact ⟨rfl, rfl, rfl, rfl⟩
theorem leaf_ev {t : T} (l : Env0) (h : isLeaf t) : ev l t = lf l t := by rcases h with ⟨x, hx, rfl⟩ | rfl <;> rfl
theorem pm_facts {e : T} (h : isTwo pm e) : Ar e ∧ wd e = 2 ∧ lv e = 2 ∧ cost e = 4 ∧ ∀ l, ev l e = e.val l := by
  obtain ⟨op, a, b, hop, ha, hb, rfl⟩ := h
  obtain ⟨a1, a2, a3, a4⟩ := leaf_facts ha
  obtain ⟨b1, b2, b3, b4⟩ := leaf_facts hb
  refine ⟨⟨hop, a1, b1⟩, by simp [wd, a2, b2], by simp [lv, a3, b3], by simp [cost, a4, b4], fun l => ?_⟩
  simp only [ev, T.val]; rw [opF_pm hop, leaf_ev l ha, leaf_ev l hb]
theorem cps_facts {e : T} (h : isTwo cps e) : Bo 1 e ∧ lv e = 2 ∧ cost e = 4 ∧ ∀ l, ev l e = tr (e.tst l) := by
  obtain ⟨op, a, b, hop, ha, hb, rfl⟩ := h
  obtain ⟨a1, a2, a3, a4⟩ := leaf_facts ha
  obtain ⟨b1, b2, b3, b4⟩ := leaf_facts hb
  refine ⟨.inl ⟨hop, a1, b1, by omega, by omega⟩, by simp [lv, a3, b3], by simp [cost, a4, b4], fun l => ?_⟩
  simp only [ev, T.tst]; rw [opF_cps hop, leaf_ev l ha, leaf_ev l hb]

theorem bo_ahead {s : P} (hs : isP s) {k : Nat} (hk : 1 ≤ k) {q : T} (hq : Bo k q) : Bo (2 * k) (s.ahead q) ∧ lv (s.ahead q) ≤ 4 + 4 * lv q ∧ cost (s.ahead q) ≤ 16 + 2 * (cost q + 3 * lv q) := by
  cases s with
  | set x e =>
    obtain ⟨e1, e2, e3, e4, _⟩ := pm_facts hs.2
    have := lv_sub (x := x) (by omega : lv e ≤ 2) (by omega) q
    exact ⟨bo_sub e1 (by omega) q hq, by simp only [P.ahead]; omega, by simp only [P.ahead]; omega⟩
  | br c x₁ e₁ x₂ e₂ =>
    obtain ⟨h1, h2, h3, h4, h5⟩ := hs
    obtain ⟨c1, c2, c3, _⟩ := cps_facts h1
    obtain ⟨e1, e2, e3, e4, _⟩ := pm_facts h3
    obtain ⟨f1, f2, f3, f4, _⟩ := pm_facts h5
    have hA := lv_sub (x := x₁) (by omega : lv e₁ ≤ 2) (by omega) q
    have hB := lv_sub (x := x₂) (by omega : lv e₂ ≤ 2) (by omega) q
    refine ⟨.inr ⟨by decide, .inr ⟨by decide, bo_mono (by omega) _ c1, bo_sub e1 (by omega) q hq⟩, .inr ⟨by decide, bo_mono (by omega) c c1, bo_sub f1 (by omega) q hq⟩⟩, ?_, ?_⟩
    · simp only [P.ahead, lv]; omega
    · simp only [P.ahead, cost]; omega
theorem ev_ahead {s : P} (hs : isP s) {k M : Nat} (hM : 3 ≤ M) (hk : k * M ≤ 100000) {l : Env0} (hl : EnvB l M) {q : T} (hq : Bo k q) (hl' : ∀ x e, x ∈ ABC → isTwo pm e → EnvB (putK l x (.int (e.val l))) (2 * M)) : ev l (s.ahead q) = ev (s.run l) q := by
  cases s with
  | set x e =>
    obtain ⟨e1, e2, e3, e4, e5⟩ := pm_facts hs.2
    simp only [P.ahead, P.run]; rw [ev_sub, e5]
  | br c x₁ e₁ x₂ e₂ =>
    obtain ⟨h1, h2, h3, h4, h5⟩ := hs
    obtain ⟨c1, c2, c3, c4⟩ := cps_facts h1
    obtain ⟨e1, e2, e3, e4, e5⟩ := pm_facts h3
    obtain ⟨f1, f2, f3, f4, f5⟩ := pm_facts h5
    have k1 := (bo_ok (hl' x₁ e₁ h2 h3) (by omega) (show k * (2 * M) ≤ 1000000 by rw [Nat.mul_left_comm]; omega) q hq).2
    have k2 := (bo_ok (hl' x₂ e₂ h4 h5) (by omega) (show k * (2 * M) ≤ 1000000 by rw [Nat.mul_left_comm]; omega) q hq).2
    simp only [P.ahead, P.run, ev]
    rw [ev_sub, ev_sub, c4, e5, f5, opF_lgs (by decide), opF_lgs (by decide), opF_lgs (by decide)]
    have hne : ¬ S "OR" = S "AND" := by decide
    cases hcc : c.tst l <;> rcases k1 with g1 | g1 <;> rcases k2 with g2 | g2 <;> simp [lgF, tr, hcc, g1, g2, hne]
theorem X_not : ¬ S "X" ∈ ABC := by decide
theorem EnvB.mono {l : Env0} {M M' : Nat} (h : EnvB l M) (hM : M ≤ M') : EnvB l M' := fun x m => by have := h x m; exact ⟨this.1, by omega, by omega⟩
theorem EnvB.put {l : Env0} {M : Nat} (h : EnvB l M) (hM : 3 ≤ M) {x : Str} {e : T} (he : isTwo pm e) : EnvB (putK l x (.int (e.val l))) (2 * M) := fun y m => by
  obtain ⟨e1, e2, e3, e4, e5⟩ := pm_facts he
  by_cases hy : y = x
  · subst hy
    rw [getK_put, look_put]
    have := ar_size h hM e e1
    rw [e2, e5] at this
    exact ⟨rfl, this.1, this.2⟩
  · rw [getK_putne _ _ hy, look_putne hy]
    have := h y m
    exact ⟨this.1, by omega, by omega⟩
theorem EnvB.X {l : Env0} {M : Nat} (h : EnvB l M) (n : Int) : EnvB (putK l (S "X") (.int n)) M := fun y m => by
  have hy : y ≠ S "X" := fun e => X_not (e ▸ m)
  rw [getK_putne _ _ hy, look_putne hy]; exact h y m
theorem EnvB.run {l : Env0} {M : Nat} (h : EnvB l M) (hM : 3 ≤ M) {s : P} (hs : isP s) : EnvB (s.run l) (2 * M) := by
  cases s with
  | set x e => exact h.put hM hs.2
  | br c x₁ e₁ x₂ e₂ =>
    simp only [P.run]
    split
    · exact h.put hM hs.2.2.1
    · exact h.put hM hs.2.2.2.2
/-- the two agree at the names -/
def Ag (l l' : Env0) : Prop := ∀ x ∈ ABC, look l x = look l' x
theorem Ag.X (l : Env0) (v : V) : Ag (putK l (S "X") v) l := fun y m => look_putne fun e => X_not (e ▸ m)
theorem ag_lf {l l' : Env0} (h : Ag l l') {t : T} (ht : isLeaf t) : lf l t = lf l' t := by
  rcases ht with ⟨x, hx, rfl⟩ | rfl
  · exact h x hx
  · rfl
theorem ag_val {l l' : Env0} (h : Ag l l') {e : T} {ops : List Str} (he : isTwo ops e) : e.val l = e.val l' := by
  obtain ⟨op, a, b, hop, ha, hb, rfl⟩ := he
  simp only [T.val]; rw [ag_lf h ha, ag_lf h hb]
theorem ag_tst {l l' : Env0} (h : Ag l l') {e : T} {ops : List Str} (he : isTwo ops e) : e.tst l = e.tst l' := by
  obtain ⟨op, a, b, hop, ha, hb, rfl⟩ := he
  simp only [T.tst]; rw [ag_lf h ha, ag_lf h hb]
theorem ag_put {l l' : Env0} (h : Ag l l') {x : Str} {n n' : Int} (hn : n = n') : Ag (putK l x (.int n)) (putK l' x (.int n')) := fun y m => by
  subst hn
  by_cases hy : y = x
  · subst hy; rw [look_put, look_put]
  · rw [look_putne hy, look_putne hy]; exact h y m
theorem ag_run {l l' : Env0} (h : Ag l l') {s : P} (hs : isP s) : Ag (s.run l) (s.run l') := by
  cases s with
  | set x e => exact ag_put h (ag_val h hs.2)
  | br c x₁ e₁ x₂ e₂ =>
    simp only [P.run]
    rw [ag_tst h hs.1]
    split
    · exact ag_put h (ag_val h hs.2.2.1)
    · exact ag_put h (ag_val h hs.2.2.2.2)
theorem ag_ar {l l' : Env0} (h : Ag l l') : ∀ t : T, Ar t → ev l t = ev l' t
  | .nm x, ht => h x ht
  | .wh n, _ => rfl
  | .two op a b, ht => by simp only [ev]; rw [ag_ar h a ht.2.1, ag_ar h b ht.2.2]
  | .nt a, ht => ht.elim
theorem ag_bo {l l' : Env0} (h : Ag l l') {k : Nat} : ∀ t : T, Bo k t → ev l t = ev l' t
  | .nm x, ht => ht.elim
  | .wh n, ht => ht.elim
  | .two op a b, ht => by
    simp only [ev]
    rcases ht with ⟨_, h2, h3, _, _⟩ | ⟨_, h2, h3⟩
    · rw [ag_ar h a h2, ag_ar h b h3]
    · rw [ag_bo h a h2, ag_bo h b h3]
  | .nt a, ht => by simp only [ev]; rw [ag_bo h a ht]

theorem Run.more {rows : List V} {l' : Env0} {L' : List V} {n k : Nat} {l : Env0} {L : List V} (h : Run rows l' L' n k l L) : ∀ m, Run rows l' L' (n + m) k l L := by
  induction h with
  | done e => exact fun m => .done e
  | set h1 h2 h3 h4 ih => intro m; rw [Nat.add_right_comm]; exact .set h1 h2 h3 (ih m)
  | rem h1 h4 ih => intro m; rw [Nat.add_right_comm]; exact .rem h1 (ih m)
  | ifn h1 h2 h3 h4 ih => intro m; rw [Nat.add_right_comm]; exact .ifn h1 h2 h3 (ih m)
  | jmp h1 h4 ih => intro m; rw [Nat.add_right_comm]; exact .jmp h1 (ih m)
def note (n : Int) : V := .tup [.str (S "ahead"), .int n]

theorem run_head {rows pre post : List V} {ln : Int} {t : T} (hrows : rows = pre ++ (headR ln t ++ post)) {l l' : Env0} {L L' : List V} {n : Nat} (ht : okT l t) (hc : cost t ≤ 1500)
    (h : Run rows l' L' n (pre.length + 2) (putK l (S "X") (.int (ev l t))) (L ++ [note (ev l t)])) : Run rows l' L' (n + 2) pre.length l L := by
  refine .set (ln := ln) (x := S "X") (e := t) (by rw [hrows]; simp [headR, letR]) ht hc (.rem (ln := ln) (by rw [hrows]; simp [headR]) ?_)
  rw [getK_put]
  exact h
theorem run_stmt {rows pre post : List V} {ln : Int} {s : P} (hs : isP s) {i : Nat} (hi : i = pre.length) (hrows : rows = pre ++ (s.rows ln i ++ post)) {l l' : Env0} {L L' : List V} {n M : Nat} (hl : EnvB l M) (hM : 3 ≤ M) (hz : M ≤ 1000)
    (h : Run rows l' L' n (pre.length + (s.rows ln i).length) (s.run l) L) : Run rows l' L' (n + 3) pre.length l L := by
  subst hi
  have okpm : ∀ e, isTwo pm e → okT l e ∧ cost e ≤ 1500 ∧ ev l e = e.val l := fun e he => by
    obtain ⟨e1, e2, e3, e4, e5⟩ := pm_facts he
    exact ⟨ar_ok hl hM e e1 (by rw [e2]; omega), by omega, e5 l⟩
  cases s with
  | set x e =>
    obtain ⟨k1, k2, k3⟩ := okpm e hs.2
    have := Run.set (rows := rows) (l' := l') (L' := L') (n := n) (k := pre.length) (l := l) (L := L) (ln := ln) (x := x) (e := e) (by rw [hrows]; simp [P.rows, letR]) k1 k2 (by rw [k3]; exact h)
    exact this.more 2
  | br c x₁ e₁ x₂ e₂ =>
    obtain ⟨h1, h2, h3, h4, h5⟩ := hs
    obtain ⟨c1, c2, c3, c4⟩ := cps_facts h1
    obtain ⟨k1, k2, k3⟩ := okpm e₁ h3
    obtain ⟨m1, m2, m3⟩ := okpm e₂ h5
    have hok := (bo_ok hl hM (show 1 * M ≤ 1000000 by omega) c c1).1
    refine .ifn (ln := ln) (t := c) (m := pre.length + 3) (by rw [hrows]; simp [P.rows, ifnV]) hok (by omega) ?_
    rw [c4 l]
    simp only [P.run] at h
    cases hcc : c.tst l with
    | true =>
      rw [hcc, if_pos rfl] at h
      rw [if_neg (by decide)]
      refine .set (ln := ln) (x := x₁) (e := e₁) (by rw [hrows]; simp [P.rows, letR]) k1 k2 ?_
      refine .jmp (ln := ln) (m := pre.length + 4) (by rw [hrows, List.getElem?_append_right (by omega)]; simp [P.rows, jmpV, Nat.add_sub_cancel_left, Nat.add_assoc]) ?_
      rw [k3]; exact h
    | false =>
      rw [hcc, if_neg (by decide)] at h
      rw [if_pos (by decide)]
      have := Run.set (rows := rows) (l' := l') (L' := L') (n := n) (k := pre.length + 3) (l := l) (L := L) (ln := ln) (x := x₂) (e := e₂) (by rw [hrows]; simp [P.rows, letR]) m1 m2 (by rw [m3]; exact h)
      exact this.more 1
theorem addL_pre (L : List V) (ln : Int) (t : T) (s : P) : addL L ln t s = L ++ (headR ln t ++ s.rows ln (L.length + 2)) := rfl
/-- one line: what is told ahead, and the statement -/
theorem run_line {rows pre : List V} {ln : Int} {t : T} {s : P} (hs : isP s) (hrows : addL pre ln t s <+: rows) {l l' : Env0} {L L' : List V} {n M k : Nat} (hl : EnvB l M) (hM : 3 ≤ M) (hz : M ≤ 1000) (hb : Bo k t) (hk : k * M ≤ 1000000) (hc : cost t ≤ 1500)
    (h : Run rows l' L' n (addL pre ln t s).length (s.run (putK l (S "X") (.int (ev l t)))) (L ++ [note (ev l t)])) : Run rows l' L' (n + 5) pre.length l L := by
  obtain ⟨post, hrows⟩ := hrows
  replace hrows := hrows.symm
  refine run_head (ln := ln) (post := s.rows ln (pre.length + 2) ++ post) (by rw [hrows, addL_pre]; simp) (bo_ok hl hM hk t hb).1 hc ?_
  have := run_stmt (rows := rows) (pre := pre ++ headR ln t) (post := post) (ln := ln) hs (i := pre.length + 2) (by simp [headR]) (by rw [hrows, addL_pre]; simp) (l' := l') (L' := L') (L := L ++ [note (ev l t)]) (n := n) (hl.X (ev l t)) hM hz
  rw [show (pre ++ headR ln t).length = pre.length + 2 by simp [headR]] at this
  refine this ?_
  rw [show pre.length + 2 + (s.rows ln (pre.length + 2)).length = (addL pre ln t s).length by rw [addL_pre]; simp [headR]; omega]
  exact h

theorem getX_put {l : Env0} {x : Str} {v : V} (hx : x ∈ ABC) : getK (putK l x v) (S "X") = getK l (S "X") := getK_putne _ _ fun e => X_not (e ▸ hx)

theorem run_all {s0 s1 s2 : P} {due : T} (h0 : isP s0) (h1 : isP s1) (h2 : isP s2) (hd : isTwo cps due) {l : Env0} (hl : EnvB l 6) :
    ∃ l', Run (allRows (s0.ahead (s1.ahead (s2.ahead due))) s0 (s1.ahead (s2.ahead due)) s1 (s2.ahead due) s2 due) l' (List.replicate 4 (note (tr (due.tst (s2.run (s1.run (s0.run l))))))) 40 0 l [] ∧
      Ag l' (s2.run (s1.run (s0.run l))) ∧ getK l' (S "X") = some (.int (tr (due.tst (s2.run (s1.run (s0.run l)))))) ∧ EnvB l' 48 := by
  obtain ⟨d1, d2, d3, d4⟩ := cps_facts hd
  obtain ⟨b2, v2, c2⟩ := bo_ahead h2 (Nat.le_refl 1) d1
  obtain ⟨b1, v1, c1⟩ := bo_ahead h1 (by omega) b2
  obtain ⟨b0, v0, c0⟩ := bo_ahead h0 (by omega) b1
  have hEv : ∀ {l₁ l₂ : Env0} {M k : Nat} {s : P} {q : T}, isP s → EnvB l₁ M → 3 ≤ M → k * M ≤ 100000 → Bo k q → ev l₁ (s.ahead q) = ev (s.run l₁) q := fun hs he hM hk hq => ev_ahead hs hM hk he hq fun x e _ hee => he.put hM hee
  have L1 := hl.run (by omega) h0
  have L2 := L1.run (by omega) h1
  have L3 := L2.run (by omega) h2
  generalize hv : tr (due.tst (s2.run (s1.run (s0.run l)))) = v
  have e3 : ev (s2.run (s1.run (s0.run l))) due = v := by rw [d4]; exact hv
  have e2 : ev (s1.run (s0.run l)) (s2.ahead due) = v := by rw [← e3]; exact hEv (M := 24) (l₂ := l) h2 L2 (by omega) (by omega) d1
  have e1 : ev (s0.run l) (s1.ahead (s2.ahead due)) = v := by rw [← e2]; exact hEv (M := 12) (l₂ := l) h1 L1 (by omega) (by omega) b2
  have e0 : ev l (s0.ahead (s1.ahead (s2.ahead due))) = v := by rw [← e1]; exact hEv (M := 6) (l₂ := l) h0 hl (by omega) (by omega) b1
  -- the run's own values
  have A0 := hl.X v
  have A1 := A0.run (by omega) h0
  have g1 : Ag (s0.run (putK l (S "X") (.int v))) (s0.run l) := ag_run (Ag.X l _) h0
  generalize hm1 : s0.run (putK l (S "X") (.int v)) = m1 at *
  have f1 : ev m1 (s1.ahead (s2.ahead due)) = v := by rw [ag_bo g1 _ b1]; exact e1
  have B1 := A1.X v
  have B2 := B1.run (by omega) h1
  have g2 : Ag (s1.run (putK m1 (S "X") (.int v))) (s1.run (s0.run l)) := ag_run (fun x m => (Ag.X m1 _ x m).trans (g1 x m)) h1
  generalize hm2 : s1.run (putK m1 (S "X") (.int v)) = m2 at *
  have f2 : ev m2 (s2.ahead due) = v := by rw [ag_bo g2 _ b2]; exact e2
  have C2 := B2.X v
  have C3 := C2.run (by omega) h2
  have g3 : Ag (s2.run (putK m2 (S "X") (.int v))) (s2.run (s1.run (s0.run l))) := ag_run (fun x m => (Ag.X m2 _ x m).trans (g2 x m)) h2
  generalize hm3 : s2.run (putK m2 (S "X") (.int v)) = m3 at *
  have f3 : ev m3 due = v := by rw [ag_bo g3 _ d1]; exact e3
  refine ⟨putK m3 (S "X") (.int v), ?_, fun x m => (Ag.X m3 _ x m).trans (g3 x m), getK_put _ _ _, (C3.X v).mono (by omega)⟩
  have r3 : Run (allRows (s0.ahead (s1.ahead (s2.ahead due))) s0 (s1.ahead (s2.ahead due)) s1 (s2.ahead due) s2 due) (putK m3 (S "X") (.int v)) [note v, note v, note v, note v] 2 (addL (addL (addL [] 10 (s0.ahead (s1.ahead (s2.ahead due))) s0) 20 (s1.ahead (s2.ahead due)) s1) 30 (s2.ahead due) s2).length m3 [note v, note v, note v] := by
    refine run_head (n := 0) (post := []) (ln := 40) (t := due) (by simp [allRows]) (bo_ok C3 (by omega) (by omega) due d1).1 (by omega) ?_
    rw [f3]
    exact .done (by simp [allRows, headR])
  have pL : ∀ (L : List V) (ln : Int) (t : T) (s : P), L <+: addL L ln t s := fun L ln t s => List.prefix_append _ _
  have p3 : addL (addL (addL [] 10 (s0.ahead (s1.ahead (s2.ahead due))) s0) 20 (s1.ahead (s2.ahead due)) s1) 30 (s2.ahead due) s2 <+: allRows (s0.ahead (s1.ahead (s2.ahead due))) s0 (s1.ahead (s2.ahead due)) s1 (s2.ahead due) s2 due := List.prefix_append _ _
  have p2 := (pL (addL (addL [] 10 (s0.ahead (s1.ahead (s2.ahead due))) s0) 20 (s1.ahead (s2.ahead due)) s1) 30 (s2.ahead due) s2).trans p3
  have p1 := (pL (addL [] 10 (s0.ahead (s1.ahead (s2.ahead due))) s0) 20 (s1.ahead (s2.ahead due)) s1).trans p2
  have r2 := run_line (n := 2) h2 p3 (L := [note v, note v]) B2 (by omega) (by omega) b2 (by omega) (by omega) (by rw [f2, hm3]; exact r3)
  have r1 := run_line (n := 2 + 5) h1 p2 (L := [note v]) A1 (by omega) (by omega) b1 (by omega) (by omega) (by rw [f1, hm2]; exact r2)
  have r0 := run_line (n := 2 + 5 + 5) h0 p1 (L := []) hl (by omega) (by omega) b0 (by omega) (by omega) (by rw [e0, hm1]; exact r1)
  exact r0.more 23
noncomputable abbrev lawSc (w : World) : Sc := ⟨(fdOf (ob (hdA.heap_39 w.params) 793)).scope, .ref 792⟩
noncomputable def lawRest (w : World) (k : Nat) : List Stmt := (bodyOf (ob (hdA.heap_39 w.params) 793)).drop k
theorem T.dp_sub {x : Str} {e : T} : ∀ q : T, (q.sub x e).dp ≤ q.dp + e.dp
  | .nm y => by simp only [T.sub]; split <;> simp [T.dp]
  | .wh n => by simp [T.sub, T.dp]
  | .two op a b => by have := T.dp_sub (x := x) (e := e) a; have := T.dp_sub (x := x) (e := e) b; simp only [T.sub, T.dp]; omega
  | .nt a => by have := T.dp_sub (x := x) (e := e) a; simp only [T.sub, T.dp]; omega
theorem leaf_dp {t : T} (h : isLeaf t) : t.dp = 0 := by rcases h with ⟨x, _, rfl⟩ | rfl <;> rfl
theorem two_dp {t : T} {ops : List Str} (h : isTwo ops t) : t.dp = 1 := by
  obtain ⟨op, a, b, _, ha, hb, rfl⟩ := h
  simp [T.dp, leaf_dp ha, leaf_dp hb]
theorem P.dp_ahead {s : P} (hs : isP s) (q : T) : (s.ahead q).dp ≤ q.dp + 4 := by
  cases s with
  | set x e => have := T.dp_sub (x := x) (e := e) q; have := two_dp hs.2; simp only [P.ahead]; omega
  | br c x₁ e₁ x₂ e₂ =>
    obtain ⟨h1, h2, h3, h4, h5⟩ := hs
    have := T.dp_sub (x := x₁) (e := e₁) q; have := T.dp_sub (x := x₂) (e := e₂) q
    have := two_dp h1; have := two_dp h3; have := two_dp h5
    simp only [P.ahead, T.dp]; omega

theorem k_lawE (C : CxOk (mkC w hb g os low)) {d : Nat} {R : Fl → Vars → St → Prop} (hd : 30 ≤ d) (h : ∀ ρ σ ps, σ[0]? = some (.tab 790 ps) → R (.ret (.bool true)) ρ σ)
    {v : Nat} {l l' : Env0} {rows : List V} {due : T} {ρ : Vars} {σ : St} {z : Pl} {ps : Array Value} (hdue : isTwo cps due) (hl : EnvB l 48) (hl' : EnvB l' 48) (hag : Ag l' l) (hX : getK l' (S "X") = some (.int (tr (due.tst l)))) (hrl : rows.length ≤ 100)
    (r1 : get ρ (S "values") = some (.loc v)) (r2 : get ρ (S "end") = some (.int rows.length)) (r3 : get ρ (S "run") = some (.loc z.r)) (r4 : get ρ (S "due") = some due.v)
    (t0 : σ[0]? = some (.tab 790 ps)) (t1 : σ[v]? = some (.dictS l)) (H : RunAt w σ z rows l' (List.replicate 4 (note (tr (due.tst l))))) :
    EXs (mkC w hb g os low) (lawSc w) d (lawRest w 11) ρ σ R := by
  obtain ⟨g1, g2, g3, g4, g5, g6, g7, g8⟩ := H
  conv => arg 2; arg 1; whnf
  conv => arg 4; whnf
  repeat tb_rel
  refine k_tst C (by omega) hdue t1 hl.has ?_
  have key : ∀ ρ : Vars, get ρ (S "values") = some (.loc v) → get ρ (S "end") = some (.int rows.length) → get ρ (S "run") = some (.loc z.r) → get ρ (S "truth_due") = some (.int (tr (due.tst l))) → EXs (mkC w hb g os low) (lawSc w) d (lawRest w 12) ρ σ R := by
    clear r1 r2 r3 r4
    intro ρ r1 r2 r3 r4
    conv => arg 2; arg 1; whnf
    conv => arg 4; whnf
    repeat tb_rel
    refine EV_ListF ?_
    repeat tb_rel
    refine BIN_mulL (n := 4) (.inl rfl) (by simp) (by simp) (by decide) ?_
    repeat tb_rel
    refine CMP_neL (l := List.replicate 4 (note (tr (due.tst l)))) (.inr ⟨z.no, rfl, .inl g8⟩) (.inl rfl) (by rfl) ?_
    repeat tb_rel
    refine EV_LC (ρc := [(Str.ofString "run", .loc z.r)]) (by rfl) (by intro p hp; simp only [List.mem_cons, List.not_mem_nil, or_false] at hp; subst hp; exact r3) ?_
    refine ITX_val ?_
    repeat tb_rel
    refine ITV_str (by decide +kernel) ⟨trivial, ?_⟩
    rw [show (List.map (fun k => V.str ⟨#[k]⟩) (Str.ofString "ABCX").cps.toList) = [.str (S "A"), .str (S "B"), .str (S "C"), .str (S "X")] from rfl]
    refine COMPS_cons ?_
    repeat tb_rel
    refine GI_dictS (app_l g6) (hl' _ (by simp [ABC])).1 ?_
    refine ⟨app_0, by simp, trivial, ?_⟩
    rw [setLast]
    refine COMPS_cons ?_
    repeat tb_rel
    refine GI_dictS (app_l g6) (hl' _ (by simp [ABC])).1 ?_
    refine ⟨app_0, by simp, trivial, ?_⟩
    rw [setLast]
    refine COMPS_cons ?_
    repeat tb_rel
    refine GI_dictS (app_l g6) (hl' _ (by simp [ABC])).1 ?_
    refine ⟨app_0, by simp, trivial, ?_⟩
    rw [setLast]
    refine COMPS_cons ?_
    repeat tb_rel
    refine GI_dictS (app_l g6) hX ?_
    refine ⟨app_0, by simp, trivial, ?_⟩
    rw [setLast]
    refine COMPS_nil app_0 ?_
    refine EV_ListF ?_
    repeat tb_rel
    refine GI_dictS (app_l t1) (hl _ (by simp [ABC])).1 ?_
    repeat tb_rel
    refine GI_dictS (app_l t1) (hl _ (by simp [ABC])).1 ?_
    repeat tb_rel
    refine GI_dictS (app_l t1) (hl _ (by simp [ABC])).1 ?_
    repeat tb_rel
    rw [hag (S "A") (by simp [ABC]), hag (S "B") (by simp [ABC]), hag (S "C") (by simp [ABC])]
    refine CMP_eqL (l := [.int (look l (S "A")), .int (look l (S "B")), .int (look l (S "C")), .int (tr (due.tst l))]) (.inr ⟨_, rfl, .inl app_0⟩) (.inl rfl) (by rfl) ?_
    repeat tb_rel
    exact h _ _ ps (app_l t0)
  cases hbt : due.tst l with
  | true =>
    rw [hbt] at key
    repeat tb_rel
    refine ⟨_, rfl, ?_⟩
    refine goOn_next (key _ ?_ ?_ ?_ ?_)
    · simp (config := { decide := true }) only [get_put, reduceIte]; exact r1
    · simp (config := { decide := true }) only [get_put, reduceIte]; exact r2
    · simp (config := { decide := true }) only [get_put, reduceIte]; exact r3
    · simp (config := { decide := true }) only [get_put, reduceIte]; rfl
  | false =>
    rw [hbt] at key
    tb_rel
    tb_rel
    tb_rel
    refine goOn_next (key _ ?_ ?_ ?_ ?_)
    · simp (config := { decide := true }) only [get_put, reduceIte]; exact r1
    · simp (config := { decide := true }) only [get_put, reduceIte]; exact r2
    · simp (config := { decide := true }) only [get_put, reduceIte]; exact r3
    · simp (config := { decide := true }) only [get_put, reduceIte]; rfl

theorem k_lawD (C : CxOk (mkC w hb g os low)) {d : Nat} {R : Fl → Vars → St → Prop} (hd : 30 ≤ d) (h : ∀ ρ σ ps, σ[0]? = some (.tab 790 ps) → R (.ret (.bool true)) ρ σ)
    {v n : Nat} {l : Env0} {s0 s1 s2 : P} {due : T} {ρ : Vars} {σ : St} {z : Pl} {ps : Array Value} (h0 : isP s0) (h1 : isP s1) (h2 : isP s2) (hdue : isTwo cps due) (hl : EnvB l 6) (hz : l.length ≤ 10)
    (r1 : get ρ (S "values") = some (.loc v)) (r2 : get ρ (S "statements") = some (.loc n)) (r3 : get ρ (S "run") = some (.loc z.r)) (r4 : get ρ (S "due") = some due.v)
    (t0 : σ[0]? = some (.tab 790 ps)) (t1 : σ[v]? = some (.dictS l)) (t2 : σ[n]? = some (.list [s0.v, s1.v, s2.v])) 
    (H : RunAt w σ z (allRows (s0.ahead (s1.ahead (s2.ahead due))) s0 (s1.ahead (s2.ahead due)) s1 (s2.ahead due) s2 due) l []) (hne : z.no ≠ z.rw) (hva : v ≠ z.va) (hno : n ≠ z.no) (hnr : n ≠ z.rw) :
    EXs (mkC w hb g os low) (lawSc w) d (lawRest w 9) ρ σ R := by
  obtain ⟨l', hrun, hag, hX, hB⟩ := run_all h0 h1 h2 hdue hl
  have hrl : (allRows (s0.ahead (s1.ahead (s2.ahead due))) s0 (s1.ahead (s2.ahead due)) s1 (s2.ahead due) s2 due).length ≤ 100 := by
    have := addL_len [] 10 (s0.ahead (s1.ahead (s2.ahead due))) s0
    have := addL_len (addL [] 10 (s0.ahead (s1.ahead (s2.ahead due))) s0) 20 (s1.ahead (s2.ahead due)) s1
    have := addL_len (addL (addL [] 10 (s0.ahead (s1.ahead (s2.ahead due))) s0) 20 (s1.ahead (s2.ahead due)) s1) 30 (s2.ahead due) s2
    simp only [allRows, List.length_append, headR, List.length_cons, List.length_nil] at *
    omega
  generalize allRows (s0.ahead (s1.ahead (s2.ahead due))) s0 (s1.ahead (s2.ahead due)) s1 (s2.ahead due) s2 due = rows at *
  have H0 := H
  obtain ⟨g1, g2, g3, g4, g5, g6, g7, g8⟩ := H
  have e1 := ne_of_kind t0 g6 (by simp)
  have e2 := ne_of_kind t0 g8 (by simp)
  have e3 := ne_of_kind t1 g8 (by simp)
  have e4 := ne_of_kind t2 g6 (by simp)
  conv => arg 2; arg 1; whnf
  conv => arg 4; whnf
  repeat tb_rel
  refine GM_inst C g1 g2 rfl (f := 596) ⟨by kernel_rfl, by kernel_rfl, by kernel_rfl⟩ ?_
  repeat tb_rel
  refine k_go C (by omega) hne hrl (by omega) (by simp) H0 hrun fun σ₁ H1 ho hlen => ?_
  have u0 : σ₁[0]? = some (.tab 790 ps) := by rw [ho 0 e1 e2]; exact t0
  have u1 : σ₁[v]? = some (.dictS l) := by rw [ho v hva e3]; exact t1
  have u2 : σ₁[n]? = some (.list [s0.v, s1.v, s2.v]) := by rw [ho n e4 hno]; exact t2
  clear H0 g1 g2 g3 g4 g5 g6 g7 g8 t0 t1 t2 ho
  refine goOn_next ?_
  refine EXs_cons ?_
  refine EX_fz u2 fun xs k => ?_
  refine EX_For ?_
  refine ITX_val ?_
  repeat tb_rel
  have nv := ne_of_kind u2 u1 (by simp)
  refine ITV_list (.inr ⟨n, xs, k, rfl, set_hit u2⟩) fun K hK1 hK2 => ?_
  have a1 := hl.run (by omega) h0
  have a2 := a1.run (by omega) h1
  have a3 := a2.run (by omega) h2
  have rl : ∀ (s : P) (l : Env0), (s.run l).length ≤ l.length + 1 := fun s l => by
    cases s with
    | set x e => exact putK_le _ _ _
    | br c x₁ e₁ x₂ e₂ => simp only [P.run]; split <;> exact putK_le _ _ _
  have z1 := rl s0 l
  have z2 := rl s1 (s0.run l)
  refine LOOPS_cons (.name (.inl rfl)) ?_
  repeat tb_rel
  refine k_done C (by omega) h0 (set_miss nv u1) hl.has (by omega) ?_
  refine goOn_next (EXs_nil ?_)
  refine ⟨hK1 n xs k rfl (set_hit u2) _ (set_miss (Ne.symm nv) (set_hit u2)), ?_⟩
  refine LOOPS_cons (.name (.inl rfl)) ?_
  repeat tb_rel
  refine k_done C (by omega) h1 (set_hit (set_miss nv u1)) a1.has (by omega) ?_
  refine goOn_next (EXs_nil ?_)
  rw [List.set_set]
  refine ⟨hK1 n xs k rfl (set_hit u2) _ (set_miss (Ne.symm nv) (set_hit u2)), ?_⟩
  refine LOOPS_cons (.name (.inl rfl)) ?_
  repeat tb_rel
  refine k_done C (by omega) h2 (set_hit (set_miss nv u1)) a2.has (by omega) ?_
  refine goOn_next (EXs_nil ?_)
  rw [List.set_set]
  refine ⟨hK1 n xs k rfl (set_hit u2) _ (set_miss (Ne.symm nv) (set_hit u2)), ?_⟩
  refine LOOPS_nil ⟨set_miss (Ne.symm nv) (set_hit u2), ?_⟩
  refine goOn_next ?_
  obtain ⟨q1, q2, q3, q4, q5, q6, q7, q8⟩ := H1
  have up : ∀ (i : Nat) (o : SO), σ₁[i]? = some o → n ≠ i → v ≠ i → (((σ₁.set n (SO.fz xs k [s0.v, s1.v, s2.v])).set v (SO.dictS (s2.run (s1.run (s0.run l))))).set n (SO.list [s0.v, s1.v, s2.v]))[i]? = some o := fun i o e x y => set_miss x (set_miss y (set_miss x e))
  refine k_lawE C hd h hdue (by exact a3) hB hag hX hrl (ps := ps) (z := z) ?_ ?_ ?_ ?_ (up _ _ u0 (ne_of_kind u2 u0 (by simp)) (ne_of_kind u1 u0 (by simp))) (set_miss nv (set_hit (set_miss nv u1)))
    ⟨up _ _ q1 (ne_of_kind u2 q1 (by simp)) (ne_of_kind u1 q1 (by simp)), up _ _ q2 (ne_of_kind u2 q2 (by simp)) (ne_of_kind u1 q2 (by simp)), up _ _ q3 (ne_of_kind u2 q3 (by simp)) (ne_of_kind u1 q3 (by simp)), up _ _ q4 (ne_of_kind u2 q4 (by simp)) (ne_of_kind u1 q4 (by simp)),
      up _ _ q5 hnr (ne_of_kind u1 q5 (by simp)), up _ _ q6 (ne_of_kind u2 q6 (by simp)) hva, up _ _ q7 (ne_of_kind u2 q7 (by simp)) (ne_of_kind u1 q7 (by simp)), up _ _ q8 hno (ne_of_kind u1 q8 (by simp))⟩
  · simp (config := { decide := true }) only [get_put, reduceIte]; assumption
  · simp (config := { decide := true }) only [get_put, reduceIte]
  · simp (config := { decide := true }) only [get_put, reduceIte]; assumption
  · simp (config := { decide := true }) only [get_put, reduceIte]; assumption

theorem k_lawC (C : CxOk (mkC w hb g os low)) (hcd : CodeHd hb 792 790) {d : Nat} {R : Fl → Vars → St → Prop} (hd : 30 ≤ d) (h : ∀ ρ σ ps, σ[0]? = some (.tab 790 ps) → R (.ret (.bool true)) ρ σ)
    {v n m : Nat} {l : Env0} {s0 s1 s2 : P} {due : T} {ρ : Vars} {σ : St} (h0 : isP s0) (h1 : isP s1) (h2 : isP s2) (hdue : isTwo cps due) (hl : EnvB l 6) (hz : l.length ≤ 10)
    (r1 : get ρ (S "values") = some (.loc v)) (r2 : get ρ (S "statements") = some (.loc n)) (r3 : get ρ (S "lines") = some (.loc m)) (r4 : get ρ (S "due") = some due.v)
    (t0 : σ[0]? = some (.tab 790 #[])) (t1 : σ[v]? = some (.dictS l)) (t2 : σ[n]? = some (.list [s0.v, s1.v, s2.v])) 
    (t3 : σ[m]? = some (.list [lineV 40 [letV (S "X") due, remV], lineV 30 [letV (S "X") (s2.ahead due), remV, s2.v], lineV 20 [letV (S "X") (s1.ahead (s2.ahead due)), remV, s1.v], lineV 10 [letV (S "X") (s0.ahead (s1.ahead (s2.ahead due))), remV, s0.v]])) :
    EXs (mkC w hb g os low) (lawSc w) d (lawRest w 8) ρ σ R := by
  conv => arg 2; arg 1; whnf
  conv => arg 4; whnf
  repeat tb_rel
  refine ⟨_, rfl, rfl, _, .inr ⟨_, rfl, .inl t3⟩, by simp, ?_⟩
  repeat tb_rel
  refine k_flatten C (s0 := s0) (s1 := s1) (s2 := s2) (t0 := s0.ahead (s1.ahead (s2.ahead due))) (t1 := s1.ahead (s2.ahead due)) (t2 := s2.ahead due) (t3 := due) (by omega) fun σ₁ f1 f2 f3 hold hlen => ?_
  have hv := (List.getElem?_eq_some_iff.mp t1).1
  have hn := (List.getElem?_eq_some_iff.mp t2).1
  have h0l := (List.getElem?_eq_some_iff.mp t0).1
  repeat tb_rel
  refine CALL_dictD (l := l) (by rw [hold _ hv]; exact t1) (by omega) ?_
  repeat tb_rel
  refine EV_Lambda C (c0 := 792) (P := 790) (k := 0) (ps := #[]) (by intro env; rfl) (by intro y hy; simp at hy; rcases hy with rfl | rfl | rfl | rfl <;> decide) rfl hcd (by rw [List.getElem?_append_left (by omega), hold _ h0l]; exact t0) trivial rfl fun ps => ?_
  repeat tb_rel
  have t4 : σ₁[v]? = some (.dictS l) := by rw [hold _ hv]; exact t1
  have t5 : σ₁[n]? = some (.list [s0.v, s1.v, s2.v]) := by rw [hold _ hn]; exact t2
  have t6 : σ₁[0]? = some (.tab 790 #[]) := by rw [hold _ h0l]; exact t0
  have v0 := ne_of_kind t0 t1 (by simp)
  have vn := ne_of_kind t0 t2 (by simp)
  generalize hS : List.set (σ₁ ++ [SO.dictS l]) 0 (SO.tab 790 ps) = σ₂
  have hl2 : σ₂.length = σ.length + 9 := by rw [← hS]; simp [hlen]
  have up : ∀ i o, i ≠ 0 → σ₁[i]? = some o → σ₂[i]? = some o := fun i o hi e => by rw [← hS]; exact set_miss (Ne.symm hi) (app_l e)
  have hd' : σ₂[σ.length + 8]? = some (.dictS l) := by
    rw [← hS, ← hlen]; exact set_miss (by omega) app_0
  have hT : σ₂[0]? = some (.tab 790 ps) := by rw [← hS]; exact set_hit (app_l t6)
  clear hS
  refine k_run C (by omega) ?_
  refine goOn_next ?_
  refine k_lawD C hd h h0 h1 h2 hdue hl hz (v := v) (n := n) (ps := ps) (z := ⟨σ₂.length + 1 + 1, σ₂.length + 1, σ.length + 1, σ.length, σ.length + 2, σ.length + 3, σ.length + 4, σ.length + 5, σ.length + 6, σ.length + 7, σ.length + 8, σ.length + 9, σ₂.length + 1 + 3, σ₂.length + 1 + 5⟩) ?_ ?_ ?_ ?_ ?_ ?_ ?_ ?_ ?_ ?_ ?_ ?_
  · simp (config := { decide := true }) only [get_put, reduceIte]; exact r1
  · simp (config := { decide := true }) only [get_put, reduceIte]; exact r2
  · simp (config := { decide := true }) only [get_put, reduceIte]; simp
  · simp (config := { decide := true }) only [get_put, reduceIte]; exact r4
  · exact app_l (app_l hT)
  · exact app_l (app_l (up v _ (Ne.symm v0) t4))
  · exact app_l (app_l (up n _ (Ne.symm vn) t5))
  · have hlam : (σ₂ ++ [SO.fn (LamIs (lamA w) (lamB w) (lamS w))])[σ.length + 9]? = some (.fn (LamIs (lamA w) (lamB w) (lamS w))) := by rw [← hl2]; exact app_0
    refine ⟨?_, ?_, app_l (app_l (up (σ.length + 1) _ (by omega) f1)), app_l (app_l (up σ.length _ (by omega) f2)), app_l (app_l (up (σ.length + 2) _ (by omega) f3)), app_l (app_l hd'), app_l hlam, ?_⟩
    · simp [runO, Nat.add_assoc]
    · simp [runO, Nat.add_assoc, hl2, hlen]
    · simp [runO, Nat.add_assoc]
  · show σ₂.length + 1 + 5 ≠ σ.length + 2; omega
  · show v ≠ σ.length + 8; omega
  · show n ≠ σ₂.length + 1 + 5; omega
  · show n ≠ σ.length + 2; omega
theorem k_lawB (C : CxOk (mkC w hb g os low)) (hcd : CodeHd hb 792 790) {d : Nat} {R : Fl → Vars → St → Prop} (hd : 30 ≤ d) (h : ∀ ρ σ ps, σ[0]? = some (.tab 790 ps) → R (.ret (.bool true)) ρ σ)
    {v : Nat} {l : Env0} {nz : List Int} {ρ : Vars} {σ : St} (hl : EnvB l 6) (hz : l.length ≤ 10) (hlen' : nz.length ≤ 64)
    (r1 : get ρ (S "values") = some (.loc v)) (r2 : get ρ (S "bag") = some (.loc 1))
    (t0 : σ[0]? = some (.tab 790 #[])) (t1 : σ[v]? = some (.dictS l)) (t2 : σ[1]? = some (bagO nz 3)) :
    EXs (mkC w hb g os low) (lawSc w) d (lawRest w 2) ρ σ R := by
  conv => arg 2; arg 1; whnf
  conv => arg 4; whnf
  repeat tb_rel
  refine EV_List ?_
  repeat tb_rel
  refine k_statement C (by omega) t2 hlen' (by omega) fun s0 k0 h0 e0 => ?_
  repeat tb_rel
  refine k_statement C (by omega) (set_hit t2) hlen' (by omega) fun s1 k1 h1 e1 => ?_
  repeat tb_rel
  have b1 : 1 < σ.length := (List.getElem?_eq_some_iff.mp t2).1
  have hv : v < σ.length := (List.getElem?_eq_some_iff.mp t1).1
  have n1 := ne_of_kind t1 t2 (by simp [bagO])
  have n0 := ne_of_kind t0 t2 (by simp [bagO])
  rw [List.set_set, List.length_set]
  refine k_let C (by omega) (app_l (set_hit t2)) hlen' (by omega) fun x2 e2 hx2 he2 => ?_
  repeat tb_rel
  refine CALL_append (n := σ.length) (l := [s0.v, s1.v]) (by rw [List.getElem?_set_ne (by omega)]; simp) (by simp) ?_
  repeat tb_rel
  have q0 := app_l (t := [SO.list [s0.v, s1.v]]) (set_miss (o' := bagO nz k1) (Ne.symm n0) t0)
  have q1 := app_l (t := [SO.list [s0.v, s1.v]]) (set_miss (o' := bagO nz k1) (Ne.symm n1) t1)
  have q2 := app_l (t := [SO.list [s0.v, s1.v]]) (set_hit (o' := bagO nz k1) t2)
  have q3 : (σ.set 1 (bagO nz k1) ++ [SO.list [s0.v, s1.v]])[σ.length]? = some (.list [s0.v, s1.v]) := by simp
  refine k_test C (by omega) (set_miss (by omega) (set_hit q2)) hlen' (by omega) fun due hdue => ?_
  repeat tb_rel
  refine EV_List ?_
  repeat tb_rel
  refine EV_ListF ?_
  repeat tb_rel
  have q4 : ∀ y : Str, y ≠ S "statements" → y ≠ S "due" → y ≠ S "lines" → y ≠ S "ahead" → get (put (put (put (put ρ (S "statements") (.loc σ.length)) (S "due") due.v) (S "lines") (.loc (σ.length + 1))) (S "ahead") due.v) y = get ρ y := fun y a1 a2 a3 a4 => by
    simp only [get_put]; rw [if_neg (Ne.symm a4), if_neg (Ne.symm a3), if_neg (Ne.symm a2), if_neg (Ne.symm a1)]
  refine (?_ : ∀ (ρ : Vars) (σ : St) (n m : Nat) (s2 : P), isP s2 → get ρ (S "values") = some (.loc v) → get ρ (S "statements") = some (.loc n) → get ρ (S "lines") = some (.loc m) → get ρ (S "due") = some due.v → get ρ (S "ahead") = some due.v →
      σ[0]? = some (.tab 790 #[]) → σ[v]? = some (.dictS l) → σ[n]? = some (.list [s0.v, s1.v, s2.v]) → σ[m]? = some (.list [lineV 40 [letV (S "X") due, remV]]) → n ≠ m → EX _ _ _ _ ρ σ _) _ _ σ.length (σ.length + 1) (.set x2 e2) ⟨hx2, he2⟩ ?_ ?_ ?_ ?_ ?_ ?_ ?_ ?_ ?_ (by omega)
  rotate_left
  · simp (config := { decide := true }) only [get_put, reduceIte]; exact r1
  · simp (config := { decide := true }) only [get_put, reduceIte]
  · simp (config := { decide := true }) only [get_put, reduceIte]; simp
  · simp (config := { decide := true }) only [get_put, reduceIte]
  · simp (config := { decide := true }) only [get_put, reduceIte]
  · tb_start
  · tb_start
  · tb_start
  · rw [show σ.length + 1 = (((List.set (List.set σ 1 (bagO nz k1) ++ [SO.list [s0.v, s1.v]]) 1 (bagO nz (k1 + 4))).set (List.length σ) (SO.list ([s0.v, s1.v] ++ [letV x2 e2]))).set 1 (bagO nz (k1 + 4 + 3))).length by simp]
    exact app_0
  clear q4 q3 q2 q1 q0 n0 n1 hv b1 t0 t1 t2 r1 r2
  intro ρ σ n m s2 h2 r1 r2 r3 r4 r5 t0 t1 t2 t3 hnm
  refine EX_For ?_
  refine ITX_val ?_
  repeat tb_rel
  refine ITV_tup ?_
  have m0 := ne_of_kind t3 t0 (by simp)
  have mv := ne_of_kind t3 t1 (by simp)
  have p0 := two_dp hdue
  have p1 := P.dp_ahead h2 due
  have p2 := P.dp_ahead h1 (s2.ahead due)
  have p3 := P.dp_ahead h0 (s1.ahead (s2.ahead due))
  refine LOOPS_cons (.name (.inl rfl)) ?_
  repeat tb_rel
  refine k_ahead C (by omega) ?_
  repeat tb_rel
  refine EV_ListF ?_
  repeat tb_rel
  refine ⟨trivial, ?_⟩
  refine LOOPS_cons (.name (.inl rfl)) ?_
  repeat tb_rel
  refine k_ahead C (by omega) ?_
  repeat tb_rel
  refine EV_ListF ?_
  repeat tb_rel
  refine ⟨trivial, ?_⟩
  refine LOOPS_cons (.name (.inl rfl)) ?_
  repeat tb_rel
  refine k_ahead C (by omega) ?_
  repeat tb_rel
  refine EV_ListF ?_
  repeat tb_rel
  refine ⟨trivial, ?_⟩
  refine LOOPS_nil ?_
  refine goOn_next ?_
  simp only [List.set_set]
  refine k_lawC C hcd hd h h0 h1 h2 hdue hl hz (v := v) (n := n) (m := m) ?_ ?_ ?_ ?_ (by tb_start) (by tb_start) (by tb_start) (by tb_start)
  · simp (config := { decide := true }) only [get_put, reduceIte]; assumption
  · simp (config := { decide := true }) only [get_put, reduceIte]; assumption
  · simp (config := { decide := true }) only [get_put, reduceIte]; assumption
  · simp (config := { decide := true }) only [get_put, reduceIte]; assumption

theorem k_lawA (C : CxOk (mkC w hb g os low)) (hcd : CodeHd hb 792 790) {d : Nat} {ad : Addr} {xs : List Value} {ns : List Int} {R : Fl → Vars → St → Prop} (hd : 30 ≤ d) (hL : hb.IsList ad xs.toArray) (hI : IntsAre xs ns) (hlen : ns.length ≤ 63)
    (h : ∀ ρ σ ps, σ[0]? = some (.tab 790 ps) → R (.ret (.bool true)) ρ σ) :
    EXs (mkC w hb g os low) (lawSc w) d (lawRest w 0) [(S "script", ref ad)] [.tab 790 #[]] R := by
  conv => arg 2; arg 1; whnf
  conv => arg 4; whnf
  repeat tb_rel
  refine EV_List ?_
  tb_rel
  (refine' EV_SliceScript (c := mkC w hb g os low) (b := 34) hL hI (by omega) ?za (hg := ?zg)); (case zg => intro _ _; rfl)
  repeat tb_rel
  refine ⟨rfl, ?_⟩
  dsimp only [EVP]
  repeat tb_rel
  refine ⟨34, rfl, rfl, ?_⟩
  iterate 4 tb_rel
  refine goOn_next ?_
  have hlen' : (ns.take 34).length ≤ 64 := by rw [List.length_take]; omega
  refine (?_ : ∀ (σ : St) (ρ : Vars), get ρ (S "bag") = some (.loc 1) → σ[0]? = some (.tab 790 #[]) → σ[1]? = some (bagO (ns.take 34) 0) → EXs _ _ _ _ ρ σ R) _ _ rfl rfl rfl
  generalize ns.take 34 = nz at *
  intro σ ρ r1 h0 h1
  repeat tb_rel
  have l1 : 1 < σ.length := (List.getElem?_eq_some_iff.mp h1).1
  refine EV_LC (ρc := [(Str.ofString "bag", .loc 1)]) (by rfl) (by intro p hp; simp only [List.mem_cons, List.not_mem_nil, or_false] at hp; subst hp; exact r1) ?_
  refine ITX_val ?_
  repeat tb_rel
  refine ITV_str (by decide +kernel) ⟨trivial, ?_⟩
  rw [show (List.map (fun k => V.str ⟨#[k]⟩) (Str.ofString "ABC").cps.toList) = [.str (S "A"), .str (S "B"), .str (S "C")] from rfl]
  have l2 : 1 ≠ σ.length := by omega
  have l3 : σ.length ≠ 1 := by omega
  have l4 : σ.length ≠ 0 := by omega
  refine COMPS_cons ?_
  repeat tb_rel
  refine drawn C (b := 7) (by omega) (app_l h1) hlen' (by omega) (by decide) fun r1 hr1 => ?_
  repeat tb_rel
  refine ⟨by tb_start, by simp, trivial, ?_⟩
  refine COMPS_cons ?_
  repeat tb_rel
  refine drawn C (b := 7) (k := 1) (by omega) (by tb_start) hlen' (by omega) (by decide) fun r2 hr2 => ?_
  repeat tb_rel
  refine ⟨by tb_start, by simp, trivial, ?_⟩
  refine COMPS_cons ?_
  repeat tb_rel
  refine drawn C (b := 7) (k := 2) (by omega) (by tb_start) hlen' (by omega) (by decide) fun r3 hr3 => ?_
  repeat tb_rel
  refine ⟨by tb_start, by simp, trivial, ?_⟩
  refine COMPS_nil (by tb_start) ?_
  repeat tb_rel
  refine CALL_dictP (es := [(S "A", .int r1), (S "B", .int r2), (S "C", .int r3)]) (.inr ⟨_, rfl, .inl (by tb_start)⟩) (by simp) ?_
  refine goOn_next ?_
  refine k_lawB C hcd hd h (l := [(S "A", .int r1), (S "B", .int r2), (S "C", .int r3)]) (v := σ.length + 1) ?_ (by simp) hlen' ?_ ?_ ?_ ?_ ?_
  · intro x hx
    simp only [ABC, List.mem_cons, List.not_mem_nil, or_false] at hx
    rcases hx with rfl | rfl | rfl
    · exact ⟨rfl, by show -6 ≤ (r1 : Int); omega, by show (r1 : Int) ≤ 6; omega⟩
    · exact ⟨rfl, by show -6 ≤ (r2 : Int); omega, by show (r2 : Int) ≤ 6; omega⟩
    · exact ⟨rfl, by show -6 ≤ (r3 : Int); omega, by show (r3 : Int) ≤ 6; omega⟩
  · simp (config := { decide := true }) only [get_put, reduceIte]; simp
  · simp (config := { decide := true }) only [get_put, reduceIte]; assumption
  · tb_start
  · rw [List.getElem?_append_right (by simp)]; simp; rfl
  · tb_start
end
end Mine
end
section
open PySem PySem.W PySem.Calls PyProof.Rows
set_option Elab.async false
set_option maxRecDepth 100000
set_option maxHeartbeats 4000000
namespace Mine
theorem gl_ok (w : World) : GL.map (fun q => valIn (hdA.heap_39 w.params) q) = GL.map (fun q => some q.2) := by kernel_rfl
theorem gl_names : GL.all (fun q => q.1 != "__name__") = true := by kernel_rfl
theorem low_of {w : World} {hb : Heap} (X : (hdA.heap_39 w.params).In hb) : ∃ o, hb.get? 2 = some o := ⟨_, X 2 (ob (hdA.heap_39 w.params) 2) (by kernel_rfl)⟩
end Mine
open Mine in
theorem PySem.Challenge.cw_xm0046_01_holds : PySem.Challenge.rw_xm0046_01.Holds := by
  apply hdA
  k_go0
  rename_i hL ra w1 r0 hI hr hcond hcond' hD h₁ tk o1 o2 left right X0 X T K F N l0
  have low := low_of X
  refine law_enter (c := mkC _ _ #[] _ low) (d := 40) (x := S "script") (P := 790) F N X0 rfl l0 (by decide) (by assumption) rfl rfl room_caller rfl rfl (k_lawA (CxOk.of X T (gl_ok _) gl_names) codeHd (by decide) lifted hI (by omega) fun ρ σ ps e => ⟨rfl, ps, e⟩) ?_
  · rintro s' keep gens os ⟨ps, tb⟩
    refine ⟨⟨.inl ⟨.bool true, .bool true, [], rfl, ?_, .bool true, ?_, fun _ => ⟨.nil, fun a m => by cases m⟩⟩, keep, os, gens⟩, ⟨ps, tb⟩, trivial⟩
    · refine raisesW_false ?_
      wrow_none_raised
    · kc_post
end
