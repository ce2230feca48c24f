import PyProof.Rows.All
import Wide.All
import OpenK.AllK
import Wide.FinOn
import KE.KLam
import KE.KTurns
import KE.KRevIter
import PyProof.StrWalks
import KE.KRevSl
import PyProof.NoPylong
import PyProof.IsiHeapPairs
import PyProof.AttrMissHeap
import KE.KDictOf
import PyProof.SetNew
import PyProof.SetRoads
import KE.KDictSum
import PyProof.Rows.SortStr
import PyProof.Rows.SortShellK
import KE.KBoundM
import PyProof.Rows.Range3
import PyProof.WalkInts
import PyProof.FactsAll.range_1
import PyProof.FactsAll.str_4
import PyProof.StrCalls
import PyProof.StrCalls3
import PyProof.ListRange
import PyProof.NeKinds
import PyProof.LetGo
import PySem.Challenge.RW_xm0046_02
set_option Elab.async false
section
open PySem PySem.W PySem.Calls PyProof.Rows
namespace Mine
inductive V where
  | none | bool (b : Bool) | int (i : Int) | str (x : Str) | tup (l : List V) | lst (l : List V) | loc (n : Nat) | raw (v : Value)
inductive SO where
  | list (l : List V)
  | fz (xs : List Value) (n : Nat) (l : List V)
  | dictS (es : List (Str × V))
  | dictI (es : List (Int × V))
  | attrs (es : List (Str × V))
  | inst (C : Addr) (d : Nat)
  | fn (P : FuncData → Prop)
  | tab (P : Addr) (ps : Array Value)
  | meth (f : Addr) (n : Nat)
  | rng (n : Nat)
noncomputable abbrev methObj (f y : Addr) : Obj := { cls := .type "method", dict := none, data := .fields #[.ref f, .ref y], slots := #[] }
noncomputable abbrev rngObj (a b c : Int) (t u v : Tok) : Obj := { cls := .type "range", dict := none, data := .fields #[.int a t, .int b u, .int c v], slots := #[] }
noncomputable abbrev St := List SO
noncomputable def IsT (h : Heap) (a : Addr) (items : Array Value) : Prop := ∃ n, h.get? a = some { cls := .type "tuple", dict := none, data := .seq items n, slots := #[] }
theorem IsT.isTup {h : Heap} {a : Addr} {items : Array Value} (x : IsT h a items) : IsTup h a items := let ⟨n, e⟩ := x; ⟨_, e, rfl, n, rfl⟩
mutual
inductive RepV (h : Heap) (θ : List Addr) : V → Value → Prop
  | none : RepV h θ .none .none
  | bool (b : Bool) : RepV h θ (.bool b) (.bool b)
  | int (i : Int) (t : Tok) : RepV h θ (.int i) (.int i t)
  | str (x : Str) (t : Tok) : RepV h θ (.str x) (.str x t)
  | raw (v : Value) : RepV h θ (.raw v) v
  | loc (n : Nat) (a : Addr) : θ[n]? = some a → RepV h θ (.loc n) (.ref a)
  | tup (l : List V) (a : Addr) (xs : List Value) : IsT h a xs.toArray → RepVs h θ l xs → RepV h θ (.tup l) (.ref a)
  | lst (l : List V) (a : Addr) (xs : List Value) (n : Nat) : a ∉ θ → IsL h a xs.toArray n → RepVs h θ l xs → RepV h θ (.lst l) (.ref a)
inductive RepVs (h : Heap) (θ : List Addr) : List V → List Value → Prop
  | nil : RepVs h θ [] []
  | cons {v : V} {x : Value} {l : List V} {xs : List Value} : RepV h θ v x → RepVs h θ l xs → RepVs h θ (v :: l) (x :: xs)
end
inductive RepKs {K : Type} (h : Heap) (θ : List Addr) : List (K × V) → List (K × Value) → Prop
  | nil : RepKs h θ [] []
  | cons {k : K} {v : V} {x : Value} {l : List (K × V)} {xs : List (K × Value)} : RepV h θ v x → RepKs h θ l xs → RepKs h θ ((k, v) :: l) ((k, x) :: xs)
noncomputable def get {α : Type} : List (Str × α) → Str → Option α
  | [], _ => none
  | (y, v) :: r, x => if y = x then some v else get r x
noncomputable def put {α : Type} : List (Str × α) → Str → α → List (Str × α)
  | [], x, v => [(x, v)]
  | (y, u) :: r, x, v => if y = x then (x, v) :: r else (y, u) :: put r x v
theorem get_put {α : Type} (l : List (Str × α)) (x : Str) (v : α) (y : Str) : get (put l x v) y = if x = y then some v else get l y := by
  induction l with
  | nil => rfl
  | cons p r ih =>
    obtain ⟨z, u⟩ := p
    unfold put
    by_cases h : z = x
    · subst h; rw [if_pos rfl]; unfold get; split <;> rfl
    · rw [if_neg h]; unfold get; rw [ih]
      by_cases hz : z = y
      · subst hz; rw [if_pos rfl, if_pos rfl, if_neg (fun e => h e.symm)]
      · rw [if_neg hz, if_neg hz]
inductive RepAs (h : Heap) (θ : List Addr) : List (Str × V) → List DictEntry → Prop
  | nil : RepAs h θ [] []
  | cons {x : Str} {t : Tok} {v : V} {e : DictEntry} {l : List (Str × V)} {es : List DictEntry} : e.key = .str x t → RepV h θ v e.val → RepAs h θ l es → RepAs h θ ((x, v) :: l) (e :: es)
section
variable (prog : Program) (w : World)
noncomputable def RepO (h : Heap) (θ : List Addr) (a : Addr) : SO → Prop
  | .list l => ∃ (xs : List Value) (n : Nat), IsL h a xs.toArray n ∧ RepVs h θ l xs
  | .fz xs n l => IsL h a xs.toArray n ∧ RepVs h θ l xs
  | .dictS es => ∃ kvs, h.DictOf (strKind prog w) a kvs ∧ RepKs h θ es kvs
  | .dictI es => ∃ kvs, h.DictOf (intKind prog w) a kvs ∧ RepKs h θ es kvs
  | .attrs l => ∃ (es : List DictEntry) (n : Nat), h.get? a = some (dictOf es n) ∧ RepAs h θ l es
  | .inst C d => ∃ dx, θ[d]? = some dx ∧ h.get? a = some (instObj C dx)
  | .meth f n => ∃ y, θ[n]? = some y ∧ h.get? a = some (methObj f y)
  | .rng n => ∃ t u v, h.get? a = some (rngObj 0 (n : Int) 1 t u v)
  | .tab P ps => a = P ∧ h.get? a = some (tabObj ps) ∧ ∀ x t, ps[1]? ≠ some (.str x t)
  | .fn P => ∃ fd, P fd ∧ h.get? a = some { cls := .type "function", data := .func fd } ∧ h.CodeRec fd.code fd.qualname
structure RepS (h : Heap) (θ : List Addr) (σ : St) : Prop where
  len : θ.length = σ.length
  obj : ∀ (i : Nat) (o : SO) (a : Addr), σ[i]? = some o → θ[i]? = some a → RepO prog w h θ a o
end
noncomputable def TupOut (h : Heap) (θ : List Addr) : Prop := ∀ a ∈ θ, ∀ items, ¬ IsT h a items
structure Grow (h : Heap) (θ : List Addr) (h' : Heap) (θ' : List Addr) : Prop where
  pre : ∃ t, θ' = θ ++ t
  fresh : ∀ a ∈ θ', a ∉ θ → h.get? a = none
  kept : ∀ b o, h.get? b = some o → b ∉ θ → h'.get? b = some o
theorem Grow.refl (h : Heap) (θ : List Addr) : Grow h θ h θ := ⟨⟨[], (List.append_nil _).symm⟩, fun _ m n => (n m).elim, fun _ _ e _ => e⟩
theorem Grow.mem {h h' : Heap} {θ θ' : List Addr} (g : Grow h θ h' θ') {a : Addr} (m : a ∈ θ) : a ∈ θ' := by
  obtain ⟨t, rfl⟩ := g.pre; exact List.mem_append.mpr (.inl m)
theorem Grow.notMem {h h' : Heap} {θ θ' : List Addr} (g : Grow h θ h' θ') {b : Addr} {o : Obj} (e : h.get? b = some o) (n : b ∉ θ) : b ∉ θ' := fun m => by
  have := g.fresh b m n; rw [e] at this; cases this
theorem Grow.trans {h₁ h₂ h₃ : Heap} {θ₁ θ₂ θ₃ : List Addr} (a : Grow h₁ θ₁ h₂ θ₂) (b : Grow h₂ θ₂ h₃ θ₃) : Grow h₁ θ₁ h₃ θ₃ := by
  refine ⟨?_, fun x m n => ?_, fun x o e n => b.kept x o (a.kept x o e n) (a.notMem e n)⟩
  · obtain ⟨t, rfl⟩ := a.pre
    obtain ⟨u, rfl⟩ := b.pre
    exact ⟨t ++ u, List.append_assoc ..⟩
  · by_cases h2 : x ∈ θ₂
    · exact a.fresh x h2 n
    · cases e : h₁.get? x with
      | none => rfl
      | some o =>
        have := b.fresh x m h2
        rw [a.kept x o e n] at this; cases this
theorem Grow.at {h h' : Heap} {θ θ' : List Addr} (g : Grow h θ h' θ') {n : Nat} {a : Addr} (e : θ[n]? = some a) : θ'[n]? = some a := by
  obtain ⟨t, rfl⟩ := g.pre
  rw [List.getElem?_append_left (List.getElem?_eq_some_iff.mp e).1]; exact e
theorem RepVs.ind {h : Heap} {θ : List Addr} {M : List V → List Value → Prop} (n : M [] []) (k : ∀ {v : V} {x : Value} {l : List V} {xs : List Value}, RepV h θ v x → RepVs h θ l xs → M l xs → M (v :: l) (x :: xs)) {l : List V} {xs : List Value} (r : RepVs h θ l xs) : M l xs :=
  RepVs.rec (motive_1 := fun _ _ _ => True) (motive_2 := fun l xs _ => M l xs) trivial (fun _ => trivial) (fun _ _ => trivial) (fun _ _ => trivial) (fun _ => trivial) (fun _ _ _ => trivial) (fun _ _ _ _ _ _ => trivial) (fun _ _ _ _ _ _ _ _ => trivial) n (fun a b _ ih => k a b ih) r
theorem RepV.grow {h h' : Heap} {θ θ' : List Addr} (T : TupOut h θ) (g : Grow h θ h' θ') {v : V} {x : Value} (r : RepV h θ v x) : RepV h' θ' v x :=
  RepV.rec (motive_1 := fun v x _ => RepV h' θ' v x) (motive_2 := fun l xs _ => RepVs h' θ' l xs) .none .bool .int .str .raw (fun n a e => .loc n a (g.at e)) (fun l a xs ht _ ih => .tup l a xs (let ⟨n, ho⟩ := ht; ⟨n, g.kept a _ ho (fun m => T a m _ ht)⟩) ih)
    (fun l a xs n nm hl _ ih => .lst l a xs n (g.notMem hl nm) (g.kept a _ hl nm) ih) .nil (fun _ _ a b => .cons a b) r
theorem RepVs.grow {h h' : Heap} {θ θ' : List Addr} (T : TupOut h θ) (g : Grow h θ h' θ') {l : List V} {xs : List Value} (r : RepVs h θ l xs) : RepVs h' θ' l xs := r.ind .nil fun a _ ih => .cons (a.grow T g) ih
theorem RepKs.grow {K : Type} {h h' : Heap} {θ θ' : List Addr} (T : TupOut h θ) (g : Grow h θ h' θ') {l : List (K × V)} {xs : List (K × Value)} (r : RepKs h θ l xs) : RepKs h' θ' l xs := by
  induction r with
  | nil => exact .nil
  | cons a _ ih => exact .cons (a.grow T g) ih
theorem RepAs.grow {h h' : Heap} {θ θ' : List Addr} (T : TupOut h θ) (g : Grow h θ h' θ') {l : List (Str × V)} {xs : List DictEntry} (r : RepAs h θ l xs) : RepAs h' θ' l xs := by
  induction r with
  | nil => exact .nil
  | cons e a _ ih => exact .cons e (a.grow T g) ih
theorem RepAs.length {h : Heap} {θ : List Addr} {l : List (Str × V)} {xs : List DictEntry} (r : RepAs h θ l xs) : l.length = xs.length := by
  induction r with
  | nil => rfl
  | cons _ _ _ ih => exact congrArg Nat.succ ih
theorem RepAs.refKey {h : Heap} {θ : List Addr} {l : List (Str × V)} {xs : List DictEntry} (r : RepAs h θ l xs) : xs.any (·.refKey) = false := by
  induction r with
  | nil => rfl
  | cons e a _ ih => rw [List.any_cons, ih]; unfold DictEntry.refKey; rw [e]; rfl
theorem isStr_eq (x y : Str) (t : Tok) : (Value.str x t).isStr y = decide (x = y) := by
  show (x == y) = _
  by_cases h : x = y
  · subst h; simp
  · simp [h]
theorem RepAs.find {h : Heap} {θ : List Addr} {l : List (Str × V)} {xs : List DictEntry} (r : RepAs h θ l xs) (x : Str) :
    match get l x with | some v => ∃ v', getL x xs = some (some v') ∧ RepV h θ v v' | none => getL x xs = some none := by
  have key : match get l x with | some v => ∃ e, xs.find? (·.key.isStr x) = some e ∧ RepV h θ v e.val | none => xs.find? (·.key.isStr x) = none := by
    induction r with
    | nil => rfl
    | @cons y t v e l es hk a _ ih =>
      unfold get
      rw [List.find?_cons, hk, isStr_eq]
      by_cases hy : y = x
      · rw [if_pos hy, decide_eq_true hy]; exact ⟨e, rfl, a⟩
      · rw [if_neg hy, decide_eq_false hy]; exact ih
  unfold getL
  split at key
  · obtain ⟨e, h1, h2⟩ := key; rw [h1]; exact ⟨_, rfl, h2⟩
  · rw [key, r.refKey]; rfl
theorem RepAs.put {h : Heap} {θ : List Addr} {l : List (Str × V)} {xs : List DictEntry} (r : RepAs h θ l xs) {x : Str} {t : Tok} {hsh : Int} {v : V} {v' : Value} (rv : RepV h θ v v') :
    RepAs h θ (put l x v) (putL x hsh (.str x t) v' xs) := by
  induction r with
  | nil => exact .cons rfl rv .nil
  | @cons y t' u e l es hk a b ih =>
    unfold Mine.put putL
    rw [hk, isStr_eq]
    by_cases hy : y = x
    · subst hy; rw [if_pos rfl, decide_eq_true rfl, if_pos rfl]; exact .cons rfl rv b
    · rw [if_neg hy, decide_eq_false hy, if_neg Bool.false_ne_true]; exact .cons hk a ih
theorem RepVs.length {h : Heap} {θ : List Addr} {l : List V} {xs : List Value} (r : RepVs h θ l xs) : l.length = xs.length := r.ind (M := fun l xs => l.length = xs.length) rfl fun _ _ ih => congrArg Nat.succ ih
theorem RepVs.at {h : Heap} {θ : List Addr} {l : List V} {xs : List Value} (r : RepVs h θ l xs) {i : Nat} {v : V} (e : l[i]? = some v) : ∃ x, xs[i]? = some x ∧ RepV h θ v x :=
  r.ind (M := fun l xs => ∀ {i : Nat} {v : V}, l[i]? = some v → ∃ x, xs[i]? = some x ∧ RepV h θ v x) (fun e => by cases e) (fun {v x l xs} a _ ih {i u} e => by
    cases i with
    | zero => cases e; exact ⟨_, rfl, a⟩
    | succ i => exact ih (i := i) e) e
theorem RepVs.append {h : Heap} {θ : List Addr} {l : List V} {xs : List Value} (r : RepVs h θ l xs) {l' : List V} {xs' : List Value} (q : RepVs h θ l' xs') : RepVs h θ (l ++ l') (xs ++ xs') :=
  r.ind (M := fun l xs => RepVs h θ (l ++ l') (xs ++ xs')) q fun a _ ih => .cons a ih
theorem RepVs.take {h : Heap} {θ : List Addr} {l : List V} {xs : List Value} (r : RepVs h θ l xs) (n : Nat) : RepVs h θ (l.take n) (xs.take n) :=
  r.ind (M := fun l xs => ∀ n : Nat, RepVs h θ (l.take n) (xs.take n)) (fun n => by rw [List.take_nil, List.take_nil]; exact .nil) (fun a _ ih n => by
    cases n with
    | zero => exact .nil
    | succ n => exact .cons a (ih n)) n
theorem RepVs.drop {h : Heap} {θ : List Addr} {l : List V} {xs : List Value} (r : RepVs h θ l xs) (n : Nat) : RepVs h θ (l.drop n) (xs.drop n) :=
  r.ind (M := fun l xs => ∀ n : Nat, RepVs h θ (l.drop n) (xs.drop n)) (fun n => by rw [List.drop_nil, List.drop_nil]; exact .nil) (fun a b ih n => by
    cases n with
    | zero => exact .cons a b
    | succ n => exact ih n) n
theorem RepVs.reverse {h : Heap} {θ : List Addr} {l : List V} {xs : List Value} (r : RepVs h θ l xs) : RepVs h θ l.reverse xs.reverse :=
  r.ind (M := fun l xs => RepVs h θ l.reverse xs.reverse) .nil fun a _ ih => by rw [List.reverse_cons, List.reverse_cons]; exact ih.append (.cons a .nil)
theorem RepVs.set {h : Heap} {θ : List Addr} {l : List V} {xs : List Value} (r : RepVs h θ l xs) (i : Nat) {v : V} {x : Value} (q : RepV h θ v x) : RepVs h θ (l.set i v) (xs.set i x) :=
  r.ind (M := fun l xs => ∀ i : Nat, RepVs h θ (l.set i v) (xs.set i x)) (fun _ => .nil) (fun a b ih i => by
    cases i with
    | zero => exact .cons q b
    | succ i => exact .cons a (ih i)) i
section
variable {prog : Program} {w : World} {h h' : Heap} {θ θ' : List Addr} {σ : St}
theorem RepO.notTup {a : Addr} {o : SO} (r : RepO prog w h θ a o) (items : Array Value) : ¬ IsT h a items := by
  rintro ⟨n, e⟩
  cases o with
  | list l => obtain ⟨xs, n', e', _⟩ := r; have := Option.some.inj (e.symm.trans e'); injection this with h1; exact absurd h1 (by decide)
  | fz xs n l => obtain ⟨e', _⟩ := r; have := Option.some.inj (e.symm.trans e'); injection this with h1; exact absurd h1 (by decide)
  | dictS es => obtain ⟨xs, ⟨o', _, _, e', _, hd', _⟩, _⟩ := r; rw [e] at e'; cases e'; cases hd'
  | dictI es => obtain ⟨xs, ⟨o', _, _, e', _, hd', _⟩, _⟩ := r; rw [e] at e'; cases e'; cases hd'
  | attrs es => obtain ⟨xs, n', e', _⟩ := r; have := Option.some.inj (e.symm.trans e'); injection this with h1 h2 h3; cases h3
  | inst C d => obtain ⟨dx, _, e'⟩ := r; have := Option.some.inj (e.symm.trans e'); injection this with h1 h2 h3; cases h3
  | fn P => obtain ⟨fd, _, e', _⟩ := r; have := Option.some.inj (e.symm.trans e'); injection this with h1 h2 h3; cases h3
  | meth f n => obtain ⟨y, _, e'⟩ := r; have := Option.some.inj (e.symm.trans e'); injection this with h1 h2 h3; cases h3
  | rng n => obtain ⟨t, u, v, e'⟩ := r; have := Option.some.inj (e.symm.trans e'); injection this with h1 h2 h3; cases h3
  | tab P ps => obtain ⟨_, e', _⟩ := r; have := Option.some.inj (e.symm.trans e'); injection this with h1 h2 h3; cases h3
theorem RepS.tupOut (r : RepS prog w h θ σ) : TupOut h θ := fun a m items => by
  obtain ⟨i, hi, rfl⟩ := List.mem_iff_getElem.mp m
  have hi' : i < σ.length := r.len ▸ hi
  exact (r.obj i σ[i] θ[i] (List.getElem?_eq_getElem hi') (List.getElem?_eq_getElem hi)).notTup items
theorem RepS.exists (r : RepS prog w h θ σ) {a : Addr} (m : a ∈ θ) : ∃ o, h.get? a = some o := by
  obtain ⟨i, hi, rfl⟩ := List.mem_iff_getElem.mp m
  have hi' : i < σ.length := r.len ▸ hi
  have q := r.obj i σ[i] θ[i] (List.getElem?_eq_getElem hi') (List.getElem?_eq_getElem hi)
  revert q
  cases σ[i] with
  | list l => rintro ⟨xs, n, e', _⟩; exact ⟨_, e'⟩
  | fz xs n l => rintro ⟨e', _⟩; exact ⟨_, e'⟩
  | dictS es => rintro ⟨xs, ⟨o', _, _, e', _⟩, _⟩; exact ⟨_, e'⟩
  | dictI es => rintro ⟨xs, ⟨o', _, _, e', _⟩, _⟩; exact ⟨_, e'⟩
  | attrs es => rintro ⟨xs, n, e', _⟩; exact ⟨_, e'⟩
  | inst C d => rintro ⟨dx, _, e'⟩; exact ⟨_, e'⟩
  | fn P => rintro ⟨fd, _, e', _⟩; exact ⟨_, e'⟩
  | meth f n => rintro ⟨y, _, e'⟩; exact ⟨_, e'⟩
  | rng n => rintro ⟨t, u, v, e'⟩; exact ⟨_, e'⟩
  | tab P ps => rintro ⟨_, e', _⟩; exact ⟨_, e'⟩
theorem RepO.moved {a : Addr} {o : SO} (T : TupOut h θ) (g : Grow h θ h' θ') (same : ∀ ob, h.get? a = some ob → h'.get? a = some ob)
    (code : ∀ b ob, h.get? b = some ob → b ∉ θ → h'.get? b = some ob) (out : ∀ a' ∈ θ, ∀ vs ob, h.get? a' = some ob → ob.data = .fields vs → ∀ x t, vs[1]? ≠ some (.str x t)) (r : RepO prog w h θ a o) : RepO prog w h' θ' a o := by
  cases o with
  | list l => obtain ⟨xs, n, e', q⟩ := r; exact ⟨xs, n, same _ e', q.grow T g⟩
  | fz xs n l => obtain ⟨e', q⟩ := r; exact ⟨same _ e', q.grow T g⟩
  | dictS es => obtain ⟨xs, ⟨o', x, y, e', z⟩, q⟩ := r; exact ⟨xs, ⟨o', x, y, same _ e', z⟩, q.grow T g⟩
  | dictI es => obtain ⟨xs, ⟨o', x, y, e', z⟩, q⟩ := r; exact ⟨xs, ⟨o', x, y, same _ e', z⟩, q.grow T g⟩
  | attrs es => obtain ⟨xs, n, e', q⟩ := r; exact ⟨xs, n, same _ e', q.grow T g⟩
  | inst C d => obtain ⟨dx, q, e'⟩ := r; exact ⟨dx, g.at q, same _ e'⟩
  | meth f n => obtain ⟨y, q, e'⟩ := r; exact ⟨y, g.at q, same _ e'⟩
  | rng n => obtain ⟨t, u, v, e'⟩ := r; exact ⟨t, u, v, same _ e'⟩
  | tab P ps => obtain ⟨q, e', z⟩ := r; exact ⟨q, same _ e', z⟩
  | fn P =>
    obtain ⟨fd, p, e', ⟨c, oc, vs, t, e1, e2, e3, e4⟩⟩ := r
    exact ⟨fd, p, same _ e', ⟨c, oc, vs, t, e1, code _ _ e2 (fun m => out c m _ _ e2 e3 _ _ e4), e3, e4⟩⟩
theorem RepS.noFields (r : RepS prog w h θ σ) : ∀ a' ∈ θ, ∀ vs ob, h.get? a' = some ob → ob.data = .fields vs → ∀ x t, vs[1]? ≠ some (.str x t) := fun a m vs ob e hd x t => by
  obtain ⟨i, hi, rfl⟩ := List.mem_iff_getElem.mp m
  have hi' : i < σ.length := r.len ▸ hi
  have q := r.obj i σ[i] θ[i] (List.getElem?_eq_getElem hi') (List.getElem?_eq_getElem hi)
  revert q
  cases σ[i] with
  | list l => rintro ⟨xs, n, e', _⟩; have := Option.some.inj (e.symm.trans e'); subst this; cases hd
  | fz xs n l => rintro ⟨e', _⟩; have := Option.some.inj (e.symm.trans e'); subst this; cases hd
  | dictS es => rintro ⟨xs, ⟨o', _, _, e', _, hd', _⟩, _⟩; rw [e] at e'; cases e'; rw [hd] at hd'; cases hd'
  | dictI es => rintro ⟨xs, ⟨o', _, _, e', _, hd', _⟩, _⟩; rw [e] at e'; cases e'; rw [hd] at hd'; cases hd'
  | attrs es => rintro ⟨xs, n, e', _⟩; have := Option.some.inj (e.symm.trans e'); subst this; cases hd
  | inst C d => rintro ⟨dx, _, e'⟩; rw [e] at e'; cases e'; cases hd
  | fn P => rintro ⟨fd, _, e', _⟩; rw [e] at e'; cases e'; cases hd
  | meth f n => rintro ⟨y, _, e'⟩; rw [e] at e'; cases e'; cases hd; simp
  | rng n => rintro ⟨t, u, v, e'⟩; rw [e] at e'; cases e'; cases hd; simp
  | tab P ps => rintro ⟨_, e', z⟩; rw [e] at e'; cases e'; cases hd; exact z x t
end
end Mine
end
section
open PySem PySem.W PySem.Calls PyProof.Rows
namespace Mine
structure Cx where
  prog : Program
  w : World
  hb : Heap
  K : Frag
  gl : List (Str × V)
  gens : Array GenState
  os : OsState
  low : ∃ o, hb.get? 2 = some o
structure CxOk (c : Cx) : Prop where
  K : c.K.In c.hb
  nolimit : c.hb.NoLimit
  names : ∃ mg mb, c.hb.Ns mainGlobals mg ∧ c.hb.Ns builtinsNs mb ∧
    ∀ x v, get c.gl x = some v → ∃ v', RepV c.hb [] v v' ∧ (mg x = some v' ∨ (mg x = none ∧ mb x = some v'))
  bmain : ∃ mg bm o, c.hb.Ns mainGlobals mg ∧ mg "__builtins__" = some (.ref bm) ∧ bm ≠ builtinsNs ∧ bm ≠ mainGlobals ∧ c.hb.get? bm = some o ∧ o.cls = .type "module" ∧ o.dict = some builtinsNs ∧ o.data = .plain
structure Inv (c : Cx) (s : Shared) (θ : List Addr) (σ : St) : Prop where
  keep : ∀ b o, c.hb.get? b = some o → s.heap.get? b = some o
  apart : ∀ a ∈ θ, c.hb.get? a = none ∧ 2 < a
  nodup : θ.Nodup
  rep : RepS c.prog c.w s.heap θ σ
  gens : s.gens = c.gens
  os : s.os = c.os
structure Sc where
  scope : Scope
  code : Value
structure EnvIs (sc : Sc) (env : Env) : Prop where
  scope : env.scope = sc.scope
  globals : env.globals = mainGlobals
  builtins : env.builtins = builtinsNs
  code : env.code = sc.code
  kind : sc.scope.kind = .function
  cells : ∀ x, sc.scope.names.lookup x = some .cell → (env.cells.lookup x).isSome = true
structure FrA (c : Cx) (h : Heap) (θ : List Addr) (env : Env) (ρ : List (Str × V)) : Prop where
  at_ : ∃ (m cm : Str → Option Value), h.Ns env.locals m ∧ (∀ n k, env.cells.lookup n = some k → h.IsCell k (cm n)) ∧
    ∀ x v, get ρ x = some v → ∃ v', RepV h θ v v' ∧ ((env.kindOf x = some .local ∧ m x = some v') ∨ ((env.kindOf x = some .cell ∨ env.kindOf x = some .free) ∧ (env.cells.lookup x).isSome = true ∧ cm x = some v'))
  lo : env.locals ∉ θ
  lob : c.hb.get? env.locals = none
  cells : ∀ n k, env.cells.lookup n = some k → k ≠ env.locals ∧ k ∉ θ ∧ c.hb.get? k = none
  apart : ∀ n n' k, env.cells.lookup n = some k → env.cells.lookup n' = some k → n = n'
theorem FrA.grow {c : Cx} {h h' : Heap} {θ θ' : List Addr} {env : Env} {ρ : List (Str × V)} (F : FrA c h θ env ρ) (T : TupOut h θ) (g : Grow h θ h' θ') : FrA c h' θ' env ρ := by
  obtain ⟨⟨m, cm, hm, hc, hr⟩, lo, lob, cl, ap⟩ := F
  refine ⟨⟨m, cm, ?_, fun n k e => ?_, fun x v e => ?_⟩, ?_, lob, fun n k e => ?_, ap⟩
  · obtain ⟨o, es, ep, e, r⟩ := hm; exact ⟨o, es, ep, g.kept _ _ e lo, r⟩
  · obtain ⟨o, e', r⟩ := hc n k e; exact ⟨o, g.kept _ _ e' (cl n k e).2.1, r⟩
  · obtain ⟨v', a, b⟩ := hr x v e; exact ⟨v', a.grow T g, b⟩
  · obtain ⟨o, es, ep, e, _⟩ := hm; exact g.notMem e lo
  · obtain ⟨o, e', _⟩ := hc n k e; exact ⟨(cl n k e).1, g.notMem e' (cl n k e).2.1, (cl n k e).2.2⟩
structure Room (A : Around) (d : Nat) : Prop where
  depth : A.depth + 2 * d + 5 < recursionLimit
  units : A.units + 8 * d + 40 < cLine
  handled : A.handled = none
noncomputable abbrev Post := V → St → Prop
inductive OkV (c : Cx) (s : Shared) (θ : List Addr) (Q : Post) (v' : Value) (s' : Shared) : Prop
  | mk (v : V) (σ' : St) (θ' : List Addr) : Inv c s' θ' σ' → Grow s.heap θ s'.heap θ' → RepV s'.heap θ' v v' → Q v σ' → OkV c s θ Q v' s'
noncomputable abbrev NoE : Value → Shared → Prop := fun _ _ => False
noncomputable def EV (c : Cx) (sc : Sc) (d : Nat) (e : Expr) (ρ : List (Str × V)) (σ : St) (Q : Post) : Prop :=
  ∀ A env s θ, Room A d → EnvIs sc env → Inv c s θ σ → FrA c s.heap θ env ρ → wpAny (model c.prog c.w) A (eval e env) (OkV c s θ Q) NoE s
inductive OkVs (c : Cx) (s : Shared) (θ : List Addr) (Q : List V → St → Prop) (v' : List Value) (s' : Shared) : Prop
  | mk (v : List V) (σ' : St) (θ' : List Addr) : Inv c s' θ' σ' → Grow s.heap θ s'.heap θ' → RepVs s'.heap θ' v v' → Q v σ' → OkVs c s θ Q v' s'
noncomputable def EVs (c : Cx) (sc : Sc) (d : Nat) (es : List Expr) (ρ : List (Str × V)) (σ : St) (Q : List V → St → Prop) : Prop :=
  ∀ A env pos s θ, Room A d → EnvIs sc env → Inv c s θ σ → FrA c s.heap θ env ρ → wpAny (model c.prog c.w) A (spliced (backTo pos (starEach es env))) (OkVs c s θ Q) NoE s
inductive OkB (c : Cx) (s : Shared) (θ : List Addr) (Q : Bool → St → Prop) (b : Bool) (s' : Shared) : Prop
  | mk (σ' : St) (θ' : List Addr) : Inv c s' θ' σ' → Grow s.heap θ s'.heap θ' → Q b σ' → OkB c s θ Q b s'
noncomputable def ET (c : Cx) (sc : Sc) (d : Nat) (e : Expr) (ρ : List (Str × V)) (σ : St) (Q : Bool → St → Prop) : Prop :=
  ∀ A env s θ, Room A d → EnvIs sc env → Inv c s θ σ → FrA c s.heap θ env ρ → wpAny (model c.prog c.w) A (isTrue e env (eval e env)) (OkB c s θ Q) NoE s
noncomputable def CALL (c : Cx) (d : Nat) (f : V) (vs : List V) (σ : St) (Q : Post) : Prop :=
  ∀ A s θ f' vs', Room A d → Inv c s θ σ → RepV s.heap θ f f' → RepVs s.heap θ vs vs' → wpAny (model c.prog c.w) A (call f' vs' []) (OkV c s θ Q) NoE s
noncomputable def BIN (c : Cx) (d : Nat) (op : Operator) (a b : V) (σ : St) (Q : Post) : Prop :=
  ∀ A s θ a' b', Room A d → Inv c s θ σ → RepV s.heap θ a a' → RepV s.heap θ b b' → wpAny (model c.prog c.w) A (binaryOp op a' b') (OkV c s θ Q) NoE s
noncomputable def CMP (c : Cx) (d : Nat) (op : CmpOp) (a b : V) (σ : St) (Q : Post) : Prop :=
  ∀ A s θ a' b', Room A d → Inv c s θ σ → RepV s.heap θ a a' → RepV s.heap θ b b' → wpAny (model c.prog c.w) A (compareOp op a' b') (OkV c s θ Q) NoE s
noncomputable def TRU (c : Cx) (d : Nat) (a : V) (σ : St) (Q : Bool → St → Prop) : Prop :=
  ∀ A s θ a', Room A d → Inv c s θ σ → RepV s.heap θ a a' → wpAny (model c.prog c.w) A (truthy a') (OkB c s θ Q) NoE s
section
variable {c : Cx} {sc : Sc} {d : Nat} {ρ : List (Str × V)} {σ : St} {Q : Post} {A : Around} {env : Env} {s s₁ : Shared} {θ θ₁ : List Addr}
theorem Inv.tupOut (I : Inv c s θ σ) : TupOut s.heap θ := I.rep.tupOut
theorem OkV.trans {v : Value} {s₂ : Shared} (g : Grow s.heap θ s₁.heap θ₁) (h : OkV c s₁ θ₁ Q v s₂) : OkV c s θ Q v s₂ := by
  obtain ⟨v, σ', θ', a, b, r, q⟩ := h; exact ⟨v, σ', θ', a, g.trans b, r, q⟩
theorem OkB.trans {Q : Bool → St → Prop} {v : Bool} {s₂ : Shared} (g : Grow s.heap θ s₁.heap θ₁) (h : OkB c s₁ θ₁ Q v s₂) : OkB c s θ Q v s₂ := by
  obtain ⟨σ', θ', a, b, q⟩ := h; exact ⟨σ', θ', a, g.trans b, q⟩
theorem wpV.trans {t : Sem Value} {M : Model} (g : Grow s.heap θ s₁.heap θ₁) (h : wpAny M A t (OkV c s₁ θ₁ Q) NoE s₁) : wpAny M A t (OkV c s θ Q) NoE s₁ :=
  wpAny_mono h (fun _ _ x => x.trans g) fun _ _ x => x
theorem wpB.trans {Q : Bool → St → Prop} {t : Sem Bool} {M : Model} (g : Grow s.heap θ s₁.heap θ₁) (h : wpAny M A t (OkB c s₁ θ₁ Q) NoE s₁) : wpAny M A t (OkB c s θ Q) NoE s₁ :=
  wpAny_mono h (fun _ _ x => x.trans g) fun _ _ x => x
theorem Inv.toks (I : Inv c s θ σ) (t : Nat) : Inv c { s with toks := t } θ σ := ⟨I.keep, I.apart, I.nodup, I.rep, I.gens, I.os⟩
theorem Inv.okV (I : Inv c s θ σ) {v : V} {v' : Value} (r : RepV s.heap θ v v') (q : Q v σ) : OkV c s θ Q v' s := ⟨v, σ, θ, I, Grow.refl _ _, r, q⟩
theorem Inv.okVt (I : Inv c s θ σ) {v : V} {v' : Value} {t : Nat} (r : RepV s.heap θ v v') (q : Q v σ) : OkV c s θ Q v' { s with toks := t } := ⟨v, σ, θ, I.toks t, Grow.refl _ _, r, q⟩
theorem Inv.okB {Q : Bool → St → Prop} (I : Inv c s θ σ) {b : Bool} (q : Q b σ) : OkB c s θ Q b s := ⟨σ, θ, I, Grow.refl _ _, q⟩
theorem RepS.grow (I : RepS c.prog c.w s.heap θ σ) {h' : Heap} (hk : ∀ b o, s.heap.get? b = some o → h'.get? b = some o) : RepS c.prog c.w h' θ σ := by
  refine ⟨I.len, fun i o a e1 e2 => ?_⟩
  have g : Grow s.heap θ h' θ := ⟨⟨[], (List.append_nil _).symm⟩, fun _ m n => (n m).elim, fun b o e _ => hk b o e⟩
  exact (I.obj i o a e1 e2).moved I.tupOut g (fun ob e => hk _ _ e) (fun b ob e _ => hk _ _ e) I.noFields
theorem Inv.keeps (I : Inv c s θ σ) {h' : Heap} {t : Nat} (hk : ∀ b o, s.heap.get? b = some o → h'.get? b = some o) : Inv c { s with heap := h', toks := t } θ σ :=
  ⟨fun b o e => hk _ _ (I.keep b o e), I.apart, I.nodup, RepS.grow I.rep hk, I.gens, I.os⟩
theorem grow_keeps {h h' : Heap} (hk : ∀ b o, h.get? b = some o → h'.get? b = some o) : Grow h θ h' θ := ⟨⟨[], (List.append_nil _).symm⟩, fun _ m n => (n m).elim, fun b o e _ => hk b o e⟩
theorem EnvIs.kindOf (X : EnvIs sc env) (x : Str) : env.kindOf x = sc.scope.names.lookup x := by unfold Env.kindOf; rw [X.scope]
theorem EnvIs.fn (X : EnvIs sc env) : env.scope.kind = .function := by rw [X.scope]; exact X.kind
theorem EV.mono {e : Expr} {Q' : Post} (h : EV c sc d e ρ σ Q) (hq : ∀ v σ', Q v σ' → Q' v σ') : EV c sc d e ρ σ Q' := fun A env s θ r X I F =>
  wpAny_mono (h A env s θ r X I F) (fun _ _ ⟨v, σ', θ', a, b, x, q⟩ => ⟨v, σ', θ', a, b, x, hq _ _ q⟩) fun _ _ x => x
theorem EV_int {i : Int} {k : Nat} {pos : Pos} (h : Q (.int i) σ) : EV c sc d (.Constant (.int i) k pos) ρ σ Q := fun _ _ _ _ _ _ I _ => wpAny_Constant_int (I.okVt (.int i _) h)
theorem EV_str {x : Str} {k : Nat} {pos : Pos} (h : Q (.str x) σ) : EV c sc d (.Constant (.str x) k pos) ρ σ Q := fun _ _ _ _ _ _ I _ => Constant_str (I.okVt (.str x _) h)
theorem EV_bool {b : Bool} {k : Nat} {pos : Pos} (h : Q (.bool b) σ) : EV c sc d (.Constant (.bool b) k pos) ρ σ Q := fun _ _ _ _ _ _ I _ => wpAny_Constant_bool (I.okV (.bool b) h)
theorem EV_none {k : Nat} {pos : Pos} (h : Q .none σ) : EV c sc d (.Constant .none k pos) ρ σ Q := fun _ _ _ _ _ _ I _ => wpAny_Constant_none (I.okV .none h)
theorem EV_name {x : Str} {pos : Pos} {v : V} (hv : get ρ x = some v) (h : Q v σ) (hd : (x == ("__debug__" : Str)) = false) (hn : (x == ("__classdict__" : Str)) = false) : EV c sc d (.Name x pos) ρ σ Q := fun A env s θ r X I F => by
  obtain ⟨m, cm, hm, hc, hr⟩ := F.at_
  obtain ⟨v', a, b⟩ := hr x v hv
  refine wpAny_Name ?_ hd
  rcases b with ⟨b1, b2⟩ | ⟨b1, b2, b3⟩
  · exact wpAny_loadName_local X.fn b1 hm b2 (I.okV a h)
  · obtain ⟨k, hk⟩ := Option.isSome_iff_exists.mp b2
    rcases b1 with b1 | b1
    · exact wpAny_loadName_cell X.fn b1 hk (b3 ▸ hc x k hk) (I.okV a h)
    · exact wpAny_loadName_free X.fn b1 hk (b3 ▸ hc x k hk) (I.okV a h) hn
theorem Inv.fromBase (I : Inv c s θ σ) : Grow c.hb [] s.heap θ := ⟨⟨θ, rfl⟩, fun a m _ => (I.apart a m).1, fun b o e _ => I.keep b o e⟩
theorem Inv.base (I : Inv c s θ σ) {v : V} {v' : Value} (r : RepV c.hb [] v v') : RepV s.heap θ v v' := r.grow (fun _ m => by cases m) I.fromBase
theorem EV_glob (C : CxOk c) {x : Str} {pos : Pos} {v : V} (hk : sc.scope.names.lookup x = some .globalImplicit) (hv : get c.gl x = some v) (h : Q v σ) (hd : (x == ("__debug__" : Str)) = false) : EV c sc d (.Name x pos) ρ σ Q := fun A env s θ r X I F => by
  obtain ⟨mg, mb, g, b, hn⟩ := C.names
  obtain ⟨v', a, q⟩ := hn x v hv
  refine Name_function_global X.fn (by rw [X.kindOf]; exact hk) ?_ hd
  have g' : s.heap.Ns env.globals mg := by rw [X.globals]; exact g.keeps I.keep
  have b' : s.heap.Ns env.builtins mb := by rw [X.builtins]; exact b.keeps I.keep
  rcases q with q | ⟨q1, q2⟩
  · exact loadGlobal_global g' q (I.okV (I.base a) h)
  · exact loadGlobal_builtin g' q1 b' q2 (I.okV (I.base a) h)
theorem EV_BinOp {l r : Expr} {op : Operator} {pos : Pos} (h : EV c sc d l ρ σ fun a σ₁ => EV c sc d r ρ σ₁ fun b σ₂ => BIN c d op a b σ₂ Q) : EV c sc d (.BinOp l op r pos) ρ σ Q := fun A env s θ R X I F => by
  refine wpAny_BinOp (wpAny_mono (h A env s θ R X I F) (fun a' s₁ h₁ => ?_) fun _ _ x => x)
  obtain ⟨a, σ₁, θ₁, I₁, g₁, ra, q₁⟩ := h₁
  refine wpAny_mono (q₁ A env s₁ θ₁ R X I₁ (F.grow I.tupOut g₁)) (fun b' s₂ h₂ => ?_) fun _ _ x => x
  obtain ⟨b, σ₂, θ₂, I₂, g₂, rb, q₂⟩ := h₂
  exact wpV.trans (g₁.trans g₂) (q₂ A s₂ θ₂ a' b' R I₂ (ra.grow I₁.tupOut g₂) rb)
theorem EV_Compare1 {l r : Expr} {op : CmpOp} {pos : Pos} (h : EV c sc d l ρ σ fun a σ₁ => EV c sc d r ρ σ₁ fun b σ₂ => CMP c d op a b σ₂ Q)
    (hm : behindInMarks op r = false) : EV c sc d (.Compare l [op] [r] pos) ρ σ Q := fun A env s θ R X I F => by
  refine wpAny_Compare1 (wpAny_mono (h A env s θ R X I F) (fun a' s₁ h₁ => ?_) fun _ _ x => x) hm
  obtain ⟨a, σ₁, θ₁, I₁, g₁, ra, q₁⟩ := h₁
  refine wpAny_mono (q₁ A env s₁ θ₁ R X I₁ (F.grow I.tupOut g₁)) (fun b' s₂ h₂ => ?_) fun _ _ x => x
  obtain ⟨b, σ₂, θ₂, I₂, g₂, rb, q₂⟩ := h₂
  exact wpV.trans (g₁.trans g₂) (q₂ A s₂ θ₂ a' b' R I₂ (ra.grow I₁.tupOut g₂) rb)
theorem EVs_nil {Q : List V → St → Prop} (h : Q [] σ) : EVs c sc d [] ρ σ Q := fun _ _ _ _ _ _ _ I _ => spliced_nil ⟨[], σ, _, I, Grow.refl _ _, .nil, h⟩
theorem EVs_cons {e : Expr} {es : List Expr} {Q : List V → St → Prop} (h : EV c sc d e ρ σ fun v σ₁ => EVs c sc d es ρ σ₁ fun vs σ₂ => Q (v :: vs) σ₂)
    (hs : ∀ env, starEach (e :: es) env = (false, eval e env) :: starEach es env) : EVs c sc d (e :: es) ρ σ Q := fun A env pos s θ R X I F => by
  rw [hs env]
  show wpAny _ _ (spliced ((false, eval e env) :: backTo pos (starEach es env))) _ _ _
  refine spliced_cons (wpAny_mono (h A env s θ R X I F) (fun a' s₁ h₁ => ?_) fun _ _ x => x)
  obtain ⟨a, σ₁, θ₁, I₁, g₁, ra, q₁⟩ := h₁
  refine wpAny_mono (q₁ A env pos s₁ θ₁ R X I₁ (F.grow I.tupOut g₁)) (fun b' s₂ h₂ => ?_) fun _ _ x => x
  obtain ⟨b, σ₂, θ₂, I₂, g₂, rb, q₂⟩ := h₂
  exact ⟨a :: b, σ₂, θ₂, I₂, g₁.trans g₂, .cons (ra.grow I₁.tupOut g₂) rb, q₂⟩
end
end Mine
end
section
open PySem PySem.W PySem.Calls PyProof.Rows
set_option linter.unusedVariables false
namespace Mine
noncomputable def own (env : Env) (a : Addr) : Prop := a = env.locals ∨ ∃ n, env.cells.lookup n = some a
structure GrowX (X : Addr → Prop) (h : Heap) (θ : List Addr) (h' : Heap) (θ' : List Addr) : Prop where
  pre : ∃ t, θ' = θ ++ t
  fresh : ∀ a ∈ θ', a ∉ θ → h.get? a = none
  kept : ∀ b o, h.get? b = some o → b ∉ θ → ¬ X b → h'.get? b = some o
theorem Grow.x {X : Addr → Prop} {h h' : Heap} {θ θ' : List Addr} (g : Grow h θ h' θ') : GrowX X h θ h' θ' := ⟨g.pre, g.fresh, fun b o e n _ => g.kept b o e n⟩
theorem GrowX.refl (X : Addr → Prop) (h : Heap) (θ : List Addr) : GrowX X h θ h θ := (Grow.refl h θ).x
theorem GrowX.notMem {X : Addr → Prop} {h h' : Heap} {θ θ' : List Addr} (g : GrowX X h θ h' θ') {b : Addr} {o : Obj} (e : h.get? b = some o) (n : b ∉ θ) : b ∉ θ' := fun m => by
  have := g.fresh b m n; rw [e] at this; cases this
theorem GrowX.trans {X : Addr → Prop} {h₁ h₂ h₃ : Heap} {θ₁ θ₂ θ₃ : List Addr} (hX : ∀ x, X x → ∃ o, h₂.get? x = some o ∧ x ∉ θ₂) (a : GrowX X h₁ θ₁ h₂ θ₂) (b : GrowX X h₂ θ₂ h₃ θ₃) : GrowX X h₁ θ₁ h₃ θ₃ := by
  refine ⟨?_, fun x m n => ?_, fun x o e n k => b.kept x o (a.kept x o e n k) (a.notMem e n) k⟩
  · obtain ⟨t, rfl⟩ := a.pre
    obtain ⟨u, rfl⟩ := b.pre
    exact ⟨t ++ u, List.append_assoc ..⟩
  · by_cases h2 : x ∈ θ₂
    · exact a.fresh x h2 n
    · cases e : h₁.get? x with
      | none => rfl
      | some o =>
        have := b.fresh x m h2
        by_cases k : X x
        · obtain ⟨o', e', _⟩ := hX x k
          rw [e'] at this; cases this
        · rw [a.kept x o e n k] at this; cases this
theorem GrowX.out {X : Addr → Prop} {h₀ h h' : Heap} {θ θ' : List Addr} (g : GrowX X h θ h' θ') (k : ∀ b o, h₀.get? b = some o → h.get? b = some o ∧ ¬ X b) : Grow h₀ θ h' θ' := by
  refine ⟨g.pre, fun a m n => ?_, fun b o e n => g.kept b o (k b o e).1 n (k b o e).2⟩
  cases e : h₀.get? a with
  | none => rfl
  | some o => rw [← g.fresh a m n]; exact (k a o e).1 ▸ rfl
inductive Fl where
  | next | brk | cont | ret (v : V)
inductive RepF (h : Heap) (θ : List Addr) : Fl → Flow → Prop
  | next : RepF h θ .next .next
  | brk : RepF h θ .brk .brk
  | cont : RepF h θ .cont .cont
  | ret {v : V} {v' : Value} : RepV h θ v v' → RepF h θ (.ret v) (.ret v')
noncomputable abbrev Vars := List (Str × V)
inductive OkS (c : Cx) (env : Env) (s : Shared) (θ : List Addr) (Q : Fl → Vars → St → Prop) (f' : Flow) (s' : Shared) : Prop
  | mk (f : Fl) (ρ' : Vars) (σ' : St) (θ' : List Addr) : Inv c s' θ' σ' → FrA c s'.heap θ' env ρ' → GrowX (own env) s.heap θ s'.heap θ' → RepF s'.heap θ' f f' → Q f ρ' σ' → OkS c env s θ Q f' s'
noncomputable def EX (c : Cx) (sc : Sc) (d : Nat) (st : Stmt) (ρ : Vars) (σ : St) (Q : Fl → Vars → St → Prop) : Prop :=
  ∀ A env s θ, Room A d → EnvIs sc env → Inv c s θ σ → FrA c s.heap θ env ρ → wpAny (model c.prog c.w) A (exec st env) (OkS c env s θ Q) NoE s
noncomputable def EXs (c : Cx) (sc : Sc) (d : Nat) (st : List Stmt) (ρ : Vars) (σ : St) (Q : Fl → Vars → St → Prop) : Prop :=
  ∀ A env s θ, Room A d → EnvIs sc env → Inv c s θ σ → FrA c s.heap θ env ρ → wpAny (model c.prog c.w) A (execs st env) (OkS c env s θ Q) NoE s
section
variable {c : Cx} {sc : Sc} {d : Nat} {ρ : Vars} {σ : St} {Q : Post} {R : Fl → Vars → St → Prop} {A : Around} {env : Env} {s s₁ : Shared} {θ θ₁ : List Addr}
theorem FrA.ownX {h : Heap} (F : FrA c h θ env ρ) : ∀ x, own env x → ∃ o, h.get? x = some o ∧ x ∉ θ := fun x m => by
  obtain ⟨m', cm, hm, hc, _⟩ := F.at_
  rcases m with rfl | ⟨n, e⟩
  · obtain ⟨o, _, _, e, _⟩ := hm; exact ⟨o, e, F.lo⟩
  · obtain ⟨o, e', _⟩ := hc n x e; exact ⟨o, e', (F.cells n x e).2.1⟩
theorem OkS.trans {f : Flow} {s₂ : Shared} (F : FrA c s₁.heap θ₁ env ρ) (g : GrowX (own env) s.heap θ s₁.heap θ₁) (h : OkS c env s₁ θ₁ R f s₂) : OkS c env s θ R f s₂ := by
  obtain ⟨f', ρ', σ', θ', a, b, e, r, q⟩ := h; exact ⟨f', ρ', σ', θ', a, b, GrowX.trans F.ownX g e, r, q⟩
theorem wpS.trans {t : Sem Flow} {M : Model} (F : FrA c s₁.heap θ₁ env ρ) (g : GrowX (own env) s.heap θ s₁.heap θ₁) (h : wpAny M A t (OkS c env s₁ θ₁ R) NoE s₁) : wpAny M A t (OkS c env s θ R) NoE s₁ :=
  wpAny_mono h (fun _ _ x => x.trans F g) fun _ _ x => x
theorem EX.mono {st : Stmt} {R' : Fl → Vars → St → Prop} (h : EX c sc d st ρ σ R) (hq : ∀ f ρ' σ', R f ρ' σ' → R' f ρ' σ') : EX c sc d st ρ σ R' := fun A env s θ r X I F =>
  wpAny_mono (h A env s θ r X I F) (fun _ _ ⟨v, ρ', σ', θ', a, b, x, y, q⟩ => ⟨v, ρ', σ', θ', a, b, x, y, hq _ _ _ q⟩) fun _ _ x => x
theorem EXs.mono {st : List Stmt} {R' : Fl → Vars → St → Prop} (h : EXs c sc d st ρ σ R) (hq : ∀ f ρ' σ', R f ρ' σ' → R' f ρ' σ') : EXs c sc d st ρ σ R' := fun A env s θ r X I F =>
  wpAny_mono (h A env s θ r X I F) (fun _ _ ⟨v, ρ', σ', θ', a, b, x, y, q⟩ => ⟨v, ρ', σ', θ', a, b, x, y, hq _ _ _ q⟩) fun _ _ x => x
theorem EXs_nil (h : R .next ρ σ) : EXs c sc d [] ρ σ R := fun _ _ _ _ _ _ I F => wpAny_execs_nil ⟨.next, ρ, σ, _, I, F, GrowX.refl .., .next, h⟩
noncomputable def goOn (c : Cx) (sc : Sc) (d : Nat) (rest : List Stmt) (R : Fl → Vars → St → Prop) : Fl → Vars → St → Prop
  | .next, ρ, σ => EXs c sc d rest ρ σ R
  | f, ρ, σ => R f ρ σ
theorem EXs_cons {st : Stmt} {rest : List Stmt} (h : EX c sc d st ρ σ (goOn c sc d rest R)) : EXs c sc d (st :: rest) ρ σ R := fun A env s θ r X I F => by
  refine wpAny_execs_cons (wpAny_mono (h A env s θ r X I F) (fun f' s₁ h₁ => ?_) fun _ _ x => x)
  obtain ⟨f, ρ₁, σ₁, θ₁, I₁, F₁, g₁, r₁, q⟩ := h₁
  cases r₁ with
  | next => exact wpS.trans F₁ g₁ (q A env s₁ θ₁ r X I₁ F₁)
  | brk => exact ⟨_, ρ₁, σ₁, θ₁, I₁, F₁, g₁, .brk, q⟩
  | cont => exact ⟨_, ρ₁, σ₁, θ₁, I₁, F₁, g₁, .cont, q⟩
  | ret x => exact ⟨_, ρ₁, σ₁, θ₁, I₁, F₁, g₁, .ret x, q⟩
theorem EX_Return {e : Expr} {pos : Pos} (h : EV c sc d e ρ σ fun v σ₁ => R (.ret v) ρ σ₁) : EX c sc d (.Return (some e) pos) ρ σ R := fun A env s θ r X I F => by
  refine wpAny_Return_some (wpAny_mono (h A env s θ r X I F) (fun v' s₁ h₁ => ?_) fun _ _ x => x)
  obtain ⟨v, σ₁, θ₁, I₁, g₁, rv, q⟩ := h₁
  exact ⟨.ret v, ρ, σ₁, θ₁, I₁, F.grow I.tupOut g₁, g₁.x, .ret rv, q⟩
theorem EX_Return_none {pos : Pos} (h : R (.ret .none) ρ σ) : EX c sc d (.Return none pos) ρ σ R := fun A env s θ r X I F =>
  wpAny_Return_none ⟨.ret .none, ρ, σ, θ, I, F, GrowX.refl .., .ret .none, h⟩
theorem EX_If {test : Expr} {body orelse : List Stmt} {pos : Pos} (h : ET c sc d test ρ σ fun b σ₁ => if b = true then EXs c sc d body ρ σ₁ R else EXs c sc d orelse ρ σ₁ R) : EX c sc d (.If test body orelse pos) ρ σ R := fun A env s θ r X I F => by
  refine wpAny_If (wpAny_mono (h A env s θ r X I F) (fun b s₁ h₁ => ?_) fun _ _ x => x)
  obtain ⟨σ₁, θ₁, I₁, g₁, q⟩ := h₁
  have F₁ := F.grow I.tupOut g₁
  cases b with
  | true => exact wpS.trans F₁ g₁.x (q A env s₁ θ₁ r X I₁ F₁)
  | false => exact wpS.trans F₁ g₁.x (q A env s₁ θ₁ r X I₁ F₁)
theorem EV_IfExp {test body orelse : Expr} {pos : Pos} (h : ET c sc d test ρ σ fun b σ₁ => if b = true then EV c sc d body ρ σ₁ Q else EV c sc d orelse ρ σ₁ Q) : EV c sc d (.IfExp test body orelse pos) ρ σ Q := fun A env s θ r X I F => by
  refine wpAny_IfExp (wpAny_mono (h A env s θ r X I F) (fun b s₁ h₁ => ?_) fun _ _ x => x)
  obtain ⟨σ₁, θ₁, I₁, g₁, q⟩ := h₁
  have F₁ := F.grow I.tupOut g₁
  cases b with
  | true => exact wpV.trans g₁ (q A env s₁ θ₁ r X I₁ F₁)
  | false => exact wpV.trans g₁ (q A env s₁ θ₁ r X I₁ F₁)
theorem storeName_ok {x : Str} {v : V} {v' : Value} (X : EnvIs sc env) (I : Inv c s θ σ) (F : FrA c s.heap θ env ρ) (hk : sc.scope.names.lookup x = some .local ∨ sc.scope.names.lookup x = some .cell) (r : RepV s.heap θ v v')
    {P : Unit → Shared → Prop} (h : ∀ s₁, Inv c s₁ θ σ → FrA c s₁.heap θ env (put ρ x v) → GrowX (own env) s.heap θ s₁.heap θ → (∀ a, ¬ own env a → s₁.heap.get? a = s.heap.get? a) → P () s₁) :
    wpAny (model c.prog c.w) A (storeName env x v') P NoE s := by
  obtain ⟨m, cm, hm, hc, hr⟩ := F.at_
  have key : ∀ (a : Addr) (h' : Heap) (t : Nat), own env a → Heap.SameBut a s.heap h' → Inv c { s with heap := h', toks := t } θ σ ∧ GrowX (own env) s.heap θ h' θ ∧ (∀ b, ¬ own env b → h'.get? b = s.heap.get? b) ∧ ∀ {v : V} {v' : Value}, RepV s.heap θ v v' → RepV h' θ v v' := by
    intro a h' t ha hs
    obtain ⟨oa, ea, na⟩ := F.ownX a ha
    have nb : c.hb.get? a = none := by
      rcases ha with rfl | ⟨n, e⟩
      · exact F.lob
      · exact (F.cells n a e).2.2
    have nT : ∀ items, ¬ IsT s.heap a items := by
      rintro items ⟨n, e⟩
      rcases ha with rfl | ⟨n', e'⟩
      · obtain ⟨o', es, ep, e2, hd2, _⟩ := hm; rw [e] at e2; cases e2; cases hd2
      · obtain ⟨o', e2, hd2⟩ := hc n' a e'; rw [e] at e2; cases e2; cases hd2
    have nF : ∀ o vs, s.heap.get? a = some o → o.data ≠ .fields vs := by
      intro o vs e hd
      rcases ha with rfl | ⟨n', e'⟩
      · obtain ⟨o', es, ep, e2, hd2, _⟩ := hm; rw [e] at e2; cases e2; rw [hd] at hd2; cases hd2
      · obtain ⟨o', e2, hd2⟩ := hc n' a e'; rw [e] at e2; cases e2; rw [hd] at hd2; cases hd2
    have k1 : ∀ b, b ∈ θ → b ≠ a := fun b hb e => na (e ▸ hb)
    have hv : ∀ {v : V} {v' : Value}, RepV s.heap θ v v' → RepV h' θ v v' := by
      have go : (∀ (v : V) (v' : Value), RepV s.heap θ v v' → RepV h' θ v v') := by
        intro v v' q
        exact RepV.rec (motive_1 := fun v v' _ => RepV h' θ v v') (motive_2 := fun v v' _ => RepVs h' θ v v') .none .bool .int .str .raw .loc
          (fun l b xs ht _ ih => .tup l b xs (by
            obtain ⟨n, e⟩ := ht
            have : b ≠ a := fun e' => nT _ ⟨n, e' ▸ e⟩
            exact ⟨n, (hs.2 b this).trans e⟩) ih) (fun l b xs n nm e _ ih => .lst l b xs n nm (by
            have : b ≠ a := fun e' => by
              rcases ha with rfl | ⟨n', e2⟩
              · obtain ⟨o', es, ep, e2, hd2, _⟩ := hm; rw [← e'] at e2; rw [show s.heap.get? b = _ from e] at e2; cases e2; cases hd2
              · obtain ⟨o', e3, hd2⟩ := hc n' a e2; rw [← e'] at e3; rw [show s.heap.get? b = _ from e] at e3; cases e3; cases hd2
            exact (hs.2 b this).trans e) ih) .nil (fun _ _ a b => .cons a b) q
      exact fun {v v'} q => go v v' q
    have hvs : ∀ {v : List V} {v' : List Value}, RepVs s.heap θ v v' → RepVs h' θ v v' := by
      intro v v' q
      induction v generalizing v' with
      | nil => cases q; exact .nil
      | cons x l ih => cases q with | cons p q => exact .cons (hv p) (ih q)
    have hks : ∀ {Ky : Type} {v : List (Ky × V)} {v' : List (Ky × Value)}, RepKs s.heap θ v v' → RepKs h' θ v v' := by
      intro Ky v v' q
      induction q with
      | nil => exact .nil
      | cons p _ ih => exact .cons (hv p) ih
    have has : ∀ {v : List (Str × V)} {v' : List DictEntry}, RepAs s.heap θ v v' → RepAs h' θ v v' := by
      intro v v' q
      induction q with
      | nil => exact .nil
      | cons e p _ ih => exact .cons e (hv p) ih
    refine ⟨⟨fun b o e => (hs.2 b (fun e' => by subst e'; rw [nb] at e; cases e)).trans (I.keep b o e), I.apart, I.nodup, ⟨I.rep.len, fun i o b e1 e2 => ?_⟩, I.gens, I.os⟩, ?_, fun b nb' => hs.2 b fun e => nb' (e ▸ ha), hv⟩
    · have hb : b ≠ a := k1 b (List.mem_of_getElem? e2)
      have q := I.rep.obj i o b e1 e2
      have eb := hs.2 b hb
      cases o with
      | list l => obtain ⟨xs, n, e', q⟩ := q; exact ⟨xs, n, eb.trans e', hvs q⟩
      | fz xs n l => obtain ⟨e', q⟩ := q; exact ⟨eb.trans e', hvs q⟩
      | dictS es => obtain ⟨xs, ⟨o', x, y, e', z⟩, q⟩ := q; exact ⟨xs, ⟨o', x, y, eb.trans e', z⟩, hks q⟩
      | dictI es => obtain ⟨xs, ⟨o', x, y, e', z⟩, q⟩ := q; exact ⟨xs, ⟨o', x, y, eb.trans e', z⟩, hks q⟩
      | attrs es => obtain ⟨xs, n, e', q⟩ := q; exact ⟨xs, n, eb.trans e', has q⟩
      | inst C d => obtain ⟨dx, q, e'⟩ := q; exact ⟨dx, q, eb.trans e'⟩
      | meth f n => obtain ⟨y, q, e'⟩ := q; exact ⟨y, q, eb.trans e'⟩
      | rng n => obtain ⟨t, u, v, e'⟩ := q; exact ⟨t, u, v, eb.trans e'⟩
      | tab P ps => obtain ⟨q, e', z⟩ := q; exact ⟨q, eb.trans e', z⟩
      | fn P =>
        obtain ⟨fd, p, e', ⟨c', oc, vs, t, e1, e2, e3, e4⟩⟩ := q
        exact ⟨fd, p, eb.trans e', ⟨c', oc, vs, t, e1, (hs.2 c' (fun z => nF _ vs (z ▸ e2) e3)).trans e2, e3, e4⟩⟩
    · exact ⟨⟨[], (List.append_nil _).symm⟩, fun _ m n => (n m).elim, fun b o e _ k => (hs.2 b (fun e' => k (e' ▸ ha))).trans e⟩
  rcases hk with hk | hk
  · refine wpAny_storeName_local (by rw [X.kindOf]; exact hk) hm (fun h' hn hs => ?_) (by rw [X.scope, X.kind]; rfl)
    obtain ⟨I', g', o', hv⟩ := key env.locals h' (s.toks + 1) (.inl rfl) hs
    refine h _ I' ⟨⟨_, cm, hn, fun n k e => (hc n k e).sameBut hs (F.cells n k e).1, fun y u hy => ?_⟩, F.lo, F.lob, F.cells, F.apart⟩ g' o'
    rw [get_put] at hy
    by_cases hxy : x = y
    · subst hxy
      rw [if_pos rfl] at hy; cases hy
      exact ⟨v', hv r, .inl ⟨by rw [X.kindOf]; exact hk, by simp⟩⟩
    · rw [if_neg hxy] at hy
      obtain ⟨u', a, b⟩ := hr y u hy
      refine ⟨u', hv a, ?_⟩
      rcases b with ⟨b1, b2⟩ | b
      · exact .inl ⟨b1, by (have hyx : ¬ y = x := fun e => hxy e.symm); (simp only [hyx, if_false]); exact b2⟩
      · exact .inr b
  · have hsome := X.cells x hk
    obtain ⟨k, hk'⟩ := Option.isSome_iff_exists.mp hsome
    refine wpAny_storeName_cell X.fn (by rw [X.kindOf]; exact hk) hk' (hc x k hk') (fun h' hn hs => ?_)
    obtain ⟨I', g', o', hv⟩ := key k h' s.toks (.inr ⟨x, hk'⟩) hs
    refine h _ I' ⟨⟨m, fun y => if y = x then some v' else cm y, ?_, fun n k2 e => ?_, fun y u hy => ?_⟩, F.lo, F.lob, F.cells, F.apart⟩ g' o'
    · exact hm.sameBut hs (Ne.symm (F.cells x k hk').1)
    · by_cases hkk : k2 = k
      · subst hkk
        have e0 := F.apart n x k2 e hk'
        subst e0
        simpa using hn
      · have : n ≠ x := fun e' => by subst e'; rw [hk'] at e; cases e; exact hkk rfl
        simpa [this] using (hc n k2 e).sameBut hs hkk
    · rw [get_put] at hy
      by_cases hxy : x = y
      · subst hxy
        rw [if_pos rfl] at hy; cases hy
        exact ⟨v', hv r, .inr ⟨.inl (by rw [X.kindOf]; exact hk), hsome, by simp⟩⟩
      · rw [if_neg hxy] at hy
        obtain ⟨u', a, b⟩ := hr y u hy
        refine ⟨u', hv a, ?_⟩
        rcases b with b | ⟨b1, b2, b3⟩
        · exact .inl b
        · exact .inr ⟨b1, b2, by (have hyx : ¬ y = x := fun e => hxy e.symm); (simp only [hyx, if_false]); exact b3⟩
theorem EX_Assign {x : Str} {value : Expr} {pos' pos : Pos} (h : EV c sc d value ρ σ fun v σ₁ => R .next (put ρ x v) σ₁) (hk : sc.scope.names.lookup x = some .local ∨ sc.scope.names.lookup x = some .cell)
    (hs : ∀ env, swapsWith value (some (.Name x pos')) pos.line env = pure false) : EX c sc d (.Assign [.Name x pos'] value pos) ρ σ R := fun A env s θ r X I F => by
  refine wpAny_Assign_Name (wpAny_mono (h A env s θ r X I F) (fun v' s₁ h₁ => ?_) fun _ _ x => x) (hs env)
  obtain ⟨v, σ₁, θ₁, I₁, g₁, rv, q⟩ := h₁
  have F₁ := F.grow I.tupOut g₁
  exact storeName_ok X I₁ F₁ hk rv fun s₂ I₂ F₂ g₂ _ => ⟨.next, _, σ₁, θ₁, I₂, F₂, GrowX.trans F₁.ownX g₁.x g₂, .next, q⟩
end
end Mine
end
section
open PySem PySem.W PySem.Calls PyProof.Rows
set_option linter.unusedVariables false
namespace Mine
noncomputable def binds : List Str → List V → Vars → Vars
  | x :: xs, v :: vs, ρ => binds xs vs (put ρ x v)
  | _, _, ρ => ρ
noncomputable def retOf : Fl → V
  | .ret v => v
  | _ => .none
theorem RepVs.mapM {h h' : Heap} {θ θ' : List Addr} (f : ∀ {v : V} {x : Value}, RepV h θ v x → RepV h' θ' v x) {l : List V} {xs : List Value} (r : RepVs h θ l xs) : RepVs h' θ' l xs := r.ind .nil fun a _ ih => .cons (f a) ih
noncomputable def Bound (h : Heap) (θ : List Addr) (kindOf : Str → Option NameKind) (ρ : Vars) (m cm : Str → Option Value) : Prop :=
  ∀ x v, get ρ x = some v → ∃ v', RepV h θ v v' ∧ ((kindOf x = some .local ∧ m x = some v') ∨ (kindOf x = some .cell ∧ cm x = some v'))
theorem Bound.bind {h : Heap} {θ : List Addr} {kindOf : Str → Option NameKind} : ∀ {xs : List Str} {vs : List V} {vs' : List Value} {ρ : Vars} {m cm : Str → Option Value}, RepVs h θ vs vs' → (∀ x ∈ xs, kindOf x = some .local ∨ kindOf x = some .cell) → Bound h θ kindOf ρ m cm →
    Bound h θ kindOf (binds xs vs ρ) (bindL kindOf (xs.zip vs') m) (bindC kindOf (xs.zip vs') cm)
  | [], _, _, _, _, _, r, _, B => by cases r <;> exact B
  | x :: xs, _, _, _, _, _, .nil, _, B => B
  | x :: xs, v :: vs, v' :: vs', ρ, m, cm, .cons a b, hk, B => by
    show Bound h θ kindOf (binds xs vs (put ρ x v)) (bindL kindOf ((x, v') :: xs.zip vs') m) (bindC kindOf ((x, v') :: xs.zip vs') cm)
    unfold bindL bindC
    refine Bound.bind b (fun y hy => hk y (List.mem_cons_of_mem _ hy)) fun y u hy => ?_
    rw [get_put] at hy
    by_cases hxy : x = y
    · subst hxy
      rw [if_pos rfl] at hy; cases hy
      rcases hk x List.mem_cons_self with e | e
      · exact ⟨v', a, .inl ⟨e, by simp [e]⟩⟩
      · exact ⟨v', a, .inr ⟨e, by simp [e]⟩⟩
    · rw [if_neg hxy] at hy
      obtain ⟨u', p, q⟩ := B y u hy
      have hyx : ¬ y = x := fun e => hxy e.symm
      refine ⟨u', p, ?_⟩
      rcases q with ⟨q1, q2⟩ | ⟨q1, q2⟩
      · left; refine ⟨q1, ?_⟩; split
        · simpa only [hyx, if_false] using q2
        · exact q2
      · right; refine ⟨q1, ?_⟩; split
        · exact q2
        · simpa only [hyx, if_false] using q2
section
variable {c : Cx} {sc : Sc} {d : Nat} {ρ : Vars} {σ : St} {Q : Post} {R : Fl → Vars → St → Prop} {A : Around} {env : Env} {s s₁ : Shared} {θ θ₁ : List Addr}
theorem Inv.ltθ (I : Inv c s θ σ) {a : Addr} (m : a ∈ θ) : a < s.heap.objs.size := let ⟨_, e⟩ := I.rep.exists m; Heap.lt_size e
theorem Inv.new (I : Inv c s θ σ) {a : Addr} (h : s.heap.objs.size ≤ a) : a ∉ θ ∧ c.hb.get? a = none := by
  refine ⟨fun m => absurd (I.ltθ m) (Nat.not_lt.mpr h), ?_⟩
  cases e : c.hb.get? a with
  | none => rfl
  | some o => exact absurd (Heap.lt_size (I.keep a o e)) (Nat.not_lt.mpr h)
structure FnAt (c : Cx) (a : Addr) (fd : FuncData) (ps : List Str) (body : List Stmt) : Prop where
  at_ : ∃ o, c.hb.get? a = some o ∧ o.data = .func fd
  code : c.hb.CodeRec fd.code fd.qualname
  body : fd.body = .stmts body
  closure : fd.closure = []
  globals : fd.globals = mainGlobals
  builtins : fd.builtins = builtinsNs
  kinds : ∀ x ∈ ps, fd.scope.names.lookup x = some .local ∨ fd.scope.names.lookup x = some .cell
  bind : ∀ vals : List Value, vals.length = ps.length → bindArgs fd ⟨vals, []⟩ = pure (ps.zip vals)
  co : fd.scope.isCoroutine = false
  gen : fd.scope.isGenerator = false
  kind : fd.scope.kind = .function
theorem CALL_def (C : CxOk c) {a : Addr} {fd : FuncData} {ps : List Str} {body : List Stmt} {vs : List V} (f : FnAt c a fd ps body) (hlen : vs.length = ps.length) (hd : 1 ≤ d)
    (h : EXs c ⟨fd.scope, fd.code⟩ (d - 1) body (binds ps vs []) σ fun fl _ σ' => Q (retOf fl) σ') : CALL c d (.raw (.ref a)) vs σ Q := fun A s θ f' vs' r I rf rv => by
  cases rf
  obtain ⟨o, ho, hdat⟩ := f.at_
  have hz : ∀ x ∈ ps.zip vs', x.1 ∈ ps := fun x hx => (List.of_mem_zip (show (x.1, x.2) ∈ ps.zip vs' from hx)).1
  refine wpAny_call (codeAny_call_cells (by have := r.depth; omega) (I.keep _ _ ho) hdat (C.nolimit.keeps I.keep) (f.code.keeps I.keep) f.body (f.bind vs' (by rw [← rv.length]; exact hlen)) f.closure ?_ (fun s₁ X => ?_) f.co f.gen f.kind)
  · intro x hx
    rcases f.kinds x.1 (hz x hx) with e | e
    · exact .inl e
    · exact .inr ⟨e, cellsFrom_some _ _ _ (.inl e)⟩
  · obtain ⟨hh, tk, rfl⟩ := X.toInCall.same
    have keep := X.toInCall.keep
    have I₁ : Inv c { s with heap := hh, toks := tk } θ σ := I.keeps keep
    have g₁ : Grow s.heap θ hh θ := grow_keeps keep
    have E₁ : EnvIs ⟨fd.scope, fd.code⟩ (callEnvC fd s.heap.objs.size a) := ⟨rfl, f.globals, f.builtins, rfl, f.kind, fun x hx => cellsFrom_some _ _ _ (.inl hx)⟩
    have above : ∀ n k, (callEnvC fd s.heap.objs.size a).cells.lookup n = some k → s.heap.objs.size < k := fun n k e => X.above n k (mem_of_lookup e)
    have F₁ : FrA c hh θ (callEnvC fd s.heap.objs.size a) (binds ps vs []) := by
      refine ⟨⟨_, _, X.toInCall.ns, X.cell, fun x v hx => ?_⟩, (I.new (Nat.le_refl _)).1, (I.new (Nat.le_refl _)).2, fun n k e => ?_, fun n n' k e e' => ?_⟩
      · have B := Bound.bind (kindOf := (callEnvC fd s.heap.objs.size a).kindOf) (rv.mapM fun q => q.grow I.tupOut g₁) (fun x hx => f.kinds x hx) (ρ := []) (m := fun _ => none) (cm := fun _ => none) (fun _ _ e => by cases e)
        obtain ⟨v', p, q⟩ := B x v hx
        refine ⟨v', p, ?_⟩
        rcases q with q | ⟨q1, q2⟩
        · exact .inl q
        · exact .inr ⟨.inl q1, cellsFrom_some _ _ _ (.inl q1), q2⟩
      · have := above n k e
        exact ⟨Nat.ne_of_gt this, (I.new (Nat.le_of_lt this)).1, (I.new (Nat.le_of_lt this)).2⟩
      · exact name_of_addr X.apart (mem_of_lookup e) (mem_of_lookup e')
    have r₁ : Room (A.deeper (callEnvC fd s.heap.objs.size a)) (d - 1) := by
      have q := r.depth
      have q' := r.units
      have e1 : (A.deeper (callEnvC fd s.heap.objs.size a)).depth = A.depth + 1 := rfl
      have e2 : (A.deeper (callEnvC fd s.heap.objs.size a)).units = A.units + 3 := rfl
      exact ⟨by rw [e1]; omega, by rw [e2]; omega, r.handled⟩
    refine wpAny_mono (h _ _ _ θ r₁ E₁ I₁ F₁) (fun f' s₂ h₂ => ?_) fun _ _ x => x.elim
    obtain ⟨fl, ρ', σ', θ', I₂, _, g₂, rf, q⟩ := h₂
    have G : Grow s.heap θ s₂.heap θ' := g₂.out fun b o e => ⟨keep b o e, fun m => by
      have lt := Heap.lt_size e
      rcases m with e' | ⟨n, e'⟩
      · exact absurd lt (by rw [e']; exact Nat.lt_irrefl _)
      · exact absurd (Nat.lt_trans lt (above n b e')) (Nat.lt_irrefl _)⟩
    cases rf with
    | next => exact ⟨_, σ', θ', I₂, G, .none, q⟩
    | brk => exact ⟨_, σ', θ', I₂, G, .none, q⟩
    | cont => exact ⟨_, σ', θ', I₂, G, .none, q⟩
    | ret rv => exact ⟨_, σ', θ', I₂, G, rv, q⟩
noncomputable def Kp (c : Cx) (σ : St) (f : V) : Prop := ∀ s θ f', Inv c s θ σ → RepV s.heap θ f f' → ∃ k, (k = Keeper.frame ∨ k = Keeper.machine ∨ k = Keeper.boundFrame) ∧ Looks (model c.prog c.w) s.heap (keeperOf f') k
theorem Kp_fn {a : Addr} {fd : FuncData} {ps : List Str} {body : List Stmt} (f : FnAt c a fd ps body) : Kp c σ (.raw (.ref a)) := fun s θ f' I r => by
  cases r
  obtain ⟨⟨oc, od, oda, osl⟩, ho, hdat⟩ := f.at_
  dsimp only at hdat
  subst hdat
  exact ⟨.frame, .inl rfl, (Looks.ld (part := none) (I.keep _ _ ho)).andThen .now⟩
theorem Kp_K (C : CxOk c) {f : Value} (hk : keepIn c.K f = true) : Kp c σ (.raw f) := fun s θ f' I r => by
  cases r
  obtain ⟨k, a, b⟩ := looks_keep (M := model c.prog c.w) hk (C.K.keeps I.keep)
  exact ⟨k, a.elim .inl (fun e => .inr (.inl e)), b⟩
theorem Kp_builtin {id : String} : Kp c σ (.raw (.builtin id)) := fun s θ f' I r => by cases r; exact ⟨.machine, .inr (.inl rfl), Looks.of_pure rfl⟩
theorem Kp_type {id : String} : Kp c σ (.raw (.type id)) := fun s θ f' I r => by cases r; exact ⟨.machine, .inr (.inl rfl), Looks.of_pure rfl⟩
noncomputable def noStar (es : List Expr) : Bool := es.all fun e => match e with | .Starred .. => false | _ => true
theorem starEach_plain (env : Env) : ∀ {es : List Expr}, noStar es = true → starEach es env = es.map fun e => (false, eval e env)
  | [], _ => rfl
  | e :: es, h => by
    unfold noStar at h
    rw [List.all_cons] at h
    obtain ⟨h1, h2⟩ := Bool.and_eq_true_iff.mp h
    have ih := starEach_plain env (es := es) h2
    cases e <;> first | (exact congrArg _ ih) | cases h1
theorem backTo_plain (pos : Pos) (env : Env) {es : List Expr} (h : noStar es = true) : backTo pos (starEach es env) = es.map fun e => (false, eval e env) := by
  rw [starEach_plain env h]
  simp only [backTo, List.map_map]
  rfl
theorem callWith_ok {f : V} {f' : Value} {first : List V} {first' : List Value} {es : List Expr} {pos : Pos} (hs : noStar es = true) (r : Room A d) (X : EnvIs sc env) (I : Inv c s θ σ) (F : FrA c s.heap θ env ρ) (rf : RepV s.heap θ f f') (rfs : RepVs s.heap θ first first')
    (h : EVs c sc d es ρ σ fun vs σ₂ => Kp c σ₂ f ∧ CALL c d f (first ++ vs) σ₂ Q) : wpAny (model c.prog c.w) A (callWith pos f' first' (backTo pos (starEach es env)) []) (OkV c s θ Q) NoE s := by
  have h0 := h A env pos s θ r X I F
  rw [backTo_plain pos env hs] at h0 ⊢
  have fin : wpAny (model c.prog c.w) A (evalArgs f' true (es.map fun e => (false, eval e env)) []) (fun a s₁ => ((∃ k, (k = Keeper.frame ∨ k = Keeper.machine ∨ k = Keeper.boundFrame) ∧ Looks (model c.prog c.w) s₁.heap (keeperOf f') k) ∧ wpAny (model c.prog c.w) A (call f' (first' ++ a.pos) a.kw) (OkV c s θ Q) NoE s₁)) NoE s := by
    have go : ∀ vs' s₁, OkVs c s θ (fun vs σ₂ => Kp c σ₂ f ∧ CALL c d f (first ++ vs) σ₂ Q) vs' s₁ → ((∃ k, (k = Keeper.frame ∨ k = Keeper.machine ∨ k = Keeper.boundFrame) ∧ Looks (model c.prog c.w) s₁.heap (keeperOf f') k) ∧ wpAny (model c.prog c.w) A (call f' (first' ++ vs') []) (OkV c s θ Q) NoE s₁) := by
      rintro vs' s₁ ⟨vs, σ₁, θ₁, I₁, g₁, rv, kp, q⟩
      exact ⟨kp _ _ _ I₁ (rf.grow I.tupOut g₁), wpV.trans g₁ (q A s₁ θ₁ f' _ r I₁ (rf.grow I.tupOut g₁) ((rfs.grow I.tupOut g₁).append rv))⟩
    cases es with
    | nil =>
      unfold evalArgs
      show wpAny (model c.prog c.w) A (spliced [] >>= _) _ _ s
      refine wpAny_bind (wpAny_mono h0 (fun vs' s' h' => wpAny_bind (wpAny_pure ?_)) fun _ _ x => x)
      refine wpAny_holding ?_
      exact wpAny_bind (wpAny_pure (wpAny_bind (wpAny_pure (wpAny_pure (go _ _ h')))))
    | cons e es => exact evalArgs_plain (wpAny_mono h0 (fun vs' s₁ q => go vs' s₁ q) fun _ _ x => x)
  unfold callWith
  refine wpAny_bind (wpAny_holding (wpAny_mono fin (fun a s₁ h₁ => wpAny_bind (wpAny_standAt ?_)) fun _ _ x => x))
  obtain ⟨⟨k, hk', L⟩, h₂⟩ := h₁
  have hp : ((es.map fun e => ((false : Bool), eval e env)).any (·.1) || ([] : List (Option Str × Sem Value)).any (·.1.isNone)) = false := by simp
  simp only [hp]
  refine wpAny_bind (L.here ?_)
  have tail : ∀ {t : Sem Value}, wpAny (model c.prog c.w) A t (OkV c s θ Q) NoE s₁ → wpAny (model c.prog c.w) A (t >>= fun r => holding [r] point >>= fun _ => pure r) (OkV c s θ Q) NoE s₁ :=
    fun ht => wpAny_bind (wpAny_mono ht (fun r s₂ hr => wpAny_bind (wpAny_holding (wpAny_point (wpAny_pure hr)))) fun _ _ x => x)
  have marked (mk : Value) : wpAny (model c.prog c.w) A (callMarked mk f' (first' ++ a.pos) a.kw) (OkV c s θ Q) NoE s₁ := by unfold callMarked; exact Calls.wpAny_keep h₂
  rcases hk' with rfl | rfl | rfl <;> dsimp only <;> first | exact tail h₂ | (split <;> first | exact tail h₂ | exact tail (marked _))
end
end Mine
end
section
open PySem PySem.W PySem.Calls PyProof.Rows PySem.MeetsSeq PySem.MeetsSeq2 PySem.MeetsSeq3
set_option linter.unusedVariables false
namespace Mine
section
variable {c : Cx} {sc : Sc} {d : Nat} {ρ : Vars} {σ : St} {Q : Post} {R : Fl → Vars → St → Prop} {A : Around} {env : Env} {s s₁ : Shared} {θ θ₁ : List Addr}
theorem Inv.at (I : Inv c s θ σ) {i : Nat} {o : SO} (hi : σ[i]? = some o) : ∃ a, θ[i]? = some a ∧ RepO c.prog c.w s.heap θ a o := by
  have h1 : i < σ.length := (List.getElem?_eq_some_iff.mp hi).1
  have h2 : i < θ.length := I.rep.len ▸ h1
  exact ⟨θ[i], List.getElem?_eq_getElem h2, I.rep.obj i o _ hi (List.getElem?_eq_getElem h2)⟩
theorem Inv.upd (I : Inv c s θ σ) {i : Nat} {a : Addr} {o' : SO} {h' : Heap} {t : Nat} (ha : θ[i]? = some a) (hs : Heap.SameBut a s.heap h') (ho : RepO c.prog c.w h' θ a o') :
    Inv c { s with heap := h', toks := t } θ (σ.set i o') ∧ Grow s.heap θ h' θ := by
  have ma : a ∈ θ := List.mem_of_getElem? ha
  have g : Grow s.heap θ h' θ := ⟨⟨[], (List.append_nil _).symm⟩, fun _ m n => (n m).elim, fun b o e n => (hs.2 b (fun z => n (z ▸ ma))).trans e⟩
  refine ⟨⟨fun b o e => (hs.2 b (fun z => by subst z; have := (I.apart _ ma).1; rw [e] at this; cases this)).trans (I.keep b o e), I.apart, I.nodup, ⟨by rw [List.length_set]; exact I.rep.len, fun j o b e1 e2 => ?_⟩, I.gens, I.os⟩, g⟩
  by_cases hij : i = j
  · subst hij
    rw [ha] at e2; cases e2
    have hl : i < σ.length := I.rep.len ▸ (List.getElem?_eq_some_iff.mp ha).1
    rw [List.getElem?_set_self hl] at e1; cases e1
    exact ho
  · rw [List.getElem?_set_ne hij] at e1
    have hb : b ≠ a := fun z => by
      subst z
      obtain ⟨h1, e3⟩ := List.getElem?_eq_some_iff.mp ha
      obtain ⟨h2, e4⟩ := List.getElem?_eq_some_iff.mp e2
      exact hij ((List.getElem_inj I.nodup).mp (e3.trans e4.symm))
    exact (I.rep.obj j o b e1 e2).moved I.tupOut g (fun ob e => (hs.2 b hb).trans e) (fun b' ob e n => g.kept b' ob e n) I.rep.noFields
theorem Inv.alloc (I : Inv c s θ σ) {ob : Obj} {o : SO} {t : Nat} (ho : RepO c.prog c.w (s.heap.push ob) (θ ++ [s.heap.objs.size]) s.heap.objs.size o) :
    Inv c { s with heap := s.heap.push ob, toks := t } (θ ++ [s.heap.objs.size]) (σ ++ [o]) ∧ Grow s.heap θ (s.heap.push ob) (θ ++ [s.heap.objs.size]) := by
  have k : ∀ b o, s.heap.get? b = some o → (s.heap.push ob).get? b = some o := fun b o e => Heap.get?_push_of_some _ e
  have N := I.new (Nat.le_refl s.heap.objs.size)
  have g : Grow s.heap θ (s.heap.push ob) (θ ++ [s.heap.objs.size]) := by
    refine ⟨⟨_, rfl⟩, fun a m n => ?_, fun b o e _ => k b o e⟩
    rcases List.mem_append.mp m with m | m
    · exact (n m).elim
    · rw [List.mem_singleton.mp m]
      cases e : s.heap.get? s.heap.objs.size with
      | none => rfl
      | some o => exact absurd (Heap.lt_size e) (Nat.lt_irrefl _)
  refine ⟨⟨fun b o e => k _ _ (I.keep b o e), fun a m => ?_, ?_, ⟨by simp [I.rep.len], fun j o' b e1 e2 => ?_⟩, I.gens, I.os⟩, g⟩
  · rcases List.mem_append.mp m with m | m
    · exact I.apart a m
    · rw [List.mem_singleton.mp m]; obtain ⟨o2, e2⟩ := c.low; exact ⟨N.2, Heap.lt_size (I.keep _ _ e2)⟩
  · refine List.nodup_append.mpr ⟨I.nodup, (by simp), fun a m b m' => ?_⟩
    rw [List.mem_singleton.mp m']
    exact fun z => N.1 (z ▸ m)
  · by_cases hj : j < σ.length
    · rw [List.getElem?_append_left hj] at e1
      rw [List.getElem?_append_left (I.rep.len ▸ hj)] at e2
      exact (I.rep.obj j o' b e1 e2).moved I.tupOut g (fun ob e => k _ _ e) (fun b' ob e _ => k _ _ e) I.rep.noFields
    · have hj' : j = σ.length := by
        have := (List.getElem?_eq_some_iff.mp e1).1
        simp at this; omega
      subst hj'
      rw [List.getElem?_append_right (Nat.le_refl _)] at e1
      rw [← I.rep.len, List.getElem?_append_right (Nat.le_refl _)] at e2
      simp at e1 e2
      subst e1 e2
      exact ho
theorem Inv.tuple (I : Inv c s θ σ) {vs : List V} {vs' : List Value} {t : Nat} (r : RepVs s.heap θ vs vs') (q : Q (.tup vs) σ) :
    OkV c s θ Q (.ref s.heap.objs.size) { s with heap := s.heap.push { cls := .type "tuple", data := .seq vs'.toArray }, toks := t } := by
  have k : ∀ b o, s.heap.get? b = some o → (s.heap.push { cls := .type "tuple", data := .seq vs'.toArray }).get? b = some o := fun b o e => Heap.get?_push_of_some _ e
  exact ⟨.tup vs, σ, θ, I.keeps k, grow_keeps k, .tup vs _ vs' ⟨0, Heap.get?_push_size _ rfl⟩ (r.grow I.tupOut (grow_keeps k)), q⟩
theorem Inv.list (I : Inv c s θ σ) {vs : List V} {vs' : List Value} {t : Nat} (r : RepVs s.heap θ vs vs') (q : Q (.loc σ.length) (σ ++ [.list vs])) :
    OkV c s θ Q (.ref s.heap.objs.size) { s with heap := s.heap.push { cls := .type "list", data := .seq vs'.toArray }, toks := t } := by
  have k : ∀ b o, s.heap.get? b = some o → (s.heap.push { cls := .type "list", data := .seq vs'.toArray }).get? b = some o := fun b o e => Heap.get?_push_of_some _ e
  have g0 : Grow s.heap θ (s.heap.push { cls := .type "list", data := .seq vs'.toArray }) (θ ++ [s.heap.objs.size]) := by
    refine ⟨⟨_, rfl⟩, fun a m n => ?_, fun b o e _ => k b o e⟩
    rcases List.mem_append.mp m with m | m
    · exact (n m).elim
    · rw [List.mem_singleton.mp m]
      cases e : s.heap.get? s.heap.objs.size with
      | none => rfl
      | some o => exact absurd (Heap.lt_size e) (Nat.lt_irrefl _)
  obtain ⟨I', g⟩ := I.alloc (ob := { cls := .type "list", data := .seq vs'.toArray }) (o := .list vs) (t := t) ⟨vs', 0, Heap.get?_push_size _ rfl, r.grow I.tupOut g0⟩
  exact ⟨.loc σ.length, _, _, I', g, .loc _ _ (by rw [← I.rep.len]; simp), q⟩
theorem EV_Tuple {es : List Expr} {k : Nat} {pos : Pos} (h : EVs c sc d es ρ σ fun vs σ₁ => vs.length ≤ 1000 ∧ Q (.tup vs) σ₁) : EV c sc d (.Tuple es k pos) ρ σ Q := fun A env s θ r X I F => by
  refine Tuple_ (wpAny_mono (h A env pos s θ r X I F) (fun vs' s₁ h₁ => ?_) fun _ _ x => x)
  obtain ⟨vs, σ₁, θ₁, I₁, g₁, rv, hl, q⟩ := h₁
  exact wpV.trans g₁ (wpAny_newObj_type (by exact I₁.tuple (t := s₁.toks) rv q) (by show vs'.toArray.size ≤ sizeLine; rw [List.size_toArray, ← rv.length, sizeLine_eq]; omega))
theorem EV_List {es : List Expr} {pos : Pos} (h : EVs c sc d es ρ σ fun vs σ₁ => vs.length ≤ 1000 ∧ Q (.loc σ₁.length) (σ₁ ++ [.list vs])) : EV c sc d (.List es pos) ρ σ Q := fun A env s θ r X I F => by
  refine List_ (wpAny_mono (h A env pos s θ r X I F) (fun vs' s₁ h₁ => ?_) fun _ _ x => x)
  obtain ⟨vs, σ₁, θ₁, I₁, g₁, rv, hl, q⟩ := h₁
  exact wpV.trans g₁ (wpAny_newObj_type (by exact I₁.list (t := s₁.toks) rv q) (by show vs'.toArray.size ≤ sizeLine; rw [List.size_toArray, ← rv.length, sizeLine_eq]; omega))
theorem EV_Dict0I {pos : Pos} (h : Q (.loc σ.length) (σ ++ [.dictI []])) : EV c sc d (.Dict [] [] pos) ρ σ Q := fun A env s θ r X I F => by
  refine wpAny_Dict_empty ?_
  obtain ⟨I', g⟩ := I.alloc (ob := { cls := .type "dict", data := .dict #[] }) (o := .dictI []) (t := s.toks) ⟨[], Heap.DictOf.new _, .nil⟩
  exact ⟨.loc σ.length, _, _, I', g, .loc _ _ (by rw [← I.rep.len]; simp), h⟩
theorem EV_Call {x : Str} {p pos : Pos} {args : List Expr} (hs : noStar args = true) (h : EV c sc d (.Name x p) ρ σ fun f σ₁ => EVs c sc d args ρ σ₁ fun vs σ₂ => Kp c σ₂ f ∧ CALL c d f vs σ₂ Q) : EV c sc d (.Call (.Name x p) args [] pos) ρ σ Q := fun A env s θ r X I F => by
  refine Call_ (wpAny_mono (h A env s θ r X I F) (fun f' s₁ h₁ => ?_) fun _ _ x => x)
  obtain ⟨f, σ₁, θ₁, I₁, g₁, rf, q⟩ := h₁
  exact wpV.trans g₁ (callWith_ok (first := []) hs r X I₁ (F.grow I.tupOut g₁) rf .nil q)
inductive OkM (c : Cx) (s : Shared) (θ : List Addr) (Q : V → List V → St → Prop) (fx : Value × List Value) (s' : Shared) : Prop
  | mk (f : V) (first : List V) (σ' : St) (θ' : List Addr) : Inv c s' θ' σ' → Grow s.heap θ s'.heap θ' → RepV s'.heap θ' f fx.1 → RepVs s'.heap θ' first fx.2 → Q f first σ' → OkM c s θ Q fx s'
noncomputable def GM (c : Cx) (d : Nat) (o : V) (name : Str) (σ : St) (Q : V → List V → St → Prop) : Prop :=
  ∀ A s θ o' pl, Room A d → Inv c s θ σ → RepV s.heap θ o o' → wpAny (model c.prog c.w) A (getMethod o' name pl) (OkM c s θ Q) NoE s
theorem EV_MCall {o : Expr} {name : Str} {apos pos : Pos} {args : List Expr} (hs : noStar args = true)
    (h : EV c sc d o ρ σ fun ov σ₁ => GM c d ov name σ₁ fun f first σ₂ => EVs c sc d args ρ σ₂ fun vs σ₃ => Kp c σ₃ f ∧ CALL c d f (first ++ vs) σ₃ Q)
    (he : ∀ env, ∃ pl, eval (.Call (.Attribute o name apos) args [] pos) env = (do
      let ov ← eval o env
      standAt apos.atName
      let (f, first) ← holding [ov] (getMethod ov name pl)
      callWith pos f first (backTo pos (starEach args env)) [])) : EV c sc d (.Call (.Attribute o name apos) args [] pos) ρ σ Q := fun A env s θ r X I F => by
  obtain ⟨pl, he⟩ := he env
  refine MethodCall_ (wpAny_mono (h A env s θ r X I F) (fun o' s₁ h₁ => ?_) fun _ _ x => x) he
  obtain ⟨o, σ₁, θ₁, I₁, g₁, ro, q⟩ := h₁
  refine wpAny_mono (q A s₁ θ₁ o' pl r I₁ ro) (fun fx s₂ h₂ => ?_) fun _ _ x => x
  obtain ⟨f, first, σ₂, θ₂, I₂, g₂, rf, rfs, q₂⟩ := h₂
  exact wpV.trans (g₁.trans g₂) (callWith_ok hs r X I₂ ((F.grow I.tupOut g₁).grow I₁.tupOut g₂) rf rfs q₂)
theorem RepV.ofLoc {h : Heap} {n : Nat} {v' : Value} (r : RepV h θ (.loc n) v') : ∃ a, v' = .ref a ∧ θ[n]? = some a := by
  cases r with | loc n a e => exact ⟨a, rfl, e⟩
theorem Inv.isL (I : Inv c s θ σ) {n : Nat} {a : Addr} {l : List V} (hn : σ[n]? = some (.list l)) (e : θ[n]? = some a) : ∃ xs k, IsL s.heap a xs.toArray k ∧ RepVs s.heap θ l xs := I.rep.obj n _ a hn e
theorem GM_list {n : Nat} {l : List V} {name : Str} {id : String} {Q : V → List V → St → Prop} (hn : σ[n]? = some (.list l)) (slot : Slot "list" name id) (hty : typeOf (.builtin id) = pure (.type "method_descriptor")) (h : Q (.raw (.builtin id)) [.loc n] σ) :
    GM c d (.loc n) name σ Q := fun A s θ o' pl r I ro => by
  obtain ⟨a, rfl, e⟩ := ro.ofLoc
  obtain ⟨xs, k, hl, _⟩ := I.isL hn e
  exact getMethod_builtin ⟨_, hl, rfl⟩ F.plainAttrs_list slot hty (fun a' e' => by cases e'; exact ⟨_, hl, rfl⟩) ⟨_, [.loc n], σ, θ, I, Grow.refl _ _, .raw _, .cons (.loc n a e) .nil, h⟩
theorem Inv.listUpd (I : Inv c s θ σ) {n k t : Nat} {a : Addr} {xs ys : List Value} {l' : List V} {f : Array Value → Array Value} {v : V} {v' : Value} (e : θ[n]? = some a) (hl : IsL s.heap a xs.toArray k)
    (hf : f xs.toArray = ys.toArray) (rl : RepVs s.heap θ l' ys) (rv : RepV s.heap θ v v') (q : Q v (σ.set n (.list l'))) : OkV c s θ Q v' { s with heap := s.heap.update a (Obj.mapSeq f), toks := t } := by
  have hs : Heap.SameBut a s.heap (s.heap.update a (Obj.mapSeq f)) := Heap.SameBut.update ..
  have g : Grow s.heap θ (s.heap.update a (Obj.mapSeq f)) θ := ⟨⟨[], (List.append_nil _).symm⟩, fun _ m n => (n m).elim, fun b o e' n => (hs.2 b (fun z => n (z ▸ List.mem_of_getElem? e))).trans e'⟩
  have hL := hl.update f
  rw [hf] at hL
  obtain ⟨I', _⟩ := I.upd (o' := .list l') (t := t) e hs ⟨ys, _, hL, rl.grow I.tupOut g⟩
  exact ⟨v, _, θ, I', g, rv.grow I.tupOut g, q⟩
theorem RepVs.one {h : Heap} {v : V} {xs : List Value} (r : RepVs h θ [v] xs) : ∃ x, xs = [x] ∧ RepV h θ v x := by
  cases r with | cons a b => cases b; exact ⟨_, rfl, a⟩
theorem RepVs.two {h : Heap} {v u : V} {xs : List Value} (r : RepVs h θ [v, u] xs) : ∃ x y, xs = [x, y] ∧ RepV h θ v x ∧ RepV h θ u y := by
  cases r with | cons a b => obtain ⟨y, rfl, q⟩ := b.one; exact ⟨_, _, rfl, a, q⟩
theorem RepVs.three {h : Heap} {v u t : V} {xs : List Value} (r : RepVs h θ [v, u, t] xs) : ∃ x y z, xs = [x, y, z] ∧ RepV h θ v x ∧ RepV h θ u y ∧ RepV h θ t z := by
  cases r with | cons a b => obtain ⟨y, z, rfl, q⟩ := b.two; exact ⟨_, _, _, rfl, a, q⟩
theorem sz {xs : List Value} {l : List V} {h : Heap} (r : RepVs h θ l xs) (hl : l.length ≤ 10000) : xs.toArray.size ≤ sizeLine := by rw [List.size_toArray, ← r.length, sizeLine_eq]; omega
theorem CALL_append {n : Nat} {l : List V} {v : V} (hn : σ[n]? = some (.list l)) (hsz : l.length ≤ 10000) (h : Q .none (σ.set n (.list (l ++ [v])))) : CALL c d (.raw (.builtin "list.append")) [.loc n, v] σ Q := fun A s θ f' vs' r I rf rv => by
  cases rf
  obtain ⟨x, v', rfl, r1, r2⟩ := rv.two
  obtain ⟨a, rfl, e⟩ := r1.ofLoc
  obtain ⟨xs, k, hl, rl⟩ := I.isL hn e
  exact call_meets F.slot_list_append ⟨_, hl, rfl⟩ F.entry_list_append (F.args_list_append_2 _ _) (list_append a xs.toArray k v' (sz rl hsz)) ⟨hl, I.listUpd e hl (by simp) (rl.append (.cons r2 .nil)) .none h⟩
theorem CALL_pop {n : Nat} {l : List V} {v : V} (hn : σ[n]? = some (.list (l ++ [v]))) (hsz : l.length ≤ 9000) (h : Q v (σ.set n (.list l))) : CALL c d (.raw (.builtin "list.pop")) [.loc n] σ Q := fun A s θ f' vs' r I rf rv => by
  cases rf
  obtain ⟨x, rfl, r1⟩ := rv.one
  obtain ⟨a, rfl, e⟩ := r1.ofLoc
  obtain ⟨xs, k, hl, rl⟩ := I.isL hn e
  have hlen := rl.length
  simp at hlen
  obtain ⟨y, hy, ry⟩ := rl.at (i := l.length) (v := v) (by simp)
  have hy' : xs.toArray[xs.toArray.size - 1]? = some y := by rw [List.size_toArray, ← hlen]; simpa using hy
  refine call_meets F.slot_list_pop ⟨_, hl, rfl⟩ F.entry_list_pop (F.args_list_pop_1 _) (list_pop_last a xs.toArray k y hy' (sz rl (by simp; omega))) ⟨hl, ?_⟩
  refine I.listUpd (ys := xs.take l.length) (l' := l) e hl ?_ (by simpa using rl.take l.length) ry h
  rw [List.size_toArray, ← hlen]
  simp only [Nat.add_sub_cancel]
  have : xs = xs.take l.length ++ [y] := by
    have h1 : xs.drop l.length = [y] := by
      rw [List.drop_eq_getElem_cons (by omega)]
      have : xs[l.length]'(by omega) = y := by
        have := List.getElem?_eq_getElem (l := xs) (i := l.length) (by omega)
        rw [hy] at this; exact (Option.some.inj this).symm
      rw [this, List.drop_eq_nil_of_le (by omega)]
    conv => lhs; rw [← List.take_append_drop l.length xs, h1]
  rw [List.eraseIdxIfInBounds_toArray]
  congr 1
  conv => lhs; rw [this]
  rw [List.eraseIdx_append_of_length_le (by rw [List.length_take]; exact Nat.min_le_left ..)]
  simp [Nat.min_eq_left (show l.length ≤ xs.length by omega)]
end
end Mine
end
section
open PySem PySem.W PySem.Calls PyProof.Rows
set_option linter.unusedVariables false
namespace Mine
section
variable {c : Cx} {sc : Sc} {d : Nat} {ρ : Vars} {σ : St} {Q : Post} {R : Fl → Vars → St → Prop} {A : Around} {env : Env} {s s₁ : Shared} {θ θ₁ : List Addr}
noncomputable def hand : V → Bool
  | .raw (.builtin _) => false
  | _ => true
theorem handedIn_of {h : Heap} {v : V} {v' : Value} (e : hand v = true) (r : RepV h θ v v') : handedIn v' = true := by
  cases r with
  | raw => cases v' <;> first | rfl | cases e
  | _ => rfl
structure AttrOf (K : Frag) (C : Addr) (name : Str) : Prop where
  g : plainGet K C name = true
  h : hasDictIn K C = true
  a : ∃ attr, findIn K (.ref C) name = some attr ∧ noGet K attr = true
theorem Inv.inst (I : Inv c s θ σ) {n k : Nat} {C : Addr} {l : List (Str × V)} (hn : σ[n]? = some (.inst C k)) (hk : σ[k]? = some (.attrs l)) {a : Addr} (e : θ[n]? = some a) :
    ∃ dx es m, θ[k]? = some dx ∧ s.heap.get? dx = some (dictOf es m) ∧ RepAs s.heap θ l es ∧ InstAt s.heap a (instObj C dx) C (some (dictOf es m)) := by
  obtain ⟨dx, h1, h2⟩ := I.rep.obj n _ a hn e
  obtain ⟨es, m, h3, h4⟩ := I.rep.obj k _ dx hk h1
  exact ⟨dx, es, m, h1, h3, h4, ⟨h2, rfl, rfl, h3⟩⟩
noncomputable def ATTR (c : Cx) (d : Nat) (o : V) (name : Str) (σ : St) (Q : Post) : Prop :=
  ∀ A s θ o' b, Room A d → Inv c s θ σ → RepV s.heap θ o o' → wpAny (model c.prog c.w) A (getAttr o' name b) (OkV c s θ Q) NoE s
theorem ATTR_inst (Cc : CxOk c) {n k : Nat} {C : Addr} {l : List (Str × V)} {name : Str} {v : V} (hn : σ[n]? = some (.inst C k)) (hk : σ[k]? = some (.attrs l)) (hv : get l name = some v) (ha : AttrOf c.K C name) (hh : hand v = true) (h : Q v σ) :
    ATTR c d (.loc n) name σ Q := fun A s θ o' b r I ro => by
  obtain ⟨a, rfl, e⟩ := ro.ofLoc
  obtain ⟨dx, es, m, h1, h2, h3, I'⟩ := I.inst hn hk e
  have q := h3.find name
  rw [hv] at q
  obtain ⟨v', q1, q2⟩ := q
  obtain ⟨attr, a1, a2⟩ := ha.a
  exact get_value (Cc.K.keeps I.keep) I' (plainGet_of ha.g).1 (findObj_own ha.h a1 a2 (show lookIn name (dictOf es m) = some (some v') from q1)) (handedIn_of hh q2) (I.okVt q2 h)
theorem EV_Attr {o : Expr} {name : Str} {pos : Pos} (h : EV c sc d o ρ σ fun ov σ₁ => ATTR c d ov name σ₁ Q)
    (he : ∀ env, eval (.Attribute o name pos) env = (do
      let ov ← eval o env
      standAt pos.atName
      let r ← holding [ov] (getAttr ov name true)
      letTemporaryGo o ov r
      pure r)) : EV c sc d (.Attribute o name pos) ρ σ Q := fun A env s θ r X I F => by
  rw [he env]
  refine wpAny_bind (wpAny_mono (h A env s θ r X I F) (fun o' s₁ h₁ => wpAny_bind (wpAny_standAt ?_)) fun _ _ x => x)
  obtain ⟨o, σ₁, θ₁, I₁, g₁, ro, q⟩ := h₁
  refine wpAny_bind (wpAny_holding (wpAny_mono (q A s₁ θ₁ o' true r I₁ ro) (fun v' s₂ h₂ => ?_) fun _ _ x => x))
  exact wpAny_bind (wpAny_letTemporaryGo (wpAny_pure (h₂.trans g₁)))
structure MethOf (K : Frag) (C : Addr) (name : Str) (f : Addr) : Prop where
  g : plainGet K C name = true
  find : findIn K (.ref C) name = some (some (.ref f))
  t : isFn K (.ref f) = true
theorem GM_inst (Cc : CxOk c) {n k : Nat} {C f : Addr} {l : List (Str × V)} {name : Str} {Q : V → List V → St → Prop} (hn : σ[n]? = some (.inst C k)) (hk : σ[k]? = some (.attrs l)) (hv : get l name = none) (ha : MethOf c.K C name f) (h : Q (.raw (.ref f)) [.loc n] σ) :
    GM c d (.loc n) name σ Q := fun A s θ o' pl r I ro => by
  obtain ⟨a, rfl, e⟩ := ro.ofLoc
  obtain ⟨dx, es, m, h1, h2, h3, I'⟩ := I.inst hn hk e
  have q := h3.find name
  rw [hv] at q
  exact method_fn (Cc.K.keeps I.keep) I' (plainGet_of ha.g).1 (plainGet_of ha.g).2 ha.find (beq_iff_eq.mp ha.t) (by show (lookIn name (dictOf es m)).map _ = _; rw [lookIn_dict, q]; rfl) ⟨_, [.loc n], σ, θ, I, Grow.refl _ _, .raw _, .cons (.loc n a e) .nil, h⟩
structure StoreOf (K : Frag) (C : Addr) (name : Str) : Prop where
  s : findIn K (.ref C) "__setattr__" = some (some (.builtin "object.__setattr__"))
  p : plainOver K C = true
  t : takerIn K C name = some none
  h : hasDictIn K C = true
inductive OkU (c : Cx) (s : Shared) (θ : List Addr) (Q : St → Prop) (u : Unit) (s' : Shared) : Prop
  | mk (σ' : St) (θ' : List Addr) : Inv c s' θ' σ' → Grow s.heap θ s'.heap θ' → Q σ' → OkU c s θ Q u s'
theorem setAttr_ok (Cc : CxOk c) {n k : Nat} {C : Addr} {l : List (Str × V)} {name : Str} {v : V} {o' v' : Value} {Q : St → Prop} (I : Inv c s θ σ) (ro : RepV s.heap θ (.loc n) o') (rv : RepV s.heap θ v v')
    (hn : σ[n]? = some (.inst C k)) (hk : σ[k]? = some (.attrs l)) (ha : StoreOf c.K C name) (hz : l.length ≤ 900) (h : Q (σ.set k (.attrs (put l name v)))) :
    wpAny (model c.prog c.w) A (setAttr o' name v') (OkU c s θ Q) NoE s := by
  obtain ⟨a, rfl, e⟩ := ro.ofLoc
  obtain ⟨dx, es, m, h1, h2, h3, I'⟩ := I.inst hn hk e
  have X := Cc.K.keeps I.keep
  refine set_plain X I' ha.s ?_
  refine osa_open (s := { s with toks := s.toks + 1 }) X I' ha.p ha.t fun b => ?_
  obtain ⟨cd, hc, hd'⟩ := any_some ha.h
  have hx := I'.at_
  refine wpAny_bind (wpAny_pure (wpAny_bind (wpAny_bind (wpAny_loadPart hx (wpAny_bind (looks_clsIn X hc _ _ _ _ (fun _ _ e => e) ?_))))))
  rw [hd']
  refine wpAny_pure (a := some dx) (wpAny_bind (wpAny_pure (wpAny_bind ?_)))
  unfold nsSet
  refine wpAny_bind (wpAny_bind (wpAny_askSetting (wpAny_pure (wpAny_bind (wpAny_mkText (wpAny_bind (wpAny_loadPart h2 ?_)))))))
  dsimp only
  have cN : (!es.toArray.any (·.key.isStr name) && es.toArray.any (·.refKey)) = false := by
    have : es.toArray.any (·.refKey) = false := by rw [List.any_toArray]; exact h3.refKey
    rw [this, Bool.and_false]
  rw [aRefKeyMayBeTheName_at, cN]
  refine wpAny_updatePart h2 ?_
  have fz : Obj.putName name (PyData.keyHash c.w.params name) (.str name (s.toks + 1)) v' (dictOf es m) = dictOf (putL name (PyData.keyHash c.w.params name) (.str name (s.toks + 1)) v' es) (putN name es m) := putName_dict ..
  have D' : (s.heap.update dx (Obj.putName name (PyData.keyHash c.w.params name) (.str name (s.toks + 1)) v')).get? dx = some (dictOf (putL name (PyData.keyHash c.w.params name) (.str name (s.toks + 1)) v' es) (putN name es m)) := by
    rw [Heap.get?_update_self _ h2 (by rw [fz]; rfl), fz]
  have hs : Heap.SameBut dx s.heap (s.heap.update dx (Obj.putName name (PyData.keyHash c.w.params name) (.str name (s.toks + 1)) v')) := Heap.SameBut.update ..
  have g : Grow s.heap θ (s.heap.update dx (Obj.putName name (PyData.keyHash c.w.params name) (.str name (s.toks + 1)) v')) θ := ⟨⟨[], (List.append_nil _).symm⟩, fun _ m n => (n m).elim, fun b o e' n => (hs.2 b (fun z => n (z ▸ List.mem_of_getElem? h1))).trans e'⟩
  have hR := (h3.grow I.tupOut g).put (x := name) (t := s.toks + 1) (hsh := PyData.keyHash c.w.params name) (rv.grow I.tupOut g)
  have hlen : (putL name (PyData.keyHash c.w.params name) (.str name (s.toks + 1)) v' es).length ≤ 1000 := by
    have : (put l name v).length ≤ l.length + 1 := by
      clear hR h hk hz h3
      induction l with
      | nil => simp [put]
      | cons p r ih => obtain ⟨y, u⟩ := p; unfold put; split <;> simp <;> omega
    rw [← hR.length]; omega
  refine wpAny_bind (wpAny_lookBehind D' (pastItsLine_dict (by rw [List.size_toArray, sizeLine_eq]; omega)) ?_)
  refine wpAny_pure ?_
  obtain ⟨I₂, _⟩ := I.upd (o' := .attrs (put l name v)) (t := s.toks + 1 + 1) h1 hs ⟨_, _, D', hR⟩
  exact ⟨_, θ, I₂, g, h⟩
end
end Mine
end
section
open PySem PySem.W PySem.Calls PyProof.Rows
set_option linter.unusedVariables false
namespace Mine
section
variable {c : Cx} {sc : Sc} {d : Nat} {ρ : Vars} {σ : St} {Q : Post} {R : Fl → Vars → St → Prop} {A : Around} {env : Env} {s s₁ : Shared} {θ θ₁ : List Addr} {a b : Int} {x y : Str}
-- ints
theorem BIN_add (h : Q (.int (a + b)) σ) : BIN c d .Add (.int a) (.int b) σ Q := fun A s θ a' b' r I ra rb => by cases ra; cases rb; exact add_int (I.okVt (.int _ _) h)
theorem BIN_sub (h : Q (.int (a - b)) σ) : BIN c d .Sub (.int a) (.int b) σ Q := fun A s θ a' b' r I ra rb => by cases ra; cases rb; exact sub_int (I.okVt (.int _ _) h)
theorem BIN_mul (hm : PySem.IntMulOk a b) (h : Q (.int (a * b)) σ) : BIN c d .Mult (.int a) (.int b) σ Q := fun A s θ a' b' r I ra rb => by cases ra; cases rb; exact PySem.AutoIntOps.mul_0 (I.okVt (.int _ _) h) hm
theorem BIN_mod (hb : b ≠ 0) (h : Q (.int (a.fmod b)) σ) : BIN c d .Mod (.int a) (.int b) σ Q := fun A s θ a' b' r I ra rb => by cases ra; cases rb; exact mod_int hb (I.okVt (.int _ _) h)
theorem BIN_floordiv (hb : b ≠ 0) (hp : Builtin.divisionGoesByPylong a b = false) (h : Q (.int (a.fdiv b)) σ) : BIN c d .FloorDiv (.int a) (.int b) σ Q := fun A s θ a' b' r I ra rb => by
  cases ra; cases rb; exact PySem.AutoIntOps.floordiv_1 (by simpa using hb) (by rw [hp]; exact Bool.false_ne_true) (I.okVt (.int _ _) h)
theorem BIN_lshift (hb : 0 ≤ b) (hz : (Builtin.Int.intBits a : Int) + b ≤ 2 ^ 27) (h : Q (.int (a * 2 ^ b.toNat)) σ) : BIN c d .LShift (.int a) (.int b) σ Q := fun A s θ a' b' r I ra rb => by cases ra; cases rb; exact lshift_int hb hz (I.okVt (.int _ _) h)
theorem CMP_lt (h : Q (.bool (decide (a < b))) σ) : CMP c d .Lt (.int a) (.int b) σ Q := fun A s θ a' b' r I ra rb => by cases ra; cases rb; exact lt_int (I.okV (.bool _) h)
theorem CMP_gt (h : Q (.bool (decide (b < a))) σ) : CMP c d .Gt (.int a) (.int b) σ Q := fun A s θ a' b' r I ra rb => by cases ra; cases rb; exact gt_int (I.okV (.bool _) h)
theorem CMP_le (h : Q (.bool (decide (a ≤ b))) σ) : CMP c d .LtE (.int a) (.int b) σ Q := fun A s θ a' b' r I ra rb => by cases ra; cases rb; exact le_int (I.okV (.bool _) h)
theorem CMP_ge (h : Q (.bool (decide (b ≤ a))) σ) : CMP c d .GtE (.int a) (.int b) σ Q := fun A s θ a' b' r I ra rb => by cases ra; cases rb; exact ge_int (I.okV (.bool _) h)
theorem CMP_eq (h : Q (.bool (decide (a = b))) σ) : CMP c d .Eq (.int a) (.int b) σ Q := fun A s θ a' b' r I ra rb => by cases ra; cases rb; exact PyProof.Rows.eq_int (I.okV (.bool _) h)
theorem CMP_ne (h : Q (.bool (!decide (a = b))) σ) : CMP c d .NotEq (.int a) (.int b) σ Q := fun A s θ a' b' r I ra rb => by cases ra; cases rb; exact PyProof.Rows.ne_int (I.okV (.bool _) h)
theorem CMP_eqS (h : Q (.bool (decide (x = y))) σ) : CMP c d .Eq (.str x) (.str y) σ Q := fun A s θ a' b' r I ra rb => by cases ra; cases rb; exact PyProof.Rows.eq_str (I.okV (.bool _) (by rw [show (x == y) = decide (x = y) from by by_cases h : x = y <;> simp [h]]; exact h))
theorem CMP_neS (h : Q (.bool (!decide (x = y))) σ) : CMP c d .NotEq (.str x) (.str y) σ Q := fun A s θ a' b' r I ra rb => by cases ra; cases rb; exact PyProof.Rows.ne_str (I.okV (.bool _) (by rw [show (x != y) = !decide (x = y) from by by_cases h : x = y <;> simp [h]]; exact h))
noncomputable def isNone : V → Bool
  | .none => true
  | _ => false
theorem CMP_is {v : V} (hv : ∀ u, v ≠ .raw u) (h : Q (.bool (isNone v)) σ) : CMP c d .Is v .none σ Q := fun A s θ a' b' r I ra rb => by
  cases rb
  refine PySem.is_none (I.okV (.bool _) ?_)
  cases ra with
  | raw v => exact absurd rfl (hv _)
  | _ => exact h
theorem CMP_isNot {v : V} (hv : ∀ u, v ≠ .raw u) (h : Q (.bool (!isNone v)) σ) : CMP c d .IsNot v .none σ Q := fun A s θ a' b' r I ra rb => by
  cases rb
  refine PySem.isNot_none (I.okV (.bool _) ?_)
  cases ra with
  | raw v => exact absurd rfl (hv _)
  | _ => exact h
theorem repStrs {h : Heap} : ∀ {ys : List Str} {xs : List Value}, RepVs h θ (ys.map .str) xs → ∀ z ∈ xs, ∃ y t, z = .str y t
  | [], _, .nil, _, m => nomatch m
  | y :: ys, _, .cons a b, z, m => by
    rcases List.mem_cons.mp m with rfl | m
    · cases a; exact ⟨_, _, rfl⟩
    · exact repStrs b z m
noncomputable def eqTo (x : Str) : Value → Bool
  | .str y _ => y == x
  | _ => false
theorem anyStrs {h : Heap} : ∀ {ys : List Str} {xs : List Value}, RepVs h θ (ys.map .str) xs → xs.any (eqTo x) = decide (x ∈ ys)
  | [], _, .nil => by simp
  | y :: ys, _, .cons a b => by
    cases a
    rw [List.any_cons, anyStrs b]
    show ((y == x) || decide (x ∈ ys)) = _
    by_cases h : x = y
    · subst h; simp
    · have h' : (y == x) = false := by simp; exact fun e => h e.symm
      rw [h']; simp [h]
theorem eqToGives {h : Heap} {ys : List Str} {xs : List Value} (r : RepVs h θ (ys.map .str) xs) (t : Tok) : ∀ z, z ∈ xs.toArray → MeetsSeq.EqGives z (.str x t) (eqTo x z) := fun z m => by
  obtain ⟨y, u, rfl⟩ := repStrs r z (by simpa using m)
  exact eqGives_str _ _ _ _
theorem CMP_inT {ys : List Str} (h : Q (.bool (decide (x ∈ ys))) σ) : CMP c d .In (.str x) (.tup (ys.map .str)) σ Q := fun A s θ a' b' r I ra rb => by
  cases ra; cases rb with
  | tup l a xs ht hr =>
    obtain ⟨n, ht⟩ := ht
    exact PySem.SeqRoads2.in_tuple (eqTo x) (eqToGives hr _) ht (I.okV (.bool _) (by rw [List.any_toArray, anyStrs hr]; exact h))
noncomputable def getK {K : Type} [DecidableEq K] {α : Type} : List (K × α) → K → Option α
  | [], _ => none
  | (y, v) :: r, x => if y = x then some v else getK r x
noncomputable def putK {K : Type} [DecidableEq K] {α : Type} (l : List (K × α)) (x : K) (v : α) : List (K × α) :=
  if l.any (fun kv => kv.1 = x) then l.map (fun kv => if kv.1 = x then (kv.1, v) else kv) else l ++ [(x, v)]
theorem RepKs.val {K : Type} [DecidableEq K] {h : Heap} {l : List (K × V)} {kvs : List (K × Value)} (r : RepKs h θ l kvs) (k : K) :
    match getK l k with | some v => ∃ v', valueAt kvs k = some v' ∧ RepV h θ v v' | none => valueAt kvs k = none := by
  induction r with
  | nil => rfl
  | @cons y v x l xs a _ ih =>
    unfold getK
    unfold valueAt
    rw [List.find?_cons]
    by_cases hy : y = k
    · rw [if_pos hy, decide_eq_true hy]; exact ⟨_, rfl, a⟩
    · rw [if_neg hy, decide_eq_false hy]; exact ih
theorem RepKs.some? {K : Type} [DecidableEq K] {h : Heap} {l : List (K × V)} {kvs : List (K × Value)} (r : RepKs h θ l kvs) (k : K) : (valueAt kvs k).isSome = (getK l k).isSome := by
  have := r.val k
  split at this
  · rename_i e; obtain ⟨v', e', _⟩ := this; rw [e, e']; rfl
  · rename_i e; rw [e, this]; rfl
theorem RepKs.any {K : Type} [DecidableEq K] {h : Heap} {l : List (K × V)} {kvs : List (K × Value)} (r : RepKs h θ l kvs) (k : K) : kvs.any (fun kv => kv.1 = k) = l.any (fun kv => kv.1 = k) := by
  induction r with
  | nil => rfl
  | cons a _ ih => rw [List.any_cons, List.any_cons, ih]
theorem RepKs.append {K : Type} {h : Heap} {l : List (K × V)} {kvs : List (K × Value)} (r : RepKs h θ l kvs) {k : K} {v : V} {v' : Value} (rv : RepV h θ v v') : RepKs h θ (l ++ [(k, v)]) (kvs ++ [(k, v')]) := by
  induction r with
  | nil => exact .cons rv .nil
  | cons a _ ih => exact .cons a ih
theorem RepKs.mapped {K : Type} [DecidableEq K] {h : Heap} {l : List (K × V)} {kvs : List (K × Value)} (r : RepKs h θ l kvs) {k : K} {v : V} {v' : Value} (rv : RepV h θ v v') :
    RepKs h θ (l.map fun kv => if kv.1 = k then (kv.1, v) else kv) (kvs.map fun kv => if kv.1 = k then (kv.1, v') else kv) := by
  induction r with
  | nil => exact .nil
  | @cons y u x l xs a _ ih =>
    rw [List.map_cons, List.map_cons]
    by_cases hy : y = k
    · rw [if_pos hy, if_pos hy]; exact .cons rv ih
    · rw [if_neg hy, if_neg hy]; exact .cons a ih
theorem RepKs.stored {K : Type} [DecidableEq K] {h : Heap} {l : List (K × V)} {kvs : List (K × Value)} (r : RepKs h θ l kvs) {k : K} {v : V} {v' : Value} (rv : RepV h θ v v') : RepKs h θ (putK l k v) (PySem.stored kvs k v') := by
  unfold putK PySem.stored
  rw [r.any k]
  split
  · exact r.mapped rv
  · exact r.append rv
theorem RepKs.length {K : Type} {h : Heap} {l : List (K × V)} {kvs : List (K × Value)} (r : RepKs h θ l kvs) : l.length = kvs.length := by
  induction r with
  | nil => rfl
  | cons _ _ ih => exact congrArg Nat.succ ih
theorem Inv.notMods (I : Inv c s θ σ) {n : Nat} {a : Addr} (e : θ[n]? = some a) : (a == sysModules) = false := by
  have := (I.apart a (List.mem_of_getElem? e)).2
  have h1 : a ≠ sysModules := fun z => by rw [z] at this; exact absurd this (by decide)
  simpa using h1
theorem isStr_is (x : Str) (t : Tok) : (strKind c.prog c.w).is x (.str x t) = true := strKind_is c.prog c.w x t
theorem isInt_is (i : Int) (t : Tok) : (intKind c.prog c.w).is i (.int i t) = true := by simp [intKind, Value.isInt]
theorem notIn_of {K : Type} [DecidableEq K] {knd : KeyKind c.prog c.w K} {k : K} {key : Value} {dd : Addr} {f : K → Option Value} {Q : Value → Shared → Prop} {E : Value → Shared → Prop} (hkey : knd.is k key = true) (hd : (dd == sysModules) = false) (hm : s.heap.MapOf knd dd f)
    (h : Q (.bool (!(f k).isSome)) { s with toks := s.toks + 1 }) : wpAny (model c.prog c.w) A (compareOp .NotIn key (.ref dd)) Q E s := wpAny_notIn_of hkey hd hm h
theorem CMP_notInDS {n : Nat} {l : List (Str × V)} (hn : σ[n]? = some (.dictS l)) (h : Q (.bool (!(getK l x).isSome)) σ) : CMP c d .NotIn (.str x) (.loc n) σ Q := fun A s θ a' b' r I ra rb => by
  cases ra
  obtain ⟨a, rfl, e⟩ := rb.ofLoc
  obtain ⟨kvs, hd, hr⟩ := I.rep.obj n _ a hn e
  exact notIn_of (isStr_is x _) (I.notMods e) hd.mapOf (I.okVt (.bool _) (by rw [hr.some?]; exact h))
theorem CMP_notInDI {n : Nat} {l : List (Int × V)} (hn : σ[n]? = some (.dictI l)) (h : Q (.bool (!(getK l a).isSome)) σ) : CMP c d .NotIn (.int a) (.loc n) σ Q := fun A s θ a' b' r I ra rb => by
  cases ra
  obtain ⟨z, rfl, e⟩ := rb.ofLoc
  obtain ⟨kvs, hd, hr⟩ := I.rep.obj n _ z hn e
  exact notIn_of (isInt_is a _) (I.notMods e) hd.mapOf (I.okVt (.bool _) (by rw [hr.some?]; exact h))
end
end Mine
end
section
open PySem PySem.W PySem.Calls PyProof.Rows PySem.MeetsSeq PySem.MeetsSeq2 PySem.MeetsSeq3
set_option linter.unusedVariables false
namespace Mine
section
variable {c : Cx} {sc : Sc} {d : Nat} {ρ : Vars} {σ : St} {Q : Post} {B : Bool → St → Prop} {A : Around} {env : Env} {s s₁ : Shared} {θ θ₁ : List Addr} {a b : Int} {x y : Str}
theorem TRU_bool {b : Bool} (h : B b σ) : TRU c d (.bool b) σ B := fun A s θ a' r I ra => by cases ra; exact wpAny_truthy_bool (I.okB h)
theorem TRU_int (h : B (a != 0) σ) : TRU c d (.int a) σ B := fun A s θ a' r I ra => by cases ra; exact P.truthy_int (I.okB h)
theorem TRU_none (h : B false σ) : TRU c d .none σ B := fun A s θ a' r I ra => by cases ra; exact truthy_none (I.okB h)
theorem ET_val {e : Expr} (h : EV c sc d e ρ σ fun v σ₁ => TRU c d v σ₁ B)
    (he : ∀ env, PySem.isTrue e env (eval e env) = (do
          let v ← eval e env
          standAt e.pos
          holding [v] (truthy v))) : ET c sc d e ρ σ B := fun A env s θ r X I F => by
  refine wpAny_isTrue_value (wpAny_mono (h A env s θ r X I F) (fun v' s₁ h₁ => ?_) fun _ _ x => x) (he env)
  obtain ⟨v, σ₁, θ₁, I₁, g₁, rv, q⟩ := h₁
  exact wpB.trans g₁ (q A s₁ θ₁ v' r I₁ rv)
theorem ET_cmp {l r : Expr} {op : CmpOp} {pos : Pos} (h : EV c sc d l ρ σ fun a σ₁ => EV c sc d r ρ σ₁ fun b σ₂ => CMP c d op a b σ₂ fun v σ₃ => TRU c d v σ₃ B)
    (hm : behindInMarks op r = false) : ET c sc d (.Compare l [op] [r] pos) ρ σ B := fun A env s θ R X I F => by
  refine wpAny_isTrue_Compare1 (wpAny_mono (h A env s θ R X I F) (fun a' s₁ h₁ => ?_) fun _ _ x => x) hm
  obtain ⟨a, σ₁, θ₁, I₁, g₁, ra, q₁⟩ := h₁
  refine wpAny_mono (q₁ A env s₁ θ₁ R X I₁ (F.grow I.tupOut g₁)) (fun b' s₂ h₂ => ?_) fun _ _ x => x
  obtain ⟨b, σ₂, θ₂, I₂, g₂, rb, q₂⟩ := h₂
  refine wpAny_mono (q₂ A s₂ θ₂ a' b' R I₂ (ra.grow I₁.tupOut g₂) rb) (fun c' s₃ h₃ => ?_) fun _ _ x => x
  obtain ⟨v, σ₃, θ₃, I₃, g₃, rv, q₃⟩ := h₃
  exact wpB.trans ((g₁.trans g₂).trans g₃) (q₃ A s₃ θ₃ c' R I₃ rv)
theorem ET_not {e : Expr} {pos : Pos} (h : ET c sc d e ρ σ fun b σ₁ => B (!b) σ₁) : ET c sc d (.UnaryOp .Not e pos) ρ σ B := fun A env s θ R X I F =>
  wpAny_isTrue_Not (wpAny_mono (h A env s θ R X I F) (fun b s₁ ⟨σ, θ, I, g, q⟩ => ⟨σ, θ, I, g, q⟩) fun _ _ x => x)
noncomputable def ETA (c : Cx) (sc : Sc) (d : Nat) (op : BoolOp) (es : List Expr) (ρ : Vars) (σ : St) (B : Bool → St → Prop) : Prop :=
  ∀ A env s θ, Room A d → EnvIs sc env → Inv c s θ σ → FrA c s.heap θ env ρ → wpAny (model c.prog c.w) A (allTrue op es env) (OkB c s θ B) NoE s
theorem ET_BoolOp {op : BoolOp} {es : List Expr} {pos : Pos} (h : ETA c sc d op es ρ σ B) : ET c sc d (.BoolOp op es pos) ρ σ B := fun A env s θ R X I F => wpAny_isTrue_BoolOp (h A env s θ R X I F)
theorem ETA_And_nil (h : B true σ) : ETA c sc d .And [] ρ σ B := fun A env s θ R X I F => wpAny_allTrue_And_nil (I.okB h)
theorem ETA_Or_nil (h : B false σ) : ETA c sc d .Or [] ρ σ B := fun A env s θ R X I F => wpAny_allTrue_Or_nil (I.okB h)
theorem ETA_And_cons {e : Expr} {es : List Expr} (h : ET c sc d e ρ σ fun b σ₁ => if b = true then ETA c sc d .And es ρ σ₁ B else B false σ₁) : ETA c sc d .And (e :: es) ρ σ B := fun A env s θ R X I F => by
  refine wpAny_allTrue_And_cons (wpAny_mono (h A env s θ R X I F) (fun b s₁ h₁ => ?_) fun _ _ x => x)
  obtain ⟨σ₁, θ₁, I₁, g₁, q⟩ := h₁
  cases b with
  | true => exact wpB.trans g₁ (q A env s₁ θ₁ R X I₁ (F.grow I.tupOut g₁))
  | false => exact ⟨σ₁, θ₁, I₁, g₁, q⟩
theorem ETA_Or_cons {e : Expr} {es : List Expr} (h : ET c sc d e ρ σ fun b σ₁ => if b = true then B true σ₁ else ETA c sc d .Or es ρ σ₁ B) : ETA c sc d .Or (e :: es) ρ σ B := fun A env s θ R X I F => by
  refine wpAny_allTrue_Or_cons (wpAny_mono (h A env s θ R X I F) (fun b s₁ h₁ => ?_) fun _ _ x => x)
  obtain ⟨σ₁, θ₁, I₁, g₁, q⟩ := h₁
  cases b with
  | true => exact ⟨σ₁, θ₁, I₁, g₁, q⟩
  | false => exact wpB.trans g₁ (q A env s₁ θ₁ R X I₁ (F.grow I.tupOut g₁))
theorem EV_neg {e : Expr} {pos : Pos} (h : EV c sc d e ρ σ fun v σ₁ => ∃ i, v = .int i ∧ Q (.int (-i)) σ₁) : EV c sc d (.UnaryOp .USub e pos) ρ σ Q := fun A env s θ R X I F => by
  refine wpAny_UnaryOp (wpAny_mono (h A env s θ R X I F) (fun v' s₁ h₁ => ?_) fun _ _ x => x)
  obtain ⟨v, σ₁, θ₁, I₁, g₁, rv, i, rfl, q⟩ := h₁
  cases rv
  exact neg_int (.trans g₁ (I₁.okVt (.int _ _) q))
theorem EV_not {e : Expr} {pos : Pos} (h : EV c sc d e ρ σ fun v σ₁ => TRU c d v σ₁ fun b σ₂ => Q (.bool !b) σ₂) : EV c sc d (.UnaryOp .Not e pos) ρ σ Q := fun A env s θ R X I F => by
  refine wpAny_UnaryOp (wpAny_mono (h A env s θ R X I F) (fun v' s₁ h₁ => ?_) fun _ _ x => x)
  obtain ⟨v, σ₁, θ₁, I₁, g₁, rv, q⟩ := h₁
  refine not_value (wpAny_mono (q A s₁ θ₁ v' R I₁ rv) (fun b s₂ h₂ => ?_) fun _ _ x => x)
  obtain ⟨σ₂, θ₂, I₂, g₂, q₂⟩ := h₂
  exact ⟨.bool !b, σ₂, θ₂, I₂, g₁.trans g₂, .bool _, q₂⟩
end
end Mine
end
section
open PySem PySem.W PySem.Calls PyProof.Rows PySem.MeetsSeq PySem.MeetsSeq2 PySem.MeetsSeq3
set_option linter.unusedVariables false
namespace Mine
section
variable {c : Cx} {sc : Sc} {d : Nat} {ρ : Vars} {σ : St} {Q : Post} {R : Fl → Vars → St → Prop} {A : Around} {env : Env} {s s₁ : Shared} {θ θ₁ : List Addr} {x y : Str}
noncomputable def isList (σ : St) (v : V) (l : List V) : Prop := v = .lst l ∨ ∃ n, v = .loc n ∧ (σ[n]? = some (.list l) ∨ ∃ xs k, σ[n]? = some (.fz xs k l))
theorem Inv.asL (I : Inv c s θ σ) {v : V} {l : List V} {v' : Value} (h : isList σ v l) (r : RepV s.heap θ v v') : ∃ a xs k, v' = .ref a ∧ IsL s.heap a xs.toArray k ∧ RepVs s.heap θ l xs := by
  rcases h with rfl | ⟨n, rfl, h⟩
  · cases r with | lst l a xs n nm hl hs => exact ⟨a, xs, n, rfl, hl, hs⟩
  · obtain ⟨a, rfl, e⟩ := r.ofLoc
    rcases h with h | ⟨xs, k, h⟩
    · obtain ⟨xs, k, hl, rl⟩ := I.rep.obj n _ a h e; exact ⟨a, xs, k, rfl, hl, rl⟩
    · obtain ⟨hl, rl⟩ := I.rep.obj n _ a h e; exact ⟨a, xs, k, rfl, hl, rl⟩
theorem Inv.frozen (I : Inv c s θ σ) {vs : List V} {vs' : List Value} {t : Nat} (r : RepVs s.heap θ vs vs') (q : Q (.lst vs) σ) :
    OkV c s θ Q (.ref s.heap.objs.size) { s with heap := s.heap.push { cls := .type "list", data := .seq vs'.toArray }, toks := t } := by
  have k : ∀ b o, s.heap.get? b = some o → (s.heap.push { cls := .type "list", data := .seq vs'.toArray }).get? b = some o := fun b o e => Heap.get?_push_of_some _ e
  exact ⟨.lst vs, σ, θ, I.keeps k, grow_keeps k, .lst vs _ vs' 0 (I.new (Nat.le_refl _)).1 (Heap.get?_push_size _ rfl) (r.grow I.tupOut (grow_keeps k)), q⟩
theorem EV_ListF {es : List Expr} {pos : Pos} (h : EVs c sc d es ρ σ fun vs σ₁ => vs.length ≤ 1000 ∧ Q (.lst vs) σ₁) : EV c sc d (.List es pos) ρ σ Q := fun A env s θ r X I F => by
  refine List_ (wpAny_mono (h A env pos s θ r X I F) (fun vs' s₁ h₁ => ?_) fun _ _ x => x)
  obtain ⟨vs, σ₁, θ₁, I₁, g₁, rv, hl, q⟩ := h₁
  exact wpV.trans g₁ (wpAny_newObj_type (by exact I₁.frozen (t := s₁.toks) rv q) (by show vs'.toArray.size ≤ sizeLine; rw [List.size_toArray, ← rv.length, sizeLine_eq]; omega))
noncomputable def GI (c : Cx) (d : Nat) (o i : V) (σ : St) (Q : Post) : Prop :=
  ∀ A s θ o' i', Room A d → Inv c s θ σ → RepV s.heap θ o o' → RepV s.heap θ i i' →
    (∃ T id, s.TypeIs o' T ∧ typeLookup (.type T) (Str.ofString "__getitem__") = pure (some (.builtin id))) ∧ wpAny (model c.prog c.w) A (getItem o' i') (OkV c s θ Q) NoE s
theorem EV_Sub {o i : Expr} {pos : Pos} (h : EV c sc d o ρ σ fun ov σ₁ => EV c sc d i ρ σ₁ fun iv σ₂ => GI c d ov iv σ₂ Q)
    (hs : ∀ ov iv, ∃ ops, subscripted i false ov iv = operate ops (getItem ov iv)) : EV c sc d (.Subscript o i pos) ρ σ Q := fun A env s θ r X I F => by
  refine Subscript_ (wpAny_mono (h A env s θ r X I F) (fun o' s₁ h₁ => ?_) fun _ _ x => x)
  obtain ⟨ov, σ₁, θ₁, I₁, g₁, ro, q₁⟩ := h₁
  refine wpAny_mono (q₁ A env s₁ θ₁ r X I₁ (F.grow I.tupOut g₁)) (fun i' s₂ h₂ => ?_) fun _ _ x => x
  obtain ⟨iv, σ₂, θ₂, I₂, g₂, ri, q₂⟩ := h₂
  obtain ⟨⟨T, id, hT, hl⟩, q⟩ := q₂ A s₂ θ₂ o' i' r I₂ (ro.grow I₁.tupOut g₂) ri
  obtain ⟨ops, hs⟩ := hs o' i'
  exact tail_any hT hl (wpV.trans (g₁.trans g₂) q) hs
theorem GI_list {o v : V} {l : List V} {k : Int} (hl : isList σ o l) (h0 : 0 ≤ k) (hx : l[k.toNat]? = some v) (h : Q v σ) (hz : k < 2 ^ 63) : GI c d o (.int k) σ Q := fun A s θ o' i' r I ro ri => by
  cases ri
  obtain ⟨a, xs, n, rfl, hL, rl⟩ := I.asL hl ro
  obtain ⟨v', e, rv⟩ := rl.at hx
  exact ⟨⟨_, _, hL.isList.typeIs, slot_list_getitem.lookup⟩, wpAny_getItem_list hL.isList h0 hz (x := v') (by simpa using e) (I.okV rv h)⟩
theorem GI_tup {v : V} {l : List V} {k : Int} (h0 : 0 ≤ k) (hx : l[k.toNat]? = some v) (h : Q v σ) (hz : k < 2 ^ 63) : GI c d (.tup l) (.int k) σ Q := fun A s θ o' i' r I ro ri => by
  cases ri
  cases ro with
  | tup l a xs ht hs =>
    obtain ⟨v', e, rv⟩ := hs.at hx
    have hk : k = (k.toNat : Int) := (Int.toNat_of_nonneg h0).symm
    have hn : k.toNat < xs.length := (List.getElem?_eq_some_iff.mp e).1
    exact ⟨⟨_, _, ht.isTup.typeIs, slot_tuple_getitem.lookup⟩, getItem_tuple ht.isTup (by omega) hz (seqIndex_of h0 (by simpa using (by omega : k < (xs.length : Int)))) (x := v') (by simpa using e) (I.okV rv h)⟩
theorem GI_dictS {n : Nat} {l : List (Str × V)} {v : V} (hn : σ[n]? = some (.dictS l)) (hx : getK l x = some v) (h : Q v σ) : GI c d (.loc n) (.str x) σ Q := fun A s θ o' i' r I ro ri => by
  cases ri
  obtain ⟨a, rfl, e⟩ := ro.ofLoc
  obtain ⟨kvs, hd, hr⟩ := I.rep.obj n _ a hn e
  have q := hr.val x
  rw [hx] at q
  obtain ⟨v', q1, q2⟩ := q
  exact ⟨⟨_, _, hd.typeIs, slot_dict_getitem.lookup⟩, wpAny_getItem_of (isStr_is x _) hd.mapOf q1 (I.okVt q2 h)⟩
theorem GI_dictI {n : Nat} {l : List (Int × V)} {k : Int} {v : V} (hn : σ[n]? = some (.dictI l)) (hx : getK l k = some v) (h : Q v σ) : GI c d (.loc n) (.int k) σ Q := fun A s θ o' i' r I ro ri => by
  cases ri
  obtain ⟨a, rfl, e⟩ := ro.ofLoc
  obtain ⟨kvs, hd, hr⟩ := I.rep.obj n _ a hn e
  have q := hr.val k
  rw [hx] at q
  obtain ⟨v', q1, q2⟩ := q
  exact ⟨⟨_, _, hd.typeIs, slot_dict_getitem.lookup⟩, wpAny_getItem_of (isInt_is k _) hd.mapOf q1 (I.okVt q2 h)⟩
theorem GI_str {k : Int} {ch : Nat} (h0 : 0 ≤ k) (hx : x.cps[k.toNat]? = some ch) (h : Q (.str ⟨#[ch]⟩) σ) (hz : k < 2 ^ 63) : GI c d (.str x) (.int k) σ Q := fun A s θ o' i' r I ro ri => by
  cases ri; cases ro
  have hn : k.toNat < x.cps.size := (Array.getElem?_eq_some_iff.mp hx).1
  refine ⟨⟨_, _, (by exact rfl), slot_str_getitem.lookup⟩, getItem_str (c := ch) ?_ ?_ (I.okVt (.str _ _) h)⟩
  · simp; omega
  · rw [seqIndex_of h0 (by show k < (x.length : Int); unfold Str.length; omega)]; exact hx
end
end Mine
end
section
open PySem PySem.W PySem.Calls PyProof.Rows PySem.MeetsSeq PySem.MeetsSeq2 PySem.MeetsSeq3
set_option linter.unusedVariables false
namespace Mine
section
variable {prog : Program} {w : World} {A : Around} {E : Value → Shared → Prop} {s : Shared}
theorem draw_list {it t : Addr} {items : Array Value} (hne : t ≠ it) : ∀ (n i : Nat) (s : Shared) (Q : List Value → Shared → Prop), s.heap.IsListIter it t i → s.heap.IsList t items → i + n ≤ items.size →
    (∀ h', h'.IsListIter it t (i + n) → Heap.SameBut it s.heap h' → Q ((items.toList.drop i).take n) { s with heap := h' }) → wpAny (model prog w) A (draw (.ref it) n) Q E s
  | 0, i, s, Q, hit, _, _, hQ => by
    show wpAny _ _ (pure []) Q E s
    exact wpAny_pure (by simpa using hQ s.heap hit (Heap.SameBut.refl ..))
  | n + 1, i, s, Q, hit, ht, hle, hQ => by
    have hlt : i < items.size := by omega
    show wpAny _ _ (pyNext (.ref it) >>= _) Q E s
    refine wpAny_bind (wpAny_pyNext_list_item hit ht (x := items[i]) (by simp [hlt]) fun h₁ hit₁ hs₁ => ?_)
    refine wpAny_bind (wpAny_holding (draw_list hne n (i + 1) _ _ hit₁ (ht.extBut hs₁.extBut hne) (by omega) fun h₂ hit₂ hs₂ => wpAny_pure ?_))
    have hd : items.toList.drop i = items[i] :: items.toList.drop (i + 1) := by simp [List.drop_eq_getElem_cons, hlt]
    have := hQ h₂ (by rw [show i + (n + 1) = i + 1 + n by omega]; exact hit₂) (hs₁.trans hs₂)
    rw [hd, List.take_succ_cons] at this
    exact this
theorem unpackItems_list {t : Addr} {items : Array Value} {Q : List Value → Shared → Prop} (hh : A.handled = none) (ht : s.heap.IsList t items)
    (hQ : ∀ h', Heap.ExtBut s.heap.objs.size s.heap h' → Q items.toList { s with heap := h' }) : wpAny (model prog w) A (unpackItems (.ref t) items.size none) Q E s := by
  have hlt : t ≠ s.heap.objs.size := by obtain ⟨o, ho, _⟩ := ht; exact Nat.ne_of_lt (Heap.lt_size ho)
  unfold unpackItems
  refine wpAny_bind ?_
  · unfold notIterableAtAll
    refine wpAny_bind (wpAny_specialOf ht.typeIs F.slot_list_iter.lookup ?_)
    refine wpAny_pure ?_
    simp only [Bool.false_eq_true, if_false]
    refine wpAny_bind (wpAny_holding (wpAny_pyIter_list ht ?_))
    refine wpAny_bind (wpAny_holding (draw_list hlt items.size 0 _ _ ⟨_, Heap.get?_push_size _ rfl, rfl, rfl⟩ (ht.push _) (by omega) fun h₁ hit₁ hs₁ => ?_))
    have hall : List.take items.size (List.drop 0 items.toList) = items.toList := by
      rw [List.drop_zero]; exact List.take_of_length_le (by simp)
    rw [hall]
    rw [if_neg (by simp)]
    have ht₁ : h₁.IsList t items := (ht.push _).extBut hs₁.extBut hlt
    refine wpAny_bind (wpAny_holding (wpAny_pyNext_list_end hh hit₁ ht₁ (by simp) fun h₂ he₂ => ?_))
    simp only [Option.isSome_none, Bool.false_eq_true, if_false]
    refine wpAny_pure (hQ h₂ fun b o hb e => he₂ b o hb (hs₁.extBut b o hb (Heap.get?_push_of_some _ e)))
theorem unpack_list {t : Addr} {items : Array Value} {targets : List (Bool × (Value → Sem Unit))} {Q : Unit → Shared → Prop} (hh : A.handled = none) (ht : s.heap.IsList t items)
    (hn : targets.length = items.size) (hstar : targets.findIdx? (·.1) = none)
    (h : ∀ h', Heap.ExtBut s.heap.objs.size s.heap h' → wpAny (model prog w) A (assignInOrder (targets.map (·.2)) items.toList) Q E { s with heap := h' }) :
    wpAny (model prog w) A (unpack (.ref t) targets) Q E s := by
  unfold unpack
  rw [hn, hstar]
  exact wpAny_bind (wpAny_holding (unpackItems_list hh ht h))
theorem setItem_listL {l : Addr} {items : Array Value} {k : Int} {t : Tok} {v : Value} {Q : Unit → Shared → Prop} (hl : s.heap.IsList l items)
    (h0 : 0 ≤ k) (hfit : k < 2 ^ 63) (hn : k < items.size)
    (hQ : Q () { s with heap := s.heap.update l (Obj.mapSeq (·.setIfInBounds k.toNat v)) }) :
    wpAny (model prog w) A (setItem (.ref l) (.int k t) v) Q E s := by
  obtain ⟨o, ho, hc, ne, hd⟩ := id hl
  unfold setItem
  try with_reducible refine wpAny_holding ?_
  first | refine wpAny_bind (wpAny_pure ?_) | skip
  refine wpAny_bind (wpAny_sequenceKey hl.typeIs (by decide) ?_)
  refine wpAny_bind (wpAny_callSpecial?_slot (name := Str.ofString "__setitem__") hl.typeIs slot_list_setitem
    (wpAny_call_entry slot_list_setitem hl.typeIs entry_list_setitem ?_ (args_list_setitem _ _ _)))
  show wpAny _ _ (Builtin.List.listSubscript? (.int k t) >>= _) _ _ s
  refine wpAny_bind (wpAny_listSubscript_int (fitsIndex_of h0 hfit) ?_)
  clear hfit
  obtain ⟨j, rfl⟩ := Int.eq_ofNat_of_zero_le h0
  have hj : j < items.size := by omega
  have hx' : items[j]? = some items[j] := Array.getElem?_eq_getElem hj
  show wpAny _ _ ((seqItemAt l j >>= fun r => pure (r.map (j, ·))) >>= _) _ _ s
  refine wpAny_bind (wpAny_bind (wpAny_seqItemAt ho hd (wpAny_pure ?_)))
  rw [hx']
  show wpAny _ _ (setSeqItemAt l j v >>= _) _ _ s
  refine wpAny_bind (wpAny_setSeqItemAt ho hd ?_)
  first
    | exact wpAny_bind (wpAny_pure (wpAny_pure ⟨.none, rfl, wpAny_pure hQ⟩))
    | exact wpAny_pure ⟨.none, rfl, wpAny_pure hQ⟩
end
noncomputable def namesOf : List Expr → Option (List Str)
  | [] => some []
  | .Name x _ :: r => (namesOf r).map (x :: ·)
  | _ => none
theorem namesOf_cons {e : Expr} {es : List Expr} {xs : List Str} (h : namesOf (e :: es) = some xs) : ∃ x p ys, e = .Name x p ∧ xs = x :: ys ∧ namesOf es = some ys := by
  cases e <;> first | cases h | skip
  rename_i x p
  unfold namesOf at h
  obtain ⟨ys, h1, rfl⟩ := Option.map_eq_some_iff.mp h
  exact ⟨x, p, ys, rfl, rfl, h1⟩
theorem assignEach_len (env : Env) : ∀ (es : List Expr), (assignEach es env).length = es.length
  | [] => rfl
  | e :: es => by
    have := assignEach_len env es
    cases e <;> (unfold assignEach; rw [List.length_cons, List.length_cons, this])
theorem assignEach_noStar (env : Env) : ∀ (es : List Expr) {xs : List Str}, namesOf es = some xs → (assignEach es env).findIdx? (·.1) = none
  | [], _, _ => rfl
  | e :: es, xs, h => by
    obtain ⟨x, p, ys, rfl, rfl, h1⟩ := namesOf_cons h
    have := assignEach_noStar env es h1
    unfold assignEach
    rw [List.findIdx?_cons, this]; rfl
theorem namesOf_len : ∀ {es : List Expr} {xs : List Str}, namesOf es = some xs → es.length = xs.length
  | [], _, h => by cases h; rfl
  | e :: es, xs, h => by
    obtain ⟨x, p, ys, rfl, rfl, h1⟩ := namesOf_cons h
    rw [List.length_cons, List.length_cons, namesOf_len h1]
section
variable {c : Cx} {sc : Sc} {d : Nat} {ρ : Vars} {σ : St} {Q : Post} {R : Fl → Vars → St → Prop} {A : Around} {env : Env} {s s₁ : Shared} {θ θ₁ : List Addr} {x y : Str}
noncomputable def kindOk (sc : Sc) (x : Str) : Prop := sc.scope.names.lookup x = some .local ∨ sc.scope.names.lookup x = some .cell
inductive StL (M : Model) (A : Around) (env : Env) : List Str → List (Value → Sem Unit) → Prop
  | nil : StL M A env [] []
  | cons {x : Str} {f : Value → Sem Unit} {xs : List Str} {fs : List (Value → Sem Unit)} : (∀ v' (P : Unit → Shared → Prop) s, wpAny M A (storeName env x v') P NoE s → wpAny M A (f v') P NoE s) → StL M A env xs fs → StL M A env (x :: xs) (f :: fs)
theorem FrA.ownNoT (F : FrA c s.heap θ env ρ) : ∀ b, own env b → ∀ items, ¬ IsT s.heap b items := by
  rintro b (rfl | ⟨n', e'⟩) items ⟨n, e⟩
  · obtain ⟨m, cm, hm, hc, hr⟩ := F.at_; obtain ⟨o', es, ep, e2, hd2, _⟩ := hm; rw [e] at e2; cases e2; cases hd2
  · obtain ⟨m, cm, hm, hc, hr⟩ := F.at_; obtain ⟨o', e2, hd2⟩ := hc n' b e'; rw [e] at e2; cases e2; cases hd2
theorem FrA.ownNoL (F : FrA c s.heap θ env ρ) : ∀ b, own env b → ∀ items n, ¬ IsL s.heap b items n := by
  rintro b (rfl | ⟨n', e'⟩) items n e
  · obtain ⟨m, cm, hm, hc, hr⟩ := F.at_; obtain ⟨o', es, ep, e2, hd2, _⟩ := hm; rw [show s.heap.get? _ = _ from e] at e2; cases e2; cases hd2
  · obtain ⟨m, cm, hm, hc, hr⟩ := F.at_; obtain ⟨o', e2, hd2⟩ := hc n' b e'; rw [show s.heap.get? _ = _ from e] at e2; cases e2; cases hd2
theorem repSame (F : FrA c s.heap θ env ρ) (hsame : ∀ a, ¬ own env a → s₁.heap.get? a = s.heap.get? a) {v : V} {x : Value} (q : RepV s.heap θ v x) : RepV s₁.heap θ v x :=
  RepV.rec (motive_1 := fun v v' _ => RepV s₁.heap θ v v') (motive_2 := fun v v' _ => RepVs s₁.heap θ v v') .none .bool .int .str .raw .loc
    (fun l b xs ht _ ih => .tup l b xs (by obtain ⟨n, e⟩ := ht; exact ⟨n, (hsame b fun o => F.ownNoT b o _ ⟨n, e⟩).trans e⟩) ih)
    (fun l b xs n nm e _ ih => .lst l b xs n nm ((hsame b fun o => F.ownNoL b o _ _ e).trans e) ih) .nil (fun _ _ a b => .cons a b) q
theorem inOrder_ok (X : EnvIs sc env) {xs : List Str} {fs : List (Value → Sem Unit)} (L : StL (model c.prog c.w) A env xs fs) :
    ∀ (vs : List V) (vs' : List Value) (ρ : Vars) (s : Shared), Inv c s θ σ → FrA c s.heap θ env ρ → RepVs s.heap θ vs vs' → xs.length = vs.length → (∀ x ∈ xs, kindOk sc x) →
    ∀ {P : Unit → Shared → Prop}, (∀ s₁, Inv c s₁ θ σ → FrA c s₁.heap θ env (binds xs vs ρ) → GrowX (own env) s.heap θ s₁.heap θ → P () s₁) → wpAny (model c.prog c.w) A (assignInOrder fs vs') P NoE s := by
  induction L with
  | nil =>
    intro vs vs' ρ s I F rv hl hk P h
    cases vs with
    | cons => cases hl
    | nil => cases rv; exact wpAny_pure (h s I F (GrowX.refl ..))
  | @cons x f xs fs hf L ih =>
    intro vs vs' ρ s I F rv hl hk P h
    cases rv with
    | nil => cases hl
    | @cons v v' vs vs' ra rb =>
      show wpAny _ _ (holding vs' (f v') >>= fun _ => assignInOrder fs vs') _ _ _
      refine wpAny_bind (wpAny_holding (hf v' _ s (storeName_ok X I F (hk x List.mem_cons_self) ra fun s₁ I₁ F₁ g₁ hsame => ?_)))
      exact ih vs vs' (put ρ x v) s₁ I₁ F₁ (rb.mapM fun q => repSame F hsame q) (by simpa using hl) (fun y hy => hk y (List.mem_cons_of_mem _ hy)) fun s₂ I₂ F₂ g₂ => h s₂ I₂ F₂ (GrowX.trans F₁.ownX g₁ g₂)
theorem stl_names {M : Model} : ∀ {es : List Expr} {xs : List Str}, namesOf es = some xs → StL M A env xs ((assignEach es env).map (·.2))
  | [], _, h => by cases h; exact .nil
  | e :: es, xs, h => by
    obtain ⟨x, p, ys, rfl, rfl, h1⟩ := namesOf_cons h
    unfold assignEach
    exact .cons (fun v' P s h => wpAny_assign_Name h) (stl_names h1)
theorem stl_binds {M : Model} : ∀ (xs : List Str), StL M A env xs (xs.map fun n => bindName env n)
  | [] => .nil
  | x :: xs => .cons (fun v' P s h => wpAny_bindName h) (stl_binds xs)
inductive AS (sc : Sc) : Expr → V → Vars → Vars → Prop
  | name {x : Str} {p : Pos} {v : V} {ρ : Vars} : kindOk sc x → AS sc (.Name x p) v ρ (put ρ x v)
  | tup {es : List Expr} {k : Nat} {p : Pos} {xs : List Str} {vs : List V} {ρ : Vars} : namesOf es = some xs → xs.length = vs.length → (∀ x ∈ xs, kindOk sc x) → AS sc (.Tuple es k p) (.tup vs) ρ (binds xs vs ρ)
  | lst {es : List Expr} {k : Nat} {p : Pos} {xs : List Str} {vs : List V} {ρ : Vars} : namesOf es = some xs → xs.length = vs.length → (∀ x ∈ xs, kindOk sc x) → AS sc (.Tuple es k p) (.lst vs) ρ (binds xs vs ρ)
theorem Inv.extNew (I : Inv c s θ σ) {h' : Heap} (e : Heap.ExtBut s.heap.objs.size s.heap h') : ∀ b o, s.heap.get? b = some o → h'.get? b = some o := fun b o x => e b o (Nat.ne_of_lt (Heap.lt_size x)) x
theorem Inv.ext (I : Inv c s θ σ) (F : FrA c s.heap θ env ρ) {h' : Heap} (e : Heap.ExtBut s.heap.objs.size s.heap h') : Inv c { s with heap := h' } θ σ ∧ FrA c h' θ env ρ ∧ Grow s.heap θ h' θ ∧ ∀ {v : V} {x : Value}, RepV s.heap θ v x → RepV h' θ v x :=
  have g : Grow s.heap θ h' θ := grow_keeps (I.extNew e)
  ⟨I.keeps (I.extNew e), F.grow I.tupOut g, g, fun q => q.grow I.tupOut g⟩
theorem assign_ok (X : EnvIs sc env) (I : Inv c s θ σ) (F : FrA c s.heap θ env ρ) (hh : A.handled = none) {t : Expr} {v : V} {v' : Value} {ρ' : Vars} (a : AS sc t v ρ ρ') (r : RepV s.heap θ v v')
    {P : Unit → Shared → Prop} (h : ∀ s₁, Inv c s₁ θ σ → FrA c s₁.heap θ env ρ' → GrowX (own env) s.heap θ s₁.heap θ → P () s₁) : wpAny (model c.prog c.w) A (assign t env v') P NoE s := by
  cases a with
  | name hk => exact wpAny_assign_Name (storeName_ok X I F hk r fun s₁ I₁ F₁ g₁ _ => h s₁ I₁ F₁ g₁)
  | @tup es k p xs vs ρ hn hl hk =>
    cases r with
    | tup l b ys ht hr =>
      refine wpAny_assign_Tuple hh ht.isTup ?_ (assignEach_noStar env es hn) fun h' e => ?_
      · rw [assignEach_len, namesOf_len hn, hl, hr.length]; simp
      · obtain ⟨I', F', g', q'⟩ := I.ext F e
        exact inOrder_ok X (stl_names hn) vs _ ρ _ I' F' (by simpa using hr.mapM q') hl hk fun s₁ I₁ F₁ g₁ => h s₁ I₁ F₁ (GrowX.trans F'.ownX g'.x g₁)
  | @lst es k p xs vs ρ hn hl hk =>
    cases r with
    | lst l b ys n nm ht hr =>
      rw [arm_assign_Tuple]
      refine wpAny_bind (wpAny_standAt (unpack_list hh (IsL.isList (n := n) ht) ?_ (assignEach_noStar env es hn) fun h' e => ?_))
      · rw [assignEach_len, namesOf_len hn, hl, hr.length]; simp
      · obtain ⟨I', F', g', q'⟩ := I.ext F e
        exact inOrder_ok X (stl_names hn) vs _ ρ _ I' F' (by simpa using hr.mapM q') hl hk fun s₁ I₁ F₁ g₁ => h s₁ I₁ F₁ (GrowX.trans F'.ownX g'.x g₁)
theorem EX_AssignSw {es : List Expr} {k : Nat} {tp pos : Pos} {value : Expr} {xs : List Str} (hk : ∀ x ∈ xs, kindOk sc x) (h : EV c sc d value ρ σ fun v σ₁ => ∃ vs, v = .tup vs ∧ xs.length = vs.length ∧ R .next (binds xs.reverse vs.reverse ρ) σ₁)
    (hw : ∀ env : Env, env.scope = sc.scope → swappedStores [.Tuple es k tp] value env = pure (some xs))
    (hs : ∀ env, swapsWithSole [.Tuple es k tp] value pos.line env = pure false) : EX c sc d (.Assign [.Tuple es k tp] value pos) ρ σ R := fun A env s θ r X I F => by
  refine Assign_Tuple_swapped (wpAny_mono (h A env s θ r X I F) (fun v' s₁ h₁ => ?_) fun _ _ x => x) (hs env) (hw env X.scope)
  obtain ⟨v, σ₁, θ₁, I₁, g₁, rv, vs, rfl, hl, q⟩ := h₁
  have F₁ := F.grow I.tupOut g₁
  cases rv with
  | tup l b ys ht hr =>
    have e : xs.length = ys.toArray.size := by rw [hl, hr.length]; simp
    rw [e]
    refine wpAny_unpackItems_tuple r.handled ht.isTup fun h' e => ?_
    obtain ⟨I', F', g', q'⟩ := I₁.ext F₁ e
    exact inOrder_ok X (stl_binds xs.reverse) vs.reverse _ ρ _ I' F' (by simpa using (hr.mapM q').reverse) (by simpa using hl) (fun x hx => hk x (by simpa using hx)) fun s₂ I₂ F₂ g₂ =>
      ⟨.next, _, σ₁, θ₁, I₂, F₂, GrowX.trans F₁.ownX g₁.x (GrowX.trans F'.ownX g'.x g₂), .next, q⟩
theorem EX_AssignAttr {o value : Expr} {attr : Str} {pos' pos : Pos} (h : EV c sc d value ρ σ fun v σ₁ => EV c sc d o ρ σ₁ fun ov σ₂ => ∃ n k C l, ov = .loc n ∧ σ₂[n]? = some (.inst C k) ∧ σ₂[k]? = some (.attrs l) ∧ StoreOf c.K C attr ∧ l.length ≤ 900 ∧ R .next ρ (σ₂.set k (.attrs (put l attr v)))) (Cc : CxOk c)
    (hs : ∀ env, swapsWith value (some (.Attribute o attr pos')) pos.line env = pure false) : EX c sc d (.Assign [.Attribute o attr pos'] value pos) ρ σ R := fun A env s θ r X I F => by
  refine plainObj_wpAny_Assign_Attribute (wpAny_mono (h A env s θ r X I F) (fun v' s₁ h₁ => ?_) fun _ _ x => x) (hs env)
  obtain ⟨v, σ₁, θ₁, I₁, g₁, rv, q⟩ := h₁
  have F₁ := F.grow I.tupOut g₁
  refine wpAny_mono (q A env s₁ θ₁ r X I₁ F₁) (fun o' s₂ h₂ => ?_) fun _ _ x => x
  obtain ⟨ov, σ₂, θ₂, I₂, g₂, ro, n, k, C, l, rfl, h1, h2, h3, h4, q⟩ := h₂
  have F₂ := F₁.grow I₁.tupOut g₂
  refine wpAny_mono (setAttr_ok (Q := fun σ' => σ' = σ₂.set k (.attrs (put l attr v))) Cc I₂ ro (rv.grow I₁.tupOut g₂) h1 h2 h3 h4 rfl) (fun _ s₃ h₃ => ?_) fun _ _ x => x
  obtain ⟨σ₃, θ₃, I₃, g₃, rfl⟩ := h₃
  exact ⟨.next, ρ, _, θ₃, I₃, F₂.grow I₂.tupOut g₃, ((g₁.trans g₂).trans g₃).x, .next, q⟩
noncomputable def SI (c : Cx) (d : Nat) (o i v : V) (σ : St) (Q : St → Prop) : Prop :=
  ∀ A s θ o' i' v', Room A d → Inv c s θ σ → RepV s.heap θ o o' → RepV s.heap θ i i' → RepV s.heap θ v v' → wpAny (model c.prog c.w) A (setItem o' i' v') (OkU c s θ Q) NoE s
theorem EX_AssignSub {o i value : Expr} {pos' pos : Pos} (h : EV c sc d value ρ σ fun v σ₁ => EV c sc d o ρ σ₁ fun ov σ₂ => EV c sc d i ρ σ₂ fun iv σ₃ => SI c d ov iv v σ₃ fun σ₄ => R .next ρ σ₄)
    (hs : ∀ env, swapsWith value (some (.Subscript o i pos')) pos.line env = pure false) : EX c sc d (.Assign [.Subscript o i pos'] value pos) ρ σ R := fun A env s θ r X I F => by
  refine wpAny_Assign_Subscript (wpAny_mono (h A env s θ r X I F) (fun v' s₁ h₁ => ?_) fun _ _ x => x) (hs env)
  obtain ⟨v, σ₁, θ₁, I₁, g₁, rv, q⟩ := h₁
  have F₁ := F.grow I.tupOut g₁
  refine wpAny_mono (q A env s₁ θ₁ r X I₁ F₁) (fun o' s₂ h₂ => ?_) fun _ _ x => x
  obtain ⟨ov, σ₂, θ₂, I₂, g₂, ro, q⟩ := h₂
  have F₂ := F₁.grow I₁.tupOut g₂
  refine wpAny_mono (q A env s₂ θ₂ r X I₂ F₂) (fun i' s₃ h₃ => ?_) fun _ _ x => x
  obtain ⟨iv, σ₃, θ₃, I₃, g₃, ri, q⟩ := h₃
  have F₃ := F₂.grow I₂.tupOut g₃
  refine wpAny_mono (q A s₃ θ₃ o' i' v' r I₃ (ro.grow I₂.tupOut g₃) ri ((rv.grow I₁.tupOut g₂).grow I₂.tupOut g₃)) (fun _ s₄ h₄ => ?_) fun _ _ x => x
  obtain ⟨σ₄, θ₄, I₄, g₄, q⟩ := h₄
  exact ⟨.next, ρ, σ₄, θ₄, I₄, F₃.grow I₃.tupOut g₄, (((g₁.trans g₂).trans g₃).trans g₄).x, .next, q⟩
theorem SI_list {n : Nat} {l : List V} {k : Int} {v : V} {Q : St → Prop} (hn : σ[n]? = some (.list l)) (h0 : 0 ≤ k) (hk : k < l.length) (h : Q (σ.set n (.list (l.set k.toNat v)))) (hz : k < 2 ^ 63) : SI c d (.loc n) (.int k) v σ Q := fun A s θ o' i' v' r I ro ri rv => by
  cases ri
  obtain ⟨a, rfl, e⟩ := ro.ofLoc
  obtain ⟨xs, m, hl, rl⟩ := I.isL hn e
  refine setItem_listL hl.isList h0 hz (by rw [List.size_toArray, ← rl.length]; exact hk) ?_
  obtain ⟨v₂, σ₂, θ₂, I₂, g₂, _, q⟩ := I.listUpd (Q := fun _ σ' => σ' = σ.set n (.list (l.set k.toNat v))) (t := s.toks) (ys := xs.set k.toNat v') (l' := l.set k.toNat v) (f := (·.setIfInBounds k.toNat v')) (v := .none) (v' := .none) e hl (by simp) (rl.set _ rv) .none rfl
  exact ⟨_, θ₂, I₂, g₂, q ▸ h⟩
theorem SI_dictS {n : Nat} {l : List (Str × V)} {v : V} {Q : St → Prop} (hn : σ[n]? = some (.dictS l)) (hz : l.length ≤ 9000) (h : Q (σ.set n (.dictS (putK l x v)))) : SI c d (.loc n) (.str x) v σ Q := fun A s θ o' i' v' r I ro ri rv => by
  cases ri
  obtain ⟨a, rfl, e⟩ := ro.ofLoc
  obtain ⟨kvs, hd, hr⟩ := I.rep.obj n _ a hn e
  refine wpAny_setItem_pairs (isStr_is x _) hd (fun h' hd' hs => ?_) (by rw [← hr.length, sizeLine_eq]; omega)
  have g : Grow s.heap θ h' θ := ⟨⟨[], (List.append_nil _).symm⟩, fun _ m n => (n m).elim, fun b o e' n => (hs.2 b (fun z => n (z ▸ List.mem_of_getElem? e))).trans e'⟩
  obtain ⟨I', g'⟩ := I.upd (o' := .dictS (putK l x v)) (t := s.toks + 1) e hs ⟨_, hd', (hr.grow I.tupOut g).stored (rv.grow I.tupOut g)⟩
  exact ⟨_, θ, I', g', h⟩
theorem SI_dictI {n : Nat} {l : List (Int × V)} {k : Int} {v : V} {Q : St → Prop} (hn : σ[n]? = some (.dictI l)) (hz : l.length ≤ 9000) (h : Q (σ.set n (.dictI (putK l k v)))) : SI c d (.loc n) (.int k) v σ Q := fun A s θ o' i' v' r I ro ri rv => by
  cases ri
  obtain ⟨a, rfl, e⟩ := ro.ofLoc
  obtain ⟨kvs, hd, hr⟩ := I.rep.obj n _ a hn e
  refine wpAny_setItem_pairs (isInt_is k _) hd (fun h' hd' hs => ?_) (by rw [← hr.length, sizeLine_eq]; omega)
  have g : Grow s.heap θ h' θ := ⟨⟨[], (List.append_nil _).symm⟩, fun _ m n => (n m).elim, fun b o e' n => (hs.2 b (fun z => n (z ▸ List.mem_of_getElem? e))).trans e'⟩
  obtain ⟨I', g'⟩ := I.upd (o' := .dictI (putK l k v)) (t := s.toks + 1) e hs ⟨_, hd', (hr.grow I.tupOut g).stored (rv.grow I.tupOut g)⟩
  exact ⟨_, θ, I', g', h⟩
theorem EX_Expr {e : Expr} {pos : Pos} (h : EV c sc d e ρ σ fun _ σ₁ => R .next ρ σ₁)
    (hs : ∀ env, swapsWith e none pos.line env = pure false) : EX c sc d (.Expr e pos) ρ σ R := fun A env s θ r X I F => by
  refine wpAny_Expr_any (wpAny_mono (h A env s θ r X I F) (fun v' s₁ h₁ => ?_) fun _ _ x => x) (by unfold interactive; rw [X.fn]; rfl) (hs env)
  obtain ⟨v, σ₁, θ₁, I₁, g₁, rv, q⟩ := h₁
  exact ⟨.next, ρ, σ₁, θ₁, I₁, F.grow I.tupOut g₁, g₁.x, .next, q⟩
end
end Mine
end
section
open PySem PySem.W PySem.Calls PyProof.Rows PySem.MeetsSeq PySem.MeetsSeq2 PySem.MeetsSeq3
set_option linter.unusedVariables false
namespace Mine
section
variable {c : Cx} {sc : Sc} {d : Nat} {ρ : Vars} {σ : St} {Q : Post} {R : Fl → Vars → St → Prop} {A : Around} {env : Env} {s s₁ : Shared} {θ θ₁ : List Addr} {x y : Str}
noncomputable def Itl (h : Heap) (b : Addr) : Prop := ∃ o vs, h.get? b = some o ∧ o.data = .fields vs ∧ ∀ x t, vs[1]? ≠ some (.str x t)
theorem Itl.notT {h : Heap} {b : Addr} (x : Itl h b) (items : Array Value) : ¬ IsT h b items := by
  rintro ⟨n, e⟩; obtain ⟨o, vs, e', hd, _⟩ := x; rw [e] at e'; cases e'; cases hd
theorem Itl.notL {h : Heap} {b : Addr} (x : Itl h b) (items : Array Value) (n : Nat) : ¬ IsL h b items n := by
  intro e; obtain ⟨o, vs, e', hd, _⟩ := x; rw [show h.get? b = _ from e] at e'; cases e'; cases hd
structure Off (h : Heap) (b : Addr) : Prop where
  notT : ∀ items, ¬ IsT h b items
  notL : ∀ items n, ¬ IsL h b items n
  notC : ∀ o vs x t, h.get? b = some o → o.data = .fields vs → vs[1]? ≠ some (.str x t)
theorem Itl.off {h : Heap} {b : Addr} (q : Itl h b) : Off h b := ⟨q.notT, q.notL, fun o vs x t e hd => by
  obtain ⟨o2, vs2, g1, g2, g3⟩ := q
  rw [e] at g1; cases g1; rw [hd] at g2; cases g2; exact g3 _ _⟩
theorem Off.ns {h : Heap} {b : Addr} {m : Str → Option Value} (q : h.Ns b m) : Off h b := by
  obtain ⟨o', es, ep, e2, hd2, _⟩ := q
  exact ⟨fun items q => by (obtain ⟨n, e⟩ := q; rw [e] at e2; cases e2; cases hd2), fun items n e => by (rw [show h.get? b = _ from e] at e2; cases e2; cases hd2), fun o vs x t e hd => by rw [e] at e2; cases e2; rw [hd] at hd2; cases hd2⟩
theorem RepV.but {h h' : Heap} {W : Addr → Prop} (hw : ∀ b, W b → Off h b) (hk : ∀ b o, ¬ W b → h.get? b = some o → h'.get? b = some o) {v : V} {x : Value} (q : RepV h θ v x) : RepV h' θ v x :=
  RepV.rec (motive_1 := fun v v' _ => RepV h' θ v v') (motive_2 := fun v v' _ => RepVs h' θ v v') .none .bool .int .str .raw .loc
    (fun l b xs ht _ ih => .tup l b xs (by obtain ⟨n, e⟩ := ht; exact ⟨n, hk b _ (fun z => (hw b z).notT _ ⟨n, e⟩) e⟩) ih)
    (fun l b xs n nm e _ ih => .lst l b xs n nm (hk b _ (fun z => (hw b z).notL _ _ e) e) ih) .nil (fun _ _ a b => .cons a b) q
theorem Inv.but {W : Addr → Prop} (I : Inv c s θ σ) {h' : Heap} {t : Nat} (hw : ∀ b, W b → Off s.heap b ∧ b ∉ θ ∧ c.hb.get? b = none) (hk : ∀ b o, ¬ W b → s.heap.get? b = some o → h'.get? b = some o) : Inv c { s with heap := h', toks := t } θ σ := by
  have rv : ∀ {v : V} {x : Value}, RepV s.heap θ v x → RepV h' θ v x := fun q => q.but (fun b z => (hw b z).1) hk
  have hks : ∀ {Ky : Type} {v : List (Ky × V)} {v' : List (Ky × Value)}, RepKs s.heap θ v v' → RepKs h' θ v v' := by
    intro Ky v v' q
    induction q with
    | nil => exact .nil
    | cons p _ ih => exact .cons (rv p) ih
  have has : ∀ {v : List (Str × V)} {v' : List DictEntry}, RepAs s.heap θ v v' → RepAs h' θ v v' := by
    intro v v' q
    induction q with
    | nil => exact .nil
    | cons e p _ ih => exact .cons e (rv p) ih
  refine ⟨fun b o e => hk b o (fun z => by rw [(hw b z).2.2] at e; cases e) (I.keep b o e), I.apart, I.nodup, ⟨I.rep.len, fun i o b e1 e2 => ?_⟩, I.gens, I.os⟩
  have hb : ∀ ob, s.heap.get? b = some ob → h'.get? b = some ob := fun ob e => hk b ob (fun z => (hw b z).2.1 (List.mem_of_getElem? e2)) e
  have q := I.rep.obj i o b e1 e2
  cases o with
  | list l => obtain ⟨xs, n, e', q⟩ := q; exact ⟨xs, n, hb _ e', q.mapM rv⟩
  | fz xs n l => obtain ⟨e', q⟩ := q; exact ⟨hb _ e', q.mapM rv⟩
  | dictS es => obtain ⟨xs, ⟨o', x, y, e', z⟩, q⟩ := q; exact ⟨xs, ⟨o', x, y, hb _ e', z⟩, hks q⟩
  | dictI es => obtain ⟨xs, ⟨o', x, y, e', z⟩, q⟩ := q; exact ⟨xs, ⟨o', x, y, hb _ e', z⟩, hks q⟩
  | attrs es => obtain ⟨xs, n, e', q⟩ := q; exact ⟨xs, n, hb _ e', has q⟩
  | inst C d => obtain ⟨dx, q, e'⟩ := q; exact ⟨dx, q, hb _ e'⟩
  | meth f n => obtain ⟨y, q, e'⟩ := q; exact ⟨y, q, hb _ e'⟩
  | rng n => obtain ⟨t, u, v, e'⟩ := q; exact ⟨t, u, v, hb _ e'⟩
  | tab P ps => obtain ⟨q, e', z⟩ := q; exact ⟨q, hb _ e', z⟩
  | fn P =>
    obtain ⟨fd, p, e', ⟨c', oc, vs, t, e1, e2, e3, e4⟩⟩ := q
    refine ⟨fd, p, hb _ e', ⟨c', oc, vs, t, e1, hk _ _ (fun z => ?_) e2, e3, e4⟩⟩
    exact (hw c' z).1.notC _ _ _ _ e2 e3 e4
theorem FrA.but {W : Addr → Prop} (F : FrA c s.heap θ env ρ) {h' : Heap} (hw : ∀ b, W b → Off s.heap b ∧ ¬ own env b) (hk : ∀ b o, ¬ W b → s.heap.get? b = some o → h'.get? b = some o) : FrA c h' θ env ρ := by
  obtain ⟨⟨m, cm, hm, hc, hr⟩, lo, lob, cl, ap⟩ := F
  refine ⟨⟨m, cm, hm.at' fun o e => hk _ _ (fun z => (hw _ z).2 (.inl rfl)) e, fun n k e => ?_, fun x v e => ?_⟩, lo, lob, cl, ap⟩
  · obtain ⟨o, e', r⟩ := hc n k e; exact ⟨o, hk _ _ (fun z => (hw _ z).2 (.inr ⟨n, e⟩)) e', r⟩
  · obtain ⟨v', a, b⟩ := hr x v e; exact ⟨v', a.but (fun b z => (hw b z).1) hk, b⟩
noncomputable def ITEM (target : Expr) (h₂ : Heap) (θ : List Addr) (h : Heap) (x : V) (v : Value) : Prop := RepV h₂ θ x v ∨ ∃ T vals xs, (∃ es k p, target = .Tuple es k p) ∧ v = .ref T ∧ x = .tup xs ∧ h.IsTuple T vals.toArray ∧ RepVs h₂ θ xs vals
inductive IT (c : Cx) (A : Around) (target : Expr) (env : Env) (s s₂ : Shared) (θ : List Addr) (K : St → Prop) (it : Value) (l : List V) : Prop
  | mk (I : Addr) (fp wr : List Addr) (P Md : Nat → Value → Heap → Prop) (S : Nat → Heap → Prop) : it = .ref I → KTurns c.prog c.w A target I fp wr l.length P Md S → S 0 s₂.heap →
    (∀ b ∈ wr, s.heap.get? b = none ∧ b ∉ θ ∧ c.hb.get? b = none) →
    (∀ b ∈ fp, ¬ own env b ∧ (b ∉ θ ∨ ∃ (n : Nat) (xs : List Value) (k : Nat) (l' : List V), θ[n]? = some b ∧ ∀ σ' : St, K σ' → σ'[n]? = some (SO.fz xs k l'))) →
    (∀ i h b, S i h → b ∈ wr → Itl h b) →
    (∀ i h b, S i h → b ∈ fp → ∃ o, h.get? b = some o) →
    (∀ i (s : Shared) (Q : Value → Shared → Prop) (E : Value → Shared → Prop), S i s.heap → Q (.ref I) s → wpAny (model c.prog c.w) A (pyIter (.ref I)) Q E s) →
    (∀ i v h, P i v h → ∃ x, l[i]? = some x ∧ ITEM target s₂.heap θ h x v) → IT c A target env s s₂ θ K it l
inductive OkI (c : Cx) (A : Around) (target : Expr) (env : Env) (s : Shared) (θ : List Addr) (G : List V → (St → Prop) → St → Prop) (it : Value) (s₂ : Shared) : Prop
  | mk (l : List V) (K : St → Prop) (σ' : St) (θ' : List Addr) : Inv c s₂ θ' σ' → Grow s.heap θ s₂.heap θ' → IT c A target env s s₂ θ' K it l → K σ' → G l K σ' → OkI c A target env s θ G it s₂
inductive OkI0 (c : Cx) (A : Around) (target : Expr) (env : Env) (s : Shared) (θ : List Addr) (σ : St) (G : List V → (St → Prop) → St → Prop) (it : Value) (s₂ : Shared) : Prop
  | mk (l : List V) (K : St → Prop) : Inv c s₂ θ σ → Grow s.heap θ s₂.heap θ → IT c A target env s s₂ θ K it l → K σ → G l K σ → OkI0 c A target env s θ σ G it s₂
noncomputable def LOOPS (c : Cx) (sc : Sc) (d : Nat) (target : Expr) (body : List Stmt) (K : St → Prop) (R : Fl → Vars → St → Prop) : List V → Vars → St → Prop
  | [], ρ, σ => R .next ρ σ
  | x :: r, ρ, σ => ∃ ρ₁, AS sc target x ρ ρ₁ ∧ EXs c sc d body ρ₁ σ fun f ρ' σ' => match f with
      | .next => K σ' ∧ LOOPS c sc d target body K R r ρ' σ'
      | .cont => K σ' ∧ LOOPS c sc d target body K R r ρ' σ'
      | .brk => R .next ρ' σ'
      | .ret v => R (.ret v) ρ' σ'
noncomputable def ITX (c : Cx) (sc : Sc) (d : Nat) (target e : Expr) (ρ : Vars) (σ : St) (G : List V → (St → Prop) → St → Prop) : Prop :=
  ∀ A env s θ, Room A d → EnvIs sc env → Inv c s θ σ → FrA c s.heap θ env ρ → wpAny (model c.prog c.w) A (eval e env) (fun x s₁ => wpAny (model c.prog c.w) A (pyIter x) (OkI c A target env s θ G) NoE s₁) NoE s
theorem item_ok (X : EnvIs sc env) (I : Inv c s θ σ) (F : FrA c s.heap θ env ρ) (hh : A.handled = none) {t : Expr} {v : V} {v' : Value} {ρ' : Vars} (a : AS sc t v ρ ρ')
    (r : RepV s.heap θ v v' ∨ ∃ T vals xs, (∃ es k p, t = .Tuple es k p) ∧ v' = .ref T ∧ v = .tup xs ∧ s.heap.IsTuple T vals.toArray ∧ RepVs s.heap θ xs vals)
    {P : Unit → Shared → Prop} (h : ∀ s₁, Inv c s₁ θ σ → FrA c s₁.heap θ env ρ' → GrowX (own env) s.heap θ s₁.heap θ → P () s₁) : wpAny (model c.prog c.w) A (assign t env v') P NoE s := by
  rcases r with r | ⟨T, vals, xs, ⟨es, k, p, rfl⟩, rfl, rfl, ht, hr⟩
  · exact assign_ok X I F hh a r h
  · cases a with
    | @tup es k p ys vs ρ hn hl hk =>
      refine wpAny_assign_Tuple hh ht ?_ (assignEach_noStar env es hn) fun h' e => ?_
      · rw [assignEach_len, namesOf_len hn, hl, hr.length]; simp
      · obtain ⟨I', F', g', q'⟩ := I.ext F e
        exact inOrder_ok X (stl_names hn) _ _ ρ _ I' F' (by simpa using hr.mapM q') hl hk fun s₁ I₁ F₁ g₁ => h s₁ I₁ F₁ (GrowX.trans F'.ownX g'.x g₁)
theorem GrowX.weaken {X Y : Addr → Prop} {h h' : Heap} {θ θ' : List Addr} (g : GrowX X h θ h' θ') (k : ∀ b, X b → Y b) : GrowX Y h θ h' θ' := ⟨g.pre, g.fresh, fun b o e n m => g.kept b o e n fun z => m (k b z)⟩
theorem EX_For {target iter : Expr} {body : List Stmt} {pos : Pos} (h : ITX c sc d target iter ρ σ fun l K σ' => LOOPS c sc d target body K R l ρ σ')
    (hs : ∀ env x, foldedSetIterable iter env x = pure x) : EX c sc d (.For target iter body [] pos) ρ σ R := fun A env s θ r X I F => by
  refine wpAny_For (wpAny_mono (h A env s θ r X I F) (fun x s₁ h₁ => wpAny_mono h₁ (fun it s₂ h₂ => ?_) fun _ _ x => x) fun _ _ x => x) (hs env)
  obtain ⟨l, K, σ₂, θ₂, I₂, g₂, ⟨Ja, fp, wr, P, Md, S, rfl, W, hS, hwr, hfp, hit, hex, _, hP⟩, hK, hL⟩ := h₂
  have F₂ := F.grow I.tupOut g₂
  have hwo : ∀ b ∈ wr, ¬ own env b := fun b hb => (hfp b (W.sub b hb)).1
  let W' : Addr → Prop := fun b => b ∈ wr
  let X' : Addr → Prop := fun b => own env b ∨ b ∈ wr
  refine codeAny_forLoop_any
    (fun k s' => ∃ i ρ' σ' θ', k = l.length + 1 - i ∧ i ≤ l.length ∧ S i s'.heap ∧ Inv c s' θ' σ' ∧ FrA c s'.heap θ' env ρ' ∧ GrowX X' s₂.heap θ₂ s'.heap θ' ∧ (∀ b ∈ wr, b ∉ θ') ∧ K σ' ∧ LOOPS c sc d target body K R (l.drop i) ρ' σ')
    ?_ (l.length + 1) ⟨0, ρ, σ₂, θ₂, rfl, Nat.zero_le _, hS, I₂, F₂, GrowX.refl .., fun b hb => (hwr b hb).2.1, hK, by rw [List.drop_zero]; exact hL⟩
  rintro k s' ⟨i, ρ', σ', θ', rfl, hi, hS', I', F', g', hwθ, hK', hL'⟩
  have exX : ∀ {t : Shared} {τ : List Addr} {ρ₀ : Vars} {j : Nat}, S j t.heap → FrA c t.heap τ env ρ₀ → (∀ b ∈ wr, b ∉ τ) → ∀ x, X' x → ∃ o, t.heap.get? x = some o ∧ x ∉ τ := fun hs f hw x hx => by
    rcases hx with hx | hx
    · exact f.ownX x hx
    · obtain ⟨o, _, e, _⟩ := hit _ _ x hs hx; exact ⟨o, e, hw x hx⟩
  have turned : ∀ {h₁ : Heap} {t : Nat}, (∀ b o, b ∉ wr → s'.heap.get? b = some o → h₁.get? b = some o) → Inv c { s' with heap := h₁, toks := t } θ' σ' ∧ FrA c h₁ θ' env ρ' ∧ GrowX X' s'.heap θ' h₁ θ' := fun {h₁ t} hk =>
    ⟨I'.but (W := W') (fun b hb => ⟨(hit i _ b hS' hb).off, hwθ b hb, (hwr b hb).2.2⟩) hk, F'.but (W := W') (fun b hb => ⟨(hit i _ b hS' hb).off, hwo b hb⟩) hk,
     ⟨⟨[], (List.append_nil _).symm⟩, fun _ m n => (n m).elim, fun b o e _ nx => hk b o (fun z => nx (.inr z)) e⟩⟩
  by_cases hlt : i < l.length
  · refine W.item i _ _ _ hlt hS' fun v h₁ tk₁ hMd hk₁ => ?_
    refine W.go i v _ _ _ hMd fun h₂ hPi hS₂ hk₂ => ?_
    obtain ⟨J₂, G₂, e₂⟩ := turned (t := tk₁) (fun b o hb x => hk₂ b o hb (hk₁ b o hb x))
    obtain ⟨x, hx, hv⟩ := hP i v h₂ hPi
    have hd : l.drop i = x :: l.drop (i + 1) := by
      rw [List.drop_eq_getElem_cons hlt]; congr 1
      exact Option.some.inj ((List.getElem?_eq_getElem hlt).symm.trans hx)
    rw [hd] at hL'
    obtain ⟨ρ₁, as, hb⟩ := hL'
    have up : ∀ {v : V} {x : Value}, RepV s₂.heap θ₂ v x → RepV h₂ θ' v x := by
      intro v x q
      -- from s₂ to here: own and the iterators turned, the rest stands
      have gg : GrowX X' s₂.heap θ₂ h₂ θ' := GrowX.trans (exX hS' F' hwθ) g' e₂
      refine RepV.rec (motive_1 := fun v v' _ => RepV h₂ θ' v v') (motive_2 := fun v v' _ => RepVs h₂ θ' v v') .none .bool .int .str .raw
        (fun n a e => .loc n a ?_) (fun l b xs ht _ ih => .tup l b xs ?_ ih) (fun l b xs n nm e _ ih => .lst l b xs n ?_ ?_ ih) .nil (fun _ _ a b => .cons a b) q
      · obtain ⟨t, e'⟩ := gg.pre; rw [e']; rw [List.getElem?_append_left (List.getElem?_eq_some_iff.mp e).1]; exact e
      · obtain ⟨n, e⟩ := ht
        refine ⟨n, gg.kept b _ e (fun m => I₂.tupOut b m _ ⟨n, e⟩) ?_⟩
        rintro (z | z)
        · exact F₂.ownNoT b z _ ⟨n, e⟩
        · exact (hit 0 _ b hS z).notT _ ⟨n, e⟩
      · exact gg.notMem e nm
      · refine gg.kept b _ e nm ?_
        rintro (z | z)
        · exact F₂.ownNoL b z _ _ e
        · exact (hit 0 _ b hS z).notL _ _ e
    have hv' : RepV h₂ θ' x v ∨ ∃ T vals xs, (∃ es k p, target = .Tuple es k p) ∧ v = .ref T ∧ x = .tup xs ∧ h₂.IsTuple T vals.toArray ∧ RepVs h₂ θ' xs vals := by
      rcases hv with q | ⟨T, vals, xs, e0, e1, e2, e3, e4⟩
      · exact .inl (up q)
      · exact .inr ⟨T, vals, xs, e0, e1, e2, e3, e4.mapM up⟩
    have core : wpAny (model c.prog c.w) A (assign target env v) (fun _ s₃ => wpAny (model c.prog c.w) A (execs body env) (fun f s₄ => match f with
          | .next | .cont => ∃ m, m < l.length + 1 - i ∧ ∃ i ρ' σ' θ', m = l.length + 1 - i ∧ i ≤ l.length ∧ S i s₄.heap ∧ Inv c s₄ θ' σ' ∧ FrA c s₄.heap θ' env ρ' ∧ GrowX X' s₂.heap θ₂ s₄.heap θ' ∧ (∀ b ∈ wr, b ∉ θ') ∧ K σ' ∧ LOOPS c sc d target body K R (l.drop i) ρ' σ'
          | .brk => OkS c env s θ R .next s₄
          | .ret v => OkS c env s θ R (.ret v) s₄) NoE s₃) NoE { s' with heap := h₂, toks := tk₁ } := by
      have step : ∀ s₃, Inv c s₃ θ' σ' → FrA c s₃.heap θ' env ρ₁ → GrowX (own env) h₂ θ' s₃.heap θ' → wpAny (model c.prog c.w) A (execs body env) (fun f s₄ => match f with
          | .next | .cont => ∃ m, m < l.length + 1 - i ∧ ∃ i ρ' σ' θ', m = l.length + 1 - i ∧ i ≤ l.length ∧ S i s₄.heap ∧ Inv c s₄ θ' σ' ∧ FrA c s₄.heap θ' env ρ' ∧ GrowX X' s₂.heap θ₂ s₄.heap θ' ∧ (∀ b ∈ wr, b ∉ θ') ∧ K σ' ∧ LOOPS c sc d target body K R (l.drop i) ρ' σ'
          | .brk => OkS c env s θ R .next s₄
          | .ret v => OkS c env s θ R (.ret v) s₄) NoE s₃ := by
        intro s₃ I₃ F₃ g₃
        refine wpAny_mono (hb A env s₃ θ' r X I₃ F₃) (fun f s₄ h₄ => ?_) fun _ _ x => x
        obtain ⟨fl, ρ₄, σ₄, θ₄, I₄, F₄, g₄, rf, q⟩ := h₄
        have g34 : GrowX (own env) h₂ θ' s₄.heap θ₄ := GrowX.trans F₃.ownX g₃ g₄
        have hwθ₄ : ∀ b ∈ wr, b ∉ θ₄ := fun b hb => by obtain ⟨o, _, e, _⟩ := hit _ _ b hS₂ hb; exact g34.notMem e (hwθ b hb)
        have all : GrowX X' s₂.heap θ₂ s₄.heap θ₄ := GrowX.trans (exX (t := { s' with heap := h₂, toks := tk₁ }) hS₂ G₂ hwθ) (GrowX.trans (exX hS' F' hwθ) g' e₂) (g34.weaken fun b z => .inl z)
        have out : GrowX (own env) s.heap θ s₄.heap θ₄ := by
          refine ⟨?_, fun a m n => ?_, fun b o e n nx => ?_⟩
          · obtain ⟨t, e⟩ := g₂.pre; obtain ⟨u, e'⟩ := all.pre; exact ⟨t ++ u, by rw [e', e, List.append_assoc]⟩
          · by_cases h2 : a ∈ θ₂
            · exact g₂.fresh a h2 n
            · cases e : s.heap.get? a with
              | none => rfl
              | some o => have := all.fresh a m h2; rw [g₂.kept a o e n] at this; cases this
          · refine all.kept b o (g₂.kept b o e n) (g₂.notMem e n) ?_
            rintro (z | z)
            · exact nx z
            · rw [(hwr b z).1] at e; cases e
        have again : K σ₄ ∧ LOOPS c sc d target body K R (l.drop (i + 1)) ρ₄ σ₄ → ∃ m, m < l.length + 1 - i ∧ ∃ i ρ' σ' θ', m = l.length + 1 - i ∧ i ≤ l.length ∧ S i s₄.heap ∧ Inv c s₄ θ' σ' ∧ FrA c s₄.heap θ' env ρ' ∧ GrowX X' s₂.heap θ₂ s₄.heap θ' ∧ (∀ b ∈ wr, b ∉ θ') ∧ K σ' ∧ LOOPS c sc d target body K R (l.drop i) ρ' σ' := by
          rintro ⟨hK₄, hL₄⟩
          refine ⟨l.length + 1 - (i + 1), by omega, i + 1, ρ₄, σ₄, θ₄, rfl, hlt, ?_, I₄, F₄, all, hwθ₄, hK₄, hL₄⟩
          refine W.frame _ _ _ hS₂ fun b hb o e => ?_
          rcases (hfp b hb).2 with hn | ⟨n, xs, kk, l', e1, e2⟩
          · have : b ∉ θ' := by
              obtain ⟨o2, e2⟩ := hex 0 _ b hS hb
              exact g'.notMem e2 hn
            exact g34.kept b o e this (hfp b hb).1
          · have a1 : θ'[n]? = some b := by obtain ⟨t, e'⟩ := g'.pre; rw [e', List.getElem?_append_left (List.getElem?_eq_some_iff.mp e1).1]; exact e1
            have a2 : θ₄[n]? = some b := by obtain ⟨t, e'⟩ := all.pre; rw [e', List.getElem?_append_left (List.getElem?_eq_some_iff.mp e1).1]; exact e1
            have b1 : IsL h₂ b xs.toArray kk := (J₂.rep.obj n _ b (e2 _ hK') a1).1
            have b2 : IsL s₄.heap b xs.toArray kk := (I₄.rep.obj n _ b (e2 _ hK₄) a2).1
            have : o = _ := Option.some.inj (e.symm.trans b1)
            rw [this]; exact b2
        cases rf with
        | next => exact again q
        | cont => exact again q
        | brk => exact ⟨.next, ρ₄, σ₄, θ₄, I₄, F₄, out, .next, q⟩
        | ret rv => exact ⟨.ret _, ρ₄, σ₄, θ₄, I₄, F₄, out, .ret rv, q⟩
      exact item_ok X J₂ G₂ r.handled as hv' step
    refine wpAny_mono core (fun _ s₃ h₃ => wpAny_mono h₃ (fun f s₄ h₄ => ?_) fun _ _ x => x.elim) fun _ _ x => x.elim
    cases f <;> exact h₄
  · have hin : i = l.length := by omega
    subst hin
    refine W.done _ _ _ hS' fun h₁ tk₁ hk₁ => wpAny_execs_nil ?_
    obtain ⟨J₁, G₁, e₁⟩ := turned (t := tk₁) hk₁
    rw [List.drop_length] at hL'
    have all : GrowX X' s₂.heap θ₂ h₁ θ' := GrowX.trans (exX hS' F' hwθ) g' e₁
    refine ⟨.next, ρ', σ', θ', J₁, G₁, ?_, .next, hL'⟩
    refine ⟨?_, fun a m n => ?_, fun b o e n nx => ?_⟩
    · obtain ⟨t, e⟩ := g₂.pre; obtain ⟨u, e'⟩ := all.pre; exact ⟨t ++ u, by rw [e', e, List.append_assoc]⟩
    · by_cases h2 : a ∈ θ₂
      · exact g₂.fresh a h2 n
      · cases e : s.heap.get? a with
        | none => rfl
        | some o => have := all.fresh a m h2; rw [g₂.kept a o e n] at this; cases this
    · refine all.kept b o (g₂.kept b o e n) (g₂.notMem e n) ?_
      rintro (z | z)
      · exact nx z
      · rw [(hwr b z).1] at e; cases e
end
end Mine
end
section
open PySem PySem.W PySem.Calls PyProof.Rows PySem.MeetsSeq PySem.MeetsSeq2 PySem.MeetsSeq3
set_option linter.unusedVariables false
namespace Mine
section
variable {c : Cx} {sc : Sc} {d : Nat} {ρ : Vars} {σ : St} {Q : Post} {R : Fl → Vars → St → Prop} {A : Around} {env : Env} {s s₁ : Shared} {θ θ₁ : List Addr} {x y : Str} {G : List V → (St → Prop) → St → Prop} {target : Expr}
noncomputable def ITV (c : Cx) (d : Nat) (target : Expr) (v : V) (σ : St) (G : List V → (St → Prop) → St → Prop) : Prop :=
  ∀ A env s θ ρ v', Room A d → Inv c s θ σ → FrA c s.heap θ env ρ → RepV s.heap θ v v' → wpAny (model c.prog c.w) A (pyIter v') (OkI0 c A target env s θ σ G) NoE s
theorem IT.older {s₂ : Shared} {K : St → Prop} {it : Value} {l : List V} {θ₂ : List Addr} (g : Grow s.heap θ s₁.heap θ₁) (hex : ∀ b ∈ θ, ∃ o, s₁.heap.get? b = some o) (h : IT c A target env s₁ s₂ θ₂ K it l) : IT c A target env s s₂ θ₂ K it l := by
  obtain ⟨Ja, fp, wr, P, Md, S, e, W, hS, hwr, r1, r2, r3, r4, r5⟩ := h
  refine ⟨Ja, fp, wr, P, Md, S, e, W, hS, fun b hb => ⟨?_, (hwr b hb).2⟩, r1, r2, r3, r4, r5⟩
  cases h : s.heap.get? b with
  | none => rfl
  | some o =>
    have q := (hwr b hb).1
    by_cases m : b ∈ θ
    · obtain ⟨o, e⟩ := hex b m; rw [e] at q; cases q
    · rw [g.kept b o h m] at q; cases q
theorem ITX_val {e : Expr} (h : EV c sc d e ρ σ fun v σ₁ => ITV c d target v σ₁ G) : ITX c sc d target e ρ σ G := fun A env s θ r X I F => by
  refine wpAny_mono (h A env s θ r X I F) (fun v' s₁ h₁ => ?_) fun _ _ x => x
  obtain ⟨v, σ₁, θ₁, I₁, g₁, rv, q⟩ := h₁
  refine wpAny_mono (q A env s₁ θ₁ ρ v' r I₁ (F.grow I.tupOut g₁) rv) (fun it s₂ h₂ => ?_) fun _ _ x => x
  obtain ⟨l, K, I₂, g₂, ht, hK, hG⟩ := h₂
  exact ⟨l, K, σ₁, θ₁, I₂, g₁.trans g₂, ht.older g₁ (fun b m => I₁.rep.exists (g₁.mem m)), hK, hG⟩
theorem pushed (I : Inv c s θ σ) (o : Obj) (t : Nat) : Inv c { s with heap := s.heap.push o, toks := t } θ σ ∧ Grow s.heap θ (s.heap.push o) θ := ⟨I.keeps fun b o' e => Heap.get?_push_of_some _ e, grow_keeps fun b o' e => Heap.get?_push_of_some _ e⟩
theorem FrA.lt {h : Heap} (F : FrA c h θ env ρ) {b : Addr} (o : own env b) : b < h.objs.size := let ⟨_, e, _⟩ := F.ownX b o; Heap.lt_size e
theorem itl_list {h : Heap} {I a : Addr} {i : Nat} (x : h.IsListIter I a i) : Itl h I := by obtain ⟨o, e, hc, hd⟩ := x; exact ⟨o, _, e, hd, fun x t h => by simp at h⟩
theorem itl_tuple {h : Heap} {I a : Addr} {i : Nat} (x : h.IsTupleIter I a i) : Itl h I := by obtain ⟨o, e, hc, hd⟩ := x; exact ⟨o, _, e, hd, fun x t h => by simp at h⟩
theorem itl_str {h : Heap} {I : Addr} {T : String} {x : Str} {t : Tok} {i : Nat} (q : h.IsStrIter I T x t i) : Itl h I := by obtain ⟨o, e, hc, hd⟩ := q; exact ⟨o, _, e, hd, fun x t h => by simp at h⟩
theorem itl_range {h : Heap} {I : Addr} {a b k : Int} (q : IsRangeIter h I a b k) : Itl h I := ⟨_, _, q, rfl, fun x t h => by simp [rawInt] at h⟩
theorem itl_rev {h : Heap} {I a : Addr} {i : Int} (q : h.IsRevIter I a i) : Itl h I := by obtain ⟨o, e, hc, hd⟩ := q; exact ⟨o, _, e, hd, fun x t h => by simp [rawInt] at h⟩
theorem Inv.none' (I : Inv c s θ σ) {b : Addr} (h : s.heap.objs.size ≤ b) : s.heap.get? b = none := by
  cases e : s.heap.get? b with
  | none => rfl
  | some o => exact absurd (Heap.lt_size e) (Nat.not_lt.mpr h)
theorem IT.mk1 {s₂ : Shared} {l : List V} {Ja : Addr} {fp : List Addr} {P Md : Nat → Value → Heap → Prop} {S : Nat → Heap → Prop} {K : St → Prop} (I : Inv c s θ σ) (F : FrA c s.heap θ env ρ) (W : KTurns c.prog c.w A target Ja fp [Ja] l.length P Md S) (hS : S 0 s₂.heap) (hI : s.heap.objs.size ≤ Ja)
    (hfp : ∀ b ∈ fp, b = Ja ∨ (¬ own env b ∧ (b ∉ θ ∨ ∃ (n : Nat) (xs : List Value) (k : Nat) (l' : List V), θ[n]? = some b ∧ ∀ σ' : St, K σ' → σ'[n]? = some (SO.fz xs k l')) ∧ ∀ i h, S i h → ∃ o, h.get? b = some o))
    (hit : ∀ i h, S i h → Itl h Ja) (hself : ∀ i (s : Shared) (Q : Value → Shared → Prop) (E : Value → Shared → Prop), S i s.heap → Q (.ref Ja) s → wpAny (model c.prog c.w) A (pyIter (.ref Ja)) Q E s) (hP : ∀ i v h, P i v h → ∃ x, l[i]? = some x ∧ ITEM target s₂.heap θ h x v) : IT c A target env s s₂ θ K (.ref Ja) l := by
  refine ⟨Ja, fp, [Ja], P, Md, S, rfl, W, hS, fun b hb => ?_, fun b hb => ?_, fun i h b hs hb => ?_, fun i h b hs hb => ?_, hself, hP⟩
  · rw [List.mem_singleton.mp hb]; exact ⟨I.none' hI, I.new hI⟩
  · rcases hfp b hb with rfl | q
    · exact ⟨fun o => absurd (F.lt o) (Nat.not_lt.mpr hI), .inl (I.new hI).1⟩
    · exact ⟨q.1, q.2.1⟩
  · rw [List.mem_singleton.mp hb]; exact hit i h hs
  · rcases hfp b hb with rfl | q
    · obtain ⟨o, _, e, _⟩ := hit i h hs; exact ⟨o, e⟩
    · exact q.2.2 i h hs
theorem itemsOf {h h' : Heap} {l : List V} {xs : List Value} (hr : RepVs h θ l xs) (up : ∀ {v : V} {x : Value}, RepV h θ v x → RepV h' θ v x) {i : Nat} {v : Value} {h₁ : Heap} (hp : xs.toArray[i]? = some v) : ∃ x, l[i]? = some x ∧ ITEM target h' θ h₁ x v := by
  have hv : xs[i]? = some v := by simpa using hp
  have hi : i < l.length := by rw [hr.length]; exact (List.getElem?_eq_some_iff.mp hv).1
  obtain ⟨v₂, e, rv⟩ := hr.at (List.getElem?_eq_getElem hi)
  rw [hv] at e; cases e
  exact ⟨_, List.getElem?_eq_getElem hi, .inl (up rv)⟩
theorem KTurns.lt {Ja : Addr} {fp wr : List Addr} {n : Nat} {P Md : Nat → Value → Heap → Prop} {S : Nat → Heap → Prop} (W : KTurns c.prog c.w A target Ja fp wr n P Md S) : KTurns c.prog c.w A target Ja fp wr n (fun i v h => i < n ∧ P i v h) (fun i v h => i < n ∧ Md i v h) S :=
  ⟨W.sub, W.frame, fun i s Q E hi st hQ => W.item i s Q E hi st fun v h' tk m k => hQ v h' tk ⟨hi, m⟩ k, fun i v s Q E m hQ => W.go i v s Q E m.2 fun h' p st k => hQ h' ⟨m.1, p⟩ st k, W.done⟩
theorem KTurns.cast {Ja : Addr} {fp wr : List Addr} {n m : Nat} {P Md : Nat → Value → Heap → Prop} {S : Nat → Heap → Prop} (e : n = m) (W : KTurns c.prog c.w A target Ja fp wr n P Md S) : KTurns c.prog c.w A target Ja fp wr m P Md S := e ▸ W
theorem ITV_tup {l : List V} (h : G l (fun _ => True) σ) : ITV c d target (.tup l) σ G := fun A env s θ ρ v' r I F rv => by
  cases rv with
  | tup l a xs ht hr =>
    have hlt : a < s.heap.objs.size := by obtain ⟨n, e⟩ := ht; exact Heap.lt_size e
    have ht' : s.heap.IsTuple a xs.toArray := ht.isTup
    refine wpAny_pyIter_tuple ht' ?_
    obtain ⟨I', g'⟩ := pushed I { cls := .type "tuple_iterator", data := .fields #[.ref a, .int 0 0] } s.toks
    have W := KTurns.ofWalks (target := target) (Walks.tuple (prog := c.prog) (w := c.w) r.handled s.heap.objs.size a (Nat.ne_of_lt hlt) xs.toArray) fun i v s Q E st q => letGo_tupleiter st.1 q
    rw [show xs.toArray.size = l.length by rw [List.size_toArray, hr.length]] at W
    exact ⟨l, fun _ => True, I', g', IT.mk1 I F W ⟨⟨_, Heap.get?_push_size _ rfl, rfl, rfl⟩, ht'.push _⟩ (Nat.le_refl _)
      (fun b hb => by
        have hb : b = s.heap.objs.size ∨ b = a := by simpa using hb
        exact hb.imp id fun e => by subst e; exact ⟨fun o => F.ownNoT _ o _ ht, .inl fun m => I.tupOut _ m _ ht, fun i h hS => let ⟨o, e, _⟩ := hS.2; ⟨o, e⟩⟩)
      (fun i h hS => itl_tuple hS.1) (fun _ _ _ _ st q => wpAny_pyIter_tupleiter st.1 q) (fun i v h hp => itemsOf hr (fun q => q.grow I.tupOut g') hp), trivial, h⟩
theorem ITV_list {v : V} {l : List V} (hl : v = .lst l ∨ ∃ n xs k, v = .loc n ∧ σ[n]? = some (.fz xs k l)) (h : ∀ K : St → Prop, (∀ n xs k, v = .loc n → σ[n]? = some (.fz xs k l) → ∀ σ' : St, σ'[n]? = some (.fz xs k l) → K σ') → (v = .lst l → ∀ σ', K σ') → G l K σ) : ITV c d target v σ G := fun A env s θ ρ v' r I F rv => by
  have key : ∃ (a : Addr) (xs : List Value) (k : Nat) (K : St → Prop), v' = .ref a ∧ IsL s.heap a xs.toArray k ∧ RepVs s.heap θ l xs ∧ K σ ∧ G l K σ ∧ (a ∉ θ ∨ ∃ (n : Nat) (xs : List Value) (k : Nat) (l' : List V), θ[n]? = some a ∧ ∀ σ' : St, K σ' → σ'[n]? = some (SO.fz xs k l')) := by
    rcases hl with rfl | ⟨n, xs, k, rfl, hn⟩
    · cases rv with
      | lst l a xs n nm hl hr => exact ⟨a, xs, n, fun _ => True, rfl, hl, hr, trivial, h _ (fun _ _ _ e => by cases e) (fun _ _ => trivial), .inl nm⟩
    · obtain ⟨a, rfl, e⟩ := rv.ofLoc
      obtain ⟨hl, hr⟩ := I.rep.obj n _ a hn e
      refine ⟨a, xs, k, fun σ' => σ'[n]? = some (.fz xs k l), rfl, hl, hr, hn, h _ (fun n' xs' k' e' h' σ' h2 => ?_) (fun e => by cases e), .inr ⟨n, xs, k, l, e, fun _ h => h⟩⟩
      cases e'; rw [hn] at h'; cases h'; exact h2
  obtain ⟨a, xs, k, K, rfl, hL, hr, hK, hG, hfz⟩ := key
  have hlt : a < s.heap.objs.size := Heap.lt_size hL
  refine wpAny_pyIter_list hL.isList ?_
  obtain ⟨I', g'⟩ := pushed I { cls := .type "list_iterator", data := .fields #[.ref a, .int 0 0] } s.toks
  have W := KTurns.ofWalks (target := target) (Walks.list (prog := c.prog) (w := c.w) r.handled s.heap.objs.size a (Nat.ne_of_lt hlt) xs.toArray) fun i v s Q E st q => letGo_listiter st.1 q
  rw [show xs.toArray.size = l.length by rw [List.size_toArray, hr.length]] at W
  exact ⟨l, K, I', g', IT.mk1 I F W ⟨⟨_, Heap.get?_push_size _ rfl, rfl, rfl⟩, hL.isList.push _⟩ (Nat.le_refl _)
      (fun b hb => by
        have hb : b = s.heap.objs.size ∨ b = a := by simpa using hb
        exact hb.imp id fun e => by subst e; exact ⟨fun o => F.ownNoL _ o _ _ hL, hfz, fun i h hS => let ⟨o, e, _⟩ := hS.2; ⟨o, e⟩⟩)
      (fun i h hS => itl_list hS.1) (fun _ _ _ _ st q => wpAny_pyIter_listiter st.1 q) (fun i v h hp => itemsOf hr (fun q => q.grow I.tupOut g') hp), hK, hG⟩
theorem ITV_str {x : Str} {y : Str} {p : Pos} (ha : x.cps.all (· < 128) = true) (h : G (x.cps.toList.map fun k => .str ⟨#[k]⟩) (fun _ => True) σ) : ITV c d (.Name y p) (.str x) σ G := fun A env s θ ρ v' r I F rv => by
  cases rv with
  | str x t =>
    refine wpAny_pyIter_ascii ha ?_
    obtain ⟨I', g'⟩ := pushed I { cls := .type "str_ascii_iterator", data := .fields #[.str x t, .int 0 0] } s.toks
    have W := KTurns.ofWalks (target := .Name y p) (Walks.strAscii (prog := c.prog) (w := c.w) r.handled s.heap.objs.size x t) fun i v s Q E st q => wpAny_pure q
    rw [show x.cps.size = (x.cps.toList.map fun k => V.str ⟨#[k]⟩).length by simp] at W
    exact ⟨_, fun _ => True, I', g', IT.mk1 I F W ⟨_, Heap.get?_push_size _ rfl, rfl, rfl⟩ (Nat.le_refl _) (fun b hb => .inl (by simpa using hb)) (fun i h hS => itl_str hS) (fun _ _ _ _ st q => wpAny_pyIter_striter_ascii st q)
      (fun i v h hp => by obtain ⟨k, t', hk, rfl⟩ := hp; exact ⟨.str ⟨#[k]⟩, by simp [hk], .inl (.str _ _)⟩), trivial, h⟩
theorem callWith_gen {f : V} {f' : Value} {first : List V} {first' : List Value} {es : List Expr} {pos : Pos} {P : Value → Shared → Prop} (hs : noStar es = true) (r : Room A d) (X : EnvIs sc env) (I : Inv c s θ σ) (F : FrA c s.heap θ env ρ) (rf : RepV s.heap θ f f') (rfs : RepVs s.heap θ first first')
    (h : EVs c sc d es ρ σ fun vs σ₂ => Kp c σ₂ f ∧ ∀ s₂ θ₂ f'' vs', Inv c s₂ θ₂ σ₂ → Grow s.heap θ s₂.heap θ₂ → RepV s₂.heap θ₂ f f'' → RepVs s₂.heap θ₂ (first ++ vs) vs' → wpAny (model c.prog c.w) A (call f'' vs' []) P NoE s₂) : wpAny (model c.prog c.w) A (callWith pos f' first' (backTo pos (starEach es env)) []) P NoE s := by
  have h0 := h A env pos s θ r X I F
  rw [backTo_plain pos env hs] at h0 ⊢
  have fin : wpAny (model c.prog c.w) A (evalArgs f' true (es.map fun e => (false, eval e env)) []) (fun a s₁ => ((∃ k, (k = Keeper.frame ∨ k = Keeper.machine ∨ k = Keeper.boundFrame) ∧ Looks (model c.prog c.w) s₁.heap (keeperOf f') k) ∧ wpAny (model c.prog c.w) A (call f' (first' ++ a.pos) a.kw) P NoE s₁)) NoE s := by
    have go : ∀ vs' s₁, OkVs c s θ (fun vs σ₂ => Kp c σ₂ f ∧ ∀ s₂ θ₂ f'' vs', Inv c s₂ θ₂ σ₂ → Grow s.heap θ s₂.heap θ₂ → RepV s₂.heap θ₂ f f'' → RepVs s₂.heap θ₂ (first ++ vs) vs' → wpAny (model c.prog c.w) A (call f'' vs' []) P NoE s₂) vs' s₁ → ((∃ k, (k = Keeper.frame ∨ k = Keeper.machine ∨ k = Keeper.boundFrame) ∧ Looks (model c.prog c.w) s₁.heap (keeperOf f') k) ∧ wpAny (model c.prog c.w) A (call f' (first' ++ vs') []) P NoE s₁) := by
      rintro vs' s₁ ⟨vs, σ₁, θ₁, I₁, g₁, rv, kp, q⟩
      exact ⟨kp _ _ _ I₁ (rf.grow I.tupOut g₁), q s₁ θ₁ f' _ I₁ g₁ (rf.grow I.tupOut g₁) ((rfs.grow I.tupOut g₁).append rv)⟩
    cases es with
    | nil =>
      unfold evalArgs
      show wpAny (model c.prog c.w) A (spliced [] >>= _) _ _ s
      refine wpAny_bind (wpAny_mono h0 (fun vs' s' h' => wpAny_bind (wpAny_pure ?_)) fun _ _ x => x)
      refine wpAny_holding ?_
      exact wpAny_bind (wpAny_pure (wpAny_bind (wpAny_pure (wpAny_pure (go _ _ h')))))
    | cons e es => exact evalArgs_plain (wpAny_mono h0 (fun vs' s₁ q => go vs' s₁ q) fun _ _ x => x)
  unfold callWith
  refine wpAny_bind (wpAny_holding (wpAny_mono fin (fun a s₁ h₁ => wpAny_bind (wpAny_standAt ?_)) fun _ _ x => x))
  obtain ⟨⟨k, hk', L⟩, h₂⟩ := h₁
  have hp : ((es.map fun e => ((false : Bool), eval e env)).any (·.1) || ([] : List (Option Str × Sem Value)).any (·.1.isNone)) = false := by simp
  simp only [hp]
  refine wpAny_bind (L.here ?_)
  have tail : ∀ {t : Sem Value}, wpAny (model c.prog c.w) A t P NoE s₁ → wpAny (model c.prog c.w) A (t >>= fun r => holding [r] point >>= fun _ => pure r) P NoE s₁ :=
    fun ht => wpAny_bind (wpAny_mono ht (fun r s₂ hr => wpAny_bind (wpAny_holding (wpAny_point (wpAny_pure hr)))) fun _ _ x => x)
  have marked (mk : Value) : wpAny (model c.prog c.w) A (callMarked mk f' (first' ++ a.pos) a.kw) P NoE s₁ := by unfold callMarked; exact Calls.wpAny_keep h₂
  rcases hk' with rfl | rfl | rfl <;> dsimp only <;> first | exact tail h₂ | (split <;> first | exact tail h₂ | exact tail (marked _))
noncomputable def ITC (c : Cx) (d : Nat) (target : Expr) (f : V) (vs : List V) (σ : St) (G : List V → (St → Prop) → St → Prop) : Prop :=
  ∀ A env s θ ρ f' vs', Room A d → Inv c s θ σ → FrA c s.heap θ env ρ → RepV s.heap θ f f' → RepVs s.heap θ vs vs' → wpAny (model c.prog c.w) A (call f' vs' []) (fun x s₁ => wpAny (model c.prog c.w) A (pyIter x) (OkI0 c A target env s θ σ G) NoE s₁) NoE s
theorem ITX_call {x : Str} {p pos : Pos} {args : List Expr} (hs : noStar args = true) (h : EV c sc d (.Name x p) ρ σ fun f σ₁ => EVs c sc d args ρ σ₁ fun vs σ₂ => Kp c σ₂ f ∧ ITC c d target f vs σ₂ G) : ITX c sc d target (.Call (.Name x p) args [] pos) ρ σ G := fun A env s θ r X I F => by
  refine Call_ (wpAny_mono (h A env s θ r X I F) (fun f' s₁ h₁ => ?_) fun _ _ x => x)
  obtain ⟨f, σ₁, θ₁, I₁, g₁, rf, q⟩ := h₁
  have F₁ := F.grow I.tupOut g₁
  refine callWith_gen (first := []) hs r X I₁ F₁ rf .nil fun A' env' pos' s' θ' r' X' I' F' => wpAny_mono (q A' env' pos' s' θ' r' X' I' F') (fun vs' s₂ h₂ => ?_) fun _ _ x => x
  obtain ⟨vs, σ₂, θ₂, I₂, g₂, rvs, kp, q⟩ := h₂
  refine ⟨vs, σ₂, θ₂, I₂, g₂, rvs, kp, fun s₃ θ₃ f'' vs'' I₃ g₃ rf' rvs' => ?_⟩
  refine wpAny_mono (q A env s₃ θ₃ ρ f'' vs'' r I₃ (F₁.grow I₁.tupOut g₃) rf' rvs') (fun xv s₄ h₄ => wpAny_mono h₄ (fun it s₅ h₅ => ?_) fun _ _ x => x) fun _ _ x => x
  obtain ⟨l, K, I₅, g₅, ht, hK, hG⟩ := h₅
  have gg := g₁.trans g₃
  exact ⟨l, K, σ₂, θ₃, I₅, gg.trans g₅, ht.older gg (fun b m => I₃.rep.exists (gg.mem m)), hK, hG⟩
theorem ITC_range {n : Nat} {x : Str} {p : Pos} (hn : n ≤ 1000000) (h : G ((List.range n).map fun i => .int (i : Nat)) (fun _ => True) σ) : ITC c d (.Name x p) (.raw (.type "range")) [.int (n : Nat)] σ G := fun A env s θ ρ f' vs' r I F rf rv => by
  cases rf
  obtain ⟨v', rfl, r1⟩ := rv.one
  cases r1 with
  | int i t =>
    refine call_range_1 ?_
    have hsz : Builtin.Range.rangeSize 0 (n : Int) 1 = n := by
      unfold Builtin.Range.rangeSize
      rcases Nat.eq_zero_or_pos n with rfl | h0
      · rfl
      · simp; omega
    refine wpAny_pyIter_range (IsRange.new ..) ?_ ?_
    · unfold Builtin.Range.small
      rw [hsz]
      unfold Builtin.Range.rangeFitsLong
      simp; omega
    · rw [hsz, Heap.size_push]
      have k1 : ∀ (o o' : Obj) b ob, s.heap.get? b = some ob → ((s.heap.push o).push o').get? b = some ob := fun o o' b ob e => Heap.get?_push_of_some _ (Heap.get?_push_of_some _ e)
      have W := KTurns.ofWalks (target := .Name x p) (Walks.range (prog := c.prog) (w := c.w) r.handled (s.heap.objs.size + 1) 0 1 n) fun i v s Q E st q => wpAny_pure q
      have W' := KTurns.lt W
      have e : n = ((List.range n).map fun i => V.int (i : Nat)).length := by simp
      have W' := KTurns.cast e W'
      refine ⟨_, fun _ => True, I.keeps (k1 _ _), grow_keeps (k1 _ _), IT.mk1 I F W' ?_ (by omega) (fun b hb => .inl (by simpa using hb)) (fun i h hS => itl_range hS) (fun _ _ _ _ st q => wpAny_pyIter_rangeiter st q) ?_, trivial, h⟩
      · have q := Heap.get?_push_size (s.heap.push { cls := .type "range", data := .fields #[.int 0 s.toks, .int n t, .int 1 (s.toks + 1)] }) (o := { cls := .type "range_iterator", data := .fields #[rawInt 0, rawInt (n : Int), rawInt 1] }) rfl
        rw [Heap.size_push] at q
        have e1 : (0 : Int) + ((0 : Nat) : Int) * 1 = 0 := by simp
        have e2 : (n : Int) - ((0 : Nat) : Int) = n := by simp
        show IsRangeIter _ _ _ _ _
        rw [e1, e2]
        exact q
      · rintro i v h ⟨hi, t, rfl⟩
        exact ⟨.int (i : Nat), by simp [hi], .inl (by simpa using RepV.int (0 + (i : Int) * 1) t)⟩
theorem ITC_reversed {v : V} {l : List V} {x : Str} {p : Pos} (hl : v = .lst l) (h : G l.reverse (fun _ => True) σ) : ITC c d (.Name x p) (.raw (.type "reversed")) [v] σ G := fun A env s θ ρ f' vs' r I F rf rv => by
  cases rf
  subst hl
  obtain ⟨v', rfl, r1⟩ := rv.one
  cases r1 with
  | lst l a xs n nm hL hr =>
    refine call_reversed_list hL.isList ?_
    obtain ⟨I', g'⟩ := pushed I (revObj a ((xs.toArray.size : Int) - 1)) s.toks
    have hlt : a < s.heap.objs.size := Heap.lt_size hL
    have hri : (s.heap.push (revObj a ((xs.toArray.size : Int) - 1))).IsRevIter s.heap.objs.size a ((xs.toArray.size : Int) - 1) := ⟨_, Heap.get?_push_size _ rfl, rfl, rfl⟩
    refine wpAny_pyIter_revIter hri ?_
    have W := KTurns.lt <| KTurns.ofWalks (target := .Name x p) (Walks.listRev (prog := c.prog) (w := c.w) r.handled s.heap.objs.size a (Nat.ne_of_lt hlt) xs.toArray) fun i v s Q E st q => wpAny_pure q
    rw [show xs.toArray.size = l.reverse.length by rw [List.size_toArray, List.length_reverse, hr.length]] at W
    refine ⟨l.reverse, fun _ => True, I', g', IT.mk1 I F W ⟨Nat.zero_le _, ?_, hL.isList.push _⟩ (Nat.le_refl _)
      (fun b hb => by
        have hb : b = s.heap.objs.size ∨ b = a := by simpa using hb
        exact hb.imp id fun e => by subst e; exact ⟨fun o => F.ownNoL _ o _ _ hL, .inl nm, fun i h hS => let ⟨o, e, _⟩ := hS.2.2; ⟨o, e⟩⟩)
      (fun i h hS => itl_rev hS.2.1) (fun _ _ _ _ st q => wpAny_pyIter_revIter st.2.1 q) (fun i v h hp => ?_), trivial, h⟩
    · have e : ((l.reverse.length : Nat) : Int) - 1 - ((0 : Nat) : Int) = (xs.toArray.size : Int) - 1 := by rw [List.size_toArray, List.length_reverse, hr.length]; simp
      rw [e]; exact hri
    · obtain ⟨hi, hp⟩ := hp
      have hp : xs[xs.length - 1 - i]? = some v := by rw [← hr.length]; simpa using hp
      have hi : i < l.length := by simpa using hi
      have hrr := hr.reverse
      have e1 : xs.reverse[i]? = some v := by rw [List.getElem?_reverse (by rw [← hr.length]; exact hi)]; exact hp
      have hi' : i < l.reverse.length := by simpa using hi
      obtain ⟨v₂, e, rv⟩ := hrr.at (List.getElem?_eq_getElem hi')
      rw [e1] at e; cases e
      exact ⟨_, List.getElem?_eq_getElem hi', .inl (rv.grow I.tupOut g')⟩
end
end Mine
end
section
open PySem PySem.W PySem.Calls PyProof.Rows PySem.MeetsSeq PySem.MeetsSeq2 PySem.MeetsSeq3
set_option linter.unusedVariables false
namespace Mine
section
variable {c : Cx} {sc : Sc} {d : Nat} {ρ : Vars} {σ : St} {Q : Post} {R : Fl → Vars → St → Prop} {A : Around} {env : Env} {s s₁ : Shared} {θ θ₁ : List Addr} {x y : Str} {G : List V → (St → Prop) → St → Prop} {target : Expr}
theorem EX_While {test : Expr} {body : List Stmt} {pos : Pos} (J : Nat → Vars → St → Prop) (n : Nat) (h0 : J n ρ σ)
    (step : ∀ n ρ σ, J n ρ σ → ET c sc d test ρ σ fun b σ₁ => if b = true then EXs c sc d body ρ σ₁ (fun f ρ' σ' => match f with
      | .next => ∃ m, m < n ∧ J m ρ' σ'
      | .cont => ∃ m, m < n ∧ J m ρ' σ'
      | .brk => R .next ρ' σ'
      | .ret v => R (.ret v) ρ' σ') else R .next ρ σ₁) : EX c sc d (.While test body [] pos) ρ σ R := fun A env s θ r X I F => by
  refine wpAny_While (codeAny_whileLoop (fun n s' => ∃ ρ' σ' θ', Inv c s' θ' σ' ∧ FrA c s'.heap θ' env ρ' ∧ GrowX (own env) s.heap θ s'.heap θ' ∧ J n ρ' σ') ?_ n ⟨ρ, σ, θ, I, F, GrowX.refl .., h0⟩)
  rintro n s' ⟨ρ', σ', θ', I', F', g', hJ⟩
  refine wpAny_mono (step n ρ' σ' hJ A env s' θ' r X I' F') (fun b s₂ h₂ => ?_) fun _ _ x => x.elim
  obtain ⟨σ₂, θ₂, I₂, g₂, q⟩ := h₂
  have F₂ := F'.grow I'.tupOut g₂
  have gg := GrowX.trans F'.ownX g' g₂.x
  cases b with
  | true =>
    refine wpAny_mono (q A env s₂ θ₂ r X I₂ F₂) (fun f s₃ h₃ => ?_) fun _ _ x => x.elim
    obtain ⟨fl, ρ₃, σ₃, θ₃, I₃, F₃, g₃, rf, q₃⟩ := h₃
    have g4 := GrowX.trans F₂.ownX gg g₃
    cases rf with
    | next => obtain ⟨m, hm, hJ⟩ := q₃; exact ⟨m, hm, ρ₃, σ₃, θ₃, I₃, F₃, g4, hJ⟩
    | cont => obtain ⟨m, hm, hJ⟩ := q₃; exact ⟨m, hm, ρ₃, σ₃, θ₃, I₃, F₃, g4, hJ⟩
    | brk => exact ⟨.next, ρ₃, σ₃, θ₃, I₃, F₃, g4, .next, q₃⟩
    | ret rv => exact ⟨.ret _, ρ₃, σ₃, θ₃, I₃, F₃, g4, .ret rv, q₃⟩
  | false => exact wpAny_execs_nil ⟨.next, ρ', σ₂, θ₂, I₂, F₂, gg, .next, q⟩
theorem loadName_ok (X : EnvIs sc env) (I : Inv c s θ σ) (F : FrA c s.heap θ env ρ) {v : V} (hv : get ρ x = some v) (hn : (x == ("__classdict__" : Str)) = false) {P : Value → Shared → Prop} (h : ∀ v', RepV s.heap θ v v' → P v' s) : wpAny (model c.prog c.w) A (loadName env x) P NoE s := by
  obtain ⟨m, cm, hm, hc, hr⟩ := F.at_
  obtain ⟨v', a, b⟩ := hr x v hv
  rcases b with ⟨b1, b2⟩ | ⟨b1, b2, b3⟩
  · exact wpAny_loadName_local X.fn b1 hm b2 (h v' a)
  · obtain ⟨k, hk⟩ := Option.isSome_iff_exists.mp b2
    rcases b1 with b1 | b1
    · exact wpAny_loadName_cell X.fn b1 hk (b3 ▸ hc x k hk) (h v' a)
    · exact wpAny_loadName_free X.fn b1 hk (b3 ▸ hc x k hk) (h v' a) hn
theorem EX_AugAdd {x : Str} {value : Expr} {p pos : Pos} {a : Int} (hv : get ρ x = some (.int a)) (hk : kindOk sc x) (h : EV c sc d value ρ σ fun v σ₁ => ∃ b, v = .int b ∧ R .next (put ρ x (.int (a + b))) σ₁)
    (hn : (x == ("__classdict__" : Str)) = false) : EX c sc d (.AugAssign (.Name x p) .Add value pos) ρ σ R := fun A env s θ r X I F => by
  refine wpAny_AugAssign_Name (loadName_ok X I F hv hn fun v' rv => ?_)
  cases rv with
  | int a t =>
    refine wpAny_mono (h A env s θ r X I F) (fun w' s₁ h₁ => ?_) fun _ _ x => x
    obtain ⟨v, σ₁, θ₁, I₁, g₁, rv, b, rfl, q⟩ := h₁
    cases rv with
    | int b u =>
      refine iadd_int ?_
      have F₁ := F.grow I.tupOut g₁
      exact storeName_ok (s := { s₁ with toks := s₁.toks + 1 }) X (I₁.toks (s₁.toks + 1)) F₁ hk (.int (a + b) s₁.toks) fun s₂ I₂ F₂ g₂ _ => ⟨.next, _, σ₁, θ₁, I₂, F₂, GrowX.trans F₁.ownX g₁.x g₂, .next, q⟩
theorem ITC_enumerate {v : V} {l : List V} {es : List Expr} {k : Nat} {p : Pos} (hl : v = .lst l ∨ ∃ n xs k, v = .loc n ∧ σ[n]? = some (.fz xs k l))
    (h : ∀ K : St → Prop, (∀ n xs k, v = .loc n → σ[n]? = some (.fz xs k l) → ∀ σ' : St, σ'[n]? = some (.fz xs k l) → K σ') → (v = .lst l → ∀ σ', K σ') → G (l.mapIdx fun i v => .tup [.int (i : Nat), v]) K σ) : ITC c d (.Tuple es k p) (.raw (.type "enumerate")) [v] σ G := fun A env s θ ρ f' vs' r I F rf rv => by
  cases rf
  obtain ⟨v', rfl, r1⟩ := rv.one
  have key : ∃ (a : Addr) (xs : List Value) (k : Nat) (K : St → Prop), v' = .ref a ∧ IsL s.heap a xs.toArray k ∧ RepVs s.heap θ l xs ∧ K σ ∧ G (l.mapIdx fun i v => .tup [.int (i : Nat), v]) K σ ∧ (a ∉ θ ∨ ∃ (n : Nat) (xs : List Value) (k : Nat) (l' : List V), θ[n]? = some a ∧ ∀ σ' : St, K σ' → σ'[n]? = some (SO.fz xs k l')) := by
    rcases hl with rfl | ⟨n, xs, k, rfl, hn⟩
    · cases r1 with
      | lst l a xs n nm hl hr => exact ⟨a, xs, n, fun _ => True, rfl, hl, hr, trivial, h _ (fun _ _ _ e => by cases e) (fun _ _ => trivial), .inl nm⟩
    · obtain ⟨a, rfl, e⟩ := r1.ofLoc
      obtain ⟨hl, hr⟩ := I.rep.obj n _ a hn e
      refine ⟨a, xs, k, fun σ' => σ'[n]? = some (.fz xs k l), rfl, hl, hr, hn, h _ (fun n' xs' k' e' h' σ' h2 => ?_) (fun e => by cases e), .inr ⟨n, xs, k, l, e, fun _ h => h⟩⟩
      cases e'; rw [hn] at h'; cases h'; exact h2
  obtain ⟨a, xs, kk, K, rfl, hL, hr, hK, hG, hfz⟩ := key
  have hlt : a < s.heap.objs.size := Heap.lt_size hL
  refine call_enumerate_list hL.isList fun h' hE hI hsz hk => ?_
  refine wpAny_pyIter_enum hE ?_
  have hI' : Inv c { s with heap := h', toks := s.toks } θ σ := I.keeps hk
  have g' : Grow s.heap θ h' θ := grow_keeps hk
  have W := KTurns.lt <| KTurns.ofWalksU (elts := es) (k := k) (pos := p) (WalksT.enumerate (prog := c.prog) (w := c.w) r.handled (s.heap.objs.size + 1) s.heap.objs.size a (Nat.succ_ne_self _) (ktu_ne 1 hlt) (Nat.ne_of_lt hlt) xs.toArray).toU
  have el : xs.toArray.size = (l.mapIdx fun i v => V.tup [.int (i : Nat), v]).length := by rw [List.size_toArray, List.length_mapIdx, hr.length]
  have W' := KTurns.cast el W
  have ht : IT c A (.Tuple es k p) env s { s with heap := h' } θ K (.ref (s.heap.objs.size + 1)) (l.mapIdx fun i v => V.tup [.int (i : Nat), v]) := by
    refine ⟨_, _, _, _, _, _, rfl, W', ⟨⟨_, hE⟩, hI, hL.isList.at fun o e => hk _ _ e⟩, fun b hb => ?_, fun b hb => ?_, fun i h b hS hb => ?_, fun i h b hS hb => ?_, fun i s Q E st q => ?_, ?_⟩
    · have hb : b = s.heap.objs.size + 1 ∨ b = s.heap.objs.size := by simpa using hb
      have hle : s.heap.objs.size ≤ b := by rcases hb with rfl | rfl; exact Nat.le_succ _; exact Nat.le_refl _
      exact ⟨I.none' hle, I.new hle⟩
    · have hb : b = s.heap.objs.size + 1 ∨ b = s.heap.objs.size ∨ b = a := by simpa using hb
      by_cases hle : s.heap.objs.size ≤ b
      · exact ⟨fun o => absurd (F.lt o) (Nat.not_lt.mpr hle), .inl (I.new hle).1⟩
      · have : b = a := by
          rcases hb with rfl | rfl | rfl
          · exact absurd (Nat.le_succ _) hle
          · exact absurd (Nat.le_refl _) hle
          · rfl
        subst this
        exact ⟨fun o => F.ownNoL _ o _ _ hL, hfz⟩
    · have hb : b = s.heap.objs.size + 1 ∨ b = s.heap.objs.size := by simpa using hb
      obtain ⟨⟨old, he⟩, hi, _⟩ := hS
      rcases hb with rfl | rfl
      · exact ⟨_, _, he, rfl, fun x t h => by simp at h⟩
      · exact itl_list hi
    · have hb : b = s.heap.objs.size + 1 ∨ b = s.heap.objs.size ∨ b = a := by simpa using hb
      obtain ⟨⟨old, he⟩, hi, hl⟩ := hS
      rcases hb with rfl | rfl | rfl
      · exact ⟨_, he⟩
      · obtain ⟨o, e, _⟩ := hi; exact ⟨o, e⟩
      · obtain ⟨o, e, _⟩ := hl; exact ⟨o, e⟩
    · obtain ⟨⟨old, he⟩, _, _⟩ := st
      exact wpAny_pyIter_enum he q
    · rintro i v h ⟨hi, T, vals, rfl, ⟨t, x, hx, rfl⟩, hT⟩
      have hx : xs[i]? = some x := by simpa using hx
      have hil : i < l.length := by rw [hr.length]; exact (List.getElem?_eq_some_iff.mp hx).1
      obtain ⟨v₂, e, rv⟩ := hr.at (List.getElem?_eq_getElem hil)
      rw [hx] at e; cases e
      exact ⟨.tup [.int (i : Nat), l[i]], by simp [List.getElem?_mapIdx, hil], .inr ⟨T, [.int i t, x], _, ⟨_, _, _, rfl⟩, rfl, rfl, hT, .cons (.int _ _) (.cons (rv.grow I.tupOut g') .nil)⟩⟩
  exact ⟨_, K, hI', g', ht, hK, hG⟩
theorem RepV.growX {X : Addr → Prop} {h h' : Heap} {θ' : List Addr} (T : TupOut h θ) (g : GrowX X h θ h' θ') (hX : ∀ b, X b → Off h b) {v : V} {x : Value} (q : RepV h θ v x) : RepV h' θ' v x :=
  RepV.rec (motive_1 := fun v v' _ => RepV h' θ' v v') (motive_2 := fun v v' _ => RepVs h' θ' v v') .none .bool .int .str .raw
    (fun n a e => .loc n a (by obtain ⟨t, e'⟩ := g.pre; rw [e', List.getElem?_append_left (List.getElem?_eq_some_iff.mp e).1]; exact e))
    (fun l b xs ht _ ih => .tup l b xs (by obtain ⟨n, e⟩ := ht; exact ⟨n, g.kept b _ e (fun m => T b m _ ⟨n, e⟩) fun z => (hX b z).notT _ ⟨n, e⟩⟩) ih)
    (fun l b xs n nm e _ ih => .lst l b xs n (g.notMem e nm) (g.kept b _ e nm fun z => (hX b z).notL _ _ e) ih) .nil (fun _ _ a b => .cons a b) q
theorem FrA.growX {X : Addr → Prop} {h h' : Heap} {θ' : List Addr} (F : FrA c h θ env ρ) (T : TupOut h θ) (g : GrowX X h θ h' θ') (hX : ∀ b, X b → Off h b ∧ ¬ own env b) : FrA c h' θ' env ρ := by
  obtain ⟨⟨m, cm, hm, hc, hr⟩, lo, lob, cl, ap⟩ := F
  refine ⟨⟨m, cm, hm.at' fun o e => g.kept _ _ e lo (fun z => (hX _ z).2 (.inl rfl)), fun n k e => ?_, fun x v e => ?_⟩, ?_, lob, fun n k e => ?_, ap⟩
  · obtain ⟨o, e', r⟩ := hc n k e; exact ⟨o, g.kept _ _ e' (cl n k e).2.1 (fun z => (hX _ z).2 (.inr ⟨n, e⟩)), r⟩
  · obtain ⟨v', a, b⟩ := hr x v e; exact ⟨v', a.growX T g (fun b z => (hX b z).1), b⟩
  · obtain ⟨o, es, ep, e, _⟩ := hm; exact g.notMem e lo
  · obtain ⟨o, e', _⟩ := hc n k e; exact ⟨(cl n k e).1, g.notMem e' (cl n k e).2.1, (cl n k e).2.2⟩
theorem storeLocal_ok {v : V} {v' : Value} (X : EnvIs sc env) (I : Inv c s θ σ) (F : FrA c s.heap θ env ρ) (hk : sc.scope.names.lookup x = some .local) (r : RepV s.heap θ v v')
    {P : Unit → Shared → Prop} (h : ∀ s₁, Inv c s₁ θ σ → FrA c s₁.heap θ env (put ρ x v) → GrowX (· = env.locals) s.heap θ s₁.heap θ → P () s₁) :
    wpAny (model c.prog c.w) A (storeName env x v') P NoE s := by
  obtain ⟨m, cm, hm, hc, hr⟩ := F.at_
  refine wpAny_storeName_local (by rw [X.kindOf]; exact hk) hm (fun h' hn hs => ?_) (by rw [X.scope, X.kind]; rfl)
  have hw : ∀ b, b = env.locals → Off s.heap b ∧ b ∉ θ ∧ c.hb.get? b = none := fun b e => by subst e; exact ⟨.ns hm, F.lo, F.lob⟩
  have hkp : ∀ b o, ¬ b = env.locals → s.heap.get? b = some o → h'.get? b = some o := fun b o n e => hs.extBut b o n e
  have hv : ∀ {v : V} {v' : Value}, RepV s.heap θ v v' → RepV h' θ v v' := fun q => q.but (W := (· = env.locals)) (fun b z => (hw b z).1) hkp
  refine h _ (I.but (t := s.toks + 1) hw hkp) ⟨⟨_, cm, hn, fun n k e => (hc n k e).sameBut hs (F.cells n k e).1, fun y u hy => ?_⟩, F.lo, F.lob, F.cells, F.apart⟩ ⟨⟨[], (List.append_nil _).symm⟩, fun _ m n => (n m).elim, fun b o e _ k => hkp b o k e⟩
  rw [get_put] at hy
  by_cases hxy : x = y
  · subst hxy
    rw [if_pos rfl] at hy; cases hy
    exact ⟨v', hv r, .inl ⟨by rw [X.kindOf]; exact hk, by simp⟩⟩
  · rw [if_neg hxy] at hy
    obtain ⟨u', a, b⟩ := hr y u hy
    refine ⟨u', hv a, ?_⟩
    rcases b with ⟨b1, b2⟩ | b
    · exact .inl ⟨b1, by (have hyx : ¬ y = x := fun e => hxy e.symm); (simp only [hyx, if_false]); exact b2⟩
    · exact .inr b
theorem closureFor_ok (scope : Scope) (env : Env) (h : ∀ x ∈ scope.names, x.2 = .free → (env.cells.lookup x.1).isSome = true) :
    ∃ cl, closureFor scope env = pure cl ∧ (∀ n k, cl.lookup n = some k → env.cells.lookup n = some k) ∧ ∀ x ∈ scope.names, x.2 = .free → (cl.lookup x.1).isSome = true := by
  unfold closureFor
  have go : ∀ (names : List (Str × NameKind)) (cs : List (Str × Addr)), (∀ x ∈ names, x.2 = .free → (env.cells.lookup x.1).isSome = true) → (∀ n k, cs.lookup n = some k → env.cells.lookup n = some k) →
      ∃ cl, (forIn names cs fun p r => (if (p.2 == NameKind.free) = true then do let a ← cellOf env p.1; pure (ForInStep.yield ((p.1, a) :: r)) else pure (ForInStep.yield r) : Sem _)) = pure cl ∧ (∀ n k, cl.lookup n = some k → env.cells.lookup n = some k) ∧
        (∀ n, (cs.lookup n).isSome = true → (cl.lookup n).isSome = true) ∧ ∀ x ∈ names, x.2 = .free → (cl.lookup x.1).isSome = true := by
    intro names
    induction names with
    | nil => intro cs _ hcs; exact ⟨cs, rfl, hcs, fun _ h => h, fun _ m => by cases m⟩
    | cons p names ih =>
      intro cs hf hcs
      obtain ⟨n, k⟩ := p
      rw [List.forIn_cons]
      by_cases hk : k = .free
      · subst hk
        obtain ⟨a, ha⟩ := Option.isSome_iff_exists.mp (hf (n, .free) List.mem_cons_self rfl)
        have ha' : env.cells.lookup n = some a := ha
        obtain ⟨cl, e, h1, h2, h3⟩ := ih ((n, a) :: cs) (fun x hx => hf x (List.mem_cons_of_mem _ hx)) (fun n' k' e => by
          rw [List.lookup_cons] at e
          split at e
          · rename_i q; cases e; rw [beq_iff_eq.mp q]; exact ha'
          · exact hcs _ _ e)
        refine ⟨cl, ?_, h1, fun n' hn' => h2 n' ?_, fun x hx hxf => ?_⟩
        · show (do let a ← cellOf env n; pure (ForInStep.yield ((n, a) :: cs)) : Sem _) >>= _ = _
          have : cellOf env n = pure a := by unfold cellOf; rw [ha']
          rw [this]
          exact e
        · rw [List.lookup_cons]; split <;> first | rfl | exact hn'
        · rcases List.mem_cons.mp hx with rfl | hx
          · exact h2 n (by rw [List.lookup_cons, beq_self_eq_true]; rfl)
          · exact h3 x hx hxf
      · obtain ⟨cl, e, h1, h2, h3⟩ := ih cs (fun x hx => hf x (List.mem_cons_of_mem _ hx)) hcs
        refine ⟨cl, ?_, h1, h2, fun x hx hxf => ?_⟩
        · have : (k == NameKind.free) = false := by simpa using hk
          simp only [this]
          exact e
        · rcases List.mem_cons.mp hx with rfl | hx
          · exact absurd hxf hk
          · exact h3 x hx hxf
  obtain ⟨cl, e, h1, _, h3⟩ := go scope.names [] h (fun n k e => by cases e)
  refine ⟨cl, ?_, h1, h3⟩
  show ((forIn scope.names [] fun p r => (if (p.2 == NameKind.free) = true then do let a ← cellOf env p.1; pure (ForInStep.yield ((p.1, a) :: r)) else pure (ForInStep.yield r) : Sem _)) >>= fun cs => pure cs) = pure cl
  rw [e]
  rfl
end
end Mine
end
section
open PySem PySem.W PySem.Calls PyProof.Rows PySem.MeetsSeq PySem.MeetsSeq2 PySem.MeetsSeq3
set_option linter.unusedVariables false
namespace Mine
section
variable {c : Cx} {sc : Sc} {d : Nat} {ρ : Vars} {σ : St} {Q : Post} {R : Fl → Vars → St → Prop} {A : Around} {env : Env} {s s₁ : Shared} {θ θ₁ : List Addr} {x y : Str} {G : List V → (St → Prop) → St → Prop} {target : Expr}
noncomputable def relabelS (scope : Scope) (sc : Sc) : Scope :=
  { scope with names := scope.names.map fun (n, k) => if (k == .free && sc.scope.kind == .function && sc.scope.names.lookup n == some .cell) then (n, .cell) else (n, k) }
theorem relabel_eq (X : EnvIs sc env) (scope : Scope) : relabel scope env = relabelS scope sc := by
  unfold relabel relabelS
  congr 1
  refine List.map_congr_left fun p _ => ?_
  obtain ⟨n, k⟩ := p
  show (if (k == NameKind.free && env.scope.kind == .function && env.kindOf n == some .cell) = true then (n, NameKind.cell) else (n, k)) = _
  rw [X.kindOf, X.scope]
noncomputable def compSc (scope : Scope) (sc : Sc) : Sc := ⟨relabelS scope sc, sc.code⟩
theorem relabel_cell {sc : Sc} : ∀ {names : List (Str × NameKind)} {x : Str}, (∀ y ∈ names, y.2 ≠ .cell) → (names.map fun (n, k) => if (k == NameKind.free && sc.scope.kind == .function && sc.scope.names.lookup n == some .cell) then (n, NameKind.cell) else (n, k)).lookup x = some .cell → (x, .free) ∈ names
  | [], _, _, h => by cases h
  | (n, k) :: r, x, hc, h => by
    rw [List.map_cons, List.lookup_cons] at h
    by_cases hn : x = n
    · subst hn
      by_cases hf : k = .free
      · subst hf; exact List.mem_cons_self
      · have h1 : ((k == NameKind.free) = false) := by simpa using hf
        simp only [h1, Bool.false_and, Bool.false_eq_true, if_false, beq_self_eq_true] at h
        exact absurd (Option.some.inj h) (hc (x, k) List.mem_cons_self)
    · have key : ∀ kk : NameKind, ((x == ((n, kk) : Str × NameKind).1)) = false := fun kk => by simpa using hn
      have : (x == (if (k == NameKind.free && sc.scope.kind == .function && sc.scope.names.lookup n == some .cell) = true then (n, NameKind.cell) else (n, k)).1) = false := by split <;> exact key _
      rw [this] at h
      exact List.mem_cons_of_mem _ (relabel_cell (fun y hy => hc y (List.mem_cons_of_mem _ hy)) h)
noncomputable def TS (c : Cx) (sc : Sc) (d : Nat) (ts : List Expr) (ρ : Vars) (σ : St) (B : Bool → St → Prop) : Prop := match ts with
  | [] => B true σ
  | t :: _ => ts = [t] ∧ ET c sc d t ρ σ B
theorem forIn_ts {ts : List Expr} {B : Bool → St → Prop} (h : TS c sc d ts ρ σ B) (r : Room A d) (X : EnvIs sc env) (I : Inv c s θ σ) (F : FrA c s.heap θ env ρ) :
    wpAny (model c.prog c.w) A (forIn ts true fun c r => if r = true then do let ok ← isTrue c env (eval c env); pure (ForInStep.yield ok) else pure (ForInStep.yield r)) (OkB c s θ B) NoE s := by
  cases ts with
  | nil =>
    rw [List.forIn_nil]
    exact wpAny_pure ⟨σ, θ, I, Grow.refl _ _, h⟩
  | cons t ts =>
    obtain ⟨e, h⟩ := h
    rw [e, List.forIn_cons, if_pos rfl]
    refine wpAny_bind (wpAny_bind (wpAny_mono (h A env s θ r X I F) (fun b s' q => wpAny_pure ?_) fun _ _ x => x))
    dsimp only
    rw [List.forIn_nil]
    exact wpAny_pure q
noncomputable def COMPS (c : Cx) (sc : Sc) (d : Nat) (elt : Expr) (ts : List Expr) (x : Str) (K : St → Prop) (n : Nat) (T : List V → St → Prop) : List V → List V → Vars → St → Prop
  | [], acc, _, σ => σ[n]? = some (.list acc) ∧ T acc σ
  | v :: r, acc, ρ, σ => TS c sc d ts (put ρ x v) σ fun b σ₁ => match b with
    | true => EV c sc d elt (put ρ x v) σ₁ fun u σ₂ => σ₂[n]? = some (.list acc) ∧ acc.length ≤ 9000 ∧ K (σ₂.set n (.list (acc ++ [u]))) ∧ COMPS c sc d elt ts x K n T r (acc ++ [u]) (put ρ x v) (σ₂.set n (.list (acc ++ [u])))
    | false => K σ₁ ∧ COMPS c sc d elt ts x K n T r acc (put ρ x v) σ₁
theorem get_mem {α : Type} : ∀ {l : List (Str × α)} {x : Str} {v : α}, get l x = some v → (x, v) ∈ l
  | [], _, _, h => by cases h
  | (y, u) :: r, x, v, h => by
    unfold get at h
    split at h
    · rename_i e; subst e; cases h; exact List.mem_cons_self
    · exact List.mem_cons_of_mem _ (get_mem h)
theorem comp_ok {elt iter : Expr} {ts : List Expr} {px : Pos} {scope : Scope} {pos pos' : Pos} {use : Option (Value → Sem Unit)} {P : Value → Shared → Prop} {ρc : Vars} {T : Nat → List V → St → Prop}
    (r : Room A d) (X : EnvIs sc env) (I : Inv c s θ σ) (F : FrA c s.heap θ env ρ)
    (hkind : scope.kind = .function) (hcell : ∀ y ∈ scope.names, y.2 ≠ .cell) (hfree : ∀ y ∈ scope.names, y.2 = .free → sc.scope.names.lookup y.1 = some .cell)
    (hnames : ∀ y ∈ scope.names, y.2 = .local → scope.names.lookup y.1 = some .local) (hx : (compSc scope sc).scope.names.lookup x = some .local)
    (hρ : ∀ p ∈ ρc, get ρ p.1 = some p.2 ∧ (p.1, .free) ∈ scope.names ∧ (compSc scope sc).scope.names.lookup p.1 = some .cell)
    (h : ITX c sc d (.Name x px) iter ρ σ fun l K σ₂ => K (σ₂ ++ [.list []]) ∧ COMPS c (compSc scope sc) d elt ts x K σ₂.length (T σ₂.length) l [] ρc (σ₂ ++ [.list []]))
    (fin : ∀ (C D : Addr) (n : Nat) (vs : List V) (σ' : St) (θ' : List Addr) (s' : Shared), Inv c s' θ' σ' → FrA c s'.heap θ' env ρ → Grow s.heap θ s'.heap θ' → s.heap.get? C = none → C ∉ θ' → c.hb.get? C = none → ¬ own env C → (∃ m, s'.heap.Ns C m) → θ'[n]? = some D → σ'[n]? = some (SO.list vs) → T n vs σ' → compPost (model c.prog c.w) A NoE use P (.ref D) C (.ok .next) s')
    (hs : ∀ env x, foldedSetIterable iter env x = pure x) :
    wpAny (model c.prog c.w) A (comprehension (.ListComp elt [⟨.Name x px, iter, ts, 0⟩] scope pos) scope env pos' (newList []) false (eval iter env) use) P NoE s := by
  obtain ⟨cl, hcl, hcl1, hcl2⟩ := closureFor_ok scope env fun y hy hf => X.cells _ (hfree y hy hf)
  refine wpAny_comprehension_free rfl (hs env) hcl hkind hnames (wpAny_mono (h A env s θ r X I F) (fun xv s₁ h₁ => wpAny_mono h₁ (fun it s₂ h₂ => ?_) fun _ _ x => x) fun _ _ x => x)
  obtain ⟨l, K, σ₂, θ₂, I₂, g₂, ⟨Ja, fp, wr, PP, Md, S, rfl, W, hS, hwr, hfp, hit, hex, hself, hP⟩, hK, hK', hL⟩ := h₂
  have F₂ := F.grow I.tupOut g₂
  refine wpAny_newObj_type ?_ (by show ([] : List Value).toArray.size ≤ sizeLine; rw [sizeLine_eq]; decide)
  -- the list that grows
  have L₃ := I₂.list (Q := fun v σ' => v = .loc σ₂.length ∧ σ' = σ₂ ++ [.list []]) (t := s₂.toks) RepVs.nil ⟨rfl, rfl⟩
  obtain ⟨v₃, σ₃, θ₃, I₃, g₃, rD, rfl, rfl⟩ := L₃
  obtain ⟨D, hD, eD⟩ := rD.ofLoc
  have hD' : s₂.heap.objs.size = D := by injection hD
  rw [hD']
  refine wpAny_newFunctionEnv hcell (by intro y hy; simp at hy) (fun h₁ hns₁ hsb₁ => ?_) hkind
  dsimp only at hns₁ hsb₁ I₃ g₃ ⊢
  have F₃ := F₂.grow I₂.tupOut g₃
  generalize hH : s₂.heap.push { cls := .type "list", dict := none, data := .seq ([] : List Value).toArray } = H at *
  have C0 : H.objs.size = H.objs.size := rfl
  generalize hC : H.objs.size = C at *
  have keep₁ : ∀ b o, H.get? b = some o → h₁.get? b = some o := fun b o e => hsb₁.extBut b o (by rw [← hC]; exact Nat.ne_of_lt (Heap.lt_size e)) (Heap.get?_push_of_some _ e)
  generalize hs₄ : ({ heap := h₁, gens := s₂.gens, drawn := s₂.drawn, toks := s₂.toks + ([] : List (Str × Value)).length, os := s₂.os } : Shared) = s₄
  have e₄ : s₄.heap = h₁ := by rw [← hs₄]
  have I₄ : Inv c s₄ θ₃ (σ₂ ++ [.list []]) := by rw [← hs₄]; exact I₃.keeps keep₁
  have g₄ : Grow H θ₃ s₄.heap θ₃ := by rw [e₄]; exact grow_keeps keep₁
  have F₄ : FrA c s₄.heap θ₃ env ρ := F₃.grow I₃.tupOut g₄
  have Cnew : ∀ b, own env b → b ≠ C := fun b ob e => by
    have := F₃.lt ob; rw [e, ← hC] at this; exact Nat.lt_irrefl _ this
  have Cθ : C ∉ θ₃ ∧ c.hb.get? C = none := I₃.new (by show H.objs.size ≤ C; rw [hC]; exact Nat.le_refl _)
  have Cs2 : s₂.heap.get? C = none := by
    cases e : s₂.heap.get? C with
    | none => rfl
    | some o => exact absurd (Heap.lt_size e) (by rw [← hC, ← hH, Heap.size_push]; exact Nat.not_lt.mpr (Nat.le_succ _))
  have Cs : s.heap.get? C = none := by
    cases e : s.heap.get? C with
    | none => rfl
    | some o =>
      by_cases m : C ∈ θ
      · exact absurd (g₃.mem (g₂.mem m)) Cθ.1
      · have q := g₂.kept C o e m; rw [Cs2] at q; cases q
  have hlo : ∀ b ∈ wr, b ≠ C := fun b hb e => by
    obtain ⟨o, _, e', _⟩ := hit 0 _ b hS hb; rw [e, Cs2] at e'; cases e'
  let cenv : Env := { scope := relabel scope env, locals := C, globals := env.globals, cells := cl, qual := env.qual, func := none, code := env.code, frame := env.frame, builtins := env.builtins }
  have Xc : EnvIs (compSc scope sc) cenv := ⟨relabel_eq X scope, X.globals, X.builtins, X.code, hkind, fun y hy => hcl2 _ (relabel_cell hcell hy) rfl⟩
  have Fc : FrA c s₄.heap θ₃ cenv ρc := by
    obtain ⟨m, cm, hm, hc, hr⟩ := F₄.at_
    refine ⟨⟨_, cm, by rw [e₄]; exact hns₁, fun n k e => hc n k (hcl1 n k e), fun y v hy => ?_⟩, Cθ.1, Cθ.2, fun n k e => ?_, fun n n' k e e' => F₄.apart n n' k (hcl1 _ _ e) (hcl1 _ _ e')⟩
    · obtain ⟨h1, h2, h3⟩ := hρ _ (get_mem hy)
      obtain ⟨v', a, b⟩ := hr y v h1
      refine ⟨v', a, .inr ⟨.inl ?_, hcl2 _ h2 rfl, ?_⟩⟩
      · show Env.kindOf cenv y = _
        rw [Xc.kindOf]; exact h3
      · rcases b with ⟨b1, _⟩ | b
        · rw [X.kindOf] at b1
          rw [hfree _ h2 rfl] at b1; cases b1
        · exact b.2.2
    · have q := F₄.cells n k (hcl1 _ _ e)
      exact ⟨Cnew k (.inr ⟨n, hcl1 _ _ e⟩), q.2⟩
  have hS₄ : S 0 s₄.heap := W.frame _ _ _ hS fun b hb o e => by
    rw [e₄]; refine keep₁ b o ?_; rw [← hH]; exact Heap.get?_push_of_some _ e
  let XC : Addr → Prop := fun b => b = C ∨ b ∈ wr
  have loop : codeAny (model c.prog c.w) A (.compLoop (.ListComp elt [⟨.Name x px, iter, ts, 0⟩] scope pos) 0 (.ref Ja) (.ref D) cenv) (compPost (model c.prog c.w) A NoE use P (.ref D) C) s₄ := by
    refine codeAny_compLoop_tests
      (fun k s' => ∃ i ρ' σ' θ' acc, k = l.length + 1 - i ∧ i ≤ l.length ∧ S i s'.heap ∧ Inv c s' θ' σ' ∧ FrA c s'.heap θ' cenv ρ' ∧ FrA c s'.heap θ' env ρ ∧ GrowX XC s₄.heap θ₃ s'.heap θ' ∧ (∀ b ∈ wr, b ∉ θ') ∧ K σ' ∧ COMPS c (compSc scope sc) d elt ts x K σ₂.length (T σ₂.length) (l.drop i) acc ρ' σ')
      ?_ (l.length + 1) ⟨0, ρc, _, θ₃, [], rfl, Nat.zero_le _, hS₄, I₄, Fc, F₄, GrowX.refl .., fun b hb m => ?_, hK', by rw [List.drop_zero]; exact hL⟩
    · rintro k s' ⟨i, ρ', σ', θ', acc, rfl, hi, hS', I', F', Fo', g', hwθ, hK', hL'⟩
      have offC : ∀ {t : Shared} {τ : List Addr} {ρ₀ : Vars}, FrA c t.heap τ cenv ρ₀ → Off t.heap C := fun f => by obtain ⟨m, _, hm, _⟩ := f.at_; exact .ns hm
      have exX : ∀ {t : Shared} {τ : List Addr} {ρ₀ : Vars} {j : Nat}, S j t.heap → FrA c t.heap τ cenv ρ₀ → (∀ b ∈ wr, b ∉ τ) → ∀ x, XC x → ∃ o, t.heap.get? x = some o ∧ x ∉ τ := fun hs f hw x hx => by
        rcases hx with rfl | hx
        · exact f.ownX _ (.inl rfl)
        · obtain ⟨o, _, e, _⟩ := hit _ _ x hs hx; exact ⟨o, e, hw x hx⟩
      have turned : ∀ {h₁ : Heap} {t : Nat}, (∀ b o, b ∉ wr → s'.heap.get? b = some o → h₁.get? b = some o) → Inv c { s' with heap := h₁, toks := t } θ' σ' ∧ FrA c h₁ θ' cenv ρ' ∧ FrA c h₁ θ' env ρ ∧ GrowX XC s'.heap θ' h₁ θ' := fun {h₁ t} hk => by
        refine ⟨I'.but (W := fun b => b ∈ wr) (fun b hb => ⟨(hit i _ b hS' hb).off, hwθ b hb, (hwr b hb).2.2⟩) hk, F'.but (W := fun b => b ∈ wr) (fun b hb => ⟨(hit i _ b hS' hb).off, ?_⟩) hk, Fo'.but (W := fun b => b ∈ wr) (fun b hb => ⟨(hit i _ b hS' hb).off, (hfp b (W.sub b hb)).1⟩) hk,
          ⟨⟨[], (List.append_nil _).symm⟩, fun _ m n => (n m).elim, fun b o e _ nx => hk b o (fun z => nx (.inr z)) e⟩⟩
        rintro (e | ⟨n, e⟩)
        · exact hlo b hb e
        · exact (hfp b (W.sub b hb)).1 (.inr ⟨n, hcl1 _ _ e⟩)
      by_cases hlt : i < l.length
      · refine W.item i _ _ _ hlt hS' fun v h₁ tk₁ hMd hk₁ => ?_
        show wpAny _ A (letOwnedTupleGo (.Name x px) (.ref Ja) v >>= fun _ => assign (.Name x px) cenv v) _ _ _
        refine wpAny_bind (W.go i v _ _ _ hMd fun h₂ hPi hS₂ hk₂ => ?_)
        obtain ⟨J₂, G₂, Go₂, e₂⟩ := turned (t := tk₁) (fun b o hb x => hk₂ b o hb (hk₁ b o hb x))
        obtain ⟨xv, hxv, hv⟩ := hP i v h₂ hPi
        have hd : l.drop i = xv :: l.drop (i + 1) := by
          rw [List.drop_eq_getElem_cons hlt]; congr 1
          exact Option.some.inj ((List.getElem?_eq_getElem hlt).symm.trans hxv)
        rw [hd] at hL'
        have hv' : RepV h₂ θ' xv v := by
          rcases hv with q | ⟨_, _, _, ⟨_, _, _, e⟩, _⟩
          · have q4 : RepV s₄.heap θ₃ xv v := (q.grow I₂.tupOut g₃).grow I₃.tupOut g₄
            refine q4.growX I₄.tupOut (GrowX.trans (exX hS' F' hwθ) g' e₂) ?_
            rintro b (rfl | hb)
            · exact offC Fc
            · exact (hit 0 _ b hS₄ hb).off
          · cases e
        have core : wpAny (model c.prog c.w) A (assign (.Name x px) cenv v) (fun _ s₂ => wpAny (model c.prog c.w) A (forIn ts true fun c r => if r = true then do let ok ← isTrue c cenv (eval c cenv); pure (ForInStep.yield ok) else pure (ForInStep.yield r)) (fun ok s₃ => if ok = true then wpAny (model c.prog c.w) A (eval elt cenv) (fun y s₄' => wpAny (model c.prog c.w) A (call (.builtin "list.append") [.ref D, y]) (fun _ s₅ => ∃ m, m < l.length + 1 - i ∧ ∃ i ρ' σ' θ' acc, m = l.length + 1 - i ∧ i ≤ l.length ∧ S i s₅.heap ∧ Inv c s₅ θ' σ' ∧ FrA c s₅.heap θ' cenv ρ' ∧ FrA c s₅.heap θ' env ρ ∧ GrowX XC s₄.heap θ₃ s₅.heap θ' ∧ (∀ b ∈ wr, b ∉ θ') ∧ K σ' ∧ COMPS c (compSc scope sc) d elt ts x K σ₂.length (T σ₂.length) (l.drop i) acc ρ' σ') NoE s₄') NoE s₃ else (fun s₅ => ∃ m, m < l.length + 1 - i ∧ ∃ i ρ' σ' θ' acc, m = l.length + 1 - i ∧ i ≤ l.length ∧ S i s₅.heap ∧ Inv c s₅ θ' σ' ∧ FrA c s₅.heap θ' cenv ρ' ∧ FrA c s₅.heap θ' env ρ ∧ GrowX XC s₄.heap θ₃ s₅.heap θ' ∧ (∀ b ∈ wr, b ∉ θ') ∧ K σ' ∧ COMPS c (compSc scope sc) d elt ts x K σ₂.length (T σ₂.length) (l.drop i) acc ρ' σ') s₃) NoE s₂) NoE { s' with heap := h₂, toks := tk₁ } := by
          refine wpAny_assign_Name (storeLocal_ok Xc J₂ G₂ hx hv' fun s₅ I₅ F₅ g₅ => ?_)
          have Fo₅ : FrA c s₅.heap θ' env ρ := Go₂.growX J₂.tupOut g₅ fun b z => by subst z; exact ⟨offC (t := { s' with heap := h₂, toks := tk₁ }) G₂, fun ob => Cnew _ ob rfl⟩
          have close : ∀ (s₇ : Shared) (σ₇ : St) (θ₇ : List Addr) (acc' : List V), Inv c s₇ θ₇ σ₇ → Grow s₅.heap θ' s₇.heap θ₇ → K σ₇ → COMPS c (compSc scope sc) d elt ts x K σ₂.length (T σ₂.length) (l.drop (i + 1)) acc' (put ρ' x xv) σ₇ → (fun s₅ => ∃ m, m < l.length + 1 - i ∧ ∃ i ρ' σ' θ' acc, m = l.length + 1 - i ∧ i ≤ l.length ∧ S i s₅.heap ∧ Inv c s₅ θ' σ' ∧ FrA c s₅.heap θ' cenv ρ' ∧ FrA c s₅.heap θ' env ρ ∧ GrowX XC s₄.heap θ₃ s₅.heap θ' ∧ (∀ b ∈ wr, b ∉ θ') ∧ K σ' ∧ COMPS c (compSc scope sc) d elt ts x K σ₂.length (T σ₂.length) (l.drop i) acc ρ' σ') s₇ := by
            intro s₇ σ₇ θ₇ acc' I₇ g67 hK7 q₇
            have F₇ := F₅.grow I₅.tupOut g67
            have Fo₇ := Fo₅.grow I₅.tupOut g67
            have g57 : GrowX XC h₂ θ' s₇.heap θ₇ := GrowX.trans (fun x hx => by
              rcases hx with rfl | hx
              · exact F₅.ownX _ (.inl rfl)
              · obtain ⟨o, _, e, _⟩ := hit _ _ x hS₂ hx
                exact ⟨o, g₅.kept _ _ e (hwθ x hx) (hlo x hx), hwθ x hx⟩) (g₅.weaken fun b z => .inl z) g67.x
            have all : GrowX XC s₄.heap θ₃ s₇.heap θ₇ := GrowX.trans (exX (t := { s' with heap := h₂, toks := tk₁ }) hS₂ G₂ hwθ) (GrowX.trans (exX hS' F' hwθ) g' e₂) g57
            have hwθ₇ : ∀ b ∈ wr, b ∉ θ₇ := fun b hb => by obtain ⟨o, _, e, _⟩ := hit _ _ b hS₂ hb; exact g57.notMem e (hwθ b hb)
            refine ⟨l.length + 1 - (i + 1), by omega, i + 1, _, _, θ₇, _, rfl, hlt, ?_, I₇, F₇, Fo₇, all, hwθ₇, hK7, q₇⟩
            refine W.frame _ _ _ hS₂ fun b hb o e => ?_
            have bC : b ≠ C := by
              rintro rfl
              obtain ⟨o2, e2⟩ := hex 0 _ _ hS hb
              rw [Cs2] at e2; cases e2
            rcases (hfp b hb).2 with hn | ⟨n, xs, kk, l', e1, e2⟩
            · have hn3 : b ∉ θ' := by
                obtain ⟨o2, e2⟩ := hex 0 _ b hS hb
                have : b ∉ θ₃ := g₃.notMem e2 hn
                obtain ⟨o4, e4⟩ := hex 0 _ b hS₄ hb
                exact g'.notMem e4 this
              refine g67.kept b o (g₅.kept b o e hn3 bC) hn3
            · have a3 : θ₃[n]? = some b := g₃.at e1
              have a1 : θ'[n]? = some b := by obtain ⟨t, e'⟩ := g'.pre; rw [e', List.getElem?_append_left (List.getElem?_eq_some_iff.mp a3).1]; exact a3
              have a2 : θ₇[n]? = some b := by obtain ⟨t, e'⟩ := all.pre; rw [e', List.getElem?_append_left (List.getElem?_eq_some_iff.mp a3).1]; exact a3
              have b1 : IsL h₂ b xs.toArray kk := (J₂.rep.obj n _ b (e2 _ hK') a1).1
              have b2 : IsL s₇.heap b xs.toArray kk := (I₇.rep.obj n _ b (e2 _ hK7) a2).1
              have : o = _ := Option.some.inj (e.symm.trans b1)
              rw [this]; exact b2
          refine wpAny_mono (forIn_ts hL' r Xc I₅ F₅) (fun ok s₆ h₆ => ?_) fun _ _ x => x
          obtain ⟨σ₆, θ₆, I₆, g₆, q₆⟩ := h₆
          cases ok with
          | false =>
            obtain ⟨hK6, q₆⟩ := q₆
            exact close s₆ σ₆ θ₆ acc I₆ g₆ hK6 q₆
          | true =>
            show wpAny _ _ _ _ _ _
            refine wpAny_mono (q₆ A cenv s₆ θ₆ r Xc I₆ (F₅.grow I₅.tupOut g₆)) (fun y s₈ h₈ => ?_) fun _ _ x => x
            obtain ⟨u, σ₈, θ₈, I₈, g₈, ru, hn8, hsz8, hK8, q₈⟩ := h₈
            have eD8 : θ₈[σ₂.length]? = some D := (g₆.trans g₈).at (by obtain ⟨t, e'⟩ := g'.pre; rw [e', List.getElem?_append_left (List.getElem?_eq_some_iff.mp eD).1]; exact eD)
            refine wpAny_mono (CALL_append (c := c) (d := d) (Q := fun v σ' => σ' = σ₈.set σ₂.length (.list (acc ++ [u]))) hn8 (by omega) rfl A s₈ θ₈ _ [.ref D, y] r I₈ (.raw _) (.cons (.loc _ _ eD8) (.cons ru .nil))) (fun _ s₇ h₇ => ?_) fun _ _ x => x
            obtain ⟨_, σ₇, θ₇, I₇, g₇, _, rfl⟩ := h₇
            exact close s₇ _ θ₇ _ I₇ ((g₆.trans g₈).trans g₇) hK8 q₈
        refine wpAny_mono core (fun _ s₂ h₂ => ?_) fun _ _ x => x.elim
        refine wpAny_mono h₂ (fun ok s₃ h₃ => ?_) fun _ _ x => x.elim
        cases ok with
        | false => exact h₃
        | true => exact wpAny_mono h₃ (fun _ s₃ h₃ => wpAny_mono h₃ (fun _ _ x => x) fun _ _ x => x.elim) fun _ _ x => x.elim
      · have hin : i = l.length := by omega
        subst hin
        refine W.done _ _ _ hS' fun h₁ tk₁ hk₁ => ?_
        obtain ⟨J₁, G₁, Go₁, e₁⟩ := turned (t := tk₁) hk₁
        rw [List.drop_length] at hL'
        obtain ⟨hn, hT⟩ := hL'
        have all : GrowX XC s₄.heap θ₃ h₁ θ' := GrowX.trans (exX hS' F' hwθ) g' e₁
        refine fin C D σ₂.length acc σ' θ' _ J₁ Go₁ ?_ Cs G₁.lo Cθ.2 (fun ob => Cnew _ ob rfl) (by obtain ⟨m, _, hm, _⟩ := G₁.at_; exact ⟨m, hm⟩) ?_ hn hT
        · have g24 : Grow s.heap θ s₄.heap θ₃ := (g₂.trans g₃).trans g₄
          refine ⟨?_, fun a m n => ?_, fun b o e n => ?_⟩
          · obtain ⟨t, e⟩ := g24.pre; obtain ⟨u, e'⟩ := all.pre; exact ⟨t ++ u, by rw [e', e, List.append_assoc]⟩
          · by_cases h2 : a ∈ θ₃
            · exact g24.fresh a h2 n
            · cases e : s.heap.get? a with
              | none => rfl
              | some o => have := all.fresh a m h2; rw [g24.kept a o e n] at this; cases this
          · refine all.kept b o (g24.kept b o e n) (g24.notMem e n) ?_
            rintro (z | z)
            · rw [z, Cs] at e; cases e
            · rw [(hwr b z).1] at e; cases e
        · obtain ⟨t, e'⟩ := g'.pre; rw [e', List.getElem?_append_left (List.getElem?_eq_some_iff.mp eD).1]; exact eD
    · obtain ⟨o, _, e, _⟩ := hit 0 _ b hS hb
      exact g₃.notMem e (hwr b hb).2.1 m
  exact codeAny_compStart_list loop (hself 0 _ _ _ hS₄ loop)
end
end Mine
end
section
open PySem PySem.W PySem.Calls PyProof.Rows PySem.MeetsSeq PySem.MeetsSeq2 PySem.MeetsSeq3
set_option linter.unusedVariables false
namespace Mine
mutual
noncomputable def clV (n : Nat) : V → Bool
  | .loc k => decide (k < n)
  | .tup l => clVs n l
  | .lst l => clVs n l
  | _ => true
noncomputable def clVs (n : Nat) : List V → Bool
  | [] => true
  | v :: r => clV n v && clVs n r
end
noncomputable def clO (n : Nat) : SO → Bool
  | .list l => clVs n l
  | .fz _ _ l => clVs n l
  | .dictS es => clVs n (es.map (·.2))
  | .dictI es => clVs n (es.map (·.2))
  | .attrs es => clVs n (es.map (·.2))
  | .inst _ d => decide (d < n)
  | .fn _ => true
  | .meth _ m => decide (m < n)
  | .rng _ => true
  | .tab _ _ => true
section
variable {c : Cx} {sc : Sc} {d : Nat} {ρ : Vars} {σ : St} {Q : Post} {R : Fl → Vars → St → Prop} {A : Around} {env : Env} {s s₁ : Shared} {θ θ₁ : List Addr} {x y : Str} {target : Expr}
theorem RepV.cl {h : Heap} {v : V} {x : Value} (r : RepV h θ v x) : clV θ.length v = true :=
  RepV.rec (motive_1 := fun v _ _ => clV θ.length v = true) (motive_2 := fun l _ _ => clVs θ.length l = true) rfl (fun _ => rfl) (fun _ _ => rfl) (fun _ _ => rfl) (fun _ => rfl) (fun n a e => decide_eq_true (List.getElem?_eq_some_iff.mp e).1)
    (fun _ _ _ _ _ ih => ih) (fun _ _ _ _ _ _ _ ih => ih) rfl (fun _ _ a b => by unfold clVs; rw [a, b]; rfl) r
theorem RepVs.cl {h : Heap} {l : List V} {xs : List Value} (r : RepVs h θ l xs) : clVs θ.length l = true := r.ind (M := fun l _ => clVs θ.length l = true) rfl fun a _ ih => by unfold clVs; rw [a.cl, ih]; rfl
theorem clVs2 {n : Nat} {v : V} {l : List V} (h : clVs n (v :: l) = true) : clV n v = true ∧ clVs n l = true := by unfold clVs at h; exact Bool.and_eq_true_iff.mp h
theorem RepV.shrink {h : Heap} {t : List Addr} {v : V} {x : Value} (r : RepV h (θ ++ t) v x) : clV θ.length v = true → RepV h θ v x :=
  RepV.rec (motive_1 := fun v x _ => clV θ.length v = true → RepV h θ v x) (motive_2 := fun l xs _ => clVs θ.length l = true → RepVs h θ l xs) (fun _ => .none) (fun b _ => .bool b) (fun i u _ => .int i u) (fun x u _ => .str x u) (fun v _ => .raw v)
    (fun n a e hc => .loc n a (by rw [← e]; exact (List.getElem?_append_left (of_decide_eq_true hc)).symm)) (fun l a xs ht _ ih hc => .tup l a xs ht (ih hc)) (fun l a xs n nm hl _ ih hc => .lst l a xs n (fun m => nm (List.mem_append.mpr (.inl m))) hl (ih hc))
    (fun _ => .nil) (fun _ _ a b hc => .cons (a (clVs2 hc).1) (b (clVs2 hc).2)) r
theorem RepVs.shrink {h : Heap} {t : List Addr} {l : List V} {xs : List Value} (r : RepVs h (θ ++ t) l xs) : clVs θ.length l = true → RepVs h θ l xs :=
  r.ind (M := fun l xs => clVs θ.length l = true → RepVs h θ l xs) (fun _ => .nil) fun a _ ih hc => .cons (a.shrink (clVs2 hc).1) (ih (clVs2 hc).2)
theorem RepKs.cl {K : Type} {h : Heap} {l : List (K × V)} {xs : List (K × Value)} (r : RepKs h θ l xs) : clVs θ.length (l.map (·.2)) = true := by
  induction r with
  | nil => rfl
  | cons a _ ih => rw [List.map_cons]; unfold clVs; rw [ih, a.cl]; rfl
theorem RepAs.cl {h : Heap} {l : List (Str × V)} {xs : List DictEntry} (r : RepAs h θ l xs) : clVs θ.length (l.map (·.2)) = true := by
  induction r with
  | nil => rfl
  | cons _ a _ ih => rw [List.map_cons]; unfold clVs; rw [ih, a.cl]; rfl
theorem RepKs.shrink {K : Type} {h : Heap} {t : List Addr} {l : List (K × V)} {xs : List (K × Value)} (r : RepKs h (θ ++ t) l xs) (hc : clVs θ.length (l.map (·.2)) = true) : RepKs h θ l xs := by
  induction r with
  | nil => exact .nil
  | cons a _ ih =>
    rw [List.map_cons] at hc; unfold clVs at hc
    obtain ⟨h1, h2⟩ := Bool.and_eq_true_iff.mp hc
    exact .cons (a.shrink h1) (ih h2)
theorem RepAs.shrink {h : Heap} {t : List Addr} {l : List (Str × V)} {xs : List DictEntry} (r : RepAs h (θ ++ t) l xs) (hc : clVs θ.length (l.map (·.2)) = true) : RepAs h θ l xs := by
  induction r with
  | nil => exact .nil
  | cons e a _ ih =>
    rw [List.map_cons] at hc; unfold clVs at hc
    obtain ⟨h1, h2⟩ := Bool.and_eq_true_iff.mp hc
    exact .cons e (a.shrink h1) (ih h2)
theorem RepO.cl {prog : Program} {w : World} {h : Heap} {a : Addr} {o : SO} (r : RepO prog w h θ a o) : clO θ.length o = true := by
  cases o with
  | list l => obtain ⟨_, _, _, q⟩ := r; exact q.cl
  | fz xs n l => obtain ⟨_, q⟩ := r; exact q.cl
  | dictS es => obtain ⟨_, _, q⟩ := r; exact q.cl
  | dictI es => obtain ⟨_, _, q⟩ := r; exact q.cl
  | attrs es => obtain ⟨_, _, _, q⟩ := r; exact q.cl
  | inst C d => obtain ⟨_, e, _⟩ := r; exact decide_eq_true (List.getElem?_eq_some_iff.mp e).1
  | fn P => rfl
  | meth f n => obtain ⟨_, e, _⟩ := r; exact decide_eq_true (List.getElem?_eq_some_iff.mp e).1
  | rng n => rfl
  | tab P ps => rfl
theorem RepO.shrink {prog : Program} {w : World} {h : Heap} {a : Addr} {o : SO} {t : List Addr} (r : RepO prog w h (θ ++ t) a o) (hc : clO θ.length o = true) : RepO prog w h θ a o := by
  cases o with
  | list l => obtain ⟨xs, n, e, q⟩ := r; exact ⟨xs, n, e, q.shrink hc⟩
  | fz xs n l => obtain ⟨e, q⟩ := r; exact ⟨e, q.shrink hc⟩
  | dictS es => obtain ⟨xs, e, q⟩ := r; exact ⟨xs, e, q.shrink hc⟩
  | dictI es => obtain ⟨xs, e, q⟩ := r; exact ⟨xs, e, q.shrink hc⟩
  | attrs es => obtain ⟨xs, n, e, q⟩ := r; exact ⟨xs, n, e, q.shrink hc⟩
  | inst C d => obtain ⟨dx, e, q⟩ := r; exact ⟨dx, by rw [← e]; exact (List.getElem?_append_left (of_decide_eq_true hc)).symm, q⟩
  | fn P => exact r
  | meth f n => obtain ⟨y, e, q⟩ := r; exact ⟨y, by rw [← e]; exact (List.getElem?_append_left (of_decide_eq_true hc)).symm, q⟩
  | rng n => exact r
  | tab P ps => exact r
theorem CALL_forget {f : V} {vs : List V} (h : CALL c d f vs σ fun v σ' => ∃ σ₁ g, σ' = σ₁ ++ g ∧ σ₁.length = σ.length ∧ (∀ (i : Nat) (o : SO), σ₁[i]? = some o → σ[i]? = some o ∨ clO σ.length o = true) ∧ clV σ.length v = true ∧ Q v σ₁) : CALL c d f vs σ Q := fun A s θ f' vs' r I rf rv => by
  refine wpAny_mono (h A s θ f' vs' r I rf rv) (fun v' s₁ h₁ => ?_) fun _ _ x => x
  obtain ⟨v, σ', θ', I', g, rv', σ₁, gg, rfl, hl, ho, hc, q⟩ := h₁
  obtain ⟨t, rfl⟩ := g.pre
  have hlen : σ.length = θ.length := I.rep.len.symm
  refine ⟨v, σ₁, θ, ⟨I'.keep, I.apart, I.nodup, ⟨by rw [hl, hlen], fun i o a e1 e2 => ?_⟩, I'.gens, I'.os⟩, ⟨⟨[], (List.append_nil _).symm⟩, fun _ m n => (n m).elim, g.kept⟩, rv'.shrink (by rw [← hlen]; exact hc), q⟩
  have e1' : (σ₁ ++ gg)[i]? = some o := by rw [List.getElem?_append_left (List.getElem?_eq_some_iff.mp e1).1]; exact e1
  have e2' : (θ ++ t)[i]? = some a := by rw [List.getElem?_append_left (List.getElem?_eq_some_iff.mp e2).1]; exact e2
  refine (I'.rep.obj i o a e1' e2').shrink ?_
  rcases ho i o e1 with e | e
  · exact (I.rep.obj i o a e e2).cl
  · rw [← hlen]; exact e
theorem EV_ListComp {elt iter : Expr} {ts : List Expr} {px : Pos} {scope : Scope} {pos : Pos} {ρc : Vars}
    (hkind : scope.kind = .function) (hcell : ∀ y ∈ scope.names, y.2 ≠ .cell) (hfree : ∀ y ∈ scope.names, y.2 = .free → sc.scope.names.lookup y.1 = some .cell)
    (hnames : ∀ y ∈ scope.names, y.2 = .local → scope.names.lookup y.1 = some .local) (hx : (compSc scope sc).scope.names.lookup x = some .local)
    (hρ : ∀ p ∈ ρc, get ρ p.1 = some p.2 ∧ (p.1, .free) ∈ scope.names ∧ (compSc scope sc).scope.names.lookup p.1 = some .cell)
    (h : ITX c sc d (.Name x px) iter ρ σ fun l K σ₂ => K (σ₂ ++ [.list []]) ∧ COMPS c (compSc scope sc) d elt ts x K σ₂.length (fun vs σ₃ => Q (.loc σ₂.length) σ₃) l [] ρc (σ₂ ++ [.list []]))
    (hs : ∀ env x, foldedSetIterable iter env x = pure x) : EV c sc d (.ListComp elt [⟨.Name x px, iter, ts, 0⟩] scope pos) ρ σ Q := fun A env s θ r X I F => by
  rw [eval_ListComp]
  refine comp_ok (use := none) (T := fun n vs σ' => Q (.loc n) σ') r X I F hkind hcell hfree hnames hx hρ h (fun C D n vs σ' θ' s' I' F' g' hC hCθ hCb hCo hm hn hσ q => ?_) hs
  obtain ⟨m, hm⟩ := hm
  refine ⟨m, hm, fun h' hs' => ?_⟩
  have hk : ∀ b o, ¬ b = C → s'.heap.get? b = some o → h'.get? b = some o := fun b o n e => hs'.extBut b o n e
  refine ⟨.loc n, σ', θ', I'.but (t := s'.toks) (W := (· = C)) (fun b e => by subst e; exact ⟨.ns hm, hCθ, hCb⟩) hk, ⟨g'.pre, g'.fresh, fun b o e n => hk b o (fun z => by rw [z, hC] at e; cases e) (g'.kept b o e n)⟩, .loc n D hn, q⟩
theorem EX_AssignComp {elt iter : Expr} {ts : List Expr} {px py : Pos} {scope : Scope} {pos spos : Pos} {ρc : Vars} (hky : kindOk sc y)
    (hkind : scope.kind = .function) (hcell : ∀ y ∈ scope.names, y.2 ≠ .cell) (hfree : ∀ y ∈ scope.names, y.2 = .free → sc.scope.names.lookup y.1 = some .cell)
    (hnames : ∀ y ∈ scope.names, y.2 = .local → scope.names.lookup y.1 = some .local) (hx : (compSc scope sc).scope.names.lookup x = some .local)
    (hρ : ∀ p ∈ ρc, get ρ p.1 = some p.2 ∧ (p.1, .free) ∈ scope.names ∧ (compSc scope sc).scope.names.lookup p.1 = some .cell)
    (h : ITX c sc d (.Name x px) iter ρ σ fun l K σ₂ => K (σ₂ ++ [.list []]) ∧ COMPS c (compSc scope sc) d elt ts x K σ₂.length (fun vs σ₃ => R .next (put ρ y (.loc σ₂.length)) σ₃) l [] ρc (σ₂ ++ [.list []]))
    (hsw : ∀ env : Env, env.scope = sc.scope → swapsWith (.ListComp elt [⟨.Name x px, iter, ts, 0⟩] scope pos) (some (.Name y py)) spos.line env = pure true)
    (hs : ∀ env x, foldedSetIterable iter env x = pure x) : EX c sc d (.Assign [.Name y py] (.ListComp elt [⟨.Name x px, iter, ts, 0⟩] scope pos) spos) ρ σ R := fun A env s θ r X I F => by
  rw [exec_Assign_Name_used _ _ _ _ (hsw env X.scope)]
  refine wpAny_bind (wpAny_standAt (wpAny_bind ?_))
  show wpAny _ A (do let _ ← comprehension (.ListComp elt [⟨.Name x px, iter, ts, 0⟩] scope pos) scope env _ (newList []) false (eval iter env) (some (assign (.Name y py) env))) _ _ s
  refine wpAny_bind (wpAny_mono (comp_ok (use := some (assign (.Name y py) env)) (P := fun _ s' => OkS c env s θ R .next s') (T := fun n vs σ' => R .next (put ρ y (.loc n)) σ') r X I F hkind hcell hfree hnames hx hρ h (fun C D n vs σ' θ' s' I' F' g' hC hCθ hCb hCo hm hn hσ q => ?_) hs) (fun _ s' hq => wpAny_pure (wpAny_pure hq)) fun _ _ e => e)
  obtain ⟨m, hm⟩ := hm
  show wpAny _ A (assign (.Name y py) env (.ref D)) _ _ _
  refine wpAny_assign_Name (storeName_ok X I' F' hky (.loc n D hn) fun s₂ I₂ F₂ g₂ hsame => ?_)
  have hm₂ : s₂.heap.Ns C m := hm.at' fun o e => (hsame C hCo).trans e
  refine ⟨m, hm₂, fun h' hs' => ?_⟩
  have hk : ∀ b o, ¬ b = C → s₂.heap.get? b = some o → h'.get? b = some o := fun b o n e => hs'.extBut b o n e
  have gg := GrowX.trans F'.ownX g'.x g₂
  refine ⟨.next, _, σ', θ', I₂.but (t := s₂.toks) (W := (· = C)) (fun b e => by subst e; exact ⟨.ns hm₂, hCθ, hCb⟩) hk, F₂.but (W := (· = C)) (fun b e => by subst e; exact ⟨.ns hm₂, hCo⟩) hk,
    ⟨gg.pre, gg.fresh, fun b o e n nx => hk b o (fun z => by rw [z, hC] at e; cases e) (gg.kept b o e n nx)⟩, .next, q⟩
end
end Mine
end
section
open PySem PySem.W PySem.Calls PyProof.Rows PySem.MeetsSeq PySem.MeetsSeq2 PySem.MeetsSeq3
set_option linter.unusedVariables false
set_option maxRecDepth 20000
namespace Mine
section
variable {c : Cx} {sc : Sc} {d : Nat} {ρ : Vars} {σ : St} {Q : Post} {R : Fl → Vars → St → Prop} {A : Around} {env : Env} {s s₁ : Shared} {θ θ₁ : List Addr} {x y : Str} {target : Expr}
noncomputable def EVP (c : Cx) (sc : Sc) (d : Nat) (e : Option Expr) (ρ : Vars) (σ : St) (B : Option Nat → St → Prop) : Prop :=
  match e with
  | none => B none σ
  | some e => EV c sc d e ρ σ fun v σ' => ∃ n : Nat, v = .int n ∧ B (some n) σ'
noncomputable def pickN (l : List V) : Option Nat → Option Nat → Option (List V)
  | some a, none => some (l.drop a)
  | none, some b => some (l.take b)
  | none, none => some l
  | some _, some _ => none
theorem pick_rep {h : Heap} {l l' : List V} {xs : List Value} (r : RepVs h θ l xs) : ∀ {lo hi : Option Nat}, pickN l lo hi = some l' → ∃ ys : List Value, slicePick xs.toArray (lo.map Int.ofNat) (hi.map Int.ofNat) none = ys.toArray ∧ RepVs h θ l' ys ∧ ys.length ≤ xs.length
  | some a, none, e => by
    cases e
    refine ⟨xs.drop a, ?_, r.drop a, by simp⟩
    have := slicePick_from' xs.toArray a
    simpa using this
  | none, some b, e => by
    cases e
    refine ⟨xs.take b, ?_, r.take b, by simp; omega⟩
    have := slicePick_upto' xs.toArray b
    simpa using this
  | none, none, e => by
    cases e
    exact ⟨xs, by simpa using slicePick_all xs.toArray, r, Nat.le_refl _⟩
noncomputable def PartIs (h : Heap) (v : Value) (o : Option Nat) : Prop := match o with | none => v = .none | some n => ∃ t, v = .int n t
theorem PartIs.isPart {h : Heap} {v : Value} : ∀ {o : Option Nat}, PartIs h v o → IsPart v (o.map Int.ofNat)
  | none, e => by cases e; exact .none
  | some n, ⟨t, e⟩ => by subst e; exact .int _ _
theorem EVP_ok {e : Option Expr} {B : Option Nat → St → Prop} (h : EVP c sc d e ρ σ B) (r : Room A d) (X : EnvIs sc env) (I : Inv c s θ σ) (F : FrA c s.heap θ env ρ) {P : Value → Shared → Prop}
    (k : ∀ v' s₁ σ₁ θ₁ o, Inv c s₁ θ₁ σ₁ → Grow s.heap θ s₁.heap θ₁ → PartIs s₁.heap v' o → B o σ₁ → P v' s₁) : wpAny (model c.prog c.w) A (evalPart e env) P NoE s := by
  cases e with
  | none => exact wpAny_evalPart_none (k _ s σ θ none I (Grow.refl ..) rfl h)
  | some e =>
    refine wpAny_evalPart_some (wpAny_mono (h A env s θ r X I F) (fun v' s₁ h₁ => ?_) fun _ _ x => x)
    obtain ⟨v, σ₁, θ₁, I₁, g₁, rv, n, rfl, q⟩ := h₁
    cases rv with | int i t => exact k _ s₁ σ₁ θ₁ (some n) I₁ g₁ ⟨t, rfl⟩ q
theorem EV_SliceL {value : Expr} {lo hi : Option Expr} {p pos : Pos}
    (h : EV c sc d value ρ σ fun v σ₁ => EVP c sc d lo ρ σ₁ fun a σ₂ => EVP c sc d hi ρ σ₂ fun b σ₃ => ∃ l l', isList σ₃ v l ∧ l.length ≤ 9000 ∧ pickN l a b = some l' ∧ Q (.lst l') σ₃)
    (hg : ∀ o r, letTemporaryGo value o r = pure ()) : EV c sc d (.Subscript value (.Slice lo hi none p) pos) ρ σ Q := fun A env s θ r X I F => by
  refine wpAny_Subscript_Slice slot_list_getitem.lookup (wpAny_mono (h A env s θ r X I F) (fun o' s₁ h₁ => ?_) fun _ _ x => x) hg
  obtain ⟨v, σ₁, θ₁, I₁, g₁, rv, q⟩ := h₁
  have F₁ := F.grow I.tupOut g₁
  refine wpAny_Slice (EVP_ok q r X I₁ F₁ fun va s₂ σ₂ θ₂ a I₂ g₂ pa q₂ => ?_)
  have F₂ := F₁.grow I₁.tupOut g₂
  refine EVP_ok q₂ r X I₂ F₂ fun vb s₃ σ₃ θ₃ b I₃ g₃ pb q₃ => wpAny_evalPart_none ?_
  obtain ⟨l, l', hL, hlen, hp, q⟩ := q₃
  obtain ⟨ad, xs, n, rfl, hl, rl⟩ := I₃.asL hL ((rv.grow I₁.tupOut g₂).grow I₂.tupOut g₃)
  obtain ⟨I₄, g₄⟩ := pushed I₃ { cls := .type "slice", data := .fields #[va, vb, .none] } s₃.toks
  have hl' : (s₃.heap.push { cls := .type "slice", data := .fields #[va, vb, .none] }).IsList ad xs.toArray := hl.isList.push _
  refine ⟨hl'.typeIs, ?_⟩
  obtain ⟨ys, e1, e2, e3⟩ := pick_rep rl hp
  refine wpAny_getItem_list_slice hl' ⟨_, Heap.get?_push_size _ rfl, rfl, rfl⟩ pa.isPart pb.isPart .none (by simp) ?_ (by rw [List.size_toArray, ← rl.length, sizeLine_eq]; omega)
  rw [e1]
  exact .trans (((g₁.trans g₂).trans g₃).trans g₄) (I₄.frozen (t := s₃.toks) (e2.grow I₃.tupOut g₄) q)
theorem EV_SliceRev {value one : Expr} {p pos p1 : Pos} {k : Nat}
    (h : EV c sc d value ρ σ fun v σ₁ => EV c sc d one ρ σ₁ fun u σ₃ => u = .int (-1) ∧ ∃ l, isList σ₃ v l ∧ l.length ≤ 9000 ∧ Q (.lst l.reverse) σ₃)
    (hg : ∀ o r, letTemporaryGo value o r = pure ()) : EV c sc d (.Subscript value (.Slice none none (some one) p) pos) ρ σ Q := fun A env s θ r X I F => by
  refine wpAny_Subscript_Slice_step slot_list_getitem.lookup (wpAny_mono (h A env s θ r X I F) (fun o' s₁ h₁ => ?_) fun _ _ x => x) hg
  obtain ⟨v, σ₁, θ₁, I₁, g₁, rv, q⟩ := h₁
  have F₁ := F.grow I.tupOut g₁
  refine wpAny_Slice (wpAny_evalPart_none (wpAny_evalPart_none (wpAny_evalPart_some (wpAny_mono (q A env s₁ θ₁ r X I₁ F₁) (fun u' s₃ h₃ => ?_) fun _ _ x => x))))
  obtain ⟨u, σ₃, θ₃, I₃, g₃, ru, rfl, l, hL, hlen, q⟩ := h₃
  cases ru with
  | int i t =>
    obtain ⟨ad, xs, n, rfl, hl, rl⟩ := I₃.asL hL (rv.grow I₁.tupOut g₃)
    obtain ⟨I₄, g₄⟩ := pushed I₃ { cls := .type "slice", data := .fields #[.none, .none, .int (-1) t] } s₃.toks
    have hl' : (s₃.heap.push { cls := .type "slice", data := .fields #[.none, .none, .int (-1) t] }).IsList ad xs.toArray := hl.isList.push _
    refine ⟨hl'.typeIs, ?_⟩
    refine wpAny_getItem_list_slice hl' ⟨_, Heap.get?_push_size _ rfl, rfl, rfl⟩ .none .none (.int _ _) (by simp) ?_ (by rw [List.size_toArray, ← rl.length, sizeLine_eq]; omega)
    rw [krv_pick]
    exact .trans ((g₁.trans g₃).trans g₄) (I₄.frozen (t := s₃.toks) (rl.reverse.grow I₃.tupOut g₄) q)
theorem EV_SliceT {value lo : Expr} {p pos : Pos}
    (h : EV c sc d value ρ σ fun v σ₁ => EV c sc d lo ρ σ₁ fun u σ₃ => ∃ (n : Nat) (l : List V), u = .int n ∧ v = .tup l ∧ l.length ≤ 9000 ∧ 1 ≤ n ∧ n ≤ l.length ∧ Q (.tup (l.drop n)) σ₃)
    (hg : ∀ o r, letTemporaryGo value o r = pure ()) : EV c sc d (.Subscript value (.Slice (some lo) none none p) pos) ρ σ Q := fun A env s θ r X I F => by
  refine wpAny_Subscript_Slice slot_tuple_getitem.lookup (wpAny_mono (h A env s θ r X I F) (fun o' s₁ h₁ => ?_) fun _ _ x => x) hg
  obtain ⟨v, σ₁, θ₁, I₁, g₁, rv, q⟩ := h₁
  have F₁ := F.grow I.tupOut g₁
  refine wpAny_Slice (wpAny_evalPart_some (wpAny_mono (q A env s₁ θ₁ r X I₁ F₁) (fun u' s₃ h₃ => wpAny_evalPart_none (wpAny_evalPart_none ?_)) fun _ _ x => x))
  obtain ⟨u, σ₃, θ₃, I₃, g₃, ru, n, l, rfl, rfl, hlen, h1, h2, q⟩ := h₃
  cases ru with
  | int i t =>
    have rv' := rv.grow I₁.tupOut g₃
    cases rv' with
    | tup l ad xs ht rl =>
      obtain ⟨I₄, g₄⟩ := pushed I₃ { cls := .type "slice", data := .fields #[.int (n : Nat) t, .none, .none] } s₃.toks
      have ht' : IsTup (s₃.heap.push { cls := .type "slice", data := .fields #[.int (n : Nat) t, .none, .none] }) ad xs.toArray := by
        obtain ⟨m, e⟩ := ht; exact IsT.isTup ⟨m, Heap.get?_push_of_some _ e⟩
      refine ⟨ht'.typeIs, ?_⟩
      refine getItem_tuple_from ht' ⟨_, Heap.get?_push_size _ rfl, rfl, rfl⟩ h1 (by rw [List.size_toArray, ← rl.length]; exact h2) ?_ (by rw [List.size_toArray, ← rl.length, sizeLine_eq]; omega)
      exact .trans ((g₁.trans g₃).trans g₄) (I₄.tuple (t := s₃.toks) ((rl.drop n).grow I₃.tupOut g₄) q)
-- lists
theorem BIN_addL {a b : V} {l l' : List V} (ha : isList σ a l) (hb : isList σ b l') (hz : l.length + l'.length ≤ 9000) (h : Q (.lst (l ++ l')) σ) : BIN c d .Add a b σ Q := fun A s θ a' b' r I ra rb => by
  obtain ⟨x, xs, n, rfl, hx, rx⟩ := I.asL ha ra
  obtain ⟨y, ys, m, rfl, hy, ry⟩ := I.asL hb rb
  refine P.add_list hx hy ?_ (by rw [List.size_toArray, List.size_toArray, ← rx.length, ← ry.length, sizeLine_eq]; omega)
  have e : xs.toArray ++ ys.toArray = (xs ++ ys).toArray := by simp
  rw [e]
  exact I.frozen (t := s.toks) (rx.append ry) h
noncomputable def times {α : Type} (n : Nat) (l : List α) : List α := (List.replicate n l).flatten
theorem times_rep {h : Heap} {l : List V} {xs : List Value} (r : RepVs h θ l xs) : ∀ n : Nat, RepVs h θ (times n l) (times n xs)
  | 0 => .nil
  | n + 1 => by
    show RepVs h θ (List.replicate (n + 1) l).flatten (List.replicate (n + 1) xs).flatten
    rw [List.replicate_succ, List.replicate_succ, List.flatten_cons, List.flatten_cons]
    exact r.append (times_rep r n)
theorem foldl_times (xs : List Value) : ∀ (n : Nat) (acc : Array Value), List.foldl (fun x1 x2 => x1 ++ x2) acc (List.replicate n xs.toArray) = acc ++ (times n xs).toArray
  | 0, acc => by simp [times]
  | n + 1, acc => by
    rw [List.replicate_succ, List.foldl_cons, foldl_times xs n]
    unfold times
    rw [List.replicate_succ, List.flatten_cons]
    simp
theorem mulCore {prog : Program} {w : World} {A : Around} {E : Value → Shared → Prop} {s : Shared} {l : Addr} {items : Array Value} {k : Nat} {x : Int} {u : Tok} {Q : Value → Shared → Prop}
    (hl : s.heap.get? l = some { cls := .type "list", dict := none, data := .seq items k, slots := #[] })
    (hlo : -(2 ^ 63 : Int) ≤ x) (hhi : x < 2 ^ 63) (hsz : items.size * x.toNat ≤ 2 ^ 24)
    (h : Q (.ref s.heap.objs.size) { s with heap := s.heap.push { cls := .type "list", data := .seq (List.foldl (fun x1 x2 => x1 ++ x2) #[] (List.replicate (if items.isEmpty = true then 0 else x.toNat) items)) } }) :
    wpAny (model prog w) A (binaryOp .Mult (.ref l) (.int x u)) Q E s :=
  wpAny_binaryOp_repeat_ref (T := "list") (U := "int") (by decide) ⟨_, hl, rfl⟩ (fun s' => typeIs_int s' x u) noFill_list_mul F.fills_int_mul F.slot_int_rmul repeat_list F.slot_int_index.lookup
    (call_meets F.slot_int_rmul (typeIs_int s x u) F.entry_int_rmul (F.args_int_rmul_2 _ _) (int___rmul___int_list x u l items k)
      ⟨hl, rfl, ⟨_, hl, rfl⟩, call_meets F.slot_list_mul ⟨_, hl, rfl⟩ F.entry_list_mul (F.args_list_mul_2 _ _)
        (AutoListH.list___mul___list_int_3 l items k x u (by simp [Builtin.List.listFitsIndex]; omega) (by omega) (by simp [Builtin.List.listTooLong, sizeLine]; omega))
        ⟨hl, h⟩⟩)
theorem BIN_mulL {a : V} {l : List V} {n : Nat} (ha : isList σ a l) (hne : l ≠ []) (hz : l.length * n ≤ 9000) (hn : n ≤ 9000) (h : Q (.lst (times n l)) σ) : BIN c d .Mult a (.int n) σ Q := fun A s θ a' b' r I ra rb => by
  obtain ⟨x, xs, k, rfl, hx, rx⟩ := I.asL ha ra
  cases rb with
  | int i t =>
    refine mulCore hx (by omega) (by omega) (by rw [List.size_toArray, ← rx.length, Int.toNat_natCast]; exact Nat.le_trans hz (by decide)) ?_
    have hem : xs.toArray.isEmpty = false := by
      cases xs with
      | nil => exact absurd (List.eq_nil_of_length_eq_zero (by rw [rx.length]; rfl)) hne
      | cons => rfl
    rw [hem]
    simp only [Bool.false_eq_true, if_false, Int.toNat_natCast]
    rw [foldl_times, show (#[] : Array Value) ++ (times n xs).toArray = (times n xs).toArray from by simp]
    exact I.frozen (t := s.toks) (times_rep rx n) h
-- what is alike is equal
noncomputable def flat0 : V → Bool
  | .none | .bool _ | .int _ | .str _ => true
  | _ => false
noncomputable def flat1 : V → Bool
  | .tup l => l.all flat0
  | v => flat0 v
theorem eq0 {h : Heap} {v : V} {a b : Value} (hf : flat0 v = true) (ra : RepV h θ v a) (rb : RepV h θ v b) (A : Around) (s : Shared) : SeqAt.EqAt A s a b true := by
  cases ra with
  | none => cases rb; exact .same _
  | bool b => cases rb; exact .same _
  | int i t => cases rb with | int i u => have := SeqAt.EqAt.int_int (A := A) (s := s) i t i u; rwa [beq_self_eq_true] at this
  | str x t => cases rb with | str x u => have := SeqAt.EqAt.str_str (A := A) (s := s) x t x u; rwa [beq_self_eq_true] at this
  | _ => cases hf
theorem eqs {P : Value → Value → Prop} {h : Heap} {l : List V} {xs ys : List Value} (r : RepVs h θ l xs) (q : RepVs h θ l ys) (H : ∀ v ∈ l, ∀ a b, RepV h θ v a → RepV h θ v b → P a b) : ∀ (j : Nat) (h1 : j < xs.toArray.size) (h2 : j < ys.toArray.size), P (xs.toArray[j]) (ys.toArray[j]) := fun j h1 h2 => by
  have h1' : j < xs.length := by simpa using h1
  have h2' : j < ys.length := by simpa using h2
  have hl : j < l.length := by rw [r.length]; exact h1'
  obtain ⟨x, e1, p1⟩ := r.at (List.getElem?_eq_getElem hl)
  obtain ⟨y, e2, p2⟩ := q.at (List.getElem?_eq_getElem hl)
  rw [List.getElem?_eq_getElem h1'] at e1
  rw [List.getElem?_eq_getElem h2'] at e2
  cases e1; cases e2
  exact H _ (List.getElem_mem hl) _ _ p1 p2
theorem eq1 {h : Heap} {v : V} {a b : Value} (hf : flat1 v = true) (s : Shared) (ra : RepV s.heap θ v a) (rb : RepV s.heap θ v b) (A : Around) (hu : A.units < cLine) : SeqAt.EqAt A s a b true := by
  cases v with
  | tup l =>
    cases ra with
    | tup l x xs hx rx =>
      cases rb with
      | tup l y ys hy ry =>
        by_cases hxy : x = y
        · subst hxy; exact .same _
        · refine .of_refs hxy ?_
          have := SeqAt.RcAt.tuples (A := A) (e := fun _ => true) (show s.heap.IsTuple x xs.toArray from hx.isTup) (show s.heap.IsTuple y ys.toArray from hy.isTup) hu (eqs rx ry fun v m a b ra rb => eq0 (List.all_eq_true.mp hf v m) ra rb _ _)
          have e : xs.toArray.size = ys.toArray.size := by rw [List.size_toArray, List.size_toArray, ← rx.length, ry.length]
          rw [e, show ((List.range (min ys.toArray.size ys.toArray.size)).all fun _ => true) = true from List.all_eq_true.mpr fun _ _ => rfl] at this
          simpa using this
  | _ => exact eq0 (by exact hf) ra rb A s
theorem CMP_eqL {a b : V} {l : List V} (ha : isList σ a l) (hb : isList σ b l) (hf : l.all flat1 = true) (h : Q (.bool true) σ) : CMP c d .Eq a b σ Q := fun A s θ a' b' r I ra rb => by
  obtain ⟨x, xs, n, rfl, hx, rx⟩ := I.asL ha ra
  obtain ⟨y, ys, m, rfl, hy, ry⟩ := I.asL hb rb
  have hu0 : A.units < cLine := by have q := r.units; omega
  have hu : A.in1.units < cLine := by have q := r.units; rw [show A.in1.units = A.units + 1 from rfl]; omega
  have ea : ((List.range xs.toArray.size).all fun _ => true) = true := List.all_eq_true.mpr fun _ _ => rfl
  refine SeqAt.eq_listAt (e := fun _ => true) hx.isList hy.isList (by rw [List.size_toArray, List.size_toArray, ← rx.length, ry.length]) hu0 (eqs rx ry fun v m a b ra rb => eq1 (h := s.heap) (List.all_eq_true.mp hf v m) s ra rb _ hu) ?_
  rw [ea]
  exact I.okV (.bool _) h
theorem CMP_neL {a b : V} {l : List V} (ha : isList σ a l) (hb : isList σ b l) (hf : l.all flat1 = true) (h : Q (.bool false) σ) : CMP c d .NotEq a b σ Q := fun A s θ a' b' r I ra rb => by
  obtain ⟨x, xs, n, rfl, hx, rx⟩ := I.asL ha ra
  obtain ⟨y, ys, m, rfl, hy, ry⟩ := I.asL hb rb
  have hu0 : A.units < cLine := by have q := r.units; omega
  have hu : A.in1.units < cLine := by have q := r.units; rw [show A.in1.units = A.units + 1 from rfl]; omega
  have ea : ((List.range xs.toArray.size).all fun _ => true) = true := List.all_eq_true.mpr fun _ _ => rfl
  have := SeqAt.RcNeAt.lists (A := A) (e := fun _ => true) hx.isList hy.isList (by rw [List.size_toArray, List.size_toArray, ← rx.length, ry.length]) hu0 (eqs rx ry fun v m a b ra rb => eq1 (h := s.heap) (List.all_eq_true.mp hf v m) s ra rb _ hu)
  refine this _ _ _ _ ?_
  rw [ea]
  exact I.okV (.bool _) h
theorem CMP_eqB {a b : Bool} (h : Q (.bool (a == b)) σ) : CMP c d .Eq (.bool a) (.bool b) σ Q := fun A s θ a' b' r I ra rb => by cases ra; cases rb; exact PyProof.Rows.eq_bool (I.okV (.bool _) h)
theorem CMP_neB {a b : Bool} (h : Q (.bool (a != b)) σ) : CMP c d .NotEq (.bool a) (.bool b) σ Q := fun A s θ a' b' r I ra rb => by cases ra; cases rb; exact PyProof.Rows.ne_bool (I.okV (.bool _) h)
theorem BIN_subB {a b : Bool} (h : Q (.int ((if a then 1 else 0) - (if b then 1 else 0))) σ) : BIN c d .Sub (.bool a) (.bool b) σ Q := fun A s θ a' b' r I ra rb => by
  cases ra; cases rb; exact PyProof.Rows.sub_bool (I.okVt (.int _ _) h)
end
end Mine
end
section
open PySem PySem.W PySem.Calls PyProof.Rows PySem.MeetsSeq PySem.MeetsSeq2 PySem.MeetsSeq3
set_option linter.unusedVariables false
set_option maxRecDepth 20000
namespace Mine
section
variable {c : Cx} {sc : Sc} {d : Nat} {ρ : Vars} {σ : St} {Q : Post} {R : Fl → Vars → St → Prop} {A : Around} {env : Env} {s s₁ : Shared} {θ θ₁ : List Addr} {x y : Str} {target : Expr}
theorem EV_Chain2 {l r₁ r₂ : Expr} {op₁ op₂ : CmpOp} {pos : Pos}
    (h : EV c sc d l ρ σ fun a σ₁ => EV c sc d r₁ ρ σ₁ fun b σ₂ => CMP c d op₁ a b σ₂ fun v σ₃ => TRU c d v σ₃ fun t σ₄ => if t = true then EV c sc d r₂ ρ σ₄ fun w σ₅ => CMP c d op₂ b w σ₅ Q else Q v σ₄)
    (hm : behindInMarks op₂ r₂ = false) : EV c sc d (.Compare l [op₁, op₂] [r₁, r₂] pos) ρ σ Q := fun A env s θ R X I F => by
  show wpAny _ _ (eval l env >>= fun left => compareChain pos left [op₁, op₂] [eval r₁ env, markedBehindIn op₂ r₂ (eval r₂ env)]) _ _ _
  rw [markedBehindIn_of_false hm]
  refine wpAny_bind (wpAny_mono (h A env s θ R X I F) (fun a' s₁ h₁ => ?_) fun _ _ x => x)
  obtain ⟨a, σ₁, θ₁, I₁, g₁, ra, q₁⟩ := h₁
  unfold compareChain
  refine wpAny_bind (wpAny_holding (wpAny_mono (q₁ A env s₁ θ₁ R X I₁ (F.grow I.tupOut g₁)) (fun b' s₂ h₂ => wpAny_bind (wpAny_standAt ?_)) fun _ _ x => x))
  obtain ⟨b, σ₂, θ₂, I₂, g₂, rb, q₂⟩ := h₂
  have F₂ := (F.grow I.tupOut g₁).grow I₁.tupOut g₂
  refine wpAny_bind (wpAny_holding (wpAny_mono (q₂ A s₂ θ₂ a' b' R I₂ (ra.grow I₁.tupOut g₂) rb) (fun v' s₃ h₃ => wpAny_bind (wpAny_release ?_)) fun _ _ x => x))
  obtain ⟨v, σ₃, θ₃, I₃, g₃, rv, q₃⟩ := h₃
  refine wpAny_bind (wpAny_holding (wpAny_mono (q₃ A s₃ θ₃ v' R I₃ rv) (fun t s₄ h₄ => ?_) fun _ _ x => x))
  obtain ⟨σ₄, θ₄, I₄, g₄, q₄⟩ := h₄
  have gg := ((g₁.trans g₂).trans g₃).trans g₄
  cases t with
  | false => exact wpAny_pure ⟨v, σ₄, θ₄, I₄, gg, rv.grow I₃.tupOut g₄, q₄⟩
  | true =>
    have F₄ := (F₂.grow I₂.tupOut g₃).grow I₃.tupOut g₄
    unfold compareChain
    refine wpAny_bind (wpAny_holding (wpAny_mono (q₄ A env s₄ θ₄ R X I₄ F₄) (fun w' s₅ h₅ => wpAny_bind (wpAny_standAt ?_)) fun _ _ x => x))
    obtain ⟨w, σ₅, θ₅, I₅, g₅, rw', q₅⟩ := h₅
    exact fun Γ p hΓ => by
      rw [Sem.wp_operate]
      exact wpV.trans (gg.trans g₅) (q₅ A s₅ θ₅ b' w' R I₅ (((rb.grow I₂.tupOut g₃).grow I₃.tupOut g₄).grow I₄.tupOut g₅) rw') Γ p hΓ
theorem CALL_lenL {v : V} {l : List V} (hl : isList σ v l) (hz : l.length ≤ 100000) (h : Q (.int l.length) σ) : CALL c d (.raw (.builtin "len")) [v] σ Q := fun A s θ f' vs' r I rf rv => by
  cases rf
  obtain ⟨v', rfl, r1⟩ := rv.one
  obtain ⟨a, xs, n, rfl, hL, rl⟩ := I.asL hl r1
  have e : xs.toArray.size = l.length := by rw [List.size_toArray, rl.length]
  refine call_len_list hL.isList (by rw [e]; omega) ?_
  rw [e]
  exact I.okVt (t := s.toks + 1 + 1) (.int _ _) h
theorem CALL_lenS (hz : x.length ≤ 100000) (h : Q (.int x.length) σ) : CALL c d (.raw (.builtin "len")) [.str x] σ Q := fun A s θ f' vs' r I rf rv => by
  cases rf
  obtain ⟨v', rfl, r1⟩ := rv.one
  cases r1
  exact len_str (by omega) (I.okVt (t := s.toks + 1 + 1) (.int _ _) h)
theorem CALL_abs {a : Int} (h : Q (.int (if a < 0 then -a else a)) σ) : CALL c d (.raw (.builtin "abs")) [.int a] σ Q := fun A s θ f' vs' r I rf rv => by
  cases rf
  obtain ⟨v', rfl, r1⟩ := rv.one
  cases r1
  exact call_abs_int fun u tk => I.okVt (t := tk) (.int _ _) h
noncomputable def isStrV : V → Option Bool
  | .str _ => some true
  | .int _ | .bool _ | .none | .tup _ => some false
  | _ => none
noncomputable def isTupV : V → Option Bool
  | .tup _ => some true
  | .int _ | .bool _ | .none | .str _ => some false
  | _ => none
theorem CALL_isStr {v : V} {b : Bool} (hv : isStrV v = some b) (h : Q (.bool b) σ) : CALL c d (.raw (.builtin "isinstance")) [v, .raw (.type "str")] σ Q := fun A s θ f' vs' r I rf rv => by
  cases rf
  obtain ⟨v', t', rfl, r1, r2⟩ := rv.two
  cases r2
  cases r1 with
  | none => cases hv; exact IsiPair.NoneType_str (I.okVt (.bool _) h)
  | bool => cases hv; exact IsiPair.bool_str (I.okVt (.bool _) h)
  | int => cases hv; exact IsiPair.int_str (I.okVt (.bool _) h)
  | str => cases hv; exact IsiPair.str_str (I.okV (.bool _) h)
  | tup l a xs ht hr => cases hv; obtain ⟨n, ht⟩ := ht; exact IsiPair.tuple_str ht rfl (I.okVt (.bool _) h)
  | _ => cases hv
theorem CALL_isTup {v : V} {b : Bool} (hv : isTupV v = some b) (h : Q (.bool b) σ) : CALL c d (.raw (.builtin "isinstance")) [v, .raw (.type "tuple")] σ Q := fun A s θ f' vs' r I rf rv => by
  cases rf
  obtain ⟨v', t', rfl, r1, r2⟩ := rv.two
  cases r2
  cases r1 with
  | none => cases hv; exact IsiPair.NoneType_tuple (I.okVt (.bool _) h)
  | bool => cases hv; exact IsiPair.bool_tuple (I.okVt (.bool _) h)
  | int => cases hv; exact IsiPair.int_tuple (I.okVt (.bool _) h)
  | str => cases hv; exact IsiPair.str_tuple (I.okVt (.bool _) h)
  | tup l a xs ht hr => cases hv; obtain ⟨n, ht⟩ := ht; exact IsiPair.tuple_tuple ht rfl (I.okV (.bool _) h)
  | _ => cases hv
theorem GM_dict {n : Nat} {l : List (Str × V)} {name : Str} {id : String} {Q : V → List V → St → Prop} (hn : σ[n]? = some (.dictS l)) (slot : Slot "dict" name id) (hty : typeOf (.builtin id) = pure (.type "method_descriptor")) (h : Q (.raw (.builtin id)) [.loc n] σ) :
    GM c d (.loc n) name σ Q := fun A s θ o' pl r I ro => by
  obtain ⟨a, rfl, e⟩ := ro.ofLoc
  obtain ⟨kvs, hd, hr⟩ := I.rep.obj n _ a hn e
  have hd' := hd
  obtain ⟨o', es, ep, e1, e2, e3, e4⟩ := hd'
  exact getMethod_builtin hd.typeIs F.plainAttrs_dict slot hty (fun a' e' => by cases e'; exact ⟨_, e1, e2.2.1⟩) ⟨_, [.loc n], σ, θ, I, Grow.refl _ _, .raw _, .cons (.loc n a e) .nil, h⟩
theorem CALL_get {n : Nat} {l : List (Str × V)} {dflt : V} (hn : σ[n]? = some (.dictS l)) (h : Q ((getK l x).getD dflt) σ) : CALL c d (.raw (.builtin "dict.get")) [.loc n, .str x, dflt] σ Q := fun A s θ f' vs' r I rf rv => by
  cases rf
  obtain ⟨a', k', z', rfl, r1, r2, r3⟩ := rv.three
  obtain ⟨a, rfl, e⟩ := r1.ofLoc
  obtain ⟨kvs, hd, hr⟩ := I.rep.obj n _ a hn e
  cases r2
  refine call_meetsIn PySem.F.slot_dict_get hd.typeIs PySem.F.entry_dict_get (PySem.F.args_dict_get_3 _ _ _) (meets_dict_get_default (strKind c.prog c.w) a (isStr_is x _) (I.notMods e) z') ⟨_, hd.mapOf, ?_⟩
  have q := hr.val x
  refine I.okVt (t := s.toks + 1) (v := (getK l x).getD dflt) ?_ h
  cases hg : getK l x with
  | none => rw [hg] at q; rw [q]; exact r3
  | some v => rw [hg] at q; obtain ⟨v', e1, e2⟩ := q; rw [e1]; exact e2
theorem CALL_extend {n : Nat} {l l' : List V} {v : V} (hn : σ[n]? = some (.list l)) (hv : isList σ v l') (hsz : l.length ≤ 4000) (hsz' : l'.length ≤ 4000) (h : Q .none (σ.set n (.list (l ++ l')))) : CALL c d (.raw (.builtin "list.extend")) [.loc n, v] σ Q := fun A s θ f' vs' r I rf rv => by
  cases rf
  obtain ⟨x, v', rfl, r1, r2⟩ := rv.two
  obtain ⟨b, ys, m, rfl, hb, rb⟩ := I.asL hv r2
  obtain ⟨a, rfl, e⟩ := r1.ofLoc
  obtain ⟨xs, k, hl, rl⟩ := I.isL hn e
  have e1 : xs.toArray.size = l.length := by rw [List.size_toArray, rl.length]
  have e2 : ys.toArray.size = l'.length := by rw [List.size_toArray, rb.length]
  refine call_meets F.slot_list_extend ⟨_, hl, rfl⟩ F.entry_list_extend (F.args_list_extend_2 _ _) (AutoSeq1.list_extend_list_list_0 a xs.toArray k b ys.toArray m ?_ ?_ ?_) ⟨hl, hb, ?_⟩
  · rw [e1, e2]; unfold Builtin.List.listTooLong; rw [sizeLine_eq]; simp; omega
  · rw [e1, sizeLine_eq]; omega
  · rw [e1, e2, sizeLine_eq]; omega
  · refine I.listUpd (t := s.toks) (ys := xs ++ ys) (l' := l ++ l') e hl (by simp) (rl.append rb) .none h
theorem CALL_dictD {n : Nat} {l : List (Str × V)} (hn : σ[n]? = some (.dictS l)) (hz : l.length ≤ 9000) (h : Q (.loc σ.length) (σ ++ [.dictS l])) : CALL c d (.raw (.type "dict")) [.loc n] σ Q := fun A s θ f' vs' r I rf rv => by
  cases rf
  obtain ⟨v', rfl, r1⟩ := rv.one
  obtain ⟨a, rfl, e⟩ := r1.ofLoc
  obtain ⟨kvs, hd, hr⟩ := I.rep.obj n _ a hn e
  refine kt_call_dict (I.notMods e) hd (by rw [← hr.length, sizeLine_eq]; omega) fun h' hd' hs' => ?_
  -- the new dict is put in the store
  obtain ⟨I₁, g₁⟩ := I.alloc (ob := { cls := .type "dict", data := .dict #[] }) (o := .dictS []) (t := s.toks) ⟨[], Heap.DictOf.new _, .nil⟩
  have en : (θ ++ [s.heap.objs.size])[σ.length]? = some s.heap.objs.size := by rw [← I.rep.len]; simp
  have g2 : Grow (s.heap.push { cls := .type "dict", data := .dict #[] }) (θ ++ [s.heap.objs.size]) h' (θ ++ [s.heap.objs.size]) := ⟨⟨[], (List.append_nil _).symm⟩, fun _ m n => (n m).elim, fun b o e' n => (hs'.2 b (fun z => n (by rw [z]; exact List.mem_of_getElem? en))).trans e'⟩
  obtain ⟨I₂, g₂⟩ := I₁.upd (o' := .dictS l) (t := s.toks) en hs' ⟨_, hd', (hr.grow I.tupOut g₁).grow I₁.tupOut g2⟩
  refine ⟨.loc σ.length, _, _, I₂, g₁.trans g₂, .loc _ _ en, ?_⟩
  have : (σ ++ [SO.dictS []]).set σ.length (.dictS l) = σ ++ [.dictS l] := by simp
  rw [this]; exact h
end
end Mine
end
section
open PySem PySem.W PySem.Calls PyProof.Rows
set_option linter.unusedVariables false
set_option linter.deprecated false
set_option maxRecDepth 100000
namespace Mine
section
variable {prog : Program} {w : World} {A : Around} {E : Value → Shared → Prop} {s : Shared}
theorem lk_list_keys : typeLookup (.type "list") "keys" = pure none := by rw [typeLookup_type, builtinLookup_eq_fast]; kernel_rfl
theorem keys_none {a : Addr} {xs : Array Value} {k : Nat} {Q : Option Value → Shared → Prop} (hx : s.heap.get? a = some { cls := .type "list", dict := none, data := .seq xs k, slots := #[] }) (hA : A.handled = none)
    (h : ∀ h' tk, (∀ b o, s.heap.get? b = some o → h'.get? b = some o) → Q none { s with heap := h', toks := tk }) : wpAny (model prog w) A (getAttr? (.ref a) (Str.ofString "keys")) Q E s := by
  obtain ⟨hp, g, d, tk, os⟩ := s
  have hT : ∀ s' : Shared, s'.heap = hp → s'.TypeIs (.ref a) "list" := fun s' e => ⟨_, e ▸ hx, rfl⟩
  have f1 := sub_AttributeError
  have f3 := F.slot_list_getattribute.lookup
  have f4 := F.slot_list_getattribute.bind (.ref a)
  have f5 := am_list_getattr_none
  have hT0 : (⟨hp, g, d, tk, os⟩ : Shared).TypeIs (.ref a) "list" := hT _ rfl
  unfold getAttr? getAttrBy? getAttrBy
  repeat (any_goals (first | assumption | ((with_reducible show wpAny _ _ (call (Value.builtin "list.__getattribute__") _ _) _ _ _); refine call_meets F.slot_list_getattribute (hT _ rfl) am_entry_list_getattribute (F.args_list_getattribute_2 _ _) (meets_getattribute_miss_list a xs k #[] _ _ lk_list_keys (by decide +kernel) (by rw [sizeLine_eq]; decide +kernel)) ⟨hx, hA, fun h' tk' e hx => ?_⟩) | wp_step))
  have hk : ∀ b o, hp.get? b = some o → h'.get? b = some o := hx.keeps
  obtain ⟨t', u', he⟩ := hx.there
  show wpAny _ _ (getattributeRaised _ _ _ _ _ _ _) _ _ _
  unfold getattributeRaised
  repeat (any_goals (first | assumption | wp_step))
  exact h _ _ hk
theorem stored_le {K : Type} [DecidableEq K] (l : List (K × Value)) (k : K) (v : Value) : (stored l k v).length ≤ l.length + 1 := by
  unfold stored; split <;> simp
theorem foldl_le {K : Type} [DecidableEq K] : ∀ (l acc : List (K × Value)), (l.foldl (fun acc kv => stored acc kv.1 kv.2) acc).length ≤ acc.length + l.length
  | [], acc => by simp
  | kv :: l, acc => by
    rw [List.foldl_cons]
    have h1 := foldl_le l (stored acc kv.1 kv.2)
    have h2 := stored_le acc kv.1 kv.2
    simp; omega
theorem plain_update_loop : plainId "dict.update.loop" = true := by decide +kernel
theorem entry_update_loop : entryFor table "dict.update.loop" = some Builtin.«dict.update.loop» := entryFor_of_tree (by kernel_rfl)
theorem update_loop {K : Type} [DecidableEq K] {knd : KeyKind prog w K} {R : Result → Shared → Prop} {D I l : Addr} {items : Array Value} (hne : l ≠ I) (hDI : D ≠ I) (hDl : D ≠ l) (hA : A.handled = none) (ks : List (K × Value)) (hlen : items.size = ks.length) (hz : items.size ≤ 1000)
    (hit : ∀ i (h : i < items.size) (kv : K × Value), ks[i]? = some kv → ∀ h', (∀ b o, b ≠ D → b ≠ I → s.heap.get? b = some o → h'.get? b = some o) → ∃ T key, items[i] = .ref T ∧ T ≠ D ∧ T ≠ I ∧ IsT h' T #[key, kv.2] ∧ knd.is kv.1 key = true)
    (hR : ∀ h' tk, h'.DictOf knd D (ks.foldl (fun acc kv => stored acc kv.1 kv.2) []) → (∀ b o, b ≠ D → b ≠ I → s.heap.get? b = some o → h'.get? b = some o) → R (.ok (.ret .none)) { s with heap := h', toks := tk }) :
    ∀ (j : Nat) (i : Nat) (h' : Heap) (tk : Nat), items.size - i = j → i ≤ items.size → h'.DictOf knd D ((ks.take i).foldl (fun acc kv => stored acc kv.1 kv.2) []) → h'.IsListIter I l i → h'.IsList l items → (∀ b o, b ≠ D → b ≠ I → s.heap.get? b = some o → h'.get? b = some o) →
      codeAny (model prog w) A (.builtin "dict.update.loop" ⟨[.ref D, .ref I, rawInt (i : Nat), .none], []⟩) R { s with heap := h', toks := tk } := by
  intro j
  induction j with
  | zero =>
    intro i h' tk hj hi hd hI hl hk
    have hi' : i = ks.length := by omega
    subst hi'
    refine codeAny_builtin entry_update_loop ?_
    rw [Around.under_plainId plain_update_loop _]
    unfold Builtin.«dict.update.loop»
    refine wpAny_bind (wpAny_pyNext_list_end hA hI hl (by simp; omega) fun h₁ he => ?_)
    refine wpAny_bind (wpAny_pure (wpAny_pure ?_))
    rw [List.take_length] at hd
    exact hR _ _ (hd.extBut he hDI) fun b o h1 h2 e => he b o h2 (hk b o h1 h2 e)
  | succ j ih =>
    intro i h' tk hj hi hd hI hl hk
    have hlt : i < items.size := by omega
    have hks : i < ks.length := by omega
    refine codeAny_builtin entry_update_loop ?_
    rw [Around.under_plainId plain_update_loop _]
    unfold Builtin.«dict.update.loop»
    refine wpAny_bind (wpAny_pyNext_list_item hI hl (x := items[i]) (by simp [hlt]) fun h₁ hI₁ hs => ?_)
    have hk₁ : ∀ b o, b ≠ D → b ≠ I → s.heap.get? b = some o → h₁.get? b = some o := fun b o n1 n2 e => hs.extBut b o n2 (hk b o n1 n2 e)
    obtain ⟨T, key, e1, hTD, hTI, hT, hkey⟩ := hit i hlt ks[i] (List.getElem?_eq_getElem hks) h₁ hk₁
    rw [e1]
    have hT2 : (⟨h₁, s.gens, s.drawn, tk, s.os⟩ : Shared).TypeIs (.ref T) "tuple" := (let ⟨_, e⟩ := hT; ⟨_, e, rfl⟩)
    refine wpAny_bind (wpAny_holding ?_)
    refine wpAny_bind (wpAny_tryCatch ?_)
    unfold Builtin.Dict.pairItems
    refine wpAny_bind (wpAny_typeOf hT2 ?_)
    rw [if_pos (by decide)]
    obtain ⟨nn, hTe⟩ := hT
    refine wpAny_bind (wpAny_seqItems hTe rfl (wpAny_pure ?_))
    show wpAny _ _ (holding [key, ks[i].2] (dictSet D key ks[i].2)) _ _ _
    have hd₁ : h₁.DictOf knd D ((ks.take i).foldl (fun acc kv => stored acc kv.1 kv.2) []) := hd.extBut hs.extBut hDI
    refine wpAny_holding (wpAny_dictSet_pairs hkey hd₁ (fun h₂ hd₂ hs₂ => ?_) ?_)
    · have hc : ((i : Int) + 1) = ((i + 1 : Nat) : Int) := by push_cast; rfl
      refine wpAny_pure ?_
      rw [show rawInt ((i : Nat) + 1) = rawInt ((i + 1 : Nat) : Int) from by rw [hc]]
      refine ⟨plainId_quiet plain_update_loop _, ih (i + 1) h₂ _ (by omega) hlt ?_ ?_ ?_ ?_⟩
      · have e2 : ks.take (i + 1) = ks.take i ++ [ks[i]] := by rw [List.take_succ, List.getElem?_eq_getElem hks]; rfl
        rw [e2, List.foldl_append]; exact hd₂
      · exact hI₁.at fun o e => (hs₂.2 I hDI.symm).trans e
      · exact (hl.extBut hs.extBut hne).at fun o e => (hs₂.2 l hDl.symm).trans e
      · exact fun b o n1 n2 e => (hs₂.2 b n1).trans (hk₁ b o n1 n2 e)
    · have : ((ks.take i).foldl (fun acc kv => stored acc kv.1 kv.2) []).length ≤ 0 + (ks.take i).length := foldl_le _ _
      have h2 : (ks.take i).length ≤ i := by simp; omega
      rw [sizeLine_eq]; omega
theorem call_dict_pairs {K : Type} [DecidableEq K] {knd : KeyKind prog w K} {l : Addr} {xs : Array Value} {k : Nat} {Q : Value → Shared → Prop} (hA : A.handled = none) (hl : s.heap.get? l = some { cls := .type "list", dict := none, data := .seq xs k, slots := #[] }) (ks : List (K × Value)) (hlen : xs.size = ks.length) (hz : xs.size ≤ 1000)
    (hit : ∀ i (h : i < xs.size) (kv : K × Value), ks[i]? = some kv → ∃ T key, xs[i] = .ref T ∧ IsT s.heap T #[key, kv.2] ∧ knd.is kv.1 key = true)
    (h : ∀ h' tk, h'.DictOf knd s.heap.objs.size (ks.foldl (fun acc kv => stored acc kv.1 kv.2) []) → (∀ b o, s.heap.get? b = some o → h'.get? b = some o) → Q (.ref s.heap.objs.size) { s with heap := h', toks := tk }) :
    wpAny (model prog w) A (call (.type "dict") [.ref l]) Q E s := by
  refine callType_codes (Q₁ := fun obj s₁ => obj = .ref s.heap.objs.size ∧ s₁ = { s with heap := s.heap.push { cls := .type "dict", data := .dict #[] } }) F.kt_called_dict (F.kt_typeCall_dict_1 _) F.entry_dict_init (kt_code_dict_new _ ⟨rfl, rfl⟩) ?_
  rintro obj s₁ ⟨rfl, rfl⟩
  have hnew : (s.heap.push { cls := .type "dict", data := .dict #[] }).DictOf knd s.heap.objs.size [] := Heap.DictOf.new s.heap
  have hl1 : (s.heap.push { cls := .type "dict", data := .dict #[] }).get? l = some { cls := .type "list", dict := none, data := .seq xs k, slots := #[] } := Heap.get?_push_of_some _ hl
  have hlt : l < s.heap.objs.size := Heap.lt_size hl
  refine ⟨hnew.typeIs, F.args_dict_init_2 _ _, ?_⟩
  unfold Builtin.«dict.__init__»
  refine wpAny_bind ?_
  unfold Builtin.Dict.selfAndRest
  refine wpAny_bind (wpAny_notOrdered_dict hnew.typeIs ?_)
  show wpAny _ _ (pure (s.heap.objs.size, [Value.ref l])) _ _ _
  refine wpAny_pure ?_
  show wpAny _ _ (Builtin.Dict.updateFrom "dict.__init__" s.heap.objs.size (.ref l) [] .none) _ _ _
  unfold Builtin.Dict.updateFrom
  refine wpAny_bind (wpAny_typeOf (T := "list") ⟨_, hl1, rfl⟩ ?_)
  rw [if_pos (by decide)]
  refine wpAny_bind (keys_none hl1 hA fun h₁ tk₁ hk₁ => ?_)
  rw [if_pos (by rfl)]
  refine wpAny_bind (wpAny_rule ?_)
  have hl2 : h₁.get? l = some { cls := .type "list", dict := none, data := .seq xs k, slots := #[] } := hk₁ _ _ hl1
  refine wpAny_bind (wpAny_pyIter_list ⟨_, hl2, rfl, k, rfl⟩ ?_)
  have hd2 : (h₁.push { cls := .type "list_iterator", data := .fields #[.ref l, .int 0 0] }).DictOf knd s.heap.objs.size [] := by
    obtain ⟨o, es, ep, e, r⟩ := hnew; exact ⟨o, es, ep, Heap.get?_push_of_some _ (hk₁ _ _ e), r⟩
  have hsz1 : s.heap.objs.size < h₁.objs.size := by obtain ⟨o, es, ep, e, r⟩ := hnew; exact Heap.lt_size (hk₁ _ _ e)
  have old : ∀ b o, s.heap.get? b = some o → (h₁.push { cls := .type "list_iterator", data := .fields #[.ref l, .int 0 0] }).get? b = some o := fun b o e => Heap.get?_push_of_some _ (hk₁ _ _ (Heap.get?_push_of_some _ e))
  refine wpAny_bind (wpAny_pure ?_)
  refine wpAny_pure ?_
  have L := update_loop (s := { s with heap := h₁.push { cls := .type "list_iterator", data := .fields #[.ref l, .int 0 0] }, toks := tk₁ }) (A := A.in1) (D := s.heap.objs.size) (I := h₁.objs.size) (l := l) (items := xs) (knd := knd)
    (R := wants (fun r s₂ => r = .none ∧ Q (.ref s.heap.objs.size) s₂) E) (Nat.ne_of_lt (Nat.lt_trans hlt hsz1)) (Nat.ne_of_lt hsz1) (Nat.ne_of_gt hlt) hA ks hlen hz
    (fun i hi kv hkv h' hk' => by
      obtain ⟨T, key, e1, hT, hkey⟩ := hit i hi kv hkv
      obtain ⟨n, hT⟩ := hT
      have hTlt : T < s.heap.objs.size := Heap.lt_size hT
      exact ⟨T, key, e1, Nat.ne_of_lt hTlt, Nat.ne_of_lt (Nat.lt_trans hTlt hsz1), ⟨n, hk' _ _ (Nat.ne_of_lt hTlt) (Nat.ne_of_lt (Nat.lt_trans hTlt hsz1)) (old _ _ hT)⟩, hkey⟩)
    (fun h' tk hd' hk' => ⟨rfl, h h' tk hd' fun b o e => hk' b o (Nat.ne_of_lt (Heap.lt_size e)) (Nat.ne_of_lt (Nat.lt_trans (Heap.lt_size e) hsz1)) (old b o e)⟩)
    xs.size 0 (h₁.push { cls := .type "list_iterator", data := .fields #[.ref l, .int 0 0] }) tk₁ (by simp) (Nat.zero_le _) (by simpa using hd2) ⟨_, Heap.get?_push_size _ rfl, rfl, rfl⟩ ⟨_, Heap.get?_push_of_some _ hl2, rfl, k, rfl⟩ (fun _ _ _ _ e => e)
  exact ⟨plainId_quiet plain_update_loop _, L⟩
end
section
variable {c : Cx} {sc : Sc} {d : Nat} {ρ : Vars} {σ : St} {Q : Post} {A : Around} {s : Shared} {θ : List Addr}
noncomputable def pairV (kv : Str × V) : V := .tup [.str kv.1, kv.2]
theorem pairs_rep {h : Heap} : ∀ {es : List (Str × V)} {xs : List Value}, RepVs h θ (es.map pairV) xs → ∃ ks : List (Str × Value), ks.length = xs.length ∧ RepKs h θ es ks ∧ ∀ (i : Nat) (h1 : i < xs.length) (kv : Str × Value), ks[i]? = some kv → ∃ T t, xs[i] = .ref T ∧ IsT h T #[.str kv.1 t, kv.2]
  | [], _, .nil => ⟨[], rfl, .nil, fun _ h => absurd h (Nat.not_lt_zero _)⟩
  | (k, v) :: es, _, .cons a b => by
    obtain ⟨ks, h1, h2, h3⟩ := pairs_rep b
    cases a with
    | tup l T ys ht hr =>
      obtain ⟨x, y, rfl, r1, r2⟩ := hr.two
      cases r1 with
      | str k t =>
        refine ⟨(k, y) :: ks, by simp [h1], .cons r2 h2, fun i hi kv e => ?_⟩
        cases i with
        | zero => cases e; exact ⟨T, t, rfl, ht⟩
        | succ i => exact h3 i (by simpa using hi) kv (by simpa using e)
theorem fold_rep {h : Heap} : ∀ {es : List (Str × V)} {ks : List (Str × Value)}, RepKs h θ es ks → ∀ {a : List (Str × V)} {b : List (Str × Value)}, RepKs h θ a b → RepKs h θ (es.foldl (fun acc kv => putK acc kv.1 kv.2) a) (ks.foldl (fun acc kv => stored acc kv.1 kv.2) b)
  | _, _, .nil, _, _, r => r
  | _, _, .cons p q, _, _, r => fold_rep q (r.stored p)
theorem CALL_dictP {v : V} {es : List (Str × V)} (hl : isList σ v (es.map pairV)) (hz : es.length ≤ 900) (h : Q (.loc σ.length) (σ ++ [.dictS (es.foldl (fun acc kv => putK acc kv.1 kv.2) [])])) : CALL c d (.raw (.type "dict")) [v] σ Q := fun A s θ f' vs' r I rf rv => by
  cases rf
  obtain ⟨v', rfl, r1⟩ := rv.one
  obtain ⟨a, xs, n, rfl, hL, rl⟩ := I.asL hl r1
  obtain ⟨ks, k1, k2, k3⟩ := pairs_rep rl
  have hxs : xs.length = es.length := by rw [← rl.length]; simp
  refine call_dict_pairs (knd := strKind c.prog c.w) r.handled hL ks (by simp [k1]) (by rw [List.size_toArray, hxs]; omega) (fun i hi kv e => by
    obtain ⟨T, t, e1, e2⟩ := k3 i (by simpa using hi) kv e
    exact ⟨T, _, by simpa using e1, e2, isStr_is _ _⟩) fun h' tk hd' hk => ?_
  obtain ⟨I₁, g₁⟩ := I.alloc (ob := { cls := .type "dict", data := .dict #[] }) (o := .dictS []) (t := tk) ⟨[], Heap.DictOf.new _, .nil⟩
  have en : (θ ++ [s.heap.objs.size])[σ.length]? = some s.heap.objs.size := by rw [← I.rep.len]; simp
  have g2 : Grow s.heap θ h' (θ ++ [s.heap.objs.size]) := ⟨⟨_, rfl⟩, g₁.fresh, fun b o e _ => hk b o e⟩
  have k' : ∀ b o, s.heap.get? b = some o → h'.get? b = some o := hk
  refine ⟨.loc σ.length, _, θ ++ [s.heap.objs.size], ⟨fun b o e => hk _ _ (I.keep b o e), I₁.apart, I₁.nodup, ⟨by simp [I.rep.len], fun j o' b e1 e2 => ?_⟩, I.gens, I.os⟩, g2, .loc _ _ en, h⟩
  by_cases hj : j < σ.length
  · rw [List.getElem?_append_left hj] at e1
    rw [List.getElem?_append_left (I.rep.len ▸ hj)] at e2
    exact (I.rep.obj j o' b e1 e2).moved I.tupOut g2 (fun ob e => hk _ _ e) (fun b' ob e _ => hk _ _ e) I.rep.noFields
  · have hj' : j = σ.length := by
      have := (List.getElem?_eq_some_iff.mp e1).1
      simp at this; omega
    subst hj'
    rw [List.getElem?_append_right (Nat.le_refl _)] at e1
    rw [en] at e2
    simp at e1 e2
    subst e1 e2
    exact ⟨_, hd', fold_rep (k2.grow I.tupOut g2) .nil⟩
end
end Mine
end
section
open PySem PySem.W PySem.Calls PyProof.Rows PySem.MeetsSeq PySem.MeetsSeq2 PySem.MeetsSeq3
set_option linter.unusedVariables false
set_option maxRecDepth 20000
namespace Mine
section
variable {c : Cx} {sc : Sc} {d : Nat} {ρ : Vars} {σ : St} {Q : Post} {R : Fl → Vars → St → Prop} {A : Around} {env : Env} {s s₁ : Shared} {θ θ₁ : List Addr} {x y : Str} {target : Expr}
theorem code_def (C : CxOk c) {a : Addr} {fd : FuncData} {ps : List Str} {body : List Stmt} {vs : List V} {vs' : List Value} (f : FnAt c a fd ps body) (hlen : vs.length = ps.length) (hd : 1 ≤ d)
    (h : EXs c ⟨fd.scope, fd.code⟩ (d - 1) body (binds ps vs []) σ fun fl _ σ' => Q (retOf fl) σ') (r : Room A d) (I : Inv c s θ σ) (rv : RepVs s.heap θ vs vs') :
    codeAny (model c.prog c.w) A (.call (.ref a) ⟨vs', []⟩) (fun r s' => match r with | .ok (.ret v) => OkV c s θ Q v s' | _ => False) s := by
  obtain ⟨o, ho, hdat⟩ := f.at_
  have hz : ∀ x ∈ ps.zip vs', x.1 ∈ ps := fun x hx => (List.of_mem_zip (show (x.1, x.2) ∈ ps.zip vs' from hx)).1
  refine codeAny_call_cells (by have := r.depth; omega) (I.keep _ _ ho) hdat (C.nolimit.keeps I.keep) (f.code.keeps I.keep) f.body (f.bind vs' (by rw [← rv.length]; exact hlen)) f.closure ?_ (fun s₁ X => ?_) f.co f.gen f.kind
  · intro x hx
    rcases f.kinds x.1 (hz x hx) with e | e
    · exact .inl e
    · exact .inr ⟨e, cellsFrom_some _ _ _ (.inl e)⟩
  · obtain ⟨hh, tk, rfl⟩ := X.toInCall.same
    have keep := X.toInCall.keep
    have I₁ : Inv c { s with heap := hh, toks := tk } θ σ := I.keeps keep
    have g₁ : Grow s.heap θ hh θ := grow_keeps keep
    have E₁ : EnvIs ⟨fd.scope, fd.code⟩ (callEnvC fd s.heap.objs.size a) := ⟨rfl, f.globals, f.builtins, rfl, f.kind, fun x hx => cellsFrom_some _ _ _ (.inl hx)⟩
    have above : ∀ n k, (callEnvC fd s.heap.objs.size a).cells.lookup n = some k → s.heap.objs.size < k := fun n k e => X.above n k (mem_of_lookup e)
    have F₁ : FrA c hh θ (callEnvC fd s.heap.objs.size a) (binds ps vs []) := by
      refine ⟨⟨_, _, X.toInCall.ns, X.cell, fun x v hx => ?_⟩, (I.new (Nat.le_refl _)).1, (I.new (Nat.le_refl _)).2, fun n k e => ?_, fun n n' k e e' => ?_⟩
      · have B := Bound.bind (kindOf := (callEnvC fd s.heap.objs.size a).kindOf) (rv.mapM fun q => q.grow I.tupOut g₁) (fun x hx => f.kinds x hx) (ρ := []) (m := fun _ => none) (cm := fun _ => none) (fun _ _ e => by cases e)
        obtain ⟨v', p, q⟩ := B x v hx
        refine ⟨v', p, ?_⟩
        rcases q with q | ⟨q1, q2⟩
        · exact .inl q
        · exact .inr ⟨.inl q1, cellsFrom_some _ _ _ (.inl q1), q2⟩
      · have := above n k e
        exact ⟨Nat.ne_of_gt this, (I.new (Nat.le_of_lt this)).1, (I.new (Nat.le_of_lt this)).2⟩
      · exact name_of_addr X.apart (mem_of_lookup e) (mem_of_lookup e')
    have r₁ : Room (A.deeper (callEnvC fd s.heap.objs.size a)) (d - 1) := by
      have q := r.depth
      have q' := r.units
      have e1 : (A.deeper (callEnvC fd s.heap.objs.size a)).depth = A.depth + 1 := rfl
      have e2 : (A.deeper (callEnvC fd s.heap.objs.size a)).units = A.units + 3 := rfl
      exact ⟨by rw [e1]; omega, by rw [e2]; omega, r.handled⟩
    refine wpAny_mono (h _ _ _ θ r₁ E₁ I₁ F₁) (fun f' s₂ h₂ => ?_) fun _ _ x => x.elim
    obtain ⟨fl, ρ', σ', θ', I₂, _, g₂, rf, q⟩ := h₂
    have G : Grow s.heap θ s₂.heap θ' := g₂.out fun b o e => ⟨keep b o e, fun m => by
      have lt := Heap.lt_size e
      rcases m with e' | ⟨n, e'⟩
      · exact absurd lt (by rw [e']; exact Nat.lt_irrefl _)
      · exact absurd (Nat.lt_trans lt (above n b e')) (Nat.lt_irrefl _)⟩
    cases rf with
    | next => exact ⟨_, σ', θ', I₂, G, .none, q⟩
    | brk => exact ⟨_, σ', θ', I₂, G, .none, q⟩
    | cont => exact ⟨_, σ', θ', I₂, G, .none, q⟩
    | ret rv => exact ⟨_, σ', θ', I₂, G, rv, q⟩
theorem ite_le (p : Prop) [Decidable p] : (if p then 1 else 0) ≤ 1 := by split <;> omega
theorem room_make (r : Room A d) (hd : 1 ≤ d) (args : Args) : Room (A.under (.builtin "type.__call__" args)) (d - 1) := by
  have q := r.depth
  have q' := r.units
  have e1 : (A.under (.builtin "type.__call__" args)).depth ≤ A.depth + 1 := by
    show A.depth + _ ≤ A.depth + 1
    refine Nat.add_le_add_left ?_ _
    have h1 : (Code.builtin "type.__call__" args).isFrame = false := by first | rfl | decide
    have h2 : ¬ "type.__call__" ∈ guardIds := by decide +kernel
    simp [Code.weight, Code.frames, Code.isCreation, Code.isGuard, Code.isCaller, h1, h2]
    exact ite_le _
  have e2 : (A.under (.builtin "type.__call__" args)).units ≤ A.units + 4 := by
    show A.units + _ ≤ A.units + 4
    refine Nat.add_le_add_left ?_ _
    have h1 : (Code.builtin "type.__call__" args).isFrame = false := by first | rfl | decide
    simp [Code.cUnits, Code.frames, h1]
  exact ⟨by omega, by omega, r.handled⟩
theorem CALL_make (Cc : CxOk c) {C f : Addr} {fd : FuncData} {ps : List Str} {body : List Stmt} {vs : List V} (hm : makesIn c.K C = true) (hi : findIn c.K (.ref C) "__init__" = some (some (.ref f))) (hf : typeIn c.K (.ref f) = some (.type "function"))
    (fa : FnAt c f fd ps body) (hlen : vs.length + 1 = ps.length) (hd : 2 ≤ d)
    (h : EXs c ⟨fd.scope, fd.code⟩ (d - 2) body (binds ps (.loc (σ.length + 1) :: vs) []) (σ ++ [.attrs [], .inst C σ.length]) fun fl _ σ' => retOf fl = .none ∧ Q (.loc (σ.length + 1)) σ') : CALL c d (.raw (.ref C)) vs σ Q := fun A s θ f' vs' r I rf rv => by
  cases rf
  refine wpAny_call ?_
  have X := Cc.K.keeps I.keep
  obtain ⟨hh, g, dr, t, os⟩ := s
  refine make_core (makes_of X hm) (looks_findIn X hi) (fun self => bind_fn X self hf) (.inl rfl) ?_
  have A₁ := I.alloc (ob := emptyDict) (o := .attrs []) (t := t) ⟨[], 0, Heap.get?_push_size _ rfl, .nil⟩
  obtain ⟨I₁, g₁⟩ := A₁
  dsimp only at I₁ g₁
  have e0 : (θ ++ [hh.objs.size])[σ.length]? = some hh.objs.size := by rw [← I.rep.len]; simp
  have A₂ := I₁.alloc (ob := instObj C hh.objs.size) (o := .inst C σ.length) (t := t) ⟨hh.objs.size, by
      rw [List.getElem?_append_left (List.getElem?_eq_some_iff.mp e0).1]; exact e0, Heap.get?_push_size _ rfl⟩
  obtain ⟨I₂, g₂⟩ := A₂
  dsimp only at I₂ g₂
  rw [Heap.size_push] at I₂ g₂
  have e1 : ((θ ++ [hh.objs.size]) ++ [hh.objs.size + 1])[σ.length + 1]? = some (hh.objs.size + 1) := by rw [← I.rep.len]; simp
  have gg := g₁.trans g₂
  have eσ : (σ ++ [SO.attrs []]) ++ [SO.inst C σ.length] = σ ++ [.attrs [], .inst C σ.length] := by simp
  rw [eσ] at I₂
  have hb := code_def (Q := fun v σ' => v = .none ∧ Q (.loc (σ.length + 1)) σ') (s := ⟨(hh.push emptyDict).push (instObj C hh.objs.size), g, dr, t, os⟩) Cc fa (vs := .loc (σ.length + 1) :: vs) (d := d - 1) (by simpa using hlen) (by omega) h (room_make r (by omega) ⟨.ref C :: vs', []⟩) I₂ (.cons (.loc _ _ e1) (rv.grow I.tupOut gg))
  refine codeAny_mono hb fun r' s' hr => ?_
  cases r' with
  | error e => exact hr.elim
  | ok fl =>
    cases fl with
    | ret v =>
      obtain ⟨u, σ', θ', I', g', ru, rfl, q⟩ := hr
      cases ru
      exact ⟨rfl, .loc (σ.length + 1), σ', θ', I', gg.trans g', .loc _ _ (g'.at e1), q⟩
    | _ => exact hr.elim
end
end Mine
end
section
open PySem PySem.W PySem.Calls PyProof.Rows PySem.MeetsSeq PySem.MeetsSeq2 PySem.MeetsSeq3
set_option linter.unusedVariables false
set_option maxRecDepth 20000
namespace Mine
section
variable {c : Cx} {sc : Sc} {d : Nat} {ρ : Vars} {σ : St} {Q : Post} {R : Fl → Vars → St → Prop} {A : Around} {env : Env} {s s₁ : Shared} {θ θ₁ : List Addr} {x y : Str} {target : Expr}
end
end Mine
end
section
open PySem PySem.W PySem.Calls PyProof.Rows PySem.MeetsSeq PySem.MeetsSeq2 PySem.MeetsSeq3
set_option linter.unusedVariables false
set_option maxRecDepth 20000
namespace Mine
noncomputable def compB (scope : Scope) (sc : Scope) (x : Str) (xs : List Str) : Bool :=
  scope.kind == .function && scope.names.all (fun y => y.2 != .cell) && scope.names.all (fun y => y.2 != .free || sc.names.lookup y.1 == some .cell) && scope.names.all (fun y => y.2 != .local || scope.names.lookup y.1 == some .local) &&
    ((relabelS scope ⟨sc, .none⟩).names.lookup x == some .local) && xs.all fun y => scope.names.any (fun p => p.1 == y && p.2 == .free) && (relabelS scope ⟨sc, .none⟩).names.lookup y == some .cell
section
variable {c : Cx} {sc : Sc} {d : Nat} {ρ : Vars} {σ : St} {Q : Post} {R : Fl → Vars → St → Prop} {x y : Str}
theorem compB_ok {scope : Scope} {xs : List Str} (h : compB scope sc.scope x xs = true) : scope.kind = .function ∧ (∀ y ∈ scope.names, y.2 ≠ .cell) ∧ (∀ y ∈ scope.names, y.2 = .free → sc.scope.names.lookup y.1 = some .cell) ∧ (∀ y ∈ scope.names, y.2 = .local → scope.names.lookup y.1 = some .local) ∧
    (compSc scope sc).scope.names.lookup x = some .local ∧ ∀ y ∈ xs, (y, .free) ∈ scope.names ∧ (compSc scope sc).scope.names.lookup y = some .cell := by
  unfold compB at h
  simp only [Bool.and_eq_true] at h
  obtain ⟨⟨⟨⟨⟨h1, h2⟩, h3⟩, h4⟩, h5⟩, h6⟩ := h
  refine ⟨beq_iff_eq.mp h1, fun y hy => by simpa using List.all_eq_true.mp h2 y hy, fun y hy hf => ?_, fun y hy hf => ?_, beq_iff_eq.mp h5, fun y hy => ?_⟩
  · have := List.all_eq_true.mp h3 y hy
    rw [hf] at this; simpa using this
  · have := List.all_eq_true.mp h4 y hy
    rw [hf] at this; simpa using this
  · have := List.all_eq_true.mp h6 y hy
    rw [Bool.and_eq_true] at this
    obtain ⟨a, b⟩ := this
    obtain ⟨p, hp, hq⟩ := List.any_eq_true.mp a
    rw [Bool.and_eq_true] at hq
    refine ⟨?_, beq_iff_eq.mp b⟩
    have e1 := beq_iff_eq.mp hq.1
    have e2 := beq_iff_eq.mp hq.2
    obtain ⟨p1, p2⟩ := p
    dsimp only at e1 e2
    subst e1 e2; exact hp
theorem EV_LC {elt iter : Expr} {ts : List Expr} {px : Pos} {scope : Scope} {pos : Pos} {ρc : Vars} (hB : compB scope sc.scope x (ρc.map (·.1)) = true) (hρ : ∀ p ∈ ρc, get ρ p.1 = some p.2)
    (h : ITX c sc d (.Name x px) iter ρ σ fun l K σ₂ => K (σ₂ ++ [.list []]) ∧ COMPS c (compSc scope sc) d elt ts x K σ₂.length (fun vs σ₃ => Q (.loc σ₂.length) σ₃) l [] ρc (σ₂ ++ [.list []]))
    (hs : ∀ env x, foldedSetIterable iter env x = pure x) : EV c sc d (.ListComp elt [⟨.Name x px, iter, ts, 0⟩] scope pos) ρ σ Q := by
  obtain ⟨h1, h2, h3, h4, h5, h6⟩ := compB_ok hB
  exact EV_ListComp h1 h2 h3 h4 h5 (fun p hp => ⟨hρ p hp, h6 _ (List.mem_map.mpr ⟨p, hp, rfl⟩)⟩) h hs
theorem EX_LC {elt iter : Expr} {ts : List Expr} {px py : Pos} {scope : Scope} {pos spos : Pos} {ρc : Vars} (hky : kindOk sc y) (hB : compB scope sc.scope x (ρc.map (·.1)) = true) (hρ : ∀ p ∈ ρc, get ρ p.1 = some p.2)
    (h : ITX c sc d (.Name x px) iter ρ σ fun l K σ₂ => K (σ₂ ++ [.list []]) ∧ COMPS c (compSc scope sc) d elt ts x K σ₂.length (fun vs σ₃ => R .next (put ρ y (.loc σ₂.length)) σ₃) l [] ρc (σ₂ ++ [.list []]))
    (hsw : ∀ env : Env, env.scope = sc.scope → swapsWith (.ListComp elt [⟨.Name x px, iter, ts, 0⟩] scope pos) (some (.Name y py)) spos.line env = pure true)
    (hs : ∀ env x, foldedSetIterable iter env x = pure x) : EX c sc d (.Assign [.Name y py] (.ListComp elt [⟨.Name x px, iter, ts, 0⟩] scope pos) spos) ρ σ R := by
  obtain ⟨h1, h2, h3, h4, h5, h6⟩ := compB_ok hB
  exact EX_AssignComp hky h1 h2 h3 h4 h5 (fun p hp => ⟨hρ p hp, h6 _ (List.mem_map.mpr ⟨p, hp, rfl⟩)⟩) h hsw hs
theorem attrSet {n k : Nat} {C : Addr} {l : List (Str × V)} {attr : Str} {v : V} {p : St → Prop} (hn : σ[n]? = some (.inst C k)) (hk : σ[k]? = some (.attrs l)) (hs : StoreOf c.K C attr) (hz : l.length ≤ 900) (h : p (σ.set k (.attrs (put l attr v)))) :
    ∃ n' k' C' l', V.loc n = .loc n' ∧ σ[n']? = some (.inst C' k') ∧ σ[k']? = some (.attrs l') ∧ StoreOf c.K C' attr ∧ l'.length ≤ 900 ∧ p (σ.set k' (.attrs (put l' attr v))) := ⟨n, k, C, l, rfl, hn, hk, hs, hz, h⟩
theorem Inv.re {s : Shared} {θ : List Addr} {i : Nat} {a : Addr} {o' : SO} (I : Inv c s θ σ) (ha : θ[i]? = some a) (ho : RepO c.prog c.w s.heap θ a o') : Inv c s θ (σ.set i o') := by
  refine ⟨I.keep, I.apart, I.nodup, ⟨by rw [List.length_set]; exact I.rep.len, fun j o b e1 e2 => ?_⟩, I.gens, I.os⟩
  by_cases hij : i = j
  · subst hij
    rw [ha] at e2; cases e2
    have hl : i < σ.length := I.rep.len ▸ (List.getElem?_eq_some_iff.mp ha).1
    rw [List.getElem?_set_self hl] at e1; cases e1
    exact ho
  · rw [List.getElem?_set_ne hij] at e1
    exact I.rep.obj j o b e1 e2
theorem EX_fz {st : Stmt} {n : Nat} {l : List V} (hn : σ[n]? = some (.list l)) (h : ∀ xs k, EX c sc d st ρ (σ.set n (.fz xs k l)) fun f ρ' σ' => σ'[n]? = some (.fz xs k l) ∧ R f ρ' (σ'.set n (.list l))) : EX c sc d st ρ σ R := fun A env s θ r X I F => by
  obtain ⟨a, ha, xs, k, h1, h2⟩ := I.at hn
  refine wpAny_mono (h xs k A env s θ r X (I.re ha ⟨h1, h2⟩) F) (fun f' s₁ h₁ => ?_) fun _ _ x => x
  obtain ⟨f, ρ', σ', θ', I', F', g', rf, hn', q⟩ := h₁
  have ha' : θ'[n]? = some a := by obtain ⟨t, e⟩ := g'.pre; rw [e, List.getElem?_append_left (List.getElem?_eq_some_iff.mp ha).1]; exact ha
  obtain ⟨h1', h2'⟩ := I'.rep.obj n _ a hn' ha'
  exact ⟨f, ρ', _, θ', I'.re (o' := .list l) ha' ⟨xs, k, h1', h2'⟩, F', g', rf, q⟩
end
end Mine
end
section
open PySem PySem.W PySem.Calls PyProof.Rows PySem.MeetsSeq PySem.MeetsSeq2 PySem.MeetsSeq3
set_option linter.unusedVariables false
set_option maxRecDepth 20000
namespace Mine
theorem ints_rep {h : Heap} {θ : List Addr} {xs : List Value} {ns : List Int} (q : IntsAre xs ns) : RepVs h θ (ns.map .int) xs := by
  induction q with
  | nil => exact .nil
  | cons n t r ih => exact .cons (.int _ _) ih
section
variable {c : Cx} {sc : Sc} {d : Nat} {ρ : Vars} {σ : St} {Q : Post} {R : Fl → Vars → St → Prop} {x y : Str}
theorem EV_SliceScript {value hi : Expr} {p pos : Pos} {ad : Addr} {xs : List Value} {ns : List Int} {b : Nat} (hL : c.hb.IsList ad xs.toArray) (hI : IntsAre xs ns) (hlen : ns.length ≤ 9000)
    (h : EV c sc d value ρ σ fun v σ₁ => v = .raw (.ref ad) ∧ EVP c sc d (some hi) ρ σ₁ fun o σ₃ => o = some b ∧ Q (.lst ((ns.take b).map .int)) σ₃)
    (hg : ∀ o r, letTemporaryGo value o r = pure ()) : EV c sc d (.Subscript value (.Slice none (some hi) none p) pos) ρ σ Q := fun A env s θ r X I F => by
  refine wpAny_Subscript_Slice slot_list_getitem.lookup (wpAny_mono (h A env s θ r X I F) (fun o' s₁ h₁ => ?_) fun _ _ x => x) hg
  obtain ⟨v, σ₁, θ₁, I₁, g₁, rv, rfl, q⟩ := h₁
  have F₁ := F.grow I.tupOut g₁
  refine wpAny_Slice (wpAny_evalPart_none (EVP_ok q r X I₁ F₁ fun vb s₃ σ₃ θ₃ b' I₃ g₃ pb q₃ => wpAny_evalPart_none ?_))
  obtain ⟨rfl, q⟩ := q₃
  cases rv
  obtain ⟨I₄, g₄⟩ := pushed I₃ { cls := .type "slice", data := .fields #[.none, vb, .none] } s₃.toks
  have rl : RepVs s₃.heap θ₃ (ns.map .int) xs := ints_rep hI
  have hl' : (s₃.heap.push { cls := .type "slice", data := .fields #[.none, vb, .none] }).IsList ad xs.toArray := (hL.at fun o e => I₃.keep _ _ e).push _
  refine ⟨hl'.typeIs, ?_⟩
  obtain ⟨ys, e1, e2, e3⟩ := pick_rep rl (lo := none) (hi := some b) rfl
  refine wpAny_getItem_list_slice hl' ⟨_, Heap.get?_push_size _ rfl, rfl, rfl⟩ .none pb.isPart .none (by simp) ?_ (by rw [List.size_toArray, ← rl.length, sizeLine_eq]; simp; omega)
  rw [show (Option.map Int.ofNat none : Option Int) = none from rfl] at e1
  rw [e1]
  rw [← List.map_take] at e2
  exact .trans ((g₁.trans g₃).trans g₄) (I₄.frozen (t := s₃.toks) (e2.grow I₃.tupOut g₄) q)
end
end Mine
end
section
open PySem PySem.W PySem.Calls PyProof.Rows PySem.MeetsSeq PySem.MeetsSeq2 PySem.MeetsSeq3
set_option linter.unusedVariables false
set_option maxRecDepth 20000
namespace Mine
noncomputable def strsOf : List Value → Option (List Str)
  | [] => some []
  | .str x _ :: r => (strsOf r).map (x :: ·)
  | _ => none
theorem strsOf_rep {h : Heap} {θ : List Addr} {xs : List Value} : ∀ {ys : List Str}, strsOf xs = some ys → RepVs h θ (ys.map .str) xs := by
  induction xs with
  | nil => intro ys e; cases e; exact .nil
  | cons v r ih =>
    intro ys e
    cases v with
    | str x t =>
      unfold strsOf at e
      cases h2 : strsOf r with
      | none => rw [h2] at e; cases e
      | some zs => rw [h2] at e; cases e; exact .cons (.str _ _) (ih h2)
    | _ => simp [strsOf] at e
noncomputable def strsIn (K : Frag) (x : Str) : Option (List Str) := match nsIn K mainGlobals x with
  | some (some (.ref a)) => (match K.lookup a with
    | some ⟨.type t, none, .seq items n, ⟨[]⟩⟩ => if t = "tuple" then strsOf items.toList else none
    | _ => none)
  | _ => none
noncomputable def rawIn (K : Frag) (x : Str) : Option Value := match nsIn K mainGlobals x with
  | some (some v) => some v
  | some none => bootBuiltins x
  | none => none
noncomputable def isTupV' : V → Bool
  | .tup _ => true
  | _ => false
noncomputable def valIn (K : Frag) (p : Str × V) : Option V := if isTupV' p.2 then (strsIn K p.1).map fun ys => .tup (ys.map .str) else (rawIn K p.1).map .raw
theorem get_mem' {α : Type} : ∀ {l : List (Str × α)} {x : Str} {v : α}, get l x = some v → (x, v) ∈ l
  | (y, u) :: r, x, v, e => by
    unfold get at e
    split at e
    · rename_i h; subst h; cases e; exact List.mem_cons_self
    · exact List.mem_cons_of_mem _ (get_mem' e)
theorem CxOk.of {c : Cx} {p : Program} {loose : List Str} {mean : ExcName → Option Value} {mg mb : Str → Option Value} (X : c.K.In c.hb) (T : Top p loose mean mg mb c.hb)
    (hg : c.gl.map (fun q => valIn c.K q) = c.gl.map (fun q => some q.2)) (hn : c.gl.all (fun q => q.1 != "__name__") = true) : CxOk c where
  K := X
  nolimit := T.nolimit
  names := by
    refine ⟨mg, mb, T.g, T.b, fun x v e => ?_⟩
    have hm := get_mem' e
    have hx : x ≠ "__name__" := by simpa using List.all_eq_true.mp hn _ hm
    have hv : valIn c.K (x, v) = some v := by
      have := List.map_inj_left.mp hg _ hm
      exact this
    unfold valIn at hv
    split at hv
    · obtain ⟨ys, h1, h2⟩ := Option.map_eq_some_iff.mp hv
      subst h2
      unfold strsIn at h1
      split at h1
      · rename_i a hns
        split at h1
        · rename_i t items n hl
          split at h1
          · rename_i ht
            subst ht
            exact ⟨.ref a, .tup _ a items.toList ⟨n, X _ _ hl⟩ (strsOf_rep h1), .inl (mg_of X T.g hns)⟩
          · cases h1
        · cases h1
      · cases h1
    · obtain ⟨u, h1, h2⟩ := Option.map_eq_some_iff.mp hv
      subst h2
      refine ⟨u, .raw u, ?_⟩
      unfold rawIn at h1
      split at h1
      · rename_i v' hns; cases h1; exact .inl (mg_of X T.g hns)
      · rename_i hns; exact .inr ⟨mg_none_of X T.g hns, (T.builtins x hx).trans h1⟩
      · cases h1
  bmain := by
    obtain ⟨bm, ob, h1, h2, h3, h4, h5, h6⟩ := T.bmain
    refine ⟨mg, bm, ob, T.g, h1, h2, fun e => ?_, h3, h4, h5, h6⟩
    obtain ⟨o, es, ep, e1, hd, _⟩ := T.g
    subst e
    rw [h3] at e1; cases e1
    rw [h6] at hd; cases hd
theorem cells_above : ∀ (names : List (Str × NameKind)) (n lo : Nat) (acc : List (Str × Addr)), lo < n → (∀ p ∈ acc, lo < p.2 ∧ p.2 < n) → acc.Pairwise (fun x y => x.2 ≠ y.2) →
    (∀ p ∈ cellsFrom n names acc, lo < p.2) ∧ (cellsFrom n names acc).Pairwise (fun x y => x.2 ≠ y.2)
  | [], n, lo, acc, _, h, hp => ⟨fun p m => (h p m).1, hp⟩
  | (name, kind) :: r, n, lo, acc, hn, h, hp => by
    unfold cellsFrom
    split
    · refine cells_above r (n + 1) lo _ (by omega) (fun p m => ?_) (List.pairwise_cons.mpr ⟨fun y hy e => ?_, hp⟩)
      · rcases List.mem_cons.mp m with rfl | m
        · exact ⟨hn, Nat.lt_succ_self _⟩
        · have := h p m; exact ⟨this.1, Nat.lt_succ_of_lt this.2⟩
      · exact absurd (h y hy).2 (by rw [← show n = y.2 from e]; exact Nat.lt_irrefl _)
    · exact cells_above r n lo acc hn h hp
theorem room_caller {env : Env} : Room (callerA.deeper env) 40 := ⟨by show callerA.depth + 1 + 2 * 40 + 5 < recursionLimit; decide, by show callerA.units + 3 + 8 * 40 + 40 < cLine; decide, rfl⟩
end Mine
end
section
open PySem PySem.W PySem.Calls PyProof.Rows
set_option linter.unusedVariables false
set_option maxRecDepth 100000
namespace Mine
theorem standIn_led (t : SetTable) (n : Nat) : (t.orStandIn n).led = t.led ∧ (t.plain = false → (t.orStandIn n).plain = false) := by
  unfold SetTable.orStandIn
  split
  · exact ⟨rfl, fun h => h⟩
  · exact ⟨rfl, fun _ => rfl⟩
theorem layNew_led (t : SetTable) (es : Array (Int × Value)) (h : Int) (x : Value) : (layNew t es h x).2.1.led = t.led ∧ (t.plain = false → (layNew t es h x).2.1.plain = false) := by
  unfold layNew
  split
  · rename_i slot wd _
    have a := standIn_led (t.put slot).1 (SetTable.insertAt es (t.put slot).2 (h, x)).size
    exact ⟨a.1, fun hp => a.2 hp⟩
  · exact ⟨rfl, fun _ => rfl⟩
theorem laid_led {mask finger moves : Nat} {led plain : Bool} {hs : Array Int} {r : SetTable × Array Nat} (e : SetTable.laid mask finger moves led plain hs = some r) : r.1.led = led ∧ r.1.plain = plain := by
  unfold SetTable.laid at e
  cases h : SetTable.layClean mask hs with
  | none => rw [h] at e; cases e
  | some o => rw [h] at e; cases e; exact ⟨rfl, rfl⟩
theorem relayAll_led (t : SetTable) (es : Array (Int × Value)) (n : Nat) : (relayAll t es n).2.1.led = t.led ∧ (t.plain = false → (relayAll t es n).2.1.plain = false) := by
  unfold relayAll
  split
  · rename_i t' order e
    have := laid_led e
    dsimp only
    split
    · exact ⟨this.1, fun h => this.2.trans h⟩
    · exact ⟨rfl, fun _ => rfl⟩
  · exact ⟨rfl, fun _ => rfl⟩
noncomputable def keyOf : Value → Str
  | .str x _ => x
  | _ => default
section
variable {prog : Program} {w : World} {A : Around} {E : Value → Shared → Prop} {s : Shared}
noncomputable abbrev SK (prog : Program) (w : World) := PySem.strKind prog w
theorem str_key {k : Str} {v : Value} (h : (SK prog w).is k v = true) : ∃ t, v = .str k t := Value.isStrOf_shape h
noncomputable def SetIs (prog : Program) (w : World) (h : Heap) (a : Addr) (b : Bool) (l : List Str) : Prop :=
  ∃ es ep t, h.get? a = some { cls := .type "set", dict := none, data := .set es ep t, slots := #[] } ∧ ElemsOf (SK prog w) es.toList ∧ t.fits es.size = true ∧ t.led = !b ∧ (es.size ≠ 0 → t.plain = false) ∧
    (es.toList.map fun e => keyOf e.2).Perm l
theorem SetIs.size {l : List Str} {es : Array (Int × Value)} (p : (es.toList.map fun e => keyOf e.2).Perm l) : es.size = l.length := by
  rw [← p.length_eq, List.length_map, Array.length_toList]
theorem elem_key {es : List (Int × Value)} (h : ElemsOf (SK prog w) es) (k : Str) : k ∈ es.map (fun e => keyOf e.2) ↔ ∃ e ∈ es, (SK prog w).is k e.2 = true := by
  rw [List.mem_map]
  constructor
  · rintro ⟨e, he, rfl⟩
    obtain ⟨⟨k', hk, _⟩, _⟩ := h e he
    obtain ⟨t, e2⟩ := str_key hk
    refine ⟨e, he, ?_⟩
    rw [e2] at hk ⊢
    exact hk
  · rintro ⟨e, he, hk⟩
    obtain ⟨t, e2⟩ := str_key hk
    exact ⟨e, he, by rw [e2]; rfl⟩
theorem set_store {h : Heap} {a : Addr} {b : Bool} {l : List Str} {es es' : Array (Int × Value)} {ep : Nat} {t t' : SetTable} (ho : h.get? a = some { cls := .type "set", dict := none, data := .set es ep t, slots := #[] })
    (hel : ElemsOf (SK prog w) es'.toList) (hf : t'.fits es'.size = true) (hl : t'.led = !b) (hp : t'.plain = false) (hq : (es'.toList.map fun e => keyOf e.2).Perm l) :
    (h.update a (Obj.putSet es' t')).get? a = some { cls := .type "set", dict := none, data := .set es' (ep + 1) t', slots := #[] } ∧ SetIs prog w (h.update a (Obj.putSet es' t')) a b l := by
  have e := Heap.get?_update_self (Obj.putSet es' t') ho rfl
  exact ⟨e, es', ep + 1, t', e, hel, hf, hl, fun _ => hp, hq⟩
theorem setAdd_str {a : Addr} {b : Bool} {l : List Str} {k : Str} {tk : Tok} {Q : Bool → Shared → Prop} (hS : SetIs prog w s.heap a b l) (hz : l.length + 1 < scanBound)
    (h : ∀ r h', Heap.SameBut a s.heap h' → SetIs prog w h' a b (if k ∈ l then l else l ++ [k]) → Q r { s with heap := h', toks := s.toks + 1 }) : wpAny (model prog w) A (setAdd a (.str k tk)) Q E s := by
  have hkey : (SK prog w).is k (.str k tk) = true := strKind_is prog w k tk
  have hsc : (Value.str k tk).scannable = true := rfl
  obtain ⟨es, ep, t, ho, hel, hf, hl, hp, hq⟩ := hS
  have hsz := SetIs.size hq
  have hb : es.size < scanBound := by omega
  have hmem : k ∈ l ↔ ∃ e ∈ es.toList, (SK prog w).is k e.2 = true := by rw [← elem_key hel]; exact (hq.mem_iff).symm
  unfold setAdd
  refine wpAny_holding (wpAny_bind ((SK prog w).pyHash hkey ?_))
  unfold setAddHashed setAddHashedIn
  refine wpAny_holding (wpAny_bind (wpAny_setState_of (s := { s with toks := s.toks + 1 }) ho rfl hf ?_))
  dsimp only
  rw [byScan_of hsc hb hel, if_pos rfl]
  unfold setAddByScan
  refine wpAny_bind (wpAny_bind (wpAny_rule (wpAny_bind (wpAny_setScan_of (s := { s with toks := s.toks + 1 }) hkey ho rfl hf hel ?_))))
  have gw : ∀ (b : Bool) (s₁ : Shared) (Q' : Unit → Shared → Prop), Q' () s₁ → wpAny (model prog w) A (match b with | true => rule "set.scan.the-table-gave-way" | false => pure ()) Q' E s₁ :=
    fun b s₁ Q' q => by cases b <;> first | exact wpAny_pure q | exact wpAny_rule q
  cases hr : List.findIdx? (fun e => (SK prog w).is k e.2) es.toList with
  | some j =>
    obtain ⟨hj, hpj, _⟩ := List.findIdx?_eq_some_iff_getElem.mp hr
    have hk : k ∈ l := hmem.mpr ⟨_, List.getElem_mem hj, hpj⟩
    rw [if_pos hk] at h
    exact wpAny_pure (wpAny_pure (h _ s.heap (Heap.SameBut.refl ..) ⟨es, ep, t, ho, hel, hf, hl, hp, hq⟩))
  | none =>
    have hk : k ∉ l := fun hk => by
      obtain ⟨e, he, q⟩ := hmem.mp hk
      have := List.findIdx?_eq_none_iff.mp hr e he
      rw [q] at this; cases this
    rw [if_neg hk] at h
    have p1 := layNew_perm t es ((SK prog w).hash k) (.str k tk)
    have f1 := layNew_fits t es ((SK prog w).hash k) (.str k tk)
    have d1 := layNew_led t es ((SK prog w).hash k) (.str k tk)
    generalize layNew t es ((SK prog w).hash k) (.str k tk) = N at p1 f1 d1 ⊢
    obtain ⟨es1, t1, wd, gave⟩ := N
    dsimp only at p1 f1 d1 ⊢
    rw [Array.toList_push] at p1
    have el1 : ElemsOf (SK prog w) es1.toList := (hel.push hkey hsc).perm p1
    have q1 : (es1.toList.map fun e => keyOf e.2).Perm (l ++ [k]) := (p1.map _).trans (by rw [List.map_append]; exact hq.append_right _)
    have z1 : es1.size ≤ sizeLine := by rw [SetIs.size q1, sizeLine_eq]; simp; have : scanBound = 4096 := rfl; omega
    refine wpAny_bind (gw _ _ _ ?_)
    have tail : ∀ (g : Bool → Sem Unit), (∀ (b : Bool) (s₁ : Shared) (Q' : Unit → Shared → Prop), Q' () s₁ → wpAny (model prog w) A (g b) Q' E s₁) → ∀ t2 : SetTable, t2.led = !b → t2.plain = false → t2.fits es1.size = true →
        wpAny (model prog w) A (do
          storeSet a es1 t2
          if (!wd && t2.tooFull) = true then do
            g (relayAll t2 es1 (SetTable.grown es1.size)).2.2
            storeSet a (relayAll t2 es1 (SetTable.grown es1.size)).1 (relayAll t2 es1 (SetTable.grown es1.size)).2.1
            pure (some true)
          else pure (some true)) (fun r s₂ => wpAny (model prog w) A (match r with | some added => pure added | none => setAddHashedIn a (.str k tk) ((SK prog w).hash k) 99999) Q E s₂) E { s with toks := s.toks + 1 } := by
      intro g hg t2 hl2 hp2 hf2
      refine wpAny_bind (wpAny_storeSet_of ho rfl ?_ z1)
      obtain ⟨o1, S1⟩ := set_store (w := w) (prog := prog) (b := b) ho el1 hf2 hl2 hp2 q1
      split
      · have p2 := relayAll_perm t2 es1 (SetTable.grown es1.size)
        have f2 := relayAll_fits t2 es1 (SetTable.grown es1.size)
        have d2 := relayAll_led t2 es1 (SetTable.grown es1.size)
        generalize relayAll t2 es1 (SetTable.grown es1.size) = N2 at p2 f2 d2 ⊢
        obtain ⟨es2, t3, g2⟩ := N2
        dsimp only at p2 f2 d2 ⊢
        have q2 : (es2.toList.map fun e => keyOf e.2).Perm (l ++ [k]) := (p2.map _).trans q1
        have z2 : es2.size ≤ sizeLine := by rw [SetIs.size q2, ← SetIs.size q1]; exact z1
        refine wpAny_bind (hg _ _ _ ?_)
        refine wpAny_bind (wpAny_storeSet_of o1 rfl ?_ z2)
        obtain ⟨_, S2⟩ := set_store (w := w) (prog := prog) (b := b) o1 (el1.perm p2) f2 (d2.1.trans hl2) (d2.2 hp2) q2
        exact wpAny_pure (wpAny_pure (h _ _ ((Heap.SameBut.update ..).trans (Heap.SameBut.update ..)) S2))
      · exact wpAny_pure (wpAny_pure (h _ _ (Heap.SameBut.update ..) S1))
    split
    · rw [hashByValue_scannable 8 hsc]
      refine wpAny_bind (wpAny_pure ?_)
      refine tail _ ?_ _ (d1.1.trans hl) rfl (SetTable.fits_plain_off f1)
      intro b s₁ Q' q; cases b <;> first | exact wpAny_pure q | exact wpAny_rule q
    · rename_i hpl
      refine wpAny_bind (wpAny_pure ?_)
      refine tail _ ?_ _ (d1.1.trans hl) (by simpa using hpl) f1
      intro b s₁ Q' q; cases b <;> first | exact wpAny_pure q | exact wpAny_rule q
noncomputable def addAll (ys l : List Str) : List Str := ys.foldl (fun l k => if k ∈ l then l else l ++ [k]) l
theorem addAll_len : ∀ (ys l : List Str), (addAll ys l).length ≤ l.length + ys.length
  | [], l => by simp [addAll]
  | y :: ys, l => by
    show (addAll ys (if y ∈ l then l else l ++ [y])).length ≤ _
    have := addAll_len ys (if y ∈ l then l else l ++ [y])
    have h2 : (if y ∈ l then l else l ++ [y]).length ≤ l.length + 1 := by split <;> simp
    simp only [List.length_cons]; omega
theorem addAll_mem : ∀ (ys l : List Str) (k : Str), k ∈ addAll ys l ↔ k ∈ l ∨ k ∈ ys
  | [], l, k => by simp [addAll]
  | y :: ys, l, k => by
    show k ∈ addAll ys (if y ∈ l then l else l ++ [y]) ↔ _
    rw [addAll_mem ys]
    by_cases hy : y ∈ l
    · rw [if_pos hy]; simp only [List.mem_cons]
      constructor
      · rintro (h | h) <;> simp [h]
      · rintro (h | h | h) <;> simp_all
    · rw [if_neg hy]; simp only [List.mem_append, List.mem_cons, List.not_mem_nil, or_false, or_assoc]
theorem addAll_nodup : ∀ (ys l : List Str), l.Nodup → (addAll ys l).Nodup
  | [], l, h => h
  | y :: ys, l, h => by
    show (addAll ys (if y ∈ l then l else l ++ [y])).Nodup
    refine addAll_nodup ys _ ?_
    split
    · exact h
    · rename_i hy
      rw [List.nodup_append]
      exact ⟨h, by simp, fun a ha b hb e => by
        have : b = y := by simpa using hb
        subst this; subst e; exact hy ha⟩
theorem plain_set_loop : plainId "set.update.loop" = true := by decide +kernel
theorem entry_set_loop : entryFor table "set.update.loop" = some Builtin.«set.update.loop» := entryFor_of_tree (by kernel_rfl)
theorem set_loop {R : Result → Shared → Prop} {D I l : Addr} {items : Array Value} {b : Bool} (hne : l ≠ I) (hDI : D ≠ I) (hDl : D ≠ l) (hA : A.handled = none) (ys : List Str) (hlen : items.size = ys.length) (hz : items.size ≤ 1000)
    (hit : ∀ i (h : i < items.size) (y : Str), ys[i]? = some y → ∃ t, items[i] = .str y t)
    (hR : ∀ h' tk, SetIs prog w h' D b (addAll ys []) → (∀ b o, b ≠ D → b ≠ I → s.heap.get? b = some o → h'.get? b = some o) → R (.ok (.ret .none)) { s with heap := h', toks := tk }) :
    ∀ (j : Nat) (i : Nat) (h' : Heap) (tk : Nat), items.size - i = j → i ≤ items.size → SetIs prog w h' D b (addAll (ys.take i) []) → h'.IsListIter I l i → h'.IsList l items → (∀ b o, b ≠ D → b ≠ I → s.heap.get? b = some o → h'.get? b = some o) →
      codeAny (model prog w) A (.builtin "set.update.loop" ⟨[.ref D, .ref I], []⟩) R { s with heap := h', toks := tk } := by
  have ext : ∀ {h h' : Heap} {a x : Addr} {l : List Str}, SetIs prog w h a b l → Heap.ExtBut x h h' → a ≠ x → SetIs prog w h' a b l := fun ⟨es, ep, t, e, r⟩ hx hn => ⟨es, ep, t, hx _ _ hn e, r⟩
  intro j
  induction j with
  | zero =>
    intro i h' tk hj hi hd hI hl hk
    have hi' : i = ys.length := by omega
    subst hi'
    refine codeAny_builtin entry_set_loop ?_
    rw [Around.under_plainId plain_set_loop _]
    unfold Builtin.«set.update.loop»
    refine wpAny_bind (wpAny_pyNext_list_end hA hI hl (by simp; omega) fun h₁ he => ?_)
    rw [List.take_length] at hd
    exact wpAny_pure (hR _ _ (ext hd he hDI) fun b o h1 h2 e => he b o h2 (hk b o h1 h2 e))
  | succ j ih =>
    intro i h' tk hj hi hd hI hl hk
    have hlt : i < items.size := by omega
    have hks : i < ys.length := by omega
    refine codeAny_builtin entry_set_loop ?_
    rw [Around.under_plainId plain_set_loop _]
    unfold Builtin.«set.update.loop»
    refine wpAny_bind (wpAny_pyNext_list_item hI hl (x := items[i]) (by simp [hlt]) fun h₁ hI₁ hs => ?_)
    have hk₁ : ∀ b o, b ≠ D → b ≠ I → s.heap.get? b = some o → h₁.get? b = some o := fun b o n1 n2 e => hs.extBut b o n2 (hk b o n1 n2 e)
    obtain ⟨t, e1⟩ := hit i hlt ys[i] (List.getElem?_eq_getElem hks)
    rw [e1]
    have hlen2 : (addAll (ys.take i) []).length + 1 < scanBound := by
      have h1 := addAll_len (ys.take i) []
      have h2 : (ys.take i).length ≤ i := by simp; omega
      have h3 : scanBound = 4096 := rfl
      have h4 : ([] : List Str).length = 0 := rfl
      omega
    refine wpAny_bind (wpAny_holding (setAdd_str (b := b) (s := { s with heap := h₁, toks := tk }) (ext hd hs.extBut hDI) hlen2 fun r h₂ hs₂ hd₂ => ?_))
    refine wpAny_pure ⟨plainId_quiet plain_set_loop _, ih (i + 1) h₂ _ (by omega) hlt ?_ ?_ ?_ ?_⟩
    · have e2 : ys.take (i + 1) = ys.take i ++ [ys[i]] := by rw [List.take_add_one, List.getElem?_eq_getElem hks]; rfl
      rw [e2]
      show SetIs prog w h₂ D b (List.foldl _ _ _)
      rw [List.foldl_append]; exact hd₂
    · exact hI₁.at fun o e => (hs₂.2 I hDI.symm).trans e
    · exact (hl.extBut hs.extBut hne).at fun o e => (hs₂.2 l hDl.symm).trans e
    · exact fun b o n1 n2 e => (hs₂.2 b n1).trans (hk₁ b o n1 n2 e)
theorem newCall_set_1 (a : Value) : checkBuiltinCall "set.__new__" ⟨[.type "set", a], []⟩ = pure () := by kernel_rfl
theorem typeCall_set_1 (a : Value) : checkTypeCall "set" ⟨[a], []⟩ = pure () := by kernel_rfl
noncomputable def byText (w : World) : Bool := w.params.followText "set-order"
theorem code_set_new1 (a : Value) {Q₁ : Value → Shared → Prop}
    (h : Q₁ (.ref s.heap.objs.size) { s with heap := s.heap.push { cls := .type "set", dict := none, data := .set #[] 0 (.fresh 0 0 (!byText w)) } }) :
    codeAny (model prog w) A (.call (.builtin "set.__new__") ⟨[.type "set", a], []⟩) (wants Q₁ E) s := by
  refine codeAny_of_tree ?_
  show wpAny _ A.in1 (do checkBuiltinCall "set.__new__" ⟨[.type "set", a], []⟩; again (.builtin "set.__new__" ⟨[.type "set", a], []⟩)) _ _ s
  refine wpAny_bind (wpAny_of_eq (newCall_set_1 a) (wpAny_pure ⟨plainId_quiet F.plain_set_new _, codeAny_builtin F.entry_set_new ?_⟩))
  rw [Around.under_plainId F.plain_set_new _]
  unfold Builtin.«set.__new__» Builtin.Frozenset.newClass
  have hsub := sub_set_self
  obtain ⟨hp, g, d, tk, os⟩ := s
  dsimp only
  wp_walk
  refine wpAny_askSetting (wpAny_pure ?_)
  dsimp only
  simp only [newObj]
  refine wpAny_bind (wpAny_alloc (wpAny_pure ?_))
  exact wpAny_pure h
theorem check_set_init1 {M : Model} {self x : Value} {Q : Unit → Shared → Prop} (hT : s.TypeIs self "set") (hQ : Q () s) :
    wpAny M A (checkBuiltinCall "set.__init__" ⟨[self, x], []⟩) Q E s := by
  simp only [checkBuiltinCall, kind_set_init, split_set_init, sig_set_init]
  refine wpAny_bind (wpAny_isInstance hT sub_set_self ?_)
  simp only [Bool.not_true, Bool.false_eq_true, if_false]
  unfold Bind.checkArgs
  dsimp only
  refine wpAny_bind (m := Bind.printed "set" true _ _) (PyProof.Rows.printed_name (by decide) ?_)
  refine wpAny_bind (m := Bind.printed "*" false _ _) (PyProof.Rows.printed_star (self := self) rfl hT fun short => ?_)
  have hrn : (Manifest.Receiver.self == Manifest.Receiver.none) = false := by decide
  have hn : (if (Manifest.Receiver.self == Manifest.Receiver.none) = true then [self, x].length else [self, x].length - 1) = 1 := by simp [hrn]
  rw [hn]
  simp only [List.map_nil]
  have hc : Bind.check ⟨.positional, "set", "*", .self, [⟨"iterable", .posOnly, false⟩]⟩ "set" short 1 [] = pure () := by
    simp [Bind.check, Bind.checkCount, Bind.isPositional]
    intro h; exact absurd h (by decide)
  rw [hc]
  exact wpAny_pure hQ
theorem typeName_set : typeName (.type "set") = pure "set" := by unfold typeName; rw [find?_eq_fast]; kernel_rfl
theorem cut_set {n : Nat} {a : Addr} {M : Model} {Q : String → Shared → Prop} (hT : s.TypeIs (.ref a) "set") (h : Q "set" s) : wpAny M A (typeNameOfCut n (.ref a)) Q E s := by
  unfold typeNameOfCut shownTypeOf
  refine wpAny_bind (wpAny_bind (wpAny_typeOf hT ?_))
  simp only [show (Value.type "set" == Value.type "builtin_function_or_method") = false by decide, Bool.false_eq_true, if_false]
  refine wpAny_pure ?_
  rw [show typeNameCut n (.type "set") = typeName (.type "set") from rfl, typeName_set]
  exact wpAny_pure h
theorem set_init {R : Result → Shared → Prop} {S l : Addr} {xs : Array Value} {k : Nat} (hA : A.handled = none) (hl : s.heap.get? l = some { cls := .type "list", dict := none, data := .seq xs k, slots := #[] }) (hne : S ≠ l)
    (hS : s.heap.get? S = some { cls := .type "set", dict := none, data := .set #[] 0 (.fresh 0 0 (!byText w)) }) (ys : List Str) (hlen : xs.size = ys.length) (hz : xs.size ≤ 1000)
    (hit : ∀ i (h : i < xs.size) (y : Str), ys[i]? = some y → ∃ t, xs[i] = .str y t)
    (hR : ∀ h' tk, SetIs prog w h' S (byText w) (addAll ys []) → (∀ b o, b ≠ S → s.heap.get? b = some o → h'.get? b = some o) → R (.ok (.ret .none)) { s with heap := h', toks := tk }) :
    wpAny (model prog w) A.in1.in1 (Builtin.«set.__init__» ⟨[.ref S, .ref l], []⟩)
      (fun fin s' => match fin with | .done f => R (.ok f) s' | .again c' => c'.quiet = true ∧ codeAny (model prog w) A.in1 c' R s') (fun e s' => R (.error e) s') s := by
  have hT : s.TypeIs (.ref S) "set" := ⟨_, hS, rfl⟩
  have hTl : s.TypeIs (.ref l) "list" := ⟨_, hl, rfl⟩
  unfold Builtin.«set.__init__»
  refine wpAny_bind (m := noKeywords "set" _) (wpAny_pure ?_)
  dsimp only
  refine wpAny_bind (cut_set hT ?_)
  refine wpAny_bind (m := checkCount _ 0 1 _) (wpAny_pure ?_)
  refine wpAny_bind (m := Builtin.Frozenset.addrOf _) (wpAny_pure ?_)
  have used : ∀ {Q : Bool → Shared → Prop}, Q false s → wpAny (model prog w) A.in1.in1 (setUsed S) Q (fun e s' => R (.error e) s') s := fun q => by
    unfold setUsed
    exact wpAny_bind (wpAny_setState_of hS rfl (by rfl) (wpAny_pure q))
  refine wpAny_bind (used ?_)
  rw [if_neg Bool.false_ne_true]
  refine wpAny_bind ?_
  unfold Builtin.Frozenset.updateFrom Builtin.Frozenset.isAnySet
  refine wpAny_bind (wpAny_bind (wpAny_isInstance (T := "list") (b := false) hTl (by rw [isSubtype_type]; kernel_rfl) ?_))
  show wpAny _ _ (isInstance (Value.ref l) (Value.type "frozenset")) _ _ _
  refine wpAny_isInstance (T := "list") (b := false) hTl (by rw [isSubtype_type]; kernel_rfl) ?_
  rw [if_neg Bool.false_ne_true]
  refine wpAny_bind (wpAny_typeOf hTl ?_)
  rw [if_neg (by decide)]
  refine wpAny_bind (wpAny_pyIter_list ⟨_, hl, rfl, k, rfl⟩ ?_)
  have hSlt : S < s.heap.objs.size := Heap.lt_size hS
  have hllt : l < s.heap.objs.size := Heap.lt_size hl
  have hl2 := Heap.get?_push_of_some ({ cls := .type "list_iterator", data := .fields #[.ref l, .int 0 0] } : Obj) hl
  have hS2 := Heap.get?_push_of_some ({ cls := .type "list_iterator", data := .fields #[.ref l, .int 0 0] } : Obj) hS
  have S0 : SetIs prog w (s.heap.push { cls := .type "list_iterator", data := .fields #[.ref l, .int 0 0] }) S (byText w) [] := ⟨#[], 0, _, hS2, fun e he => by simp at he, by rfl, rfl, fun h => absurd rfl h, .nil⟩
  have L := set_loop (s := { s with heap := s.heap.push { cls := .type "list_iterator", data := .fields #[.ref l, .int 0 0] } }) (A := A.in1.in1) (D := S) (I := s.heap.objs.size) (l := l) (items := xs) (b := byText w) (prog := prog) (w := w)
    (R := fun r s₂ => r = .ok (.ret .none) ∧ R (.ok (.ret .none)) s₂) (Nat.ne_of_lt hllt) (Nat.ne_of_lt hSlt) hne hA ys hlen hz hit
    (fun h' tk hd hk => ⟨rfl, hR h' tk hd fun b o n e => hk b o n (Nat.ne_of_lt (Heap.lt_size e)) (Heap.get?_push_of_some _ e)⟩)
    xs.size 0 _ s.toks (by simp) (Nat.zero_le _) (by simpa [addAll] using S0) ⟨_, Heap.get?_push_size _ rfl, rfl, rfl⟩ ⟨_, hl2, rfl, k, rfl⟩ (fun _ _ _ _ e => e)
  refine wpAny_bind (wpAny_runValue (codeAny_mono L fun r s₂ ⟨e, q⟩ => ?_))
  subst e
  exact wpAny_pure (wpAny_pure q)
theorem call_set_list {l : Addr} {xs : Array Value} {k : Nat} {Q : Value → Shared → Prop} (hA : A.handled = none) (hl : s.heap.get? l = some { cls := .type "list", dict := none, data := .seq xs k, slots := #[] }) (ys : List Str) (hlen : xs.size = ys.length) (hz : xs.size ≤ 1000)
    (hit : ∀ i (h : i < xs.size) (y : Str), ys[i]? = some y → ∃ t, xs[i] = .str y t)
    (h : ∀ h' tk, SetIs prog w h' s.heap.objs.size (byText w) (addAll ys []) → (∀ b o, s.heap.get? b = some o → h'.get? b = some o) → Q (.ref s.heap.objs.size) { s with heap := h', toks := tk }) :
    wpAny (model prog w) A (call (.type "set") [.ref l]) Q E s := by
  obtain ⟨c, tl, hmro⟩ := F.called_set.mro
  have hmade := F.called_set.made
  have hsub := F.called_set.sub
  refine wpAny_call (codeAny_of_tree ?_)
  show wpAny _ _ (callAny (.type "set") _) _ _ _
  refine wpAny_pure ⟨Code.quiet_builtin _ (by decide +kernel), codeAny_builtin F.entry_type_call ?_⟩
  rw [Around.under_plain (weight_type_call_type "set" [.ref l] []) rfl]
  have h1 := F.called_set.notType
  have h2 := F.called_set.canCreate
  have hct := typeCall_set_1 (.ref l)
  repeat (any_goals (first | assumption | wp_step))
  refine codeAny_mono (code_set_new1 (E := E) (.ref l) (Q₁ := fun obj s₁ => obj = .ref s.heap.objs.size ∧ s₁ = { s with heap := s.heap.push { cls := .type "set", dict := none, data := .set #[] 0 (.fresh 0 0 (!byText w)) } }) ⟨rfl, rfl⟩) fun r s₁ hr => ?_
  cases r with
  | error e => exact hr
  | ok fl =>
    cases fl with
    | ret obj =>
      obtain ⟨rfl, rfl⟩ := hr
      have hS : (s.heap.push { cls := .type "set", dict := none, data := .set #[] 0 (.fresh 0 0 (!byText w)) }).get? s.heap.objs.size = some { cls := .type "set", dict := none, data := .set #[] 0 (.fresh 0 0 (!byText w)) } := Heap.get?_push_size _ rfl
      have hT : Shared.TypeIs { s with heap := s.heap.push { cls := .type "set", dict := none, data := .set #[] 0 (.fresh 0 0 (!byText w)) } } (.ref s.heap.objs.size) "set" := ⟨_, hS, rfl⟩
      have hli := F.called_set.init.lookup
      have hbi := F.called_set.init.bind (.ref s.heap.objs.size)
      repeat (any_goals (first | assumption | wp_step))
      refine codeAny_mono (codeAny_call_builtin (R := wants (fun r s₂ => r = .none ∧ Q (.ref s.heap.objs.size) s₂) E) F.called_set.init.plain F.entry_set_init (check_set_init1 hT ?_)) fun r₂ s₂ hr₂ => ?_
      · exact set_init (s := { s with heap := s.heap.push { cls := .type "set", dict := none, data := .set #[] 0 (.fresh 0 0 (!byText w)) } }) hA (Heap.get?_push_of_some _ hl) (Nat.ne_of_gt (Heap.lt_size hl)) hS ys hlen hz hit fun h' tk hd hk => ⟨rfl, h h' tk hd fun b o e => hk b o (Nat.ne_of_lt (Heap.lt_size e)) (Heap.get?_push_of_some _ e)⟩
      · cases r₂ with
        | error e => exact hr₂
        | ok fl₂ =>
          cases fl₂ with
          | ret r =>
            obtain ⟨rfl, hq⟩ := hr₂
            repeat (any_goals (first | assumption | wp_step))
          | _ => exact hr₂.elim
    | _ => exact hr.elim
end
end Mine
end
section
open PySem PySem.W PySem.Calls PyProof.Rows
set_option linter.unusedVariables false
set_option maxRecDepth 100000
namespace Mine
theorem slot_setiter_next : Slot "set_iterator" "__next__" "set_iterator.__next__" :=
  .of (owner := "set_iterator") (n := "__next__") (by rw [typeLookup_type, builtinLookup_eq_fast]; kernel_rfl) (by decide +kernel) (by decide +kernel) (by decide +kernel)
    (by first | exact .inl (by decide +kernel) | exact .inr (by decide +kernel)) (by rw [isSubtype_type]; kernel_rfl)
theorem entry_setiter_next : entryFor table "set_iterator.__next__" = some Builtin.«set_iterator.__next__» := entryFor_of_tree (by kernel_rfl)
theorem owner_setiter : Manifest.owners.lookup (String.ofList ['r', 'o', 't', 'a', 'r', 'e', 't', 'i', '_', 't', 'e', 's'].reverse) = some Manifest.sig_set_iterator := by kernel_rfl
theorem args_setiter_next (a : Value) : argsOk "set_iterator.__next__" ⟨[a], []⟩ := by
  unfold argsOk; rw [signature?_of (id := "set_iterator.__next__") (n := ['_', '_', 't', 'x', 'e', 'n', '_', '_']) (o := ['r', 'o', 't', 'a', 'r', 'e', 't', 'i', '_', 't', 'e', 's']) (by kernel_rfl) owner_setiter]; kernel_rfl
theorem entry_set_iter : entryFor table "set.__iter__" = some Builtin.«frozenset.__iter__» :=
  entryFor_alias (id' := "frozenset.__iter__") (by kernel_rfl) rfl (by decide +kernel) (by kernel_rfl)
section
variable {prog : Program} {w : World} {A : Around} {E : Value → Shared → Prop} {s : Shared}
theorem wpAny_choose {M : Model} {src : Source} {n : Nat} {Q : Nat → Shared → Prop} (hn : n ≠ 0) (h : ∀ i, i < n → ∀ d, Q i { s with drawn := d }) : wpAny M A (choose src n) Q E s := fun Γ p _ => by
  unfold choose
  rw [Sem.wp_choose]
  refine ⟨hn, ?_⟩
  rw [Sem.wp_pure]
  exact h _ (Nat.mod_lt _ (Nat.pos_of_ne_zero hn)) _
theorem perm_erase {α : Type} : ∀ (l : List α) (i : Nat) (x : α), l[i]? = some x → l.Perm (x :: l.eraseIdx i)
  | y :: l, 0, x, e => by cases e; exact .refl _
  | y :: l, i + 1, x, e => by
    have := perm_erase l i x (by simpa using e)
    exact (this.cons y).trans (.swap _ _ _)
theorem wpAny_drawOrder {α : Type} {M : Model} : ∀ (n : Nat) (xs : List α) (s : Shared) (Q : List α → Shared → Prop), n = xs.length → (∀ ys, ys.Perm xs → ∀ d, Q ys { s with drawn := d }) → wpAny M A (drawOrder n xs) Q E s
  | 0, xs, s, Q, hn, h => by
    unfold drawOrder
    have : xs = [] := List.eq_nil_of_length_eq_zero hn.symm
    subst this
    exact wpAny_pure (h [] (.refl _) s.drawn)
  | n + 1, [], s, Q, hn, h => by cases hn
  | n + 1, x :: xs, s, Q, hn, h => by
    unfold drawOrder
    refine wpAny_bind (wpAny_choose (by simp) fun i hi d => ?_)
    obtain ⟨y, hy⟩ : ∃ y, (x :: xs)[i]? = some y := ⟨_, List.getElem?_eq_getElem hi⟩
    rw [hy]
    refine wpAny_bind (wpAny_drawOrder n ((x :: xs).eraseIdx i) _ _ (by rw [List.length_eraseIdx_of_lt hi]; simp at hn ⊢; omega) fun ys hp d' => ?_)
    exact wpAny_pure (h (y :: ys) ((hp.cons y).trans (perm_erase _ i y hy).symm) d')
theorem pick_go {α : Type} (next : Nat → Nat) : ∀ (fuel k : Nat) (left : List α) (out : Array α), fuel = left.length → (pickOrder.go next fuel k left out).toList.Perm (out.toList ++ left)
  | 0, k, left, out, h => by
    have : left = [] := List.eq_nil_of_length_eq_zero h.symm
    subst this; unfold pickOrder.go; simp
  | fuel + 1, k, left, out, h => by
    unfold pickOrder.go
    have hl : 0 < left.length := by omega
    have hi := Nat.mod_lt (next k) hl
    split
    · rename_i x hx
      refine (pick_go next fuel (k + 1) _ _ (by rw [List.length_eraseIdx_of_lt hi]; omega)).trans ?_
      rw [Array.toList_push, List.append_assoc]
      exact ((perm_erase _ _ _ hx).symm).append_left _
    · rename_i hx
      exact absurd (List.getElem?_eq_none_iff.mp hx) (by omega)
theorem pick_perm {α : Type} (next : Nat → Nat) (xs : Array α) : (pickOrder next xs).toList.Perm xs.toList := by
  unfold pickOrder
  simpa using pick_go next xs.size 0 xs.toList #[] (by simp)
noncomputable def SI9 (h : Heap) (I S : Addr) (first : Value) (i n ep : Nat) : Prop := h.get? I = some { cls := .type "set_iterator", data := .fields #[first, .int i 0, .ref S, .int n 0, .int ep 0] }
theorem stop_next {I S : Addr} {first : Value} {i n ep : Nat} {t : Sem Fin} {Q : Option Value → Shared → Prop} (hh : A.handled = none) (hI : SI9 s.heap I S first i n ep)
    (hQ : ∀ h', Heap.ExtBut I s.heap h' → Q none { s with heap := h' }) :
    wpAny (model prog w) A.in1 (do setField (.ref I) 2 .none; raiseNew (← newExc (.type "StopIteration") []))
      (fun (fin : Fin) s' => False) (fun e s' => wpAny (model prog w) A (isInstance e (.type "StopIteration")) (fun b s'' => b = true ∧ Q none s'') E s') s := by
  refine wpAny_bind (wpAny_setField hI rfl (by simp) ?_)
  refine wpAny_bind ?_
  simp only [newExc, newTuple]
  refine wpAny_bind (wpAny_newObj_type ?_ (by size_fits))
  refine wpAny_bind (m := firstArgMember _ _) (wpAny_of_eq (a := Value.none) (by first | rfl | (simp only [firstArgMember]; rfl)) ?_)
  refine wpAny_newObj_type ?_ (by size_fits)
  simp only [raiseNew]
  refine wpAny_bind (wpAny_handled ?_)
  rw [show A.in1.handled = none from hh]
  refine wpAny_bind (wpAny_pure (wpAny_throw ?_))
  refine wpAny_isInstance (T := "StopIteration") (b := true) ⟨_, Heap.get?_push_size _ rfl, rfl⟩ isSubtype_stop ⟨rfl, ?_⟩
  exact hQ _ (((Heap.SameBut.update ..).extBut.push _).push _)
noncomputable def setO (es : Array (Int × Value)) (ep : Nat) (t : SetTable) : Obj := { cls := .type "set", dict := none, data := .set es ep t, slots := #[] }
theorem SI9.typeIs {I S : Addr} {first : Value} {i n ep : Nat} (h : SI9 s.heap I S first i n ep) : s.TypeIs (.ref I) "set_iterator" := ⟨_, h, rfl⟩
theorem SI9.keep {h h' : Heap} {I S : Addr} {first : Value} {i n ep : Nat} (x : SI9 h I S first i n ep) (k : ∀ o, h.get? I = some o → h'.get? I = some o) : SI9 h' I S first i n ep := k _ x
theorem set_item_int {I S : Addr} {slot i n ep nx : Nat} {es : Array (Int × Value)} {t : SetTable} {x : Value} {Q : Option Value → Shared → Prop} (hI : SI9 s.heap I S (.int slot 0) i n ep) (hS : s.heap.get? S = some (setO es ep t)) (hf : t.fits es.size = true) (hsz : es.size = n)
    (hn : ∀ (A : Around) (E : Value → Shared → Prop) (Q : Option (Value × Nat) → Shared → Prop), Q (some (x, nx)) s → wpAny (model prog w) A (setNext S slot i ep) Q E s)
    (hQ : ∀ h', SI9 h' I S (.int nx 0) (i + 1) n ep → Heap.SameBut I s.heap h' → Q (some x) { s with heap := h' }) : wpAny (model prog w) A (pyNext (.ref I)) Q E s := by
  unfold pyNext
  refine wpAny_bind (wpAny_attempt (wpAny_callSpecial?_slot (name := Str.ofString "__next__") hI.typeIs slot_setiter_next
    (wpAny_call_entry slot_setiter_next hI.typeIs entry_setiter_next ?_ (args_setiter_next _))))
  unfold Builtin.«set_iterator.__next__»
  refine wpAny_bind (m := slotArgs "__next__" 0 _) (wpAny_pure ?_)
  dsimp only
  refine wpAny_bind (wpAny_fieldsOf hI rfl ?_)
  dsimp only
  refine wpAny_bind (wpAny_setEntries_of hS rfl hf ?_)
  rw [if_neg (by simp [hsz])]
  simp only [Int.toNat_natCast]
  refine wpAny_bind (hn _ _ _ ?_)
  dsimp only
  refine wpAny_bind (wpAny_setField hI rfl (by simp) ?_)
  have h1 : (s.heap.update I (Obj.mapFields (·.setIfInBounds 0 (rawInt nx)))).get? I = some { cls := .type "set_iterator", data := .fields #[.int nx 0, .int i 0, .ref S, .int n 0, .int ep 0] } := by
    rw [Heap.get?_update_self _ hI rfl]; rfl
  refine wpAny_bind (wpAny_setField h1 rfl (by simp) (wpAny_pure ⟨x, rfl, wpAny_pure (hQ _ ?_ ((Heap.SameBut.update ..).trans (Heap.SameBut.update ..)))⟩))
  unfold SI9
  rw [Heap.get?_update_self _ h1 rfl]
  have e : ((i : Int) + 1) = ((i + 1 : Nat) : Int) := by simp
  rw [e]
  rfl
theorem set_end_int {I S : Addr} {slot i n ep : Nat} {es : Array (Int × Value)} {t : SetTable} {Q : Option Value → Shared → Prop} (hh : A.handled = none) (hI : SI9 s.heap I S (.int slot 0) i n ep) (hS : s.heap.get? S = some (setO es ep t)) (hf : t.fits es.size = true) (hsz : es.size = n)
    (hn : ∀ (A : Around) (E : Value → Shared → Prop) (Q : Option (Value × Nat) → Shared → Prop), Q none s → wpAny (model prog w) A (setNext S slot i ep) Q E s)
    (hQ : ∀ h', Heap.ExtBut I s.heap h' → Q none { s with heap := h' }) : wpAny (model prog w) A (pyNext (.ref I)) Q E s := by
  unfold pyNext
  refine wpAny_bind (wpAny_attempt (wpAny_callSpecial?_slot (name := Str.ofString "__next__") hI.typeIs slot_setiter_next
    (wpAny_call_entry slot_setiter_next hI.typeIs entry_setiter_next ?_ (args_setiter_next _))))
  unfold Builtin.«set_iterator.__next__»
  refine wpAny_bind (m := slotArgs "__next__" 0 _) (wpAny_pure ?_)
  dsimp only
  refine wpAny_bind (wpAny_fieldsOf hI rfl ?_)
  dsimp only
  refine wpAny_bind (wpAny_setEntries_of hS rfl hf ?_)
  rw [if_neg (by simp [hsz])]
  simp only [Int.toNat_natCast]
  refine wpAny_bind (hn _ _ _ ?_)
  dsimp only
  refine wpAny_mono (stop_next (w := w) (prog := prog) (A := A) (E := E) hh hI hQ (t := pure default)) (fun _ _ x => x.elim) fun e s' h => ?_
  refine wpAny_bind (wpAny_mono h (fun b s'' hb => ?_) fun _ _ x => x)
  obtain ⟨rfl, q⟩ := hb
  exact wpAny_pure q
theorem set_item_drawn {I S T : Addr} {i n ep pl k : Nat} {ps : List Nat} {es : Array (Int × Value)} {t : SetTable} {x : Value} {Q : Option Value → Shared → Prop} (hI : SI9 s.heap I S (.ref T) i n ep) (hT : s.heap.get? T = some { cls := .type "tuple", dict := none, data := .seq (ps.map fun p => rawInt (p : Nat)).toArray k, slots := #[] })
    (hS : s.heap.get? S = some (setO es ep t)) (hf : t.fits es.size = true) (hsz : es.size = n) (hp : ps[i]? = some pl) (hx : (es[pl]?).map (·.2) = some x)
    (hQ : ∀ h', SI9 h' I S (.ref T) (i + 1) n ep → Heap.SameBut I s.heap h' → Q (some x) { s with heap := h' }) : wpAny (model prog w) A (pyNext (.ref I)) Q E s := by
  unfold pyNext
  refine wpAny_bind (wpAny_attempt (wpAny_callSpecial?_slot (name := Str.ofString "__next__") hI.typeIs slot_setiter_next
    (wpAny_call_entry slot_setiter_next hI.typeIs entry_setiter_next ?_ (args_setiter_next _))))
  unfold Builtin.«set_iterator.__next__»
  refine wpAny_bind (m := slotArgs "__next__" 0 _) (wpAny_pure ?_)
  dsimp only
  refine wpAny_bind (wpAny_fieldsOf hI rfl ?_)
  dsimp only
  refine wpAny_bind (wpAny_setEntries_of hS rfl hf ?_)
  rw [if_neg (by simp [hsz])]
  simp only [Int.toNat_natCast]
  refine wpAny_bind (wpAny_seqItems hT rfl ?_)
  dsimp only
  have e1 : (ps.map fun p => rawInt (p : Nat)).toArray[i]? = some (rawInt (pl : Nat)) := by simp [hp]
  rw [e1]
  dsimp only [rawInt]
  obtain ⟨⟨hv, x'⟩, e2, rfl⟩ := Option.map_eq_some_iff.mp hx
  refine wpAny_bind ?_
  unfold setNextDrawn
  refine wpAny_bind (wpAny_setState_of hS rfl hf ?_)
  dsimp only
  rw [if_neg (by simp)]
  simp only [Int.toNat_natCast]
  rw [e2]
  refine wpAny_pure ?_
  refine wpAny_bind (wpAny_setField hI rfl (by simp) (wpAny_pure ⟨x', rfl, wpAny_pure (hQ _ ?_ (Heap.SameBut.update ..))⟩))
  unfold SI9
  rw [Heap.get?_update_self _ hI rfl]
  have e : ((i : Int) + 1) = ((i + 1 : Nat) : Int) := by simp
  rw [e]
  rfl
theorem set_end_drawn {I S T : Addr} {i n ep k : Nat} {ps : List Nat} {es : Array (Int × Value)} {t : SetTable} {Q : Option Value → Shared → Prop} (hh : A.handled = none) (hI : SI9 s.heap I S (.ref T) i n ep) (hT : s.heap.get? T = some { cls := .type "tuple", dict := none, data := .seq (ps.map fun p => rawInt (p : Nat)).toArray k, slots := #[] })
    (hS : s.heap.get? S = some (setO es ep t)) (hf : t.fits es.size = true) (hsz : es.size = n) (hp : ps[i]? = none)
    (hQ : ∀ h', Heap.ExtBut I s.heap h' → Q none { s with heap := h' }) : wpAny (model prog w) A (pyNext (.ref I)) Q E s := by
  unfold pyNext
  refine wpAny_bind (wpAny_attempt (wpAny_callSpecial?_slot (name := Str.ofString "__next__") hI.typeIs slot_setiter_next
    (wpAny_call_entry slot_setiter_next hI.typeIs entry_setiter_next ?_ (args_setiter_next _))))
  unfold Builtin.«set_iterator.__next__»
  refine wpAny_bind (m := slotArgs "__next__" 0 _) (wpAny_pure ?_)
  dsimp only
  refine wpAny_bind (wpAny_fieldsOf hI rfl ?_)
  dsimp only
  refine wpAny_bind (wpAny_setEntries_of hS rfl hf ?_)
  rw [if_neg (by simp [hsz])]
  simp only [Int.toNat_natCast]
  refine wpAny_bind (wpAny_seqItems hT rfl ?_)
  dsimp only
  have e1 : (ps.map fun p => rawInt (p : Nat)).toArray[i]? = none := by simpa using hp
  rw [e1]
  dsimp only
  refine wpAny_bind (wpAny_setField hI rfl (by simp) ?_)
  have h1 : SI9 (s.heap.update I (Obj.mapFields (·.setIfInBounds 0 (rawInt 0)))) I S (.int (0 : Nat) 0) i n ep := by
    unfold SI9
    rw [Heap.get?_update_self _ hI rfl]; rfl
  refine wpAny_mono (stop_next (w := w) (prog := prog) (A := A) (E := E) (s := { s with heap := s.heap.update I (Obj.mapFields (·.setIfInBounds 0 (rawInt 0))) }) hh h1 (Q := Q) (fun h' he => hQ h' fun b o nb e => he b o nb (((Heap.SameBut.update ..).2 b nb).trans e)) (t := pure default)) (fun _ _ x => x.elim) fun e s' h => ?_
  refine wpAny_bind (wpAny_mono h (fun b s'' hb => ?_) fun _ _ x => x)
  obtain ⟨rfl, q⟩ := hb
  exact wpAny_pure q
theorem setNext_text {M : Model} (hb : M.w.params.followText "set-order" = true) {S : Addr} {slot i ep : Nat} {es : Array (Int × Value)} {t : SetTable} (hS : s.heap.get? S = some (setO es ep t)) (hf : t.fits es.size = true) (hM : M = model prog w) {Q : Option (Value × Nat) → Shared → Prop}
    (hQ : Q (((pickOrder (w.params.setOrder S ep) es)[i]?).map fun e => (e.2, slot)) s) : wpAny (model prog w) A (setNext S slot i ep) Q E s := by
  subst hM
  unfold setNext
  refine wpAny_bind (wpAny_setState_of hS rfl hf ?_)
  dsimp only
  unfold setsByText
  refine wpAny_bind (wpAny_bind (wpAny_askSetting (wpAny_pure ?_)))
  dsimp only
  rw [if_pos hb, if_neg (by simp)]
  refine wpAny_bind ?_
  unfold setWalk setsByText
  refine wpAny_bind (wpAny_setState_of hS rfl hf ?_)
  dsimp only
  refine wpAny_bind (wpAny_bind (wpAny_askSetting (wpAny_pure ?_)))
  dsimp only
  rw [if_pos hb]
  refine wpAny_bind (wpAny_askSetting (wpAny_pure (wpAny_pure ?_)))
  exact hQ
theorem setNext_table (hb : w.params.followText "set-order" = false) {S : Addr} {slot i ep : Nat} {es : Array (Int × Value)} {t : SetTable} (hS : s.heap.get? S = some (setO es ep t)) (hf : t.fits es.size = true) (hl : t.led = true) (h1 : es.size ≤ 1) {Q : Option (Value × Nat) → Shared → Prop}
    (hQ : Q (match es[SetTable.below t.place slot]?, t.place[SetTable.below t.place slot]? with | some (_, x), some j => some (x, j + 1) | _, _ => none) s) : wpAny (model prog w) A (setNext S slot i ep) Q E s := by
  unfold setNext
  refine wpAny_bind (wpAny_setState_of hS rfl hf ?_)
  dsimp only
  unfold setsByText
  refine wpAny_bind (wpAny_bind (wpAny_askSetting (wpAny_pure ?_)))
  dsimp only
  rw [if_neg (by show ¬ (w.params.followText "set-order" = true); rw [hb]; exact Bool.false_ne_true)]
  show wpAny _ _ (if (!t.plain && decide (es.size > 1)) = true then _ else _) _ _ _
  rw [if_neg (by have : decide (es.size > 1) = false := by simpa using h1
                 rw [this, Bool.and_false]; exact Bool.false_ne_true)]
  refine wpAny_bind (wpAny_of_eq (a := ()) ?_ (wpAny_pure ?_))
  · show (if (!t.led && !es.isEmpty) = true then _ else _) = _
    rw [if_neg (by rw [hl]; simp)]
  · exact hQ
end
end Mine
end
section
open PySem PySem.W PySem.Calls PyProof.Rows
set_option linter.unusedVariables false
set_option maxRecDepth 100000
namespace Mine
theorem slot_setiter_iter : Slot "set_iterator" "__iter__" "set_iterator.__iter__" :=
  .of (owner := "set_iterator") (n := "__iter__") (by rw [typeLookup_type, builtinLookup_eq_fast]; kernel_rfl) (by decide +kernel) (by decide +kernel) (by decide +kernel)
    (by first | exact .inl (by decide +kernel) | exact .inr (by decide +kernel)) (by rw [isSubtype_type]; kernel_rfl)
theorem entry_setiter_iter : entryFor table "set_iterator.__iter__" = some Builtin.«dict_keyiterator.__iter__» :=
  entryFor_alias (id' := "dict_keyiterator.__iter__") (by kernel_rfl) rfl (by decide +kernel) (by kernel_rfl)
theorem args_setiter_iter (a : Value) : argsOk "set_iterator.__iter__" ⟨[a], []⟩ := by
  unfold argsOk; rw [signature?_of (id := "set_iterator.__iter__") (n := ['_', '_', 'r', 'e', 't', 'i', '_', '_']) (o := ['r', 'o', 't', 'a', 'r', 'e', 't', 'i', '_', 't', 'e', 's']) (by kernel_rfl) owner_setiter]; kernel_rfl
section
variable {prog : Program} {w : World} {A : Around} {E : Value → Shared → Prop} {s : Shared}
theorem pyIter_setiter {I S : Addr} {first : Value} {i n ep : Nat} {Q : Value → Shared → Prop} (hI : SI9 s.heap I S first i n ep) (h : Q (.ref I) s) : wpAny (model prog w) A (pyIter (.ref I)) Q E s := by
  refine wpAny_pyIter_slot hI.typeIs slot_setiter_iter (wpAny_call_entry slot_setiter_iter hI.typeIs entry_setiter_iter ?_ (args_setiter_iter _))
  show wpAny _ _ (ret (.ref I)) _ _ s
  exact wpAny_pure ⟨_, rfl, "set_iterator", _, hI.typeIs, slot_setiter_next.lookup, h⟩
theorem keep_of {h h' : Heap} {I : Addr} (e : Heap.ExtBut I h h') : ∀ b o, b ∉ [I] → h.get? b = some o → h'.get? b = some o := fun b o n x => e b o (by simpa using n) x
theorem walks_text (hb : byText w = true) (hh : A.handled = none) {I S ep : Nat} {es : Array (Int × Value)} {t : SetTable} (hIS : S ≠ I) (hf : t.fits es.size = true) :
    Walks prog w A I [I, S] [I] ((pickOrder (w.params.setOrder S ep) es).toList.map (·.2)).length (fun i v => ((pickOrder (w.params.setOrder S ep) es).toList.map (·.2))[i]? = some v)
      (fun i h => SI9 h I S (.int (0 : Nat) 0) i es.size ep ∧ h.get? S = some (setO es ep t)) where
  sub := fun b hb => by simp at hb; simp [hb]
  frame := fun i h h' ⟨a, b⟩ k => ⟨a.keep fun o e => k I (by simp) o e, k S (by simp) _ b⟩
  item := fun i s Q E hi ⟨a, b⟩ hQ => by
    have hi' : i < (pickOrder (w.params.setOrder S ep) es).size := by simpa using hi
    have e : (pickOrder (w.params.setOrder S ep) es)[i]? = some ((pickOrder (w.params.setOrder S ep) es)[i]) := by simp [hi']
    refine set_item_int (nx := 0) (x := ((pickOrder (w.params.setOrder S ep) es)[i]).2) a b hf rfl (fun A E Q q => setNext_text (M := model prog w) hb b hf rfl (by rw [e]; exact q)) fun h' a' hs => ?_
    exact hQ _ h' s.toks (by simp [hi']) ⟨a', (hs.2 S hIS).trans b⟩ (keep_of hs.extBut)
  done := fun s Q E ⟨a, b⟩ hQ => by
    have hl : (pickOrder (w.params.setOrder S ep) es).size = es.size := by rw [← Array.length_toList, (pick_perm _ _).length_eq, Array.length_toList]
    refine set_end_int hh a b hf rfl (fun A E Q q => setNext_text (M := model prog w) hb b hf rfl (by rw [Array.getElem?_eq_none (by simp)]; exact q)) fun h' he => hQ h' s.toks (keep_of he)
  self := fun i s Q E ⟨a, b⟩ hQ => pyIter_setiter a hQ
theorem below_one (j k : Nat) : SetTable.below #[j] k = if j < k then 1 else 0 := by
  unfold SetTable.below
  simp only [List.size_toArray, List.length_cons, List.length_nil]
  unfold SetTable.below.go
  simp
  split <;> (unfold SetTable.below.go; rfl)
theorem below_nil (k : Nat) : SetTable.below #[] k = 0 := by
  unfold SetTable.below
  unfold SetTable.below.go
  rfl
theorem walks_table (hb : byText w = false) (hh : A.handled = none) {I S ep : Nat} {es : Array (Int × Value)} {t : SetTable} (hIS : S ≠ I) (hf : t.fits es.size = true) (hl : t.led = true) (h1 : es.size ≤ 1) :
    Walks prog w A I [I, S] [I] (es.toList.map (·.2)).length (fun i v => (es.toList.map (·.2))[i]? = some v)
      (fun i h => (∃ slot : Nat, SI9 h I S (.int slot 0) i es.size ep ∧ SetTable.below t.place slot = i) ∧ h.get? S = some (setO es ep t)) where
  sub := fun b hb => by simp at hb; simp [hb]
  frame := fun i h h' ⟨⟨sl, a, q⟩, b⟩ k => ⟨⟨sl, a.keep fun o e => k I (by simp) o e, q⟩, k S (by simp) _ b⟩
  item := fun i s Q E hi ⟨⟨sl, a, q⟩, b⟩ hQ => by
    have hi' : i < es.size := by simpa using hi
    have hz : es.size = 1 := by omega
    have hi0 : i = 0 := by omega
    subst hi0
    have hp : t.place.size = 1 := by
      simp only [SetTable.fits, Bool.and_eq_true, beq_iff_eq] at hf; omega
    obtain ⟨j, hj⟩ : ∃ j, t.place = #[j] := by
      have : t.place.toList.length = 1 := by simpa using hp
      match e : t.place.toList, this with
      | [j], _ => exact ⟨j, by rw [← e]⟩
    refine set_item_int (nx := j + 1) (x := es[0].2) a b hf rfl (fun A E Q qq => setNext_table hb b hf hl h1 (by rw [q, hj]; simpa [hi'] using qq)) fun h' a' hs => ?_
    exact hQ _ h' s.toks (by simp [hi']) ⟨⟨j + 1, a', by rw [hj, below_one]; simp⟩, (hs.2 S hIS).trans b⟩ (keep_of hs.extBut)
  done := fun s Q E ⟨⟨sl, a, q⟩, b⟩ hQ => by
    refine set_end_int hh a b hf rfl (fun A E Q qq => setNext_table hb b hf hl h1 (by rw [q]; simpa using qq)) fun h' he => hQ h' s.toks (keep_of he)
  self := fun i s Q E ⟨⟨sl, a, q⟩, b⟩ hQ => pyIter_setiter a hQ
theorem walks_drawn (hh : A.handled = none) {I S T ep k : Nat} {es : Array (Int × Value)} {t : SetTable} {ps : List Nat} (hIS : S ≠ I) (hIT : T ≠ I) (hf : t.fits es.size = true) (hp : ∀ p ∈ ps, p < es.size) (hpl : ps.length = es.size) :
    Walks prog w A I [I, S, T] [I] (ps.filterMap fun p => (es[p]?).map (·.2)).length (fun i v => (ps.filterMap fun p => (es[p]?).map (·.2))[i]? = some v)
      (fun i h => SI9 h I S (.ref T) i es.size ep ∧ h.get? S = some (setO es ep t) ∧ h.get? T = some { cls := .type "tuple", dict := none, data := .seq (ps.map fun p => rawInt (p : Nat)).toArray k, slots := #[] }) := by
  have e : (ps.filterMap fun p => (es[p]?).map (·.2)) = ps.map fun p => (es.getD p default).2 := by
    clear hpl
    induction ps with
    | nil => rfl
    | cons p ps ih =>
      have hp0 := hp p List.mem_cons_self
      rw [List.filterMap_cons, List.map_cons, ih fun q hq => hp q (List.mem_cons_of_mem _ hq)]
      simp [hp0]
  rw [e]
  exact {
    sub := fun b hb => by simp at hb; simp [hb]
    frame := fun i h h' ⟨a, b, c⟩ k => ⟨a.keep fun o e => k I (by simp) o e, k S (by simp) _ b, k T (by simp) _ c⟩
    item := fun i s Q E hi ⟨a, b, c⟩ hQ => by
      have hi' : i < ps.length := by simpa using hi
      have hlt := hp ps[i] (List.getElem_mem hi')
      refine set_item_drawn (pl := ps[i]) (x := (es.getD ps[i] default).2) a c b hf rfl (List.getElem?_eq_getElem hi') (by simp [hlt]) fun h' a' hs => ?_
      exact hQ _ h' s.toks (by simp [hi']) ⟨a', (hs.2 S hIS).trans b, (hs.2 T hIT).trans c⟩ (keep_of hs.extBut)
    done := fun s Q E ⟨a, b, c⟩ hQ => by
      refine set_end_drawn hh a c b hf rfl (by simp) fun h' he => hQ h' s.toks (keep_of he)
    self := fun i s Q E ⟨a, b, c⟩ hQ => pyIter_setiter a hQ }
end
end Mine
end
section
open PySem PySem.W PySem.Calls PyProof.Rows
set_option linter.unusedVariables false
set_option maxRecDepth 100000
namespace Mine
section
variable {prog : Program} {w : World} {A : Around} {E : Value → Shared → Prop} {s : Shared}
structure SetIter (prog : Program) (w : World) (A : Around) (s s' : Shared) (S I : Addr) (vs : List Value) : Prop where
  gens : s'.gens = s.gens
  os : s'.os = s.os
  keep : ∀ b o, s.heap.get? b = some o → s'.heap.get? b = some o
  fresh : s.heap.objs.size ≤ I ∧ I < s'.heap.objs.size
  walks : ∃ (fp : List Addr) (St : Nat → Heap → Prop), (∀ b ∈ fp, b = S ∨ s.heap.objs.size ≤ b) ∧ (A.handled = none → Walks prog w A I fp [I] vs.length (fun i v => vs[i]? = some v) St) ∧ St 0 s'.heap
theorem range_pick (es : Array (Int × Value)) : ((List.range es.size).filterMap fun p => (es[p]?).map (·.2)) = es.toList.map (·.2) := by
  have : ∀ n, n ≤ es.size → ((List.range n).filterMap fun p => (es[p]?).map (·.2)) = (es.toList.take n).map (·.2) := by
    intro n
    induction n with
    | zero => intro _; simp
    | succ n ih =>
      intro hn
      rw [List.range_succ, List.filterMap_append, ih (by omega), List.take_add_one, List.map_append]
      congr 1
      simp [show n < es.size by omega]
  rw [this es.size (Nat.le_refl _), ← Array.length_toList, List.take_length]
theorem pyIter_set {S : Addr} {l : List Str} {Q : Value → Shared → Prop} (hS : SetIs prog w s.heap S (byText w) l) (hz : l.length ≤ 1000)
    (hQ : ∀ (s' : Shared) (I : Addr) (vs : List Value), SetIter prog w A s s' S I vs → (vs.map keyOf).Perm l → (∀ v ∈ vs, ∃ x t, v = .str x t) → Q (.ref I) s') : wpAny (model prog w) A (pyIter (.ref S)) Q E s := by
  obtain ⟨es, ep, t, ho, hel, hf, hl, hp, hq⟩ := hS
  have ho' : s.heap.get? S = some (setO es ep t) := ho
  have hT : s.TypeIs (.ref S) "set" := ⟨_, ho, rfl⟩
  have hstr : ∀ v ∈ es.toList.map (·.2), ∃ x t, v = .str x t := fun v hv => by
    obtain ⟨e, he, rfl⟩ := List.mem_map.mp hv
    obtain ⟨⟨k, hk, _⟩, _⟩ := hel e he
    obtain ⟨t, e2⟩ := str_key hk
    exact ⟨k, t, e2⟩
  have hq' : ((es.toList.map (·.2)).map keyOf).Perm l := by rw [List.map_map]; exact hq
  have hlt : S < s.heap.objs.size := Heap.lt_size ho
  refine wpAny_pyIter_slot hT F.slot_set_iter (wpAny_call_entry F.slot_set_iter hT entry_set_iter ?_ (F.args_set_iter_1 _))
  unfold Builtin.«frozenset.__iter__»
  refine wpAny_bind (m := Builtin.Frozenset.slot0 "__iter__" _) ?_
  show wpAny _ _ (pure S) _ _ _
  refine wpAny_pure ?_
  refine wpAny_bind ?_
  unfold Builtin.Frozenset.sizeOf
  refine wpAny_bind (wpAny_setEntries_of ho rfl hf (wpAny_pure ?_))
  refine wpAny_bind ?_
  unfold setDrawn
  refine wpAny_bind (wpAny_setState_of ho rfl hf ?_)
  dsimp only
  unfold setsByText
  refine wpAny_bind (wpAny_bind (wpAny_askSetting (wpAny_pure (wpAny_pure ?_))))
  -- the iterator is made
  have make : ∀ (first : Value) (s₁ : Shared), s₁.gens = s.gens → s₁.os = s.os → (∀ b o, s.heap.get? b = some o → s₁.heap.get? b = some o) → s.heap.objs.size ≤ s₁.heap.objs.size →
      (∀ (vs : List Value) (st : Nat → Heap → Prop) (fp : List Addr), (∀ b ∈ fp, b = S ∨ s.heap.objs.size ≤ b) → (A.handled = none → Walks prog w A s₁.heap.objs.size fp [s₁.heap.objs.size] vs.length (fun i v => vs[i]? = some v) st) →
        st 0 (s₁.heap.push { cls := .type "set_iterator", data := .fields #[first, .int (0 : Nat) 0, .ref S, .int es.size 0, .int ep 0] }) → (vs.map keyOf).Perm l → (∀ v ∈ vs, ∃ x t, v = .str x t) →
        wpAny (model prog w) A.in1 (do ret (← newFields "set_iterator" [first, rawInt 0, .ref S, rawInt es.size, rawInt (← setEpoch S)])) (fun fin s' => ∃ v, fin = .done (.ret v) ∧ ∃ T' r, s'.TypeIs v T' ∧ typeLookup (.type T') "__next__" = pure (some r) ∧ Q v s') (fun e s' => E e s') s₁) := by
    intro first s₁ g1 g2 g3 hsz vs st fp hfp hW hst hk hstr'
    refine wpAny_bind (wpAny_setEpoch_of (g3 _ _ ho) rfl hf ?_)
    refine wpAny_bind (wpAny_newObj_type (wpAny_pure ⟨_, rfl, "set_iterator", _, ⟨_, Heap.get?_push_size _ rfl, rfl⟩, slot_setiter_next.lookup, ?_⟩) (by size_fits))
    exact hQ _ _ vs ⟨g1, g2, fun b o e => Heap.get?_push_of_some _ (g3 b o e), ⟨hsz, by rw [size_push']; exact Nat.lt_succ_self _⟩, fp, st, hfp, hW, hst⟩ hk hstr'
  show wpAny _ _ (if (!w.params.followText "set-order" && (!t.plain && decide (es.size > 1))) = true then _ else _) _ _ _
  have hne : S ≠ s.heap.objs.size := Nat.ne_of_lt hlt
  have hS1 : ∀ o : Obj, (s.heap.push o).get? S = some (setO es ep t) := fun o => Heap.get?_push_of_some _ ho'
  by_cases hbt : byText w = true
  · rw [if_neg (by rw [show w.params.followText "set-order" = true from hbt]; simp)]
    refine wpAny_bind (wpAny_pure ?_)
    refine make (rawInt 0) s rfl rfl (fun _ _ e => e) (Nat.le_refl _) ((pickOrder (w.params.setOrder S ep) es).toList.map (·.2)) _ _ (fun b hb => ?_) (fun hh => walks_text hbt hh hne hf) ⟨Heap.get?_push_size _ rfl, hS1 _⟩ ?_ ?_
    · have : b = s.heap.objs.size ∨ b = S := by simpa using hb
      rcases this with rfl | rfl
      · exact .inr (Nat.le_refl _)
      · exact .inl rfl
    · exact (((pick_perm _ es).map (·.2)).map keyOf).trans hq'
    · intro v hv
      exact hstr v (((pick_perm _ es).map (·.2)).mem_iff.mp hv)
  · have hbf : byText w = false := by simpa using hbt
    by_cases h1 : es.size ≤ 1
    · rw [if_neg (by have : decide (es.size > 1) = false := by simpa using h1
                     rw [this]; simp)]
      refine wpAny_bind (wpAny_pure ?_)
      refine make (rawInt 0) s rfl rfl (fun _ _ e => e) (Nat.le_refl _) (es.toList.map (·.2)) _ _ (fun b hb => ?_) (fun hh => walks_table hbf hh hne hf (by rw [hl, hbf]; rfl) h1) ⟨⟨0, Heap.get?_push_size _ rfl, ?_⟩, hS1 _⟩ hq' hstr
      · have : b = s.heap.objs.size ∨ b = S := by simpa using hb
        rcases this with rfl | rfl
        · exact .inr (Nat.le_refl _)
        · exact .inl rfl
      · have hps : t.place.size = es.size := by
          simp only [SetTable.fits, Bool.and_eq_true, beq_iff_eq] at hf; exact hf.1
        match e : t.place.toList, (by simpa using hps : t.place.toList.length = es.size) with
        | [], _ => rw [show t.place = #[] by rw [← Array.toList_inj, e]]; exact below_nil 0
        | [j], _ => rw [show t.place = #[j] by rw [← Array.toList_inj, e]]; rw [below_one]; simp
        | _ :: _ :: _, h => simp at h; omega
    · have hpl : t.plain = false := hp (by omega)
      rw [if_pos (by rw [show w.params.followText "set-order" = false from hbf, hpl]; simp; omega)]
      refine wpAny_bind (wpAny_drawOrder es.size (List.range es.size) _ _ (by simp) fun ps hps dr => ?_)
      have hz9 : ps.length ≤ sizeLine := by rw [hps.length_eq, List.length_range, SetIs.size hq, sizeLine_eq]; omega
      refine wpAny_bind (wpAny_newTuple ?_ (by rw [List.length_map]; exact hz9))
      have hps1 : ∀ p ∈ ps, p < es.size := fun p m => List.mem_range.mp (hps.mem_iff.mp m)
      have hps2 : ps.length = es.size := by rw [hps.length_eq]; simp
      have hTl : (s.heap.push { cls := .type "tuple", data := .seq (ps.map fun i => rawInt (i : Nat)).toArray }).objs.size = s.heap.objs.size + 1 := size_push' _ _
      refine make (.ref s.heap.objs.size) { s with heap := s.heap.push { cls := .type "tuple", data := .seq (ps.map fun i => rawInt (i : Nat)).toArray }, drawn := dr } rfl rfl (fun _ _ e => Heap.get?_push_of_some _ e) (by show _ ≤ (s.heap.push _).objs.size; rw [hTl]; exact Nat.le_succ _)
        (ps.filterMap fun p => (es[p]?).map (·.2)) _ _ (fun b hb => ?_) (fun hh => walks_drawn (T := s.heap.objs.size) (k := 0) hh ?_ ?_ hf hps1 hps2) ⟨Heap.get?_push_size _ rfl, Heap.get?_push_of_some _ (hS1 _), Heap.get?_push_of_some _ (Heap.get?_push_size _ rfl)⟩ ?_ ?_
      · have : b = (s.heap.push { cls := .type "tuple", data := .seq (ps.map fun i => rawInt (i : Nat)).toArray }).objs.size ∨ b = S ∨ b = s.heap.objs.size := by simpa using hb
        rw [hTl] at this
        rcases this with rfl | rfl | rfl
        · exact .inr (Nat.le_succ _)
        · exact .inl rfl
        · exact .inr (Nat.le_refl _)
      · show S ≠ (s.heap.push _).objs.size
        rw [hTl]; exact Nat.ne_of_lt (Nat.lt_succ_of_lt hlt)
      · show s.heap.objs.size ≠ (s.heap.push _).objs.size
        rw [hTl]; exact Nat.ne_of_lt (Nat.lt_succ_self _)
      · have := (hps.filterMap fun p => (es[p]?).map (·.2))
        rw [range_pick] at this
        exact (this.map keyOf).trans hq'
      · intro v hv
        have := (hps.filterMap fun p => (es[p]?).map (·.2))
        rw [range_pick] at this
        exact hstr v (this.mem_iff.mp hv)
end
end Mine
end
section
open PySem PySem.W PySem.Calls PyProof.Rows
set_option linter.unusedVariables false
set_option maxRecDepth 100000
namespace Mine
section
variable {prog : Program} {w : World} {A : Around} {E : Value → Shared → Prop} {s : Shared}
theorem hint_set {S : Addr} {Q : Bool → Shared → Prop} (hT : s.TypeIs (.ref S) "set") (h : Q false s) : wpAny (model prog w) A (Builtin.List.listLengthHint (.ref S)) Q E s := by
  unfold Builtin.List.listLengthHint
  refine wpAny_bind (wpAny_specialOf hT PySem.F.slot_set_len.lookup ?_)
  generalize hid : ("set.__len__" : String) = id0
  wp_delta
  rw [show splitId id0 = some ("set", "__len__") from by subst hid; decide +kernel]
  subst hid
  refine wpAny_bind (wpAny_isInstance (T := "set") (b := true) hT (by rw [isSubtype_type]; kernel_rfl) ?_)
  refine wpAny_ite_split (fun hab => absurd hab (by decide)) (fun _ => ?_)
  refine wpAny_ite_split (fun _ => ?_) (fun hab => absurd (by decide +kernel) hab)
  refine wpAny_bind (wpAny_typeOf hT ?_)
  exact wpAny_pure h
theorem extend_set {R : Result → Shared → Prop} {S D : Addr} {l : List Str} {res : Value} {c₀ : Nat} (hh : A.handled = none) (hS : SetIs prog w s.heap S (byText w) l) (hz : l.length ≤ 1000) (hDS : D ≠ S) (hD : s.heap.get? D = some { cls := .type "list", data := .seq #[] c₀ })
    (hR : ∀ s' acc' c', s'.gens = s.gens → s'.os = s.os → (∀ b o, b ≠ D → s.heap.get? b = some o → s'.heap.get? b = some o) → s'.heap.get? D = some { cls := .type "list", dict := none, data := .seq acc' c', slots := #[] } →
      (acc'.toList.map keyOf).Perm l → (∀ v ∈ acc'.toList, ∃ x t, v = .str x t) → R (.ok (.ret res)) s') :
    wpAny (model prog w) A.in1 (Builtin.List.listExtendWith (.ref D) (.ref S) res)
      (fun fin s' => match fin with | .done f => R (.ok f) s' | .again c' => c'.quiet = true ∧ codeAny (model prog w) A c' R s') (fun e s' => R (.error e) s') s := by
  have hT : s.TypeIs (.ref S) "set" := let ⟨_, _, _, e, _⟩ := hS; ⟨_, e, rfl⟩
  unfold Builtin.List.listExtendWith
  refine wpAny_bind (wpAny_typeOf hT ?_)
  have h1 : Builtin.List.listSameRef (.ref D) (.ref S) = false := by simp [Builtin.List.listSameRef, hDS]
  simp only [h1, show (Value.type "set" == Value.type "list") = false by decide, show (Value.type "set" == Value.type "tuple") = false by decide, Bool.or_false, Bool.false_eq_true, if_false]
  refine wpAny_bind (pyIter_set hS hz fun s₁ I vs X hk hstr => ?_)
  obtain ⟨g1, g2, keep, ⟨fr1, fr2⟩, fp, St, hfp, hW, hst⟩ := X
  have W := hW hh
  have hDlt : D < s.heap.objs.size := Heap.lt_size hD
  have hDf : D ∉ fp := fun m => by
    rcases hfp D m with e | e
    · exact hDS e
    · exact absurd hDlt (Nat.not_lt.mpr e)
  have hDI : D ≠ I := Nat.ne_of_lt (Nat.lt_of_lt_of_le hDlt fr1)
  have hn : vs.length ≤ sizeLine := by
    have : vs.length = l.length := by rw [← hk.length_eq, List.length_map]
    rw [this, sizeLine_eq]; omega
  have hT1 : s₁.TypeIs (.ref S) "set" := let ⟨o, e, q⟩ := hT; ⟨o, keep _ _ e, q⟩
  have key : ∀ (h : Heap) (c₁ tk : Nat), St 0 h → (∀ b o, b ≠ D → s₁.heap.get? b = some o → h.get? b = some o) → h.get? D = some { cls := .type "list", data := .seq #[] c₁ } →
      codeAny (model prog w) A (.builtin "list.extend.loop" ⟨[.ref D, .ref I, res], []⟩) R { s₁ with heap := h, toks := tk } := by
    intro h c₁ tk hst' hk' hD₁
    refine codeAny_extend_loopS W.toS hn D hDf res vs.length 0 _ #[] c₁ rfl (Nat.zero_le _) hst' hD₁ (ItemsOf.nil _) fun s' acc' c' hm hD' hacc => ?_
    rw [Moved.eq_with hm]
    have hav : acc'.toList = vs := by
      apply List.ext_getElem?
      intro i
      by_cases hi : i < vs.length
      · obtain ⟨v, hv⟩ : ∃ v, acc'[i]? = some v := ⟨_, Array.getElem?_eq_getElem (by rw [hacc.1]; exact hi)⟩
        rw [Array.getElem?_toList, hv, hacc.2 i v hv]
      · rw [List.getElem?_eq_none (by rw [Array.length_toList, hacc.1]; omega), List.getElem?_eq_none (by omega)]
    refine hR _ acc' c' g1 g2 (fun b o hb e => ?_) hD' (by rw [hav]; exact hk) (by rw [hav]; exact hstr)
    refine hm.heap b o (fun hmem => ?_) (hk' b o hb (keep b o e))
    rcases List.mem_cons.mp hmem with e' | hmem
    · exact hb e'
    · have : b = I := by simpa using hmem
      exact absurd (Heap.lt_size e) (Nat.not_lt.mpr (this ▸ fr1))
  have hD₁ := keep _ _ hD
  refine wpAny_bind (wpAny_holding (hint_set hT1 ?_))
  refine wpAny_ite_split (fun _ => ?_) (fun _ => wpAny_pure ⟨plainId_quiet PySem.F.plain_extend_loop _, key _ c₀ _ hst (fun b o _ e => e) hD₁⟩)
  refine wpAny_bind (wpAny_rule ?_)
  refine wpAny_bind ?_
  show wpAny _ _ (updateSeq D (·.push .none) >>= fun _ => updateSeq D (·.pop)) _ _ _
  refine wpAny_bind (wpAny_updateSeq hD₁ rfl ?_)
  have hD₂ := Heap.get?_update_self (Obj.mapSeq (·.push Value.none)) hD₁ rfl
  refine wpAny_updateSeq (hz := by seq_fits) hD₂ rfl ?_
  have hD₃ := Heap.get?_update_self (Obj.mapSeq (·.pop)) hD₂ rfl
  refine wpAny_pure ⟨plainId_quiet PySem.F.plain_extend_loop _, key _ _ _ ?_ (fun b o hb e => ?_) hD₃⟩
  · refine W.frame 0 _ _ hst fun b hb o e => ?_
    have hbD : b ≠ D := fun h => hDf (h ▸ hb)
    exact (Heap.get?_update_other _ _ (Ne.symm hbD)).trans ((Heap.get?_update_other _ _ (Ne.symm hbD)).trans e)
  · exact (Heap.get?_update_other _ _ (Ne.symm hb)).trans ((Heap.get?_update_other _ _ (Ne.symm hb)).trans e)
end
end Mine
end
section
open PySem PySem.W PySem.Calls PyProof.Rows
set_option linter.unusedVariables false
set_option maxRecDepth 100000
namespace Mine
section
variable {prog : Program} {w : World} {A : Around} {E : Value → Shared → Prop} {s : Shared}
theorem collect_set {R : List Value → Shared → Prop} {S : Addr} {l : List Str} (hh : A.handled = none) (hS : SetIs prog w s.heap S (byText w) l) (hz : l.length ≤ 1000)
    (h : ∀ s' vs, s'.gens = s.gens → s'.os = s.os → (∀ b o, s.heap.get? b = some o → s'.heap.get? b = some o) → (vs.map keyOf).Perm l → (∀ v ∈ vs, ∃ x t, v = .str x t) → R vs s') :
    wpAny (model prog w) A (collect (.ref S)) R E s := by
  obtain ⟨es, ep, t, ho, r⟩ := hS
  have hlt : S < s.heap.objs.size := Heap.lt_size ho
  unfold collect
  refine wpAny_bind (wpAny_runValue (codeAny_builtin entry_proto_collect' ?_))
  rw [Around.under_plainId PySem.F.plain_proto_collect _]
  show wpAny _ A.in1 (newList [] >>= fun l => again (.builtin "list.__iadd__" ⟨[l, .ref S], []⟩)) _ _ s
  refine wpAny_bind (wpAny_newObj_type ?_)
  refine wpAny_pure ⟨plainId_quiet PySem.F.plain_list_iadd _, codeAny_builtin entry_list_iadd' ?_⟩
  rw [Around.under_plainId PySem.F.plain_list_iadd _]
  have hD : (s.heap.push { cls := .type "list", data := .seq ([] : List Value).toArray }).get? s.heap.objs.size = some { cls := .type "list", data := .seq #[] } := Heap.get?_push_size _ rfl
  show wpAny _ A.in1 (Builtin.List.listExtendWith (.ref s.heap.objs.size) (.ref S) (.ref s.heap.objs.size)) _ _ _
  have key := extend_set (A := A) (prog := prog) (w := w) (s := { s with heap := s.heap.push { cls := .type "list", data := .seq ([] : List Value).toArray } })
    (R := fun (q : Result) (s' : Shared) => ∃ (acc' : Array Value) (c' : Nat), q = .ok (.ret (.ref s.heap.objs.size)) ∧ s'.gens = s.gens ∧ s'.os = s.os ∧ (∀ b o, s.heap.get? b = some o → s'.heap.get? b = some o) ∧
      s'.heap.get? s.heap.objs.size = some { cls := .type "list", dict := none, data := .seq acc' c', slots := #[] } ∧ (acc'.toList.map keyOf).Perm l ∧ (∀ v ∈ acc'.toList, ∃ x t, v = .str x t))
    (S := S) (D := s.heap.objs.size) (l := l) (res := .ref s.heap.objs.size) (c₀ := 0) hh ⟨es, ep, t, Heap.get?_push_of_some _ ho, r⟩ hz (Nat.ne_of_gt hlt) hD
    (fun s' acc' c' g1 g2 hk hD' hp hs => ⟨acc', c', rfl, g1, g2, fun b o e => hk b o (Nat.ne_of_lt (Heap.lt_size e)) (Heap.get?_push_of_some _ e), hD', hp, hs⟩)
  have fin : ∀ (s₂ : Shared) (acc' : Array Value) (c' : Nat), s₂.gens = s.gens → s₂.os = s.os → (∀ b o, s.heap.get? b = some o → s₂.heap.get? b = some o) → s₂.heap.get? s.heap.objs.size = some { cls := .type "list", dict := none, data := .seq acc' c', slots := #[] } → (acc'.toList.map keyOf).Perm l → (∀ v ∈ acc'.toList, ∃ x t, v = .str x t) →
      wpAny (model prog w) A (load s.heap.objs.size >>= fun o => match o.data with | .seq xs _ => pure xs.toList | _ => unsupported "internal:collect") R E s₂ := by
    intro s₂ acc' c' g1 g2 hk hD' hp hs
    refine wpAny_bind (wpAny_load hD' ?_)
    exact wpAny_pure (h s₂ acc'.toList g1 g2 hk hp hs)
  refine wpAny_mono key (fun fn s' x => ?_) fun e s' x => ?_
  · cases fn with
    | done f =>
      obtain ⟨acc', c', e, g1, g2, hk, hD', hp, hs⟩ := x
      cases e
      show wpAny _ A (load s.heap.objs.size >>= _) _ _ _
      refine wpAny_bind (wpAny_load hD' ?_)
      exact wpAny_pure (h s' acc'.toList g1 g2 hk hp hs)
    | again c₁ =>
      refine ⟨x.1, codeAny_mono x.2 fun q s₂ y => ?_⟩
      obtain ⟨acc', c', rfl, g1, g2, hk, hD', hp, hs⟩ := y
      show wpAny _ A (load s.heap.objs.size >>= _) _ _ _
      refine wpAny_bind (wpAny_load hD' ?_)
      exact wpAny_pure (h s₂ acc'.toList g1 g2 hk hp hs)
  · obtain ⟨_, _, e', _⟩ := x
    cases e'
theorem keyOf_strOf {vs : List Value} (hs : ∀ v ∈ vs, ∃ x t, v = .str x t) : vs.map strOf = vs.map keyOf := by
  refine List.map_congr_left fun v hv => ?_
  obtain ⟨x, t, rfl⟩ := hs v hv
  rfl
theorem sorted_set {S : Addr} {l : List Str} {Q : Value → Shared → Prop} (hh : A.handled = none) (hS : SetIs prog w s.heap S (byText w) l) (hz : l.length < 60)
    (h : ∀ (s' : Shared) (D : Addr) (vs : List Value) (ss : List Str) (k : Nat), s'.gens = s.gens → s'.os = s.os → (∀ b o, s.heap.get? b = some o → s'.heap.get? b = some o) → s.heap.get? D = none → IsL s'.heap D vs.toArray k → StrsAre vs ss → ss.Perm l → sortedS ss = true → Q (.ref D) s') :
    wpAny (model prog w) A (call (.builtin "sorted") [.ref S]) Q E s := by
  refine call_function_entry kind_sorted plain_sorted entry_sorted (args_sorted1 _) ?_
  unfold Builtin.«sorted»
  refine wpAny_bind (m := checkCount "sorted" 1 1 _) (wpAny_pure ?_)
  refine wpAny_bind (collect_set (A := A.in1) hh hS (by omega) fun s₁ vs g1 g2 hk hp hs => ?_)
  have hlen : vs.length = l.length := by rw [← hp.length_eq, List.length_map]
  refine wpAny_bind (wpAny_newList ?_ (by rw [hlen, sizeLine_eq]; omega))
  have hS1 : StrsAre vs (vs.map strOf) := strsAre_map vs hs
  have hoD : (s₁.heap.push (seqObj "list" vs.toArray 0)).get? s₁.heap.objs.size = some (seqObj "list" vs.toArray 0) := Heap.get?_push_size _ rfl
  refine wpAny_bind (wpAny_holding (wpAny_call_entry (s := { s₁ with heap := s₁.heap.push (seqObj "list" vs.toArray 0) }) slot_list_sort ⟨_, hoD, rfl⟩ entry_list_sort
    (list_sort_treeK strKind_oneLt hoD hS1.keysOf (fun v₁ v₂ rest e => keyKind_strs (by rw [← e]; exact hS1)) (by omega) fun st' hp' hs' => ⟨_, rfl, ?_⟩) (args_list_sort _)))
  obtain ⟨ss', a1, a2, a3⟩ := sorted_out_str hS1 hp' hs'
  obtain ⟨e, he⟩ := sortedHeap_at (out := (arrOf st').map (·.2)) hoD
  have hsz : s.heap.get? s₁.heap.objs.size = none := by
    cases e0 : s.heap.get? s₁.heap.objs.size with
    | none => rfl
    | some o => exact absurd (Heap.lt_size (hk _ _ e0)) (Nat.lt_irrefl _)
  refine wpAny_pure ⟨_, rfl, h _ s₁.heap.objs.size ((arrOf st').map (·.2)).toList ss' e g1 g2 (fun b o ho => ?_) hsz (by rw [Array.toArray_toList]; exact he) a1 ?_ a3⟩
  · show (sortedHeap (s₁.heap.push (seqObj "list" vs.toArray 0)) s₁.heap.objs.size vs _).get? b = some o
    have hb := hk b o ho
    have hlt : b < s₁.heap.objs.size := Heap.lt_size hb
    rw [sortedHeap_old (Nat.ne_of_lt hlt) (by rw [size_push']; exact Nat.lt_succ_of_lt hlt)]
    exact Heap.get?_push_of_some _ hb
  · rw [keyOf_strOf hs] at a2
    exact a2.trans hp
end
section
variable {c : Cx} {sc : Sc} {d : Nat} {ρ : Vars} {σ : St} {Q : Post} {A : Around} {env : Env} {s s₁ : Shared} {θ θ₁ : List Addr} {x y : Str}
theorem callWith_raw {f' : Value} {es : List Expr} {pos : Pos} {P : Value → Shared → Prop} (hs : noStar es = true) (hne : es ≠ [])
    (h0 : wpAny (model c.prog c.w) A (spliced (backTo pos (starEach es env))) (fun vs' s₁ => (∃ k, (k = Keeper.frame ∨ k = Keeper.machine ∨ k = Keeper.boundFrame) ∧ Looks (model c.prog c.w) s₁.heap (keeperOf f') k) ∧ wpAny (model c.prog c.w) A (call f' vs' []) P NoE s₁) NoE s) :
    wpAny (model c.prog c.w) A (callWith pos f' [] (backTo pos (starEach es env)) []) P NoE s := by
  rw [backTo_plain pos env hs] at h0 ⊢
  have fin : wpAny (model c.prog c.w) A (evalArgs f' true (es.map fun e => (false, eval e env)) []) (fun a s₁ => ((∃ k, (k = Keeper.frame ∨ k = Keeper.machine ∨ k = Keeper.boundFrame) ∧ Looks (model c.prog c.w) s₁.heap (keeperOf f') k) ∧ wpAny (model c.prog c.w) A (call f' ([] ++ a.pos) a.kw) P NoE s₁)) NoE s := by
    cases es with
    | nil => exact absurd rfl hne
    | cons e es => exact evalArgs_plain (wpAny_mono h0 (fun vs' s₁ q => q) fun _ _ x => x)
  unfold callWith
  refine wpAny_bind (wpAny_holding (wpAny_mono fin (fun a s₁ h₁ => wpAny_bind (wpAny_standAt ?_)) fun _ _ x => x))
  obtain ⟨⟨k, hk', L⟩, h₂⟩ := h₁
  have hp : ((es.map fun e => ((false : Bool), eval e env)).any (·.1) || ([] : List (Option Str × Sem Value)).any (·.1.isNone)) = false := by simp
  simp only [hp]
  refine wpAny_bind (L.here ?_)
  have tail : ∀ {t : Sem Value}, wpAny (model c.prog c.w) A t P NoE s₁ → wpAny (model c.prog c.w) A (t >>= fun r => holding [r] point >>= fun _ => pure r) P NoE s₁ :=
    fun ht => wpAny_bind (wpAny_mono ht (fun r s₂ hr => wpAny_bind (wpAny_holding (wpAny_point (wpAny_pure hr)))) fun _ _ x => x)
  have marked (mk : Value) : wpAny (model c.prog c.w) A (callMarked mk f' ([] ++ a.pos) a.kw) P NoE s₁ := by unfold callMarked; exact Calls.wpAny_keep h₂
  rcases hk' with rfl | rfl | rfl <;> dsimp only <;> first | exact tail h₂ | (split <;> first | exact tail h₂ | exact tail (marked _))
theorem EV_SortedSet (C : CxOk c) {e : Expr} {p1 p2 q1 q2 : Pos} (hk1 : sc.scope.names.lookup (Str.ofString "sorted") = some .globalImplicit) (hk2 : sc.scope.names.lookup (Str.ofString "set") = some .globalImplicit) (hv1 : get c.gl "sorted" = some (.raw (.builtin "sorted"))) (hv2 : get c.gl "set" = some (.raw (.type "set")))
    (h : EV c sc d e ρ σ fun v σ₁ => ∃ ys : List Str, isList σ₁ v (ys.map .str) ∧ ys.length < 60 ∧ ∀ ss : List Str, ss.Perm (addAll ys []) → sortedS ss = true → Q (.lst (ss.map .str)) σ₁)
    (hst : ∀ env, starEach [e] env = [(false, eval e env)]) (hn1 : noStar [e] = true) : EV c sc d (.Call (.Name "sorted" p1) [.Call (.Name "set" p2) [e] [] q2] [] q1) ρ σ Q := fun A env s θ r X I F => by
  refine Call_ (wpAny_mono (EV_glob C hk1 hv1 (Q := fun v σ' => v = .raw (.builtin "sorted") ∧ σ' = σ) ⟨rfl, rfl⟩ (by decide) A env s θ r X I F) (fun f' s₁ h₁ => ?_) fun _ _ x => x)
  obtain ⟨f, σ₁, θ₁, I₁, g₁, rf, rfl, rfl⟩ := h₁
  cases rf
  have F₁ := F.grow I.tupOut g₁
  refine callWith_raw rfl (by simp) ?_
  show wpAny _ _ (spliced [(false, eval (.Call (.Name "set" p2) [e] [] q2) env)]) _ _ _
  refine spliced_cons ?_
  refine Call_ (wpAny_mono (EV_glob C hk2 hv2 (Q := fun v σ' => v = .raw (.type "set") ∧ σ' = σ₁) ⟨rfl, rfl⟩ (by decide) A env s₁ θ₁ r X I₁ F₁) (fun f' s₂ h₂ => ?_) fun _ _ x => x)
  obtain ⟨f, σ₂, θ₂, I₂, g₂, rf, rfl, rfl⟩ := h₂
  cases rf
  have F₂ := F₁.grow I₁.tupOut g₂
  refine callWith_raw hn1 (by simp) ?_
  have he : EVs c sc d [e] ρ σ₂ fun vs σ₃ => ∃ (v : V) (ys : List Str), vs = [v] ∧ isList σ₃ v (ys.map .str) ∧ ys.length < 60 ∧ ∀ ss : List Str, ss.Perm (addAll ys []) → sortedS ss = true → Q (.lst (ss.map .str)) σ₃ :=
    EVs_cons (h.mono fun v σ' ⟨ys, h1, h2, h3⟩ => EVs_nil ⟨v, ys, rfl, h1, h2, h3⟩) fun env => hst env
  refine wpAny_mono (he A env q2 s₂ θ₂ r X I₂ F₂) (fun vs' s₃ h₃ => ?_) fun _ _ x => x
  obtain ⟨vs, σ₃, θ₃, I₃, g₃, rv, v, ys, rfl, hL, hlen, hQ⟩ := h₃
  refine ⟨Kp_type s₃ θ₃ _ I₃ (.raw _), ?_⟩
  obtain ⟨v', rfl, r1⟩ := rv.one
  obtain ⟨a, xs, n, rfl, hl, rl⟩ := I₃.asL hL r1
  have hxl : xs.length = ys.length := by rw [← rl.length, List.length_map]
  refine call_set_list r.handled hl ys (by simpa using hxl) (by rw [List.size_toArray]; omega) (fun i hi y hy => ?_) fun h₄ tk₄ hset hk₄ => ?_
  · obtain ⟨x, e1, e2⟩ := rl.at (show (ys.map V.str)[i]? = some (.str y) by rw [List.getElem?_map, hy]; rfl)
    have hi' : i < xs.length := by simpa using hi
    rw [List.getElem?_eq_getElem hi'] at e1
    cases e1
    cases h9 : xs[i] with
    | str z t => rw [h9] at e2; cases e2; exact ⟨t, by simpa using h9⟩
    | _ => rw [h9] at e2; cases e2
  refine wpAny_pure ⟨Kp_builtin _ θ₃ _ (I₃.keeps (t := tk₄) hk₄) (.raw _), ?_⟩
  have hlen2 : (addAll ys []).length < 60 := by have := addAll_len ys []; simp at this; omega
  refine sorted_set (s := { s₃ with heap := h₄, toks := tk₄ }) r.handled hset hlen2 fun s₅ D vs' ss k g1 g2 hk₅ hfresh hD hstr hp hsrt => ?_
  have hk : ∀ b o, s₃.heap.get? b = some o → s₅.heap.get? b = some o := fun b o e => hk₅ b o (hk₄ b o e)
  have I₅ : Inv c s₅ θ₃ σ₃ := ⟨fun b o e => hk b o (I₃.keep b o e), I₃.apart, I₃.nodup, RepS.grow I₃.rep hk, g1.trans I₃.gens, g2.trans I₃.os⟩
  have hDθ : D ∉ θ₃ := fun m => by
    obtain ⟨o, e⟩ := I₃.rep.exists m
    have h0 : h₄.get? D = none := hfresh
    rw [hk₄ _ _ e] at h0; cases h0
  refine ⟨.lst (ss.map .str), σ₃, θ₃, I₅, ((g₁.trans g₂).trans g₃).trans (grow_keeps hk), .lst _ D vs' k hDθ hD ?_, hQ ss hp hsrt⟩
  clear hD hp hsrt hQ
  induction hstr with
  | nil => exact .nil
  | cons y t _ ih => exact .cons (.str _ _) ih
end
end Mine
end
section
open PySem PySem.W PySem.Calls PyProof.Rows PySem.MeetsSeq PySem.MeetsSeq2 PySem.MeetsSeq3
set_option linter.unusedVariables false
set_option maxRecDepth 100000
namespace Mine
structure BoundOf (K : Frag) (C : Addr) (name : Str) (f : Addr) : Prop where
  g : plainGet K C name = true
  d : hasDictIn K C = true
  find : findIn K (.ref C) name = some (some (.ref f))
  fn : isFn K (.ref f) = true
  get : specialIn K (.ref f) "__get__" = some (some (.builtin "function.__get__"))
  takes : takesIn K (.ref f) = some false
  copied : copiedNames.contains name = false
section
variable {c : Cx} {sc : Sc} {d : Nat} {ρ : Vars} {σ : St} {Q : Post} {R : Fl → Vars → St → Prop} {A : Around} {env : Env} {s s₁ : Shared} {θ θ₁ : List Addr} {x y : Str} {target : Expr}
theorem ATTR_meth (Cc : CxOk c) {n k : Nat} {C f : Addr} {l : List (Str × V)} {name : Str} (hn : σ[n]? = some (.inst C k)) (hk : σ[k]? = some (.attrs l)) (hv : get l name = none) (ha : BoundOf c.K C name f) (h : Q (.loc σ.length) (σ ++ [.meth f n])) :
    ATTR c d (.loc n) name σ Q := fun A s θ o' b r I ro => by
  obtain ⟨a, rfl, e⟩ := ro.ofLoc
  obtain ⟨dx, es, m, h1, h2, h3, I'⟩ := I.inst hn hk e
  have q := h3.find name
  rw [hv] at q
  have X := Cc.K.keeps I.keep
  refine get_bind X I' (plainGet_of ha.g).1 (findObj_fn ha.d ha.find ha.get ha.takes ha.copied (by show lookIn name (dictOf es m) = _; rw [lookIn_dict]; exact q)) (plainGet_of ha.g).2
    (wpAny_call (fn_get (s := { s with toks := s.toks + 1 }) X (beq_iff_eq.mp ha.fn) (handed_on rfl ?_)))
  obtain ⟨I₂, g₂⟩ := I.alloc (t := s.toks + 1) (ob := methObj f a) (o := .meth f n) ⟨a, by rw [List.getElem?_append_left (List.getElem?_eq_some_iff.mp e).1]; exact e, Heap.get?_push_size _ rfl⟩
  exact ⟨.loc σ.length, _, _, I₂, g₂, .loc _ _ (by rw [← I.rep.len]; simp), h⟩
theorem Kp_meth (Cc : CxOk c) {m n : Nat} {f : Addr} (hm : σ[m]? = some (.meth f n)) (hf : fnIn c.K f = true) : Kp c σ (.loc m) := fun s θ f' I r => by
  obtain ⟨a, rfl, e⟩ := r.ofLoc
  obtain ⟨y, _, ho⟩ := I.rep.obj m _ a hm e
  exact keeps_M (self := .ref y) hf s.heap ⟨ho, Cc.K.keeps I.keep⟩
theorem CALL_meth (C : CxOk c) {a : Addr} {fd : FuncData} {ps : List Str} {body : List Stmt} {vs : List V} {m n : Nat} (f : FnAt c a fd ps body) (hm : σ[m]? = some (.meth a n)) (hlen : vs.length + 1 = ps.length) (hd : 1 ≤ d)
    (h : EXs c ⟨fd.scope, fd.code⟩ (d - 1) body (binds ps (.loc n :: vs) []) σ fun fl _ σ' => Q (retOf fl) σ') : CALL c d (.loc m) vs σ Q := fun A s θ f' vs' r I rf rv => by
  obtain ⟨b, rfl, e⟩ := rf.ofLoc
  obtain ⟨y, hy, ho⟩ := I.rep.obj m _ b hm e
  refine wpAny_call (method_call ho (codeAny_mono (code_def C f (by simpa using hlen) hd h r I (.cons (.loc n y hy) rv)) fun r s' q => ?_))
  cases r with
  | error e => exact q.elim
  | ok fl => cases fl <;> first | exact q | exact q.elim
end
end Mine
end
section
open PySem PySem.W PySem.Calls PyProof.Rows
set_option linter.unusedVariables false
set_option maxRecDepth 100000
namespace Mine
structure H (P : Prop) : Prop where
  go : P
noncomputable abbrev Ca (c : Cx) (d : Nat) (f : V) (vs : List V) (σ : St) (Q : Post) : Prop := H (CALL c d f vs σ Q)
noncomputable abbrev Bi (c : Cx) (d : Nat) (op : Operator) (a b : V) (σ : St) (Q : Post) : Prop := H (BIN c d op a b σ Q)
noncomputable abbrev Cm (c : Cx) (d : Nat) (op : CmpOp) (a b : V) (σ : St) (Q : Post) : Prop := H (CMP c d op a b σ Q)
noncomputable abbrev Tr (c : Cx) (d : Nat) (a : V) (σ : St) (B : Bool → St → Prop) : Prop := H (TRU c d a σ B)
noncomputable abbrev Gi (c : Cx) (d : Nat) (o i : V) (σ : St) (Q : Post) : Prop := H (GI c d o i σ Q)
noncomputable abbrev Si (c : Cx) (d : Nat) (o i v : V) (σ : St) (Q : St → Prop) : Prop := H (SI c d o i v σ Q)
noncomputable abbrev At (c : Cx) (d : Nat) (o : V) (name : Str) (σ : St) (Q : Post) : Prop := H (ATTR c d o name σ Q)
noncomputable abbrev Gm (c : Cx) (d : Nat) (o : V) (name : Str) (σ : St) (Q : V → List V → St → Prop) : Prop := H (GM c d o name σ Q)
noncomputable abbrev Ev (c : Cx) (sc : Sc) (d : Nat) (e : Expr) (ρ : Vars) (σ : St) (Q : Post) : Prop := H (EV c sc d e ρ σ Q)
noncomputable abbrev Ex (c : Cx) (sc : Sc) (d : Nat) (st : Stmt) (ρ : Vars) (σ : St) (R : Fl → Vars → St → Prop) : Prop := H (EX c sc d st ρ σ R)
noncomputable abbrev Iv (c : Cx) (d : Nat) (target : Expr) (v : V) (σ : St) (G : List V → (St → Prop) → St → Prop) : Prop := H (ITV c d target v σ G)
noncomputable abbrev Ic (c : Cx) (d : Nat) (target : Expr) (f : V) (vs : List V) (σ : St) (G : List V → (St → Prop) → St → Prop) : Prop := H (ITC c d target f vs σ G)
noncomputable abbrev Sa (c : Cx) (ov : V) (attr : Str) (v : V) (σ : St) (P : St → Prop) : Prop := H (∃ n k C l, ov = .loc n ∧ σ[n]? = some (.inst C k) ∧ σ[k]? = some (.attrs l) ∧ StoreOf c.K C attr ∧ l.length ≤ 900 ∧ P (σ.set k (.attrs (put l attr v))))
noncomputable def ck (b : Bool) (P : Prop) : Prop := match b with | true => P | false => False
noncomputable def br (b : Bool) (P Q : Prop) : Prop := match b with | true => P | false => Q
theorem ck_b {b : Bool} {P : Prop} (h : ck b P) : b = true := by cases b with | true => rfl | false => exact h.elim
theorem ck_p {b : Bool} {P : Prop} (h : ck b P) : P := by cases b with | true => exact h | false => exact h.elim
theorem br_T {b : Bool} {P Q : Prop} (e : b = true) (h : P) : br b P Q := by subst e; exact h
theorem br_F {b : Bool} {P Q : Prop} (e : b = false) (h : Q) : br b P Q := by subst e; exact h
theorem br_dT {p : Prop} [Decidable p] {P Q : Prop} (e : p) (h : P) : br (decide p) P Q := br_T (decide_eq_true e) h
theorem br_dF {p : Prop} [Decidable p] {P Q : Prop} (e : ¬ p) (h : Q) : br (decide p) P Q := br_F (decide_eq_false e) h
noncomputable def badN (x : Str) : Bool := x == ("__debug__" : Str) || x == ("__classdict__" : Str)
theorem badN_d {x : Str} (h : (!badN x) = true) : (x == ("__debug__" : Str)) = false ∧ (x == ("__classdict__" : Str)) = false := by simpa [badN] using h
noncomputable def gnm (c : Cx) (sc : Sc) (x : Str) : Option V := match sc.scope.names.lookup x with | some .globalImplicit => get c.gl x | _ => none
noncomputable def nm (c : Cx) (sc : Sc) (ρ : Vars) (x : Str) : Option V := match get ρ x with | some v => some v | none => gnm c sc x
noncomputable def oS {α : Type} (o : Option α) (k : α → Prop) : Prop := match o with | some v => k v | none => False
theorem oS_e {α : Type} {o : Option α} {k : α → Prop} (h : oS o k) : ∃ v, o = some v ∧ k v := by cases o with | some v => exact ⟨v, rfl, h⟩ | none => exact h.elim
noncomputable def kindB (sc : Sc) (x : Str) : Bool := match sc.scope.names.lookup x with | some .local => true | some .cell => true | _ => false
theorem kindB_ok {sc : Sc} {x : Str} (h : kindB sc x = true) : kindOk sc x := by
  unfold kindB at h
  cases e : sc.scope.names.lookup x with
  | none => rw [e] at h; cases h
  | some k =>
    rw [e] at h
    cases k with
    | «local» => exact .inl e
    | cell => exact .inr e
    | _ => cases h
theorem kindB_all {sc : Sc} {xs : List Str} (h : xs.all (kindB sc) = true) : ∀ x ∈ xs, kindOk sc x := fun x m => kindB_ok (List.all_eq_true.mp h x m)
structure Fns where
  E : Expr → Vars → St → Post → Prop
  Es : List Expr → Vars → St → (List V → St → Prop) → Prop
  T : Expr → Vars → St → (Bool → St → Prop) → Prop
  A : BoolOp → List Expr → Vars → St → (Bool → St → Prop) → Prop
  S : Stmt → Vars → St → (Fl → Vars → St → Prop) → Prop
  Ss : List Stmt → Vars → St → (Fl → Vars → St → Prop) → Prop
noncomputable def ii (a b : V) (f : Int → Int → Bool) : Option Bool := match a with | .int x => (match b with | .int y => some (f x y) | _ => none) | _ => none
noncomputable def binV (op : Operator) (a b : V) : Option V := match a with
  | .int x => (match b with | .int y => (match op with | .Add => some (.int (x + y)) | .Sub => some (.int (x - y)) | _ => none) | _ => none)
  | .bool x => (match b with | .bool y => (match op with | .Sub => some (.int ((if x then 1 else 0) - (if y then 1 else 0))) | _ => none) | _ => none)
  | _ => none
noncomputable def wBIN (c : Cx) (d : Nat) (op : Operator) (a b : V) (σ : St) (Q : Post) : Prop := match binV op a b with | some v => Q v σ | none => Bi c d op a b σ Q
noncomputable def strsV : List V → Option (List Str)
  | [] => some []
  | v :: l => match v with | .str x => (strsV l).map (x :: ·) | _ => none
noncomputable def eqV (a b : V) : Option Bool := match a with
  | .int x => (match b with | .int y => some (decide (x = y)) | _ => none)
  | .str x => (match b with | .str y => some (decide (x = y)) | _ => none)
  | .bool x => (match b with | .bool y => some (x == y) | _ => none)
  | _ => none
noncomputable def isV (a b : V) : Option Bool := match b with
  | .none => (match a with | .raw _ => none | v => some (isNone v))
  | _ => none
noncomputable def inV (a b : V) : Option Bool := match a with
  | .str x => (match b with | .tup l => (strsV l).map fun ys => decide (x ∈ ys) | _ => none)
  | _ => none
noncomputable def cmpV (op : CmpOp) (a b : V) : Option Bool := match op with
  | .Lt => ii a b fun x y => decide (x < y)
  | .Gt => ii a b fun x y => decide (y < x)
  | .LtE => ii a b fun x y => decide (x ≤ y)
  | .GtE => ii a b fun x y => decide (y ≤ x)
  | .Eq => eqV a b
  | .NotEq => (eqV a b).map not
  | .Is => isV a b
  | .IsNot => (isV a b).map not
  | .In => inV a b
  | _ => none
noncomputable def wCMP (c : Cx) (d : Nat) (op : CmpOp) (a b : V) (σ : St) (Q : Post) : Prop := match cmpV op a b with | some t => Q (.bool t) σ | none => Cm c d op a b σ Q
noncomputable def wTRU (c : Cx) (d : Nat) (v : V) (σ : St) (B : Bool → St → Prop) : Prop := match v with
  | .bool b => B b σ
  | .int a => B (a != 0) σ
  | .none => B false σ
  | v => Tr c d v σ B
noncomputable def wCMPT (c : Cx) (d : Nat) (op : CmpOp) (a b : V) (σ : St) (B : Bool → St → Prop) : Prop := match cmpV op a b with | some t => B t σ | none => Cm c d op a b σ fun v σ' => wTRU c d v σ' B
noncomputable def natV (i : V) : Option Nat := match i with
  | .int z => (match z with | .ofNat k => if k ≤ 100000 then some k else none | _ => none)
  | _ => none
noncomputable def getV (o i : V) : Option V := match o with
  | .tup l => (match natV i with | some k => l[k]? | none => none)
  | .str x => (match natV i with | some k => (x.cps[k]?).map (fun ch => .str ⟨#[ch]⟩) | none => none)
  | _ => none
noncomputable def wGI (c : Cx) (d : Nat) (o i : V) (σ : St) (Q : Post) : Prop := match getV o i with | some v => Q v σ | none => Gi c d o i σ Q
section
variable {c : Cx} {sc : Sc} {d : Nat} {ρ : Vars} {σ : St} {Q : Post} {B : Bool → St → Prop}
theorem ii_e {a b : V} {f : Int → Int → Bool} {t : Bool} (h : ii a b f = some t) : ∃ x y, a = .int x ∧ b = .int y ∧ t = f x y := by
  cases a with
  | int x => cases b with
    | int y => exact ⟨x, y, rfl, rfl, (Option.some.inj h).symm⟩
    | _ => cases h
  | _ => cases h
theorem wBIN_ok {op : Operator} {a b : V} (h : wBIN c d op a b σ Q) : BIN c d op a b σ Q := by
  cases a with
  | int x => cases b with
    | int y => cases op with
      | Add => exact BIN_add h
      | Sub => exact BIN_sub h
      | _ => exact h.go
    | _ => exact h.go
  | bool x => cases b with
    | bool y => cases op with
      | Sub => exact BIN_subB h
      | _ => exact h.go
    | _ => exact h.go
  | _ => exact h.go
theorem strsV_ok : ∀ {l : List V} {ys : List Str}, strsV l = some ys → l = ys.map .str
  | [], _, h => by cases h; rfl
  | v :: l, ys, h => by
    cases v with
    | str x =>
      obtain ⟨zs, e, rfl⟩ := Option.map_eq_some_iff.mp h
      rw [strsV_ok e]; rfl
    | _ => cases h
theorem eqV_ok {a b : V} {t : Bool} (e : eqV a b = some t) : (∀ {Q : Post}, Q (.bool t) σ → CMP c d .Eq a b σ Q) ∧ ∀ {Q : Post}, Q (.bool (!t)) σ → CMP c d .NotEq a b σ Q := by
  cases a with
  | int x => cases b with
    | int y => cases e; exact ⟨CMP_eq, CMP_ne⟩
    | _ => cases e
  | str x => cases b with
    | str y => cases e; exact ⟨CMP_eqS, CMP_neS⟩
    | _ => cases e
  | bool x => cases b with
    | bool y => cases e; exact ⟨CMP_eqB, CMP_neB⟩
    | _ => cases e
  | _ => cases e
theorem isV_ok {a b : V} {t : Bool} (e : isV a b = some t) : (∀ {Q : Post}, Q (.bool t) σ → CMP c d .Is a b σ Q) ∧ ∀ {Q : Post}, Q (.bool (!t)) σ → CMP c d .IsNot a b σ Q := by
  cases b with
  | none =>
    have h : (∀ u, a ≠ .raw u) ∧ t = isNone a := by cases a <;> first | cases e; exact ⟨fun _ x => (nomatch x), rfl⟩ | cases e
    obtain ⟨h, rfl⟩ := h
    exact ⟨CMP_is h, CMP_isNot h⟩
  | _ => cases e
theorem cmpV_ok {op : CmpOp} {a b : V} {t : Bool} (e : cmpV op a b = some t) (h : Q (.bool t) σ) : CMP c d op a b σ Q := by
  cases op with
  | Lt => obtain ⟨x, y, rfl, rfl, rfl⟩ := ii_e e; exact CMP_lt h
  | Gt => obtain ⟨x, y, rfl, rfl, rfl⟩ := ii_e e; exact CMP_gt h
  | LtE => obtain ⟨x, y, rfl, rfl, rfl⟩ := ii_e e; exact CMP_le h
  | GtE => obtain ⟨x, y, rfl, rfl, rfl⟩ := ii_e e; exact CMP_ge h
  | Eq => exact (eqV_ok e).1 h
  | NotEq => obtain ⟨u, e1, rfl⟩ := Option.map_eq_some_iff.mp e; exact (eqV_ok e1).2 h
  | Is => exact (isV_ok e).1 h
  | IsNot => obtain ⟨u, e1, rfl⟩ := Option.map_eq_some_iff.mp e; exact (isV_ok e1).2 h
  | In => cases a with
    | str x => cases b with
      | tup l => obtain ⟨ys, e1, rfl⟩ := Option.map_eq_some_iff.mp e; rw [strsV_ok e1]; exact CMP_inT h
      | _ => cases e
    | _ => cases e
  | NotIn => cases e
theorem wCMP_ok {op : CmpOp} {a b : V} (h : wCMP c d op a b σ Q) : CMP c d op a b σ Q := by
  unfold wCMP at h
  cases e : cmpV op a b with
  | none => rw [e] at h; exact h.go
  | some t => rw [e] at h; exact cmpV_ok e h
theorem wTRU_ok {v : V} (h : wTRU c d v σ B) : TRU c d v σ B := by
  cases v with
  | bool b => exact TRU_bool h
  | int a => exact TRU_int h
  | none => exact TRU_none h
  | _ => exact h.go
theorem CMP.mono {op : CmpOp} {a b : V} {Q' : Post} (h : CMP c d op a b σ Q) (hq : ∀ v σ', Q v σ' → Q' v σ') : CMP c d op a b σ Q' := fun A s θ a' b' r I ra rb =>
  wpAny_mono (h A s θ a' b' r I ra rb) (fun _ _ ⟨v, σ', θ', a, b, y, q⟩ => ⟨v, σ', θ', a, b, y, hq _ _ q⟩) fun _ _ x => x
theorem wCMPT_ok {op : CmpOp} {a b : V} (h : wCMPT c d op a b σ B) : CMP c d op a b σ fun v σ' => TRU c d v σ' B := by
  unfold wCMPT at h
  cases e : cmpV op a b with
  | none => rw [e] at h; exact h.go.mono fun _ _ q => wTRU_ok q
  | some t => rw [e] at h; exact cmpV_ok e (TRU_bool h)
theorem natV_e {i : V} {k : Nat} (h : natV i = some k) : i = .int k ∧ k ≤ 100000 := by
  cases i with
  | int z => cases z with
    | ofNat n =>
      have h : (if n ≤ 100000 then some n else none) = some k := h
      split at h
      · next g => cases h; exact ⟨rfl, g⟩
      · cases h
    | negSucc n => cases h
  | _ => cases h
theorem wGI_ok {o i : V} (h : wGI c d o i σ Q) : GI c d o i σ Q := by
  unfold wGI at h
  cases e : getV o i with
  | none => rw [e] at h; exact h.go
  | some v =>
    rw [e] at h
    cases o with
    | tup l =>
      unfold getV at e
      cases e1 : natV i with
      | none => rw [e1] at e; cases e
      | some k =>
        rw [e1] at e
        obtain ⟨rfl, hk⟩ := natV_e e1
        exact GI_tup (Int.natCast_nonneg k) (by rw [Int.toNat_natCast]; exact e) h (by omega)
    | str x =>
      unfold getV at e
      cases e1 : natV i with
      | none => rw [e1] at e; cases e
      | some k =>
        rw [e1] at e
        obtain ⟨rfl, hk⟩ := natV_e e1
        obtain ⟨ch, e2, rfl⟩ := Option.map_eq_some_iff.mp e
        exact GI_str (Int.natCast_nonneg k) (by rw [Int.toNat_natCast]; exact e2) h (by omega)
    | _ => cases e
end
end Mine
end
section
open PySem PySem.W PySem.Calls PyProof.Rows
set_option linter.unusedVariables false
set_option maxRecDepth 100000
namespace Mine
noncomputable abbrev Rec := Sc → Fns
noncomputable def isSet : Expr → Bool | .Set .. => true | _ => false
noncomputable def isSt : Expr → Bool | .Starred .. => true | _ => false
noncomputable def isComp : Expr → Bool | .ListComp .. => true | .SetComp .. => true | .DictComp .. => true | _ => false
noncomputable def isCall : Expr → Bool | .Call .. => true | _ => false
noncomputable def isSlice : Expr → Bool | .Slice .. => true | _ => false
noncomputable def isTup : Expr → Bool | .Tuple .. => true | _ => false
noncomputable def isRaw : V → Bool | .raw _ => true | _ => false
noncomputable def capt (scope : Scope) (ρ : Vars) : Vars := scope.names.filterMap fun y => if y.2 = .free then (get ρ y.1).map fun v => (y.1, v) else none
noncomputable def swapB (sc : Sc) (ts vs : List Expr) : Option (List Str) :=
  let xs := ts.filterMap fun | .Name id pos => if sc.scope.names.lookup id == some .local && pos.line == (ts.head?.map (·.pos.line)).getD 0 then some id else none | _ => none
  if !(ts.length == 2 || ts.length == 3) || vs.length != ts.length then none
  else if vs.any fun | .Starred .. => true | _ => false then none
  else if xs.length != ts.length || xs.eraseDups.length != xs.length then none
  else if vs.all (foldedForSure 8) then none
  else if vs.all (constantsAlone 8) then none
  else some xs
noncomputable def swapC (sc : Sc) (t : Str) (tp : Pos) (scope : Scope) (pos : Pos) : Bool :=
  sc.scope.names.lookup t == some .local && tp.line == pos.line && !(scope.names.any fun (n, k) => n == t && (k == .local || k == .cell))
structure Gen1 where
  x : Str
  px : Pos
  iter : Expr
  ts : List Expr
noncomputable def gen1 (gens : List Comprehension) : Option Gen1 := match gens with
  | [] => none
  | g :: r => match r with
    | _ :: _ => none
    | [] => match g with
      | ⟨t, iter, ts, a⟩ => match t with
        | .Name x px => if a = 0 then some ⟨x, px, iter, ts⟩ else none
        | _ => none
noncomputable def wPt (F : Rec) (sc : Sc) (e : Option Expr) (ρ : Vars) (σ : St) (B : Option Nat → St → Prop) : Prop := match e with
  | none => B none σ
  | some e => (F sc).E e ρ σ fun v σ' => ∃ n : Nat, v = .int n ∧ B (some n) σ'
section
variable (c : Cx) (d : Nat) (F : Rec) (sc : Sc)
noncomputable def eConst (k : Const) (σ : St) (Q : Post) : Prop := match k with
  | .int i => Q (.int i) σ
  | .str x => Q (.str x) σ
  | .bool b => Q (.bool b) σ
  | .none => Q .none σ
  | _ => False
noncomputable def eName (x : Str) (ρ : Vars) (σ : St) (Q : Post) : Prop := ck (!badN x) (oS (nm c sc ρ x) fun v => Q v σ)
noncomputable def byName (x : Str) (args : List Expr) (ρ : Vars) (σ : St) (G : V → List V → St → Prop) : Prop := ck (noStar args && !badN x) (match get ρ x with
      | some fv => (F sc).Es args ρ σ fun vs σ₂ => Kp c σ₂ fv ∧ G fv vs σ₂
      | none => oS (gnm c sc x) fun fv => ck (isRaw fv) ((F sc).Es args ρ σ fun vs σ₂ => G fv vs σ₂))
noncomputable def isSS (args : List Expr) : Bool := match args with
  | [] => false
  | a :: r => match r with
    | [] => (match a with | .Call g _ _ _ => (match g with | .Name y _ => y == ("set" : Str) | _ => false) | _ => false)
    | _ :: _ => false
noncomputable def eCall (f : Expr) (args : List Expr) (kws : List Keyword) (pos : Pos) (ρ : Vars) (σ : St) (Q : Post) : Prop := match kws with
  | _ :: _ => Ev c sc d (.Call f args kws pos) ρ σ Q
  | [] => match f with
    | .Name x p => (match isSS args with
      | true => Ev c sc d (.Call (.Name x p) args [] pos) ρ σ Q
      | false => byName c F sc x args ρ σ fun fv vs σ₂ => Ca c d fv vs σ₂ Q)
    | .Attribute o name ap => ck (noStar args && (!isCall o && (ap.endLine == pos.line && Nat.blt args.length 30))) ((F sc).E o ρ σ fun ov σ₁ => Gm c d ov name σ₁ fun fv first σ₂ => (F sc).Es args ρ σ₂ fun vs σ₃ => Kp c σ₃ fv ∧ Ca c d fv (first ++ vs) σ₃ Q)
    | f => Ev c sc d (.Call f args [] pos) ρ σ Q
noncomputable def eSlice (whole : Expr) (v : V) (lo hi stp : Option Expr) (ρ : Vars) (σ : St) (Q : Post) : Prop := match stp with
  | some one => ck (lo.isNone && hi.isNone) ((F sc).E one ρ σ fun u σ₃ => u = .int (-1) ∧ ∃ l, isList σ₃ v l ∧ l.length ≤ 9000 ∧ Q (.lst l.reverse) σ₃)
  | none => match v with
    | .raw _ => Ev c sc d whole ρ σ Q
    | .tup l => (match lo with
      | some e => ck hi.isNone ((F sc).E e ρ σ fun u σ₁ => ∃ n : Nat, u = .int n ∧ l.length ≤ 9000 ∧ 1 ≤ n ∧ n ≤ l.length ∧ Q (.tup (l.drop n)) σ₁)
      | none => Ev c sc d whole ρ σ Q)
    | v => wPt F sc lo ρ σ fun a σ₂ => wPt F sc hi ρ σ₂ fun b σ₃ => ∃ l l', isList σ₃ v l ∧ l.length ≤ 9000 ∧ pickN l a b = some l' ∧ Q (.lst l') σ₃
noncomputable def eSub (o i : Expr) (pos : Pos) (ρ : Vars) (σ : St) (Q : Post) : Prop := match i with
  | .Slice lo hi stp p => (match o with
    | .Name x _ => ck (!badN x) (oS (nm c sc ρ x) fun v => eSlice c d F sc (.Subscript o (.Slice lo hi stp p) pos) v lo hi stp ρ σ Q)
    | o => Ev c sc d (.Subscript o (.Slice lo hi stp p) pos) ρ σ Q)
  | i => (F sc).E o ρ σ fun ov σ₁ => (F sc).E i ρ σ₁ fun iv σ₂ => wGI c d ov iv σ₂ Q
noncomputable def eCmp (l : Expr) (ops : List CmpOp) (rs : List Expr) (pos : Pos) (ρ : Vars) (σ : St) (Q : Post) : Prop := match ops with
  | [] => False
  | op :: ops => match rs with
    | [] => False
    | r :: rs => match ops with
      | [] => (match rs with
        | [] => ck (!isSet r) ((F sc).E l ρ σ fun a σ₁ => (F sc).E r ρ σ₁ fun b σ₂ => wCMP c d op a b σ₂ Q)
        | _ :: _ => False)
      | o₂ :: ops => match ops with
        | _ :: _ => False
        | [] => match rs with
          | [] => False
          | r₂ :: rs => match rs with
            | _ :: _ => False
            | [] => ck (!isSet r₂) ((F sc).E l ρ σ fun a σ₁ => (F sc).E r ρ σ₁ fun b σ₂ => wCMP c d op a b σ₂ fun v σ₃ => wTRU c d v σ₃ fun t σ₄ => br t ((F sc).E r₂ ρ σ₄ fun w σ₅ => wCMP c d o₂ b w σ₅ Q) (Q v σ₄))
noncomputable def tCmp (l : Expr) (ops : List CmpOp) (rs : List Expr) (ρ : Vars) (σ : St) (B : Bool → St → Prop) : Prop := match ops with
  | [] => False
  | op :: ops => match rs with
    | [] => False
    | r :: rs => ck (ops.isEmpty && (rs.isEmpty && !isSet r)) ((F sc).E l ρ σ fun a σ₁ => (F sc).E r ρ σ₁ fun b σ₂ => wCMPT c d op a b σ₂ B)
noncomputable def itCall (iter : Expr) : Option (Str × List Expr) := match iter with
  | .Call f args kws _ => (match f with
    | .Name x _ => (match kws with | [] => some (x, args) | _ :: _ => none)
    | _ => none)
  | _ => none
noncomputable def wITX (target iter : Expr) (ρ : Vars) (σ : St) (G : List V → (St → Prop) → St → Prop) : Prop := match itCall iter with
  | some (x, args) => byName c F sc x args ρ σ fun fv vs σ₂ => Ic c d target fv vs σ₂ G
  | none => (F sc).E iter ρ σ fun v σ₁ => Iv c d target v σ₁ G
noncomputable def wCOMPS (sc' : Sc) (elt : Expr) (x : Str) (K : St → Prop) (n : Nat) (T : List V → St → Prop) : List V → List V → Vars → St → Prop
  | [], acc, _, σ => σ[n]? = some (.list acc) ∧ T acc σ
  | v :: r, acc, ρ, σ => (F sc').E elt (put ρ x v) σ fun u σ₁ => σ₁[n]? = some (.list acc) ∧ acc.length ≤ 9000 ∧ K (σ₁.set n (.list (acc ++ [u]))) ∧ wCOMPS sc' elt x K n T r (acc ++ [u]) (put ρ x v) (σ₁.set n (.list (acc ++ [u])))
noncomputable def wCOMPSF (sc' : Sc) (elt tst : Expr) (x : Str) (K : St → Prop) (n : Nat) (T : List V → St → Prop) : List V → List V → Vars → St → Prop
  | [], acc, _, σ => σ[n]? = some (.list acc) ∧ T acc σ
  | v :: r, acc, ρ, σ => (F sc').T tst (put ρ x v) σ fun b σ₁ => br b ((F sc').E elt (put ρ x v) σ₁ fun u σ₂ => σ₂[n]? = some (.list acc) ∧ acc.length ≤ 9000 ∧ K (σ₂.set n (.list (acc ++ [u]))) ∧ wCOMPSF sc' elt tst x K n T r (acc ++ [u]) (put ρ x v) (σ₂.set n (.list (acc ++ [u]))))
      (K σ₁ ∧ wCOMPSF sc' elt tst x K n T r acc (put ρ x v) σ₁)
noncomputable def wLC (elt : Expr) (g : Gen1) (scope : Scope) (ρ : Vars) (σ : St) (T : Nat → List V → St → Prop) : Prop := ck (Nat.ble g.ts.length 1 && (compB scope sc.scope g.x ((capt scope ρ).map (·.1)) && !isSet g.iter)) (wITX c d F sc (.Name g.x g.px) g.iter ρ σ fun l K σ₂ => K (σ₂ ++ [.list []]) ∧ (match g.ts with
  | [] => wCOMPS F (compSc scope sc) elt g.x K σ₂.length (T σ₂.length) l [] (capt scope ρ) (σ₂ ++ [.list []])
  | t :: _ => wCOMPSF F (compSc scope sc) elt t g.x K σ₂.length (T σ₂.length) l [] (capt scope ρ) (σ₂ ++ [.list []])))
noncomputable def eUn (op : UnaryOp) (e : Expr) (ρ : Vars) (σ : St) (Q : Post) : Prop := match op with
  | .USub => (F sc).E e ρ σ fun v σ₁ => ∃ i, v = .int i ∧ Q (.int (-i)) σ₁
  | .Not => (F sc).E e ρ σ fun v σ₁ => wTRU c d v σ₁ fun b σ₂ => Q (.bool !b) σ₂
  | _ => False
noncomputable def isNoneC (e : Expr) : Bool := match e with | .Constant k _ _ => (match k with | .none => true | _ => false) | _ => false
noncomputable def eIf (t b o : Expr) (p : Pos) (ρ : Vars) (σ : St) (Q : Post) : Prop := match isNoneC o with
  | true => Ev c sc d (.IfExp t b o p) ρ σ Q
  | false => (F sc).T t ρ σ fun x σ₁ => br x ((F sc).E b ρ σ₁ Q) ((F sc).E o ρ σ₁ Q)
noncomputable def sE (e : Expr) (ρ : Vars) (σ : St) (Q : Post) : Prop := match e with
  | .Constant k _ _ => eConst k σ Q
  | .Name x _ => eName c sc x ρ σ Q
  | .BinOp l op r _ => (F sc).E l ρ σ fun a σ₁ => (F sc).E r ρ σ₁ fun b σ₂ => wBIN c d op a b σ₂ Q
  | .UnaryOp op e _ => eUn c d F sc op e ρ σ Q
  | .Compare l ops rs pos => eCmp c d F sc l ops rs pos ρ σ Q
  | .Tuple es _ _ => (F sc).Es es ρ σ fun vs σ₁ => ck (Nat.ble vs.length 1000) (Q (.tup vs) σ₁)
  | .IfExp t b o p => eIf c d F sc t b o p ρ σ Q
  | .Call f args kws pos => eCall c d F sc f args kws pos ρ σ Q
  | .Attribute o name _ => ck (!isCall o) ((F sc).E o ρ σ fun ov σ₁ => At c d ov name σ₁ Q)
  | .Subscript o i pos => eSub c d F sc o i pos ρ σ Q
  | .ListComp elt gens scope _ => oS (gen1 gens) fun g => wLC c d F sc elt g scope ρ σ fun n vs σ₃ => Q (.loc n) σ₃
  | e => Ev c sc d e ρ σ Q
noncomputable def sEs (es : List Expr) (ρ : Vars) (σ : St) (Q : List V → St → Prop) : Prop := match es with
  | [] => Q [] σ
  | e :: es => ck (!isSt e) ((F sc).E e ρ σ fun v σ₁ => (F sc).Es es ρ σ₁ fun vs σ₂ => Q (v :: vs) σ₂)
noncomputable def sT (e : Expr) (ρ : Vars) (σ : St) (B : Bool → St → Prop) : Prop := match e with
  | .UnaryOp op e' p => (match op with | .Not => (F sc).T e' ρ σ fun b σ₁ => B (!b) σ₁ | _ => False)
  | .BoolOp op es _ => (F sc).A op es ρ σ B
  | .Compare l ops rs _ => tCmp c d F sc l ops rs ρ σ B
  | .IfExp .. => False
  | e => (F sc).E e ρ σ fun v σ₁ => wTRU c d v σ₁ B
noncomputable def sA (op : BoolOp) (es : List Expr) (ρ : Vars) (σ : St) (B : Bool → St → Prop) : Prop := match es with
  | [] => (match op with | .And => B true σ | .Or => B false σ)
  | e :: es => (F sc).T e ρ σ fun b σ₁ => (match op with | .And => br b ((F sc).A .And es ρ σ₁ B) (B false σ₁) | .Or => br b (B true σ₁) ((F sc).A .Or es ρ σ₁ B))
noncomputable def wBind (target : Expr) (v : V) (ρ : Vars) (k : Vars → Prop) : Prop := match target with
  | .Name x _ => ck (kindB sc x) (k (put ρ x v))
  | .Tuple es _ _ => oS (namesOf es) fun xs => ck (xs.all (kindB sc)) (match v with
    | .tup vs => xs.length = vs.length ∧ k (binds xs vs ρ)
    | .lst vs => xs.length = vs.length ∧ k (binds xs vs ρ)
    | _ => False)
  | _ => False
noncomputable def wNext (go : Vars → St → Prop) (R : Fl → Vars → St → Prop) (f : Fl) (ρ' : Vars) (σ' : St) : Prop := match f with
      | .next => go ρ' σ'
      | .cont => go ρ' σ'
      | .brk => R .next ρ' σ'
      | .ret v => R (.ret v) ρ' σ'
noncomputable def tupPost (v : V) (xs : List Str) (k : List V → Prop) (σ₁ : St) : Prop := match v with
    | .tup ws => xs.length = ws.length ∧ k ws
    | v => ∃ ws, isList σ₁ v ws ∧ xs.length = ws.length ∧ k ws
noncomputable def isSubT (es : List Expr) : Bool := match es with
  | [] => false
  | e :: _ => match e with | .Subscript .. => true | _ => false
noncomputable def sTup (es : List Expr) (k : Nat) (tp : Pos) (value : Expr) (pos : Pos) (ρ : Vars) (σ : St) (R : Fl → Vars → St → Prop) : Prop := match isSubT es with
  | true => Ex c sc d (.Assign [.Tuple es k tp] value pos) ρ σ R
  | false => match value with
  | .Tuple vs k' p' => oS (swapB sc es vs) fun xs => (F sc).Es vs ρ σ fun ws σ₁ => ck (Nat.ble ws.length 1000) (xs.length = ws.length ∧ R .next (binds xs.reverse ws.reverse ρ) σ₁)
  | value => oS (namesOf es) fun xs => ck (xs.all (kindB sc)) ((F sc).E value ρ σ fun v σ₁ => tupPost v xs (fun ws => R .next (binds xs ws ρ) σ₁) σ₁)
noncomputable def sAssign (t value : Expr) (pos : Pos) (ρ : Vars) (σ : St) (R : Fl → Vars → St → Prop) : Prop := match t with
  | .Name x xp => (match value with
    | .ListComp elt gens scope cp => oS (gen1 gens) fun g => ck (swapC sc x xp scope cp) (wLC c d F sc elt g scope ρ σ fun n vs σ₃ => R .next (put ρ x (.loc n)) σ₃)
    | value => ck (!isComp value && kindB sc x) ((F sc).E value ρ σ fun v σ₁ => R .next (put ρ x v) σ₁))
  | .Subscript o i ip => ck (!isComp value && !isSlice i) ((F sc).E value ρ σ fun v σ₁ => (F sc).E o ρ σ₁ fun ov σ₂ => (F sc).E i ρ σ₂ fun iv σ₃ => Si c d ov iv v σ₃ fun σ₄ => R .next ρ σ₄)
  | .Attribute o attr ap => ck (!isComp value) ((F sc).E value ρ σ fun v σ₁ => (F sc).E o ρ σ₁ fun ov σ₂ => Sa c ov attr v σ₂ fun σ₃ => R .next ρ σ₃)
  | .Tuple es k tp => sTup c d F sc es k tp value pos ρ σ R
  | t => Ex c sc d (.Assign [t] value pos) ρ σ R
noncomputable def sAug (t : Expr) (op : Operator) (value : Expr) (ρ : Vars) (σ : St) (R : Fl → Vars → St → Prop) : Prop := match t with
  | .Name x p => (match op with
    | .Add => ck (kindB sc x && !badN x) (oS (get ρ x) fun u => ∃ a, u = .int a ∧ (F sc).E value ρ σ fun v σ₁ => ∃ b, v = .int b ∧ R .next (put ρ x (.int (a + b))) σ₁)
    | _ => False)
  | _ => False
noncomputable def sS (st : Stmt) (ρ : Vars) (σ : St) (R : Fl → Vars → St → Prop) : Prop := match st with
  | .Return e _ => (match e with | some e => (F sc).E e ρ σ fun v σ₁ => R (.ret v) ρ σ₁ | none => R (.ret .none) ρ σ)
  | .If t b o _ => (F sc).T t ρ σ fun x σ₁ => br x ((F sc).Ss b ρ σ₁ R) ((F sc).Ss o ρ σ₁ R)
  | .Assign ts value pos => (match ts with
    | [] => False
    | t :: ts => match ts with | [] => sAssign c d F sc t value pos ρ σ R | _ :: _ => False)
  | .Expr e _ => ck (!isComp e) ((F sc).E e ρ σ fun _ σ₁ => R .next ρ σ₁)
  | .AugAssign t op value pos => sAug F sc t op value ρ σ R
  | st => Ex c sc d st ρ σ R
noncomputable def sSs (l : List Stmt) (ρ : Vars) (σ : St) (R : Fl → Vars → St → Prop) : Prop := match l with
  | [] => R .next ρ σ
  | st :: rest => (F sc).S st ρ σ fun f ρ' σ' => match f with
    | .next => (F sc).Ss rest ρ' σ' R
    | f => R f ρ' σ'
end
noncomputable def wp (c : Cx) (d : Nat) : Nat → Rec
  | 0 => fun _ => ⟨fun _ _ _ _ => False, fun _ _ _ _ => False, fun _ _ _ _ => False, fun _ _ _ _ _ => False, fun _ _ _ _ => False, fun _ _ _ _ => False⟩
  | n + 1 => fun sc => ⟨sE c d (wp c d n) sc, sEs (wp c d n) sc, sT c d (wp c d n) sc, sA (wp c d n) sc, sS c d (wp c d n) sc, sSs (wp c d n) sc⟩
end Mine
end
section
open PySem PySem.W PySem.Calls PyProof.Rows
set_option linter.unusedVariables false
set_option maxRecDepth 100000
namespace Mine
section
variable {c : Cx} {sc : Sc} {d : Nat} {ρ : Vars} {σ : St} {Q : Post} {R : Fl → Vars → St → Prop} {B : Bool → St → Prop} {F : Rec} {x : Str} {G : List V → (St → Prop) → St → Prop} {target : Expr}
theorem EVs.mono {es : List Expr} {Q Q' : List V → St → Prop} (h : EVs c sc d es ρ σ Q) (hq : ∀ v σ', Q v σ' → Q' v σ') : EVs c sc d es ρ σ Q' := fun A env p s θ r X I F =>
  wpAny_mono (h A env p s θ r X I F) (fun _ _ ⟨v, σ', θ', a, b, y, q⟩ => ⟨v, σ', θ', a, b, y, hq _ _ q⟩) fun _ _ x => x
theorem ET.mono {e : Expr} {B' : Bool → St → Prop} (h : ET c sc d e ρ σ B) (hq : ∀ v σ', B v σ' → B' v σ') : ET c sc d e ρ σ B' := fun A env s θ r X I F =>
  wpAny_mono (h A env s θ r X I F) (fun _ _ ⟨σ', θ', a, b, q⟩ => ⟨σ', θ', a, b, hq _ _ q⟩) fun _ _ x => x
theorem TRU.mono {a : V} {B' : Bool → St → Prop} (h : TRU c d a σ B) (hq : ∀ v σ', B v σ' → B' v σ') : TRU c d a σ B' := fun A s θ a' r I ra =>
  wpAny_mono (h A s θ a' r I ra) (fun _ _ ⟨σ', θ', a, b, q⟩ => ⟨σ', θ', a, b, hq _ _ q⟩) fun _ _ x => x
theorem GM.mono {o : V} {name : Str} {Q Q' : V → List V → St → Prop} (h : GM c d o name σ Q) (hq : ∀ f l σ', Q f l σ' → Q' f l σ') : GM c d o name σ Q' := fun A s θ o' pl r I ro =>
  wpAny_mono (h A s θ o' pl r I ro) (fun _ _ ⟨f, l, σ', θ', a, b, y, z, q⟩ => ⟨f, l, σ', θ', a, b, y, z, hq _ _ _ q⟩) fun _ _ x => x
theorem ITX.mono {e : Expr} {G' : List V → (St → Prop) → St → Prop} (h : ITX c sc d target e ρ σ G) (hq : ∀ l K σ', G l K σ' → G' l K σ') : ITX c sc d target e ρ σ G' := fun A env s θ r X I F =>
  wpAny_mono (h A env s θ r X I F) (fun _ _ h => wpAny_mono h (fun _ _ ⟨l, K, σ', θ', a, b, y, z, q⟩ => ⟨l, K, σ', θ', a, b, y, z, hq _ _ _ q⟩) fun _ _ x => x) fun _ _ x => x
theorem br_to {b : Bool} {P P' S S' : Prop} (h : br b P S) (h1 : P → P') (h2 : S → S') : if b = true then P' else S' := by cases b with | true => exact h1 h | false => exact h2 h
structure Sound (c : Cx) (d : Nat) (F : Rec) : Prop where
  E : ∀ {sc : Sc} {e : Expr} {ρ : Vars} {σ : St} {Q : Post}, (F sc).E e ρ σ Q → EV c sc d e ρ σ Q
  Es : ∀ {sc : Sc} {es : List Expr} {ρ : Vars} {σ : St} {Q : List V → St → Prop}, (F sc).Es es ρ σ Q → EVs c sc d es ρ σ Q
  T : ∀ {sc : Sc} {e : Expr} {ρ : Vars} {σ : St} {B : Bool → St → Prop}, (F sc).T e ρ σ B → ET c sc d e ρ σ B
  A : ∀ {sc : Sc} {op : BoolOp} {es : List Expr} {ρ : Vars} {σ : St} {B : Bool → St → Prop}, (F sc).A op es ρ σ B → ETA c sc d op es ρ σ B
  S : ∀ {sc : Sc} {st : Stmt} {ρ : Vars} {σ : St} {R : Fl → Vars → St → Prop}, (F sc).S st ρ σ R → EX c sc d st ρ σ R
  Ss : ∀ {sc : Sc} {l : List Stmt} {ρ : Vars} {σ : St} {R : Fl → Vars → St → Prop}, (F sc).Ss l ρ σ R → EXs c sc d l ρ σ R
structure CxK (c : Cx) : Prop where
  ok : CxOk c
  kp : ∀ x v, get c.gl x = some v → isRaw v = true → ∀ σ, Kp c σ v
theorem and2 {a b : Bool} (h : (a && b) = true) : a = true ∧ b = true := Bool.and_eq_true_iff.mp h
theorem gnm_e {v : V} (h : gnm c sc x = some v) : sc.scope.names.lookup x = some .globalImplicit ∧ get c.gl x = some v := by
  unfold gnm at h
  cases e : sc.scope.names.lookup x with
  | none => rw [e] at h; cases h
  | some k =>
    rw [e] at h
    cases k with
    | globalImplicit => exact ⟨rfl, h⟩
    | _ => cases h
theorem name_ok (K : CxK c) {p : Pos} {v : V} (hb : (!badN x) = true) (hv : nm c sc ρ x = some v) (h : Q v σ) : EV c sc d (.Name x p) ρ σ Q := by
  obtain ⟨b1, b2⟩ := badN_d hb
  unfold nm at hv
  cases e : get ρ x with
  | some u => rw [e] at hv; cases hv; exact EV_name e h b1 b2
  | none => rw [e] at hv; obtain ⟨h1, h2⟩ := gnm_e hv; exact EV_glob K.ok h1 h2 h b1
theorem isSet_hm {op : CmpOp} {r : Expr} (h : (!isSet r) = true) : behindInMarks op r = false := by cases r <;> first | rfl | cases h
theorem isSet_fs {r : Expr} (h : (!isSet r) = true) : ∀ env x, foldedSetIterable r env x = pure x := by cases r <;> first | (intro _ _; rfl) | cases h
theorem isComp_sw {r : Expr} (h : (!isComp r) = true) (t : Option Expr) (n : Nat) : ∀ env, swapsWith r t n env = pure false := by cases r <;> first | (intro _; rfl) | cases h
theorem isSt_se {e : Expr} {es : List Expr} (h : (!isSt e) = true) : ∀ env, starEach (e :: es) env = (false, eval e env) :: starEach es env := by cases e <;> first | (intro _; rfl) | cases h
theorem sub_hs {i : Expr} (h : (!isSlice i) = true) : ∀ ov iv, ∃ ops, subscripted i false ov iv = operate ops (getItem ov iv) := by cases i <;> first | exact fun _ _ => ⟨_, rfl⟩ | cases h
theorem attr_base {o : Expr} (h : (!isCall o) = true) (name : Str) (env : Env) (w : Sem Value) : attributeBase o name env w = w := by cases o <;> first | rfl | cases h
theorem mcall_he {o : Expr} {name : Str} {ap pos : Pos} {args : List Expr} (hs : noStar args = true) (h1 : (!isCall o) = true) (h2 : (ap.endLine == pos.line) = true) (h3 : Nat.blt args.length 30 = true) : ∀ env, ∃ pl, eval (.Call (.Attribute o name ap) args [] pos) env = (do
      let ov ← eval o env
      standAt ap.atName
      let (f, first) ← holding [ov] (getMethod ov name pl)
      callWith pos f first (backTo pos (starEach args env)) []) := fun env => by
  have e1 : methodCallForm args.length (backTo pos (starEach args env)) [] = true := by
    rw [backTo_plain pos env hs]
    have : args.length < 30 := Nat.lt_of_succ_le (Nat.le_of_ble_eq_true h3)
    simp [methodCallForm, this]
  have e2 : methodCallPos true o env ap pos = pure pos := by unfold methodCallPos; rw [h2]; rfl
  refine ⟨do return (← importBound o env).getD true, ?_⟩
  show (do
    let ov ← attributeBase o name env (eval o env)
    standAt ap.atName
    methodCall o name ap pos env ov (args.length + 0) (backTo pos (starEach args env)) []) = _
  rw [attr_base h1]
  unfold methodCall
  rw [Nat.add_zero, e1]
  unfold calleeOf
  rw [e2]
  rfl
theorem byName_ok (K : CxK c) (I : Sound c d F) {args : List Expr} {G : V → List V → St → Prop} {p : Pos} (h : byName c F sc x args ρ σ G) : noStar args = true ∧ EV c sc d (.Name x p) ρ σ fun f σ₁ => EVs c sc d args ρ σ₁ fun vs σ₂ => Kp c σ₂ f ∧ G f vs σ₂ := by
  obtain ⟨h1, h2⟩ := and2 (ck_b h)
  have h := ck_p h
  refine ⟨h1, ?_⟩
  cases e : get ρ x with
  | some fv => rw [e] at h; exact name_ok K h2 (v := fv) (by unfold nm; rw [e]) (I.Es h)
  | none =>
    rw [e] at h
    obtain ⟨fv, e', h⟩ := oS_e h
    exact name_ok K h2 (v := fv) (by unfold nm; rw [e]; exact e') ((I.Es (ck_p h)).mono fun _ _ q => ⟨K.kp _ _ (gnm_e e').2 (ck_b h) _, q⟩)
theorem call_ok (K : CxK c) (I : Sound c d F) {f : Expr} {args : List Expr} {kws : List Keyword} {pos : Pos} (h : eCall c d F sc f args kws pos ρ σ Q) : EV c sc d (.Call f args kws pos) ρ σ Q := by
  cases kws with
  | cons => exact h.go
  | nil =>
    cases f with
    | Name y p =>
      have h : (match isSS args with | true => Ev c sc d (.Call (.Name y p) args [] pos) ρ σ Q | false => byName c F sc y args ρ σ fun fv vs σ₂ => Ca c d fv vs σ₂ Q) := h
      split at h
      · exact h.go
      · obtain ⟨h1, h2⟩ := byName_ok K I (p := p) h
        exact EV_Call h1 (h2.mono fun _ _ q => q.mono fun _ _ q => ⟨q.1, q.2.go⟩)
    | Attribute o name ap =>
      obtain ⟨h1, h2⟩ := and2 (ck_b h)
      obtain ⟨h2, h3⟩ := and2 h2
      obtain ⟨h3, h4⟩ := and2 h3
      exact EV_MCall h1 ((I.E (ck_p h)).mono fun _ _ q => q.go.mono fun _ _ _ q => (I.Es q).mono fun _ _ q => ⟨q.1, q.2.go⟩) (mcall_he h1 h2 h3 h4)
    | _ => exact h.go
theorem pt_ok (I : Sound c d F) {e : Option Expr} {B B' : Option Nat → St → Prop} (h : wPt F sc e ρ σ B) (hq : ∀ o σ', B o σ' → B' o σ') : EVP c sc d e ρ σ B' := by
  cases e with
  | none => exact hq _ _ h
  | some e => exact (I.E h).mono fun _ _ ⟨n, e, q⟩ => ⟨n, e, hq _ _ q⟩
theorem slice_ok (K : CxK c) (I : Sound c d F) {p p' p'' : Pos} {v : V} {lo hi stp : Option Expr} (hn : ∀ {P : Post}, P v σ → EV c sc d (.Name x p) ρ σ P) (h : eSlice c d F sc (.Subscript (.Name x p) (.Slice lo hi stp p') p'') v lo hi stp ρ σ Q) :
    EV c sc d (.Subscript (.Name x p) (.Slice lo hi stp p') p'') ρ σ Q := by
  cases stp with
  | some one =>
    have h : ck (lo.isNone && hi.isNone) ((F sc).E one ρ σ fun u σ₃ => u = .int (-1) ∧ ∃ l, isList σ₃ v l ∧ l.length ≤ 9000 ∧ Q (.lst l.reverse) σ₃) := h
    obtain ⟨h1, h2⟩ := and2 (ck_b h)
    have g := I.E (ck_p h)
    cases lo with
    | some => cases h1
    | none => cases hi with
      | some => cases h2
      | none => exact EV_SliceRev (p1 := default) (k := 0) (hn g) fun _ _ => rfl
  | none =>
    have gen : (∀ u, v ≠ .raw u) → (∀ l, v ≠ .tup l) → EV c sc d (.Subscript (.Name x p) (.Slice lo hi none p') p'') ρ σ Q := fun h1 h2 => by
      have h : wPt F sc lo ρ σ fun a σ₂ => wPt F sc hi ρ σ₂ fun b σ₃ => ∃ l l', isList σ₃ v l ∧ l.length ≤ 9000 ∧ pickN l a b = some l' ∧ Q (.lst l') σ₃ := by
        cases v with
        | raw u => exact absurd rfl (h1 u)
        | tup l => exact absurd rfl (h2 l)
        | _ => exact h
      exact EV_SliceL (hn (pt_ok I h fun _ _ q => pt_ok I q fun _ _ q => q)) fun _ _ => rfl
    cases v with
    | raw u => exact h.go
    | tup l =>
      cases lo with
      | none => exact h.go
      | some e =>
        have h : ck hi.isNone ((F sc).E e ρ σ fun u σ₁ => ∃ n : Nat, u = .int n ∧ l.length ≤ 9000 ∧ 1 ≤ n ∧ n ≤ l.length ∧ Q (.tup (l.drop n)) σ₁) := h
        have h2 := ck_b h
        have g := I.E (ck_p h)
        cases hi with
        | some => cases h2
        | none => exact EV_SliceT (hn (g.mono fun _ _ ⟨n, h1, h2, h3, h4, h5⟩ => ⟨n, _, h1, rfl, h2, h3, h4, h5⟩)) fun _ _ => rfl
    | _ => exact gen (fun _ e => nomatch e) (fun _ e => nomatch e)
theorem sub_ok (K : CxK c) (I : Sound c d F) {o i : Expr} {pos : Pos} (h : eSub c d F sc o i pos ρ σ Q) : EV c sc d (.Subscript o i pos) ρ σ Q := by
  cases hi : isSlice i with
  | false =>
    have h : (F sc).E o ρ σ fun ov σ₁ => (F sc).E i ρ σ₁ fun iv σ₂ => wGI c d ov iv σ₂ Q := by cases i <;> first | exact h | cases hi
    exact EV_Sub ((I.E h).mono fun _ _ q => (I.E q).mono fun _ _ q => wGI_ok q) (sub_hs (by rw [hi]; rfl))
  | true =>
    cases i with
    | Slice lo hi stp p =>
      cases o with
      | Name x q =>
        have h2 := ck_b h
        obtain ⟨v, e, h⟩ := oS_e (ck_p h)
        exact slice_ok K I (fun q => name_ok K h2 e q) h
      | _ => exact h.go
    | _ => cases hi
theorem cmp_ok (I : Sound c d F) {l : Expr} {ops : List CmpOp} {rs : List Expr} {pos : Pos} (h : eCmp c d F sc l ops rs pos ρ σ Q) : EV c sc d (.Compare l ops rs pos) ρ σ Q := by
  cases ops with
  | nil => exact h.elim
  | cons op ops => cases rs with
    | nil => exact h.elim
    | cons r rs => cases ops with
      | nil => cases rs with
        | nil => exact EV_Compare1 ((I.E (ck_p h)).mono fun _ _ q => (I.E q).mono fun _ _ q => wCMP_ok q) (isSet_hm (ck_b h))
        | cons => exact h.elim
      | cons o₂ ops => cases ops with
        | cons => exact h.elim
        | nil => cases rs with
          | nil => exact h.elim
          | cons r₂ rs => cases rs with
            | cons => exact h.elim
            | nil => exact EV_Chain2 ((I.E (ck_p h)).mono fun _ _ q => (I.E q).mono fun _ _ q => (wCMP_ok q).mono fun _ _ q => (wTRU_ok q).mono fun _ _ q => br_to q (fun q => (I.E q).mono fun _ _ q => wCMP_ok q) fun q => q) (isSet_hm (ck_b h))
theorem tcmp_ok (I : Sound c d F) {l : Expr} {ops : List CmpOp} {rs : List Expr} {pos : Pos} (h : tCmp c d F sc l ops rs ρ σ B) : ET c sc d (.Compare l ops rs pos) ρ σ B := by
  cases ops with
  | nil => exact h.elim
  | cons op ops => cases rs with
    | nil => exact h.elim
    | cons r rs =>
      obtain ⟨h1, h2⟩ := and2 (ck_b h)
      obtain ⟨h2, h3⟩ := and2 h2
      have g := ck_p h
      cases ops with
      | cons => cases h1
      | nil => cases rs with
        | cons => cases h2
        | nil => exact ET_cmp ((I.E g).mono fun _ _ q => (I.E q).mono fun _ _ q => wCMPT_ok q) (isSet_hm h3)
theorem itCall_e {iter : Expr} {q : Str × List Expr} (h : itCall iter = some q) : ∃ p p', iter = .Call (.Name q.1 p) q.2 [] p' := by
  cases iter with
  | Call f args kws p' => cases f with
    | Name y p => cases kws with
      | nil => cases h; exact ⟨_, _, rfl⟩
      | cons => cases h
    | _ => cases h
  | _ => cases h
theorem itx_ok (K : CxK c) (I : Sound c d F) {iter : Expr} (h : wITX c d F sc target iter ρ σ G) : ITX c sc d target iter ρ σ G := by
  unfold wITX at h
  cases e : itCall iter with
  | none => rw [e] at h; exact ITX_val ((I.E h).mono fun _ _ q => q.go)
  | some q =>
    rw [e] at h
    obtain ⟨p, p', rfl⟩ := itCall_e e
    obtain ⟨h1, h2⟩ := byName_ok K I (p := p) h
    exact ITX_call h1 (h2.mono fun _ _ q => q.mono fun _ _ q => ⟨q.1, q.2.go⟩)
theorem comps_ok (I : Sound c d F) {sc' : Sc} {elt : Expr} {K : St → Prop} {n : Nat} {T : List V → St → Prop} : ∀ {l acc : List V} {ρ : Vars} {σ : St}, wCOMPS F sc' elt x K n T l acc ρ σ → COMPS c sc' d elt [] x K n T l acc ρ σ
  | [], _, _, _, h => h
  | v :: r, acc, ρ, σ, h => (I.E h).mono fun _ _ q => ⟨q.1, q.2.1, q.2.2.1, comps_ok I q.2.2.2⟩
theorem compsF_ok (I : Sound c d F) {sc' : Sc} {elt tst : Expr} {K : St → Prop} {n : Nat} {T : List V → St → Prop} : ∀ {l acc : List V} {ρ : Vars} {σ : St}, wCOMPSF F sc' elt tst x K n T l acc ρ σ → COMPS c sc' d elt [tst] x K n T l acc ρ σ
  | [], _, _, _, h => h
  | v :: r, acc, ρ, σ, h => ⟨rfl, (I.T h).mono fun b _ q => by
    cases b with
    | true => exact (I.E q).mono fun _ _ q => ⟨q.1, q.2.1, q.2.2.1, compsF_ok I q.2.2.2⟩
    | false => exact ⟨q.1, compsF_ok I q.2⟩⟩
theorem capt_ok {scope : Scope} : ∀ p ∈ capt scope ρ, get ρ p.1 = some p.2 := fun p m => by
  obtain ⟨y, _, e⟩ := List.mem_filterMap.mp m
  split at e
  · obtain ⟨v, e1, rfl⟩ := Option.map_eq_some_iff.mp e; exact e1
  · cases e
theorem gen1_e {gens : List Comprehension} {g : Gen1} (h : gen1 gens = some g) : gens = [⟨.Name g.x g.px, g.iter, g.ts, 0⟩] := by
  cases gens with
  | nil => cases h
  | cons k r => cases r with
    | cons => cases h
    | nil =>
      obtain ⟨t, iter, ts, a⟩ := k
      cases t with
      | Name x px =>
        have h : (if a = 0 then some (Gen1.mk x px iter ts) else none) = some g := h
        split at h
        · next e => cases h; rw [e]
        · cases h
      | _ => cases h
theorem lc_ok (K : CxK c) (I : Sound c d F) {elt : Expr} {g : Gen1} {scope : Scope} {P : Prop} {T : Nat → List V → St → Prop}
    (h1 : compB scope sc.scope g.x ((capt scope ρ).map (·.1)) = true → (∀ env x, foldedSetIterable g.iter env x = pure x) → ITX c sc d (.Name g.x g.px) g.iter ρ σ (fun l K σ₂ => K (σ₂ ++ [.list []]) ∧ COMPS c (compSc scope sc) d elt g.ts g.x K σ₂.length (T σ₂.length) l [] (capt scope ρ) (σ₂ ++ [.list []])) → P)
    (h : wLC c d F sc elt g scope ρ σ T) : P := by
  obtain ⟨a2, a⟩ := and2 (ck_b h)
  obtain ⟨a, b⟩ := and2 a
  have k := ck_p h
  obtain ⟨y, py, iter, ts⟩ := g
  cases ts with
  | nil => exact h1 a (isSet_fs b) ((itx_ok K I k).mono fun _ _ _ q => ⟨q.1, comps_ok I q.2⟩)
  | cons t ts => cases ts with
    | nil => exact h1 a (isSet_fs b) ((itx_ok K I k).mono fun _ _ _ q => ⟨q.1, compsF_ok I q.2⟩)
    | cons u us => cases a2
end
end Mine
end
section
open PySem PySem.W PySem.Calls PyProof.Rows
set_option linter.unusedVariables false
set_option maxRecDepth 100000
namespace Mine
section
variable {c : Cx} {sc : Sc} {d : Nat} {ρ : Vars} {σ : St} {Q : Post} {R : Fl → Vars → St → Prop} {B : Bool → St → Prop} {F : Rec} {x : Str} {G : List V → (St → Prop) → St → Prop} {target : Expr}
theorem sE_ok (K : CxK c) (I : Sound c d F) {e : Expr} (h : sE c d F sc e ρ σ Q) : EV c sc d e ρ σ Q := by
  cases e with
  | Constant k _ _ =>
    cases k with
    | int i => exact EV_int h
    | str x => exact EV_str h
    | bool b => exact EV_bool h
    | none => exact EV_none h
    | _ => exact h.elim
  | Name x p => obtain ⟨v, e, q⟩ := oS_e (ck_p h); exact name_ok K (ck_b h) e q
  | BinOp => exact EV_BinOp ((I.E h).mono fun _ _ q => (I.E q).mono fun _ _ q => wBIN_ok q)
  | UnaryOp op e _ =>
    cases op with
    | USub => exact EV_neg (I.E h)
    | Not => exact EV_not ((I.E h).mono fun _ _ q => wTRU_ok q)
    | _ => exact h.elim
  | Compare => exact cmp_ok I h
  | Tuple => exact EV_Tuple ((I.Es h).mono fun _ _ q => ⟨Nat.le_of_ble_eq_true (ck_b q), ck_p q⟩)
  | IfExp t b o p =>
    have h : eIf c d F sc t b o p ρ σ Q := h
    unfold eIf at h
    split at h
    · exact h.go
    · exact EV_IfExp ((I.T h).mono fun b _ q => br_to q I.E I.E)
  | Call => exact call_ok K I h
  | Attribute o name p => exact EV_Attr ((I.E (ck_p h)).mono fun _ _ q => q.go) (fun env => by
      show (do
        let o ← attributeBase _ _ env (eval _ env)
        _) = _
      rw [attr_base (ck_b h)])
  | Subscript => exact sub_ok K I h
  | ListComp elt gens scope pos =>
    obtain ⟨g, e, h'⟩ := oS_e h
    clear h
    obtain rfl := gen1_e e
    exact lc_ok K I (fun a b q => EV_LC a capt_ok q b) h'
  | _ => exact h.go
theorem sEs_ok (I : Sound c d F) {es : List Expr} {Q : List V → St → Prop} (h : sEs F sc es ρ σ Q) : EVs c sc d es ρ σ Q := by
  cases es with
  | nil => exact EVs_nil h
  | cons => exact EVs_cons ((I.E (ck_p h)).mono fun _ _ q => I.Es q) (isSt_se (ck_b h))
theorem sT_ok (I : Sound c d F) {e : Expr} (h : sT c d F sc e ρ σ B) : ET c sc d e ρ σ B := by
  have val : ∀ {e : Expr}, (∀ env, PySem.isTrue e env (eval e env) = (do
          let v ← eval e env
          standAt e.pos
          holding [v] (truthy v))) → ((F sc).E e ρ σ fun v σ₁ => wTRU c d v σ₁ B) → ET c sc d e ρ σ B := fun he h => ET_val ((I.E h).mono fun _ _ q => wTRU_ok q) he
  cases e with
  | UnaryOp op e' p => cases op with
    | Not => exact ET_not (I.T h)
    | _ => exact h.elim
  | BoolOp => exact ET_BoolOp (I.A h)
  | Compare => exact tcmp_ok I h
  | IfExp => exact h.elim
  | _ => exact val (fun _ => rfl) h
theorem sA_ok (I : Sound c d F) {op : BoolOp} {es : List Expr} (h : sA F sc op es ρ σ B) : ETA c sc d op es ρ σ B := by
  cases es with
  | nil => cases op with
    | And => exact ETA_And_nil h
    | Or => exact ETA_Or_nil h
  | cons => cases op with
    | And => exact ETA_And_cons ((I.T h).mono fun b _ q => br_to q I.A fun q => q)
    | Or => exact ETA_Or_cons ((I.T h).mono fun b _ q => br_to q (fun q => q) I.A)
theorem bind_ok {v : V} {k : Vars → Prop} (h : wBind sc target v ρ k) : ∃ ρ₁, AS sc target v ρ ρ₁ ∧ k ρ₁ := by
  cases target with
  | Name => exact ⟨_, .name (kindB_ok (ck_b h)), ck_p h⟩
  | Tuple =>
    obtain ⟨xs, e, h⟩ := oS_e h
    have a := kindB_all (ck_b h)
    have g := ck_p h
    cases v with
    | tup vs => exact ⟨_, .tup e g.1 a, g.2⟩
    | lst vs => exact ⟨_, .lst e g.1 a, g.2⟩
    | _ => exact g.elim
  | _ => exact h.elim
theorem env_kinds (hf : sc.scope.kind = .function) {env : Env} (he : env.scope = sc.scope) : env.blockKind = .function ∧ ∀ id, env.kindOf id = sc.scope.names.lookup id :=
  ⟨by unfold Env.blockKind; rw [he, hf]; rfl, fun id => by unfold Env.kindOf; rw [he]⟩
theorem ite_none {α : Type} {p : Prop} [Decidable p] {a : Option α} {x : α} (h : (if p then none else a) = some x) : ¬ p ∧ a = some x := by
  by_cases hp : p
  · rw [if_pos hp] at h; cases h
  · rw [if_neg hp] at h; exact ⟨hp, h⟩
theorem swapB_ok {ts vs : List Expr} {xs : List Str} {k k' : Nat} {p p' : Pos} (h : swapB sc ts vs = some xs) (hf : sc.scope.kind = .function) : (∀ env : Env, env.scope = sc.scope → swappedStores [.Tuple ts k p] (.Tuple vs k' p') env = pure (some xs)) ∧ ∀ x ∈ xs, kindOk sc x := by
  unfold swapB at h
  obtain ⟨h1, h⟩ := ite_none h
  obtain ⟨h2, h⟩ := ite_none h
  obtain ⟨h3, h⟩ := ite_none h
  obtain ⟨h4, h⟩ := ite_none h
  obtain ⟨h5, h⟩ := ite_none h
  cases h
  refine ⟨fun env he => ?_, fun y hy => ?_⟩
  · obtain ⟨ek, eo⟩ := env_kinds hf he
    unfold swappedStores
    simp only [ek, eo]
    refine (if_neg (fun e => h1 ?_)).trans ?_
    · simpa using e
    refine (if_neg h2).trans ?_
    refine (if_neg h3).trans ?_
    refine (if_neg h4).trans ?_
    refine (if_neg h5).trans ?_
    rfl
  · obtain ⟨e, _, hm⟩ := List.mem_filterMap.mp hy
    cases e with
    | Name id q =>
      have hm : (if sc.scope.names.lookup id == some .local && q.line == (ts.head?.map (·.pos.line)).getD 0 then some id else none) = some y := hm
      split at hm
      · next hc => cases hm; exact .inl (beq_iff_eq.mp (and2 hc).1)
      · cases hm
    | _ => cases hm
theorem tup_ok (K : CxK c) (I : Sound c d F) {es : List Expr} {k : Nat} {tp : Pos} {value : Expr} {pos : Pos} (h : sTup c d F sc es k tp value pos ρ σ R) : EX c sc d (.Assign [.Tuple es k tp] value pos) ρ σ R := by
  unfold sTup at h
  cases hs : isSubT es with
  | true => rw [hs] at h; exact h.go
  | false =>
  rw [hs] at h
  cases ht : isTup value with
  | true =>
    cases value with
    | Tuple vs k' p' =>
      obtain ⟨xs, e, h⟩ := oS_e h
      intro A env s θ r X I' F'
      obtain ⟨h1, h2⟩ := swapB_ok e X.kind (k := k) (p := tp) (k' := k') (p' := p')
      exact EX_AssignSw h2 (EV_Tuple ((I.Es h).mono fun ws _ q => ⟨Nat.le_of_ble_eq_true (ck_b q), _, rfl, (ck_p q).1, (ck_p q).2⟩)) h1 (fun env => rfl) A env s θ r X I' F'
    | _ => cases ht
  | false =>
    have g : oS (namesOf es) fun xs => ck (xs.all (kindB sc)) ((F sc).E value ρ σ fun v σ₁ => tupPost v xs (fun ws => R .next (binds xs ws ρ) σ₁) σ₁) := by cases value <;> first | exact h | cases ht
    have hsw : ∀ env : Env, env.scope = sc.scope → swappedStores [.Tuple es k tp] value env = pure none := fun env _ => by cases value <;> first | rfl | cases ht
    have hc : ∀ env, swapsWithSole [.Tuple es k tp] value pos.line env = pure false := fun env => by cases value <;> rfl
    obtain ⟨xs, e, g⟩ := oS_e g
    have a := kindB_all (ck_b g)
    have g := I.E (ck_p g)
    clear h ht
    intro A env s θ r X I' F'
    refine Assign_Tuple (wpAny_mono (g A env s θ r X I' F') (fun v' s₁ h₁ => ?_) fun _ _ x => x) (hc env) (hsw env X.scope)
    obtain ⟨v, σ₁, θ₁, I₁, g₁, rv, q⟩ := h₁
    have F₁ := F'.grow I'.tupOut g₁
    have gen : (∃ ws, isList σ₁ v ws ∧ xs.length = ws.length ∧ R .next (binds xs ws ρ) σ₁) → wpAny (model c.prog c.w) A (assign (.Tuple es k tp) env v') (fun _ s' => OkS c env s θ R .next s') NoE s₁ := by
      rintro ⟨ws, hL, hl, q⟩
      obtain ⟨ad, xs', n', rfl, hL', hr⟩ := I₁.asL hL rv
      rw [arm_assign_Tuple]
      refine wpAny_bind (wpAny_standAt (unpack_list r.handled hL'.isList ?_ (assignEach_noStar env es e) fun h' e' => ?_))
      · rw [assignEach_len, namesOf_len e, hl, hr.length]; simp
      · obtain ⟨I'', F'', g'', q''⟩ := I₁.ext F₁ e'
        exact inOrder_ok X (stl_names e) ws _ ρ _ I'' F'' (by simpa using hr.mapM q'') hl a fun s₂ I₂ F₂ g₂ => ⟨.next, _, σ₁, θ₁, I₂, F₂, GrowX.trans F₁.ownX g₁.x (GrowX.trans F''.ownX g''.x g₂), .next, q⟩
    cases v with
    | tup ws => exact assign_ok X I₁ F₁ r.handled (.tup e q.1 a) rv fun s₂ I₂ F₂ g₂ => ⟨.next, _, σ₁, θ₁, I₂, F₂, GrowX.trans F₁.ownX g₁.x g₂, .next, q.2⟩
    | _ => exact gen q
theorem swapC_ok {t : Str} {tp : Pos} {elt : Expr} {gens : List Comprehension} {scope : Scope} {cp : Pos} {line : Nat} (h : swapC sc t tp scope cp = true) (hf : sc.scope.kind = .function) (env : Env) (he : env.scope = sc.scope) : swapsWith (.ListComp elt gens scope cp) (some (.Name t tp)) line env = pure true := by
  obtain ⟨ek, eo⟩ := env_kinds hf he
  show (pure (env.blockKind == .function && env.kindOf t == some .local && tp.line == cp.line && !(scope.names.any fun (n, k) => n == t && (k == .local || k == .cell))) : Sem Bool) = pure true
  rw [ek, eo]
  exact congrArg pure h
theorem assign_sok (K : CxK c) (I : Sound c d F) {t value : Expr} {pos : Pos} (h : sAssign c d F sc t value pos ρ σ R) : EX c sc d (.Assign [t] value pos) ρ σ R := by
  cases t with
  | Name x xp =>
    cases hl : isComp value with
    | false =>
      have g : ck (!isComp value && kindB sc x) ((F sc).E value ρ σ fun v σ₁ => R .next (put ρ x v) σ₁) := by cases value <;> first | exact h | cases hl
      obtain ⟨h1, h2⟩ := and2 (ck_b g)
      exact EX_Assign (I.E (ck_p g)) (kindB_ok h2) (isComp_sw h1 _ _)
    | true =>
      cases value with
      | ListComp elt gens scope cp =>
        obtain ⟨g, e, h'⟩ := oS_e h
        clear h
        obtain rfl := gen1_e e
        have hc := ck_b h'
        have hk : kindOk sc x := .inl (beq_iff_eq.mp (and2 (and2 hc).1).1)
        intro A env s θ r X I' F'
        exact lc_ok K I (P := EX c sc d _ ρ σ R) (fun a b q => EX_LC hk a capt_ok q (fun env he => swapC_ok hc X.kind env he) b) (ck_p h') A env s θ r X I' F'
      | SetComp => exact (h : False).elim
      | DictComp => exact (h : False).elim
      | _ => cases hl
  | Subscript o i ip =>
    obtain ⟨h1, h2⟩ := and2 (ck_b h)
    exact EX_AssignSub ((I.E (ck_p h)).mono fun _ _ q => (I.E q).mono fun _ _ q => (I.E q).mono fun _ _ q => q.go) (isComp_sw h1 _ _)
  | Attribute => exact EX_AssignAttr ((I.E (ck_p h)).mono fun _ _ q => (I.E q).mono fun _ _ q => q.go) K.ok (isComp_sw (ck_b h) _ _)
  | Tuple => exact tup_ok K I h
  | _ => exact h.go
theorem aug_ok (I : Sound c d F) {t : Expr} {op : Operator} {value : Expr} {pos : Pos} (h : sAug F sc t op value ρ σ R) : EX c sc d (.AugAssign t op value pos) ρ σ R := by
  cases t with
  | Name x p => cases op with
    | Add =>
      obtain ⟨h1, h2⟩ := and2 (ck_b h)
      obtain ⟨u, e, a, rfl, g⟩ := oS_e (ck_p h)
      exact EX_AugAdd e (kindB_ok h1) (I.E g) (badN_d h2).2
    | _ => exact h.elim
  | _ => exact h.elim
theorem sS_ok (K : CxK c) (I : Sound c d F) {st : Stmt} (h : sS c d F sc st ρ σ R) : EX c sc d st ρ σ R := by
  cases st with
  | Return e _ => cases e with
    | some e => exact EX_Return (I.E h)
    | none => exact EX_Return_none h
  | If => exact EX_If ((I.T h).mono fun b _ q => br_to q I.Ss I.Ss)
  | Assign ts value pos => cases ts with
    | nil => exact h.elim
    | cons t ts => cases ts with
      | nil => exact assign_sok K I h
      | cons => exact h.elim
  | Expr => exact EX_Expr (I.E (ck_p h)) (isComp_sw (ck_b h) _ _)
  | AugAssign => exact aug_ok I h
  | _ => exact h.go
theorem sSs_ok (I : Sound c d F) {l : List Stmt} (h : sSs F sc l ρ σ R) : EXs c sc d l ρ σ R := by
  cases l with
  | nil => exact EXs_nil h
  | cons => exact EXs_cons ((I.S h).mono fun f _ _ q => by
      cases f with
      | next => exact I.Ss q
      | brk => exact q
      | cont => exact q
      | ret v => exact q)
theorem wp_ok (K : CxK c) : ∀ n, Sound c d (wp c d n)
  | 0 => ⟨fun h => h.elim, fun h => h.elim, fun h => h.elim, fun h => h.elim, fun h => h.elim, fun h => h.elim⟩
  | n + 1 => ⟨fun h => sE_ok K (wp_ok K n) h, fun h => sEs_ok (wp_ok K n) h, fun h => sT_ok (wp_ok K n) h, fun h => sA_ok (wp_ok K n) h, fun h => sS_ok K (wp_ok K n) h, fun h => sSs_ok (wp_ok K n) h⟩
theorem Ca_def (K : CxK c) {a : Addr} {fd : FuncData} {ps : List Str} {body : List Stmt} {vs : List V} (f : FnAt c a fd ps body) (hlen : vs.length = ps.length)
    (h : ((wp c d 60) ⟨fd.scope, fd.code⟩).Ss body (binds ps vs []) σ fun fl _ σ' => Q (retOf fl) σ') : Ca c (d + 1) (.raw (.ref a)) vs σ Q := ⟨CALL_def K.ok f hlen (Nat.le_add_left 1 d) ((wp_ok K 60).Ss h)⟩
noncomputable def Sub (ρ₀ ρ : Vars) : Prop := ∀ x v, get ρ₀ x = some v → get ρ x = some v
noncomputable def keep : List Str → Vars → Vars
  | [], _ => []
  | x :: ns, ρ => match get ρ x with | some v => (x, v) :: keep ns ρ | none => keep ns ρ
theorem keep_sub : ∀ (ns : List Str) (ρ : Vars), Sub (keep ns ρ) ρ
  | [], _ => fun _ _ h => nomatch h
  | x :: ns, ρ => fun y v h => by
    unfold keep at h
    cases e : get ρ x with
    | none => rw [e] at h; exact keep_sub ns ρ y v h
    | some u =>
      rw [e] at h
      have h : (if x = y then some u else get (keep ns ρ) y) = some v := h
      by_cases hy : x = y
      · rw [if_pos hy] at h; rw [← hy, e]; exact h
      · rw [if_neg hy] at h; exact keep_sub ns ρ y v h
theorem Sub.put {ρ₀ : Vars} (h : Sub ρ₀ ρ) (v : V) : Sub (put ρ₀ x v) (put ρ x v) := fun y u e => by
  rw [get_put] at e ⊢
  by_cases hy : x = y
  · rw [if_pos hy] at e ⊢; exact e
  · rw [if_neg hy] at e ⊢; exact h y u e
theorem Sub.binds : ∀ (xs : List Str) (vs : List V) {ρ₀ ρ : Vars}, Sub ρ₀ ρ → Sub (binds xs vs ρ₀) (binds xs vs ρ)
  | [], _, _, _, h => h
  | _ :: _, [], _, _, h => h
  | x :: xs, v :: vs, _, _, h => Sub.binds xs vs (h.put v)
theorem FrA.sub {h : Heap} {θ : List Addr} {env : Env} {ρ₀ : Vars} (F : FrA c h θ env ρ) (s : Sub ρ₀ ρ) : FrA c h θ env ρ₀ := by
  obtain ⟨⟨m, cm, h1, h2, h3⟩, a, b, e, f⟩ := F
  exact ⟨⟨m, cm, h1, h2, fun x v g => h3 x v (s x v g)⟩, a, b, e, f⟩
theorem EX.weakR {st : Stmt} (h : EX c sc d st ρ σ fun f ρ' σ' => ∃ ρ₀, Sub ρ₀ ρ' ∧ R f ρ₀ σ') : EX c sc d st ρ σ R := fun A env s θ r X I F =>
  wpAny_mono (h A env s θ r X I F) (fun _ _ ⟨v, ρ', σ', θ', a, b, x, y, ρ₀, q1, q2⟩ => ⟨v, ρ₀, σ', θ', a, b.sub q1, x, y, q2⟩) fun _ _ x => x
theorem AS.weak {v : V} {ρ₀ ρ₁ : Vars} (a : AS sc target v ρ₀ ρ₁) (h : Sub ρ₀ ρ) : ∃ ρ₂, AS sc target v ρ ρ₂ ∧ Sub ρ₁ ρ₂ := by
  cases a with
  | name a => exact ⟨_, .name a, h.put v⟩
  | tup a b e => exact ⟨_, .tup a b e, Sub.binds _ _ h⟩
  | lst a b e => exact ⟨_, .lst a b e, Sub.binds _ _ h⟩
noncomputable def kLOOPS (c : Cx) (sc : Sc) (d : Nat) (ns : List Str) (target : Expr) (body : List Stmt) (K : St → Prop) (R : Fl → Vars → St → Prop) : List V → Vars → St → Prop
  | [], ρ, σ => R .next ρ σ
  | x :: r, ρ, σ => wBind sc target x ρ fun ρ₁ => ((wp c d 40) sc).Ss body ρ₁ σ (wNext (fun ρ' σ' => K σ' ∧ kLOOPS c sc d ns target body K R r (keep ns ρ') σ') R)
theorem kloops_ok (C : CxK c) {ns : List Str} {body : List Stmt} {K : St → Prop} : ∀ {l : List V} {ρ₀ ρ : Vars} {σ : St}, Sub ρ₀ ρ → kLOOPS c sc d ns target body K R l ρ₀ σ → LOOPS c sc d target body K (fun f ρ' σ' => ∃ ρ₀, Sub ρ₀ ρ' ∧ R f ρ₀ σ') l ρ σ
  | [], _, _, _, s, h => ⟨_, s, h⟩
  | v :: r, ρ₀, ρ, σ, s, h => by
    obtain ⟨ρ₁, a, q⟩ := bind_ok h
    obtain ⟨ρ₂, a', s'⟩ := a.weak s
    refine ⟨ρ₂, a', fun A env st θ r' X I F => ((wp_ok C 40).Ss q).mono (fun f ρ' σ' q => ?_) A env st θ r' X I (F.sub s')⟩
    cases f with
    | next => exact ⟨q.1, kloops_ok C (keep_sub _ _) q.2⟩
    | cont => exact ⟨q.1, kloops_ok C (keep_sub _ _) q.2⟩
    | brk => exact ⟨_, fun _ _ e => e, q⟩
    | ret v => exact ⟨_, fun _ _ e => e, q⟩
theorem W_For (K : CxK c) (ns : List Str) {iter : Expr} {body : List Stmt} {pos : Pos} (h : ck (!isSet iter) (wITX c d (wp c d 40) sc target iter ρ σ fun l K σ' => kLOOPS c sc d ns target body K R l (keep ns ρ) σ')) : Ex c sc d (.For target iter body [] pos) ρ σ R :=
  ⟨EX.weakR (EX_For ((itx_ok K (wp_ok K 40) (ck_p h)).mono fun _ _ _ q => kloops_ok K (keep_sub _ _) q) (isSet_fs (ck_b h)))⟩
theorem W_While (K : CxK c) (ns : List Str) {test : Expr} {body : List Stmt} {pos : Pos} (J : Nat → Vars → St → Prop) (m : Nat) (h0 : J m (keep ns ρ) σ)
    (step : ∀ n' ρ σ, J n' ρ σ → ((wp c d 40) sc).T test ρ σ fun b σ₁ => br b (((wp c d 40) sc).Ss body ρ σ₁ (wNext (fun ρ' σ' => ∃ m, m < n' ∧ J m (keep ns ρ') σ') R)) (R .next ρ σ₁)) : Ex c sc d (.While test body [] pos) ρ σ R :=
  ⟨EX.weakR (EX_While (fun n ρ σ => ∃ ρ₀, Sub ρ₀ ρ ∧ J n ρ₀ σ) m ⟨_, keep_sub _ _, h0⟩ fun n' ρ σ j => by
    obtain ⟨ρ₀, s, j⟩ := j
    intro A env st θ r X I F
    refine ((wp_ok K 40).T (step n' ρ₀ σ j)).mono (fun b σ₁ q => ?_) A env st θ r X I (F.sub s)
    refine br_to q (fun q A env st θ r X I F => ((wp_ok K 40).Ss q).mono (fun f ρ' σ' q => ?_) A env st θ r X I (F.sub s)) fun q => ⟨_, s, q⟩
    cases f with
    | next => obtain ⟨m, h1, h2⟩ := q; exact ⟨m, h1, _, keep_sub _ _, h2⟩
    | cont => obtain ⟨m, h1, h2⟩ := q; exact ⟨m, h1, _, keep_sub _ _, h2⟩
    | brk => exact ⟨_, fun _ _ e => e, q⟩
    | ret v => exact ⟨_, fun _ _ e => e, q⟩)⟩
theorem W_List (K : CxK c) {es : List Expr} {pos : Pos} (h : ((wp c d 30) sc).Es es ρ σ fun vs σ₁ => ck (Nat.ble vs.length 1000) (Q (.loc σ₁.length) (σ₁ ++ [.list vs]))) : Ev c sc d (.List es pos) ρ σ Q := ⟨EV_List (((wp_ok K 30).Es h).mono fun _ _ q => ⟨Nat.le_of_ble_eq_true (ck_b q), ck_p q⟩)⟩
theorem W_ListF (K : CxK c) {es : List Expr} {pos : Pos} (h : ((wp c d 30) sc).Es es ρ σ fun vs σ₁ => ck (Nat.ble vs.length 1000) (Q (.lst vs) σ₁)) : Ev c sc d (.List es pos) ρ σ Q := ⟨EV_ListF (((wp_ok K 30).Es h).mono fun _ _ q => ⟨Nat.le_of_ble_eq_true (ck_b q), ck_p q⟩)⟩
end
end Mine
end
section
open PySem PySem.W PySem.Calls PyProof.Rows
set_option linter.unusedVariables false
set_option maxRecDepth 100000
namespace Mine
section
variable {c : Cx} {sc : Sc} {d : Nat} {ρ : Vars} {σ : St} {Q : Post} {R : Fl → Vars → St → Prop} {B : Bool → St → Prop} {x y : Str} {G : List V → (St → Prop) → St → Prop} {target : Expr} {a b : Int} {n : Nat} {l : List V} {v : V}
theorem Bi_mul (hm : PySem.IntMulOk a b) (h : Q (.int (a * b)) σ) : Bi c d .Mult (.int a) (.int b) σ Q := ⟨BIN_mul hm h⟩
theorem Bi_mod (hb : b ≠ 0) (h : Q (.int (a.fmod b)) σ) : Bi c d .Mod (.int a) (.int b) σ Q := ⟨BIN_mod hb h⟩
theorem Bi_floordiv (hb : b ≠ 0) (hp : Builtin.divisionGoesByPylong a b = false) (h : Q (.int (a.fdiv b)) σ) : Bi c d .FloorDiv (.int a) (.int b) σ Q := ⟨BIN_floordiv hb hp h⟩
theorem Bi_lshift (hb : 0 ≤ b) (hz : (Builtin.Int.intBits a : Int) + b ≤ 2 ^ 27) (h : Q (.int (a * 2 ^ b.toNat)) σ) : Bi c d .LShift (.int a) (.int b) σ Q := ⟨BIN_lshift hb hz h⟩
theorem Bi_addL {u v : V} {l l' : List V} (ha : isList σ u l) (hb : isList σ v l') (hz : l.length + l'.length ≤ 9000) (h : Q (.lst (l ++ l')) σ) : Bi c d .Add u v σ Q := ⟨BIN_addL ha hb hz h⟩
theorem Bi_mulL {u : V} {n : Nat} (ha : isList σ u l) (hne : l ≠ []) (hz : l.length * n ≤ 9000) (hn : n ≤ 9000) (h : Q (.lst (times n l)) σ) : Bi c d .Mult u (.int n) σ Q := ⟨BIN_mulL ha hne hz hn h⟩
theorem Gi_list {o v : V} {k : Int} (hl : isList σ o l) (h0 : 0 ≤ k) (hx : l[k.toNat]? = some v) (h : Q v σ) (hz : k < 2 ^ 63 := by decide) : Gi c d o (.int k) σ Q := ⟨GI_list hl h0 hx h hz⟩
theorem Gi_loc {k : Int} (hn : σ[n]? = some (.list l)) (h0 : 0 ≤ k) (hx : l[k.toNat]? = some v) (h : Q v σ) (hz : k < 2 ^ 63 := by decide) : Gi c d (.loc n) (.int k) σ Q := ⟨GI_list (.inr ⟨n, rfl, .inl hn⟩) h0 hx h hz⟩
theorem Gi_lst {k : Int} (h0 : 0 ≤ k) (hx : l[k.toNat]? = some v) (h : Q v σ) (hz : k < 2 ^ 63 := by decide) : Gi c d (.lst l) (.int k) σ Q := ⟨GI_list (.inl rfl) h0 hx h hz⟩
theorem Gi_dictS {l : List (Str × V)} (hn : σ[n]? = some (.dictS l)) (hx : getK l x = some v) (h : Q v σ) : Gi c d (.loc n) (.str x) σ Q := ⟨GI_dictS hn hx h⟩
theorem Gi_dictI {l : List (Int × V)} {k : Int} (hn : σ[n]? = some (.dictI l)) (hx : getK l k = some v) (h : Q v σ) : Gi c d (.loc n) (.int k) σ Q := ⟨GI_dictI hn hx h⟩
theorem Si_list {k : Int} {P : St → Prop} (hn : σ[n]? = some (.list l)) (h0 : 0 ≤ k) (hk : k < l.length) (h : P (σ.set n (.list (l.set k.toNat v)))) (hz : k < 2 ^ 63 := by decide) : Si c d (.loc n) (.int k) v σ P := ⟨SI_list hn h0 hk h hz⟩
theorem Si_dictS {l : List (Str × V)} {P : St → Prop} (hn : σ[n]? = some (.dictS l)) (hz : l.length ≤ 9000) (h : P (σ.set n (.dictS (putK l x v)))) : Si c d (.loc n) (.str x) v σ P := ⟨SI_dictS hn hz h⟩
theorem Si_dictI {l : List (Int × V)} {k : Int} {P : St → Prop} (hn : σ[n]? = some (.dictI l)) (hz : l.length ≤ 9000) (h : P (σ.set n (.dictI (putK l k v)))) : Si c d (.loc n) (.int k) v σ P := ⟨SI_dictI hn hz h⟩
theorem Ca_lenL {u : V} (hl : isList σ u l) (hz : l.length ≤ 100000) (h : Q (.int l.length) σ) : Ca c d (.raw (.builtin "len")) [u] σ Q := ⟨CALL_lenL hl hz h⟩
theorem Ca_len (hn : σ[n]? = some (.list l)) (hz : l.length ≤ 100000) (h : Q (.int l.length) σ) : Ca c d (.raw (.builtin "len")) [.loc n] σ Q := ⟨CALL_lenL (.inr ⟨n, rfl, .inl hn⟩) hz h⟩
theorem Ca_lenF (hz : l.length ≤ 100000) (h : Q (.int l.length) σ) : Ca c d (.raw (.builtin "len")) [.lst l] σ Q := ⟨CALL_lenL (.inl rfl) hz h⟩
theorem Ca_lenS (hz : x.length ≤ 100000) (h : Q (.int x.length) σ) : Ca c d (.raw (.builtin "len")) [.str x] σ Q := ⟨CALL_lenS hz h⟩
theorem Ca_abs (h : Q (.int (if a < 0 then -a else a)) σ) : Ca c d (.raw (.builtin "abs")) [.int a] σ Q := ⟨CALL_abs h⟩
theorem Ca_isStr {t : Bool} (hv : isStrV v = some t) (h : Q (.bool t) σ) : Ca c d (.raw (.builtin "isinstance")) [v, .raw (.type "str")] σ Q := ⟨CALL_isStr hv h⟩
theorem Ca_isTup {t : Bool} (hv : isTupV v = some t) (h : Q (.bool t) σ) : Ca c d (.raw (.builtin "isinstance")) [v, .raw (.type "tuple")] σ Q := ⟨CALL_isTup hv h⟩
theorem Ca_dictP {es : List (Str × V)} (hl : isList σ v (es.map pairV)) (hz : es.length ≤ 900) (h : Q (.loc σ.length) (σ ++ [.dictS (es.foldl (fun acc kv => putK acc kv.1 kv.2) [])])) : Ca c d (.raw (.type "dict")) [v] σ Q := ⟨CALL_dictP hl hz h⟩
theorem Ca_dictD {l : List (Str × V)} (hn : σ[n]? = some (.dictS l)) (hz : l.length ≤ 9000) (h : Q (.loc σ.length) (σ ++ [.dictS l])) : Ca c d (.raw (.type "dict")) [.loc n] σ Q := ⟨CALL_dictD hn hz h⟩
theorem At_inst (K : CxK c) {k : Nat} {C : Addr} {l : List (Str × V)} {name : Str} (hn : σ[n]? = some (.inst C k)) (hk : σ[k]? = some (.attrs l)) (hv : get l name = some v) (ha : AttrOf c.K C name) (hh : hand v = true) (h : Q v σ) : At c d (.loc n) name σ Q := ⟨ATTR_inst K.ok hn hk hv ha hh h⟩
theorem Sa_inst {k : Nat} {C : Addr} {l : List (Str × V)} {attr : Str} {P : St → Prop} (hn : σ[n]? = some (.inst C k)) (hk : σ[k]? = some (.attrs l)) (hs : StoreOf c.K C attr) (hz : l.length ≤ 900) (h : P (σ.set k (.attrs (put l attr v)))) : Sa c (.loc n) attr v σ P := ⟨attrSet hn hk hs hz h⟩
theorem Gm_inst (K : CxK c) {k : Nat} {C f : Addr} {l : List (Str × V)} {name : Str} {Q : V → List V → St → Prop} (hn : σ[n]? = some (.inst C k)) (hk : σ[k]? = some (.attrs l)) (hv : get l name = none) (ha : MethOf c.K C name f) (h : Q (.raw (.ref f)) [.loc n] σ) : Gm c d (.loc n) name σ Q := ⟨GM_inst K.ok hn hk hv ha h⟩
theorem Gm_append {Q : V → List V → St → Prop} (hn : σ[n]? = some (.list l)) (h : Q (.raw (.builtin "list.append")) [.loc n] σ) : Gm c d (.loc n) (Str.ofString "append") σ Q := ⟨GM_list hn F.slot_list_append F.type_list_append h⟩
theorem Gm_pop {Q : V → List V → St → Prop} (hn : σ[n]? = some (.list l)) (h : Q (.raw (.builtin "list.pop")) [.loc n] σ) : Gm c d (.loc n) (Str.ofString "pop") σ Q := ⟨GM_list hn F.slot_list_pop F.type_list_pop h⟩
theorem Gm_extend {Q : V → List V → St → Prop} (hn : σ[n]? = some (.list l)) (h : Q (.raw (.builtin "list.extend")) [.loc n] σ) : Gm c d (.loc n) (Str.ofString "extend") σ Q := ⟨GM_list hn F.slot_list_extend F.type_list_extend h⟩
theorem Gm_get {l : List (Str × V)} {Q : V → List V → St → Prop} (hn : σ[n]? = some (.dictS l)) (h : Q (.raw (.builtin "dict.get")) [.loc n] σ) : Gm c d (.loc n) (Str.ofString "get") σ Q := ⟨GM_dict hn F.slot_dict_get F.type_dict_get h⟩
theorem KCa_append (hn : σ[n]? = some (.list l)) (hsz : l.length ≤ 10000) (h : Q .none (σ.set n (.list (l ++ [v])))) : Kp c σ (.raw (.builtin "list.append")) ∧ Ca c d (.raw (.builtin "list.append")) [.loc n, v] σ Q := ⟨Kp_builtin, ⟨CALL_append hn hsz h⟩⟩
theorem KCa_pop (hn : σ[n]? = some (.list (l ++ [v]))) (hsz : l.length ≤ 9000) (h : Q v (σ.set n (.list l))) : Kp c σ (.raw (.builtin "list.pop")) ∧ Ca c d (.raw (.builtin "list.pop")) [.loc n] σ Q := ⟨Kp_builtin, ⟨CALL_pop hn hsz h⟩⟩
theorem KCa_extend {l' : List V} (hn : σ[n]? = some (.list l)) (hv : isList σ v l') (hsz : l.length ≤ 4000) (hsz' : l'.length ≤ 4000) (h : Q .none (σ.set n (.list (l ++ l')))) : Kp c σ (.raw (.builtin "list.extend")) ∧ Ca c d (.raw (.builtin "list.extend")) [.loc n, v] σ Q := ⟨Kp_builtin, ⟨CALL_extend hn hv hsz hsz' h⟩⟩
theorem KCa_get {l : List (Str × V)} {dflt : V} (hn : σ[n]? = some (.dictS l)) (h : Q ((getK l x).getD dflt) σ) : Kp c σ (.raw (.builtin "dict.get")) ∧ Ca c d (.raw (.builtin "dict.get")) [.loc n, .str x, dflt] σ Q := ⟨Kp_builtin, ⟨CALL_get hn h⟩⟩
theorem KCa_fn {a : Addr} {fd : FuncData} {ps : List Str} {body : List Stmt} {vs : List V} (f : FnAt c a fd ps body) (h : Ca c d (.raw (.ref a)) vs σ Q) : Kp c σ (.raw (.ref a)) ∧ Ca c d (.raw (.ref a)) vs σ Q := ⟨Kp_fn f, h⟩
theorem Cm_neL {a b : V} (ha : isList σ a l) (hb : isList σ b l) (hf : l.all flat1 = true) (h : Q (.bool false) σ) : Cm c d .NotEq a b σ Q := ⟨CMP_neL ha hb hf h⟩
theorem Cm_notInDS {l : List (Str × V)} (hn : σ[n]? = some (.dictS l)) (h : Q (.bool (!(getK l x).isSome)) σ) : Cm c d .NotIn (.str x) (.loc n) σ Q := ⟨CMP_notInDS hn h⟩
theorem Iv_tup (h : G l (fun _ => True) σ) : Iv c d target (.tup l) σ G := ⟨ITV_tup h⟩
theorem Iv_lst (h : ∀ K : St → Prop, (∀ σ', K σ') → G l K σ) : Iv c d target (.lst l) σ G := ⟨ITV_list (.inl rfl) fun K _ hK => h K (hK rfl)⟩
theorem Iv_str {p : Pos} (ha : x.cps.all (· < 128) = true) (h : G (x.cps.toList.map fun k => .str ⟨#[k]⟩) (fun _ => True) σ) : Iv c d (.Name y p) (.str x) σ G := ⟨ITV_str ha h⟩
theorem Ic_range {p : Pos} (hn : n ≤ 1000000) (h : G ((List.range n).map fun i => .int (i : Nat)) (fun _ => True) σ) : Ic c d (.Name x p) (.raw (.type "range")) [.int (n : Nat)] σ G := ⟨ITC_range hn h⟩
theorem Ic_reversed {p : Pos} (h : G l.reverse (fun _ => True) σ) : Ic c d (.Name x p) (.raw (.type "reversed")) [.lst l] σ G := ⟨ITC_reversed rfl h⟩
theorem Ic_enumF {es : List Expr} {k : Nat} {p : Pos} {xs : List Value} {m : Nat} (hn : σ[n]? = some (.fz xs m l)) (h : ∀ K : St → Prop, (∀ σ' : St, σ'[n]? = some (.fz xs m l) → K σ') → G (l.mapIdx fun i v => .tup [.int (i : Nat), v]) K σ) : Ic c d (.Tuple es k p) (.raw (.type "enumerate")) [.loc n] σ G := ⟨ITC_enumerate (.inr ⟨n, xs, m, rfl, hn⟩) fun K hK _ => h K (hK n xs m rfl hn)⟩
theorem Ex_fz {m : Nat} {l : List V} {st : Stmt} (hn : σ[m]? = some (.list l)) (h : ∀ xs k, Ex c sc d st ρ (σ.set m (.fz xs k l)) fun f ρ' σ' => σ'[m]? = some (.fz xs k l) ∧ R f ρ' (σ'.set m (.list l))) : Ex c sc d st ρ σ R := ⟨EX_fz hn fun xs k => (h xs k).go⟩
theorem Ca_forget {f : V} {vs : List V} (h : Ca c d f vs σ fun v σ' => ∃ σ₁ g, σ' = σ₁ ++ g ∧ σ₁.length = σ.length ∧ (∀ (i : Nat) (o : SO), σ₁[i]? = some o → σ[i]? = some o ∨ clO σ.length o = true) ∧ clV σ.length v = true ∧ Q v σ₁) : Ca c d f vs σ Q := ⟨CALL_forget h.go⟩
theorem W_dictI {pos : Pos} (h : Q (.loc σ.length) (σ ++ [.dictI []])) : Ev c sc d (.Dict [] [] pos) ρ σ Q := ⟨EV_Dict0I h⟩
theorem Ca_make (K : CxK c) {C f : Addr} {fd : FuncData} {ps : List Str} {body : List Stmt} {vs : List V} (hm : makesIn c.K C = true) (hi : findIn c.K (.ref C) "__init__" = some (some (.ref f))) (hf : typeIn c.K (.ref f) = some (.type "function"))
    (fa : FnAt c f fd ps body) (hlen : vs.length + 1 = ps.length)
    (h : ((wp c d 60) ⟨fd.scope, fd.code⟩).Ss body (binds ps (.loc (σ.length + 1) :: vs) []) (σ ++ [.attrs [], .inst C σ.length]) fun fl _ σ' => retOf fl = .none ∧ Q (.loc (σ.length + 1)) σ') : Ca c (d + 2) (.raw (.ref C)) vs σ Q := ⟨CALL_make K.ok hm hi hf fa hlen (Nat.le_add_left 2 d) ((wp_ok K 60).Ss h)⟩
end
end Mine
end
section
open PySem PySem.W PySem.Calls PyProof.Rows PySem.MeetsSeq PySem.MeetsSeq2 PySem.MeetsSeq3
set_option linter.unusedVariables false
set_option maxRecDepth 100000
namespace Mine
section
variable {c : Cx} {sc : Sc} {d : Nat} {ρ : Vars} {σ : St} {Q : Post} {R : Fl → Vars → St → Prop} {A : Around} {env : Env} {s s₁ : Shared} {θ θ₁ : List Addr} {x y : Str} {target : Expr} {G : List V → (St → Prop) → St → Prop}
theorem CMP_notInA {v : V} {ys : List Str} (hl : isList σ v (ys.map .str)) (h : Q (.bool (!decide (x ∈ ys))) σ) : CMP c d .NotIn (.str x) v σ Q := fun A s θ a' b' r I ra rb => by
  cases ra
  obtain ⟨ad, xs, n, rfl, hl, rl⟩ := I.asL hl rb
  exact PySem.SeqRoads2.notIn_list (eqTo x) (eqToGives rl _) hl (I.okV (.bool _) (by rw [List.any_toArray, anyStrs rl]; exact h))
noncomputable def eqToI (k : Int) : Value → Bool
  | .int n _ => n == k
  | _ => false
theorem intsOf {h : Heap} {k : Int} {t : Tok} : ∀ {ks : List Int} {xs : List Value}, RepVs h θ (ks.map .int) xs → (∀ z ∈ xs, MeetsSeq.EqGives z (.int k t) (eqToI k z)) ∧ xs.any (eqToI k) = decide (k ∈ ks)
  | [], _, .nil => ⟨fun _ m => (nomatch m), (decide_eq_false (List.not_mem_nil)).symm⟩
  | n :: ks, _, .cons a b => by
    cases a
    obtain ⟨h1, h2⟩ := intsOf (k := k) (t := t) b
    refine ⟨fun z m => ?_, ?_⟩
    · rcases List.mem_cons.mp m with rfl | m
      · exact MeetsSeq.EqGives.int n k _ t
      · exact h1 z m
    · rw [List.any_cons, h2]
      show ((n == k) || decide (k ∈ ks)) = _
      by_cases e : k = n
      · subst e; simp
      · have e' : (n == k) = false := beq_false_of_ne (Ne.symm e)
        rw [e']; simp [e]
theorem CMP_inI {v : V} {ks : List Int} {k : Int} (hl : isList σ v (ks.map .int)) (h : Q (.bool (decide (k ∈ ks))) σ) : CMP c d .In (.int k) v σ Q := fun A s θ a' b' r I ra rb => by
  cases ra
  obtain ⟨ad, xs, n, rfl, hl, rl⟩ := I.asL hl rb
  obtain ⟨h1, h2⟩ := intsOf (k := k) (t := _) rl
  exact PySem.SeqRoads2.in_list (eqToI k) (fun z m => h1 z (by simpa using m)) hl (I.okV (.bool _) (by rw [List.any_toArray, h2]; exact h))
theorem call_range_has {r : Addr} {a b k : Int} {t u v z : Tok} {P : Value → Shared → Prop} {E : Value → Shared → Prop} {prog : Program} {w : World} (hr : IsRange s.heap r a b 1 t u v)
    (h : P (.bool (Builtin.Range.rangePlace? a b 1 k).isSome) s) : wpAny (model prog w) A (call (.builtin "range.__contains__") [.ref r, .int k z]) P E s := by
  have hT : s.TypeIs (.ref r) "range" := ⟨_, hr, rfl⟩
  refine wpAny_call_entry F.slot_range_contains hT F.entry_range_contains ?_ (F.args_range_contains_2 _ _)
  obtain ⟨hp, g, d, tk, os⟩ := s
  wp_walk using AutoSeq1.wpAny_loadPart' hr
  exact ⟨_, rfl, h⟩
theorem CMP_inR {n m : Nat} {k : Int} (hn : σ[n]? = some (.rng m)) (h : Q (.bool (decide (0 ≤ k ∧ k < m))) σ) : CMP c d .In (.int k) (.loc n) σ Q := fun A s θ a' b' r I ra rb => by
  cases ra
  obtain ⟨a, rfl, e⟩ := rb.ofLoc
  obtain ⟨t, u, v, ho⟩ := I.rep.obj n _ a hn e
  have hr : IsRange s.heap a 0 m 1 t u v := ho
  show wpAny (model c.prog c.w) A (do return Value.bool (← contains _ _)) _ _ s
  refine wpAny_bind (wpAny_contains_slot (⟨_, hr, rfl⟩ : s.TypeIs (.ref a) "range") F.slot_range_contains (call_range_has hr (wpAny_truthy_bool (wpAny_pure (I.okV (.bool _) ?_)))))
  have e : (Builtin.Range.rangePlace? 0 m 1 k).isSome = decide (0 ≤ k ∧ k < m) := by
    unfold Builtin.Range.rangePlace?
    by_cases h : 0 ≤ k ∧ k < m
    · simp [h]
    · simp [h]
  rw [e]; exact h
theorem CMP_neNil {v : V} {l : List V} (hl : isList σ v l) (h : Q (.bool (!l.isEmpty)) σ) : CMP c d .NotEq v (.lst []) σ Q := fun A s θ a' b' r I ra rb => by
  cases l with
  | nil => exact CMP_neL hl (.inl rfl) rfl h A s θ a' b' r I ra rb
  | cons u l =>
    obtain ⟨x, xs, n, rfl, hx, rx⟩ := I.asL hl ra
    obtain ⟨y, ys, m, rfl, hy, ry⟩ := I.asL (.inl rfl) rb
    have hu0 : A.units < cLine := by have q := r.units; omega
    cases ry
    cases rx with
    | cons _ _ => exact SeqAt.RcNeAt.lists_lengths hx.isList hy.isList rfl hu0 _ _ _ _ (I.okV (.bool _) h)
theorem CALL_range {n : Nat} (h : Q (.loc σ.length) (σ ++ [.rng n])) : CALL c d (.raw (.type "range")) [.int (n : Nat)] σ Q := fun A s θ f' vs' r I rf rv => by
  cases rf
  obtain ⟨v', rfl, r1⟩ := rv.one
  cases r1 with
  | int i t =>
    refine call_range_1 ?_
    obtain ⟨I₂, g₂⟩ := I.alloc (t := s.toks + 1 + 1) (ob := rngObj 0 n 1 s.toks t (s.toks + 1)) (o := .rng n) ⟨_, _, _, Heap.get?_push_size _ rfl⟩
    exact ⟨.loc σ.length, _, _, I₂, g₂, .loc _ _ (by rw [← I.rep.len]; simp), h⟩
theorem GM_index {P : V → List V → St → Prop} (h : P (.raw (.builtin "str.index")) [.str x] σ) : GM c d (.str x) (Str.ofString "index") σ P := fun A s θ o' pl r I ro => by
  cases ro
  exact _root_.PySem.GM.index ⟨_, [.str x], σ, θ, I, Grow.refl _ _, .raw _, .cons (.str _ _) .nil, h⟩
theorem CALL_index {i : Nat} {rest : List Nat} (ho : Builtin.Str.occurrences x y 0 x.length 1 = i :: rest) (h : Q (.int (i : Nat)) σ) : CALL c d (.raw (.builtin "str.index")) [.str x, .str y] σ Q := fun A s θ f' vs' r I rf rv => by
  cases rf
  obtain ⟨a', b', rfl, r1, r2⟩ := rv.two
  cases r1
  cases r2
  exact SC.index ho (I.okVt (.int _ _) h)
theorem CALL_max {a b : Int} (h : Q (.int (if b > a then b else a)) σ) : CALL c d (.raw (.builtin "max")) [.int a, .int b] σ Q := fun A s θ f' vs' r I rf rv => by
  cases rf
  obtain ⟨a', b', rfl, r1, r2⟩ := rv.two
  cases r1
  cases r2
  refine max_two_ints r.handled fun h' tk hk => ?_
  refine ⟨.int (if b > a then b else a), σ, θ, I.keeps hk, grow_keeps hk, ?_, h⟩
  by_cases hb : b > a
  · rw [if_pos hb, if_pos hb]; exact .int _ _
  · rw [if_neg hb, if_neg hb]; exact .int _ _
theorem ITC_rangeD {a b : Int} {n : Nat} {x : Str} {p : Pos} (hsz : Builtin.Range.rangeSize a b (-1) = n) (hsm : Builtin.Range.small a b (-1) = true) (hp : Builtin.divisionGoesByPylong (b - a) (-1) = false)
    (h : G ((List.range n).map fun i => .int (a - (i : Nat))) (fun _ => True) σ) : ITC c d (.Name x p) (.raw (.type "range")) [.int a, .int b, .int (-1)] σ G := fun A env s θ ρ f' vs' r I F rf rv => by
  cases rf
  obtain ⟨a', b', c', rfl, r1, r2, r3⟩ := rv.three
  cases r1 with
  | int _ t => cases r2 with
    | int _ u => cases r3 with
      | int _ v =>
        refine call_range_3 (by decide) ?_ (.inl hp)
        refine wpAny_pyIter_range (IsRange.new ..) hsm ?_
        rw [hsz, Heap.size_push]
        have k1 : ∀ (o o' : Obj) b ob, s.heap.get? b = some ob → ((s.heap.push o).push o').get? b = some ob := fun o o' b ob e => Heap.get?_push_of_some _ (Heap.get?_push_of_some _ e)
        have W := KTurns.ofWalks (target := .Name x p) (Walks.range (prog := c.prog) (w := c.w) r.handled (s.heap.objs.size + 1) a (-1) n) fun i v s Q E st q => wpAny_pure q
        have W' := KTurns.lt W
        have e : n = ((List.range n).map fun i => V.int (a - (i : Nat))).length := by simp
        have W' := KTurns.cast e W'
        refine ⟨_, fun _ => True, I.keeps (k1 _ _), grow_keeps (k1 _ _), IT.mk1 I F W' ?_ (by omega) (fun b hb => .inl (by simpa using hb)) (fun i h hS => itl_range hS) (fun _ _ _ _ st q => wpAny_pyIter_rangeiter st q) ?_, trivial, h⟩
        · have q := Heap.get?_push_size (s.heap.push { cls := .type "range", data := .fields #[.int a t, .int b u, .int (-1) v] }) (o := { cls := .type "range_iterator", data := .fields #[rawInt a, rawInt (n : Int), rawInt (-1)] }) rfl
          rw [Heap.size_push] at q
          have e1 : a + ((0 : Nat) : Int) * (-1) = a := by simp
          have e2 : (n : Int) - ((0 : Nat) : Int) = n := by simp
          show IsRangeIter _ _ _ _ _
          rw [e1, e2]
          exact q
        · rintro i v h ⟨hi, t, rfl⟩
          refine ⟨.int (a - (i : Nat)), by simp [hi], .inl ?_⟩
          rw [show a - ((i : Nat) : Int) = a + (i : Int) * (-1) by omega]
          exact .int _ t
theorem assignSub_ok (X : EnvIs sc env) (I : Inv c s θ σ) (F : FrA c s.heap θ env ρ) (r : Room A d) {o i : Expr} {p : Pos} {v : V} {v' : Value} (rv : RepV s.heap θ v v') {K : St → Prop}
    (h : EV c sc d o ρ σ fun ov σ₂ => EV c sc d i ρ σ₂ fun iv σ₃ => SI c d ov iv v σ₃ K) {P : Unit → Shared → Prop} (hP : ∀ s₁ θ₁ σ₁, Inv c s₁ θ₁ σ₁ → Grow s.heap θ s₁.heap θ₁ → K σ₁ → P () s₁) : wpAny (model c.prog c.w) A (assign (.Subscript o i p) env v') P NoE s := by
  rw [arm_assign_Subscript]
  refine wpAny_bind (wpAny_holding (wpAny_mono (h A env s θ r X I F) (fun o' s₂ h₂ => ?_) fun _ _ x => x))
  obtain ⟨ov, σ₂, θ₂, I₂, g₂, ro, q⟩ := h₂
  have F₂ := F.grow I.tupOut g₂
  refine wpAny_bind (wpAny_holding (wpAny_mono (q A env s₂ θ₂ r X I₂ F₂) (fun i' s₃ h₃ => wpAny_bind (wpAny_standAt ?_)) fun _ _ x => x))
  obtain ⟨iv, σ₃, θ₃, I₃, g₃, ri, q⟩ := h₃
  refine wpAny_bind (wpAny_holding (wpAny_mono (q A s₃ θ₃ o' i' v' r I₃ (ro.grow I₂.tupOut g₃) ri ((rv.grow I.tupOut g₂).grow I₂.tupOut g₃)) (fun _ s₄ h₄ => ?_) fun _ _ x => x))
  obtain ⟨σ₄, θ₄, I₄, g₄, q⟩ := h₄
  exact wpAny_release (hP s₄ θ₄ σ₄ I₄ ((g₂.trans g₃).trans g₄) q)
theorem EX_AssignT2 {o1 i1 o2 i2 value : Expr} {p1 p2 tp pos : Pos} {k : Nat}
    (h : EV c sc d value ρ σ fun v σ₁ => ∃ u1 u2, v = .tup [u1, u2] ∧ EV c sc d o1 ρ σ₁ fun ov σ₂ => EV c sc d i1 ρ σ₂ fun iv σ₃ => SI c d ov iv u1 σ₃ fun σ₄ =>
      EV c sc d o2 ρ σ₄ fun ov2 σ₅ => EV c sc d i2 ρ σ₅ fun iv2 σ₆ => SI c d ov2 iv2 u2 σ₆ fun σ₇ => R .next ρ σ₇)
    (hs : ∀ env, swapsWithSole [.Tuple [.Subscript o1 i1 p1, .Subscript o2 i2 p2] k tp] value pos.line env = pure false)
    (hw : ∀ env : Env, env.scope = sc.scope → swappedStores [.Tuple [.Subscript o1 i1 p1, .Subscript o2 i2 p2] k tp] value env = pure none) : EX c sc d (.Assign [.Tuple [.Subscript o1 i1 p1, .Subscript o2 i2 p2] k tp] value pos) ρ σ R := fun A env s θ r X I F => by
  refine Assign_Tuple (wpAny_mono (h A env s θ r X I F) (fun v' s₁ h₁ => ?_) fun _ _ x => x) (hs env) (hw env X.scope)
  obtain ⟨v, σ₁, θ₁, I₁, g₁, rv, u1, u2, rfl, q⟩ := h₁
  have F₁ := F.grow I.tupOut g₁
  cases rv with
  | tup l b ys ht hr =>
    obtain ⟨z1, z2, rfl, r1, r2⟩ := hr.two
    refine wpAny_assign_Tuple r.handled ht.isTup rfl rfl fun h' e => ?_
    obtain ⟨I', F', g', q'⟩ := I₁.ext F₁ e
    show wpAny _ _ (holding _ (assign (.Subscript o1 i1 p1) env z1) >>= fun _ => (holding _ (assign (.Subscript o2 i2 p2) env z2) >>= fun _ => pure ())) _ _ _
    refine wpAny_bind (wpAny_holding (assignSub_ok (s := { s₁ with heap := h' }) X I' F' r (q' r1) q fun s₂ θ₂ σ₂ I₂ g₂ q => ?_))
    have F₂ := F'.grow I'.tupOut g₂
    refine wpAny_bind (wpAny_holding (assignSub_ok X I₂ F₂ r ((q' r2).grow I'.tupOut g₂) q fun s₃ θ₃ σ₃ I₃ g₃ q => wpAny_pure ?_))
    exact ⟨.next, ρ, σ₃, θ₃, I₃, F₂.grow I₂.tupOut g₃, (((g₁.trans g').trans g₂).trans g₃).x, .next, q⟩
end
end Mine
end
section
open PySem PySem.W PySem.Calls PyProof.Rows
set_option linter.unusedVariables false
set_option maxRecDepth 100000
namespace Mine
section
variable {c : Cx} {sc : Sc} {d : Nat} {ρ : Vars} {σ : St} {Q : Post} {R : Fl → Vars → St → Prop} {B : Bool → St → Prop} {x y : Str} {G : List V → (St → Prop) → St → Prop} {target : Expr} {a b : Int} {n m : Nat} {l : List V} {v : V}
theorem Cm_notInA {ys : List Str} (hl : isList σ v (ys.map .str)) (h : Q (.bool (!decide (x ∈ ys))) σ) : Cm c d .NotIn (.str x) v σ Q := ⟨CMP_notInA hl h⟩
theorem Cm_inI {ks : List Int} (hl : isList σ v (ks.map .int)) (h : Q (.bool (decide (a ∈ ks))) σ) : Cm c d .In (.int a) v σ Q := ⟨CMP_inI hl h⟩
theorem Cm_inR (hn : σ[n]? = some (.rng m)) (h : Q (.bool (decide (0 ≤ a ∧ a < m))) σ) : Cm c d .In (.int a) (.loc n) σ Q := ⟨CMP_inR hn h⟩
theorem Cm_neNil (hl : isList σ v l) (h : Q (.bool (!l.isEmpty)) σ) : Cm c d .NotEq v (.lst []) σ Q := ⟨CMP_neNil hl h⟩
theorem Cm_notInDI {l : List (Int × V)} (hn : σ[n]? = some (.dictI l)) (h : Q (.bool (!(getK l a).isSome)) σ) : Cm c d .NotIn (.int a) (.loc n) σ Q := ⟨CMP_notInDI hn h⟩
theorem Ca_range (h : Q (.loc σ.length) (σ ++ [.rng n])) : Ca c d (.raw (.type "range")) [.int (n : Nat)] σ Q := ⟨CALL_range h⟩
theorem Gm_index {P : V → List V → St → Prop} (h : P (.raw (.builtin "str.index")) [.str x] σ) : Gm c d (.str x) (Str.ofString "index") σ P := ⟨GM_index h⟩
theorem KCa_index {i : Nat} {rest : List Nat} (ho : Builtin.Str.occurrences x y 0 x.length 1 = i :: rest) (h : Q (.int (i : Nat)) σ) : Kp c σ (.raw (.builtin "str.index")) ∧ Ca c d (.raw (.builtin "str.index")) [.str x, .str y] σ Q := ⟨Kp_builtin, ⟨CALL_index ho h⟩⟩
theorem Ca_max (h : Q (.int (if b > a then b else a)) σ) : Ca c d (.raw (.builtin "max")) [.int a, .int b] σ Q := ⟨CALL_max h⟩
theorem Ic_rangeD {p : Pos} (hsz : Builtin.Range.rangeSize a b (-1) = n) (hsm : Builtin.Range.small a b (-1) = true) (hp : Builtin.divisionGoesByPylong (b - a) (-1) = false)
    (h : G ((List.range n).map fun i => .int (a - (i : Nat))) (fun _ => True) σ) : Ic c d (.Name x p) (.raw (.type "range")) [.int a, .int b, .int (-1)] σ G := ⟨ITC_rangeD hsz hsm hp h⟩
theorem SI.mono {o i v : V} {P P' : St → Prop} (h : SI c d o i v σ P) (hq : ∀ σ', P σ' → P' σ') : SI c d o i v σ P' := fun A s θ o' i' v' r I ro ri rv =>
  wpAny_mono (h A s θ o' i' v' r I ro ri rv) (fun _ _ ⟨σ', θ', a, b, q⟩ => ⟨σ', θ', a, b, hq _ q⟩) fun _ _ x => x
theorem At_meth (K : CxK c) {k : Nat} {C f : Addr} {l : List (Str × V)} {name : Str} (hn : σ[n]? = some (.inst C k)) (hk : σ[k]? = some (.attrs l)) (hv : get l name = none) (ha : BoundOf c.K C name f) (h : Q (.loc σ.length) (σ ++ [.meth f n])) : At c d (.loc n) name σ Q := ⟨ATTR_meth K.ok hn hk hv ha h⟩
theorem KCa_meth (K : CxK c) {f : Addr} {fd : FuncData} {ps : List Str} {body : List Stmt} {vs : List V} (fa : FnAt c f fd ps body) (hm : σ[m]? = some (.meth f n)) (hf : fnIn c.K f = true) (hlen : vs.length + 1 = ps.length)
    (h : ((wp c d 60) ⟨fd.scope, fd.code⟩).Ss body (binds ps (.loc n :: vs) []) σ fun fl _ σ' => Q (retOf fl) σ') : Kp c σ (.loc m) ∧ Ca c (d + 1) (.loc m) vs σ Q := ⟨Kp_meth K.ok hm hf, ⟨CALL_meth K.ok fa hm hlen (Nat.le_add_left 1 d) ((wp_ok K 60).Ss h)⟩⟩
theorem W_SortedSet (K : CxK c) {e : Expr} {p1 p2 q1 q2 : Pos} (hk1 : gnm c sc (Str.ofString "sorted") = some (.raw (.builtin "sorted"))) (hk2 : gnm c sc (Str.ofString "set") = some (.raw (.type "set"))) (hs : (!isSt e) = true) (hn : noStar [e] = true)
    (h : ((wp c d 40) sc).E e ρ σ fun v σ₁ => ∃ ys : List Str, isList σ₁ v (ys.map .str) ∧ ys.length < 60 ∧ ∀ ss : List Str, ss.Nodup → (∀ k, k ∈ ss ↔ k ∈ ys) → Q (.lst (ss.map .str)) σ₁) : Ev c sc d (.Call (.Name (Str.ofString "sorted") p1) [.Call (.Name (Str.ofString "set") p2) [e] [] q2] [] q1) ρ σ Q :=
  ⟨EV_SortedSet K.ok (gnm_e hk1).1 (gnm_e hk2).1 (gnm_e hk1).2 (gnm_e hk2).2 (((wp_ok K 40).E h).mono fun _ _ ⟨ys, h1, h2, h3⟩ => ⟨ys, h1, h2, fun ss hp _ => h3 ss (hp.nodup_iff.mpr (addAll_nodup ys [] .nil)) fun k => (hp.mem_iff.trans (addAll_mem ys [] k)).trans ⟨fun q => q.resolve_left (nomatch ·), .inr⟩⟩) (isSt_se hs) hn⟩
theorem sub_sw {o1 i1 o2 i2 e1 e2 : Expr} {p1 p2 tp p' : Pos} {k k' : Nat} (env : Env) : swappedStores [.Tuple [.Subscript o1 i1 p1, .Subscript o2 i2 p2] k tp] (.Tuple [e1, e2] k' p') env = pure none := by
  unfold swappedStores
  refine (ite_eq_left_iff.mpr fun _ => ?_)
  refine (ite_eq_left_iff.mpr fun _ => ?_)
  exact if_pos rfl
theorem W_AssignT2 (K : CxK c) {o1 i1 o2 i2 e1 e2 : Expr} {p1 p2 tp pos p' : Pos} {k k' : Nat}
    (h : ((wp c d 40) sc).E (.Tuple [e1, e2] k' p') ρ σ fun v σ₁ => ∃ u1 u2, v = .tup [u1, u2] ∧ ((wp c d 40) sc).E o1 ρ σ₁ fun ov σ₂ => ((wp c d 40) sc).E i1 ρ σ₂ fun iv σ₃ => Si c d ov iv u1 σ₃ fun σ₄ =>
      ((wp c d 40) sc).E o2 ρ σ₄ fun ov2 σ₅ => ((wp c d 40) sc).E i2 ρ σ₅ fun iv2 σ₆ => Si c d ov2 iv2 u2 σ₆ fun σ₇ => R .next ρ σ₇) : Ex c sc d (.Assign [.Tuple [.Subscript o1 i1 p1, .Subscript o2 i2 p2] k tp] (.Tuple [e1, e2] k' p') pos) ρ σ R :=
  ⟨EX_AssignT2 (((wp_ok K 40).E h).mono fun _ _ ⟨u1, u2, e, q⟩ => ⟨u1, u2, e, ((wp_ok K 40).E q).mono fun _ _ q => ((wp_ok K 40).E q).mono fun _ _ q => SI.mono q.go fun _ q => ((wp_ok K 40).E q).mono fun _ _ q => ((wp_ok K 40).E q).mono fun _ _ q => q.go⟩) (fun _ => rfl) fun env _ => sub_sw env⟩
noncomputable def optB (b : Bool) (u : V) : V := match b with | true => u | false => .none
theorem W_Opt (K : CxK c) {t : Bool} {u : V} {p1 p2 p3 p4 : Pos} {k : Nat} (hx : nm c sc ρ x = some (.bool t)) (hy : nm c sc ρ y = some u) (bx : (!badN x) = true) (by_ : (!badN y) = true) (h : Q (optB t u) σ) :
    Ev c sc d (.IfExp (.Name x p1) (.Name y p2) (.Constant .none k p3) p4) ρ σ Q := ⟨EV_IfExp (ET_val ((name_ok K bx hx (Q := fun v σ' => v = .bool t ∧ σ' = σ) ⟨rfl, rfl⟩).mono fun v σ' ⟨e1, e2⟩ => by
    subst e1 e2
    refine TRU_bool ?_
    cases t with
    | true => exact name_ok K by_ hy h
    | false => exact EV_none h) fun _ => rfl)⟩
end
end Mine
end
section
open PySem PySem.W PySem.Calls PyProof.Rows
set_option maxRecDepth 100000
set_option maxHeartbeats 0
set_option linter.unusedVariables false
namespace Mine
noncomputable abbrev hL : OpenLaw := PySem.Challenge.rw_xm0046_02
noncomputable abbrev hP : Program := hL.row.toRowW.prog
noncomputable def hpos : Pos := ⟨0, 0, 0, 0⟩
noncomputable def hst (i : Nat) : Stmt := match hP.main.body.drop i with | s :: _ => s | [] => .Pass hpos
noncomputable def hmb (i j : Nat) : Stmt := match hst i with | .ClassDef _ _ _ b _ _ _ _ _ _ _ => (match b.drop j with | s :: _ => s | [] => .Pass hpos) | s => s
noncomputable def hA : Stmt → Arguments | .FunctionDef _ a _ _ _ _ _ _ _ _ => a | _ => default
noncomputable def hB : Stmt → List Stmt | .FunctionDef _ _ b _ _ _ _ _ _ _ => b | _ => []
noncomputable def hS : Stmt → Scope | .FunctionDef _ _ _ _ _ _ s _ _ _ => s | _ => default
noncomputable def hde (P : Params) (x : String) (t : Nat) (v : Value) : DictEntry := ⟨PyData.keyHash P (Str.ofString x), .str (Str.ofString x) t, v⟩
noncomputable def hvs (x : String) (t : Nat) : Value := .str (Str.ofString x) t
noncomputable def hodd {α : Type} : List α → List α | a :: _ :: r => a :: hodd r | [a] => [a] | [] => []
noncomputable def hev {α : Type} : List α → List α | _ :: b :: r => b :: hev r | _ => []
noncomputable def hmk : Nat → List Obj → BT
  | 0, _ => .nil
  | _ + 1, [] => .nil
  | n + 1, o :: r => .node o (hmk n (hodd r)) (hmk n (hev r))
noncomputable abbrev hmkT : List Obj → BT := hmk 12
noncomputable def hEnv : Env := { scope := hP.main.scope, locals := mainNs, globals := mainNs, cells := [], code := .ref 13, frame := some 14 }
noncomputable def hC : Code := .body (behindTheImports hP) hEnv
noncomputable abbrev hF : List Frame := [topFrame hpos]
noncomputable abbrev hPc (a n N : Nat) (T : Params → BT) (m k : Nat) (q : Pos) (T' : Params → BT) (m' k' : Nat) (q' : Pos) : Prop := ∀ w : World,
  (fun os => PySem.W.Fast.tw10110043849684766642 PySem.W.Fast.tw14364793385576792824 hP w 11 (some (.ref 6)) 1 N { tree := T w.params, n := m, life := {}, gens := #[], drawn := {}, toks := k, os := os } (piecesOf (((behindTheImports hP).drop a).take n) hEnv hC q hF)) =
   fun os => some (Flow.next, ({ tree := T' w.params, n := m', life := {}, gens := #[], drawn := {}, toks := k', os := os } : SharedT), hC, q')
noncomputable def hents (o : Obj) : List DictEntry := match o.data with | .dict es _ => es.toList | _ => []
noncomputable def hflds (o : Obj) : List Value := match o.data with | .fields vs => vs.toList | _ => []
noncomputable def hdic (c : Value) (l : List DictEntry) (n : Nat) : Obj := ⟨c, none, .dict l.toArray n, #[]⟩
noncomputable def hfld (l : List Value) : Obj := ⟨.none, none, .fields l.toArray, #[]⟩
noncomputable def hset {α : Type} (l : List α) (i : Nat) (x : α) : List α := l.set i x
noncomputable def ht0  : Obj := (PySem.Obj.mk (PySem.Value.type "tuple") Option.none (PySem.Data.seq #[] 0) #[])
noncomputable def o11 : Obj := ht0 
noncomputable def o12 : Obj := (PySem.Obj.mk PySem.Value.none Option.none (PySem.Data.fields #[]) #[])
noncomputable def ht2 (a0 : String) (a1 : Nat) (a3 : Nat) (a5 : Nat) (a6 : Int) (a16 : Nat) (a19 : Nat) (a20 : Int) (a25 : Nat) : Obj := (PySem.Obj.mk (PySem.Value.type "code") Option.none (PySem.Data.fields #[(hvs a0 a1), (hvs a0 a3), (hvs "/claim/cut.py" a5), (PySem.Value.int a6 0), (PySem.Value.int 0 0), (PySem.Value.int 0 0), (PySem.Value.int 0 0), (PySem.Value.int 0 0), (PySem.Value.ref a16), (PySem.Value.bool Bool.false), (PySem.Value.int 181 0), (PySem.Value.ref a19), PySem.Value.none, PySem.Value.none, PySem.Value.none, PySem.Value.none, (PySem.Value.int a20 0), (PySem.Value.int a6 0), (hvs "/claim/cut.py" a25)]) #[])
noncomputable def o13 : Obj := ht2 "<module>" 182 183 184 1 11 12 185 186
noncomputable def ht3 (a0 : Nat) (a2 : Nat) (a3 : String) (a4 : Nat) : Obj := (PySem.Obj.mk (PySem.Value.type "frame") Option.none PySem.Data.plain #[(Option.some (PySem.Value.ref a0)), (Option.some (PySem.Value.ref 3)), (Option.some (PySem.Value.ref a2)), Option.none, (Option.some (hvs a3 a4)), Option.none, (Option.some (PySem.Value.ref 0))])
noncomputable def o14 : Obj := ht3 13 3 "__main__" 164
noncomputable def o2 (P : Params) : Obj := (PySem.Obj.mk PySem.Value.none Option.none (PySem.Data.dict #[(hde P "type.__subclasses__.Exception.0" 223 (PySem.Value.int 34 0)), (hde P "type.__subclasses__.Exception.n" 224 (PySem.Value.int 1 0))] 2) #[])
noncomputable def o3 (P : Params) : Obj := hdic (.type "dict") ((hset (hents (boot_o_3 P)) 0 (hde P "__name__" 165 (hvs "basicplus.values" 187))) ++ [(hde P "MOST_TEXT" 190 (PySem.Value.int 255 189)), (hde P "MOST_EXPONENT" 192 (PySem.Value.int 99 191)), (hde P "BasicError" 226 (PySem.Value.ref 34)), (hde P "kind_of" 233 (PySem.Value.ref 44)), (hde P "figures_of" 242 (PySem.Value.ref 51)), (hde P "rounded_by" 253 (PySem.Value.ref 58))]) 15
noncomputable def o12v1 : Obj := (PySem.Obj.mk PySem.Value.none Option.none (PySem.Data.fields #[(PySem.Value.int 4 0), (PySem.Value.int 0 0), (PySem.Value.ref 21), (PySem.Value.int 10 0), (PySem.Value.int 0 0), (PySem.Value.ref 43), (PySem.Value.int 14 0), (PySem.Value.int 0 0), (PySem.Value.ref 50), (PySem.Value.int 20 0), (PySem.Value.int 0 0), (PySem.Value.ref 57)]) #[])
noncomputable def o15 : Obj := (PySem.Obj.mk (PySem.Value.type "tuple") Option.none (PySem.Data.seq #[(PySem.Value.type "Exception")] 0) #[])
noncomputable def o16 : Obj := (PySem.Obj.mk (PySem.Value.type "builtin_function_or_method") Option.none (PySem.Data.fields #[(PySem.Value.builtin "type.__prepare__"), (PySem.Value.type "type")]) #[])
noncomputable def o17 (P : Params) : Obj := (PySem.Obj.mk (PySem.Value.type "dict") Option.none (PySem.Data.dict #[(hde P "__module__" 200 (hvs "basicplus.values" 187)), (hde P "__qualname__" 202 (hvs "BasicError" 201)), (hde P "__firstlineno__" 204 (PySem.Value.int 4 203)), (hde P "__init__" 215 (PySem.Value.ref 31)), (hde P "__static_attributes__" 218 (PySem.Value.ref 32)), (hde P "__classcell__" 219 (PySem.Value.ref 18))] 6) #[])
noncomputable def o18 : Obj := (PySem.Obj.mk (PySem.Value.type "cell") Option.none (PySem.Data.cell (Option.some (PySem.Value.ref 34))) #[])
noncomputable def o19 : Obj := ht0 
noncomputable def ht11 (a0 : Int) (a4 : Nat) : Obj := (PySem.Obj.mk PySem.Value.none Option.none (PySem.Data.fields #[(PySem.Value.int a0 0), (PySem.Value.int 4 0), (PySem.Value.ref a4)]) #[])
noncomputable def o20 : Obj := ht11 6 30
noncomputable def o21 : Obj := ht2 "BasicError" 195 196 197 4 19 20 198 199
noncomputable def o22 : Obj := ht3 21 17 "basicplus.values" 187
noncomputable def ht12 (a0 : String) (a1 : Nat) : Obj := (PySem.Obj.mk (PySem.Value.type "tuple") Option.none (PySem.Data.seq #[(hvs a0 a1)] 0) #[])
noncomputable def o23 : Obj := ht12 "" 205
noncomputable def o24 : Obj := (PySem.Obj.mk (PySem.Value.type "tuple") Option.none (PySem.Data.seq #[(PySem.Value.ref 18)] 0) #[])
noncomputable def o25 : Obj := ht12 "__class__" 209
noncomputable def o26 : Obj := (PySem.Obj.mk PySem.Value.none Option.none (PySem.Data.fields #[]) #[])
noncomputable def ht14 (a0 : String) (a1 : Nat) (a2 : String) (a3 : Nat) (a4 : String) (a5 : Nat) : Obj := (PySem.Obj.mk (PySem.Value.type "tuple") Option.none (PySem.Data.seq #[(hvs a0 a1), (hvs a2 a3), (hvs a4 a5)] 0) #[])
noncomputable def o27 : Obj := ht14 "self" 210 "code" 211 "told" 212
noncomputable def o28 : Obj := ht0 
noncomputable def ht15 (a0 : String) (a1 : String) (a2 : Nat) (a3 : Nat) (a7 : Nat) : Obj := (PySem.Obj.mk PySem.Value.none Option.none (PySem.Data.func (PySem.FuncData.mk (Str.ofString a0) (Str.ofString a1) (hA (hmb a2 a3)) (PySem.FuncBody.stmts (hB (hmb a2 a3))) (hS (hmb a2 a7)) 0 [] PySem.Value.none PySem.Value.none PySem.Value.none PySem.Value.none Option.none PySem.Value.none PySem.Value.none 0)) #[])
noncomputable def o29 : Obj := ht15 "__init__" "BasicError.__init__" 3 0 0
noncomputable def ht16 (a0 : String) (a1 : Nat) (a2 : String) (a3 : Nat) (a5 : Nat) (a6 : Int) (a8 : Int) (a16 : Nat) (a19 : Nat) (a20 : Nat) (a21 : Nat) (a22 : Nat) (a23 : Int) (a28 : Nat) : Obj := (PySem.Obj.mk (PySem.Value.type "code") Option.none (PySem.Data.fields #[(hvs a0 a1), (hvs a2 a3), (hvs "/claim/cut.py" a5), (PySem.Value.int a6 0), (PySem.Value.int a8 0), (PySem.Value.int 0 0), (PySem.Value.int 0 0), (PySem.Value.int 3 0), (PySem.Value.ref a16), (PySem.Value.bool Bool.true), (PySem.Value.int 181 0), (PySem.Value.ref a19), PySem.Value.none, (PySem.Value.ref a20), (PySem.Value.ref a21), (PySem.Value.ref a22), (PySem.Value.int a23 0), (PySem.Value.int a6 0), (hvs "/claim/cut.py" a28)]) #[])
noncomputable def o30 : Obj := ht16 "__init__" 206 "BasicError.__init__" 207 208 6 3 25 26 27 28 29 213 214
noncomputable def o31 : Obj := (PySem.Obj.mk (PySem.Value.type "function") Option.none (PySem.Data.func (PySem.FuncData.mk (Str.ofString "__init__") (Str.ofString "BasicError.__init__") (hA (hmb 3 0)) (PySem.FuncBody.stmts (hB (hmb 3 0))) (hS (hmb 3 0)) 3 [((Str.ofString "__class__"), 18)] (PySem.Value.ref 23) PySem.Value.none PySem.Value.none (hvs "basicplus.values" 187) Option.none (PySem.Value.ref 30) (PySem.Value.ref 24) 0)) #[])
noncomputable def ht18 (a0 : String) (a1 : Nat) (a2 : String) (a3 : Nat) : Obj := (PySem.Obj.mk (PySem.Value.type "tuple") Option.none (PySem.Data.seq #[(hvs a0 a1), (hvs a2 a3)] 0) #[])
noncomputable def o32 : Obj := ht18 "code" 216 "told" 217
noncomputable def o33 (P : Params) : Obj := (PySem.Obj.mk (PySem.Value.type "dict") Option.none (PySem.Data.dict #[(hde P "__module__" 200 (hvs "basicplus.values" 187)), (hde P "__firstlineno__" 204 (PySem.Value.int 4 203)), (hde P "__init__" 215 (PySem.Value.ref 31)), (hde P "__static_attributes__" 218 (PySem.Value.ref 32)), (hde P "__weakref__" 221 (PySem.Value.ref 35)), (hde P "__doc__" 222 PySem.Value.none)] 4) #[])
noncomputable def o34 : Obj := (PySem.Obj.mk (PySem.Value.type "type") Option.none (PySem.Data.cls (PySem.ClassData.mk (Str.ofString "BasicError") [(PySem.Value.type "Exception")] [(PySem.Value.ref 34), (PySem.Value.type "Exception"), (PySem.Value.type "BaseException"), (PySem.Value.type "object")] 33 (Str.ofString "BasicError") Bool.true [] [] Bool.false Option.none Bool.false)) #[(Option.some (PySem.Value.ref 15)), Option.none, (Option.some (hvs "BasicError" 193)), (Option.some (hvs "BasicError" 201)), (Option.some (PySem.Value.builtin "Exception.__new__")), (Option.some (PySem.Value.bool Bool.true))])
noncomputable def ht21 (a1 : Nat) (a2 : Nat) : Obj := (PySem.Obj.mk (PySem.Value.type "getset_descriptor") Option.none (PySem.Data.fields #[(hvs "__weakref__" a1), (PySem.Value.ref a2), (PySem.Value.builtin "ExceptionGroup.__weakref__"), PySem.Value.none]) #[])
noncomputable def o35 : Obj := ht21 220 34
noncomputable def ht22 (a0 : Nat) : Obj := (PySem.Obj.mk (PySem.Value.type "super") Option.none (PySem.Data.fields #[(PySem.Value.ref a0), (PySem.Value.ref a0), (PySem.Value.ref a0)]) #[])
noncomputable def o36 : Obj := ht22 34
noncomputable def ht23 (a0 : Nat) : Obj := (PySem.Obj.mk (PySem.Value.type "builtin_function_or_method") Option.none (PySem.Data.fields #[(PySem.Value.builtin "object.__init_subclass__"), (PySem.Value.ref a0)]) #[])
noncomputable def o37 : Obj := ht23 34
noncomputable def o38 : Obj := ht0 
noncomputable def o39 : Obj := (PySem.Obj.mk PySem.Value.none Option.none (PySem.Data.fields #[]) #[])
noncomputable def o40 : Obj := ht12 "value" 230
noncomputable def o41 : Obj := ht0 
noncomputable def ht24 (a0 : String) (a2 : Nat) (a4 : Nat) : Obj := (PySem.Obj.mk PySem.Value.none Option.none (PySem.Data.func (PySem.FuncData.mk (Str.ofString a0) (Str.ofString a0) (hA (hst a2)) (PySem.FuncBody.stmts (hB (hst a2))) (hS (hst a4)) 0 [] PySem.Value.none PySem.Value.none PySem.Value.none PySem.Value.none Option.none PySem.Value.none PySem.Value.none 0)) #[])
noncomputable def o42 : Obj := ht24 "kind_of" 4 4
noncomputable def o43 : Obj := ht16 "kind_of" 227 "kind_of" 228 229 10 1 38 39 40 41 42 231 232
noncomputable def ht25 (a0 : String) (a2 : Nat) (a4 : Nat) (a6 : String) (a7 : Nat) (a8 : Nat) : Obj := (PySem.Obj.mk (PySem.Value.type "function") Option.none (PySem.Data.func (PySem.FuncData.mk (Str.ofString a0) (Str.ofString a0) (hA (hst a2)) (PySem.FuncBody.stmts (hB (hst a2))) (hS (hst a4)) 3 [] PySem.Value.none PySem.Value.none PySem.Value.none (hvs a6 a7) Option.none (PySem.Value.ref a8) PySem.Value.none 0)) #[])
noncomputable def o44 : Obj := ht25 "kind_of" 4 4 "basicplus.values" 187 43
noncomputable def o45 : Obj := ht0 
noncomputable def o46 : Obj := (PySem.Obj.mk PySem.Value.none Option.none (PySem.Data.fields #[]) #[])
noncomputable def o47 : Obj := ht14 "number" 237 "many" 238 "bound" 239
noncomputable def o48 : Obj := ht0 
noncomputable def o49 : Obj := ht24 "figures_of" 5 5
noncomputable def o50 : Obj := ht16 "figures_of" 234 "figures_of" 235 236 14 1 45 46 47 48 49 240 241
noncomputable def o51 : Obj := ht25 "figures_of" 5 5 "basicplus.values" 187 50
noncomputable def o52 : Obj := ht0 
noncomputable def o53 : Obj := (PySem.Obj.mk PySem.Value.none Option.none (PySem.Data.fields #[]) #[])
noncomputable def ht26 (a0 : String) (a1 : Nat) (a2 : String) (a3 : Nat) (a4 : String) (a5 : Nat) (a6 : String) (a7 : Nat) (a8 : String) (a9 : Nat) : Obj := (PySem.Obj.mk (PySem.Value.type "tuple") Option.none (PySem.Data.seq #[(hvs a0 a1), (hvs a2 a3), (hvs a4 a5), (hvs a6 a7), (hvs a8 a9)] 0) #[])
noncomputable def o54 : Obj := ht26 "number" 246 "places" 247 "unit" 248 "found" 249 "rest" 250
noncomputable def o55 : Obj := ht0 
noncomputable def o56 : Obj := ht24 "rounded_by" 6 6
noncomputable def o57 : Obj := ht16 "rounded_by" 243 "rounded_by" 244 245 20 2 52 53 54 55 56 251 252
noncomputable def o58 : Obj := ht25 "rounded_by" 6 6 "basicplus.values" 187 57
noncomputable def o3v1 (P : Params) : Obj := hdic (.type "dict") ((hset (hents (o3 P)) 0 (hde P "__name__" 165 (hvs "basicplus.decimals" 337))) ++ [(hde P "made" 265 (PySem.Value.ref 65)), (hde P "whole_near" 275 (PySem.Value.ref 72)), (hde P "fits" 283 (PySem.Value.ref 79)), (hde P "whole_of" 292 (PySem.Value.ref 86)), (hde P "decimal_of" 300 (PySem.Value.ref 93)), (hde P "checked_text" 307 (PySem.Value.ref 100)), (hde P "is_nought" 314 (PySem.Value.ref 107)), (hde P "is_true" 321 (PySem.Value.ref 114)), (hde P "truth" 328 (PySem.Value.ref 121)), (hde P "sign_of" 336 (PySem.Value.ref 128)), (hde P "ONE" 341 (PySem.Value.ref 129)), (hde P "MOST_POWER" 343 (PySem.Value.int 9999 342)), (hde P "d_negated" 350 (PySem.Value.ref 136)), (hde P "alike" 359 (PySem.Value.ref 143))]) 29
noncomputable def o12v2 : Obj := hfld ((hflds o12v1) ++ [(PySem.Value.int 30 0), (PySem.Value.int 0 0), (PySem.Value.ref 64), (PySem.Value.int 45 0), (PySem.Value.int 0 0), (PySem.Value.ref 71), (PySem.Value.int 51 0), (PySem.Value.int 0 0), (PySem.Value.ref 78), (PySem.Value.int 53 0), (PySem.Value.int 0 0), (PySem.Value.ref 85), (PySem.Value.int 60 0), (PySem.Value.int 0 0), (PySem.Value.ref 92), (PySem.Value.int 64 0), (PySem.Value.int 0 0), (PySem.Value.ref 99), (PySem.Value.int 68 0), (PySem.Value.int 0 0), (PySem.Value.ref 106), (PySem.Value.int 72 0), (PySem.Value.int 0 0), (PySem.Value.ref 113), (PySem.Value.int 74 0), (PySem.Value.int 0 0), (PySem.Value.ref 120), (PySem.Value.int 76 0), (PySem.Value.int 0 0), (PySem.Value.ref 127), (PySem.Value.int 84 0), (PySem.Value.int 0 0), (PySem.Value.ref 135), (PySem.Value.int 86 0), (PySem.Value.int 0 0), (PySem.Value.ref 142)])
noncomputable def o59 : Obj := ht0 
noncomputable def o60 : Obj := (PySem.Obj.mk PySem.Value.none Option.none (PySem.Data.fields #[]) #[])
noncomputable def ht29 (a0 : String) (a1 : Nat) (a2 : String) (a3 : Nat) (a4 : String) (a5 : Nat) (a6 : String) (a7 : Nat) (a8 : String) (a9 : Nat) (a10 : String) (a11 : Nat) : Obj := (PySem.Obj.mk (PySem.Value.type "tuple") Option.none (PySem.Data.seq #[(hvs a0 a1), (hvs a2 a3), (hvs a4 a5), (hvs a6 a7), (hvs a8 a9), (hvs a10 a11)] 0) #[])
noncomputable def o61 : Obj := ht29 "coefficient" 257 "exponent" 258 "digits" 259 "size" 260 "more" 261 "first" 262
noncomputable def o62 : Obj := ht0 
noncomputable def o63 : Obj := ht24 "made" 7 7
noncomputable def o64 : Obj := ht16 "made" 254 "made" 255 256 30 3 59 60 61 62 63 263 264
noncomputable def o65 : Obj := ht25 "made" 7 7 "basicplus.values" 187 64
noncomputable def o66 : Obj := ht0 
noncomputable def o67 : Obj := (PySem.Obj.mk PySem.Value.none Option.none (PySem.Data.fields #[]) #[])
noncomputable def ht30 (a0 : String) (a1 : Nat) (a2 : String) (a3 : Nat) (a4 : String) (a5 : Nat) (a6 : String) (a7 : Nat) : Obj := (PySem.Obj.mk (PySem.Value.type "tuple") Option.none (PySem.Data.seq #[(hvs a0 a1), (hvs a2 a3), (hvs a4 a5), (hvs a6 a7)] 0) #[])
noncomputable def o68 : Obj := ht30 "value" 269 "coefficient" 270 "exponent" 271 "size" 272
noncomputable def o69 : Obj := ht0 
noncomputable def o70 : Obj := ht24 "whole_near" 8 8
noncomputable def o71 : Obj := ht16 "whole_near" 266 "whole_near" 267 268 45 1 66 67 68 69 70 273 274
noncomputable def o72 : Obj := ht25 "whole_near" 8 8 "basicplus.values" 187 71
noncomputable def o73 : Obj := ht0 
noncomputable def o74 : Obj := (PySem.Obj.mk PySem.Value.none Option.none (PySem.Data.fields #[]) #[])
noncomputable def o75 : Obj := ht18 "number" 279 "bits" 280
noncomputable def o76 : Obj := ht0 
noncomputable def o77 : Obj := ht24 "fits" 9 9
noncomputable def o78 : Obj := ht16 "fits" 276 "fits" 277 278 51 2 73 74 75 76 77 281 282
noncomputable def o79 : Obj := ht25 "fits" 9 9 "basicplus.values" 187 78
noncomputable def o80 : Obj := ht0 
noncomputable def o81 : Obj := (PySem.Obj.mk PySem.Value.none Option.none (PySem.Data.fields #[]) #[])
noncomputable def o82 : Obj := ht14 "value" 287 "bits" 288 "number" 289
noncomputable def o83 : Obj := ht0 
noncomputable def o84 : Obj := ht24 "whole_of" 10 10
noncomputable def o85 : Obj := ht16 "whole_of" 284 "whole_of" 285 286 53 2 80 81 82 83 84 290 291
noncomputable def o86 : Obj := ht25 "whole_of" 10 10 "basicplus.values" 187 85
noncomputable def o87 : Obj := ht0 
noncomputable def o88 : Obj := (PySem.Obj.mk PySem.Value.none Option.none (PySem.Data.fields #[]) #[])
noncomputable def o89 : Obj := ht18 "value" 296 "digits" 297
noncomputable def o90 : Obj := ht0 
noncomputable def o91 : Obj := ht24 "decimal_of" 11 11
noncomputable def o92 : Obj := ht16 "decimal_of" 293 "decimal_of" 294 295 60 2 87 88 89 90 91 298 299
noncomputable def o93 : Obj := ht25 "decimal_of" 11 11 "basicplus.values" 187 92
noncomputable def o94 : Obj := ht0 
noncomputable def o95 : Obj := (PySem.Obj.mk PySem.Value.none Option.none (PySem.Data.fields #[]) #[])
noncomputable def o96 : Obj := ht12 "text" 304
noncomputable def o97 : Obj := ht0 
noncomputable def o98 : Obj := ht24 "checked_text" 12 12
noncomputable def o99 : Obj := ht16 "checked_text" 301 "checked_text" 302 303 64 1 94 95 96 97 98 305 306
noncomputable def o100 : Obj := ht25 "checked_text" 12 12 "basicplus.values" 187 99
noncomputable def o101 : Obj := ht0 
noncomputable def o102 : Obj := (PySem.Obj.mk PySem.Value.none Option.none (PySem.Data.fields #[]) #[])
noncomputable def o103 : Obj := ht12 "value" 311
noncomputable def o104 : Obj := ht0 
noncomputable def o105 : Obj := ht24 "is_nought" 13 31
noncomputable def o106 : Obj := ht16 "is_nought" 308 "is_nought" 309 310 68 1 101 102 103 104 105 312 313
noncomputable def o107 : Obj := ht25 "is_nought" 13 31 "basicplus.values" 187 106
noncomputable def o108 : Obj := ht0 
noncomputable def o109 : Obj := (PySem.Obj.mk PySem.Value.none Option.none (PySem.Data.fields #[]) #[])
noncomputable def o110 : Obj := ht12 "value" 318
noncomputable def o111 : Obj := ht0 
noncomputable def o112 : Obj := ht24 "is_true" 14 14
noncomputable def o113 : Obj := ht16 "is_true" 315 "is_true" 316 317 72 1 108 109 110 111 112 319 320
noncomputable def o114 : Obj := ht25 "is_true" 14 14 "basicplus.values" 187 113
noncomputable def o115 : Obj := ht0 
noncomputable def o116 : Obj := (PySem.Obj.mk PySem.Value.none Option.none (PySem.Data.fields #[]) #[])
noncomputable def o117 : Obj := ht12 "is_so" 325
noncomputable def o118 : Obj := ht0 
noncomputable def o119 : Obj := ht24 "truth" 15 15
noncomputable def o120 : Obj := ht16 "truth" 322 "truth" 323 324 74 1 115 116 117 118 119 326 327
noncomputable def o121 : Obj := ht25 "truth" 15 15 "basicplus.values" 187 120
noncomputable def o122 : Obj := ht0 
noncomputable def o123 : Obj := (PySem.Obj.mk PySem.Value.none Option.none (PySem.Data.fields #[]) #[])
noncomputable def o124 : Obj := ht18 "value" 332 "size" 333
noncomputable def o125 : Obj := ht0 
noncomputable def o126 : Obj := ht24 "sign_of" 16 16
noncomputable def o127 : Obj := ht16 "sign_of" 329 "sign_of" 330 331 76 1 122 123 124 125 126 334 335
noncomputable def o128 : Obj := ht25 "sign_of" 16 16 "basicplus.values" 187 127
noncomputable def o129 : Obj := (PySem.Obj.mk (PySem.Value.type "tuple") Option.none (PySem.Data.seq #[(PySem.Value.int 1 339), (PySem.Value.int 0 340)] 0) #[])
noncomputable def o130 : Obj := ht0 
noncomputable def o131 : Obj := (PySem.Obj.mk PySem.Value.none Option.none (PySem.Data.fields #[]) #[])
noncomputable def o132 : Obj := ht12 "a" 347
noncomputable def o133 : Obj := ht0 
noncomputable def o134 : Obj := ht24 "d_negated" 20 20
noncomputable def o135 : Obj := ht16 "d_negated" 344 "d_negated" 345 346 84 1 130 131 132 133 134 348 349
noncomputable def o136 : Obj := ht25 "d_negated" 20 20 "basicplus.decimals" 337 135
noncomputable def o137 : Obj := ht0 
noncomputable def o138 : Obj := (PySem.Obj.mk PySem.Value.none Option.none (PySem.Data.fields #[]) #[])
noncomputable def o139 : Obj := ht14 "a" 354 "b" 355 "least" 356
noncomputable def o140 : Obj := ht0 
noncomputable def o141 : Obj := ht24 "alike" 21 21
noncomputable def o142 : Obj := ht16 "alike" 351 "alike" 352 353 86 2 137 138 139 140 141 357 358
noncomputable def o143 : Obj := ht25 "alike" 21 21 "basicplus.decimals" 337 142
noncomputable def o3v2 (P : Params) : Obj := hdic (.type "dict") ((hset (hents (o3v1 P)) 0 (hde P "__name__" 165 (hvs "basicplus.arith" 444))) ++ [(hde P "d_add" 371 (PySem.Value.ref 150)), (hde P "d_sub" 380 (PySem.Value.ref 157)), (hde P "d_mul" 389 (PySem.Value.ref 164)), (hde P "with_rest" 398 (PySem.Value.ref 171)), (hde P "d_div" 412 (PySem.Value.ref 178)), (hde P "d_compare" 423 (PySem.Value.ref 185)), (hde P "d_power" 435 (PySem.Value.ref 192)), (hde P "square_or_end" 443 (PySem.Value.ref 199)), (hde P "is_whole" 452 (PySem.Value.ref 206)), (hde P "settled" 461 (PySem.Value.ref 213)), (hde P "whole_reckoned" 472 (PySem.Value.ref 220)), (hde P "cut_quotient" 481 (PySem.Value.ref 227))]) 41
noncomputable def o12v3 : Obj := hfld ((hflds o12v2) ++ [(PySem.Value.int 89 0), (PySem.Value.int 0 0), (PySem.Value.ref 149), (PySem.Value.int 92 0), (PySem.Value.int 0 0), (PySem.Value.ref 156), (PySem.Value.int 94 0), (PySem.Value.int 0 0), (PySem.Value.ref 163), (PySem.Value.int 96 0), (PySem.Value.int 0 0), (PySem.Value.ref 170), (PySem.Value.int 98 0), (PySem.Value.int 0 0), (PySem.Value.ref 177), (PySem.Value.int 106 0), (PySem.Value.int 0 0), (PySem.Value.ref 184), (PySem.Value.int 109 0), (PySem.Value.int 0 0), (PySem.Value.ref 191), (PySem.Value.int 123 0), (PySem.Value.int 0 0), (PySem.Value.ref 198), (PySem.Value.int 126 0), (PySem.Value.int 0 0), (PySem.Value.ref 205), (PySem.Value.int 130 0), (PySem.Value.int 0 0), (PySem.Value.ref 212), (PySem.Value.int 132 0), (PySem.Value.int 0 0), (PySem.Value.ref 219), (PySem.Value.int 136 0), (PySem.Value.int 0 0), (PySem.Value.ref 226)])
noncomputable def o144 : Obj := ht0 
noncomputable def o145 : Obj := (PySem.Obj.mk PySem.Value.none Option.none (PySem.Data.fields #[]) #[])
noncomputable def o146 : Obj := ht29 "a" 363 "b" 364 "digits" 365 "one" 366 "other" 367 "exponent" 368
noncomputable def o147 : Obj := ht0 
noncomputable def o148 : Obj := ht24 "d_add" 22 22
noncomputable def o149 : Obj := ht16 "d_add" 360 "d_add" 361 362 89 3 144 145 146 147 148 369 370
noncomputable def o150 : Obj := ht25 "d_add" 22 22 "basicplus.decimals" 337 149
noncomputable def o151 : Obj := ht0 
noncomputable def o152 : Obj := (PySem.Obj.mk PySem.Value.none Option.none (PySem.Data.fields #[]) #[])
noncomputable def o153 : Obj := ht14 "a" 375 "b" 376 "digits" 377
noncomputable def o154 : Obj := ht0 
noncomputable def o155 : Obj := ht24 "d_sub" 23 23
noncomputable def o156 : Obj := ht16 "d_sub" 372 "d_sub" 373 374 92 3 151 152 153 154 155 378 379
noncomputable def o157 : Obj := ht25 "d_sub" 23 23 "basicplus.decimals" 337 156
noncomputable def o158 : Obj := ht0 
noncomputable def o159 : Obj := (PySem.Obj.mk PySem.Value.none Option.none (PySem.Data.fields #[]) #[])
noncomputable def o160 : Obj := ht14 "a" 384 "b" 385 "digits" 386
noncomputable def o161 : Obj := ht0 
noncomputable def o162 : Obj := ht24 "d_mul" 24 24
noncomputable def o163 : Obj := ht16 "d_mul" 381 "d_mul" 382 383 94 3 158 159 160 161 162 387 388
noncomputable def o164 : Obj := ht25 "d_mul" 24 24 "basicplus.decimals" 337 163
noncomputable def o165 : Obj := ht0 
noncomputable def o166 : Obj := (PySem.Obj.mk PySem.Value.none Option.none (PySem.Data.fields #[]) #[])
noncomputable def o167 : Obj := ht14 "whole" 393 "rest" 394 "exponent" 395
noncomputable def o168 : Obj := ht0 
noncomputable def o169 : Obj := ht24 "with_rest" 25 25
noncomputable def o170 : Obj := ht16 "with_rest" 390 "with_rest" 391 392 96 3 165 166 167 168 169 396 397
noncomputable def o171 : Obj := ht25 "with_rest" 25 25 "basicplus.decimals" 337 170
noncomputable def o172 : Obj := ht0 
noncomputable def o173 : Obj := (PySem.Obj.mk PySem.Value.none Option.none (PySem.Data.fields #[]) #[])
noncomputable def ht34 (a0 : String) (a1 : Nat) (a2 : String) (a3 : Nat) (a4 : String) (a5 : Nat) (a6 : String) (a7 : Nat) (a8 : String) (a9 : Nat) (a10 : String) (a11 : Nat) (a12 : String) (a13 : Nat) (a14 : String) (a15 : Nat) : Obj := (PySem.Obj.mk (PySem.Value.type "tuple") Option.none (PySem.Data.seq #[(hvs a0 a1), (hvs a2 a3), (hvs a4 a5), (hvs a6 a7), (hvs a8 a9), (hvs a10 a11), (hvs a12 a13), (hvs a14 a15)] 0) #[])
noncomputable def o174 : Obj := ht34 "a" 402 "b" 403 "digits" 404 "size" 405 "below" 406 "places" 407 "whole" 408 "exponent" 409
noncomputable def o175 : Obj := ht0 
noncomputable def o176 : Obj := ht24 "d_div" 26 26
noncomputable def o177 : Obj := ht16 "d_div" 399 "d_div" 400 401 98 3 172 173 174 175 176 410 411
noncomputable def o178 : Obj := ht25 "d_div" 26 26 "basicplus.decimals" 337 177
noncomputable def o179 : Obj := ht0 
noncomputable def o180 : Obj := (PySem.Obj.mk PySem.Value.none Option.none (PySem.Data.fields #[]) #[])
noncomputable def o181 : Obj := ht26 "a" 416 "b" 417 "one" 418 "other" 419 "exponent" 420
noncomputable def o182 : Obj := ht0 
noncomputable def o183 : Obj := ht24 "d_compare" 27 27
noncomputable def o184 : Obj := ht16 "d_compare" 413 "d_compare" 414 415 106 2 179 180 181 182 183 421 422
noncomputable def o185 : Obj := ht25 "d_compare" 27 27 "basicplus.decimals" 337 184
noncomputable def o186 : Obj := ht0 
noncomputable def o187 : Obj := (PySem.Obj.mk PySem.Value.none Option.none (PySem.Data.fields #[]) #[])
noncomputable def o188 : Obj := ht29 "a" 427 "n" 428 "digits" 429 "work" 430 "found" 431 "left" 432
noncomputable def o189 : Obj := ht0 
noncomputable def o190 : Obj := ht24 "d_power" 28 28
noncomputable def o191 : Obj := ht16 "d_power" 424 "d_power" 425 426 109 3 186 187 188 189 190 433 434
noncomputable def o192 : Obj := ht25 "d_power" 28 28 "basicplus.decimals" 337 191
noncomputable def o193 : Obj := ht0 
noncomputable def o194 : Obj := (PySem.Obj.mk PySem.Value.none Option.none (PySem.Data.fields #[]) #[])
noncomputable def o195 : Obj := ht18 "a" 439 "work" 440
noncomputable def o196 : Obj := ht0 
noncomputable def o197 : Obj := ht24 "square_or_end" 29 29
noncomputable def o198 : Obj := ht16 "square_or_end" 436 "square_or_end" 437 438 123 2 193 194 195 196 197 441 442
noncomputable def o199 : Obj := ht25 "square_or_end" 29 29 "basicplus.decimals" 337 198
noncomputable def o200 : Obj := ht0 
noncomputable def o201 : Obj := (PySem.Obj.mk PySem.Value.none Option.none (PySem.Data.fields #[]) #[])
noncomputable def o202 : Obj := ht12 "value" 449
noncomputable def o203 : Obj := ht0 
noncomputable def o204 : Obj := ht24 "is_whole" 31 31
noncomputable def o205 : Obj := ht16 "is_whole" 446 "is_whole" 447 448 126 1 200 201 202 203 204 450 451
noncomputable def o206 : Obj := ht25 "is_whole" 31 31 "basicplus.arith" 444 205
noncomputable def o207 : Obj := ht0 
noncomputable def o208 : Obj := (PySem.Obj.mk PySem.Value.none Option.none (PySem.Data.fields #[]) #[])
noncomputable def o209 : Obj := ht14 "number" 456 "bits" 457 "digits" 458
noncomputable def o210 : Obj := ht0 
noncomputable def o211 : Obj := ht24 "settled" 32 32
noncomputable def o212 : Obj := ht16 "settled" 453 "settled" 454 455 130 3 207 208 209 210 211 459 460
noncomputable def o213 : Obj := ht25 "settled" 32 32 "basicplus.arith" 444 212
noncomputable def o214 : Obj := ht0 
noncomputable def o215 : Obj := (PySem.Obj.mk PySem.Value.none Option.none (PySem.Data.fields #[]) #[])
noncomputable def o216 : Obj := ht26 "op" 465 "a" 466 "b" 467 "bits" 468 "digits" 469
noncomputable def o217 : Obj := ht0 
noncomputable def o218 : Obj := ht24 "whole_reckoned" 33 33
noncomputable def o219 : Obj := ht16 "whole_reckoned" 462 "whole_reckoned" 463 464 132 5 214 215 216 217 218 470 471
noncomputable def o220 : Obj := ht25 "whole_reckoned" 33 33 "basicplus.arith" 444 219
noncomputable def o221 : Obj := ht0 
noncomputable def o222 : Obj := (PySem.Obj.mk PySem.Value.none Option.none (PySem.Data.fields #[]) #[])
noncomputable def o223 : Obj := ht14 "a" 476 "b" 477 "found" 478
noncomputable def o224 : Obj := ht0 
noncomputable def o225 : Obj := ht24 "cut_quotient" 34 34
noncomputable def o226 : Obj := ht16 "cut_quotient" 473 "cut_quotient" 474 475 136 2 221 222 223 224 225 479 480
noncomputable def o227 : Obj := ht25 "cut_quotient" 34 34 "basicplus.arith" 444 226
noncomputable def o3v3 (P : Params) : Obj := hdic (.type "dict") ((hset (hents (o3v2 P)) 0 (hde P "__name__" 165 (hvs "basicplus.control" 571))) ++ [(hde P "cut_rest" 489 (PySem.Value.ref 234)), (hde P "exponent_of" 496 (PySem.Value.ref 241)), (hde P "whole_power" 506 (PySem.Value.ref 248)), (hde P "raised" 517 (PySem.Value.ref 255)), (hde P "reckoned" 533 (PySem.Value.ref 262)), (hde P "negated" 542 (PySem.Value.ref 269)), (hde P "order_of" 550 (PySem.Value.ref 276)), (hde P "inverted" 558 (PySem.Value.ref 283)), (hde P "logic" 570 (PySem.Value.ref 290)), (hde P "MOST_NUMBER" 574 (PySem.Value.int 255 573))]) 51
noncomputable def o12v4 : Obj := hfld ((hflds o12v3) ++ [(PySem.Value.int 141 0), (PySem.Value.int 0 0), (PySem.Value.ref 233), (PySem.Value.int 143 0), (PySem.Value.int 0 0), (PySem.Value.ref 240), (PySem.Value.int 149 0), (PySem.Value.int 0 0), (PySem.Value.ref 247), (PySem.Value.int 155 0), (PySem.Value.int 0 0), (PySem.Value.ref 254), (PySem.Value.int 160 0), (PySem.Value.int 0 0), (PySem.Value.ref 261), (PySem.Value.int 175 0), (PySem.Value.int 0 0), (PySem.Value.ref 268), (PySem.Value.int 177 0), (PySem.Value.int 0 0), (PySem.Value.ref 275), (PySem.Value.int 183 0), (PySem.Value.int 0 0), (PySem.Value.ref 282), (PySem.Value.int 185 0), (PySem.Value.int 0 0), (PySem.Value.ref 289)])
noncomputable def o228 : Obj := ht0 
noncomputable def o229 : Obj := (PySem.Obj.mk PySem.Value.none Option.none (PySem.Data.fields #[]) #[])
noncomputable def o230 : Obj := ht18 "a" 485 "b" 486
noncomputable def o231 : Obj := ht0 
noncomputable def o232 : Obj := ht24 "cut_rest" 35 35
noncomputable def o233 : Obj := ht16 "cut_rest" 482 "cut_rest" 483 484 141 2 228 229 230 231 232 487 488
noncomputable def o234 : Obj := ht25 "cut_rest" 35 35 "basicplus.arith" 444 233
noncomputable def o235 : Obj := ht0 
noncomputable def o236 : Obj := (PySem.Obj.mk PySem.Value.none Option.none (PySem.Data.fields #[]) #[])
noncomputable def o237 : Obj := ht12 "value" 493
noncomputable def o238 : Obj := ht0 
noncomputable def o239 : Obj := ht24 "exponent_of" 36 36
noncomputable def o240 : Obj := ht16 "exponent_of" 490 "exponent_of" 491 492 143 1 235 236 237 238 239 494 495
noncomputable def o241 : Obj := ht25 "exponent_of" 36 36 "basicplus.arith" 444 240
noncomputable def o242 : Obj := ht0 
noncomputable def o243 : Obj := (PySem.Obj.mk PySem.Value.none Option.none (PySem.Data.fields #[]) #[])
noncomputable def o244 : Obj := ht30 "a" 500 "n" 501 "bits" 502 "digits" 503
noncomputable def o245 : Obj := ht0 
noncomputable def o246 : Obj := ht24 "whole_power" 37 37
noncomputable def o247 : Obj := ht16 "whole_power" 497 "whole_power" 498 499 149 4 242 243 244 245 246 504 505
noncomputable def o248 : Obj := ht25 "whole_power" 37 37 "basicplus.arith" 444 247
noncomputable def o249 : Obj := ht0 
noncomputable def o250 : Obj := (PySem.Obj.mk PySem.Value.none Option.none (PySem.Data.fields #[]) #[])
noncomputable def o251 : Obj := ht26 "a" 510 "b" 511 "bits" 512 "digits" 513 "n" 514
noncomputable def o252 : Obj := ht0 
noncomputable def o253 : Obj := ht24 "raised" 38 38
noncomputable def o254 : Obj := ht16 "raised" 507 "raised" 508 509 155 4 249 250 251 252 253 515 516
noncomputable def o255 : Obj := ht25 "raised" 38 38 "basicplus.arith" 444 254
noncomputable def o256 : Obj := ht0 
noncomputable def o257 : Obj := (PySem.Obj.mk PySem.Value.none Option.none (PySem.Data.fields #[]) #[])
noncomputable def ht37 (a0 : String) (a1 : Nat) (a2 : String) (a3 : Nat) (a4 : String) (a5 : Nat) (a6 : String) (a7 : Nat) (a8 : String) (a9 : Nat) (a10 : String) (a11 : Nat) (a12 : String) (a13 : Nat) (a14 : String) (a15 : Nat) (a16 : String) (a17 : Nat) (a18 : String) (a19 : Nat) : Obj := (PySem.Obj.mk (PySem.Value.type "tuple") Option.none (PySem.Data.seq #[(hvs a0 a1), (hvs a2 a3), (hvs a4 a5), (hvs a6 a7), (hvs a8 a9), (hvs a10 a11), (hvs a12 a13), (hvs a14 a15), (hvs a16 a17), (hvs a18 a19)] 0) #[])
noncomputable def o258 : Obj := ht37 "op" 521 "a" 522 "b" 523 "bits" 524 "digits" 525 "is_first" 526 "is_second" 527 "work" 528 "one" 529 "other" 530
noncomputable def o259 : Obj := ht0 
noncomputable def o260 : Obj := ht24 "reckoned" 39 39
noncomputable def o261 : Obj := ht16 "reckoned" 518 "reckoned" 519 520 160 5 256 257 258 259 260 531 532
noncomputable def o262 : Obj := ht25 "reckoned" 39 39 "basicplus.arith" 444 261
noncomputable def o263 : Obj := ht0 
noncomputable def o264 : Obj := (PySem.Obj.mk PySem.Value.none Option.none (PySem.Data.fields #[]) #[])
noncomputable def o265 : Obj := ht14 "a" 537 "bits" 538 "digits" 539
noncomputable def o266 : Obj := ht0 
noncomputable def o267 : Obj := ht24 "negated" 40 40
noncomputable def o268 : Obj := ht16 "negated" 534 "negated" 535 536 175 3 263 264 265 266 267 540 541
noncomputable def o269 : Obj := ht25 "negated" 40 40 "basicplus.arith" 444 268
noncomputable def o270 : Obj := ht0 
noncomputable def o271 : Obj := (PySem.Obj.mk PySem.Value.none Option.none (PySem.Data.fields #[]) #[])
noncomputable def o272 : Obj := ht18 "a" 546 "b" 547
noncomputable def o273 : Obj := ht0 
noncomputable def o274 : Obj := ht24 "order_of" 41 41
noncomputable def o275 : Obj := ht16 "order_of" 543 "order_of" 544 545 177 2 270 271 272 273 274 548 549
noncomputable def o276 : Obj := ht25 "order_of" 41 41 "basicplus.arith" 444 275
noncomputable def o277 : Obj := ht0 
noncomputable def o278 : Obj := (PySem.Obj.mk PySem.Value.none Option.none (PySem.Data.fields #[]) #[])
noncomputable def o279 : Obj := ht18 "a" 554 "bits" 555
noncomputable def o280 : Obj := ht0 
noncomputable def o281 : Obj := ht24 "inverted" 42 42
noncomputable def o282 : Obj := ht16 "inverted" 551 "inverted" 552 553 183 2 277 278 279 280 281 556 557
noncomputable def o283 : Obj := ht25 "inverted" 42 42 "basicplus.arith" 444 282
noncomputable def o284 : Obj := ht0 
noncomputable def o285 : Obj := (PySem.Obj.mk PySem.Value.none Option.none (PySem.Data.fields #[]) #[])
noncomputable def o286 : Obj := ht29 "op" 562 "a" 563 "b" 564 "bits" 565 "one" 566 "other" 567
noncomputable def o287 : Obj := ht0 
noncomputable def o288 : Obj := ht24 "logic" 43 43
noncomputable def o289 : Obj := ht16 "logic" 559 "logic" 560 561 185 4 284 285 286 287 288 568 569
noncomputable def o290 : Obj := ht25 "logic" 43 43 "basicplus.arith" 444 289
noncomputable def o3v4 (P : Params) : Obj := hdic (.type "dict") ((hents (o3v3 P)) ++ [(hde P "Control" 605 (PySem.Value.ref 307)), (hde P "put_upon" 613 (PySem.Value.ref 318)), (hde P "floor_of" 621 (PySem.Value.ref 325)), (hde P "found_at" 631 (PySem.Value.ref 332)), (hde P "cut_to" 639 (PySem.Value.ref 339)), (hde P "is_past" 649 (PySem.Value.ref 346))]) 57
noncomputable def o12v5 : Obj := hfld ((hflds o12v4) ++ [(PySem.Value.int 196 0), (PySem.Value.int 0 0), (PySem.Value.ref 296), (PySem.Value.int 202 0), (PySem.Value.int 0 0), (PySem.Value.ref 317), (PySem.Value.int 206 0), (PySem.Value.int 0 0), (PySem.Value.ref 324), (PySem.Value.int 211 0), (PySem.Value.int 0 0), (PySem.Value.ref 331), (PySem.Value.int 216 0), (PySem.Value.int 0 0), (PySem.Value.ref 338), (PySem.Value.int 218 0), (PySem.Value.int 0 0), (PySem.Value.ref 345)])
noncomputable def o291 : Obj := ht0 
noncomputable def o292 : Obj := (PySem.Obj.mk (PySem.Value.type "builtin_function_or_method") Option.none (PySem.Data.fields #[(PySem.Value.builtin "type.__prepare__"), (PySem.Value.type "type")]) #[])
noncomputable def ht40 (P : Params) (a1 : Nat) (a2 : String) (a3 : Nat) (a5 : Nat) (a6 : String) (a7 : Nat) (a9 : Nat) (a10 : Int) (a11 : Nat) (a13 : Nat) (a14 : Nat) (a16 : Nat) (a17 : Nat) : Obj := (PySem.Obj.mk (PySem.Value.type "dict") Option.none (PySem.Data.dict #[(hde P "__module__" a1 (hvs a2 a3)), (hde P "__qualname__" a5 (hvs a6 a7)), (hde P "__firstlineno__" a9 (PySem.Value.int a10 a11)), (hde P "__init__" a13 (PySem.Value.ref a14)), (hde P "__static_attributes__" a16 (PySem.Value.ref a17))] 5) #[])
noncomputable def o293 (P : Params) : Obj := ht40 P 582 "basicplus.control" 571 584 "Control" 583 586 196 585 594 304 598 305
noncomputable def o294 : Obj := ht0 
noncomputable def o295 : Obj := ht11 198 303
noncomputable def o296 : Obj := ht2 "Control" 577 578 579 196 294 295 580 581
noncomputable def o297 : Obj := ht3 296 293 "basicplus.control" 571
noncomputable def o298 : Obj := ht0 
noncomputable def o299 : Obj := (PySem.Obj.mk PySem.Value.none Option.none (PySem.Data.fields #[]) #[])
noncomputable def o300 : Obj := ht18 "self" 590 "most" 591
noncomputable def o301 : Obj := ht0 
noncomputable def o302 : Obj := ht15 "__init__" "Control.__init__" 46 0 0
noncomputable def o303 : Obj := ht16 "__init__" 587 "Control.__init__" 588 589 198 2 298 299 300 301 302 592 593
noncomputable def ht41 (a0 : String) (a1 : String) (a2 : Nat) (a3 : Nat) (a7 : Nat) (a9 : String) (a10 : Nat) (a11 : Nat) : Obj := (PySem.Obj.mk (PySem.Value.type "function") Option.none (PySem.Data.func (PySem.FuncData.mk (Str.ofString a0) (Str.ofString a1) (hA (hmb a2 a3)) (PySem.FuncBody.stmts (hB (hmb a2 a3))) (hS (hmb a2 a7)) 3 [] PySem.Value.none PySem.Value.none PySem.Value.none (hvs a9 a10) Option.none (PySem.Value.ref a11) PySem.Value.none 0)) #[])
noncomputable def o304 : Obj := ht41 "__init__" "Control.__init__" 46 0 0 "basicplus.control" 571 303
noncomputable def o305 : Obj := ht14 "failed_at" 595 "most" 596 "pile" 597
noncomputable def ht42 (P : Params) (a1 : Nat) (a2 : String) (a3 : Nat) (a5 : Nat) (a6 : Int) (a7 : Nat) (a9 : Nat) (a10 : Nat) (a12 : Nat) (a13 : Nat) (a15 : Nat) (a16 : Nat) (a18 : Nat) (a19 : Nat) (a21 : Nat) : Obj := (PySem.Obj.mk (PySem.Value.type "dict") Option.none (PySem.Data.dict #[(hde P "__module__" a1 (hvs a2 a3)), (hde P "__firstlineno__" a5 (PySem.Value.int a6 a7)), (hde P "__init__" a9 (PySem.Value.ref a10)), (hde P "__static_attributes__" a12 (PySem.Value.ref a13)), (hde P "__dict__" a15 (PySem.Value.ref a16)), (hde P "__weakref__" a18 (PySem.Value.ref a19)), (hde P "__doc__" a21 PySem.Value.none)] 4) #[])
noncomputable def o306 (P : Params) : Obj := ht42 P 582 "basicplus.control" 571 586 196 585 594 304 598 305 600 308 602 309 603
noncomputable def ht43 (a0 : String) (a1 : Nat) (a2 : Nat) (a5 : Nat) (a7 : Nat) : Obj := (PySem.Obj.mk (PySem.Value.type "type") Option.none (PySem.Data.cls (PySem.ClassData.mk (Str.ofString a0) [(PySem.Value.type "object")] [(PySem.Value.ref a1), (PySem.Value.type "object")] a2 (Str.ofString a0) Bool.true [] [] Bool.false Option.none Bool.false)) #[Option.none, Option.none, (Option.some (hvs a0 a5)), (Option.some (hvs a0 a7)), (Option.some (PySem.Value.builtin "object.__new__")), (Option.some (PySem.Value.bool Bool.true))])
noncomputable def o307 : Obj := ht43 "Control" 307 306 575 583
noncomputable def ht44 (a1 : Nat) (a2 : Nat) : Obj := (PySem.Obj.mk (PySem.Value.type "getset_descriptor") Option.none (PySem.Data.fields #[(hvs "__dict__" a1), (PySem.Value.ref a2), (PySem.Value.builtin "function.__dict__"), (PySem.Value.builtin "function.__dict__#set")]) #[])
noncomputable def o308 : Obj := ht44 599 307
noncomputable def o309 : Obj := ht21 601 307
noncomputable def o310 : Obj := ht22 307
noncomputable def o311 : Obj := ht23 307
noncomputable def o312 : Obj := ht0 
noncomputable def o313 : Obj := (PySem.Obj.mk PySem.Value.none Option.none (PySem.Data.fields #[]) #[])
noncomputable def o314 : Obj := ht18 "control" 609 "entry" 610
noncomputable def o315 : Obj := ht0 
noncomputable def o316 : Obj := ht24 "put_upon" 47 47
noncomputable def o317 : Obj := ht16 "put_upon" 606 "put_upon" 607 608 202 2 312 313 314 315 316 611 612
noncomputable def o318 : Obj := ht25 "put_upon" 47 47 "basicplus.control" 571 317
noncomputable def o319 : Obj := ht0 
noncomputable def o320 : Obj := (PySem.Obj.mk PySem.Value.none Option.none (PySem.Data.fields #[]) #[])
noncomputable def o321 : Obj := ht18 "pile" 617 "at" 618
noncomputable def o322 : Obj := ht0 
noncomputable def o323 : Obj := ht24 "floor_of" 48 48
noncomputable def o324 : Obj := ht16 "floor_of" 614 "floor_of" 615 616 206 1 319 320 321 322 323 619 620
noncomputable def o325 : Obj := ht25 "floor_of" 48 48 "basicplus.control" 571 324
noncomputable def o326 : Obj := ht0 
noncomputable def o327 : Obj := (PySem.Obj.mk PySem.Value.none Option.none (PySem.Data.fields #[]) #[])
noncomputable def o328 : Obj := ht30 "pile" 625 "kind" 626 "name" 627 "at" 628
noncomputable def o329 : Obj := ht0 
noncomputable def o330 : Obj := ht24 "found_at" 49 49
noncomputable def o331 : Obj := ht16 "found_at" 622 "found_at" 623 624 211 3 326 327 328 329 330 629 630
noncomputable def o332 : Obj := ht25 "found_at" 49 49 "basicplus.control" 571 331
noncomputable def o333 : Obj := ht0 
noncomputable def o334 : Obj := (PySem.Obj.mk PySem.Value.none Option.none (PySem.Data.fields #[]) #[])
noncomputable def o335 : Obj := ht18 "control" 635 "many" 636
noncomputable def o336 : Obj := ht0 
noncomputable def o337 : Obj := ht24 "cut_to" 50 50
noncomputable def o338 : Obj := ht16 "cut_to" 632 "cut_to" 633 634 216 2 333 334 335 336 337 637 638
noncomputable def o339 : Obj := ht25 "cut_to" 50 50 "basicplus.control" 571 338
noncomputable def o340 : Obj := ht0 
noncomputable def o341 : Obj := (PySem.Obj.mk PySem.Value.none Option.none (PySem.Data.fields #[]) #[])
noncomputable def o342 : Obj := ht30 "value" 643 "limit" 644 "step" 645 "order" 646
noncomputable def o343 : Obj := ht0 
noncomputable def o344 : Obj := ht24 "is_past" 51 51
noncomputable def o345 : Obj := ht16 "is_past" 640 "is_past" 641 642 218 4 340 341 342 343 344 647 648
noncomputable def o346 : Obj := ht25 "is_past" 51 51 "basicplus.control" 571 345
noncomputable def o3v5 (P : Params) : Obj := hdic (.type "dict") ((hset (hents (o3v4 P)) 0 (hde P "__name__" 165 (hvs "basicplus.flatten" 735))) ++ [(hde P "for_begin" 661 (PySem.Value.ref 353)), (hde P "for_name" 670 (PySem.Value.ref 360)), (hde P "for_next" 687 (PySem.Value.ref 367)), (hde P "while_begin" 693 (PySem.Value.ref 372)), (hde P "while_end" 699 (PySem.Value.ref 377)), (hde P "wend_place" 709 (PySem.Value.ref 385)), (hde P "gosub" 717 (PySem.Value.ref 392)), (hde P "return_place" 726 (PySem.Value.ref 399)), (hde P "chosen" 734 (PySem.Value.ref 406))]) 66
noncomputable def o12v6 : Obj := hfld ((hflds o12v5) ++ [(PySem.Value.int 220 0), (PySem.Value.int 0 0), (PySem.Value.ref 352), (PySem.Value.int 225 0), (PySem.Value.int 0 0), (PySem.Value.ref 359), (PySem.Value.int 230 0), (PySem.Value.int 0 0), (PySem.Value.ref 366), (PySem.Value.int 241 0), (PySem.Value.int 0 0), (PySem.Value.ref 371), (PySem.Value.int 248 0), (PySem.Value.int 0 0), (PySem.Value.ref 376), (PySem.Value.int 253 0), (PySem.Value.int 0 0), (PySem.Value.ref 384), (PySem.Value.int 259 0), (PySem.Value.int 0 0), (PySem.Value.ref 391), (PySem.Value.int 261 0), (PySem.Value.int 0 0), (PySem.Value.ref 398), (PySem.Value.int 268 0), (PySem.Value.int 0 0), (PySem.Value.ref 405)])
noncomputable def o347 : Obj := ht0 
noncomputable def o348 : Obj := (PySem.Obj.mk PySem.Value.none Option.none (PySem.Data.fields #[]) #[])
noncomputable def o349 : Obj := ht29 "control" 653 "name" 654 "place" 655 "limit" 656 "step" 657 "at" 658
noncomputable def o350 : Obj := ht0 
noncomputable def o351 : Obj := ht24 "for_begin" 52 52
noncomputable def o352 : Obj := ht16 "for_begin" 650 "for_begin" 651 652 220 5 347 348 349 350 351 659 660
noncomputable def o353 : Obj := ht25 "for_begin" 52 52 "basicplus.control" 571 352
noncomputable def o354 : Obj := ht0 
noncomputable def o355 : Obj := (PySem.Obj.mk PySem.Value.none Option.none (PySem.Data.fields #[]) #[])
noncomputable def o356 : Obj := ht14 "control" 665 "name" 666 "at" 667
noncomputable def o357 : Obj := ht0 
noncomputable def o358 : Obj := ht24 "for_name" 53 53
noncomputable def o359 : Obj := ht16 "for_name" 662 "for_name" 663 664 225 2 354 355 356 357 358 668 669
noncomputable def o360 : Obj := ht25 "for_name" 53 53 "basicplus.control" 571 359
noncomputable def o361 : Obj := ht0 
noncomputable def o362 : Obj := (PySem.Obj.mk PySem.Value.none Option.none (PySem.Data.fields #[]) #[])
noncomputable def o363 : Obj := (PySem.Obj.mk (PySem.Value.type "tuple") Option.none (PySem.Data.seq #[(hvs "control" 674), (hvs "name" 675), (hvs "value" 676), (hvs "add" 677), (hvs "order" 678), (hvs "at" 679), (hvs "kind" 680), (hvs "word" 681), (hvs "place" 682), (hvs "limit" 683), (hvs "step" 684)] 0) #[])
noncomputable def o364 : Obj := ht0 
noncomputable def o365 : Obj := ht24 "for_next" 54 54
noncomputable def o366 : Obj := ht16 "for_next" 671 "for_next" 672 673 230 5 361 362 363 364 365 685 686
noncomputable def o367 : Obj := ht25 "for_next" 54 54 "basicplus.control" 571 366
noncomputable def o368 : Obj := ht0 
noncomputable def o369 : Obj := (PySem.Obj.mk PySem.Value.none Option.none (PySem.Data.fields #[]) #[])
noncomputable def o370 : Obj := ht24 "while_begin" 55 55
noncomputable def ht48 (a0 : String) (a1 : Nat) (a3 : Nat) (a5 : Nat) (a6 : Int) (a8 : Int) (a16 : Nat) (a19 : Nat) (a20 : Nat) (a21 : Int) (a26 : Nat) : Obj := (PySem.Obj.mk (PySem.Value.type "code") Option.none (PySem.Data.fields #[(hvs a0 a1), (hvs a0 a3), (hvs "/claim/cut.py" a5), (PySem.Value.int a6 0), (PySem.Value.int a8 0), (PySem.Value.int 0 0), (PySem.Value.int 0 0), (PySem.Value.int 3 0), (PySem.Value.ref a16), (PySem.Value.bool Bool.true), (PySem.Value.int 181 0), (PySem.Value.ref a19), PySem.Value.none, PySem.Value.none, PySem.Value.none, (PySem.Value.ref a20), (PySem.Value.int a21 0), (PySem.Value.int a6 0), (hvs "/claim/cut.py" a26)]) #[])
noncomputable def o371 : Obj := ht48 "while_begin" 688 689 690 241 2 368 369 370 691 692
noncomputable def o372 : Obj := ht25 "while_begin" 55 55 "basicplus.control" 571 371
noncomputable def o373 : Obj := ht0 
noncomputable def o374 : Obj := (PySem.Obj.mk PySem.Value.none Option.none (PySem.Data.fields #[]) #[])
noncomputable def o375 : Obj := ht24 "while_end" 56 56
noncomputable def o376 : Obj := ht48 "while_end" 694 695 696 248 2 373 374 375 697 698
noncomputable def o377 : Obj := ht25 "while_end" 56 56 "basicplus.control" 571 376
noncomputable def o378 : Obj := ht12 "" 700
noncomputable def o379 : Obj := ht0 
noncomputable def o380 : Obj := (PySem.Obj.mk PySem.Value.none Option.none (PySem.Data.fields #[]) #[])
noncomputable def o381 : Obj := ht14 "control" 704 "place" 705 "at" 706
noncomputable def o382 : Obj := ht0 
noncomputable def o383 : Obj := ht24 "wend_place" 57 57
noncomputable def o384 : Obj := ht16 "wend_place" 701 "wend_place" 702 703 253 2 379 380 381 382 383 707 708
noncomputable def o385 : Obj := (PySem.Obj.mk (PySem.Value.type "function") Option.none (PySem.Data.func (PySem.FuncData.mk (Str.ofString "wend_place") (Str.ofString "wend_place") (hA (hst 57)) (PySem.FuncBody.stmts (hB (hst 57))) (hS (hst 57)) 3 [] (PySem.Value.ref 378) PySem.Value.none PySem.Value.none (hvs "basicplus.control" 571) Option.none (PySem.Value.ref 384) PySem.Value.none 0)) #[])
noncomputable def o386 : Obj := ht0 
noncomputable def o387 : Obj := (PySem.Obj.mk PySem.Value.none Option.none (PySem.Data.fields #[]) #[])
noncomputable def o388 : Obj := ht18 "control" 713 "place" 714
noncomputable def o389 : Obj := ht0 
noncomputable def o390 : Obj := ht24 "gosub" 58 58
noncomputable def o391 : Obj := ht16 "gosub" 710 "gosub" 711 712 259 2 386 387 388 389 390 715 716
noncomputable def o392 : Obj := ht25 "gosub" 58 58 "basicplus.control" 571 391
noncomputable def o393 : Obj := ht0 
noncomputable def o394 : Obj := (PySem.Obj.mk PySem.Value.none Option.none (PySem.Data.fields #[]) #[])
noncomputable def o395 : Obj := ht14 "control" 721 "many" 722 "place" 723
noncomputable def o396 : Obj := ht0 
noncomputable def o397 : Obj := ht24 "return_place" 59 59
noncomputable def o398 : Obj := ht16 "return_place" 718 "return_place" 719 720 261 1 393 394 395 396 397 724 725
noncomputable def o399 : Obj := ht25 "return_place" 59 59 "basicplus.control" 571 398
noncomputable def o400 : Obj := ht0 
noncomputable def o401 : Obj := (PySem.Obj.mk PySem.Value.none Option.none (PySem.Data.fields #[]) #[])
noncomputable def o402 : Obj := ht18 "number" 730 "many" 731
noncomputable def o403 : Obj := ht0 
noncomputable def o404 : Obj := ht24 "chosen" 60 60
noncomputable def o405 : Obj := ht16 "chosen" 727 "chosen" 728 729 268 2 400 401 402 403 404 732 733
noncomputable def o406 : Obj := ht25 "chosen" 60 60 "basicplus.control" 571 405
noncomputable def o3v6 (P : Params) : Obj := hdic (.type "dict") ((hents (o3v5 P)) ++ [(hde P "Flat" 769 (PySem.Value.ref 423)), (hde P "put_row_of" 778 (PySem.Value.ref 434)), (hde P "put_if" 789 (PySem.Value.ref 441)), (hde P "put_all" 799 (PySem.Value.ref 448)), (hde P "gather" 815 (PySem.Value.ref 455)), (hde P "join_rows" 825 (PySem.Value.ref 462))]) 72
noncomputable def o12v7 : Obj := hfld ((hflds o12v6) ++ [(PySem.Value.int 273 0), (PySem.Value.int 0 0), (PySem.Value.ref 412), (PySem.Value.int 282 0), (PySem.Value.int 0 0), (PySem.Value.ref 433), (PySem.Value.int 285 0), (PySem.Value.int 0 0), (PySem.Value.ref 440), (PySem.Value.int 295 0), (PySem.Value.int 0 0), (PySem.Value.ref 447), (PySem.Value.int 301 0), (PySem.Value.int 0 0), (PySem.Value.ref 454), (PySem.Value.int 323 0), (PySem.Value.int 0 0), (PySem.Value.ref 461)])
noncomputable def o407 : Obj := ht0 
noncomputable def o408 : Obj := (PySem.Obj.mk (PySem.Value.type "builtin_function_or_method") Option.none (PySem.Data.fields #[(PySem.Value.builtin "type.__prepare__"), (PySem.Value.type "type")]) #[])
noncomputable def o409 (P : Params) : Obj := ht40 P 744 "basicplus.flatten" 735 746 "Flat" 745 748 273 747 755 420 762 421
noncomputable def o410 : Obj := ht0 
noncomputable def o411 : Obj := ht11 275 419
noncomputable def o412 : Obj := ht2 "Flat" 739 740 741 273 410 411 742 743
noncomputable def o413 : Obj := ht3 412 409 "basicplus.flatten" 735
noncomputable def o414 : Obj := ht0 
noncomputable def o415 : Obj := (PySem.Obj.mk PySem.Value.none Option.none (PySem.Data.fields #[]) #[])
noncomputable def o416 : Obj := ht12 "self" 752
noncomputable def o417 : Obj := ht0 
noncomputable def o418 : Obj := ht15 "__init__" "Flat.__init__" 62 0 0
noncomputable def o419 : Obj := ht16 "__init__" 749 "Flat.__init__" 750 751 275 1 414 415 416 417 418 753 754
noncomputable def o420 : Obj := ht41 "__init__" "Flat.__init__" 62 0 0 "basicplus.flatten" 735 419
noncomputable def o421 : Obj := ht29 "data" 756 "fns" 757 "loops" 758 "pairs" 759 "places" 760 "rows" 761
noncomputable def o422 (P : Params) : Obj := ht42 P 744 "basicplus.flatten" 735 748 273 747 755 420 762 421 764 424 766 425 767
noncomputable def o423 : Obj := ht43 "Flat" 423 422 737 745
noncomputable def o424 : Obj := ht44 763 423
noncomputable def o425 : Obj := ht21 765 423
noncomputable def o426 : Obj := ht22 423
noncomputable def o427 : Obj := ht23 423
noncomputable def o428 : Obj := ht0 
noncomputable def o429 : Obj := (PySem.Obj.mk PySem.Value.none Option.none (PySem.Data.fields #[]) #[])
noncomputable def o430 : Obj := ht14 "flat" 773 "line" 774 "statement" 775
noncomputable def o431 : Obj := ht0 
noncomputable def o432 : Obj := ht24 "put_row_of" 63 63
noncomputable def o433 : Obj := ht16 "put_row_of" 770 "put_row_of" 771 772 282 3 428 429 430 431 432 776 777
noncomputable def o434 : Obj := ht25 "put_row_of" 63 63 "basicplus.flatten" 735 433
noncomputable def o435 : Obj := ht0 
noncomputable def o436 : Obj := (PySem.Obj.mk PySem.Value.none Option.none (PySem.Data.fields #[]) #[])
noncomputable def o437 : Obj := ht26 "flat" 782 "line" 783 "statement" 784 "test" 785 "skip" 786
noncomputable def o438 : Obj := ht0 
noncomputable def o439 : Obj := ht24 "put_if" 64 64
noncomputable def o440 : Obj := ht16 "put_if" 779 "put_if" 780 781 285 3 435 436 437 438 439 787 788
noncomputable def o441 : Obj := ht25 "put_if" 64 64 "basicplus.flatten" 735 440
noncomputable def o442 : Obj := ht0 
noncomputable def o443 : Obj := (PySem.Obj.mk PySem.Value.none Option.none (PySem.Data.fields #[]) #[])
noncomputable def o444 : Obj := ht30 "flat" 793 "line" 794 "statements" 795 "statement" 796
noncomputable def o445 : Obj := ht0 
noncomputable def o446 : Obj := ht24 "put_all" 65 65
noncomputable def o447 : Obj := ht16 "put_all" 790 "put_all" 791 792 295 3 442 443 444 445 446 797 798
noncomputable def o448 : Obj := ht25 "put_all" 65 65 "basicplus.flatten" 735 447
noncomputable def o449 : Obj := ht0 
noncomputable def o450 : Obj := (PySem.Obj.mk PySem.Value.none Option.none (PySem.Data.fields #[]) #[])
noncomputable def o451 : Obj := ht37 "flat" 803 "whiles" 804 "fors" 805 "heads" 806 "at" 807 "pair" 808 "line" 809 "statement" 810 "word" 811 "text" 812
noncomputable def o452 : Obj := ht0 
noncomputable def o453 : Obj := ht24 "gather" 66 66
noncomputable def o454 : Obj := ht16 "gather" 800 "gather" 801 802 301 1 449 450 451 452 453 813 814
noncomputable def o455 : Obj := ht25 "gather" 66 66 "basicplus.flatten" 735 454
noncomputable def o456 : Obj := ht0 
noncomputable def o457 : Obj := (PySem.Obj.mk PySem.Value.none Option.none (PySem.Data.fields #[]) #[])
noncomputable def o458 : Obj := ht30 "flat" 819 "open_rows" 820 "at" 821 "begin" 822
noncomputable def o459 : Obj := ht0 
noncomputable def o460 : Obj := ht24 "join_rows" 67 67
noncomputable def o461 : Obj := ht16 "join_rows" 816 "join_rows" 817 818 323 3 456 457 458 459 460 823 824
noncomputable def o462 : Obj := ht25 "join_rows" 67 67 "basicplus.flatten" 735 461
noncomputable def o3v7 (P : Params) : Obj := hdic (.type "dict") ((hset (hents (o3v6 P)) 0 (hde P "__name__" 165 (hvs "basicplus.flow" 879))) ++ [(hde P "end_loops" 836 (PySem.Value.ref 469)), (hde P "flatten" 846 (PySem.Value.ref 476)), (hde P "place_of" 854 (PySem.Value.ref 483)), (hde P "line_of" 862 (PySem.Value.ref 490)), (hde P "end_of_while" 870 (PySem.Value.ref 497)), (hde P "next_of_for" 878 (PySem.Value.ref 504)), (hde P "JUMPS" 887 (PySem.Value.ref 505)), (hde P "do_flow" 896 (PySem.Value.ref 512)), (hde P "do_jump" 910 (PySem.Value.ref 519)), (hde P "do_loop" 920 (PySem.Value.ref 526)), (hde P "do_for" 941 (PySem.Value.ref 533)), (hde P "next_from" 954 (PySem.Value.ref 540))]) 84
noncomputable def o12v8 : Obj := hfld ((hflds o12v7) ++ [(PySem.Value.int 328 0), (PySem.Value.int 0 0), (PySem.Value.ref 468), (PySem.Value.int 332 0), (PySem.Value.int 0 0), (PySem.Value.ref 475), (PySem.Value.int 341 0), (PySem.Value.int 0 0), (PySem.Value.ref 482), (PySem.Value.int 345 0), (PySem.Value.int 0 0), (PySem.Value.ref 489), (PySem.Value.int 347 0), (PySem.Value.int 0 0), (PySem.Value.ref 496), (PySem.Value.int 351 0), (PySem.Value.int 0 0), (PySem.Value.ref 503), (PySem.Value.int 357 0), (PySem.Value.int 0 0), (PySem.Value.ref 511), (PySem.Value.int 359 0), (PySem.Value.int 0 0), (PySem.Value.ref 518), (PySem.Value.int 378 0), (PySem.Value.int 0 0), (PySem.Value.ref 525), (PySem.Value.int 391 0), (PySem.Value.int 0 0), (PySem.Value.ref 532), (PySem.Value.int 405 0), (PySem.Value.int 0 0), (PySem.Value.ref 539)])
noncomputable def o463 : Obj := ht0 
noncomputable def o464 : Obj := (PySem.Obj.mk PySem.Value.none Option.none (PySem.Data.fields #[]) #[])
noncomputable def o465 : Obj := ht26 "flat" 829 "fors" 830 "at" 831 "many" 832 "which" 833
noncomputable def o466 : Obj := ht0 
noncomputable def o467 : Obj := ht24 "end_loops" 68 68
noncomputable def o468 : Obj := ht16 "end_loops" 826 "end_loops" 827 828 328 4 463 464 465 466 467 834 835
noncomputable def o469 : Obj := ht25 "end_loops" 68 68 "basicplus.flatten" 735 468
noncomputable def o470 : Obj := ht0 
noncomputable def o471 : Obj := (PySem.Obj.mk PySem.Value.none Option.none (PySem.Data.fields #[]) #[])
noncomputable def o472 : Obj := ht30 "parsed" 840 "flat" 841 "line" 842 "statements" 843
noncomputable def o473 : Obj := ht0 
noncomputable def o474 : Obj := ht24 "flatten" 69 69
noncomputable def o475 : Obj := ht16 "flatten" 837 "flatten" 838 839 332 1 470 471 472 473 474 844 845
noncomputable def o476 : Obj := ht25 "flatten" 69 69 "basicplus.flatten" 735 475
noncomputable def o477 : Obj := ht0 
noncomputable def o478 : Obj := (PySem.Obj.mk PySem.Value.none Option.none (PySem.Data.fields #[]) #[])
noncomputable def o479 : Obj := ht18 "flat" 850 "line" 851
noncomputable def o480 : Obj := ht0 
noncomputable def o481 : Obj := ht24 "place_of" 70 70
noncomputable def o482 : Obj := ht16 "place_of" 847 "place_of" 848 849 341 2 477 478 479 480 481 852 853
noncomputable def o483 : Obj := ht25 "place_of" 70 70 "basicplus.flatten" 735 482
noncomputable def o484 : Obj := ht0 
noncomputable def o485 : Obj := (PySem.Obj.mk PySem.Value.none Option.none (PySem.Data.fields #[]) #[])
noncomputable def o486 : Obj := ht18 "flat" 858 "row" 859
noncomputable def o487 : Obj := ht0 
noncomputable def o488 : Obj := ht24 "line_of" 71 71
noncomputable def o489 : Obj := ht16 "line_of" 855 "line_of" 856 857 345 2 484 485 486 487 488 860 861
noncomputable def o490 : Obj := ht25 "line_of" 71 71 "basicplus.flatten" 735 489
noncomputable def o491 : Obj := ht0 
noncomputable def o492 : Obj := (PySem.Obj.mk PySem.Value.none Option.none (PySem.Data.fields #[]) #[])
noncomputable def o493 : Obj := ht18 "flat" 866 "row" 867
noncomputable def o494 : Obj := ht0 
noncomputable def o495 : Obj := ht24 "end_of_while" 72 73
noncomputable def o496 : Obj := ht16 "end_of_while" 863 "end_of_while" 864 865 347 2 491 492 493 494 495 868 869
noncomputable def o497 : Obj := ht25 "end_of_while" 72 73 "basicplus.flatten" 735 496
noncomputable def o498 : Obj := ht0 
noncomputable def o499 : Obj := (PySem.Obj.mk PySem.Value.none Option.none (PySem.Data.fields #[]) #[])
noncomputable def o500 : Obj := ht18 "flat" 874 "row" 875
noncomputable def o501 : Obj := ht0 
noncomputable def o502 : Obj := ht24 "next_of_for" 73 73
noncomputable def o503 : Obj := ht16 "next_of_for" 871 "next_of_for" 872 873 351 2 498 499 500 501 502 876 877
noncomputable def o504 : Obj := ht25 "next_of_for" 73 73 "basicplus.flatten" 735 503
noncomputable def o505 : Obj := ht29 "IFNOT" 881 "JUMP" 882 "GOTO" 883 "GOSUB" 884 "ONGO" 885 "RETURN" 886
noncomputable def o506 : Obj := ht0 
noncomputable def o507 : Obj := (PySem.Obj.mk PySem.Value.none Option.none (PySem.Data.fields #[]) #[])
noncomputable def o508 : Obj := ht14 "run" 891 "at" 892 "statement" 893
noncomputable def o509 : Obj := ht0 
noncomputable def o510 : Obj := ht24 "do_flow" 76 76
noncomputable def o511 : Obj := ht16 "do_flow" 888 "do_flow" 889 890 357 3 506 507 508 509 510 894 895
noncomputable def o512 : Obj := ht25 "do_flow" 76 76 "basicplus.flow" 879 511
noncomputable def o513 : Obj := ht0 
noncomputable def o514 : Obj := (PySem.Obj.mk PySem.Value.none Option.none (PySem.Data.fields #[]) #[])
noncomputable def o515 : Obj := ht34 "run" 900 "at" 901 "statement" 902 "word" 903 "place" 904 "line" 905 "which" 906 "goal" 907
noncomputable def o516 : Obj := ht0 
noncomputable def o517 : Obj := ht24 "do_jump" 77 77
noncomputable def o518 : Obj := ht16 "do_jump" 897 "do_jump" 898 899 359 3 513 514 515 516 517 908 909
noncomputable def o519 : Obj := ht25 "do_jump" 77 77 "basicplus.flow" 879 518
noncomputable def o520 : Obj := ht0 
noncomputable def o521 : Obj := (PySem.Obj.mk PySem.Value.none Option.none (PySem.Data.fields #[]) #[])
noncomputable def o522 : Obj := ht30 "run" 914 "at" 915 "statement" 916 "word" 917
noncomputable def o523 : Obj := ht0 
noncomputable def o524 : Obj := ht24 "do_loop" 78 78
noncomputable def o525 : Obj := ht16 "do_loop" 911 "do_loop" 912 913 378 3 520 521 522 523 524 918 919
noncomputable def o526 : Obj := ht25 "do_loop" 78 78 "basicplus.flow" 879 525
noncomputable def o527 : Obj := ht0 
noncomputable def o528 : Obj := (PySem.Obj.mk PySem.Value.none Option.none (PySem.Data.fields #[]) #[])
noncomputable def o529 : Obj := (PySem.Obj.mk (PySem.Value.type "tuple") Option.none (PySem.Data.seq #[(hvs "run" 924), (hvs "at" 925), (hvs "statement" 926), (hvs "word" 927), (hvs "name" 928), (hvs "first" 929), (hvs "last" 930), (hvs "stride" 931), (hvs "begin" 932), (hvs "limit" 933), (hvs "step" 934), (hvs "value" 935), (hvs "row" 936), (hvs "which" 937), (hvs "names" 938)] 0) #[])
noncomputable def o530 : Obj := ht0 
noncomputable def o531 : Obj := ht24 "do_for" 79 79
noncomputable def o532 : Obj := ht16 "do_for" 921 "do_for" 922 923 391 3 527 528 529 530 531 939 940
noncomputable def o533 : Obj := ht25 "do_for" 79 79 "basicplus.flow" 879 532
noncomputable def o534 : Obj := ht0 
noncomputable def o535 : Obj := (PySem.Obj.mk PySem.Value.none Option.none (PySem.Data.fields #[]) #[])
noncomputable def ht55 (a0 : String) (a1 : Nat) (a2 : String) (a3 : Nat) (a4 : String) (a5 : Nat) (a6 : String) (a7 : Nat) (a8 : String) (a9 : Nat) (a10 : String) (a11 : Nat) (a12 : String) (a13 : Nat) : Obj := (PySem.Obj.mk (PySem.Value.type "tuple") Option.none (PySem.Data.seq #[(hvs a0 a1), (hvs a2 a3), (hvs a4 a5), (hvs a6 a7), (hvs a8 a9), (hvs a10 a11), (hvs a12 a13)] 0) #[])
noncomputable def o536 : Obj := ht55 "run" 945 "at" 946 "names" 947 "told" 948 "name" 949 "value" 950 "place" 951
noncomputable def o537 : Obj := ht0 
noncomputable def o538 : Obj := ht24 "next_from" 80 80
noncomputable def o539 : Obj := ht16 "next_from" 942 "next_from" 943 944 405 3 534 535 536 537 538 952 953
noncomputable def o540 : Obj := ht25 "next_from" 80 80 "basicplus.flow" 879 539
noncomputable def o3v8 (P : Params) : Obj := hdic (.type "dict") ((hents (o3v7 P)) ++ [(hde P "FlowRun" 1047 (PySem.Value.ref 599))]) 85
noncomputable def o12v9 : Obj := hfld ((hflds o12v8) ++ [(PySem.Value.int 413 0), (PySem.Value.int 0 0), (PySem.Value.ref 546)])
noncomputable def o541 : Obj := ht0 
noncomputable def o542 : Obj := (PySem.Obj.mk (PySem.Value.type "builtin_function_or_method") Option.none (PySem.Data.fields #[(PySem.Value.builtin "type.__prepare__"), (PySem.Value.type "type")]) #[])
noncomputable def o543 (P : Params) : Obj := (PySem.Obj.mk (PySem.Value.type "dict") Option.none (PySem.Data.dict #[(hde P "__module__" 962 (hvs "basicplus.flow" 879)), (hde P "__qualname__" 964 (hvs "FlowRun" 963)), (hde P "__firstlineno__" 966 (PySem.Value.int 413 965)), (hde P "__init__" 978 (PySem.Value.ref 554)), (hde P "worth" 987 (PySem.Value.ref 561)), (hde P "whole" 995 (PySem.Value.ref 568)), (hde P "value_of_name" 1003 (PySem.Value.ref 575)), (hde P "store" 1012 (PySem.Value.ref 582)), (hde P "plus" 1021 (PySem.Value.ref 589)), (hde P "go" 1032 (PySem.Value.ref 596)), (hde P "__static_attributes__" 1040 (PySem.Value.ref 597))] 11) #[])
noncomputable def o544 : Obj := ht0 
noncomputable def o545 : Obj := (PySem.Obj.mk PySem.Value.none Option.none (PySem.Data.fields #[(PySem.Value.int 415 0), (PySem.Value.int 4 0), (PySem.Value.ref 553), (PySem.Value.int 424 0), (PySem.Value.int 4 0), (PySem.Value.ref 560), (PySem.Value.int 428 0), (PySem.Value.int 4 0), (PySem.Value.ref 567), (PySem.Value.int 431 0), (PySem.Value.int 4 0), (PySem.Value.ref 574), (PySem.Value.int 434 0), (PySem.Value.int 4 0), (PySem.Value.ref 581), (PySem.Value.int 437 0), (PySem.Value.int 4 0), (PySem.Value.ref 588), (PySem.Value.int 440 0), (PySem.Value.int 4 0), (PySem.Value.ref 595)]) #[])
noncomputable def o546 : Obj := ht2 "FlowRun" 957 958 959 413 544 545 960 961
noncomputable def o547 : Obj := ht3 546 543 "basicplus.flow" 879
noncomputable def o548 : Obj := ht0 
noncomputable def o549 : Obj := (PySem.Obj.mk PySem.Value.none Option.none (PySem.Data.fields #[]) #[])
noncomputable def o550 : Obj := ht29 "self" 970 "flat" 971 "values" 972 "worth_of" 973 "bits" 974 "digits" 975
noncomputable def o551 : Obj := ht0 
noncomputable def o552 : Obj := ht15 "__init__" "FlowRun.__init__" 81 0 0
noncomputable def o553 : Obj := ht16 "__init__" 967 "FlowRun.__init__" 968 969 415 6 548 549 550 551 552 976 977
noncomputable def o554 : Obj := ht41 "__init__" "FlowRun.__init__" 81 0 0 "basicplus.flow" 879 553
noncomputable def o555 : Obj := ht0 
noncomputable def o556 : Obj := (PySem.Obj.mk PySem.Value.none Option.none (PySem.Data.fields #[]) #[])
noncomputable def o557 : Obj := ht14 "self" 982 "tree" 983 "given_worth" 984
noncomputable def o558 : Obj := ht0 
noncomputable def o559 : Obj := ht15 "worth" "FlowRun.worth" 81 1 1
noncomputable def o560 : Obj := ht16 "worth" 979 "FlowRun.worth" 980 981 424 2 555 556 557 558 559 985 986
noncomputable def o561 : Obj := ht41 "worth" "FlowRun.worth" 81 1 1 "basicplus.flow" 879 560
noncomputable def o562 : Obj := ht0 
noncomputable def o563 : Obj := (PySem.Obj.mk PySem.Value.none Option.none (PySem.Data.fields #[]) #[])
noncomputable def o564 : Obj := ht18 "self" 991 "tree" 992
noncomputable def o565 : Obj := ht0 
noncomputable def o566 : Obj := ht15 "whole" "FlowRun.whole" 81 2 2
noncomputable def o567 : Obj := ht16 "whole" 988 "FlowRun.whole" 989 990 428 2 562 563 564 565 566 993 994
noncomputable def o568 : Obj := ht41 "whole" "FlowRun.whole" 81 2 2 "basicplus.flow" 879 567
noncomputable def o569 : Obj := ht0 
noncomputable def o570 : Obj := (PySem.Obj.mk PySem.Value.none Option.none (PySem.Data.fields #[]) #[])
noncomputable def o571 : Obj := ht18 "self" 999 "name" 1000
noncomputable def o572 : Obj := ht0 
noncomputable def o573 : Obj := ht15 "value_of_name" "FlowRun.value_of_name" 81 3 3
noncomputable def o574 : Obj := ht16 "value_of_name" 996 "FlowRun.value_of_name" 997 998 431 2 569 570 571 572 573 1001 1002
noncomputable def o575 : Obj := ht41 "value_of_name" "FlowRun.value_of_name" 81 3 3 "basicplus.flow" 879 574
noncomputable def o576 : Obj := ht0 
noncomputable def o577 : Obj := (PySem.Obj.mk PySem.Value.none Option.none (PySem.Data.fields #[]) #[])
noncomputable def o578 : Obj := ht14 "self" 1007 "name" 1008 "value" 1009
noncomputable def o579 : Obj := ht0 
noncomputable def o580 : Obj := ht15 "store" "FlowRun.store" 81 4 4
noncomputable def o581 : Obj := ht16 "store" 1004 "FlowRun.store" 1005 1006 434 3 576 577 578 579 580 1010 1011
noncomputable def o582 : Obj := ht41 "store" "FlowRun.store" 81 4 4 "basicplus.flow" 879 581
noncomputable def o583 : Obj := ht0 
noncomputable def o584 : Obj := (PySem.Obj.mk PySem.Value.none Option.none (PySem.Data.fields #[]) #[])
noncomputable def o585 : Obj := ht14 "self" 1016 "value" 1017 "step" 1018
noncomputable def o586 : Obj := ht0 
noncomputable def o587 : Obj := ht15 "plus" "FlowRun.plus" 81 5 5
noncomputable def o588 : Obj := ht16 "plus" 1013 "FlowRun.plus" 1014 1015 437 3 583 584 585 586 587 1019 1020
noncomputable def o589 : Obj := ht41 "plus" "FlowRun.plus" 81 5 5 "basicplus.flow" 879 588
noncomputable def o590 : Obj := ht0 
noncomputable def o591 : Obj := (PySem.Obj.mk PySem.Value.none Option.none (PySem.Data.fields #[]) #[])
noncomputable def o592 : Obj := ht26 "self" 1025 "at" 1026 "most" 1027 "turn" 1028 "statement" 1029
noncomputable def o593 : Obj := ht0 
noncomputable def o594 : Obj := ht15 "go" "FlowRun.go" 81 6 6
noncomputable def o595 : Obj := ht16 "go" 1022 "FlowRun.go" 1023 1024 440 3 590 591 592 593 594 1030 1031
noncomputable def o596 : Obj := ht41 "go" "FlowRun.go" 81 6 6 "basicplus.flow" 879 595
noncomputable def o597 : Obj := ht55 "bits" 1033 "control" 1034 "digits" 1035 "flat" 1036 "notes" 1037 "values" 1038 "worth_of" 1039
noncomputable def o598 (P : Params) : Obj := (PySem.Obj.mk (PySem.Value.type "dict") Option.none (PySem.Data.dict #[(hde P "__module__" 962 (hvs "basicplus.flow" 879)), (hde P "__firstlineno__" 966 (PySem.Value.int 413 965)), (hde P "__init__" 978 (PySem.Value.ref 554)), (hde P "worth" 987 (PySem.Value.ref 561)), (hde P "whole" 995 (PySem.Value.ref 568)), (hde P "value_of_name" 1003 (PySem.Value.ref 575)), (hde P "store" 1012 (PySem.Value.ref 582)), (hde P "plus" 1021 (PySem.Value.ref 589)), (hde P "go" 1032 (PySem.Value.ref 596)), (hde P "__static_attributes__" 1040 (PySem.Value.ref 597)), (hde P "__dict__" 1042 (PySem.Value.ref 600)), (hde P "__weakref__" 1044 (PySem.Value.ref 601)), (hde P "__doc__" 1045 PySem.Value.none)] 4) #[])
noncomputable def o599 : Obj := ht43 "FlowRun" 599 598 955 963
noncomputable def o600 : Obj := ht44 1041 599
noncomputable def o601 : Obj := ht21 1043 599
noncomputable def o602 : Obj := ht22 599
noncomputable def o603 : Obj := ht23 599
noncomputable def o3v9 (P : Params) : Obj := (PySem.Obj.mk (PySem.Value.type "dict") Option.none (PySem.Data.dict #[(hde P "__name__" 165 (hvs "basicplus.hooks" 1048)), (hde P "__doc__" 166 PySem.Value.none), (hde P "__package__" 167 PySem.Value.none), (hde P "__loader__" 168 (PySem.Value.builtin "__main__.__loader__#opaque")), (hde P "__spec__" 169 PySem.Value.none), (hde P "__annotations__" 170 (PySem.Value.ref 6)), (hde P "__builtins__" 171 (PySem.Value.ref 4)), (hde P "__file__" 173 (hvs "/claim/cut.py" 172)), (hde P "__cached__" 174 PySem.Value.none), (hde P "MOST_TEXT" 190 (PySem.Value.int 255 189)), (hde P "MOST_EXPONENT" 192 (PySem.Value.int 99 191)), (hde P "BasicError" 226 (PySem.Value.ref 34)), (hde P "kind_of" 233 (PySem.Value.ref 44)), (hde P "figures_of" 242 (PySem.Value.ref 51)), (hde P "rounded_by" 253 (PySem.Value.ref 58)), (hde P "made" 265 (PySem.Value.ref 65)), (hde P "whole_near" 275 (PySem.Value.ref 72)), (hde P "fits" 283 (PySem.Value.ref 79)), (hde P "whole_of" 292 (PySem.Value.ref 86)), (hde P "decimal_of" 300 (PySem.Value.ref 93)), (hde P "checked_text" 307 (PySem.Value.ref 100)), (hde P "is_nought" 314 (PySem.Value.ref 107)), (hde P "is_true" 321 (PySem.Value.ref 114)), (hde P "truth" 328 (PySem.Value.ref 121)), (hde P "sign_of" 336 (PySem.Value.ref 128)), (hde P "ONE" 341 (PySem.Value.ref 129)), (hde P "MOST_POWER" 343 (PySem.Value.int 9999 342)), (hde P "d_negated" 350 (PySem.Value.ref 136)), (hde P "alike" 359 (PySem.Value.ref 143)), (hde P "d_add" 371 (PySem.Value.ref 150)), (hde P "d_sub" 380 (PySem.Value.ref 157)), (hde P "d_mul" 389 (PySem.Value.ref 164)), (hde P "with_rest" 398 (PySem.Value.ref 171)), (hde P "d_div" 412 (PySem.Value.ref 178)), (hde P "d_compare" 423 (PySem.Value.ref 185)), (hde P "d_power" 435 (PySem.Value.ref 192)), (hde P "square_or_end" 443 (PySem.Value.ref 199)), (hde P "is_whole" 452 (PySem.Value.ref 206)), (hde P "settled" 461 (PySem.Value.ref 213)), (hde P "whole_reckoned" 472 (PySem.Value.ref 220)), (hde P "cut_quotient" 481 (PySem.Value.ref 227)), (hde P "cut_rest" 489 (PySem.Value.ref 234)), (hde P "exponent_of" 496 (PySem.Value.ref 241)), (hde P "whole_power" 506 (PySem.Value.ref 248)), (hde P "raised" 517 (PySem.Value.ref 255)), (hde P "reckoned" 533 (PySem.Value.ref 262)), (hde P "negated" 542 (PySem.Value.ref 269)), (hde P "order_of" 550 (PySem.Value.ref 276)), (hde P "inverted" 558 (PySem.Value.ref 283)), (hde P "logic" 570 (PySem.Value.ref 290)), (hde P "MOST_NUMBER" 574 (PySem.Value.int 255 573)), (hde P "Control" 605 (PySem.Value.ref 307)), (hde P "put_upon" 613 (PySem.Value.ref 318)), (hde P "floor_of" 621 (PySem.Value.ref 325)), (hde P "found_at" 631 (PySem.Value.ref 332)), (hde P "cut_to" 639 (PySem.Value.ref 339)), (hde P "is_past" 649 (PySem.Value.ref 346)), (hde P "for_begin" 661 (PySem.Value.ref 353)), (hde P "for_name" 670 (PySem.Value.ref 360)), (hde P "for_next" 687 (PySem.Value.ref 367)), (hde P "while_begin" 693 (PySem.Value.ref 372)), (hde P "while_end" 699 (PySem.Value.ref 377)), (hde P "wend_place" 709 (PySem.Value.ref 385)), (hde P "gosub" 717 (PySem.Value.ref 392)), (hde P "return_place" 726 (PySem.Value.ref 399)), (hde P "chosen" 734 (PySem.Value.ref 406)), (hde P "Flat" 769 (PySem.Value.ref 423)), (hde P "put_row_of" 778 (PySem.Value.ref 434)), (hde P "put_if" 789 (PySem.Value.ref 441)), (hde P "put_all" 799 (PySem.Value.ref 448)), (hde P "gather" 815 (PySem.Value.ref 455)), (hde P "join_rows" 825 (PySem.Value.ref 462)), (hde P "end_loops" 836 (PySem.Value.ref 469)), (hde P "flatten" 846 (PySem.Value.ref 476)), (hde P "place_of" 854 (PySem.Value.ref 483)), (hde P "line_of" 862 (PySem.Value.ref 490)), (hde P "end_of_while" 870 (PySem.Value.ref 497)), (hde P "next_of_for" 878 (PySem.Value.ref 504)), (hde P "JUMPS" 887 (PySem.Value.ref 505)), (hde P "do_flow" 896 (PySem.Value.ref 512)), (hde P "do_jump" 910 (PySem.Value.ref 519)), (hde P "do_loop" 920 (PySem.Value.ref 526)), (hde P "do_for" 941 (PySem.Value.ref 533)), (hde P "next_from" 954 (PySem.Value.ref 540)), (hde P "FlowRun" 1047 (PySem.Value.ref 599))] 85) #[])
noncomputable def o3v10 (P : Params) : Obj := hdic (.type "dict") ((hents (o3v9 P)) ++ [(hde P "PlainHooks" 1129 (PySem.Value.ref 655))]) 86
noncomputable def o12v10 : Obj := hfld ((hflds o12v9) ++ [(PySem.Value.int 457 0), (PySem.Value.int 0 0), (PySem.Value.ref 609)])
noncomputable def o604 : Obj := ht0 
noncomputable def o605 : Obj := (PySem.Obj.mk (PySem.Value.type "builtin_function_or_method") Option.none (PySem.Data.fields #[(PySem.Value.builtin "type.__prepare__"), (PySem.Value.type "type")]) #[])
noncomputable def o606 (P : Params) : Obj := (PySem.Obj.mk (PySem.Value.type "dict") Option.none (PySem.Data.dict #[(hde P "__module__" 1057 (hvs "basicplus.hooks" 1048)), (hde P "__qualname__" 1059 (hvs "PlainHooks" 1058)), (hde P "__firstlineno__" 1061 (PySem.Value.int 457 1060)), (hde P "__init__" 1071 (PySem.Value.ref 617)), (hde P "value_of_name" 1079 (PySem.Value.ref 624)), (hde P "told" 1090 (PySem.Value.ref 631)), (hde P "item_of" 1099 (PySem.Value.ref 638)), (hde P "call" 1108 (PySem.Value.ref 645)), (hde P "fn" 1117 (PySem.Value.ref 652)), (hde P "__static_attributes__" 1122 (PySem.Value.ref 653))] 10) #[])
noncomputable def o607 : Obj := ht0 
noncomputable def o608 : Obj := (PySem.Obj.mk PySem.Value.none Option.none (PySem.Data.fields #[(PySem.Value.int 459 0), (PySem.Value.int 4 0), (PySem.Value.ref 616), (PySem.Value.int 465 0), (PySem.Value.int 4 0), (PySem.Value.ref 623), (PySem.Value.int 471 0), (PySem.Value.int 4 0), (PySem.Value.ref 630), (PySem.Value.int 478 0), (PySem.Value.int 4 0), (PySem.Value.ref 637), (PySem.Value.int 481 0), (PySem.Value.int 4 0), (PySem.Value.ref 644), (PySem.Value.int 484 0), (PySem.Value.int 4 0), (PySem.Value.ref 651)]) #[])
noncomputable def o609 : Obj := ht2 "PlainHooks" 1052 1053 1054 457 607 608 1055 1056
noncomputable def o610 : Obj := ht3 609 606 "basicplus.hooks" 1048
noncomputable def o611 : Obj := ht0 
noncomputable def o612 : Obj := (PySem.Obj.mk PySem.Value.none Option.none (PySem.Data.fields #[]) #[])
noncomputable def o613 : Obj := ht30 "self" 1065 "values" 1066 "bits" 1067 "digits" 1068
noncomputable def o614 : Obj := ht0 
noncomputable def o615 : Obj := ht15 "__init__" "PlainHooks.__init__" 83 0 0
noncomputable def o616 : Obj := ht16 "__init__" 1062 "PlainHooks.__init__" 1063 1064 459 4 611 612 613 614 615 1069 1070
noncomputable def o617 : Obj := ht41 "__init__" "PlainHooks.__init__" 83 0 0 "basicplus.hooks" 1048 616
noncomputable def o618 : Obj := ht0 
noncomputable def o619 : Obj := (PySem.Obj.mk PySem.Value.none Option.none (PySem.Data.fields #[]) #[])
noncomputable def o620 : Obj := ht18 "self" 1075 "word" 1076
noncomputable def o621 : Obj := ht0 
noncomputable def o622 : Obj := ht15 "value_of_name" "PlainHooks.value_of_name" 83 1 1
noncomputable def o623 : Obj := ht16 "value_of_name" 1072 "PlainHooks.value_of_name" 1073 1074 465 2 618 619 620 621 622 1077 1078
noncomputable def o624 : Obj := ht41 "value_of_name" "PlainHooks.value_of_name" 83 1 1 "basicplus.hooks" 1048 623
noncomputable def o625 : Obj := ht0 
noncomputable def o626 : Obj := (PySem.Obj.mk PySem.Value.none Option.none (PySem.Data.fields #[]) #[])
noncomputable def o627 : Obj := ht26 "self" 1083 "word" 1084 "args" 1085 "code" 1086 "key" 1087
noncomputable def o628 : Obj := ht0 
noncomputable def o629 : Obj := ht15 "told" "PlainHooks.told" 83 2 2
noncomputable def o630 : Obj := ht16 "told" 1080 "PlainHooks.told" 1081 1082 471 4 625 626 627 628 629 1088 1089
noncomputable def o631 : Obj := ht41 "told" "PlainHooks.told" 83 2 2 "basicplus.hooks" 1048 630
noncomputable def o632 : Obj := ht0 
noncomputable def o633 : Obj := (PySem.Obj.mk PySem.Value.none Option.none (PySem.Data.fields #[]) #[])
noncomputable def o634 : Obj := ht14 "self" 1094 "word" 1095 "subs" 1096
noncomputable def o635 : Obj := ht0 
noncomputable def o636 : Obj := ht15 "item_of" "PlainHooks.item_of" 83 3 3
noncomputable def o637 : Obj := ht16 "item_of" 1091 "PlainHooks.item_of" 1092 1093 478 3 632 633 634 635 636 1097 1098
noncomputable def o638 : Obj := ht41 "item_of" "PlainHooks.item_of" 83 3 3 "basicplus.hooks" 1048 637
noncomputable def o639 : Obj := ht0 
noncomputable def o640 : Obj := (PySem.Obj.mk PySem.Value.none Option.none (PySem.Data.fields #[]) #[])
noncomputable def o641 : Obj := ht14 "self" 1103 "word" 1104 "args" 1105
noncomputable def o642 : Obj := ht0 
noncomputable def o643 : Obj := ht15 "call" "PlainHooks.call" 83 4 5
noncomputable def o644 : Obj := ht16 "call" 1100 "PlainHooks.call" 1101 1102 481 3 639 640 641 642 643 1106 1107
noncomputable def o645 : Obj := ht41 "call" "PlainHooks.call" 83 4 5 "basicplus.hooks" 1048 644
noncomputable def o646 : Obj := ht0 
noncomputable def o647 : Obj := (PySem.Obj.mk PySem.Value.none Option.none (PySem.Data.fields #[]) #[])
noncomputable def o648 : Obj := ht14 "self" 1112 "word" 1113 "args" 1114
noncomputable def o649 : Obj := ht0 
noncomputable def o650 : Obj := ht15 "fn" "PlainHooks.fn" 83 5 5
noncomputable def o651 : Obj := ht16 "fn" 1109 "PlainHooks.fn" 1110 1111 484 3 646 647 648 649 650 1115 1116
noncomputable def o652 : Obj := ht41 "fn" "PlainHooks.fn" 83 5 5 "basicplus.hooks" 1048 651
noncomputable def o653 : Obj := ht30 "asked" 1118 "bits" 1119 "digits" 1120 "values" 1121
noncomputable def o654 (P : Params) : Obj := (PySem.Obj.mk (PySem.Value.type "dict") Option.none (PySem.Data.dict #[(hde P "__module__" 1057 (hvs "basicplus.hooks" 1048)), (hde P "__firstlineno__" 1061 (PySem.Value.int 457 1060)), (hde P "__init__" 1071 (PySem.Value.ref 617)), (hde P "value_of_name" 1079 (PySem.Value.ref 624)), (hde P "told" 1090 (PySem.Value.ref 631)), (hde P "item_of" 1099 (PySem.Value.ref 638)), (hde P "call" 1108 (PySem.Value.ref 645)), (hde P "fn" 1117 (PySem.Value.ref 652)), (hde P "__static_attributes__" 1122 (PySem.Value.ref 653)), (hde P "__dict__" 1124 (PySem.Value.ref 656)), (hde P "__weakref__" 1126 (PySem.Value.ref 657)), (hde P "__doc__" 1127 PySem.Value.none)] 4) #[])
noncomputable def o655 : Obj := ht43 "PlainHooks" 655 654 1050 1058
noncomputable def o656 : Obj := ht44 1123 655
noncomputable def o657 : Obj := ht21 1125 655
noncomputable def o658 : Obj := ht22 655
noncomputable def o659 : Obj := ht23 655
noncomputable def o3v11 (P : Params) : Obj := hdic (.type "dict") ((hset (hents (o3v10 P)) 0 (hde P "__name__" 165 (hvs "law_xm0046_02" 1222))) ++ [(hde P "parts_of_tree" 1138 (PySem.Value.ref 666)), (hde P "LOGIC" 1146 (PySem.Value.ref 667)), (hde P "COMPARISONS" 1153 (PySem.Value.ref 668)), (hde P "order_of_texts" 1161 (PySem.Value.ref 675)), (hde P "compared" 1169 (PySem.Value.ref 682)), (hde P "worth_of_texts" 1178 (PySem.Value.ref 689)), (hde P "worth_of_two" 1184 (PySem.Value.ref 694)), (hde P "worth_of_one" 1194 (PySem.Value.ref 701)), (hde P "worth_of_leaf" 1205 (PySem.Value.ref 708)), (hde P "worth_of_tree" 1215 (PySem.Value.ref 715)), (hde P "worth" 1221 (PySem.Value.ref 720)), (hde P "_law_got" 1232 (PySem.Value.ref 727)), (hde P "_law_leaf" 1240 (PySem.Value.ref 734))]) 99
noncomputable def o12v11 : Obj := hfld ((hflds o12v10) ++ [(PySem.Value.int 487 0), (PySem.Value.int 0 0), (PySem.Value.ref 665), (PySem.Value.int 496 0), (PySem.Value.int 0 0), (PySem.Value.ref 674), (PySem.Value.int 498 0), (PySem.Value.int 0 0), (PySem.Value.ref 681), (PySem.Value.int 504 0), (PySem.Value.int 0 0), (PySem.Value.ref 688), (PySem.Value.int 510 0), (PySem.Value.int 0 0), (PySem.Value.ref 693), (PySem.Value.int 521 0), (PySem.Value.int 0 0), (PySem.Value.ref 700), (PySem.Value.int 525 0), (PySem.Value.int 0 0), (PySem.Value.ref 707), (PySem.Value.int 530 0), (PySem.Value.int 0 0), (PySem.Value.ref 714), (PySem.Value.int 543 0), (PySem.Value.int 0 0), (PySem.Value.ref 719), (PySem.Value.int 557 0), (PySem.Value.int 0 0), (PySem.Value.ref 726), (PySem.Value.int 561 0), (PySem.Value.int 0 0), (PySem.Value.ref 733)])
noncomputable def o660 : Obj := ht0 
noncomputable def o661 : Obj := (PySem.Obj.mk PySem.Value.none Option.none (PySem.Data.fields #[]) #[])
noncomputable def o662 : Obj := ht12 "tree" 1135
noncomputable def o663 : Obj := ht0 
noncomputable def o664 : Obj := ht24 "parts_of_tree" 85 85
noncomputable def o665 : Obj := ht16 "parts_of_tree" 1132 "parts_of_tree" 1133 1134 487 1 660 661 662 663 664 1136 1137
noncomputable def o666 : Obj := ht25 "parts_of_tree" 85 85 "basicplus.exprread" 1130 665
noncomputable def o667 : Obj := ht26 "AND" 1141 "OR" 1142 "XOR" 1143 "EQV" 1144 "IMP" 1145
noncomputable def o668 : Obj := ht29 "=" 1147 "<>" 1148 "<" 1149 ">" 1150 "<=" 1151 ">=" 1152
noncomputable def o669 : Obj := ht0 
noncomputable def o670 : Obj := (PySem.Obj.mk PySem.Value.none Option.none (PySem.Data.fields #[]) #[])
noncomputable def o671 : Obj := ht18 "one" 1157 "other" 1158
noncomputable def o672 : Obj := ht0 
noncomputable def o673 : Obj := ht24 "order_of_texts" 89 89
noncomputable def o674 : Obj := ht16 "order_of_texts" 1154 "order_of_texts" 1155 1156 496 2 669 670 671 672 673 1159 1160
noncomputable def o675 : Obj := ht25 "order_of_texts" 89 89 "basicplus.worth" 1139 674
noncomputable def o676 : Obj := ht0 
noncomputable def o677 : Obj := (PySem.Obj.mk PySem.Value.none Option.none (PySem.Data.fields #[]) #[])
noncomputable def o678 : Obj := ht18 "op" 1165 "order" 1166
noncomputable def o679 : Obj := ht0 
noncomputable def o680 : Obj := ht24 "compared" 90 90
noncomputable def o681 : Obj := ht16 "compared" 1162 "compared" 1163 1164 498 2 676 677 678 679 680 1167 1168
noncomputable def o682 : Obj := ht25 "compared" 90 90 "basicplus.worth" 1139 681
noncomputable def o683 : Obj := ht0 
noncomputable def o684 : Obj := (PySem.Obj.mk PySem.Value.none Option.none (PySem.Data.fields #[]) #[])
noncomputable def o685 : Obj := ht14 "op" 1173 "one" 1174 "other" 1175
noncomputable def o686 : Obj := ht0 
noncomputable def o687 : Obj := ht24 "worth_of_texts" 91 91
noncomputable def o688 : Obj := ht16 "worth_of_texts" 1170 "worth_of_texts" 1171 1172 504 3 683 684 685 686 687 1176 1177
noncomputable def o689 : Obj := ht25 "worth_of_texts" 91 91 "basicplus.worth" 1139 688
noncomputable def o690 : Obj := ht0 
noncomputable def o691 : Obj := (PySem.Obj.mk PySem.Value.none Option.none (PySem.Data.fields #[]) #[])
noncomputable def o692 : Obj := ht24 "worth_of_two" 92 92
noncomputable def o693 : Obj := ht48 "worth_of_two" 1179 1180 1181 510 5 690 691 692 1182 1183
noncomputable def o694 : Obj := ht25 "worth_of_two" 92 92 "basicplus.worth" 1139 693
noncomputable def o695 : Obj := ht0 
noncomputable def o696 : Obj := (PySem.Obj.mk PySem.Value.none Option.none (PySem.Data.fields #[]) #[])
noncomputable def o697 : Obj := ht30 "op" 1188 "value" 1189 "bits" 1190 "digits" 1191
noncomputable def o698 : Obj := ht0 
noncomputable def o699 : Obj := ht24 "worth_of_one" 93 93
noncomputable def o700 : Obj := ht16 "worth_of_one" 1185 "worth_of_one" 1186 1187 521 4 695 696 697 698 699 1192 1193
noncomputable def o701 : Obj := ht25 "worth_of_one" 93 93 "basicplus.worth" 1139 700
noncomputable def o702 : Obj := ht0 
noncomputable def o703 : Obj := (PySem.Obj.mk PySem.Value.none Option.none (PySem.Data.fields #[]) #[])
noncomputable def o704 : Obj := ht26 "tree" 1198 "bits" 1199 "digits" 1200 "kind" 1201 "value" 1202
noncomputable def o705 : Obj := ht0 
noncomputable def o706 : Obj := ht24 "worth_of_leaf" 94 94
noncomputable def o707 : Obj := ht16 "worth_of_leaf" 1195 "worth_of_leaf" 1196 1197 525 3 702 703 704 705 706 1203 1204
noncomputable def o708 : Obj := ht25 "worth_of_leaf" 94 94 "basicplus.worth" 1139 707
noncomputable def o709 : Obj := ht0 
noncomputable def o710 : Obj := (PySem.Obj.mk PySem.Value.none Option.none (PySem.Data.fields #[]) #[])
noncomputable def o711 : Obj := ht30 "tree" 1209 "parts" 1210 "hooks" 1211 "kind" 1212
noncomputable def o712 : Obj := ht0 
noncomputable def o713 : Obj := ht24 "worth_of_tree" 95 95
noncomputable def o714 : Obj := ht16 "worth_of_tree" 1206 "worth_of_tree" 1207 1208 530 3 709 710 711 712 713 1213 1214
noncomputable def o715 : Obj := ht25 "worth_of_tree" 95 95 "basicplus.worth" 1139 714
noncomputable def o716 : Obj := ht0 
noncomputable def o717 : Obj := (PySem.Obj.mk PySem.Value.none Option.none (PySem.Data.fields #[]) #[])
noncomputable def o718 : Obj := ht24 "worth" 96 96
noncomputable def o719 : Obj := ht48 "worth" 1216 1217 1218 543 2 716 717 718 1219 1220
noncomputable def o720 : Obj := ht25 "worth" 96 96 "basicplus.worth" 1139 719
noncomputable def o721 : Obj := ht0 
noncomputable def o722 : Obj := (PySem.Obj.mk PySem.Value.none Option.none (PySem.Data.fields #[]) #[])
noncomputable def o723 : Obj := ht14 "bag" 1227 "below" 1228 "spot" 1229
noncomputable def o724 : Obj := ht0 
noncomputable def o725 : Obj := ht24 "_law_got" 98 98
noncomputable def o726 : Obj := ht16 "_law_got" 1224 "_law_got" 1225 1226 557 2 721 722 723 724 725 1230 1231
noncomputable def o727 : Obj := ht25 "_law_got" 98 98 "law_xm0046_02" 1222 726
noncomputable def o728 : Obj := ht0 
noncomputable def o729 : Obj := (PySem.Obj.mk PySem.Value.none Option.none (PySem.Data.fields #[]) #[])
noncomputable def o730 : Obj := ht18 "bag" 1236 "which" 1237
noncomputable def o731 : Obj := ht0 
noncomputable def o732 : Obj := ht24 "_law_leaf" 99 99
noncomputable def o733 : Obj := ht16 "_law_leaf" 1233 "_law_leaf" 1234 1235 561 1 728 729 730 731 732 1238 1239
noncomputable def o734 : Obj := ht25 "_law_leaf" 99 99 "law_xm0046_02" 1222 733
noncomputable def o3v12 (P : Params) : Obj := hdic (.type "dict") ((hents (o3v11 P)) ++ [(hde P "_law_two" 1250 (PySem.Value.ref 741)), (hde P "_law_let" 1258 (PySem.Value.ref 748)), (hde P "_law_statement" 1267 (PySem.Value.ref 755)), (hde P "_law_names" 1273 (PySem.Value.ref 760)), (hde P "_law_back" 1279 (PySem.Value.ref 765)), (hde P "_law_slice" 1298 (PySem.Value.ref 772)), (hde P "_law_noted" 1305 (PySem.Value.ref 779)), (hde P "_law_lines" 1320 (PySem.Value.ref 786)), (hde P "_law_worth" 1330 (PySem.Value.ref 793)), (hde P "_law_run" 1336 (PySem.Value.ref 798)), (hde P "_law_value" 1342 (PySem.Value.ref 803)), (hde P "law" 1348 (PySem.Value.ref 808))]) 111
noncomputable def o12v12 : Obj := hfld ((hflds o12v11) ++ [(PySem.Value.int 564 0), (PySem.Value.int 0 0), (PySem.Value.ref 740), (PySem.Value.int 568 0), (PySem.Value.int 0 0), (PySem.Value.ref 747), (PySem.Value.int 571 0), (PySem.Value.int 0 0), (PySem.Value.ref 754), (PySem.Value.int 577 0), (PySem.Value.int 0 0), (PySem.Value.ref 759), (PySem.Value.int 579 0), (PySem.Value.int 0 0), (PySem.Value.ref 764), (PySem.Value.int 590 0), (PySem.Value.int 0 0), (PySem.Value.ref 771), (PySem.Value.int 602 0), (PySem.Value.int 0 0), (PySem.Value.ref 778), (PySem.Value.int 604 0), (PySem.Value.int 0 0), (PySem.Value.ref 785), (PySem.Value.int 615 0), (PySem.Value.int 0 0), (PySem.Value.ref 792), (PySem.Value.int 622 0), (PySem.Value.int 0 0), (PySem.Value.ref 797), (PySem.Value.int 627 0), (PySem.Value.int 0 0), (PySem.Value.ref 802), (PySem.Value.int 636 0), (PySem.Value.int 0 0), (PySem.Value.ref 807)])
noncomputable def o735 : Obj := ht0 
noncomputable def o736 : Obj := (PySem.Obj.mk PySem.Value.none Option.none (PySem.Data.fields #[]) #[])
noncomputable def o737 : Obj := ht30 "bag" 1244 "signs" 1245 "op" 1246 "one" 1247
noncomputable def o738 : Obj := ht0 
noncomputable def o739 : Obj := ht24 "_law_two" 100 100
noncomputable def o740 : Obj := ht16 "_law_two" 1241 "_law_two" 1242 1243 564 2 735 736 737 738 739 1248 1249
noncomputable def o741 : Obj := ht25 "_law_two" 100 100 "law_xm0046_02" 1222 740
noncomputable def o742 : Obj := ht0 
noncomputable def o743 : Obj := (PySem.Obj.mk PySem.Value.none Option.none (PySem.Data.fields #[]) #[])
noncomputable def o744 : Obj := ht18 "bag" 1254 "name" 1255
noncomputable def o745 : Obj := ht0 
noncomputable def o746 : Obj := ht24 "_law_let" 101 101
noncomputable def o747 : Obj := ht16 "_law_let" 1251 "_law_let" 1252 1253 568 1 742 743 744 745 746 1256 1257
noncomputable def o748 : Obj := ht25 "_law_let" 101 101 "law_xm0046_02" 1222 747
noncomputable def o749 : Obj := ht0 
noncomputable def o750 : Obj := (PySem.Obj.mk PySem.Value.none Option.none (PySem.Data.fields #[]) #[])
noncomputable def o751 : Obj := ht14 "bag" 1262 "asked" 1263 "one" 1264
noncomputable def o752 : Obj := ht0 
noncomputable def o753 : Obj := ht24 "_law_statement" 102 102
noncomputable def o754 : Obj := ht16 "_law_statement" 1259 "_law_statement" 1260 1261 571 1 749 750 751 752 753 1265 1266
noncomputable def o755 : Obj := ht25 "_law_statement" 102 102 "law_xm0046_02" 1222 754
noncomputable def o756 : Obj := ht0 
noncomputable def o757 : Obj := (PySem.Obj.mk PySem.Value.none Option.none (PySem.Data.fields #[]) #[])
noncomputable def o758 : Obj := ht24 "_law_names" 103 103
noncomputable def o759 : Obj := ht48 "_law_names" 1268 1269 1270 577 1 756 757 758 1271 1272
noncomputable def o760 : Obj := ht25 "_law_names" 103 103 "law_xm0046_02" 1222 759
noncomputable def o761 : Obj := ht0 
noncomputable def o762 : Obj := (PySem.Obj.mk PySem.Value.none Option.none (PySem.Data.fields #[]) #[])
noncomputable def o763 : Obj := ht24 "_law_back" 104 104
noncomputable def o764 : Obj := ht48 "_law_back" 1274 1275 1276 579 2 761 762 763 1277 1278
noncomputable def o765 : Obj := ht25 "_law_back" 104 104 "law_xm0046_02" 1222 764
noncomputable def o766 : Obj := ht0 
noncomputable def o767 : Obj := (PySem.Obj.mk PySem.Value.none Option.none (PySem.Data.fields #[]) #[])
noncomputable def o768 : Obj := (PySem.Obj.mk (PySem.Value.type "tuple") Option.none (PySem.Data.seq #[(hvs "statements" 1283), (hvs "name" 1284), (hvs "behind" 1285), (hvs "is_last" 1286), (hvs "found" 1287), (hvs "loop" 1288), (hvs "turn" 1289), (hvs "third" 1290), (hvs "is_third" 1291), (hvs "second" 1292), (hvs "is_second" 1293), (hvs "at" 1294), (hvs "is_kept" 1295)] 0) #[])
noncomputable def o769 : Obj := ht0 
noncomputable def o770 : Obj := ht24 "_law_slice" 105 105
noncomputable def o771 : Obj := ht16 "_law_slice" 1280 "_law_slice" 1281 1282 590 2 766 767 768 769 770 1296 1297
noncomputable def o772 : Obj := ht25 "_law_slice" 105 105 "law_xm0046_02" 1222 771
noncomputable def o773 : Obj := ht0 
noncomputable def o774 : Obj := (PySem.Obj.mk PySem.Value.none Option.none (PySem.Data.fields #[]) #[])
noncomputable def o775 : Obj := ht12 "names" 1302
noncomputable def o776 : Obj := ht0 
noncomputable def o777 : Obj := ht24 "_law_noted" 106 106
noncomputable def o778 : Obj := ht16 "_law_noted" 1299 "_law_noted" 1300 1301 602 1 773 774 775 776 777 1303 1304
noncomputable def o779 : Obj := ht25 "_law_noted" 106 106 "law_xm0046_02" 1222 778
noncomputable def o780 : Obj := ht0 
noncomputable def o781 : Obj := (PySem.Obj.mk PySem.Value.none Option.none (PySem.Data.fields #[]) #[])
noncomputable def o782 : Obj := (PySem.Obj.mk (PySem.Value.type "tuple") Option.none (PySem.Data.seq #[(hvs "statements" 1309), (hvs "kept" 1310), (hvs "needs" 1311), (hvs "rounds" 1312), (hvs "name" 1313), (hvs "lines" 1314), (hvs "at" 1315), (hvs "statement" 1316), (hvs "row" 1317)] 0) #[])
noncomputable def o783 : Obj := ht0 
noncomputable def o784 : Obj := ht24 "_law_lines" 107 107
noncomputable def o785 : Obj := ht16 "_law_lines" 1306 "_law_lines" 1307 1308 604 5 780 781 782 783 784 1318 1319
noncomputable def o786 : Obj := ht25 "_law_lines" 107 107 "law_xm0046_02" 1222 785
noncomputable def o787 : Obj := ht0 
noncomputable def o788 : Obj := (PySem.Obj.mk PySem.Value.none Option.none (PySem.Data.fields #[]) #[])
noncomputable def o789 : Obj := ht30 "tree" 1324 "values" 1325 "found" 1326 "name" 1327
noncomputable def o790 : Obj := ht0 
noncomputable def o791 : Obj := ht24 "_law_worth" 108 108
noncomputable def o792 : Obj := ht16 "_law_worth" 1321 "_law_worth" 1322 1323 615 2 787 788 789 790 791 1328 1329
noncomputable def o793 : Obj := ht25 "_law_worth" 108 108 "law_xm0046_02" 1222 792
noncomputable def o794 : Obj := ht0 
noncomputable def o795 : Obj := (PySem.Obj.mk PySem.Value.none Option.none (PySem.Data.fields #[]) #[])
noncomputable def o796 : Obj := ht24 "_law_run" 109 109
noncomputable def o797 : Obj := ht48 "_law_run" 1331 1332 1333 622 2 794 795 796 1334 1335
noncomputable def o798 : Obj := ht25 "_law_run" 109 109 "law_xm0046_02" 1222 797
noncomputable def o799 : Obj := ht0 
noncomputable def o800 : Obj := (PySem.Obj.mk PySem.Value.none Option.none (PySem.Data.fields #[]) #[])
noncomputable def o801 : Obj := ht24 "_law_value" 110 110
noncomputable def o802 : Obj := ht48 "_law_value" 1337 1338 1339 627 2 799 800 801 1340 1341
noncomputable def o803 : Obj := ht25 "_law_value" 110 110 "law_xm0046_02" 1222 802
noncomputable def o804 : Obj := ht0 
noncomputable def o805 : Obj := (PySem.Obj.mk PySem.Value.none Option.none (PySem.Data.fields #[]) #[])
noncomputable def o806 : Obj := ht24 "law" 111 111
noncomputable def o807 : Obj := ht48 "law" 1343 1344 1345 636 1 804 805 806 1346 1347
noncomputable def o808 : Obj := ht25 "law" 111 111 "law_xm0046_02" 1222 807
noncomputable def heapA (P : Params) : Heap := ⟨⟨[boot_o_0 P, boot_o_1 P, boot_o_2 P, boot_o_3 P, boot_o_4 P, boot_o_5 P, boot_o_6 P, boot_o_7 P, boot_o_8 P, boot_o_9 P, boot_o_10 P, o11, o12, o13, o14]⟩, {}⟩
noncomputable def tree1 (P : Params) : BT := hmkT [boot_o_0 P, boot_o_1 P, boot_o_2 P, boot_o_3 P, boot_o_4 P, boot_o_5 P, boot_o_6 P, boot_o_7 P, boot_o_8 P, boot_o_9 P, boot_o_10 P, o11, o12, o13, o14]
noncomputable def tree2 (P : Params) : BT := hmkT [boot_o_0 P, boot_o_1 P, o2 P, o3 P, boot_o_4 P, boot_o_5 P, boot_o_6 P, boot_o_7 P, boot_o_8 P, boot_o_9 P, boot_o_10 P, o11, o12v1, o13, o14, o15, o16, o17 P, o18, o19, o20, o21, o22, o23, o24, o25, o26, o27, o28, o29, o30, o31, o32, o33 P, o34, o35, o36, o37, o38, o39, o40, o41, o42, o43, o44, o45, o46, o47, o48, o49, o50, o51, o52, o53, o54, o55, o56, o57, o58]
noncomputable def tree3 (P : Params) : BT := hmkT [boot_o_0 P, boot_o_1 P, o2 P, o3v1 P, boot_o_4 P, boot_o_5 P, boot_o_6 P, boot_o_7 P, boot_o_8 P, boot_o_9 P, boot_o_10 P, o11, o12v2, o13, o14, o15, o16, o17 P, o18, o19, o20, o21, o22, o23, o24, o25, o26, o27, o28, o29, o30, o31, o32, o33 P, o34, o35, o36, o37, o38, o39, o40, o41, o42, o43, o44, o45, o46, o47, o48, o49, o50, o51, o52, o53, o54, o55, o56, o57, o58, o59, o60, o61, o62, o63, o64, o65, o66, o67, o68, o69, o70, o71, o72, o73, o74, o75, o76, o77, o78, o79, o80, o81, o82, o83, o84, o85, o86, o87, o88, o89, o90, o91, o92, o93, o94, o95, o96, o97, o98, o99, o100, o101, o102, o103, o104, o105, o106, o107, o108, o109, o110, o111, o112, o113, o114, o115, o116, o117, o118, o119, o120, o121, o122, o123, o124, o125, o126, o127, o128, o129, o130, o131, o132, o133, o134, o135, o136, o137, o138, o139, o140, o141, o142, o143]
noncomputable def tree4 (P : Params) : BT := hmkT [boot_o_0 P, boot_o_1 P, o2 P, o3v2 P, boot_o_4 P, boot_o_5 P, boot_o_6 P, boot_o_7 P, boot_o_8 P, boot_o_9 P, boot_o_10 P, o11, o12v3, o13, o14, o15, o16, o17 P, o18, o19, o20, o21, o22, o23, o24, o25, o26, o27, o28, o29, o30, o31, o32, o33 P, o34, o35, o36, o37, o38, o39, o40, o41, o42, o43, o44, o45, o46, o47, o48, o49, o50, o51, o52, o53, o54, o55, o56, o57, o58, o59, o60, o61, o62, o63, o64, o65, o66, o67, o68, o69, o70, o71, o72, o73, o74, o75, o76, o77, o78, o79, o80, o81, o82, o83, o84, o85, o86, o87, o88, o89, o90, o91, o92, o93, o94, o95, o96, o97, o98, o99, o100, o101, o102, o103, o104, o105, o106, o107, o108, o109, o110, o111, o112, o113, o114, o115, o116, o117, o118, o119, o120, o121, o122, o123, o124, o125, o126, o127, o128, o129, o130, o131, o132, o133, o134, o135, o136, o137, o138, o139, o140, o141, o142, o143, o144, o145, o146, o147, o148, o149, o150, o151, o152, o153, o154, o155, o156, o157, o158, o159, o160, o161, o162, o163, o164, o165, o166, o167, o168, o169, o170, o171, o172, o173, o174, o175, o176, o177, o178, o179, o180, o181, o182, o183, o184, o185, o186, o187, o188, o189, o190, o191, o192, o193, o194, o195, o196, o197, o198, o199, o200, o201, o202, o203, o204, o205, o206, o207, o208, o209, o210, o211, o212, o213, o214, o215, o216, o217, o218, o219, o220, o221, o222, o223, o224, o225, o226, o227]
noncomputable def tree5 (P : Params) : BT := hmkT [boot_o_0 P, boot_o_1 P, o2 P, o3v3 P, boot_o_4 P, boot_o_5 P, boot_o_6 P, boot_o_7 P, boot_o_8 P, boot_o_9 P, boot_o_10 P, o11, o12v4, o13, o14, o15, o16, o17 P, o18, o19, o20, o21, o22, o23, o24, o25, o26, o27, o28, o29, o30, o31, o32, o33 P, o34, o35, o36, o37, o38, o39, o40, o41, o42, o43, o44, o45, o46, o47, o48, o49, o50, o51, o52, o53, o54, o55, o56, o57, o58, o59, o60, o61, o62, o63, o64, o65, o66, o67, o68, o69, o70, o71, o72, o73, o74, o75, o76, o77, o78, o79, o80, o81, o82, o83, o84, o85, o86, o87, o88, o89, o90, o91, o92, o93, o94, o95, o96, o97, o98, o99, o100, o101, o102, o103, o104, o105, o106, o107, o108, o109, o110, o111, o112, o113, o114, o115, o116, o117, o118, o119, o120, o121, o122, o123, o124, o125, o126, o127, o128, o129, o130, o131, o132, o133, o134, o135, o136, o137, o138, o139, o140, o141, o142, o143, o144, o145, o146, o147, o148, o149, o150, o151, o152, o153, o154, o155, o156, o157, o158, o159, o160, o161, o162, o163, o164, o165, o166, o167, o168, o169, o170, o171, o172, o173, o174, o175, o176, o177, o178, o179, o180, o181, o182, o183, o184, o185, o186, o187, o188, o189, o190, o191, o192, o193, o194, o195, o196, o197, o198, o199, o200, o201, o202, o203, o204, o205, o206, o207, o208, o209, o210, o211, o212, o213, o214, o215, o216, o217, o218, o219, o220, o221, o222, o223, o224, o225, o226, o227, o228, o229, o230, o231, o232, o233, o234, o235, o236, o237, o238, o239, o240, o241, o242, o243, o244, o245, o246, o247, o248, o249, o250, o251, o252, o253, o254, o255, o256, o257, o258, o259, o260, o261, o262, o263, o264, o265, o266, o267, o268, o269, o270, o271, o272, o273, o274, o275, o276, o277, o278, o279, o280, o281, o282, o283, o284, o285, o286, o287, o288, o289, o290]
noncomputable def tree6 (P : Params) : BT := hmkT [boot_o_0 P, boot_o_1 P, o2 P, o3v4 P, boot_o_4 P, boot_o_5 P, boot_o_6 P, boot_o_7 P, boot_o_8 P, boot_o_9 P, boot_o_10 P, o11, o12v5, o13, o14, o15, o16, o17 P, o18, o19, o20, o21, o22, o23, o24, o25, o26, o27, o28, o29, o30, o31, o32, o33 P, o34, o35, o36, o37, o38, o39, o40, o41, o42, o43, o44, o45, o46, o47, o48, o49, o50, o51, o52, o53, o54, o55, o56, o57, o58, o59, o60, o61, o62, o63, o64, o65, o66, o67, o68, o69, o70, o71, o72, o73, o74, o75, o76, o77, o78, o79, o80, o81, o82, o83, o84, o85, o86, o87, o88, o89, o90, o91, o92, o93, o94, o95, o96, o97, o98, o99, o100, o101, o102, o103, o104, o105, o106, o107, o108, o109, o110, o111, o112, o113, o114, o115, o116, o117, o118, o119, o120, o121, o122, o123, o124, o125, o126, o127, o128, o129, o130, o131, o132, o133, o134, o135, o136, o137, o138, o139, o140, o141, o142, o143, o144, o145, o146, o147, o148, o149, o150, o151, o152, o153, o154, o155, o156, o157, o158, o159, o160, o161, o162, o163, o164, o165, o166, o167, o168, o169, o170, o171, o172, o173, o174, o175, o176, o177, o178, o179, o180, o181, o182, o183, o184, o185, o186, o187, o188, o189, o190, o191, o192, o193, o194, o195, o196, o197, o198, o199, o200, o201, o202, o203, o204, o205, o206, o207, o208, o209, o210, o211, o212, o213, o214, o215, o216, o217, o218, o219, o220, o221, o222, o223, o224, o225, o226, o227, o228, o229, o230, o231, o232, o233, o234, o235, o236, o237, o238, o239, o240, o241, o242, o243, o244, o245, o246, o247, o248, o249, o250, o251, o252, o253, o254, o255, o256, o257, o258, o259, o260, o261, o262, o263, o264, o265, o266, o267, o268, o269, o270, o271, o272, o273, o274, o275, o276, o277, o278, o279, o280, o281, o282, o283, o284, o285, o286, o287, o288, o289, o290, o291, o292, o293 P, o294, o295, o296, o297, o298, o299, o300, o301, o302, o303, o304, o305, o306 P, o307, o308, o309, o310, o311, o312, o313, o314, o315, o316, o317, o318, o319, o320, o321, o322, o323, o324, o325, o326, o327, o328, o329, o330, o331, o332, o333, o334, o335, o336, o337, o338, o339, o340, o341, o342, o343, o344, o345, o346]
noncomputable def tree7 (P : Params) : BT := hmkT [boot_o_0 P, boot_o_1 P, o2 P, o3v5 P, boot_o_4 P, boot_o_5 P, boot_o_6 P, boot_o_7 P, boot_o_8 P, boot_o_9 P, boot_o_10 P, o11, o12v6, o13, o14, o15, o16, o17 P, o18, o19, o20, o21, o22, o23, o24, o25, o26, o27, o28, o29, o30, o31, o32, o33 P, o34, o35, o36, o37, o38, o39, o40, o41, o42, o43, o44, o45, o46, o47, o48, o49, o50, o51, o52, o53, o54, o55, o56, o57, o58, o59, o60, o61, o62, o63, o64, o65, o66, o67, o68, o69, o70, o71, o72, o73, o74, o75, o76, o77, o78, o79, o80, o81, o82, o83, o84, o85, o86, o87, o88, o89, o90, o91, o92, o93, o94, o95, o96, o97, o98, o99, o100, o101, o102, o103, o104, o105, o106, o107, o108, o109, o110, o111, o112, o113, o114, o115, o116, o117, o118, o119, o120, o121, o122, o123, o124, o125, o126, o127, o128, o129, o130, o131, o132, o133, o134, o135, o136, o137, o138, o139, o140, o141, o142, o143, o144, o145, o146, o147, o148, o149, o150, o151, o152, o153, o154, o155, o156, o157, o158, o159, o160, o161, o162, o163, o164, o165, o166, o167, o168, o169, o170, o171, o172, o173, o174, o175, o176, o177, o178, o179, o180, o181, o182, o183, o184, o185, o186, o187, o188, o189, o190, o191, o192, o193, o194, o195, o196, o197, o198, o199, o200, o201, o202, o203, o204, o205, o206, o207, o208, o209, o210, o211, o212, o213, o214, o215, o216, o217, o218, o219, o220, o221, o222, o223, o224, o225, o226, o227, o228, o229, o230, o231, o232, o233, o234, o235, o236, o237, o238, o239, o240, o241, o242, o243, o244, o245, o246, o247, o248, o249, o250, o251, o252, o253, o254, o255, o256, o257, o258, o259, o260, o261, o262, o263, o264, o265, o266, o267, o268, o269, o270, o271, o272, o273, o274, o275, o276, o277, o278, o279, o280, o281, o282, o283, o284, o285, o286, o287, o288, o289, o290, o291, o292, o293 P, o294, o295, o296, o297, o298, o299, o300, o301, o302, o303, o304, o305, o306 P, o307, o308, o309, o310, o311, o312, o313, o314, o315, o316, o317, o318, o319, o320, o321, o322, o323, o324, o325, o326, o327, o328, o329, o330, o331, o332, o333, o334, o335, o336, o337, o338, o339, o340, o341, o342, o343, o344, o345, o346, o347, o348, o349, o350, o351, o352, o353, o354, o355, o356, o357, o358, o359, o360, o361, o362, o363, o364, o365, o366, o367, o368, o369, o370, o371, o372, o373, o374, o375, o376, o377, o378, o379, o380, o381, o382, o383, o384, o385, o386, o387, o388, o389, o390, o391, o392, o393, o394, o395, o396, o397, o398, o399, o400, o401, o402, o403, o404, o405, o406]
noncomputable def tree8 (P : Params) : BT := hmkT [boot_o_0 P, boot_o_1 P, o2 P, o3v6 P, boot_o_4 P, boot_o_5 P, boot_o_6 P, boot_o_7 P, boot_o_8 P, boot_o_9 P, boot_o_10 P, o11, o12v7, o13, o14, o15, o16, o17 P, o18, o19, o20, o21, o22, o23, o24, o25, o26, o27, o28, o29, o30, o31, o32, o33 P, o34, o35, o36, o37, o38, o39, o40, o41, o42, o43, o44, o45, o46, o47, o48, o49, o50, o51, o52, o53, o54, o55, o56, o57, o58, o59, o60, o61, o62, o63, o64, o65, o66, o67, o68, o69, o70, o71, o72, o73, o74, o75, o76, o77, o78, o79, o80, o81, o82, o83, o84, o85, o86, o87, o88, o89, o90, o91, o92, o93, o94, o95, o96, o97, o98, o99, o100, o101, o102, o103, o104, o105, o106, o107, o108, o109, o110, o111, o112, o113, o114, o115, o116, o117, o118, o119, o120, o121, o122, o123, o124, o125, o126, o127, o128, o129, o130, o131, o132, o133, o134, o135, o136, o137, o138, o139, o140, o141, o142, o143, o144, o145, o146, o147, o148, o149, o150, o151, o152, o153, o154, o155, o156, o157, o158, o159, o160, o161, o162, o163, o164, o165, o166, o167, o168, o169, o170, o171, o172, o173, o174, o175, o176, o177, o178, o179, o180, o181, o182, o183, o184, o185, o186, o187, o188, o189, o190, o191, o192, o193, o194, o195, o196, o197, o198, o199, o200, o201, o202, o203, o204, o205, o206, o207, o208, o209, o210, o211, o212, o213, o214, o215, o216, o217, o218, o219, o220, o221, o222, o223, o224, o225, o226, o227, o228, o229, o230, o231, o232, o233, o234, o235, o236, o237, o238, o239, o240, o241, o242, o243, o244, o245, o246, o247, o248, o249, o250, o251, o252, o253, o254, o255, o256, o257, o258, o259, o260, o261, o262, o263, o264, o265, o266, o267, o268, o269, o270, o271, o272, o273, o274, o275, o276, o277, o278, o279, o280, o281, o282, o283, o284, o285, o286, o287, o288, o289, o290, o291, o292, o293 P, o294, o295, o296, o297, o298, o299, o300, o301, o302, o303, o304, o305, o306 P, o307, o308, o309, o310, o311, o312, o313, o314, o315, o316, o317, o318, o319, o320, o321, o322, o323, o324, o325, o326, o327, o328, o329, o330, o331, o332, o333, o334, o335, o336, o337, o338, o339, o340, o341, o342, o343, o344, o345, o346, o347, o348, o349, o350, o351, o352, o353, o354, o355, o356, o357, o358, o359, o360, o361, o362, o363, o364, o365, o366, o367, o368, o369, o370, o371, o372, o373, o374, o375, o376, o377, o378, o379, o380, o381, o382, o383, o384, o385, o386, o387, o388, o389, o390, o391, o392, o393, o394, o395, o396, o397, o398, o399, o400, o401, o402, o403, o404, o405, o406, o407, o408, o409 P, o410, o411, o412, o413, o414, o415, o416, o417, o418, o419, o420, o421, o422 P, o423, o424, o425, o426, o427, o428, o429, o430, o431, o432, o433, o434, o435, o436, o437, o438, o439, o440, o441, o442, o443, o444, o445, o446, o447, o448, o449, o450, o451, o452, o453, o454, o455, o456, o457, o458, o459, o460, o461, o462]
noncomputable def tree9 (P : Params) : BT := hmkT [boot_o_0 P, boot_o_1 P, o2 P, o3v7 P, boot_o_4 P, boot_o_5 P, boot_o_6 P, boot_o_7 P, boot_o_8 P, boot_o_9 P, boot_o_10 P, o11, o12v8, o13, o14, o15, o16, o17 P, o18, o19, o20, o21, o22, o23, o24, o25, o26, o27, o28, o29, o30, o31, o32, o33 P, o34, o35, o36, o37, o38, o39, o40, o41, o42, o43, o44, o45, o46, o47, o48, o49, o50, o51, o52, o53, o54, o55, o56, o57, o58, o59, o60, o61, o62, o63, o64, o65, o66, o67, o68, o69, o70, o71, o72, o73, o74, o75, o76, o77, o78, o79, o80, o81, o82, o83, o84, o85, o86, o87, o88, o89, o90, o91, o92, o93, o94, o95, o96, o97, o98, o99, o100, o101, o102, o103, o104, o105, o106, o107, o108, o109, o110, o111, o112, o113, o114, o115, o116, o117, o118, o119, o120, o121, o122, o123, o124, o125, o126, o127, o128, o129, o130, o131, o132, o133, o134, o135, o136, o137, o138, o139, o140, o141, o142, o143, o144, o145, o146, o147, o148, o149, o150, o151, o152, o153, o154, o155, o156, o157, o158, o159, o160, o161, o162, o163, o164, o165, o166, o167, o168, o169, o170, o171, o172, o173, o174, o175, o176, o177, o178, o179, o180, o181, o182, o183, o184, o185, o186, o187, o188, o189, o190, o191, o192, o193, o194, o195, o196, o197, o198, o199, o200, o201, o202, o203, o204, o205, o206, o207, o208, o209, o210, o211, o212, o213, o214, o215, o216, o217, o218, o219, o220, o221, o222, o223, o224, o225, o226, o227, o228, o229, o230, o231, o232, o233, o234, o235, o236, o237, o238, o239, o240, o241, o242, o243, o244, o245, o246, o247, o248, o249, o250, o251, o252, o253, o254, o255, o256, o257, o258, o259, o260, o261, o262, o263, o264, o265, o266, o267, o268, o269, o270, o271, o272, o273, o274, o275, o276, o277, o278, o279, o280, o281, o282, o283, o284, o285, o286, o287, o288, o289, o290, o291, o292, o293 P, o294, o295, o296, o297, o298, o299, o300, o301, o302, o303, o304, o305, o306 P, o307, o308, o309, o310, o311, o312, o313, o314, o315, o316, o317, o318, o319, o320, o321, o322, o323, o324, o325, o326, o327, o328, o329, o330, o331, o332, o333, o334, o335, o336, o337, o338, o339, o340, o341, o342, o343, o344, o345, o346, o347, o348, o349, o350, o351, o352, o353, o354, o355, o356, o357, o358, o359, o360, o361, o362, o363, o364, o365, o366, o367, o368, o369, o370, o371, o372, o373, o374, o375, o376, o377, o378, o379, o380, o381, o382, o383, o384, o385, o386, o387, o388, o389, o390, o391, o392, o393, o394, o395, o396, o397, o398, o399, o400, o401, o402, o403, o404, o405, o406, o407, o408, o409 P, o410, o411, o412, o413, o414, o415, o416, o417, o418, o419, o420, o421, o422 P, o423, o424, o425, o426, o427, o428, o429, o430, o431, o432, o433, o434, o435, o436, o437, o438, o439, o440, o441, o442, o443, o444, o445, o446, o447, o448, o449, o450, o451, o452, o453, o454, o455, o456, o457, o458, o459, o460, o461, o462, o463, o464, o465, o466, o467, o468, o469, o470, o471, o472, o473, o474, o475, o476, o477, o478, o479, o480, o481, o482, o483, o484, o485, o486, o487, o488, o489, o490, o491, o492, o493, o494, o495, o496, o497, o498, o499, o500, o501, o502, o503, o504, o505, o506, o507, o508, o509, o510, o511, o512, o513, o514, o515, o516, o517, o518, o519, o520, o521, o522, o523, o524, o525, o526, o527, o528, o529, o530, o531, o532, o533, o534, o535, o536, o537, o538, o539, o540]
noncomputable def tree10 (P : Params) : BT := hmkT [boot_o_0 P, boot_o_1 P, o2 P, o3v8 P, boot_o_4 P, boot_o_5 P, boot_o_6 P, boot_o_7 P, boot_o_8 P, boot_o_9 P, boot_o_10 P, o11, o12v9, o13, o14, o15, o16, o17 P, o18, o19, o20, o21, o22, o23, o24, o25, o26, o27, o28, o29, o30, o31, o32, o33 P, o34, o35, o36, o37, o38, o39, o40, o41, o42, o43, o44, o45, o46, o47, o48, o49, o50, o51, o52, o53, o54, o55, o56, o57, o58, o59, o60, o61, o62, o63, o64, o65, o66, o67, o68, o69, o70, o71, o72, o73, o74, o75, o76, o77, o78, o79, o80, o81, o82, o83, o84, o85, o86, o87, o88, o89, o90, o91, o92, o93, o94, o95, o96, o97, o98, o99, o100, o101, o102, o103, o104, o105, o106, o107, o108, o109, o110, o111, o112, o113, o114, o115, o116, o117, o118, o119, o120, o121, o122, o123, o124, o125, o126, o127, o128, o129, o130, o131, o132, o133, o134, o135, o136, o137, o138, o139, o140, o141, o142, o143, o144, o145, o146, o147, o148, o149, o150, o151, o152, o153, o154, o155, o156, o157, o158, o159, o160, o161, o162, o163, o164, o165, o166, o167, o168, o169, o170, o171, o172, o173, o174, o175, o176, o177, o178, o179, o180, o181, o182, o183, o184, o185, o186, o187, o188, o189, o190, o191, o192, o193, o194, o195, o196, o197, o198, o199, o200, o201, o202, o203, o204, o205, o206, o207, o208, o209, o210, o211, o212, o213, o214, o215, o216, o217, o218, o219, o220, o221, o222, o223, o224, o225, o226, o227, o228, o229, o230, o231, o232, o233, o234, o235, o236, o237, o238, o239, o240, o241, o242, o243, o244, o245, o246, o247, o248, o249, o250, o251, o252, o253, o254, o255, o256, o257, o258, o259, o260, o261, o262, o263, o264, o265, o266, o267, o268, o269, o270, o271, o272, o273, o274, o275, o276, o277, o278, o279, o280, o281, o282, o283, o284, o285, o286, o287, o288, o289, o290, o291, o292, o293 P, o294, o295, o296, o297, o298, o299, o300, o301, o302, o303, o304, o305, o306 P, o307, o308, o309, o310, o311, o312, o313, o314, o315, o316, o317, o318, o319, o320, o321, o322, o323, o324, o325, o326, o327, o328, o329, o330, o331, o332, o333, o334, o335, o336, o337, o338, o339, o340, o341, o342, o343, o344, o345, o346, o347, o348, o349, o350, o351, o352, o353, o354, o355, o356, o357, o358, o359, o360, o361, o362, o363, o364, o365, o366, o367, o368, o369, o370, o371, o372, o373, o374, o375, o376, o377, o378, o379, o380, o381, o382, o383, o384, o385, o386, o387, o388, o389, o390, o391, o392, o393, o394, o395, o396, o397, o398, o399, o400, o401, o402, o403, o404, o405, o406, o407, o408, o409 P, o410, o411, o412, o413, o414, o415, o416, o417, o418, o419, o420, o421, o422 P, o423, o424, o425, o426, o427, o428, o429, o430, o431, o432, o433, o434, o435, o436, o437, o438, o439, o440, o441, o442, o443, o444, o445, o446, o447, o448, o449, o450, o451, o452, o453, o454, o455, o456, o457, o458, o459, o460, o461, o462, o463, o464, o465, o466, o467, o468, o469, o470, o471, o472, o473, o474, o475, o476, o477, o478, o479, o480, o481, o482, o483, o484, o485, o486, o487, o488, o489, o490, o491, o492, o493, o494, o495, o496, o497, o498, o499, o500, o501, o502, o503, o504, o505, o506, o507, o508, o509, o510, o511, o512, o513, o514, o515, o516, o517, o518, o519, o520, o521, o522, o523, o524, o525, o526, o527, o528, o529, o530, o531, o532, o533, o534, o535, o536, o537, o538, o539, o540, o541, o542, o543 P, o544, o545, o546, o547, o548, o549, o550, o551, o552, o553, o554, o555, o556, o557, o558, o559, o560, o561, o562, o563, o564, o565, o566, o567, o568, o569, o570, o571, o572, o573, o574, o575, o576, o577, o578, o579, o580, o581, o582, o583, o584, o585, o586, o587, o588, o589, o590, o591, o592, o593, o594, o595, o596, o597, o598 P, o599, o600, o601, o602, o603]
noncomputable def tree11 (P : Params) : BT := hmkT [boot_o_0 P, boot_o_1 P, o2 P, o3v9 P, boot_o_4 P, boot_o_5 P, boot_o_6 P, boot_o_7 P, boot_o_8 P, boot_o_9 P, boot_o_10 P, o11, o12v9, o13, o14, o15, o16, o17 P, o18, o19, o20, o21, o22, o23, o24, o25, o26, o27, o28, o29, o30, o31, o32, o33 P, o34, o35, o36, o37, o38, o39, o40, o41, o42, o43, o44, o45, o46, o47, o48, o49, o50, o51, o52, o53, o54, o55, o56, o57, o58, o59, o60, o61, o62, o63, o64, o65, o66, o67, o68, o69, o70, o71, o72, o73, o74, o75, o76, o77, o78, o79, o80, o81, o82, o83, o84, o85, o86, o87, o88, o89, o90, o91, o92, o93, o94, o95, o96, o97, o98, o99, o100, o101, o102, o103, o104, o105, o106, o107, o108, o109, o110, o111, o112, o113, o114, o115, o116, o117, o118, o119, o120, o121, o122, o123, o124, o125, o126, o127, o128, o129, o130, o131, o132, o133, o134, o135, o136, o137, o138, o139, o140, o141, o142, o143, o144, o145, o146, o147, o148, o149, o150, o151, o152, o153, o154, o155, o156, o157, o158, o159, o160, o161, o162, o163, o164, o165, o166, o167, o168, o169, o170, o171, o172, o173, o174, o175, o176, o177, o178, o179, o180, o181, o182, o183, o184, o185, o186, o187, o188, o189, o190, o191, o192, o193, o194, o195, o196, o197, o198, o199, o200, o201, o202, o203, o204, o205, o206, o207, o208, o209, o210, o211, o212, o213, o214, o215, o216, o217, o218, o219, o220, o221, o222, o223, o224, o225, o226, o227, o228, o229, o230, o231, o232, o233, o234, o235, o236, o237, o238, o239, o240, o241, o242, o243, o244, o245, o246, o247, o248, o249, o250, o251, o252, o253, o254, o255, o256, o257, o258, o259, o260, o261, o262, o263, o264, o265, o266, o267, o268, o269, o270, o271, o272, o273, o274, o275, o276, o277, o278, o279, o280, o281, o282, o283, o284, o285, o286, o287, o288, o289, o290, o291, o292, o293 P, o294, o295, o296, o297, o298, o299, o300, o301, o302, o303, o304, o305, o306 P, o307, o308, o309, o310, o311, o312, o313, o314, o315, o316, o317, o318, o319, o320, o321, o322, o323, o324, o325, o326, o327, o328, o329, o330, o331, o332, o333, o334, o335, o336, o337, o338, o339, o340, o341, o342, o343, o344, o345, o346, o347, o348, o349, o350, o351, o352, o353, o354, o355, o356, o357, o358, o359, o360, o361, o362, o363, o364, o365, o366, o367, o368, o369, o370, o371, o372, o373, o374, o375, o376, o377, o378, o379, o380, o381, o382, o383, o384, o385, o386, o387, o388, o389, o390, o391, o392, o393, o394, o395, o396, o397, o398, o399, o400, o401, o402, o403, o404, o405, o406, o407, o408, o409 P, o410, o411, o412, o413, o414, o415, o416, o417, o418, o419, o420, o421, o422 P, o423, o424, o425, o426, o427, o428, o429, o430, o431, o432, o433, o434, o435, o436, o437, o438, o439, o440, o441, o442, o443, o444, o445, o446, o447, o448, o449, o450, o451, o452, o453, o454, o455, o456, o457, o458, o459, o460, o461, o462, o463, o464, o465, o466, o467, o468, o469, o470, o471, o472, o473, o474, o475, o476, o477, o478, o479, o480, o481, o482, o483, o484, o485, o486, o487, o488, o489, o490, o491, o492, o493, o494, o495, o496, o497, o498, o499, o500, o501, o502, o503, o504, o505, o506, o507, o508, o509, o510, o511, o512, o513, o514, o515, o516, o517, o518, o519, o520, o521, o522, o523, o524, o525, o526, o527, o528, o529, o530, o531, o532, o533, o534, o535, o536, o537, o538, o539, o540, o541, o542, o543 P, o544, o545, o546, o547, o548, o549, o550, o551, o552, o553, o554, o555, o556, o557, o558, o559, o560, o561, o562, o563, o564, o565, o566, o567, o568, o569, o570, o571, o572, o573, o574, o575, o576, o577, o578, o579, o580, o581, o582, o583, o584, o585, o586, o587, o588, o589, o590, o591, o592, o593, o594, o595, o596, o597, o598 P, o599, o600, o601, o602, o603]
noncomputable def tree12 (P : Params) : BT := hmkT [boot_o_0 P, boot_o_1 P, o2 P, o3v10 P, boot_o_4 P, boot_o_5 P, boot_o_6 P, boot_o_7 P, boot_o_8 P, boot_o_9 P, boot_o_10 P, o11, o12v10, o13, o14, o15, o16, o17 P, o18, o19, o20, o21, o22, o23, o24, o25, o26, o27, o28, o29, o30, o31, o32, o33 P, o34, o35, o36, o37, o38, o39, o40, o41, o42, o43, o44, o45, o46, o47, o48, o49, o50, o51, o52, o53, o54, o55, o56, o57, o58, o59, o60, o61, o62, o63, o64, o65, o66, o67, o68, o69, o70, o71, o72, o73, o74, o75, o76, o77, o78, o79, o80, o81, o82, o83, o84, o85, o86, o87, o88, o89, o90, o91, o92, o93, o94, o95, o96, o97, o98, o99, o100, o101, o102, o103, o104, o105, o106, o107, o108, o109, o110, o111, o112, o113, o114, o115, o116, o117, o118, o119, o120, o121, o122, o123, o124, o125, o126, o127, o128, o129, o130, o131, o132, o133, o134, o135, o136, o137, o138, o139, o140, o141, o142, o143, o144, o145, o146, o147, o148, o149, o150, o151, o152, o153, o154, o155, o156, o157, o158, o159, o160, o161, o162, o163, o164, o165, o166, o167, o168, o169, o170, o171, o172, o173, o174, o175, o176, o177, o178, o179, o180, o181, o182, o183, o184, o185, o186, o187, o188, o189, o190, o191, o192, o193, o194, o195, o196, o197, o198, o199, o200, o201, o202, o203, o204, o205, o206, o207, o208, o209, o210, o211, o212, o213, o214, o215, o216, o217, o218, o219, o220, o221, o222, o223, o224, o225, o226, o227, o228, o229, o230, o231, o232, o233, o234, o235, o236, o237, o238, o239, o240, o241, o242, o243, o244, o245, o246, o247, o248, o249, o250, o251, o252, o253, o254, o255, o256, o257, o258, o259, o260, o261, o262, o263, o264, o265, o266, o267, o268, o269, o270, o271, o272, o273, o274, o275, o276, o277, o278, o279, o280, o281, o282, o283, o284, o285, o286, o287, o288, o289, o290, o291, o292, o293 P, o294, o295, o296, o297, o298, o299, o300, o301, o302, o303, o304, o305, o306 P, o307, o308, o309, o310, o311, o312, o313, o314, o315, o316, o317, o318, o319, o320, o321, o322, o323, o324, o325, o326, o327, o328, o329, o330, o331, o332, o333, o334, o335, o336, o337, o338, o339, o340, o341, o342, o343, o344, o345, o346, o347, o348, o349, o350, o351, o352, o353, o354, o355, o356, o357, o358, o359, o360, o361, o362, o363, o364, o365, o366, o367, o368, o369, o370, o371, o372, o373, o374, o375, o376, o377, o378, o379, o380, o381, o382, o383, o384, o385, o386, o387, o388, o389, o390, o391, o392, o393, o394, o395, o396, o397, o398, o399, o400, o401, o402, o403, o404, o405, o406, o407, o408, o409 P, o410, o411, o412, o413, o414, o415, o416, o417, o418, o419, o420, o421, o422 P, o423, o424, o425, o426, o427, o428, o429, o430, o431, o432, o433, o434, o435, o436, o437, o438, o439, o440, o441, o442, o443, o444, o445, o446, o447, o448, o449, o450, o451, o452, o453, o454, o455, o456, o457, o458, o459, o460, o461, o462, o463, o464, o465, o466, o467, o468, o469, o470, o471, o472, o473, o474, o475, o476, o477, o478, o479, o480, o481, o482, o483, o484, o485, o486, o487, o488, o489, o490, o491, o492, o493, o494, o495, o496, o497, o498, o499, o500, o501, o502, o503, o504, o505, o506, o507, o508, o509, o510, o511, o512, o513, o514, o515, o516, o517, o518, o519, o520, o521, o522, o523, o524, o525, o526, o527, o528, o529, o530, o531, o532, o533, o534, o535, o536, o537, o538, o539, o540, o541, o542, o543 P, o544, o545, o546, o547, o548, o549, o550, o551, o552, o553, o554, o555, o556, o557, o558, o559, o560, o561, o562, o563, o564, o565, o566, o567, o568, o569, o570, o571, o572, o573, o574, o575, o576, o577, o578, o579, o580, o581, o582, o583, o584, o585, o586, o587, o588, o589, o590, o591, o592, o593, o594, o595, o596, o597, o598 P, o599, o600, o601, o602, o603, o604, o605, o606 P, o607, o608, o609, o610, o611, o612, o613, o614, o615, o616, o617, o618, o619, o620, o621, o622, o623, o624, o625, o626, o627, o628, o629, o630, o631, o632, o633, o634, o635, o636, o637, o638, o639, o640, o641, o642, o643, o644, o645, o646, o647, o648, o649, o650, o651, o652, o653, o654 P, o655, o656, o657, o658, o659]
noncomputable def tree13 (P : Params) : BT := hmkT [boot_o_0 P, boot_o_1 P, o2 P, o3v11 P, boot_o_4 P, boot_o_5 P, boot_o_6 P, boot_o_7 P, boot_o_8 P, boot_o_9 P, boot_o_10 P, o11, o12v11, o13, o14, o15, o16, o17 P, o18, o19, o20, o21, o22, o23, o24, o25, o26, o27, o28, o29, o30, o31, o32, o33 P, o34, o35, o36, o37, o38, o39, o40, o41, o42, o43, o44, o45, o46, o47, o48, o49, o50, o51, o52, o53, o54, o55, o56, o57, o58, o59, o60, o61, o62, o63, o64, o65, o66, o67, o68, o69, o70, o71, o72, o73, o74, o75, o76, o77, o78, o79, o80, o81, o82, o83, o84, o85, o86, o87, o88, o89, o90, o91, o92, o93, o94, o95, o96, o97, o98, o99, o100, o101, o102, o103, o104, o105, o106, o107, o108, o109, o110, o111, o112, o113, o114, o115, o116, o117, o118, o119, o120, o121, o122, o123, o124, o125, o126, o127, o128, o129, o130, o131, o132, o133, o134, o135, o136, o137, o138, o139, o140, o141, o142, o143, o144, o145, o146, o147, o148, o149, o150, o151, o152, o153, o154, o155, o156, o157, o158, o159, o160, o161, o162, o163, o164, o165, o166, o167, o168, o169, o170, o171, o172, o173, o174, o175, o176, o177, o178, o179, o180, o181, o182, o183, o184, o185, o186, o187, o188, o189, o190, o191, o192, o193, o194, o195, o196, o197, o198, o199, o200, o201, o202, o203, o204, o205, o206, o207, o208, o209, o210, o211, o212, o213, o214, o215, o216, o217, o218, o219, o220, o221, o222, o223, o224, o225, o226, o227, o228, o229, o230, o231, o232, o233, o234, o235, o236, o237, o238, o239, o240, o241, o242, o243, o244, o245, o246, o247, o248, o249, o250, o251, o252, o253, o254, o255, o256, o257, o258, o259, o260, o261, o262, o263, o264, o265, o266, o267, o268, o269, o270, o271, o272, o273, o274, o275, o276, o277, o278, o279, o280, o281, o282, o283, o284, o285, o286, o287, o288, o289, o290, o291, o292, o293 P, o294, o295, o296, o297, o298, o299, o300, o301, o302, o303, o304, o305, o306 P, o307, o308, o309, o310, o311, o312, o313, o314, o315, o316, o317, o318, o319, o320, o321, o322, o323, o324, o325, o326, o327, o328, o329, o330, o331, o332, o333, o334, o335, o336, o337, o338, o339, o340, o341, o342, o343, o344, o345, o346, o347, o348, o349, o350, o351, o352, o353, o354, o355, o356, o357, o358, o359, o360, o361, o362, o363, o364, o365, o366, o367, o368, o369, o370, o371, o372, o373, o374, o375, o376, o377, o378, o379, o380, o381, o382, o383, o384, o385, o386, o387, o388, o389, o390, o391, o392, o393, o394, o395, o396, o397, o398, o399, o400, o401, o402, o403, o404, o405, o406, o407, o408, o409 P, o410, o411, o412, o413, o414, o415, o416, o417, o418, o419, o420, o421, o422 P, o423, o424, o425, o426, o427, o428, o429, o430, o431, o432, o433, o434, o435, o436, o437, o438, o439, o440, o441, o442, o443, o444, o445, o446, o447, o448, o449, o450, o451, o452, o453, o454, o455, o456, o457, o458, o459, o460, o461, o462, o463, o464, o465, o466, o467, o468, o469, o470, o471, o472, o473, o474, o475, o476, o477, o478, o479, o480, o481, o482, o483, o484, o485, o486, o487, o488, o489, o490, o491, o492, o493, o494, o495, o496, o497, o498, o499, o500, o501, o502, o503, o504, o505, o506, o507, o508, o509, o510, o511, o512, o513, o514, o515, o516, o517, o518, o519, o520, o521, o522, o523, o524, o525, o526, o527, o528, o529, o530, o531, o532, o533, o534, o535, o536, o537, o538, o539, o540, o541, o542, o543 P, o544, o545, o546, o547, o548, o549, o550, o551, o552, o553, o554, o555, o556, o557, o558, o559, o560, o561, o562, o563, o564, o565, o566, o567, o568, o569, o570, o571, o572, o573, o574, o575, o576, o577, o578, o579, o580, o581, o582, o583, o584, o585, o586, o587, o588, o589, o590, o591, o592, o593, o594, o595, o596, o597, o598 P, o599, o600, o601, o602, o603, o604, o605, o606 P, o607, o608, o609, o610, o611, o612, o613, o614, o615, o616, o617, o618, o619, o620, o621, o622, o623, o624, o625, o626, o627, o628, o629, o630, o631, o632, o633, o634, o635, o636, o637, o638, o639, o640, o641, o642, o643, o644, o645, o646, o647, o648, o649, o650, o651, o652, o653, o654 P, o655, o656, o657, o658, o659, o660, o661, o662, o663, o664, o665, o666, o667, o668, o669, o670, o671, o672, o673, o674, o675, o676, o677, o678, o679, o680, o681, o682, o683, o684, o685, o686, o687, o688, o689, o690, o691, o692, o693, o694, o695, o696, o697, o698, o699, o700, o701, o702, o703, o704, o705, o706, o707, o708, o709, o710, o711, o712, o713, o714, o715, o716, o717, o718, o719, o720, o721, o722, o723, o724, o725, o726, o727, o728, o729, o730, o731, o732, o733, o734]
noncomputable def tree14 (P : Params) : BT := hmkT [boot_o_0 P, boot_o_1 P, o2 P, o3v12 P, boot_o_4 P, boot_o_5 P, boot_o_6 P, boot_o_7 P, boot_o_8 P, boot_o_9 P, boot_o_10 P, o11, o12v12, o13, o14, o15, o16, o17 P, o18, o19, o20, o21, o22, o23, o24, o25, o26, o27, o28, o29, o30, o31, o32, o33 P, o34, o35, o36, o37, o38, o39, o40, o41, o42, o43, o44, o45, o46, o47, o48, o49, o50, o51, o52, o53, o54, o55, o56, o57, o58, o59, o60, o61, o62, o63, o64, o65, o66, o67, o68, o69, o70, o71, o72, o73, o74, o75, o76, o77, o78, o79, o80, o81, o82, o83, o84, o85, o86, o87, o88, o89, o90, o91, o92, o93, o94, o95, o96, o97, o98, o99, o100, o101, o102, o103, o104, o105, o106, o107, o108, o109, o110, o111, o112, o113, o114, o115, o116, o117, o118, o119, o120, o121, o122, o123, o124, o125, o126, o127, o128, o129, o130, o131, o132, o133, o134, o135, o136, o137, o138, o139, o140, o141, o142, o143, o144, o145, o146, o147, o148, o149, o150, o151, o152, o153, o154, o155, o156, o157, o158, o159, o160, o161, o162, o163, o164, o165, o166, o167, o168, o169, o170, o171, o172, o173, o174, o175, o176, o177, o178, o179, o180, o181, o182, o183, o184, o185, o186, o187, o188, o189, o190, o191, o192, o193, o194, o195, o196, o197, o198, o199, o200, o201, o202, o203, o204, o205, o206, o207, o208, o209, o210, o211, o212, o213, o214, o215, o216, o217, o218, o219, o220, o221, o222, o223, o224, o225, o226, o227, o228, o229, o230, o231, o232, o233, o234, o235, o236, o237, o238, o239, o240, o241, o242, o243, o244, o245, o246, o247, o248, o249, o250, o251, o252, o253, o254, o255, o256, o257, o258, o259, o260, o261, o262, o263, o264, o265, o266, o267, o268, o269, o270, o271, o272, o273, o274, o275, o276, o277, o278, o279, o280, o281, o282, o283, o284, o285, o286, o287, o288, o289, o290, o291, o292, o293 P, o294, o295, o296, o297, o298, o299, o300, o301, o302, o303, o304, o305, o306 P, o307, o308, o309, o310, o311, o312, o313, o314, o315, o316, o317, o318, o319, o320, o321, o322, o323, o324, o325, o326, o327, o328, o329, o330, o331, o332, o333, o334, o335, o336, o337, o338, o339, o340, o341, o342, o343, o344, o345, o346, o347, o348, o349, o350, o351, o352, o353, o354, o355, o356, o357, o358, o359, o360, o361, o362, o363, o364, o365, o366, o367, o368, o369, o370, o371, o372, o373, o374, o375, o376, o377, o378, o379, o380, o381, o382, o383, o384, o385, o386, o387, o388, o389, o390, o391, o392, o393, o394, o395, o396, o397, o398, o399, o400, o401, o402, o403, o404, o405, o406, o407, o408, o409 P, o410, o411, o412, o413, o414, o415, o416, o417, o418, o419, o420, o421, o422 P, o423, o424, o425, o426, o427, o428, o429, o430, o431, o432, o433, o434, o435, o436, o437, o438, o439, o440, o441, o442, o443, o444, o445, o446, o447, o448, o449, o450, o451, o452, o453, o454, o455, o456, o457, o458, o459, o460, o461, o462, o463, o464, o465, o466, o467, o468, o469, o470, o471, o472, o473, o474, o475, o476, o477, o478, o479, o480, o481, o482, o483, o484, o485, o486, o487, o488, o489, o490, o491, o492, o493, o494, o495, o496, o497, o498, o499, o500, o501, o502, o503, o504, o505, o506, o507, o508, o509, o510, o511, o512, o513, o514, o515, o516, o517, o518, o519, o520, o521, o522, o523, o524, o525, o526, o527, o528, o529, o530, o531, o532, o533, o534, o535, o536, o537, o538, o539, o540, o541, o542, o543 P, o544, o545, o546, o547, o548, o549, o550, o551, o552, o553, o554, o555, o556, o557, o558, o559, o560, o561, o562, o563, o564, o565, o566, o567, o568, o569, o570, o571, o572, o573, o574, o575, o576, o577, o578, o579, o580, o581, o582, o583, o584, o585, o586, o587, o588, o589, o590, o591, o592, o593, o594, o595, o596, o597, o598 P, o599, o600, o601, o602, o603, o604, o605, o606 P, o607, o608, o609, o610, o611, o612, o613, o614, o615, o616, o617, o618, o619, o620, o621, o622, o623, o624, o625, o626, o627, o628, o629, o630, o631, o632, o633, o634, o635, o636, o637, o638, o639, o640, o641, o642, o643, o644, o645, o646, o647, o648, o649, o650, o651, o652, o653, o654 P, o655, o656, o657, o658, o659, o660, o661, o662, o663, o664, o665, o666, o667, o668, o669, o670, o671, o672, o673, o674, o675, o676, o677, o678, o679, o680, o681, o682, o683, o684, o685, o686, o687, o688, o689, o690, o691, o692, o693, o694, o695, o696, o697, o698, o699, o700, o701, o702, o703, o704, o705, o706, o707, o708, o709, o710, o711, o712, o713, o714, o715, o716, o717, o718, o719, o720, o721, o722, o723, o724, o725, o726, o727, o728, o729, o730, o731, o732, o733, o734, o735, o736, o737, o738, o739, o740, o741, o742, o743, o744, o745, o746, o747, o748, o749, o750, o751, o752, o753, o754, o755, o756, o757, o758, o759, o760, o761, o762, o763, o764, o765, o766, o767, o768, o769, o770, o771, o772, o773, o774, o775, o776, o777, o778, o779, o780, o781, o782, o783, o784, o785, o786, o787, o788, o789, o790, o791, o792, o793, o794, o795, o796, o797, o798, o799, o800, o801, o802, o803, o804, o805, o806, o807, o808]
noncomputable def heapF (P : Params) : Heap := ⟨⟨[boot_o_0 P, boot_o_1 P, o2 P, o3v12 P, boot_o_4 P, boot_o_5 P, boot_o_6 P, boot_o_7 P, boot_o_8 P, boot_o_9 P, boot_o_10 P, o11, o12v12, o13, o14, o15, o16, o17 P, o18, o19, o20, o21, o22, o23, o24, o25, o26, o27, o28, o29, o30, o31, o32, o33 P, o34, o35, o36, o37, o38, o39, o40, o41, o42, o43, o44, o45, o46, o47, o48, o49, o50, o51, o52, o53, o54, o55, o56, o57, o58, o59, o60, o61, o62, o63, o64, o65, o66, o67, o68, o69, o70, o71, o72, o73, o74, o75, o76, o77, o78, o79, o80, o81, o82, o83, o84, o85, o86, o87, o88, o89, o90, o91, o92, o93, o94, o95, o96, o97, o98, o99, o100, o101, o102, o103, o104, o105, o106, o107, o108, o109, o110, o111, o112, o113, o114, o115, o116, o117, o118, o119, o120, o121, o122, o123, o124, o125, o126, o127, o128, o129, o130, o131, o132, o133, o134, o135, o136, o137, o138, o139, o140, o141, o142, o143, o144, o145, o146, o147, o148, o149, o150, o151, o152, o153, o154, o155, o156, o157, o158, o159, o160, o161, o162, o163, o164, o165, o166, o167, o168, o169, o170, o171, o172, o173, o174, o175, o176, o177, o178, o179, o180, o181, o182, o183, o184, o185, o186, o187, o188, o189, o190, o191, o192, o193, o194, o195, o196, o197, o198, o199, o200, o201, o202, o203, o204, o205, o206, o207, o208, o209, o210, o211, o212, o213, o214, o215, o216, o217, o218, o219, o220, o221, o222, o223, o224, o225, o226, o227, o228, o229, o230, o231, o232, o233, o234, o235, o236, o237, o238, o239, o240, o241, o242, o243, o244, o245, o246, o247, o248, o249, o250, o251, o252, o253, o254, o255, o256, o257, o258, o259, o260, o261, o262, o263, o264, o265, o266, o267, o268, o269, o270, o271, o272, o273, o274, o275, o276, o277, o278, o279, o280, o281, o282, o283, o284, o285, o286, o287, o288, o289, o290, o291, o292, o293 P, o294, o295, o296, o297, o298, o299, o300, o301, o302, o303, o304, o305, o306 P, o307, o308, o309, o310, o311, o312, o313, o314, o315, o316, o317, o318, o319, o320, o321, o322, o323, o324, o325, o326, o327, o328, o329, o330, o331, o332, o333, o334, o335, o336, o337, o338, o339, o340, o341, o342, o343, o344, o345, o346, o347, o348, o349, o350, o351, o352, o353, o354, o355, o356, o357, o358, o359, o360, o361, o362, o363, o364, o365, o366, o367, o368, o369, o370, o371, o372, o373, o374, o375, o376, o377, o378, o379, o380, o381, o382, o383, o384, o385, o386, o387, o388, o389, o390, o391, o392, o393, o394, o395, o396, o397, o398, o399, o400, o401, o402, o403, o404, o405, o406, o407, o408, o409 P, o410, o411, o412, o413, o414, o415, o416, o417, o418, o419, o420, o421, o422 P, o423, o424, o425, o426, o427, o428, o429, o430, o431, o432, o433, o434, o435, o436, o437, o438, o439, o440, o441, o442, o443, o444, o445, o446, o447, o448, o449, o450, o451, o452, o453, o454, o455, o456, o457, o458, o459, o460, o461, o462, o463, o464, o465, o466, o467, o468, o469, o470, o471, o472, o473, o474, o475, o476, o477, o478, o479, o480, o481, o482, o483, o484, o485, o486, o487, o488, o489, o490, o491, o492, o493, o494, o495, o496, o497, o498, o499, o500, o501, o502, o503, o504, o505, o506, o507, o508, o509, o510, o511, o512, o513, o514, o515, o516, o517, o518, o519, o520, o521, o522, o523, o524, o525, o526, o527, o528, o529, o530, o531, o532, o533, o534, o535, o536, o537, o538, o539, o540, o541, o542, o543 P, o544, o545, o546, o547, o548, o549, o550, o551, o552, o553, o554, o555, o556, o557, o558, o559, o560, o561, o562, o563, o564, o565, o566, o567, o568, o569, o570, o571, o572, o573, o574, o575, o576, o577, o578, o579, o580, o581, o582, o583, o584, o585, o586, o587, o588, o589, o590, o591, o592, o593, o594, o595, o596, o597, o598 P, o599, o600, o601, o602, o603, o604, o605, o606 P, o607, o608, o609, o610, o611, o612, o613, o614, o615, o616, o617, o618, o619, o620, o621, o622, o623, o624, o625, o626, o627, o628, o629, o630, o631, o632, o633, o634, o635, o636, o637, o638, o639, o640, o641, o642, o643, o644, o645, o646, o647, o648, o649, o650, o651, o652, o653, o654 P, o655, o656, o657, o658, o659, o660, o661, o662, o663, o664, o665, o666, o667, o668, o669, o670, o671, o672, o673, o674, o675, o676, o677, o678, o679, o680, o681, o682, o683, o684, o685, o686, o687, o688, o689, o690, o691, o692, o693, o694, o695, o696, o697, o698, o699, o700, o701, o702, o703, o704, o705, o706, o707, o708, o709, o710, o711, o712, o713, o714, o715, o716, o717, o718, o719, o720, o721, o722, o723, o724, o725, o726, o727, o728, o729, o730, o731, o732, o733, o734, o735, o736, o737, o738, o739, o740, o741, o742, o743, o744, o745, o746, o747, o748, o749, o750, o751, o752, o753, o754, o755, o756, o757, o758, o759, o760, o761, o762, o763, o764, o765, o766, o767, o768, o769, o770, o771, o772, o773, o774, o775, o776, o777, o778, o779, o780, o781, o782, o783, o784, o785, o786, o787, o788, o789, o790, o791, o792, o793, o794, o795, o796, o797, o798, o799, o800, o801, o802, o803, o804, o805, o806, o807, o808]⟩, {}⟩
noncomputable def hK (P : Params) : Frag := (nat_lit 2, o2 P) :: (nat_lit 3, o3v12 P) :: (nat_lit 15, o15) :: (nat_lit 18, o18) :: (nat_lit 23, o23) :: (nat_lit 24, o24) :: (nat_lit 25, o25) :: (nat_lit 27, o27) :: (nat_lit 28, o28) :: (nat_lit 30, o30) :: (nat_lit 31, o31) :: (nat_lit 32, o32) :: (nat_lit 33, o33 P) :: (nat_lit 34, o34) :: (nat_lit 35, o35) :: (nat_lit 38, o38) :: (nat_lit 40, o40) :: (nat_lit 41, o41) :: (nat_lit 43, o43) :: (nat_lit 44, o44) :: (nat_lit 45, o45) :: (nat_lit 47, o47) :: (nat_lit 48, o48) :: (nat_lit 50, o50) :: (nat_lit 51, o51) :: (nat_lit 52, o52) :: (nat_lit 54, o54) :: (nat_lit 55, o55) :: (nat_lit 57, o57) :: (nat_lit 58, o58) :: (nat_lit 59, o59) :: (nat_lit 61, o61) :: (nat_lit 62, o62) :: (nat_lit 64, o64) :: (nat_lit 65, o65) :: (nat_lit 66, o66) :: (nat_lit 68, o68) :: (nat_lit 69, o69) :: (nat_lit 71, o71) :: (nat_lit 72, o72) :: (nat_lit 73, o73) :: (nat_lit 75, o75) :: (nat_lit 76, o76) :: (nat_lit 78, o78) :: (nat_lit 79, o79) :: (nat_lit 80, o80) :: (nat_lit 82, o82) :: (nat_lit 83, o83) :: (nat_lit 85, o85) :: (nat_lit 86, o86) :: (nat_lit 87, o87) :: (nat_lit 89, o89) :: (nat_lit 90, o90) :: (nat_lit 92, o92) :: (nat_lit 93, o93) :: (nat_lit 94, o94) :: (nat_lit 96, o96) :: (nat_lit 97, o97) :: (nat_lit 99, o99) :: (nat_lit 100, o100) :: (nat_lit 101, o101) :: (nat_lit 103, o103) :: (nat_lit 104, o104) :: (nat_lit 106, o106) :: (nat_lit 107, o107) :: (nat_lit 108, o108) :: (nat_lit 110, o110) :: (nat_lit 111, o111) :: (nat_lit 113, o113) :: (nat_lit 114, o114) :: (nat_lit 115, o115) :: (nat_lit 117, o117) :: (nat_lit 118, o118) :: (nat_lit 120, o120) :: (nat_lit 121, o121) :: (nat_lit 122, o122) :: (nat_lit 124, o124) :: (nat_lit 125, o125) :: (nat_lit 127, o127) :: (nat_lit 128, o128) :: (nat_lit 129, o129) :: (nat_lit 130, o130) :: (nat_lit 132, o132) :: (nat_lit 133, o133) :: (nat_lit 135, o135) :: (nat_lit 136, o136) :: (nat_lit 137, o137) :: (nat_lit 139, o139) :: (nat_lit 140, o140) :: (nat_lit 142, o142) :: (nat_lit 143, o143) :: (nat_lit 144, o144) :: (nat_lit 146, o146) :: (nat_lit 147, o147) :: (nat_lit 149, o149) :: (nat_lit 150, o150) :: (nat_lit 151, o151) :: (nat_lit 153, o153) :: (nat_lit 154, o154) :: (nat_lit 156, o156) :: (nat_lit 157, o157) :: (nat_lit 158, o158) :: (nat_lit 160, o160) :: (nat_lit 161, o161) :: (nat_lit 163, o163) :: (nat_lit 164, o164) :: (nat_lit 165, o165) :: (nat_lit 167, o167) :: (nat_lit 168, o168) :: (nat_lit 170, o170) :: (nat_lit 171, o171) :: (nat_lit 172, o172) :: (nat_lit 174, o174) :: (nat_lit 175, o175) :: (nat_lit 177, o177) :: (nat_lit 178, o178) :: (nat_lit 179, o179) :: (nat_lit 181, o181) :: (nat_lit 182, o182) :: (nat_lit 184, o184) :: (nat_lit 185, o185) :: (nat_lit 186, o186) :: (nat_lit 188, o188) :: (nat_lit 189, o189) :: (nat_lit 191, o191) :: (nat_lit 192, o192) :: (nat_lit 193, o193) :: (nat_lit 195, o195) :: (nat_lit 196, o196) :: (nat_lit 198, o198) :: (nat_lit 199, o199) :: (nat_lit 200, o200) :: (nat_lit 202, o202) :: (nat_lit 203, o203) :: (nat_lit 205, o205) :: (nat_lit 206, o206) :: (nat_lit 207, o207) :: (nat_lit 209, o209) :: (nat_lit 210, o210) :: (nat_lit 212, o212) :: (nat_lit 213, o213) :: (nat_lit 214, o214) :: (nat_lit 216, o216) :: (nat_lit 217, o217) :: (nat_lit 219, o219) :: (nat_lit 220, o220) :: (nat_lit 221, o221) :: (nat_lit 223, o223) :: (nat_lit 224, o224) :: (nat_lit 226, o226) :: (nat_lit 227, o227) :: (nat_lit 228, o228) :: (nat_lit 230, o230) :: (nat_lit 231, o231) :: (nat_lit 233, o233) :: (nat_lit 234, o234) :: (nat_lit 235, o235) :: (nat_lit 237, o237) :: (nat_lit 238, o238) :: (nat_lit 240, o240) :: (nat_lit 241, o241) :: (nat_lit 242, o242) :: (nat_lit 244, o244) :: (nat_lit 245, o245) :: (nat_lit 247, o247) :: (nat_lit 248, o248) :: (nat_lit 249, o249) :: (nat_lit 251, o251) :: (nat_lit 252, o252) :: (nat_lit 254, o254) :: (nat_lit 255, o255) :: (nat_lit 256, o256) :: (nat_lit 258, o258) :: (nat_lit 259, o259) :: (nat_lit 261, o261) :: (nat_lit 262, o262) :: (nat_lit 263, o263) :: (nat_lit 265, o265) :: (nat_lit 266, o266) :: (nat_lit 268, o268) :: (nat_lit 269, o269) :: (nat_lit 270, o270) :: (nat_lit 272, o272) :: (nat_lit 273, o273) :: (nat_lit 275, o275) :: (nat_lit 276, o276) :: (nat_lit 277, o277) :: (nat_lit 279, o279) :: (nat_lit 280, o280) :: (nat_lit 282, o282) :: (nat_lit 283, o283) :: (nat_lit 284, o284) :: (nat_lit 286, o286) :: (nat_lit 287, o287) :: (nat_lit 289, o289) :: (nat_lit 290, o290) :: (nat_lit 298, o298) :: (nat_lit 300, o300) :: (nat_lit 301, o301) :: (nat_lit 303, o303) :: (nat_lit 304, o304) :: (nat_lit 305, o305) :: (nat_lit 306, o306 P) :: (nat_lit 307, o307) :: (nat_lit 308, o308) :: (nat_lit 309, o309) :: (nat_lit 312, o312) :: (nat_lit 314, o314) :: (nat_lit 315, o315) :: (nat_lit 317, o317) :: (nat_lit 318, o318) :: (nat_lit 319, o319) :: (nat_lit 321, o321) :: (nat_lit 322, o322) :: (nat_lit 324, o324) :: (nat_lit 325, o325) :: (nat_lit 326, o326) :: (nat_lit 328, o328) :: (nat_lit 329, o329) :: (nat_lit 331, o331) :: (nat_lit 332, o332) :: (nat_lit 333, o333) :: (nat_lit 335, o335) :: (nat_lit 336, o336) :: (nat_lit 338, o338) :: (nat_lit 339, o339) :: (nat_lit 340, o340) :: (nat_lit 342, o342) :: (nat_lit 343, o343) :: (nat_lit 345, o345) :: (nat_lit 346, o346) :: (nat_lit 347, o347) :: (nat_lit 349, o349) :: (nat_lit 350, o350) :: (nat_lit 352, o352) :: (nat_lit 353, o353) :: (nat_lit 354, o354) :: (nat_lit 356, o356) :: (nat_lit 357, o357) :: (nat_lit 359, o359) :: (nat_lit 360, o360) :: (nat_lit 361, o361) :: (nat_lit 363, o363) :: (nat_lit 364, o364) :: (nat_lit 366, o366) :: (nat_lit 367, o367) :: (nat_lit 368, o368) :: (nat_lit 371, o371) :: (nat_lit 372, o372) :: (nat_lit 373, o373) :: (nat_lit 376, o376) :: (nat_lit 377, o377) :: (nat_lit 378, o378) :: (nat_lit 379, o379) :: (nat_lit 381, o381) :: (nat_lit 382, o382) :: (nat_lit 384, o384) :: (nat_lit 385, o385) :: (nat_lit 386, o386) :: (nat_lit 388, o388) :: (nat_lit 389, o389) :: (nat_lit 391, o391) :: (nat_lit 392, o392) :: (nat_lit 393, o393) :: (nat_lit 395, o395) :: (nat_lit 396, o396) :: (nat_lit 398, o398) :: (nat_lit 399, o399) :: (nat_lit 400, o400) :: (nat_lit 402, o402) :: (nat_lit 403, o403) :: (nat_lit 405, o405) :: (nat_lit 406, o406) :: (nat_lit 414, o414) :: (nat_lit 416, o416) :: (nat_lit 417, o417) :: (nat_lit 419, o419) :: (nat_lit 420, o420) :: (nat_lit 421, o421) :: (nat_lit 422, o422 P) :: (nat_lit 423, o423) :: (nat_lit 424, o424) :: (nat_lit 425, o425) :: (nat_lit 428, o428) :: (nat_lit 430, o430) :: (nat_lit 431, o431) :: (nat_lit 433, o433) :: (nat_lit 434, o434) :: (nat_lit 435, o435) :: (nat_lit 437, o437) :: (nat_lit 438, o438) :: (nat_lit 440, o440) :: (nat_lit 441, o441) :: (nat_lit 442, o442) :: (nat_lit 444, o444) :: (nat_lit 445, o445) :: (nat_lit 447, o447) :: (nat_lit 448, o448) :: (nat_lit 449, o449) :: (nat_lit 451, o451) :: (nat_lit 452, o452) :: (nat_lit 454, o454) :: (nat_lit 455, o455) :: (nat_lit 456, o456) :: (nat_lit 458, o458) :: (nat_lit 459, o459) :: (nat_lit 461, o461) :: (nat_lit 462, o462) :: (nat_lit 463, o463) :: (nat_lit 465, o465) :: (nat_lit 466, o466) :: (nat_lit 468, o468) :: (nat_lit 469, o469) :: (nat_lit 470, o470) :: (nat_lit 472, o472) :: (nat_lit 473, o473) :: (nat_lit 475, o475) :: (nat_lit 476, o476) :: (nat_lit 477, o477) :: (nat_lit 479, o479) :: (nat_lit 480, o480) :: (nat_lit 482, o482) :: (nat_lit 483, o483) :: (nat_lit 484, o484) :: (nat_lit 486, o486) :: (nat_lit 487, o487) :: (nat_lit 489, o489) :: (nat_lit 490, o490) :: (nat_lit 491, o491) :: (nat_lit 493, o493) :: (nat_lit 494, o494) :: (nat_lit 496, o496) :: (nat_lit 497, o497) :: (nat_lit 498, o498) :: (nat_lit 500, o500) :: (nat_lit 501, o501) :: (nat_lit 503, o503) :: (nat_lit 504, o504) :: (nat_lit 505, o505) :: (nat_lit 506, o506) :: (nat_lit 508, o508) :: (nat_lit 509, o509) :: (nat_lit 511, o511) :: (nat_lit 512, o512) :: (nat_lit 513, o513) :: (nat_lit 515, o515) :: (nat_lit 516, o516) :: (nat_lit 518, o518) :: (nat_lit 519, o519) :: (nat_lit 520, o520) :: (nat_lit 522, o522) :: (nat_lit 523, o523) :: (nat_lit 525, o525) :: (nat_lit 526, o526) :: (nat_lit 527, o527) :: (nat_lit 529, o529) :: (nat_lit 530, o530) :: (nat_lit 532, o532) :: (nat_lit 533, o533) :: (nat_lit 534, o534) :: (nat_lit 536, o536) :: (nat_lit 537, o537) :: (nat_lit 539, o539) :: (nat_lit 540, o540) :: (nat_lit 548, o548) :: (nat_lit 550, o550) :: (nat_lit 551, o551) :: (nat_lit 553, o553) :: (nat_lit 554, o554) :: (nat_lit 555, o555) :: (nat_lit 557, o557) :: (nat_lit 558, o558) :: (nat_lit 560, o560) :: (nat_lit 561, o561) :: (nat_lit 562, o562) :: (nat_lit 564, o564) :: (nat_lit 565, o565) :: (nat_lit 567, o567) :: (nat_lit 568, o568) :: (nat_lit 569, o569) :: (nat_lit 571, o571) :: (nat_lit 572, o572) :: (nat_lit 574, o574) :: (nat_lit 575, o575) :: (nat_lit 576, o576) :: (nat_lit 578, o578) :: (nat_lit 579, o579) :: (nat_lit 581, o581) :: (nat_lit 582, o582) :: (nat_lit 583, o583) :: (nat_lit 585, o585) :: (nat_lit 586, o586) :: (nat_lit 588, o588) :: (nat_lit 589, o589) :: (nat_lit 590, o590) :: (nat_lit 592, o592) :: (nat_lit 593, o593) :: (nat_lit 595, o595) :: (nat_lit 596, o596) :: (nat_lit 597, o597) :: (nat_lit 598, o598 P) :: (nat_lit 599, o599) :: (nat_lit 600, o600) :: (nat_lit 601, o601) :: (nat_lit 611, o611) :: (nat_lit 613, o613) :: (nat_lit 614, o614) :: (nat_lit 616, o616) :: (nat_lit 617, o617) :: (nat_lit 618, o618) :: (nat_lit 620, o620) :: (nat_lit 621, o621) :: (nat_lit 623, o623) :: (nat_lit 624, o624) :: (nat_lit 625, o625) :: (nat_lit 627, o627) :: (nat_lit 628, o628) :: (nat_lit 630, o630) :: (nat_lit 631, o631) :: (nat_lit 632, o632) :: (nat_lit 634, o634) :: (nat_lit 635, o635) :: (nat_lit 637, o637) :: (nat_lit 638, o638) :: (nat_lit 639, o639) :: (nat_lit 641, o641) :: (nat_lit 642, o642) :: (nat_lit 644, o644) :: (nat_lit 645, o645) :: (nat_lit 646, o646) :: (nat_lit 648, o648) :: (nat_lit 649, o649) :: (nat_lit 651, o651) :: (nat_lit 652, o652) :: (nat_lit 653, o653) :: (nat_lit 654, o654 P) :: (nat_lit 655, o655) :: (nat_lit 656, o656) :: (nat_lit 657, o657) :: (nat_lit 660, o660) :: (nat_lit 662, o662) :: (nat_lit 663, o663) :: (nat_lit 665, o665) :: (nat_lit 666, o666) :: (nat_lit 667, o667) :: (nat_lit 668, o668) :: (nat_lit 669, o669) :: (nat_lit 671, o671) :: (nat_lit 672, o672) :: (nat_lit 674, o674) :: (nat_lit 675, o675) :: (nat_lit 676, o676) :: (nat_lit 678, o678) :: (nat_lit 679, o679) :: (nat_lit 681, o681) :: (nat_lit 682, o682) :: (nat_lit 683, o683) :: (nat_lit 685, o685) :: (nat_lit 686, o686) :: (nat_lit 688, o688) :: (nat_lit 689, o689) :: (nat_lit 690, o690) :: (nat_lit 693, o693) :: (nat_lit 694, o694) :: (nat_lit 695, o695) :: (nat_lit 697, o697) :: (nat_lit 698, o698) :: (nat_lit 700, o700) :: (nat_lit 701, o701) :: (nat_lit 702, o702) :: (nat_lit 704, o704) :: (nat_lit 705, o705) :: (nat_lit 707, o707) :: (nat_lit 708, o708) :: (nat_lit 709, o709) :: (nat_lit 711, o711) :: (nat_lit 712, o712) :: (nat_lit 714, o714) :: (nat_lit 715, o715) :: (nat_lit 716, o716) :: (nat_lit 719, o719) :: (nat_lit 720, o720) :: (nat_lit 721, o721) :: (nat_lit 723, o723) :: (nat_lit 724, o724) :: (nat_lit 726, o726) :: (nat_lit 727, o727) :: (nat_lit 728, o728) :: (nat_lit 730, o730) :: (nat_lit 731, o731) :: (nat_lit 733, o733) :: (nat_lit 734, o734) :: (nat_lit 735, o735) :: (nat_lit 737, o737) :: (nat_lit 738, o738) :: (nat_lit 740, o740) :: (nat_lit 741, o741) :: (nat_lit 742, o742) :: (nat_lit 744, o744) :: (nat_lit 745, o745) :: (nat_lit 747, o747) :: (nat_lit 748, o748) :: (nat_lit 749, o749) :: (nat_lit 751, o751) :: (nat_lit 752, o752) :: (nat_lit 754, o754) :: (nat_lit 755, o755) :: (nat_lit 756, o756) :: (nat_lit 759, o759) :: (nat_lit 760, o760) :: (nat_lit 761, o761) :: (nat_lit 764, o764) :: (nat_lit 765, o765) :: (nat_lit 766, o766) :: (nat_lit 768, o768) :: (nat_lit 769, o769) :: (nat_lit 771, o771) :: (nat_lit 772, o772) :: (nat_lit 773, o773) :: (nat_lit 775, o775) :: (nat_lit 776, o776) :: (nat_lit 778, o778) :: (nat_lit 779, o779) :: (nat_lit 780, o780) :: (nat_lit 782, o782) :: (nat_lit 783, o783) :: (nat_lit 785, o785) :: (nat_lit 786, o786) :: (nat_lit 787, o787) :: (nat_lit 789, o789) :: (nat_lit 790, o790) :: (nat_lit 792, o792) :: (nat_lit 793, o793) :: (nat_lit 794, o794) :: (nat_lit 797, o797) :: (nat_lit 798, o798) :: (nat_lit 799, o799) :: (nat_lit 802, o802) :: (nat_lit 803, o803) :: (nat_lit 804, o804) :: (nat_lit 807, o807) :: (nat_lit 808, o808) :: []
noncomputable def hAs : List Addr := [2, 3, 15, 18, 23, 24, 25, 27, 28, 30, 31, 32, 33, 34, 35, 38, 40, 41, 43, 44, 45, 47, 48, 50, 51, 52, 54, 55, 57, 58, 59, 61, 62, 64, 65, 66, 68, 69, 71, 72, 73, 75, 76, 78, 79, 80, 82, 83, 85, 86, 87, 89, 90, 92, 93, 94, 96, 97, 99, 100, 101, 103, 104, 106, 107, 108, 110, 111, 113, 114, 115, 117, 118, 120, 121, 122, 124, 125, 127, 128, 129, 130, 132, 133, 135, 136, 137, 139, 140, 142, 143, 144, 146, 147, 149, 150, 151, 153, 154, 156, 157, 158, 160, 161, 163, 164, 165, 167, 168, 170, 171, 172, 174, 175, 177, 178, 179, 181, 182, 184, 185, 186, 188, 189, 191, 192, 193, 195, 196, 198, 199, 200, 202, 203, 205, 206, 207, 209, 210, 212, 213, 214, 216, 217, 219, 220, 221, 223, 224, 226, 227, 228, 230, 231, 233, 234, 235, 237, 238, 240, 241, 242, 244, 245, 247, 248, 249, 251, 252, 254, 255, 256, 258, 259, 261, 262, 263, 265, 266, 268, 269, 270, 272, 273, 275, 276, 277, 279, 280, 282, 283, 284, 286, 287, 289, 290, 298, 300, 301, 303, 304, 305, 306, 307, 308, 309, 312, 314, 315, 317, 318, 319, 321, 322, 324, 325, 326, 328, 329, 331, 332, 333, 335, 336, 338, 339, 340, 342, 343, 345, 346, 347, 349, 350, 352, 353, 354, 356, 357, 359, 360, 361, 363, 364, 366, 367, 368, 371, 372, 373, 376, 377, 378, 379, 381, 382, 384, 385, 386, 388, 389, 391, 392, 393, 395, 396, 398, 399, 400, 402, 403, 405, 406, 414, 416, 417, 419, 420, 421, 422, 423, 424, 425, 428, 430, 431, 433, 434, 435, 437, 438, 440, 441, 442, 444, 445, 447, 448, 449, 451, 452, 454, 455, 456, 458, 459, 461, 462, 463, 465, 466, 468, 469, 470, 472, 473, 475, 476, 477, 479, 480, 482, 483, 484, 486, 487, 489, 490, 491, 493, 494, 496, 497, 498, 500, 501, 503, 504, 505, 506, 508, 509, 511, 512, 513, 515, 516, 518, 519, 520, 522, 523, 525, 526, 527, 529, 530, 532, 533, 534, 536, 537, 539, 540, 548, 550, 551, 553, 554, 555, 557, 558, 560, 561, 562, 564, 565, 567, 568, 569, 571, 572, 574, 575, 576, 578, 579, 581, 582, 583, 585, 586, 588, 589, 590, 592, 593, 595, 596, 597, 598, 599, 600, 601, 611, 613, 614, 616, 617, 618, 620, 621, 623, 624, 625, 627, 628, 630, 631, 632, 634, 635, 637, 638, 639, 641, 642, 644, 645, 646, 648, 649, 651, 652, 653, 654, 655, 656, 657, 660, 662, 663, 665, 666, 667, 668, 669, 671, 672, 674, 675, 676, 678, 679, 681, 682, 683, 685, 686, 688, 689, 690, 693, 694, 695, 697, 698, 700, 701, 702, 704, 705, 707, 708, 709, 711, 712, 714, 715, 716, 719, 720, 721, 723, 724, 726, 727, 728, 730, 731, 733, 734, 735, 737, 738, 740, 741, 742, 744, 745, 747, 748, 749, 751, 752, 754, 755, 756, 759, 760, 761, 764, 765, 766, 768, 769, 771, 772, 773, 775, 776, 778, 779, 780, 782, 783, 785, 786, 787, 789, 790, 792, 793, 794, 797, 798, 799, 802, 803, 804, 807, 808]
noncomputable def hKeep : List Nat := [1, 2, 3, 4, 5, 6, 7, 8, 9, 10, 11, 12, 13, 14, 15, 16, 18, 19, 20, 21, 22, 23, 24, 25, 26, 27, 28, 29, 31, 32, 33, 34, 35, 36, 37, 38, 39, 40, 41, 42, 43, 45, 46, 47, 48, 49, 50, 51, 52, 53, 54, 55, 56, 58, 59, 60, 62, 63, 64, 65, 66, 67, 68, 69, 70, 71, 72, 73, 75, 76, 77, 78, 79, 80, 81, 83, 85, 87, 88, 89, 90, 91, 92, 93, 94, 95, 96, 98, 99, 100, 101, 102, 103, 104, 105, 106, 107, 108, 109, 110, 111]
noncomputable def hLoose : List Str := [Str.ofString "BasicError", Str.ofString "wend_place"]
noncomputable abbrev hD : DefRec := ⟨Str.ofString "law", (PySem.Arguments.mk [] [(PySem.Arg.mk (Str.ofString "script") Option.none (PySem.Pos.mk 636 8 636 14))] Option.none [] [] Option.none []), hB (hst 111), (PySem.Scope.mk PySem.ScopeKind.function [((Str.ofString "script"), PySem.NameKind.local), ((Str.ofString "bag"), PySem.NameKind.cell), ((Str.ofString "rounds"), PySem.NameKind.local), ((Str.ofString "name"), PySem.NameKind.local), ((Str.ofString "values"), PySem.NameKind.cell), ((Str.ofString "statements"), PySem.NameKind.local), ((Str.ofString "needs"), PySem.NameKind.cell), ((Str.ofString "at"), PySem.NameKind.local), ((Str.ofString "slice_alone"), PySem.NameKind.local), ((Str.ofString "others"), PySem.NameKind.local), ((Str.ofString "whole"), PySem.NameKind.local), ((Str.ofString "alone"), PySem.NameKind.local), ((Str.ofString "more"), PySem.NameKind.local), ((Str.ofString "statement"), PySem.NameKind.local), ((Str.ofString "_law_got"), PySem.NameKind.globalImplicit), ((Str.ofString "dict"), PySem.NameKind.globalImplicit), ((Str.ofString "range"), PySem.NameKind.globalImplicit), ((Str.ofString "_law_slice"), PySem.NameKind.globalImplicit), ((Str.ofString "_law_run"), PySem.NameKind.globalImplicit), ((Str.ofString "_law_lines"), PySem.NameKind.globalImplicit), ((Str.ofString "_law_value"), PySem.NameKind.globalImplicit)] Bool.false Bool.false [((Str.ofString "fast"), (PySem.Const.str (Str.ofString "script"))), ((Str.ofString "fast"), (PySem.Const.str (Str.ofString "bag"))), ((Str.ofString "fast"), (PySem.Const.str (Str.ofString "rounds"))), ((Str.ofString "fast"), (PySem.Const.str (Str.ofString "name"))), ((Str.ofString "fast"), (PySem.Const.str (Str.ofString "values"))), ((Str.ofString "fast"), (PySem.Const.str (Str.ofString "turn"))), ((Str.ofString "fast"), (PySem.Const.str (Str.ofString "statements"))), ((Str.ofString "fast"), (PySem.Const.str (Str.ofString "needs"))), ((Str.ofString "fast"), (PySem.Const.str (Str.ofString "at"))), ((Str.ofString "fast"), (PySem.Const.str (Str.ofString "slice_alone"))), ((Str.ofString "fast"), (PySem.Const.str (Str.ofString "others"))), ((Str.ofString "fast"), (PySem.Const.str (Str.ofString "whole"))), ((Str.ofString "fast"), (PySem.Const.str (Str.ofString "alone"))), ((Str.ofString "fast"), (PySem.Const.str (Str.ofString "more"))), ((Str.ofString "fast"), (PySem.Const.str (Str.ofString "statement"))), ((Str.ofString "fast"), (PySem.Const.str (Str.ofString "one")))]), (PySem.Pos.mk 636 0 657 86)⟩
theorem pc1 : hPc 0 7 369 tree1 15 187 (PySem.Pos.mk 0 0 0 0) tree2 59 254 (PySem.Pos.mk 20 0 29 16) := by intro w; kernel_rfl
theorem pc2 : hPc 7 15 394 tree2 59 254 (PySem.Pos.mk 20 0 29 16) tree3 144 360 (PySem.Pos.mk 86 0 88 76) := by intro w; kernel_rfl
theorem pc3 : hPc 22 13 394 tree3 144 360 (PySem.Pos.mk 86 0 88 76) tree4 228 482 (PySem.Pos.mk 136 0 140 53) := by intro w; kernel_rfl
theorem pc4 : hPc 35 11 306 tree4 228 482 (PySem.Pos.mk 136 0 140 53) tree5 291 575 (PySem.Pos.mk 195 0 195 11) := by intro w; kernel_rfl
theorem pc5 : hPc 46 6 379 tree5 291 575 (PySem.Pos.mk 195 0 195 11) tree6 347 650 (PySem.Pos.mk 218 0 219 85) := by intro w; kernel_rfl
theorem pc6 : hPc 52 10 290 tree6 347 650 (PySem.Pos.mk 218 0 219 85) tree7 407 737 (PySem.Pos.mk 272 0 272 8) := by intro w; kernel_rfl
theorem pc7 : hPc 62 6 393 tree7 407 737 (PySem.Pos.mk 272 0 272 8) tree8 463 826 (PySem.Pos.mk 323 0 327 30) := by intro w; kernel_rfl
theorem pc8 : hPc 68 13 388 tree8 463 826 (PySem.Pos.mk 323 0 327 30) tree9 541 955 (PySem.Pos.mk 405 0 412 17) := by intro w; kernel_rfl
theorem pc9 : hPc 81 1 431 tree9 541 955 (PySem.Pos.mk 405 0 412 17) tree10 604 1048 (PySem.Pos.mk 413 0 455 54) := by intro w; kernel_rfl
theorem pc10 : hPc 82 1 10 tree10 604 1048 (PySem.Pos.mk 413 0 455 54) tree11 604 1050 (PySem.Pos.mk 456 0 456 8) := by intro w; kernel_rfl
theorem pc11 : hPc 83 1 394 tree11 604 1050 (PySem.Pos.mk 456 0 456 8) tree12 660 1130 (PySem.Pos.mk 457 0 485 42) := by intro w; kernel_rfl
theorem pc12 : hPc 84 16 389 tree12 660 1130 (PySem.Pos.mk 457 0 485 42) tree13 735 1241 (PySem.Pos.mk 561 0 563 65) := by intro w; kernel_rfl
theorem pc13 : hPc 100 12 363 tree13 735 1241 (PySem.Pos.mk 561 0 563 65) tree14 809 1349 (PySem.Pos.mk 636 0 657 86) := by intro w; kernel_rfl
end Mine
end
section
open PySem PySem.W PySem.Calls PyProof.Rows PySem.W.Fast
set_option maxRecDepth 100000
set_option maxHeartbeats 0
set_option linter.unusedVariables false
namespace Mine
noncomputable def hQ : Program := view hP hKeep
noncomputable abbrev hs (k : Nat) (w : World) (os : OsState) : Shared := { heap := heapF w.params, gens := #[], drawn := {}, toks := k, os := os }
noncomputable abbrev hXt : Shared → Bool := fun s => xlAt hQ [] s && recOk (RowW.records hL.row.toRowW) s
theorem hwell : hL.wellSaid = true := by rw [te9446332074065402090]; kernel_rfl
theorem hopen1 : opening hP = plainProg hP.main.scope.names := by kernel_rfl
theorem hfence : ∀ s, fenceModules? hP s = some s := by intro s; kernel_rfl
theorem hsize : ∀ w : World, ((boot_heap w.params).isNs mainGlobals && (#[] : Array GenState).size == 0, (boot_heap w.params).objs.size, (boot_heap w.params).nsMap mainGlobals "__annotations__") = (true, 11, some (.ref 6)) := by
  rw [te8920871248978507458]; intro w; kernel_rfl
theorem hpre : ∀ w : World, (fun os => topGo treeTable hP w 11 (some (.ref 6)) 12 ⟨boot_heap w.params, #[], boot_drawn, boot_toks, os⟩ (topStub hP)) = fun os => some ((⟨heapA w.params, #[], {}, 187, os⟩ : Shared), (⟨denote treeTable hC, hC, hpos, hF⟩ : Thread)) := by
  rw [te15667345088766844465, te14364793385576792824, te11892475500146522536]; intro w; kernel_rfl
theorem hblock : ∀ w : World, (fun os => segRun treeTable hP w 11 (some (.ref 6)) 1 1 (⟨heapA w.params, #[], {}, 187, os⟩ : Shared) (blockOf (behindTheImports hP) hEnv hC hpos hF)) =
   fun os => some (Flow.next, SharedT.abs { tree := tree1 w.params, n := 15, life := {}, gens := #[], drawn := {}, toks := 187, os := os }, hC, hpos) := by
  rw [te14374325043358763698, te14364793385576792824]; intro w; kernel_rfl
theorem hfin (q : Pos) : ∀ w : World, (fun os => topRun treeTable hP w 11 (some (.ref 6)) 2 (SharedT.abs { tree := tree14 w.params, n := 809, life := {}, gens := #[], drawn := {}, toks := 1349, os := os }) ⟨doneF .next, hC, q, hF⟩) =
   fun os => some (hs 1349 w os) := by
  rw [te14082659384304107361, te14364793385576792824]; intro w; kernel_rfl
theorem lk1 : ∀ w : World, (fun os => (staticsOk (importedModules hP.main.body) (boot_heap w.params) (heapF w.params) && namesBound hP (heapF w.params) && gensDone (hs 1349 w os) && laidKept (boot_heap w.params) (heapF w.params))) = fun _ => true := by
  rw [te5923862056798008813]; intro w; kernel_rfl
theorem sn1 : ∀ w : World, (fun os => seen ((recsOf hQ).map (·.name)) (ownsOf hQ) [] { (hs 1349 w os) with gens := #[] }) = fun _ => expectedOf hQ := by
  rw [te5160383126252970620, te3399658132070893891, te5991557255702980513]; intro w; kernel_rfl
theorem sn2 : ∀ w : World, (fun os => (hs 1349 w os).heap.bltView) = fun _ => bltViewBooted := by intro w; kernel_rfl
theorem sn3 : ∀ w : World, (fun os => ((hs 1349 w os).heap.keysOk (looseW hQ hLoose) ((recsOf hQ).map (·.name)) ((litsOf hQ).map (·.1)) ((clssOf hQ (looseW hQ hLoose)).map (·.name)) && (hs 1349 w os).heap.accountedOkI (importedModules hP.main.body) && (hs 1349 w os).heap.isNs mainGlobals && (hs 1349 w os).heap.isNs builtinsNs && tablesOk hQ (hs 1349 w os).heap && hXt (hs 1349 w os) && (if true then (hs 1349 w os).gens.size == 0 else !leftWithCleanup (hs 1349 w os).gens))) = fun _ => true := by
  rw [te10880121769531294198, te821141287760084731, te3399658132070893891, te7409074990110511671, te13664370479719496447, te14722251495701143533, te5923862056798008813, te10994771534591457954]; intro w; kernel_rfl
theorem sn4 : ∀ w : World, (fun os => tabsOk hQ (hs 1349 w os)) = fun _ => true := by rw [te479339242167458305]; intro w; kernel_rfl
theorem sn5 : ∀ w : World, (fun os => pinSeenD hQ (drecsOf hQ) (hs 1349 w os)) = fun _ => pinGoodD (drecsOf hQ) := by rw [te16090120013241838585, te3247288618530077131]; intro w; kernel_rfl
theorem sn6 : ∀ w : World, (fun os => plainSeenE hQ (looseW hQ hLoose) (hs 1349 w os)) = fun _ => plainGoodE hQ (looseW hQ hLoose) := by rw [te2386780881361962483, te821141287760084731]; intro w; kernel_rfl
theorem sn7 : ∀ w : World, (fun os => plainSeenD hQ hLoose (hs 1349 w os)) = fun _ => plainGoodD hQ hLoose := by rw [te11698064438423848299]; intro w; kernel_rfl
theorem sn8 : ∀ w : World, (fun os => wideSeen hQ (hs 1349 w os)) = fun _ => wideGood hQ := by rw [te7317090234206586261]; intro w; kernel_rfl
theorem sn9 : ∀ w : World, (fun os => clsSeenW hQ hLoose (hs 1349 w os)) = fun _ => clsGoodW hQ hLoose := by rw [te7369524293546568484]; intro w; kernel_rfl
theorem he : ∀ P, hAs = (hK P).map (·.1) := fun _ => by kernel_rfl
noncomputable abbrev hH : Hook := kHook hK hAs he
theorem sn10 : ∀ w : World, (fun os => hH.obs (hs 1349 w os)) = fun _ => hH.val w := by intro w; kernel_rfl
end Mine
end
section
open PySem PySem.W PySem.Calls PyProof.Rows PySem.W.Fast
set_option maxRecDepth 100000
set_option maxHeartbeats 0
set_option linter.unusedVariables false
namespace Mine
theorem hpiece {a n N m k m' k' : Nat} {T T' : Params → BT} {q q' : Pos} (h : hPc a n N T m k q T' m' k' q') {M : Nat} {r : Shared} {w : World} {os : OsState} {rest : List Stmt}
    (g : topRun treeTable hP w 11 (some (.ref 6)) M (SharedT.abs { tree := T' w.params, n := m', life := {}, gens := #[], drawn := {}, toks := k', os := os }) (restOf rest hEnv hC q' hF) = some r) :
    topRun treeTable hP w 11 (some (.ref 6)) (N + M) (SharedT.abs { tree := T w.params, n := m, life := {}, gens := #[], drawn := {}, toks := k, os := os }) (restOf ((((behindTheImports hP).drop a).take n) ++ rest) hEnv hC q hF) = some r := by
  have h' := congrFun (h w) os
  rw [← te10110043849684766642, ← te14364793385576792824] at h'
  exact piece_app (segRun_of h') g
theorem hcut (a n : Nat) (l : List Stmt) : (l.drop a).take n ++ l.drop (a + n) = l.drop a := by rw [← List.drop_drop]; exact List.take_append_drop n (l.drop a)
theorem hpiece' {a n N m k m' k' : Nat} {T T' : Params → BT} {q q' : Pos} (h : hPc a n N T m k q T' m' k' q') (b : Nat) (e : a + n = b) {M : Nat} {r : Shared} {w : World} {os : OsState}
    (g : topRun treeTable hP w 11 (some (.ref 6)) M (SharedT.abs { tree := T' w.params, n := m', life := {}, gens := #[], drawn := {}, toks := k', os := os }) (restOf ((behindTheImports hP).drop b) hEnv hC q' hF) = some r) :
    topRun treeTable hP w 11 (some (.ref 6)) (N + M) (SharedT.abs { tree := T w.params, n := m, life := {}, gens := #[], drawn := {}, toks := k, os := os }) (restOf ((behindTheImports hP).drop a) hEnv hC q hF) = some r := by
  subst e
  have := hpiece h g
  rwa [hcut] at this
theorem hlast : (behindTheImports hP).drop 112 = [] := by kernel_rfl
theorem hrun (w : World) (os : OsState) : topRun treeTable hP w 11 (some (.ref 6)) (12 + (1 + (369 + (394 + (394 + (306 + (379 + (290 + (393 + (388 + (431 + (10 + (394 + (389 + (363 + 2)))))))))))))))  ⟨boot_heap w.params, #[], boot_drawn, boot_toks, os⟩ (topStub hP) = some (hs 1349 w os) := by
  refine go_top (congrFun (hpre w) os) ?_
  refine piece_block (congrFun (hblock w) os) ?_
  refine hpiece' pc1 7 rfl ?_
  refine hpiece' pc2 22 rfl ?_
  refine hpiece' pc3 35 rfl ?_
  refine hpiece' pc4 46 rfl ?_
  refine hpiece' pc5 52 rfl ?_
  refine hpiece' pc6 62 rfl ?_
  refine hpiece' pc7 68 rfl ?_
  refine hpiece' pc8 81 rfl ?_
  refine hpiece' pc9 82 rfl ?_
  refine hpiece' pc10 83 rfl ?_
  refine hpiece' pc11 84 rfl ?_
  refine hpiece' pc12 100 rfl ?_
  refine hpiece' pc13 112 rfl ?_
  rw [hlast]
  exact piece_nil (congrFun (hfin _ w) os)
theorem hlooks (w : World) : (fun os => ((staticsOk (importedModules hP.main.body) (boot_heap w.params) (heapF w.params) && namesBound hP (heapF w.params) && gensDone (hs 1349 w os) && laidKept (boot_heap w.params) (heapF w.params)),
        openSeen hQ hLoose (importedModules hP.main.body) hXt true (hs 1349 w os), hH.obs (hs 1349 w os))) = fun _ => (true, openGood hQ hLoose, hH.val w) :=
  funext fun os => looks_pair (congrFun (lk1 w) os) (looks_pair (looks_pair (congrFun (sn1 w) os) (looks_pair (congrFun (sn2 w) os) (looks_pair (congrFun (sn3 w) os) (looks_pair (congrFun (sn4 w) os) (looks_pair (congrFun (sn5 w) os) (looks_pair (congrFun (sn6 w) os) (looks_pair (congrFun (sn7 w) os) (looks_pair (congrFun (sn8 w) os) (congrFun (sn9 w) os))))))))) (congrFun (sn10 w) os))
theorem hleft : LeftO hP hQ hLoose hXt hH.obs hH.val 9000 :=
  LeftO.of_pieces (g0 := true) (m₀ := 11) (ann := some (.ref 6)) (boot_open hopen1 (by decide) hfence) hsize hrun (by decide) hlooks
theorem hdef : defOf hQ hL.row.toRowW.name = some (hD, []) := by kernel_rfl
theorem hthe : hP.theDef hL.row.toRowW.name = some (hD.params, hD.body, hD.scope) := by kernel_rfl
theorem hkw : kwWritten? hD.params.kwonlyargs hD.params.kw_defaults = some [] := by kernel_rfl
theorem hchain : (chainsOk hQ && opensWell hP && (frees hL.row.toRowW && hL.row.toRowW.within.isEmpty)) = true := by kernel_rfl
theorem hbare : hP.bare := ⟨rfl, rfl, rfl, rfl, rfl, by kernel_rfl⟩
theorem hprom : PySem.Challenge.rw_xm0046_02.row.toRowW.promised := by w_on; w_witness2
theorem hwrt : (!hL.row.writes || hL.row.toRowW.records.isEmpty) = true := by kernel_rfl
theorem hd (walk : WalkO hQ hLoose (XL hQ []) (kHook hK hAs he).says PySem.Challenge.rw_xm0046_02.row.toRowW hD [] fun f vs => PySem.call f vs) : PySem.Challenge.rw_xm0046_02.Holds :=
  holds_law hwell fun said => holds_open hleft (kHook hK hAs he).of (kHook hK hAs he).keeps (fun s e => xl_of s (Bool.and_eq_true_iff.mp e).1) XL.keeps hdef hthe hkw (fun s e => recFacts_of (Bool.and_eq_true_iff.mp e).2) hwrt said hchain hbare hprom walk
end Mine
end
section
open PySem PySem.W PySem.Calls PyProof.Rows
set_option maxRecDepth 100000
set_option linter.unusedVariables false
namespace Mine
noncomputable def fdOf (o : Obj) : FuncData := match o.data with | .func fd => fd | _ => default
noncomputable abbrev ref (a : Nat) : V := .raw (.ref a)
noncomputable abbrev bi (x : String) : V := .raw (.builtin x)
noncomputable abbrev ty (x : String) : V := .raw (.type x)
noncomputable def fnChk (K : Frag) (o : Obj) (ps : List Str) : Bool := (codeIn K (fdOf o).code (fdOf o).qualname && ((fdOf o).closure.isEmpty && ((fdOf o).globals == mainGlobals && ((fdOf o).builtins == builtinsNs && (ps.all (kindB ⟨(fdOf o).scope, .none⟩) && (!(fdOf o).scope.isCoroutine && (!(fdOf o).scope.isGenerator && (fdOf o).scope.kind == .function)))))))
theorem len0 {P : List Value → Prop} (h : P []) : ∀ vals : List Value, vals.length = 0 → P vals := fun vals e => by rw [List.eq_nil_of_length_eq_zero e]; exact h
theorem lenS {P : List Value → Prop} {n : Nat} (h : ∀ a, ∀ vals : List Value, vals.length = n → P (a :: vals)) : ∀ vals : List Value, vals.length = n + 1 → P vals := fun vals e => by
  cases vals with
  | nil => cases e
  | cons a r => exact h a r (Nat.succ.inj e)
theorem len1 {P : List Value → Prop} (h : ∀ a, P [a]) : ∀ vals : List Value, vals.length = 1 → P vals := lenS fun a => len0 (h a)
theorem len2 {P : List Value → Prop} (h : ∀ a b, P [a, b]) : ∀ vals : List Value, vals.length = 2 → P vals := lenS fun a => len1 (h a)
theorem len3 {P : List Value → Prop} (h : ∀ a b c, P [a, b, c]) : ∀ vals : List Value, vals.length = 3 → P vals := lenS fun a => len2 (h a)
theorem len4 {P : List Value → Prop} (h : ∀ a b c d, P [a, b, c, d]) : ∀ vals : List Value, vals.length = 4 → P vals := lenS fun a => len3 (h a)
theorem len5 {P : List Value → Prop} (h : ∀ a b c d e, P [a, b, c, d, e]) : ∀ vals : List Value, vals.length = 5 → P vals := lenS fun a => len4 (h a)
theorem len6 {P : List Value → Prop} (h : ∀ a b c d e f, P [a, b, c, d, e, f]) : ∀ vals : List Value, vals.length = 6 → P vals := lenS fun a => len5 (h a)
theorem fnAt_of {c : Cx} {a : Addr} {o : Obj} {ps : List Str} {body : List Stmt} (X : c.K.In c.hb) (hl : c.K.lookup a = some o) (h0 : o.data = .func (fdOf o)) (hc : fnChk c.K o ps = true) (h3 : (fdOf o).body = .stmts body)
    (h8 : ∀ vals : List Value, vals.length = ps.length → bindArgs (fdOf o) ⟨vals, []⟩ = pure (ps.zip vals)) : FnAt c a (fdOf o) ps body := by
  obtain ⟨h1, hc⟩ := and2 hc
  obtain ⟨h2, hc⟩ := and2 hc
  obtain ⟨h4, hc⟩ := and2 hc
  obtain ⟨h5, hc⟩ := and2 hc
  obtain ⟨h6, hc⟩ := and2 hc
  obtain ⟨h7, hc⟩ := and2 hc
  obtain ⟨h9, hc⟩ := and2 hc
  exact ⟨⟨o, X _ _ hl, h0⟩, codeRec_of X h1, h3, List.isEmpty_iff.mp h2, beq_iff_eq.mp h4, beq_iff_eq.mp h5, kindB_all h6, h8, by simpa using h7, by simpa using h9, beq_iff_eq.mp hc⟩
theorem set_hit {σ : St} {n : Nat} {o o' : SO} (h : σ[n]? = some o) : (σ.set n o')[n]? = some o' := List.getElem?_set_self (List.getElem?_eq_some_iff.mp h).1
theorem set_miss {σ : St} {n m : Nat} {o o' : SO} (hn : n ≠ m) (h : σ[m]? = some o) : (σ.set n o')[m]? = some o := by rw [List.getElem?_set_ne hn]; exact h
theorem app_l {σ t : St} {n : Nat} {o : SO} (h : σ[n]? = some o) : (σ ++ t)[n]? = some o := by rw [List.getElem?_append_left (List.getElem?_eq_some_iff.mp h).1]; exact h
theorem app_0 {σ t : St} {o : SO} : (σ ++ o :: t)[σ.length]? = some o := by simp
theorem app_k {σ t : St} {k : Nat} {o : SO} (h : t[k]? = some o) : (σ ++ t)[σ.length + k]? = some o := by rw [List.getElem?_append_right (by omega)]; simpa using h
theorem set_app0 {σ t : St} {o : SO} : (σ ++ t).set σ.length o = σ ++ t.set 0 o := by rw [List.set_append_right _ _ (Nat.le_refl _)]; simp
theorem set_appk {σ t : St} {k : Nat} {o : SO} : (σ ++ t).set (σ.length + k) o = σ ++ t.set k o := by rw [List.set_append_right _ _ (by omega)]; simp
structure CB where
  w : World
  hb : Heap
  g : Array GenState
  os : OsState
  low : ∃ o, hb.get? 2 = some o
noncomputable abbrev gn (x : String) (v : V) : Str × V := (Str.ofString x, v)
noncomputable def GL : List (Str × V) := [(gn "_law_got" <| (ref 727)), (gn "_law_leaf" <| (ref 734)), (gn "_law_two" <| (ref 741)), (gn "_law_let" <| (ref 748)), (gn "_law_statement" <| (ref 755)), (gn "_law_names" <| (ref 760)), (gn "_law_back" <| (ref 765)), (gn "_law_slice" <| (ref 772)), (gn "_law_noted" <| (ref 779)), (gn "_law_lines" <| (ref 786)), (gn "_law_worth" <| (ref 793)), (gn "_law_run" <| (ref 798)), (gn "_law_value" <| (ref 803)), (gn "kind_of" <| (ref 44)), (gn "fits" <| (ref 79)), (gn "is_nought" <| (ref 107)), (gn "is_true" <| (ref 114)), (gn "truth" <| (ref 121)), (gn "sign_of" <| (ref 128)), (gn "is_whole" <| (ref 206)), (gn "settled" <| (ref 213)), (gn "whole_reckoned" <| (ref 220)), (gn "reckoned" <| (ref 262)), (gn "order_of" <| (ref 276)), (gn "put_upon" <| (ref 318)), (gn "floor_of" <| (ref 325)), (gn "found_at" <| (ref 332)), (gn "cut_to" <| (ref 339)), (gn "is_past" <| (ref 346)), (gn "for_begin" <| (ref 353)), (gn "for_name" <| (ref 360)), (gn "for_next" <| (ref 367)), (gn "put_row_of" <| (ref 434)), (gn "put_if" <| (ref 441)), (gn "put_all" <| (ref 448)), (gn "gather" <| (ref 455)), (gn "end_loops" <| (ref 469)), (gn "flatten" <| (ref 476)), (gn "next_of_for" <| (ref 504)), (gn "do_flow" <| (ref 512)), (gn "do_jump" <| (ref 519)), (gn "do_loop" <| (ref 526)), (gn "do_for" <| (ref 533)), (gn "next_from" <| (ref 540)), (gn "parts_of_tree" <| (ref 666)), (gn "compared" <| (ref 682)), (gn "worth_of_two" <| (ref 694)), (gn "worth_of_leaf" <| (ref 708)), (gn "worth_of_tree" <| (ref 715)), (gn "worth" <| (ref 720)), (gn "Control" <| (ref 307)), (gn "Flat" <| (ref 423)), (gn "FlowRun" <| (ref 599)), (gn "PlainHooks" <| (ref 655)), (gn "LOGIC" <| (.tup ((["AND", "OR", "XOR", "EQV", "IMP"] : List Str).map .str))), (gn "COMPARISONS" <| (.tup ((["=", "<>", "<", ">", "<=", ">="] : List Str).map .str))), (gn "JUMPS" <| (.tup ((["IFNOT", "JUMP", "GOTO", "GOSUB", "ONGO", "RETURN"] : List Str).map .str))), (gn "len" <| (bi "len")), (gn "abs" <| (bi "abs")), (gn "isinstance" <| (bi "isinstance")), (gn "sorted" <| (bi "sorted")), (gn "max" <| (bi "max")), (gn "str" <| (ty "str")), (gn "tuple" <| (ty "tuple")), (gn "dict" <| (ty "dict")), (gn "range" <| (ty "range")), (gn "enumerate" <| (ty "enumerate")), (gn "reversed" <| (ty "reversed")), (gn "set" <| (ty "set"))]
noncomputable def mkC (b : CB) : Cx := { prog := PySem.Challenge.rw_xm0046_02.row.prog, w := b.w, hb := b.hb, K := hK b.w.params, gl := GL, gens := b.g, os := b.os, low := b.low }
theorem gl_ok (b : CB) : (mkC b).gl.map (fun q => valIn (mkC b).K q) = (mkC b).gl.map (fun q => some q.2) := by kernel_rfl
theorem gl_names : GL.all (fun q => q.1 != "__name__") = true := by kernel_rfl
noncomputable def keepV (K : Frag) (v : V) : Bool := match v with
  | .raw u => (match u with | .builtin _ => true | .type _ => true | u => keepIn K u)
  | _ => true
theorem gl_keep (b : CB) : (mkC b).gl.all (fun q => keepV (mkC b).K q.2) = true := by kernel_rfl
theorem keepV_ok {c : Cx} (C : CxOk c) {v : V} (h : keepV c.K v = true) (hr : isRaw v = true) (σ : St) : Kp c σ v := by
  cases v with
  | raw u => cases u with
    | builtin id => exact Kp_builtin
    | type id => exact Kp_type
    | _ => exact Kp_K C h
  | _ => cases hr
theorem CxK.of {b : CB} (C : CxOk (mkC b)) : CxK (mkC b) := ⟨C, fun x v e hr σ => keepV_ok C (List.all_eq_true.mp (gl_keep b) _ (get_mem' e)) hr σ⟩
section
variable {b : CB}
theorem fn_727 (C : CxK (mkC b)) : FnAt (mkC b) 727 (fdOf o727) ["bag", "below"] (hB  (hst 98)) := fnAt_of C.ok.K (by kernel_rfl) (by kernel_rfl) (by kernel_rfl) (by kernel_rfl) (len2 fun a0 a1 => by kernel_rfl) -- _law_got
theorem fn_734 (C : CxK (mkC b)) : FnAt (mkC b) 734 (fdOf o734) ["bag"] (hB  (hst 99)) := fnAt_of C.ok.K (by kernel_rfl) (by kernel_rfl) (by kernel_rfl) (by kernel_rfl) (len1 fun a0 => by kernel_rfl) -- _law_leaf
theorem fn_741 (C : CxK (mkC b)) : FnAt (mkC b) 741 (fdOf o741) ["bag", "signs"] (hB  (hst 100)) := fnAt_of C.ok.K (by kernel_rfl) (by kernel_rfl) (by kernel_rfl) (by kernel_rfl) (len2 fun a0 a1 => by kernel_rfl) -- _law_two
theorem fn_748 (C : CxK (mkC b)) : FnAt (mkC b) 748 (fdOf o748) ["bag"] (hB  (hst 101)) := fnAt_of C.ok.K (by kernel_rfl) (by kernel_rfl) (by kernel_rfl) (by kernel_rfl) (len1 fun a0 => by kernel_rfl) -- _law_let
theorem fn_755 (C : CxK (mkC b)) : FnAt (mkC b) 755 (fdOf o755) ["bag"] (hB  (hst 102)) := fnAt_of C.ok.K (by kernel_rfl) (by kernel_rfl) (by kernel_rfl) (by kernel_rfl) (len1 fun a0 => by kernel_rfl) -- _law_statement
theorem fn_760 (C : CxK (mkC b)) : FnAt (mkC b) 760 (fdOf o760) ["tree"] (hB  (hst 103)) := fnAt_of C.ok.K (by kernel_rfl) (by kernel_rfl) (by kernel_rfl) (by kernel_rfl) (len1 fun a0 => by kernel_rfl) -- _law_names
theorem fn_765 (C : CxK (mkC b)) : FnAt (mkC b) 765 (fdOf o765) ["statement", "need"] (hB  (hst 104)) := fnAt_of C.ok.K (by kernel_rfl) (by kernel_rfl) (by kernel_rfl) (by kernel_rfl) (len2 fun a0 a1 => by kernel_rfl) -- _law_back
theorem fn_772 (C : CxK (mkC b)) : FnAt (mkC b) 772 (fdOf o772) ["statements", "name"] (hB  (hst 105)) := fnAt_of C.ok.K (by kernel_rfl) (by kernel_rfl) (by kernel_rfl) (by kernel_rfl) (len2 fun a0 a1 => by kernel_rfl) -- _law_slice
theorem fn_779 (C : CxK (mkC b)) : FnAt (mkC b) 779 (fdOf o779) ["names"] (hB  (hst 106)) := fnAt_of C.ok.K (by kernel_rfl) (by kernel_rfl) (by kernel_rfl) (by kernel_rfl) (len1 fun a0 => by kernel_rfl) -- _law_noted
theorem fn_786 (C : CxK (mkC b)) : FnAt (mkC b) 786 (fdOf o786) ["statements", "kept", "needs", "rounds", "name"] (hB  (hst 107)) := fnAt_of C.ok.K (by kernel_rfl) (by kernel_rfl) (by kernel_rfl) (by kernel_rfl) (len5 fun a0 a1 a2 a3 a4 => by kernel_rfl) -- _law_lines
theorem fn_793 (C : CxK (mkC b)) : FnAt (mkC b) 793 (fdOf o793) ["tree", "values"] (hB  (hst 108)) := fnAt_of C.ok.K (by kernel_rfl) (by kernel_rfl) (by kernel_rfl) (by kernel_rfl) (len2 fun a0 a1 => by kernel_rfl) -- _law_worth
theorem fn_798 (C : CxK (mkC b)) : FnAt (mkC b) 798 (fdOf o798) ["lines", "values"] (hB  (hst 109)) := fnAt_of C.ok.K (by kernel_rfl) (by kernel_rfl) (by kernel_rfl) (by kernel_rfl) (len2 fun a0 a1 => by kernel_rfl) -- _law_run
theorem fn_803 (C : CxK (mkC b)) : FnAt (mkC b) 803 (fdOf o803) ["tree", "values"] (hB  (hst 110)) := fnAt_of C.ok.K (by kernel_rfl) (by kernel_rfl) (by kernel_rfl) (by kernel_rfl) (len2 fun a0 a1 => by kernel_rfl) -- _law_value
theorem fn_44 (C : CxK (mkC b)) : FnAt (mkC b) 44 (fdOf o44) ["value"] (hB  (hst 4)) := fnAt_of C.ok.K (by kernel_rfl) (by kernel_rfl) (by kernel_rfl) (by kernel_rfl) (len1 fun a0 => by kernel_rfl) -- kind_of
theorem fn_79 (C : CxK (mkC b)) : FnAt (mkC b) 79 (fdOf o79) ["number", "bits"] (hB  (hst 9)) := fnAt_of C.ok.K (by kernel_rfl) (by kernel_rfl) (by kernel_rfl) (by kernel_rfl) (len2 fun a0 a1 => by kernel_rfl) -- fits
theorem fn_107 (C : CxK (mkC b)) : FnAt (mkC b) 107 (fdOf o107) ["value"] (hB  (hst 13)) := fnAt_of C.ok.K (by kernel_rfl) (by kernel_rfl) (by kernel_rfl) (by kernel_rfl) (len1 fun a0 => by kernel_rfl) -- is_nought
theorem fn_114 (C : CxK (mkC b)) : FnAt (mkC b) 114 (fdOf o114) ["value"] (hB  (hst 14)) := fnAt_of C.ok.K (by kernel_rfl) (by kernel_rfl) (by kernel_rfl) (by kernel_rfl) (len1 fun a0 => by kernel_rfl) -- is_true
theorem fn_121 (C : CxK (mkC b)) : FnAt (mkC b) 121 (fdOf o121) ["is_so"] (hB  (hst 15)) := fnAt_of C.ok.K (by kernel_rfl) (by kernel_rfl) (by kernel_rfl) (by kernel_rfl) (len1 fun a0 => by kernel_rfl) -- truth
theorem fn_128 (C : CxK (mkC b)) : FnAt (mkC b) 128 (fdOf o128) ["value"] (hB  (hst 16)) := fnAt_of C.ok.K (by kernel_rfl) (by kernel_rfl) (by kernel_rfl) (by kernel_rfl) (len1 fun a0 => by kernel_rfl) -- sign_of
theorem fn_206 (C : CxK (mkC b)) : FnAt (mkC b) 206 (fdOf o206) ["value"] (hB  (hst 31)) := fnAt_of C.ok.K (by kernel_rfl) (by kernel_rfl) (by kernel_rfl) (by kernel_rfl) (len1 fun a0 => by kernel_rfl) -- is_whole
theorem fn_213 (C : CxK (mkC b)) : FnAt (mkC b) 213 (fdOf o213) ["number", "bits", "digits"] (hB  (hst 32)) := fnAt_of C.ok.K (by kernel_rfl) (by kernel_rfl) (by kernel_rfl) (by kernel_rfl) (len3 fun a0 a1 a2 => by kernel_rfl) -- settled
theorem fn_220 (C : CxK (mkC b)) : FnAt (mkC b) 220 (fdOf o220) ["op", "a", "b", "bits", "digits"] (hB  (hst 33)) := fnAt_of C.ok.K (by kernel_rfl) (by kernel_rfl) (by kernel_rfl) (by kernel_rfl) (len5 fun a0 a1 a2 a3 a4 => by kernel_rfl) -- whole_reckoned
theorem fn_262 (C : CxK (mkC b)) : FnAt (mkC b) 262 (fdOf o262) ["op", "a", "b", "bits", "digits"] (hB  (hst 39)) := fnAt_of C.ok.K (by kernel_rfl) (by kernel_rfl) (by kernel_rfl) (by kernel_rfl) (len5 fun a0 a1 a2 a3 a4 => by kernel_rfl) -- reckoned
theorem fn_276 (C : CxK (mkC b)) : FnAt (mkC b) 276 (fdOf o276) ["a", "b"] (hB  (hst 41)) := fnAt_of C.ok.K (by kernel_rfl) (by kernel_rfl) (by kernel_rfl) (by kernel_rfl) (len2 fun a0 a1 => by kernel_rfl) -- order_of
theorem fn_318 (C : CxK (mkC b)) : FnAt (mkC b) 318 (fdOf o318) ["control", "entry"] (hB  (hst 47)) := fnAt_of C.ok.K (by kernel_rfl) (by kernel_rfl) (by kernel_rfl) (by kernel_rfl) (len2 fun a0 a1 => by kernel_rfl) -- put_upon
theorem fn_325 (C : CxK (mkC b)) : FnAt (mkC b) 325 (fdOf o325) ["pile"] (hB  (hst 48)) := fnAt_of C.ok.K (by kernel_rfl) (by kernel_rfl) (by kernel_rfl) (by kernel_rfl) (len1 fun a0 => by kernel_rfl) -- floor_of
theorem fn_332 (C : CxK (mkC b)) : FnAt (mkC b) 332 (fdOf o332) ["pile", "kind", "name"] (hB  (hst 49)) := fnAt_of C.ok.K (by kernel_rfl) (by kernel_rfl) (by kernel_rfl) (by kernel_rfl) (len3 fun a0 a1 a2 => by kernel_rfl) -- found_at
theorem fn_339 (C : CxK (mkC b)) : FnAt (mkC b) 339 (fdOf o339) ["control", "many"] (hB  (hst 50)) := fnAt_of C.ok.K (by kernel_rfl) (by kernel_rfl) (by kernel_rfl) (by kernel_rfl) (len2 fun a0 a1 => by kernel_rfl) -- cut_to
theorem fn_346 (C : CxK (mkC b)) : FnAt (mkC b) 346 (fdOf o346) ["value", "limit", "step", "order"] (hB  (hst 51)) := fnAt_of C.ok.K (by kernel_rfl) (by kernel_rfl) (by kernel_rfl) (by kernel_rfl) (len4 fun a0 a1 a2 a3 => by kernel_rfl) -- is_past
theorem fn_353 (C : CxK (mkC b)) : FnAt (mkC b) 353 (fdOf o353) ["control", "name", "place", "limit", "step"] (hB  (hst 52)) := fnAt_of C.ok.K (by kernel_rfl) (by kernel_rfl) (by kernel_rfl) (by kernel_rfl) (len5 fun a0 a1 a2 a3 a4 => by kernel_rfl) -- for_begin
theorem fn_360 (C : CxK (mkC b)) : FnAt (mkC b) 360 (fdOf o360) ["control", "name"] (hB  (hst 53)) := fnAt_of C.ok.K (by kernel_rfl) (by kernel_rfl) (by kernel_rfl) (by kernel_rfl) (len2 fun a0 a1 => by kernel_rfl) -- for_name
theorem fn_367 (C : CxK (mkC b)) : FnAt (mkC b) 367 (fdOf o367) ["control", "name", "value", "add", "order"] (hB  (hst 54)) := fnAt_of C.ok.K (by kernel_rfl) (by kernel_rfl) (by kernel_rfl) (by kernel_rfl) (len5 fun a0 a1 a2 a3 a4 => by kernel_rfl) -- for_next
theorem fn_434 (C : CxK (mkC b)) : FnAt (mkC b) 434 (fdOf o434) ["flat", "line", "statement"] (hB  (hst 63)) := fnAt_of C.ok.K (by kernel_rfl) (by kernel_rfl) (by kernel_rfl) (by kernel_rfl) (len3 fun a0 a1 a2 => by kernel_rfl) -- put_row_of
theorem fn_441 (C : CxK (mkC b)) : FnAt (mkC b) 441 (fdOf o441) ["flat", "line", "statement"] (hB  (hst 64)) := fnAt_of C.ok.K (by kernel_rfl) (by kernel_rfl) (by kernel_rfl) (by kernel_rfl) (len3 fun a0 a1 a2 => by kernel_rfl) -- put_if
theorem fn_448 (C : CxK (mkC b)) : FnAt (mkC b) 448 (fdOf o448) ["flat", "line", "statements"] (hB  (hst 65)) := fnAt_of C.ok.K (by kernel_rfl) (by kernel_rfl) (by kernel_rfl) (by kernel_rfl) (len3 fun a0 a1 a2 => by kernel_rfl) -- put_all
theorem fn_455 (C : CxK (mkC b)) : FnAt (mkC b) 455 (fdOf o455) ["flat"] (hB  (hst 66)) := fnAt_of C.ok.K (by kernel_rfl) (by kernel_rfl) (by kernel_rfl) (by kernel_rfl) (len1 fun a0 => by kernel_rfl) -- gather
theorem fn_469 (C : CxK (mkC b)) : FnAt (mkC b) 469 (fdOf o469) ["flat", "fors", "at", "many"] (hB  (hst 68)) := fnAt_of C.ok.K (by kernel_rfl) (by kernel_rfl) (by kernel_rfl) (by kernel_rfl) (len4 fun a0 a1 a2 a3 => by kernel_rfl) -- end_loops
theorem fn_476 (C : CxK (mkC b)) : FnAt (mkC b) 476 (fdOf o476) ["parsed"] (hB  (hst 69)) := fnAt_of C.ok.K (by kernel_rfl) (by kernel_rfl) (by kernel_rfl) (by kernel_rfl) (len1 fun a0 => by kernel_rfl) -- flatten
theorem fn_504 (C : CxK (mkC b)) : FnAt (mkC b) 504 (fdOf o504) ["flat", "row"] (hB  (hst 73)) := fnAt_of C.ok.K (by kernel_rfl) (by kernel_rfl) (by kernel_rfl) (by kernel_rfl) (len2 fun a0 a1 => by kernel_rfl) -- next_of_for
theorem fn_512 (C : CxK (mkC b)) : FnAt (mkC b) 512 (fdOf o512) ["run", "at", "statement"] (hB  (hst 76)) := fnAt_of C.ok.K (by kernel_rfl) (by kernel_rfl) (by kernel_rfl) (by kernel_rfl) (len3 fun a0 a1 a2 => by kernel_rfl) -- do_flow
theorem fn_519 (C : CxK (mkC b)) : FnAt (mkC b) 519 (fdOf o519) ["run", "at", "statement"] (hB  (hst 77)) := fnAt_of C.ok.K (by kernel_rfl) (by kernel_rfl) (by kernel_rfl) (by kernel_rfl) (len3 fun a0 a1 a2 => by kernel_rfl) -- do_jump
theorem fn_526 (C : CxK (mkC b)) : FnAt (mkC b) 526 (fdOf o526) ["run", "at", "statement"] (hB  (hst 78)) := fnAt_of C.ok.K (by kernel_rfl) (by kernel_rfl) (by kernel_rfl) (by kernel_rfl) (len3 fun a0 a1 a2 => by kernel_rfl) -- do_loop
theorem fn_533 (C : CxK (mkC b)) : FnAt (mkC b) 533 (fdOf o533) ["run", "at", "statement"] (hB  (hst 79)) := fnAt_of C.ok.K (by kernel_rfl) (by kernel_rfl) (by kernel_rfl) (by kernel_rfl) (len3 fun a0 a1 a2 => by kernel_rfl) -- do_for
theorem fn_540 (C : CxK (mkC b)) : FnAt (mkC b) 540 (fdOf o540) ["run", "at", "names"] (hB  (hst 80)) := fnAt_of C.ok.K (by kernel_rfl) (by kernel_rfl) (by kernel_rfl) (by kernel_rfl) (len3 fun a0 a1 a2 => by kernel_rfl) -- next_from
theorem fn_666 (C : CxK (mkC b)) : FnAt (mkC b) 666 (fdOf o666) ["tree"] (hB  (hst 85)) := fnAt_of C.ok.K (by kernel_rfl) (by kernel_rfl) (by kernel_rfl) (by kernel_rfl) (len1 fun a0 => by kernel_rfl) -- parts_of_tree
theorem fn_682 (C : CxK (mkC b)) : FnAt (mkC b) 682 (fdOf o682) ["op", "order"] (hB  (hst 90)) := fnAt_of C.ok.K (by kernel_rfl) (by kernel_rfl) (by kernel_rfl) (by kernel_rfl) (len2 fun a0 a1 => by kernel_rfl) -- compared
theorem fn_694 (C : CxK (mkC b)) : FnAt (mkC b) 694 (fdOf o694) ["op", "one", "other", "bits", "digits"] (hB  (hst 92)) := fnAt_of C.ok.K (by kernel_rfl) (by kernel_rfl) (by kernel_rfl) (by kernel_rfl) (len5 fun a0 a1 a2 a3 a4 => by kernel_rfl) -- worth_of_two
theorem fn_708 (C : CxK (mkC b)) : FnAt (mkC b) 708 (fdOf o708) ["tree", "bits", "digits"] (hB  (hst 94)) := fnAt_of C.ok.K (by kernel_rfl) (by kernel_rfl) (by kernel_rfl) (by kernel_rfl) (len3 fun a0 a1 a2 => by kernel_rfl) -- worth_of_leaf
theorem fn_715 (C : CxK (mkC b)) : FnAt (mkC b) 715 (fdOf o715) ["tree", "parts", "hooks"] (hB  (hst 95)) := fnAt_of C.ok.K (by kernel_rfl) (by kernel_rfl) (by kernel_rfl) (by kernel_rfl) (len3 fun a0 a1 a2 => by kernel_rfl) -- worth_of_tree
theorem fn_720 (C : CxK (mkC b)) : FnAt (mkC b) 720 (fdOf o720) ["tree", "hooks"] (hB  (hst 96)) := fnAt_of C.ok.K (by kernel_rfl) (by kernel_rfl) (by kernel_rfl) (by kernel_rfl) (len2 fun a0 a1 => by kernel_rfl) -- worth
theorem fn_304 (C : CxK (mkC b)) : FnAt (mkC b) 304 (fdOf o304) ["self", "most"] (hB  (hmb 46 0)) := fnAt_of C.ok.K (by kernel_rfl) (by kernel_rfl) (by kernel_rfl) (by kernel_rfl) (len2 fun a0 a1 => by kernel_rfl) -- Control.__init__
theorem fn_420 (C : CxK (mkC b)) : FnAt (mkC b) 420 (fdOf o420) ["self"] (hB  (hmb 62 0)) := fnAt_of C.ok.K (by kernel_rfl) (by kernel_rfl) (by kernel_rfl) (by kernel_rfl) (len1 fun a0 => by kernel_rfl) -- Flat.__init__
theorem fn_554 (C : CxK (mkC b)) : FnAt (mkC b) 554 (fdOf o554) ["self", "flat", "values", "worth_of", "bits", "digits"] (hB  (hmb 81 0)) := fnAt_of C.ok.K (by kernel_rfl) (by kernel_rfl) (by kernel_rfl) (by kernel_rfl) (len6 fun a0 a1 a2 a3 a4 a5 => by kernel_rfl) -- FlowRun.__init__
theorem fn_561 (C : CxK (mkC b)) : FnAt (mkC b) 561 (fdOf o561) ["self", "tree"] (hB  (hmb 81 1)) := fnAt_of C.ok.K (by kernel_rfl) (by kernel_rfl) (by kernel_rfl) (by kernel_rfl) (len2 fun a0 a1 => by kernel_rfl) -- FlowRun.worth
theorem fn_575 (C : CxK (mkC b)) : FnAt (mkC b) 575 (fdOf o575) ["self", "name"] (hB  (hmb 81 3)) := fnAt_of C.ok.K (by kernel_rfl) (by kernel_rfl) (by kernel_rfl) (by kernel_rfl) (len2 fun a0 a1 => by kernel_rfl) -- FlowRun.value_of_name
theorem fn_582 (C : CxK (mkC b)) : FnAt (mkC b) 582 (fdOf o582) ["self", "name", "value"] (hB  (hmb 81 4)) := fnAt_of C.ok.K (by kernel_rfl) (by kernel_rfl) (by kernel_rfl) (by kernel_rfl) (len3 fun a0 a1 a2 => by kernel_rfl) -- FlowRun.store
theorem fn_589 (C : CxK (mkC b)) : FnAt (mkC b) 589 (fdOf o589) ["self", "value", "step"] (hB  (hmb 81 5)) := fnAt_of C.ok.K (by kernel_rfl) (by kernel_rfl) (by kernel_rfl) (by kernel_rfl) (len3 fun a0 a1 a2 => by kernel_rfl) -- FlowRun.plus
theorem fn_596 (C : CxK (mkC b)) : FnAt (mkC b) 596 (fdOf o596) ["self", "at", "most"] (hB  (hmb 81 6)) := fnAt_of C.ok.K (by kernel_rfl) (by kernel_rfl) (by kernel_rfl) (by kernel_rfl) (len3 fun a0 a1 a2 => by kernel_rfl) -- FlowRun.go
theorem fn_617 (C : CxK (mkC b)) : FnAt (mkC b) 617 (fdOf o617) ["self", "values", "bits", "digits"] (hB  (hmb 83 0)) := fnAt_of C.ok.K (by kernel_rfl) (by kernel_rfl) (by kernel_rfl) (by kernel_rfl) (len4 fun a0 a1 a2 a3 => by kernel_rfl) -- PlainHooks.__init__
theorem fn_624 (C : CxK (mkC b)) : FnAt (mkC b) 624 (fdOf o624) ["self", "word"] (hB  (hmb 83 1)) := fnAt_of C.ok.K (by kernel_rfl) (by kernel_rfl) (by kernel_rfl) (by kernel_rfl) (len2 fun a0 a1 => by kernel_rfl) -- PlainHooks.value_of_name
end
end Mine
end
section
open PySem PySem.W PySem.Calls PyProof.Rows
set_option maxRecDepth 100000
set_option maxHeartbeats 4000000
set_option linter.unusedVariables false
namespace Mine
section
variable {b : CB}
noncomputable abbrev S (x : String) : Str := Str.ofString x
theorem ints_at {ns : List Int} {k : Nat} (h : k < ns.length) : (ns.map V.int)[(k : Int).toNat]? = some (.int (ns[k]'h)) := by rw [Int.toNat_natCast, List.getElem?_map, List.getElem?_eq_getElem h]; rfl
noncomputable def bagO (ns : List Int) (k : Nat) : SO := .list [.lst (ns.map .int), .int k]
theorem cast_lt {a n : Nat} (h : a ≤ n) {z : Int} (hz : (n : Int) < z) : (a : Int) < z := Int.lt_of_le_of_lt (Int.ofNat_le.mpr h) hz
theorem nz {m : Nat} (h : 0 < m) : (m : Int) ≠ 0 := fun e => absurd (Int.ofNat.inj e) (Nat.ne_of_gt h)
theorem bits_ok {k : Nat} (a : Int) (h : k ≤ 1000) : PySem.IntMulOk a (k : Int) := PySem.IntMulOk.of_right (PySem.intBits_le_64 (by omega) (by omega))
theorem drawn (C : CxK (mkC b)) {d : Nat} {n m : Nat} {ns : List Int} {k : Nat} {σ : St} {Q : Post} (hn : σ[n]? = some (bagO ns k)) (hlen : ns.length ≤ 64) (hk : k ≤ 1000) (hm : 0 < m)
    (h : ∀ r : Nat, r < m → Q (.int r) (σ.set n (bagO ns (k + 1)))) : Ca (mkC b) (d + 1) (ref 727) [.loc n, .int m] σ Q := by
  refine Ca_def C (fn_727 C) rfl ?_
  have fin : ∀ z : Int, Q (.int (z.fmod m)) (σ.set n (bagO ns (k + 1))) := fun z => by
    have h1 : 0 ≤ z.fmod m := Int.fmod_nonneg_of_pos z (Int.natCast_pos.mpr hm)
    have h2 : z.fmod m < m := Int.fmod_lt_of_pos z (Int.natCast_pos.mpr hm)
    have := h (z.fmod m).toNat (Int.ofNat_lt.mp (by rw [Int.toNat_of_nonneg h1]; exact h2))
    rwa [Int.toNat_of_nonneg h1] at this
  have hn' : (σ.set n (bagO ns (k + 1)))[n]? = some (bagO ns (k + 1)) := set_hit hn
  refine Gi_loc hn (by decide) rfl ?_
  refine Si_list hn (by decide) (show (1 : Int) < 2 by decide) ?_
  refine Gi_loc hn' (by decide) rfl ?_
  refine Ca_lenF (by rw [List.length_map]; exact Nat.le_trans hlen (by decide)) ?_
  rw [List.length_map]
  by_cases hc : (k : Int) < (ns.length : Int)
  · refine br_dT hc ?_
    refine Gi_loc hn' (by decide) rfl ?_
    refine Gi_lst (Int.natCast_nonneg k) (ints_at (Int.ofNat_lt.mp hc)) ?_ (cast_lt hk (by decide))
    exact Ca_abs (Bi_mod (nz hm) (fin _))
  · refine br_dF hc ?_
    exact Bi_mul (bits_ok _ hk) (Bi_mul (bits_ok _ hk) (Bi_mul (bits_ok _ hk) (Bi_floordiv (by decide) (PyProof.noPylong_of_log2 (by decide +kernel)) (Bi_mod (nz hm) (fin _)))))
end
end Mine
end
section
open PySem PySem.W PySem.Calls PyProof.Rows
set_option maxRecDepth 100000
set_option maxHeartbeats 4000000
set_option linter.unusedVariables false
namespace Mine
section
variable {b : CB}
inductive T where
  | nm (x : Str) | wh (n : Int) | two (op : Str) (a b : T) | seen (ns : List Str)
noncomputable def T.v : T → V
  | .nm x => .tup [.str (S "name"), .str x]
  | .wh n => .tup [.str (S "whole"), .int n]
  | .two op a b => .tup [.str (S "two"), .str op, a.v, b.v]
  | .seen ns => .tup [.str (S "seen"), .lst (ns.map .str)]
inductive P where
  | set (x : Str) (e : T)
  | br (c : T) (x₁ : Str) (e₁ : T) (x₂ : Str) (e₂ : T)
noncomputable def letV (x : Str) (e : T) : V := .tup [.str (S "LET"), .tup [.str (S "name"), .str x], e.v]
noncomputable def P.v : P → V
  | .set x e => letV x e
  | .br c x₁ e₁ x₂ e₂ => .tup [.str (S "IF"), c.v, .lst [letV x₁ e₁], .lst [letV x₂ e₂]]
noncomputable def ABC : List Str := [S "A", S "B", S "C", S "D"]
noncomputable def isLeaf (t : T) : Prop := (∃ x ∈ ABC, t = .nm x) ∨ t = .wh 2
noncomputable def isTwo (ops : List Str) (t : T) : Prop := ∃ op a b, op ∈ ops ∧ isLeaf a ∧ isLeaf b ∧ t = .two op a b
noncomputable def pm : List Str := [S "+", S "-"]
noncomputable def cps : List Str := [S "<", S "=", S ">="]
noncomputable def isP : P → Prop
  | .set x e => x ∈ ABC ∧ isTwo pm e
  | .br c x₁ e₁ x₂ e₂ => isTwo cps c ∧ x₁ ∈ ABC ∧ isTwo pm e₁ ∧ x₂ ∈ ABC ∧ isTwo pm e₂
theorem mA : S "A" ∈ ABC := .head _
theorem mB : S "B" ∈ ABC := .tail _ (.head _)
theorem mC : S "C" ∈ ABC := .tail _ (.tail _ (.head _))
theorem mD : S "D" ∈ ABC := .tail _ (.tail _ (.tail _ (.head _)))
theorem lt2 {r : Nat} (h : r < 2) : r = 0 ∨ r = 1 := by omega
theorem lt3 {r : Nat} (h : r < 3) : r = 0 ∨ r = 1 ∨ r = 2 := by omega
theorem lt4 {r : Nat} (h : r < 4) : r = 0 ∨ r = 1 ∨ r = 2 ∨ r = 3 := by omega
theorem lt5 {r : Nat} (h : r < 5) : r = 0 ∨ r = 1 ∨ r = 2 ∨ r = 3 ∨ r = 4 := by omega
structure Bag (σ : St) (n : Nat) (ns : List Int) (k : Nat) : Prop where
  at_ : σ[n]? = some (bagO ns k)
  len : ns.length ≤ 64
theorem Bag.next {σ : St} {n : Nat} {ns : List Int} {k : Nat} (h : Bag σ n ns k) (k' : Nat) : Bag (σ.set n (bagO ns k')) n ns k' := ⟨set_hit h.at_, h.len⟩
theorem leS {a b c : Nat} (h : a ≤ b) (k : Nat) (e : b + k ≤ c) : a + k ≤ c := Nat.le_trans (Nat.add_le_add_right h k) e
theorem k_leaf (C : CxK (mkC b)) {d : Nat} {n : Nat} {ns : List Int} {k : Nat} {σ : St} {Q : Post} (B : Bag σ n ns k) (hk : k ≤ 1000)
    (h : ∀ t, isLeaf t → Q t.v (σ.set n (bagO ns (k + 1)))) : Ca (mkC b) (d + 2) (ref 734) [.loc n] σ Q := by
  refine Ca_def C (fn_734 C) rfl ?_
  refine drawn C (m := 5) B.at_ B.len hk (by decide) fun r hr => ?_
  rcases lt5 hr with rfl | rfl | rfl | rfl | rfl
  · exact h (.nm (S "A")) (.inl ⟨_, mA, rfl⟩)
  · exact h (.nm (S "B")) (.inl ⟨_, mB, rfl⟩)
  · exact h (.nm (S "C")) (.inl ⟨_, mC, rfl⟩)
  · exact h (.nm (S "D")) (.inl ⟨_, mD, rfl⟩)
  · exact h (.wh 2) (.inr rfl)
theorem k_two (C : CxK (mkC b)) {d : Nat} {n : Nat} {ns : List Int} {k : Nat} {σ : St} {Q : Post} {sv : V} {ops : List Str} (B : Bag σ n ns k) (hk : k ≤ 900)
    (hsv : (sv = .str (S "+-") ∧ ops = pm) ∨ (sv = .lst (cps.map .str) ∧ ops = cps))
    (h : ∀ t, isTwo ops t → Q t.v (σ.set n (bagO ns (k + 3)))) : Ca (mkC b) (d + 3) (ref 741) [.loc n, sv] σ Q := by
  refine Ca_def C (fn_741 C) rfl ?_
  have fin : ∀ op ∈ ops, ∀ a bb : T, isLeaf a → isLeaf bb → ∀ σ', σ' = ((σ.set n (bagO ns (k + 1))).set n (bagO ns (k + 1 + 1))).set n (bagO ns (k + 1 + 1 + 1)) → Q (T.v (.two op a bb)) σ' := fun op ho a bb ha hb σ' e => by
    rw [List.set_set, List.set_set] at e
    exact e ▸ h _ ⟨op, a, bb, ho, ha, hb, rfl⟩
  have h1 : k + 1 ≤ 1000 := leS hk 1 (by decide)
  have h2 : k + 1 + 1 ≤ 1000 := leS hk 2 (by decide)
  rcases hsv with ⟨rfl, rfl⟩ | ⟨rfl, rfl⟩
  · refine Ca_lenS (by decide) ?_
    refine drawn C (m := 2) B.at_ B.len (Nat.le_trans hk (by decide)) (by decide) fun r hr => ?_
    rcases lt2 hr with rfl | rfl
    · exact k_leaf C (B.next _) h1 fun a ha => k_leaf C ((B.next _).next _) h2 fun bb hb => fin _ (.head _) a bb ha hb _ rfl
    · exact k_leaf C (B.next _) h1 fun a ha => k_leaf C ((B.next _).next _) h2 fun bb hb => fin _ (.tail _ (.head _)) a bb ha hb _ rfl
  · refine Ca_lenF (by decide) ?_
    refine drawn C (m := 3) B.at_ B.len (Nat.le_trans hk (by decide)) (by decide) fun r hr => ?_
    rcases lt3 hr with rfl | rfl | rfl
    · exact Gi_lst (by decide) rfl (k_leaf C (B.next _) h1 fun a ha => k_leaf C ((B.next _).next _) h2 fun bb hb => fin _ (.head _) a bb ha hb _ rfl)
    · exact Gi_lst (by decide) rfl (k_leaf C (B.next _) h1 fun a ha => k_leaf C ((B.next _).next _) h2 fun bb hb => fin _ (.tail _ (.head _)) a bb ha hb _ rfl)
    · exact Gi_lst (by decide) rfl (k_leaf C (B.next _) h1 fun a ha => k_leaf C ((B.next _).next _) h2 fun bb hb => fin _ (.tail _ (.tail _ (.head _))) a bb ha hb _ rfl)
theorem k_let (C : CxK (mkC b)) {d : Nat} {n : Nat} {ns : List Int} {k : Nat} {σ : St} {Q : Post} (B : Bag σ n ns k) (hk : k ≤ 800)
    (h : ∀ x e, x ∈ ABC → isTwo pm e → Q (letV x e) (σ.set n (bagO ns (k + 4)))) : Ca (mkC b) (d + 4) (ref 748) [.loc n] σ Q := by
  refine Ca_def C (fn_748 C) rfl ?_
  have fin : ∀ x e, x ∈ ABC → isTwo pm e → Q (letV x e) ((σ.set n (bagO ns (k + 1))).set n (bagO ns (k + 1 + 3))) := fun x e hx he => by rw [List.set_set]; exact h x e hx he
  have h1 : k + 1 ≤ 900 := leS hk 1 (by decide)
  refine drawn C (m := 4) B.at_ B.len (Nat.le_trans hk (by decide)) (by decide) fun r hr => ?_
  rcases lt4 hr with rfl | rfl | rfl | rfl
  · exact k_two C (B.next _) h1 (.inl ⟨rfl, rfl⟩) fun t ht => fin _ t mA ht
  · exact k_two C (B.next _) h1 (.inl ⟨rfl, rfl⟩) fun t ht => fin _ t mB ht
  · exact k_two C (B.next _) h1 (.inl ⟨rfl, rfl⟩) fun t ht => fin _ t mC ht
  · exact k_two C (B.next _) h1 (.inl ⟨rfl, rfl⟩) fun t ht => fin _ t mD ht
theorem k_statement (C : CxK (mkC b)) {d : Nat} {n : Nat} {ns : List Int} {k : Nat} {σ : St} {Q : Post} (B : Bag σ n ns k) (hk : k ≤ 700)
    (h : ∀ p k', isP p → k' ≤ k + 12 → Q p.v (σ.set n (bagO ns k'))) : Ca (mkC b) (d + 5) (ref 755) [.loc n] σ Q := by
  refine Ca_def C (fn_755 C) rfl ?_
  refine drawn C (m := 4) B.at_ B.len (Nat.le_trans hk (by decide)) (by decide) fun r hr => ?_
  have h1 : k + 1 ≤ 800 := leS hk 1 (by decide)
  by_cases hr0 : r = 0
  · subst hr0
    refine W_ListF C ?_
    refine k_two C (B.next _) (leS hk 1 (by decide)) (.inr ⟨rfl, rfl⟩) fun c hc => ?_
    refine k_let C ((B.next _).next _) (leS hk 4 (by decide)) fun x₁ e₁ hx₁ he₁ => ?_
    refine W_ListF C ?_
    refine W_ListF C ?_
    refine k_let C (((B.next _).next _).next _) (leS hk 8 (by decide)) fun x₂ e₂ hx₂ he₂ => ?_
    show Q (P.v (.br c x₁ e₁ x₂ e₂)) _
    rw [List.set_set, List.set_set, List.set_set]
    exact h _ _ ⟨hc, hx₁, he₁, hx₂, he₂⟩ (Nat.le_refl _)
  · refine br_dT (Int.ofNat_lt.mpr (Nat.pos_of_ne_zero hr0)) ?_
    refine k_let C (B.next _) h1 fun x e hx he => ?_
    show Q (P.v (.set x e)) _
    rw [List.set_set]
    exact h _ _ ⟨hx, he⟩ (Nat.add_le_add_left (by decide : 5 ≤ 12) k)
end
end Mine
end
section
open PySem PySem.W PySem.Calls PyProof.Rows
set_option maxRecDepth 100000
set_option maxHeartbeats 4000000
set_option linter.unusedVariables false
namespace Mine
section
variable {b : CB}
noncomputable def T.nm1 : T → List Str
  | .nm x => [x]
  | _ => []
noncomputable def T.nms : T → List Str
  | .two _ a b => a.nm1 ++ b.nm1
  | _ => []
theorem forget0 {σ g : St} {v : V} {Q : Post} (hv : clV σ.length v = true) (h : Q v σ) : ∃ σ₁ g', σ ++ g = σ₁ ++ g' ∧ σ₁.length = σ.length ∧ (∀ (i : Nat) (o : SO), σ₁[i]? = some o → σ[i]? = some o ∨ clO σ.length o = true) ∧ clV σ.length v = true ∧ Q v σ₁ :=
  ⟨σ, g, rfl, rfl, fun _ _ e => .inl e, hv, h⟩
theorem setLast {σ : St} {o o' : SO} : (σ ++ [o]).set σ.length o' = σ ++ [o'] := set_app0
theorem mem2 {α : Type} {x a b : α} (h : x ∈ [a, b]) : x = a ∨ x = b := by cases h with | head => exact .inl rfl | tail _ h => exact .inr (List.mem_singleton.mp h)
theorem mem3 {α : Type} {x a b c : α} (h : x ∈ [a, b, c]) : x = a ∨ x = b ∨ x = c := by cases h with | head => exact .inl rfl | tail _ h => exact .inr (mem2 h)
theorem put_put {ρ : Vars} {x : Str} {u v : V} : put (put ρ x u) x v = put ρ x v := by
  induction ρ with
  | nil => exact if_pos rfl
  | cons p ρ ih =>
    obtain ⟨y, w⟩ := p
    by_cases h : y = x
    · rw [show put ((y, w) :: ρ) x u = (x, u) :: ρ from if_pos h, show put ((y, w) :: ρ) x v = (x, v) :: ρ from if_pos h]; exact if_pos rfl
    · rw [show put ((y, w) :: ρ) x u = (y, w) :: put ρ x u from if_neg h, show put ((y, w) :: ρ) x v = (y, w) :: put ρ x v from if_neg h, ← ih]; exact if_neg h
theorem wCF {F : Rec} {sc : Sc} {elt tst : Expr} {x : Str} {K : St → Prop} {T : List V → St → Prop} {σ : St} {ρ₀ : Vars} (p : V → Bool) (f : V → V) (hK : ∀ σ', K σ') :
    ∀ (l acc : List V) (ρ : Vars), (∀ v, put ρ x v = put ρ₀ x v) → (∀ v ∈ l, ∀ σ : St, (∀ B : Bool → St → Prop, B (p v) σ → (F sc).T tst (put ρ₀ x v) σ B) ∧ (p v = true → ∀ Q : Post, Q (f v) σ → (F sc).E elt (put ρ₀ x v) σ Q)) →
    acc.length + l.length ≤ 9000 → T (acc ++ (l.filter p).map f) (σ ++ [.list (acc ++ (l.filter p).map f)]) → wCOMPSF F sc elt tst x K σ.length T l acc ρ (σ ++ [.list acc])
  | [], acc, ρ, _, _, _, q => ⟨app_0, by rw [List.filter_nil, List.map_nil, List.append_nil] at q; exact q⟩
  | v :: l, acc, ρ, hρ, e, hz, q => by
    show (F sc).T tst (put ρ x v) (σ ++ [.list acc]) _
    rw [hρ v]
    rw [List.length_cons] at hz
    rw [List.filter_cons] at q
    refine (e v List.mem_cons_self _).1 _ ?_
    cases hp : p v with
    | true =>
      rw [hp, if_pos rfl, List.map_cons] at q
      refine (e v List.mem_cons_self _).2 hp _ ⟨app_0, Nat.le_of_add_right_le hz, hK _, ?_⟩
      rw [setLast]
      exact wCF p f hK l (acc ++ [f v]) _ (fun u => put_put) (fun u m => e u (List.mem_cons_of_mem _ m)) (by rw [List.length_append]; exact Nat.le_trans (Nat.le_of_eq (Nat.succ_add_eq_add_succ _ _)) hz) (by rw [List.append_assoc]; exact q)
    | false =>
      rw [hp, if_neg Bool.false_ne_true] at q
      exact ⟨hK _, wCF p f hK l acc _ (fun u => put_put) (fun u m => e u (List.mem_cons_of_mem _ m)) (Nat.le_of_succ_le hz) q⟩
noncomputable def isNm : V → Bool
  | .tup l => (match l with
    | k :: _ => (match k with | .str x => decide (x = S "name") | _ => false)
    | [] => false)
  | _ => false
noncomputable def snd : V → V
  | .tup l => (match l with
    | _ :: r => (match r with | v :: _ => v | [] => .none)
    | [] => .none)
  | _ => .none
theorem leaf_flt {t : T} (h : isLeaf t) (r : List V) : ((t.v :: r).filter isNm).map snd = t.nm1.map .str ++ (r.filter isNm).map snd := by
  rw [List.filter_cons]
  rcases h with ⟨x, _, rfl⟩ | rfl
  · exact congrArg (List.map snd) (if_pos rfl)
  · exact congrArg (List.map snd) (if_neg (show ¬ (decide (S "whole" = S "name") = true) from by decide))
theorem k_names (C : CxK (mkC b)) {op : Str} {t u : T} {d : Nat} {σ : St} {Q : Post} (ht : isLeaf t) (hu : isLeaf u) (h : Q (.loc σ.length) (σ ++ [.list ((T.two op t u).nms.map .str)])) : Ca (mkC b) (d + 1) (ref 760) [(T.two op t u).v] σ Q := by
  refine Ca_def C (fn_760 C) rfl ?_
  refine ⟨2, rfl, Nat.le_of_ble_eq_true rfl, Nat.le_of_ble_eq_true rfl, Nat.le_of_ble_eq_true rfl, ?_⟩
  refine Iv_tup ⟨trivial, ?_⟩
  have el : (([t.v, u.v] : List V).filter isNm).map snd = (T.two op t u).nms.map .str := by
    rw [leaf_flt ht, leaf_flt hu]
    show _ ++ (_ ++ []) = (t.nm1 ++ u.nm1).map V.str
    rw [List.append_nil, List.map_append]
  refine wCF isNm snd (fun _ => trivial) [t.v, u.v] [] _ (fun _ => rfl) (fun v m σ' => ?_) (Nat.le_of_ble_eq_true rfl) (by rw [List.nil_append, el]; exact h)
  have lf : ∃ w, isLeaf w ∧ v = w.v := by
    rcases mem2 m with rfl | rfl
    · exact ⟨_, ht, rfl⟩
    · exact ⟨_, hu, rfl⟩
  obtain ⟨w, hw, rfl⟩ := lf
  rcases hw with ⟨x, _, rfl⟩ | rfl
  · exact ⟨fun B q => q, fun _ Q q => q⟩
  · exact ⟨fun B q => q, fun _ Q q => q⟩
end
end Mine
end
section
open PySem PySem.W PySem.Calls PyProof.Rows
set_option maxRecDepth 100000
set_option maxHeartbeats 4000000
set_option linter.unusedVariables false
namespace Mine
section
variable {b : CB}
structure Nd (l : List Str) : Prop where
  nd : l.Nodup
  sub : ∀ k ∈ l, k ∈ ABC
theorem nodup_le : ∀ {l m : List Str}, l.Nodup → (∀ k ∈ l, k ∈ m) → l.length ≤ m.length
  | [], _, _, _ => Nat.zero_le _
  | x :: l, m, h, hs => by
    obtain ⟨h1, h2⟩ := List.nodup_cons.mp h
    have hx : x ∈ m := hs x List.mem_cons_self
    have := nodup_le (m := m.erase x) h2 fun k mk => (List.mem_erase_of_ne (fun e : k = x => h1 (e ▸ mk))).mpr (hs k (List.mem_cons_of_mem _ mk))
    rw [List.length_erase_of_mem hx] at this
    exact Nat.le_trans (Nat.succ_le_succ this) (Nat.le_of_eq (Nat.sub_add_cancel (List.length_pos_of_mem hx)))
theorem Nd.len {l : List Str} (h : Nd l) : l.length ≤ 4 := nodup_le h.nd h.sub
noncomputable def bk (x : Str) (e : T) (need : List Str) (k : Str) : Prop := if x ∈ need then (k ∈ need ∧ k ≠ x) ∨ k ∈ e.nms else k ∈ need
noncomputable def P.keeps (p : P) (need : List Str) : Bool := match p with
  | .set x _ => decide (x ∈ need)
  | .br _ x₁ _ x₂ _ => decide (x₁ ∈ need) || decide (x₂ ∈ need)
noncomputable def P.bk (p : P) (need : List Str) (k : Str) : Prop := match p with
  | .set x e => Mine.bk x e need k
  | .br c x₁ e₁ x₂ e₂ => if p.keeps need = true then (Mine.bk x₁ e₁ need k ∨ Mine.bk x₂ e₂ need k) ∨ k ∈ c.nms else k ∈ need
structure Back (p : P) (need ss : List Str) : Prop where
  nd : Nd ss
  mem : ∀ k, k ∈ ss ↔ p.bk need k
theorem leaf_nm1 {t : T} (h : isLeaf t) {k : Str} (m : k ∈ t.nm1) : k ∈ ABC := by
  rcases h with ⟨x, hx, rfl⟩ | rfl
  · rw [List.mem_singleton.mp m]; exact hx
  · cases m
theorem two_nms {t : T} {ops : List Str} (h : isTwo ops t) : (∀ k ∈ t.nms, k ∈ ABC) ∧ t.nms.length ≤ 2 := by
  obtain ⟨op, a, b, _, ha, hb, rfl⟩ := h
  have l1 : ∀ {t : T}, isLeaf t → t.nm1.length ≤ 1 := fun h => by rcases h with ⟨x, _, rfl⟩ | rfl <;> exact Nat.le_of_ble_eq_true rfl
  refine ⟨fun k m => (List.mem_append.mp m).elim (leaf_nm1 ha) (leaf_nm1 hb), ?_⟩
  show (a.nm1 ++ b.nm1).length ≤ 2
  rw [List.length_append]
  exact Nat.add_le_add (l1 ha) (l1 hb)
noncomputable def backV (ss : List Str) (b : Bool) : V := .tup [.lst (ss.map .str), .bool b]
theorem clStrs (n : Nat) : ∀ ss : List Str, clVs n (ss.map .str) = true
  | [] => rfl
  | _ :: ss => by rw [List.map_cons]; unfold clVs; rw [clStrs n ss]; rfl
theorem clS {n : Nat} {b : Bool} (ss : List Str) : clV n (backV ss b) = true := by
  unfold backV clV clVs clVs clV
  rw [clStrs n ss]; rfl
noncomputable def neS (x : Str) : V → Bool
  | .str y => !decide (y = x)
  | _ => false
theorem flt_ne (x : Str) : ∀ (l : List Str), (((l.map V.str).filter (neS x)).map id) = (l.filter fun y => !decide (y = x)).map V.str
  | [] => rfl
  | y :: l => by
    rw [List.map_cons, List.filter_cons, List.filter_cons]
    show (if (!decide (y = x)) = true then _ else _ : List V).map id = _
    by_cases h : (!decide (y = x)) = true
    · rw [if_pos h, if_pos h, List.map_cons, List.map_cons, flt_ne x l]; rfl
    · rw [if_neg h, if_neg h, flt_ne x l]
theorem k_back1 (C : CxK (mkC b)) {x : Str} {e : T} {need : List Str} {d : Nat} {σ : St} {Q : Post} (he : isTwo pm e) (hn : Nd need)
    (h : ∀ ss, Nd ss → (∀ k, k ∈ ss ↔ bk x e need k) → (x ∉ need → ss = need) → Q (backV ss (decide (x ∈ need))) σ) : Ca (mkC b) (d + 2) (ref 765) [letV x e, .lst (need.map .str)] σ Q := by
  refine Ca_forget ?_
  refine Ca_def C (fn_765 C) rfl ?_
  refine Cm_notInA (.inl rfl) ?_
  by_cases hx : x ∈ need
  · refine br_F (by rw [decide_eq_true hx]; rfl) ?_
    obtain ⟨op, a, b, hop, ha, hb', rfl⟩ := id he
    obtain ⟨n1, n2⟩ := two_nms he
    refine W_SortedSet C rfl rfl rfl rfl ?_
    refine Iv_lst fun K hK => ⟨hK _, ?_⟩
    refine wCF (neS x) id hK (need.map .str) [] _ (fun _ => rfl) (fun v m σ' => ?_) (by rw [List.length_map, List.length_nil, Nat.zero_add]; exact Nat.le_trans hn.len (Nat.le_of_ble_eq_true rfl)) ?_
    · obtain ⟨y, _, rfl⟩ := List.mem_map.mp m
      exact ⟨fun B q => q, fun _ Q q => q⟩
    rw [List.nil_append, flt_ne]
    refine k_names C ha hb' ?_
    have hl : (need.filter fun y => !decide (y = x)).length ≤ 4 := Nat.le_trans (List.length_filter_le _ _) hn.len
    refine Bi_addL (.inr ⟨_, rfl, .inl (app_l app_0)⟩) (.inr ⟨_, rfl, .inl app_0⟩) (by rw [List.length_map, List.length_map]; exact Nat.le_trans (Nat.add_le_add hl n2) (Nat.le_of_ble_eq_true rfl)) ?_
    rw [← List.map_append]
    refine ⟨_, .inl rfl, by rw [List.length_append]; exact Nat.lt_of_le_of_lt (Nat.add_le_add hl n2) (Nat.le_of_ble_eq_true rfl), fun ss nd hm => ?_⟩
    have hk : ∀ k, k ∈ ss ↔ bk x (.two op a b) need k := fun k => (hm k).trans (by
      unfold bk
      rw [if_pos hx, List.mem_append, List.mem_filter]
      refine or_congr (and_congr_right fun _ => ?_) Iff.rfl
      rw [Bool.not_eq_true', decide_eq_false_iff_not])
    have nd' : Nd ss := ⟨nd, fun k m => by
      have := (hk k).mp m
      unfold bk at this
      rw [if_pos hx] at this
      exact this.elim (fun q => hn.sub k q.1) (n1 k)⟩
    rw [List.append_assoc]
    refine forget0 (clS _) ?_
    have := h ss nd' hk fun q => (q hx).elim
    rw [decide_eq_true hx] at this; exact this
  · refine br_T (by rw [decide_eq_false hx]; rfl) ?_
    have := h need hn (fun k => by unfold bk; rw [if_neg hx]) fun _ => rfl
    rw [decide_eq_false hx] at this
    exact ⟨σ, [], (List.append_nil σ).symm, rfl, fun _ _ e => .inl e, clS _, this⟩
theorem bk_sub {x : Str} {e : T} {need : List Str} (he : isTwo pm e) (hn : Nd need) {k : Str} (h : bk x e need k) : k ∈ ABC := by
  unfold bk at h
  by_cases hx : x ∈ need
  · rw [if_pos hx] at h; exact h.elim (fun q => hn.sub k q.1) ((two_nms he).1 k)
  · rw [if_neg hx] at h; exact hn.sub k h
theorem br_nn {b₁ b₂ : Bool} {X Y : Prop} (h : (b₁ || b₂) = true) (hY : Y) : br (!b₁) (br (!b₂) X Y) Y := by
  cases b₁ with
  | true => exact hY
  | false => cases b₂ with
    | true => exact hY
    | false => cases h
theorem br_nn' {b₁ b₂ : Bool} {X Y : Prop} (h : (b₁ || b₂) = false) (hX : X) : br (!b₁) (br (!b₂) X Y) Y := by
  cases b₁ with
  | true => cases h
  | false => cases b₂ with
    | true => cases h
    | false => exact hX
theorem k_back (C : CxK (mkC b)) {p : P} {need : List Str} {d : Nat} {σ : St} {Q : Post} (hp : isP p) (hn : Nd need)
    (h : ∀ ss, Back p need ss → (p.keeps need = false → ss = need) → Q (backV ss (p.keeps need)) σ) : Ca (mkC b) (d + 3) (ref 765) [p.v, .lst (need.map .str)] σ Q := by
  cases p with
  | set x e => exact k_back1 C hp.2 hn fun ss nd hk h0 => h ss ⟨nd, hk⟩ fun q => h0 (of_decide_eq_false q)
  | br c x₁ e₁ x₂ e₂ =>
    obtain ⟨h1, h2, h3, h4, h5⟩ := hp
    refine Ca_forget ?_
    refine Ca_def C (fn_765 C) rfl ?_
    refine Gi_lst (by decide) rfl ?_
    refine k_back1 C h3 hn fun s₁ n₁ m₁ g₁ => ⟨rfl, ?_⟩
    refine Gi_lst (by decide) rfl ?_
    refine k_back1 C h5 hn fun s₂ n₂ m₂ g₂ => ⟨rfl, ?_⟩
    cases hk : (P.br c x₁ e₁ x₂ e₂).keeps need with
    | true =>
      rw [hk] at h
      refine br_nn hk ?_
      obtain ⟨op, ca, cb, hop, ha, hb', rfl⟩ := id h1
      obtain ⟨c1, c2⟩ := two_nms h1
      refine W_SortedSet C rfl rfl rfl rfl ?_
      have hl : s₁.length + s₂.length ≤ 8 := Nat.add_le_add n₁.len n₂.len
      refine Bi_addL (.inl rfl) (.inl rfl) (by rw [List.length_map, List.length_map]; exact Nat.le_trans hl (Nat.le_of_ble_eq_true rfl)) ?_
      rw [← List.map_append]
      refine k_names C ha hb' ?_
      have hl' : (s₁ ++ s₂).length + (T.two op ca cb).nms.length ≤ 10 := by rw [List.length_append]; exact Nat.add_le_add hl c2
      refine Bi_addL (.inl rfl) (.inr ⟨_, rfl, .inl app_0⟩) (by rw [List.length_map, List.length_map]; exact Nat.le_trans hl' (Nat.le_of_ble_eq_true rfl)) ?_
      rw [← List.map_append]
      refine ⟨_, .inl rfl, by rw [List.length_append]; exact Nat.lt_of_le_of_lt hl' (Nat.le_of_ble_eq_true rfl), fun ss nd hm => ?_⟩
      have hmem : ∀ k, k ∈ ss ↔ (Mine.bk x₁ e₁ need k ∨ Mine.bk x₂ e₂ need k) ∨ k ∈ (T.two op ca cb).nms := fun k => by
        rw [hm k, List.mem_append, List.mem_append, m₁ k, m₂ k]
      refine forget0 (clS _) (h ss ⟨⟨nd, fun k m => ?_⟩, fun k => (hmem k).trans ?_⟩ nofun)
      · rcases (hmem k).mp m with (q | q) | q
        · exact bk_sub h3 hn q
        · exact bk_sub h5 hn q
        · exact c1 k q
      · show _ ↔ (if (P.br _ x₁ e₁ x₂ e₂).keeps need = true then _ else _)
        rw [if_pos hk]
    | false =>
      rw [hk] at h
      refine br_nn' hk ?_
      have := h need ⟨hn, fun k => by
        show _ ↔ (if (P.br c x₁ e₁ x₂ e₂).keeps need = true then _ else _)
        rw [if_neg (by rw [hk]; exact Bool.false_ne_true)]⟩ fun _ => rfl
      exact ⟨σ, [], (List.append_nil σ).symm, rfl, fun _ _ e => .inl e, clS _, this⟩
end
end Mine
end
section
open PySem PySem.W PySem.Calls PyProof.Rows
set_option maxRecDepth 100000
set_option maxHeartbeats 4000000
set_option linter.unusedVariables false
namespace Mine
section
variable {b : CB}
noncomputable def optL (o : Option (List Str)) : V := match o with | some l => .lst (l.map .str) | none => .none
noncomputable def optK (b : Bool) (l : List Str) : Option (List Str) := match b with | true => some l | false => none
theorem optB_K (b : Bool) (l : List Str) : optB b (.lst (l.map .str)) = optL (optK b l) := by cases b <;> rfl
inductive Slice (s0 s1 s2 s3 s4 : P) (name : Str) (n0 n1 n2 n3 n4 : Option (List Str)) : Prop
  | mk (l4 a l3 l2 b l1 l0 : List Str) (B4 : Back s4 [name] l4) (B3 : Back s3 a l3) (B2 : Back s2 l3 l2) (hb : ∀ k, k ∈ b ↔ k ∈ l4 ∨ k ∈ l2) (ha : ∀ k, k ∈ a ↔ k ∈ b) (B1 : Back s1 b l1) (B0 : Back s0 l1 l0)
    (e4 : n4 = optK (s4.keeps [name]) l4) (e3 : n3 = optK (s3.keeps a) l3) (e2 : n2 = optK (s2.keeps l3) l2) (e1 : n1 = optK (s1.keeps b) l1) (e0 : n0 = optK (s0.keeps l1) l0)
theorem bk1_mono {x : Str} {e : T} {n m : List Str} (h : ∀ k ∈ n, k ∈ m) {k : Str} (q : bk x e n k) : bk x e m k := by
  unfold bk at q ⊢
  by_cases hn : x ∈ n
  · rw [if_pos hn] at q; rw [if_pos (h x hn)]; exact q.imp (fun z => ⟨h k z.1, z.2⟩) id
  · rw [if_neg hn] at q
    by_cases hm : x ∈ m
    · rw [if_pos hm]; exact .inl ⟨h k q, fun e => hn (e ▸ q)⟩
    · rw [if_neg hm]; exact h k q
theorem bk_mono {p : P} {n m : List Str} (h : ∀ k ∈ n, k ∈ m) {k : Str} (q : p.bk n k) : p.bk m k := by
  cases p with
  | set x e => exact bk1_mono h q
  | br c x₁ e₁ x₂ e₂ =>
    have q : if (P.br c x₁ e₁ x₂ e₂).keeps n = true then (Mine.bk x₁ e₁ n k ∨ Mine.bk x₂ e₂ n k) ∨ k ∈ c.nms else k ∈ n := q
    show if (P.br c x₁ e₁ x₂ e₂).keeps m = true then (Mine.bk x₁ e₁ m k ∨ Mine.bk x₂ e₂ m k) ∨ k ∈ c.nms else k ∈ m
    by_cases hn : (P.br c x₁ e₁ x₂ e₂).keeps n = true
    · have hm : (P.br c x₁ e₁ x₂ e₂).keeps m = true := Bool.or_eq_true_iff.mpr ((Bool.or_eq_true_iff.mp hn).imp (fun z => decide_eq_true (h _ (of_decide_eq_true z))) fun z => decide_eq_true (h _ (of_decide_eq_true z)))
      rw [if_pos hn] at q; rw [if_pos hm]
      exact q.imp (fun z => z.imp (bk1_mono h) (bk1_mono h)) id
    · rw [if_neg hn] at q
      by_cases hm : (P.br c x₁ e₁ x₂ e₂).keeps m = true
      · rw [if_pos hm]
        have hn : (decide (x₁ ∈ n) || decide (x₂ ∈ n)) = false := Bool.eq_false_iff.mpr hn
        have hn1 : x₁ ∉ n := of_decide_eq_false (Bool.or_eq_false_iff.mp hn).1
        exact .inl (.inl (bk1_mono h (by unfold Mine.bk; rw [if_neg hn1]; exact q)))
      · rw [if_neg hm]; exact h k q
theorem Back.mono {p : P} {n m ss tt : List Str} (h : ∀ k ∈ n, k ∈ m) (a : Back p n ss) (c : Back p m tt) : ∀ k ∈ ss, k ∈ tt := fun k q => (c.mem k).mpr (bk_mono h ((a.mem k).mp q))
structure Round (s2 s3 : P) (l4 : List Str) (i : Nat) (prev third second loop : List Str) : Prop where
  b3 : Back s3 prev third
  b2 : Back s2 third second
  nd : Nd loop
  ndp : Nd prev
  mem : ∀ k, k ∈ loop ↔ k ∈ l4 ∨ k ∈ second
  sub : ∀ k ∈ prev, k ∈ loop
  more : (∀ k ∈ loop, k ∈ prev) ∨ i ≤ loop.length
theorem grow_or {l m : List Str} (hl : Nd l) (hm : Nd m) (h : ∀ k ∈ l, k ∈ m) : (∀ k ∈ m, k ∈ l) ∨ l.length + 1 ≤ m.length := by
  by_cases hs : ∀ k ∈ m, k ∈ l
  · exact .inl hs
  · have ⟨x, hx⟩ := Classical.not_forall.mp hs
    obtain ⟨hx, hxl⟩ := Classical.not_imp.mp hx
    exact .inr (nodup_le (l := x :: l) (List.nodup_cons.mpr ⟨hxl, hl.nd⟩) fun k mk => (List.mem_cons.mp mk).elim (fun e => e ▸ hx) (h k))
theorem Round.next {s2 s3 : P} {l4 prev third second loop third' second' loop' : List Str} {i : Nat} (r : Round s2 s3 l4 i prev third second loop) (b3 : Back s3 loop third') (b2 : Back s2 third' second') (nd : Nd loop') (mem : ∀ k, k ∈ loop' ↔ k ∈ l4 ∨ k ∈ second') : Round s2 s3 l4 (i + 1) loop third' second' loop' := by
  have up : ∀ {n m n3 m3 n2 m2 : List Str}, (∀ k ∈ n, k ∈ m) → Back s3 n n3 → Back s2 n3 n2 → Back s3 m m3 → Back s2 m3 m2 → ∀ k ∈ n2, k ∈ m2 := fun h a a' c c' => a'.mono (a.mono h c) c'
  have sub : ∀ k ∈ loop, k ∈ loop' := fun k q => (mem k).mpr (((r.mem k).mp q).imp id (up r.sub r.b3 r.b2 b3 b2 k))
  refine ⟨b3, b2, nd, r.nd, mem, sub, ?_⟩
  rcases r.more with st | le
  · exact .inl fun k q => (r.mem k).mpr (((mem k).mp q).imp id (up st b3 b2 r.b3 r.b2 k))
  · exact (grow_or r.nd nd sub).imp id fun q => Nat.le_trans (Nat.succ_le_succ le) q
theorem Round.first {s2 s3 : P} {l4 third second loop : List Str} (n4 : Nd l4) (b3 : Back s3 l4 third) (b2 : Back s2 third second) (nd : Nd loop) (mem : ∀ k, k ∈ loop ↔ k ∈ l4 ∨ k ∈ second) : Round s2 s3 l4 1 l4 third second loop :=
  ⟨b3, b2, nd, n4, mem, fun k q => (mem k).mpr (.inl q), (grow_or n4 nd fun k q => (mem k).mpr (.inl q)).imp id fun q => Nat.le_trans (Nat.le_add_left 1 _) q⟩
theorem Round.fix {s2 s3 : P} {l4 prev third second loop : List Str} (r : Round s2 s3 l4 5 prev third second loop) : ∀ k, k ∈ prev ↔ k ∈ loop := fun k =>
  ⟨r.sub k, fun q => r.more.elim (fun h => h k q) fun h => absurd (Nat.le_trans h r.nd.len) (by decide)⟩
end
end Mine
end
section
open PySem PySem.W PySem.Calls PyProof.Rows
set_option maxRecDepth 100000
set_option maxHeartbeats 4000000
set_option linter.unusedVariables false
namespace Mine
section
variable {b : CB}
noncomputable def slV (s0 s1 s2 s3 s4 : P) : SO := .list [s0.v, s1.v, s2.v, s3.v, s4.v]
theorem rnd_len {l m : List Str} (a : Nd l) (c : Nd m) : (l ++ m).length < 60 := by rw [List.length_append]; exact Nat.lt_of_le_of_lt (Nat.add_le_add a.len c.len) (Nat.le_of_ble_eq_true rfl)
theorem rnd_nd {l m ss : List Str} (a : Nd l) (c : Nd m) (nd : ss.Nodup) (hm : ∀ k, k ∈ ss ↔ k ∈ l ++ m) : Nd ss ∧ ∀ k, k ∈ ss ↔ k ∈ l ∨ k ∈ m :=
  ⟨⟨nd, fun k q => (List.mem_append.mp ((hm k).mp q)).elim (a.sub k) (c.sub k)⟩, fun k => (hm k).trans List.mem_append⟩
theorem k_slice (C : CxK (mkC b)) {s0 s1 s2 s3 s4 : P} {name : Str} {n d : Nat} {σ : St} {Q : Post} (hn : σ[n]? = some (slV s0 s1 s2 s3 s4)) (h0 : isP s0) (h1 : isP s1) (h2 : isP s2) (h3 : isP s3) (h4 : isP s4) (hname : name ∈ ABC)
    (h : ∀ n0 n1 n2 n3 n4, Slice s0 s1 s2 s3 s4 name n0 n1 n2 n3 n4 → Q (.loc σ.length) (σ ++ [.list [optL n0, optL n1, optL n2, optL n3, optL n4]])) : Ca (mkC b) (d + 4) (ref 772) [.loc n, .str name] σ Q := by
  refine Ca_def C (fn_772 C) rfl ?_
  refine Gi_loc hn (by decide) rfl ?_
  refine W_ListF C ?_
  refine k_back C (need := [name]) h4 ⟨List.nodup_cons.mpr ⟨nofun, .nil⟩, fun k m => List.mem_singleton.mp m ▸ hname⟩ fun l4 b4 _ => ⟨rfl, ?_⟩
  refine W_List C ?_
  refine W_Opt C rfl rfl rfl rfl ?_
  rw [optB_K]
  refine ⟨rfl, ?_⟩
  refine W_For C ["statements", "found", "behind", "loop", "third", "is_third", "second", "is_second"] (Ic_range (n := 5) (Nat.le_of_ble_eq_true rfl) ?_)
  refine (?_ : (∀ (vs : List V) (i : Nat) (prev third second loop : List Str), Round s2 s3 l4 i prev third second loop → i + vs.length = 5 → kLOOPS ?c9 ?sc9 ?d9 ?ns9 ?t9 ?b9 ?K9 ?R9 vs
      [(S "statements", .loc n), (S "found", .loc σ.length), (S "behind", .lst (l4.map .str)), (S "loop", .lst (loop.map .str)), (S "third", .lst (third.map .str)), (S "is_third", .bool (s3.keeps prev)), (S "second", .lst (second.map .str)), (S "is_second", .bool (s2.keeps third))]
      (σ ++ [.list [.none, .none, .none, .none, optL (optK (s4.keeps [name]) l4)]])) → kLOOPS ?c9 ?sc9 ?d9 ?ns9 ?t9 ?b9 ?K9 ?R9 ((List.range 5).map fun i => .int (i : Nat)) [(S "statements", .loc n), (S "found", .loc σ.length), (S "behind", .lst (l4.map .str)), (S "loop", .lst (l4.map .str))]
      (σ ++ [.list [.none, .none, .none, .none, optL (optK (s4.keeps [name]) l4)]])) ?_
  · intro go
    refine Gi_loc (app_l hn) (by decide) rfl ?_
    refine k_back C (need := l4) h3 b4.nd fun third b3 _ => ⟨rfl, ?_⟩
    refine Gi_loc (app_l hn) (by decide) rfl ?_
    refine k_back C h2 b3.nd fun second b2 _ => ⟨rfl, ?_⟩
    refine W_SortedSet C rfl rfl rfl rfl ?_
    refine Bi_addL (.inl rfl) (.inl rfl) (by rw [List.length_map, List.length_map]; exact Nat.le_trans (Nat.add_le_add b4.nd.len b2.nd.len) (Nat.le_of_ble_eq_true rfl)) ?_
    rw [← List.map_append]
    refine ⟨_, .inl rfl, rnd_len b4.nd b2.nd, fun loop nd hm => ⟨trivial, ?_⟩⟩
    obtain ⟨nl, hm⟩ := rnd_nd b4.nd b2.nd nd hm
    exact go _ 1 l4 third second loop (.first b4.nd b3 b2 nl hm) rfl
  · intro vs
    induction vs with
    | cons v vs ih =>
      intro i prev third second loop r hi
      refine Gi_loc (app_l hn) (by decide) rfl ?_
      refine k_back C (need := loop) h3 r.nd fun third b3 _ => ⟨rfl, ?_⟩
      refine Gi_loc (app_l hn) (by decide) rfl ?_
      refine k_back C h2 b3.nd fun second b2 _ => ⟨rfl, ?_⟩
      refine W_SortedSet C rfl rfl rfl rfl ?_
      refine Bi_addL (.inl rfl) (.inl rfl) (by rw [List.length_map, List.length_map]; exact Nat.le_trans (Nat.add_le_add b4.nd.len b2.nd.len) (Nat.le_of_ble_eq_true rfl)) ?_
      rw [← List.map_append]
      refine ⟨_, .inl rfl, rnd_len b4.nd b2.nd, fun loop nd hm => ⟨trivial, ?_⟩⟩
      obtain ⟨nl, hm⟩ := rnd_nd b4.nd b2.nd nd hm
      exact ih (i + 1) _ third second loop (r.next b3 b2 nl hm) ((Nat.succ_add_eq_add_succ i vs.length).trans hi)
    | nil =>
      intro i prev third second loop r hi
      obtain rfl : i = 5 := hi
      refine W_AssignT2 C ?_
      refine W_Opt C rfl rfl rfl rfl ?_
      refine W_Opt C rfl rfl rfl rfl ⟨_, _, rfl, ?_⟩
      rw [optB_K, optB_K]
      refine Si_list app_0 (by decide) (Int.ofNat_lt.mpr (Nat.le_of_ble_eq_true rfl)) ?_
      rw [setLast]
      refine Si_list app_0 (by decide) (Int.ofNat_lt.mpr (Nat.le_of_ble_eq_true rfl)) ?_
      rw [setLast]
      refine W_For C ["statements", "found", "loop"] (Iv_tup ?_)
      refine Gi_loc (app_l hn) (by decide) rfl ?_
      refine k_back C (need := loop) h1 r.nd fun l1 b1 _ => ⟨rfl, ?_⟩
      refine W_Opt C rfl rfl rfl rfl ?_
      rw [optB_K]
      refine Si_list app_0 (by decide) (Int.ofNat_lt.mpr (Nat.le_of_ble_eq_true rfl)) ?_
      rw [setLast]
      refine ⟨trivial, ?_⟩
      refine Gi_loc (app_l hn) (by decide) rfl ?_
      refine k_back C (need := l1) h0 b1.nd fun l0 b0 _ => ⟨rfl, ?_⟩
      refine W_Opt C rfl rfl rfl rfl ?_
      rw [optB_K]
      refine Si_list app_0 (by decide) (Int.ofNat_lt.mpr (Nat.le_of_ble_eq_true rfl)) ?_
      rw [setLast]
      refine ⟨trivial, ?_⟩
      exact h _ _ _ _ _ ⟨l4, prev, third, second, loop, l1, l0, b4, r.b3, r.b2, r.mem, r.fix, b1, b0, rfl, rfl, rfl, rfl, rfl⟩
end
end Mine
end
section
open PySem PySem.W PySem.Calls PyProof.Rows
set_option maxRecDepth 100000
set_option maxHeartbeats 4000000
set_option linter.unusedVariables false
namespace Mine
section
variable {b : CB}
noncomputable abbrev Env0 := List (Str × V)
noncomputable def look (l : Env0) (x : Str) : Int := match getK l x with | some (.int i) => i | _ => 0
noncomputable def has (l : Env0) : Prop := ∀ x ∈ ABC, getK l x = some (.int (look l x))
noncomputable def cmpF (op : Str) (a b : Int) : Bool := if op = S "<" then decide (a < b) else if op = S "=" then decide (a = b) else decide (b ≤ a)
noncomputable def arF (op : Str) (a b : Int) : Int := if op = S "+" then a + b else a - b
noncomputable def lf (l : Env0) : T → Int
  | .nm x => look l x
  | .wh n => n
  | _ => 0
theorem wC2 {F : Rec} {sc : Sc} {elt : Expr} {x : Str} {K : St → Prop} {T : List V → St → Prop} {a b ua ub : V} {ρ : Vars} {σ : St} (hK : ∀ σ', K σ') (e1 : ∀ Q : Post, Q ua (σ ++ [.list []]) → (F sc).E elt (put ρ x a) (σ ++ [.list []]) Q)
    (e2 : ∀ Q : Post, Q ub (σ ++ [.list [ua]]) → (F sc).E elt (put (put ρ x a) x b) (σ ++ [.list [ua]]) Q) (h : T [ua, ub] (σ ++ [.list [ua, ub]])) : wCOMPS F sc elt x K σ.length T [a, b] [] ρ (σ ++ [.list []]) := by
  refine e1 _ ⟨app_0, Nat.le_of_ble_eq_true rfl, hK _, ?_⟩
  rw [setLast]
  refine e2 _ ⟨app_0, Nat.le_of_ble_eq_true rfl, hK _, ?_⟩
  rw [setLast]
  exact ⟨app_0, h⟩
theorem k_value (C : CxK (mkC b)) {op : Str} {t u : T} {n : Nat} {l : Env0} {d : Nat} {σ : St} {Q : Post} (ha : isLeaf t) (hb' : isLeaf u) (hn : σ[n]? = some (.dictS l)) (hl : has l)
    (h1 : op ∈ pm → Q (.int (arF op (lf l t) (lf l u))) σ) (h2 : op ∈ cps → Q (.bool (cmpF op (lf l t) (lf l u))) σ) (hop : op ∈ pm ∨ op ∈ cps) : Ca (mkC b) (d + 1) (ref 803) [(T.two op t u).v, .loc n] σ Q := by
  refine Ca_forget ?_
  refine Ca_def C (fn_803 C) rfl ?_
  refine ⟨2, rfl, Nat.le_of_ble_eq_true rfl, Nat.le_of_ble_eq_true rfl, Nat.le_of_ble_eq_true rfl, ?_⟩
  refine Iv_tup ⟨trivial, ?_⟩
  refine wC2 (ua := .int (lf l t)) (ub := .int (lf l u)) (fun _ => trivial) (fun Q q => ?_) (fun Q q => ?_) ⟨_, .inr ⟨_, rfl, .inl app_0⟩, rfl, ?_⟩
  · rcases ha with ⟨x, hx, rfl⟩ | rfl
    · exact Gi_dictS (app_l hn) (hl x hx) q
    · exact q
  · rcases hb' with ⟨x, hx, rfl⟩ | rfl
    · exact Gi_dictS (app_l hn) (hl x hx) q
    · exact q
  rcases hop with ho | ho
  · rcases mem2 ho with rfl | rfl
    · exact forget0 rfl (h1 ho)
    · exact forget0 rfl (h1 ho)
  · rcases mem3 ho with rfl | rfl | rfl
    · exact forget0 rfl (h2 ho)
    · exact forget0 rfl (h2 ho)
    · exact forget0 rfl (h2 ho)
noncomputable def T.val (l : Env0) : T → Int
  | .two op a b => arF op (lf l a) (lf l b)
  | _ => 0
noncomputable def T.tst (l : Env0) : T → Bool
  | .two op a b => cmpF op (lf l a) (lf l b)
  | _ => false
noncomputable def P.run : P → Env0 → Env0
  | .set x e, l => putK l x (.int (e.val l))
  | .br c x₁ e₁ x₂ e₂, l => if c.tst l then putK l x₁ (.int (e₁.val l)) else putK l x₂ (.int (e₂.val l))
theorem pm_not_cps {op : Str} (h : op ∈ pm) (h' : op ∈ cps) : False := by
  rcases mem2 h with rfl | rfl <;> exact absurd h' (by decide)
theorem k_val (C : CxK (mkC b)) {e : T} {n : Nat} {l : Env0} {d : Nat} {σ : St} {Q : Post} (he : isTwo pm e) (hn : σ[n]? = some (.dictS l)) (hl : has l) (h : Q (.int (e.val l)) σ) : Ca (mkC b) (d + 1) (ref 803) [e.v, .loc n] σ Q := by
  obtain ⟨op, a, b, hop, ha, hb', rfl⟩ := he
  exact k_value C ha hb' hn hl (fun _ => h) (fun h' => (pm_not_cps hop h').elim) (.inl hop)
theorem k_tst (C : CxK (mkC b)) {e : T} {n : Nat} {l : Env0} {d : Nat} {σ : St} {Q : Post} (he : isTwo cps e) (hn : σ[n]? = some (.dictS l)) (hl : has l) (h : Q (.bool (e.tst l)) σ) : Ca (mkC b) (d + 1) (ref 803) [e.v, .loc n] σ Q := by
  obtain ⟨op, a, b, hop, ha, hb', rfl⟩ := he
  exact k_value C ha hb' hn hl (fun h' => (pm_not_cps h' hop).elim) (fun _ => h) (.inr hop)
end
end Mine
end
section
open PySem PySem.W PySem.Calls PyProof.Rows
set_option maxRecDepth 100000
set_option maxHeartbeats 4000000
set_option linter.unusedVariables false
namespace Mine
section
variable {b : CB}
theorem ne_of_kind {σ : St} {n m : Nat} {o o' : SO} (h : σ[n]? = some o) (h' : σ[m]? = some o') (ho : o ≠ o') : n ≠ m := fun e => ho (by subst e; rw [h] at h'; exact Option.some.inj h')
theorem aok {K : Frag} {C : Addr} {name : Str} (h : (plainGet K C name && (hasDictIn K C && (match findIn K (.ref C) name with | some attr => noGet K attr | none => false))) = true) : AttrOf K C name := by
  obtain ⟨h1, h⟩ := and2 h
  obtain ⟨h2, h⟩ := and2 h
  refine ⟨h1, h2, ?_⟩
  cases e : findIn K (.ref C) name with
  | none => rw [e] at h; cases h
  | some attr => rw [e] at h; exact ⟨attr, rfl, h⟩
structure Pf where
  (f a r p dt pr lp fn : Nat)
noncomputable def flatA (z : Pf) : List (Str × V) := [(S "rows", .loc z.r), (S "places", .loc z.p), (S "data", .loc z.dt), (S "pairs", .loc z.pr), (S "loops", .loc z.lp), (S "fns", .loc z.fn)]
structure FlatAt (σ : St) (z : Pf) (L : List V) : Prop where
  inst : σ[z.f]? = some (.inst 423 z.a)
  attrs : σ[z.a]? = some (.attrs (flatA z))
  rows : σ[z.r]? = some (.list L)
theorem FlatAt.set {σ : St} {z : Pf} {L : List V} (H : FlatAt σ z L) (L' : List V) : FlatAt (σ.set z.r (.list L')) z L' :=
  ⟨set_miss (ne_of_kind H.rows H.inst nofun) H.inst, set_miss (ne_of_kind H.rows H.attrs nofun) H.attrs, set_hit H.rows⟩
noncomputable def row (ln : Int) (s : V) : V := .tup [.int ln, s]
theorem At_rows (C : CxK (mkC b)) {d : Nat} {σ : St} {z : Pf} {L : List V} {Q : Post} (H : FlatAt σ z L) (h : Q (.loc z.r) σ) : At (mkC b) d (.loc z.f) (S "rows") σ Q := At_inst C H.inst H.attrs rfl (aok (by kernel_rfl)) rfl h
theorem le_cap {n m : Nat} (h : n ≤ 4000) (e : 4000 ≤ m := by exact Nat.le_of_ble_eq_true rfl) : n ≤ m := Nat.le_trans h e
noncomputable abbrev upF (σ : St) (z : Pf) (L : List V) : St := σ.set z.r (.list L)
theorem k_row (C : CxK (mkC b)) {z : Pf} {L0 : List V} (L : List V) {ln : Int} {sv : V} {d : Nat} {σ : St} {Q : Post} (H : FlatAt σ z L0) (hz : L.length ≤ 4000)
    (h : Q (.int L.length) (upF σ z (L ++ [row ln sv]))) : Ca (mkC b) (d + 1) (ref 434) [.loc z.f, .int ln, sv] (upF σ z L) Q := by
  have el : (L ++ [row ln sv]).length = L.length + 1 := List.length_append
  have e : (((L ++ [row ln sv]).length : Nat) : Int) - 1 = (L.length : Nat) := by rw [el]; exact Int.add_sub_cancel (L.length : Int) 1
  refine Ca_def C (fn_434 C) rfl ?_
  refine At_rows C (H.set L) ?_
  refine Gm_append (H.set L).rows ?_
  refine KCa_append (H.set L).rows (le_cap hz) ?_
  rw [List.set_set]
  refine At_rows C (H.set _) ?_
  refine Ca_len (H.set _).rows (el ▸ Nat.le_trans (Nat.succ_le_succ hz) (Nat.le_of_ble_eq_true rfl)) ?_
  show Q (.int (((L ++ [row ln sv]).length : Nat) - 1)) _
  rw [e]; exact h
noncomputable def letR (ln : Int) (x : Str) (e : T) : V := row ln (letV x e)
noncomputable def ifnV (t : T) (n : Nat) : V := .tup [.str (S "IFNOT"), t.v, .int (n : Nat)]
noncomputable def jmpV (n : Nat) : V := .tup [.str (S "JUMP"), .int (n : Nat)]
noncomputable def P.rows (ln : Int) (i : Nat) : P → List V
  | .set x e => [letR ln x e]
  | .br c x₁ e₁ x₂ e₂ => [row ln (ifnV c (i + 3)), letR ln x₁ e₁, row ln (jmpV (i + 4)), letR ln x₂ e₂]
theorem k_all1 (C : CxK (mkC b)) {z : Pf} {ln : Int} {x : Str} {e : T} {d : Nat} {L0 : List V} (L : List V) {σ : St} {Q : Post} (H : FlatAt σ z L0) (hz : L.length ≤ 4000)
    (h : Q .none (upF σ z (L ++ [letR ln x e]))) : Ca (mkC b) (d + 2) (ref 448) [.loc z.f, .int ln, .lst [letV x e]] (upF σ z L) Q := by
  refine Ca_def C (fn_448 C) rfl ?_
  refine W_For C ["flat", "line"] (Iv_lst fun K hK => ?_)
  refine k_row C L H hz ?_
  exact ⟨hK _, h⟩
theorem setL {L t : List V} {u v : V} {n : Int} (h : (L.length : Int) = n) : (L ++ u :: t).set n.toNat v = L ++ v :: t := by subst h; rw [Int.toNat_natCast, List.set_append_right _ _ (Nat.le_refl _), Nat.sub_self]; rfl
theorem app1 (L t : List V) (v : V) : (L ++ t) ++ [v] = L ++ (t ++ [v]) := List.append_assoc _ _ _
theorem app2 (L t : List V) (u v : V) : L ++ u :: v :: t = (L ++ [u, v]) ++ t := (List.append_assoc L [u, v] t).symm
theorem Si_row {σ : St} {z : Pf} {L0 L t M M' : List V} {u v : V} {k : Int} {d : Nat} {P : St → Prop} (H : FlatAt σ z L0) (hM : M = L ++ u :: t) (hk : (L.length : Int) = k) (hz : L.length ≤ 4000) (hM' : M' = L ++ v :: t) (h : P (upF σ z M')) : Si (mkC b) d (.loc z.r) (.int k) v (upF σ z M) P := by
  subst hk hM hM'
  refine Si_list (H.set _).rows (Int.natCast_nonneg _) (Int.ofNat_lt.mpr (by rw [List.length_append]; exact Nat.lt_add_of_pos_right (Nat.succ_pos _))) ?_ (cast_lt hz (by decide))
  rw [List.set_set, setL rfl]; exact h
theorem Ca_lenR {σ : St} {z : Pf} {L0 L t : List V} {n m d : Nat} {Q : Post} (H : FlatAt σ z L0) (e : t.length = m) (hz : L.length ≤ n) (hn : Nat.ble (n + m) 100000 = true) (h : Q (.int (L.length + m : Nat)) (upF σ z (L ++ t))) : Ca (mkC b) d (.raw (.builtin "len")) [.loc z.r] (upF σ z (L ++ t)) Q := by
  have el : (L ++ t).length = L.length + m := e ▸ List.length_append
  refine Ca_len (H.set _).rows (el ▸ Nat.le_trans (Nat.add_le_add_right hz m) (Nat.le_of_ble_eq_true hn)) ?_
  rw [el]; exact h
theorem k_if (C : CxK (mkC b)) {z : Pf} {ln : Int} {c : T} {x₁ : Str} {e₁ : T} {x₂ : Str} {e₂ : T} {d : Nat} {L0 : List V} (L : List V) {σ : St} {Q : Post} (H : FlatAt σ z L0) (hz : L.length ≤ 3000)
    (h : Q .none (upF σ z (L ++ P.rows ln L.length (.br c x₁ e₁ x₂ e₂)))) : Ca (mkC b) (d + 3) (ref 441) [.loc z.f, .int ln, (P.br c x₁ e₁ x₂ e₂).v] (upF σ z L) Q := by
  have hz' : ∀ {t : List V} (k : Nat), t.length = k → Nat.ble (3000 + k) 4000 = true → (L ++ t).length ≤ 4000 := fun k e hk => by rw [List.length_append, e]; exact leS hz k (Nat.le_of_ble_eq_true hk)
  have hz1 : L.length ≤ 4000 := Nat.le_trans hz (Nat.le_of_ble_eq_true rfl)
  refine Ca_def C (fn_441 C) rfl ?_
  refine k_row C L H hz1 ?_
  refine k_all1 C _ H (hz' 1 rfl rfl) ?_
  refine Ca_lenF (Nat.le_of_ble_eq_true rfl) ?_
  rw [app1]
  refine k_row C _ H (hz' 2 rfl rfl) ?_
  rw [app1]
  refine At_rows C (H.set _) ?_
  refine Ca_lenR H rfl hz rfl ?_
  refine At_rows C (H.set _) ?_
  refine Si_row H rfl rfl hz1 rfl ?_
  refine k_all1 C _ H (hz' 3 rfl rfl) ?_
  rw [app1]
  refine At_rows C (H.set _) ?_
  refine Ca_lenR H rfl hz rfl ?_
  refine At_rows C (H.set _) ?_
  exact Si_row (L := L ++ [row ln (ifnV c (L.length + 3)), letR ln x₁ e₁]) (t := [letR ln x₂ e₂]) H (app2 _ _ _ _) (by rw [List.length_append, List.length_append]; rfl) (hz' 2 rfl rfl) (app2 _ _ _ _) h
end
end Mine
end
section
open PySem PySem.W PySem.Calls PyProof.Rows
set_option maxRecDepth 100000
set_option maxHeartbeats 4000000
set_option linter.unusedVariables false
namespace Mine
section
variable {b : CB}
inductive It where
  | lt (x : Str) (e : T) | rem (n : Nat) | for_ (r : Nat) | next | st (p : P)
noncomputable def remV (n : Nat) : V := .tup [.str (S "REM"), .int n]
noncomputable def forV (r : Nat) : V := .tup [.str (S "FOR"), .str (S "I"), (T.wh 1).v, (T.wh r).v, .none]
noncomputable def nextV : V := .tup [.str (S "NEXT"), .lst []]
noncomputable def It.v : It → V
  | .lt x e => letV x e
  | .rem n => remV n
  | .for_ r => forV r
  | .next => nextV
  | .st p => p.v
noncomputable def It.rows (ln : Int) (i : Nat) : It → List V
  | .lt x e => [letR ln x e]
  | .rem n => [row ln (remV n)]
  | .for_ r => [row ln (forV r)]
  | .next => [row ln nextV]
  | .st p => p.rows ln i
noncomputable def itRows (ln : Int) : List It → List V → List V
  | [], L => L
  | x :: xs, L => itRows ln xs (L ++ x.rows ln L.length)
theorem it_le (ln : Int) (i : Nat) (x : It) : (x.rows ln i).length ≤ 4 := by
  cases x with
  | st p => cases p <;> exact Nat.le_of_ble_eq_true rfl
  | _ => exact Nat.le_of_ble_eq_true rfl
theorem k_all (C : CxK (mkC b)) {z : Pf} {ln : Int} {its : List It} {d : Nat} {L0 : List V} (L : List V) {σ : St} {Q : Post} (H : FlatAt σ z L0) (hz : L.length + 4 * its.length ≤ 3000)
    (h : Q .none (upF σ z (itRows ln its L))) : Ca (mkC b) (d + 4) (ref 448) [.loc z.f, .int ln, .lst (its.map It.v)] (upF σ z L) Q := by
  refine Ca_def C (fn_448 C) rfl ?_
  refine W_For C ["flat", "line"] (Iv_lst fun K hK => ?_)
  induction its generalizing L with
  | nil => exact h
  | cons x its ih =>
    have hz0 : L.length ≤ 3000 := Nat.le_of_add_right_le hz
    have hz1 : L.length ≤ 4000 := Nat.le_trans hz0 (Nat.le_of_ble_eq_true rfl)
    have go := ih (L ++ x.rows ln L.length) (by
      rw [List.length_append, Nat.add_assoc]
      refine Nat.le_trans (Nat.add_le_add_left (Nat.add_le_add_right (it_le ln _ x) _) _) (Nat.le_trans (Nat.le_of_eq ?_) hz)
      rw [List.length_cons, Nat.mul_succ, Nat.add_comm 4]) h
    cases x with
    | st p => cases p with
      | set x e => exact k_row C L H hz1 ⟨hK _, go⟩
      | br c x₁ e₁ x₂ e₂ => exact k_if C L H hz0 ⟨hK _, go⟩
    | _ => exact k_row C L H hz1 ⟨hK _, go⟩
end
end Mine
end
section
open PySem PySem.W PySem.Calls PyProof.Rows
set_option maxRecDepth 100000
set_option maxHeartbeats 4000000
set_option linter.unusedVariables false
namespace Mine
section
variable {b : CB}
theorem set_same {σ : St} {n : Nat} {o : SO} (h : σ[n]? = some o) : σ.set n o = σ := by
  apply List.ext_getElem?
  intro i
  by_cases hi : n = i
  · subst hi; rw [List.getElem?_set_self (List.getElem?_eq_some_iff.mp h).1, h]
  · rw [List.getElem?_set_ne hi]
theorem lt_of {σ : St} {n : Nat} {o : SO} (h : σ[n]? = some o) : n < σ.length := (List.getElem?_eq_some_iff.mp h).1
noncomputable def words : List Str := [S "LET", S "REM", S "IFNOT", S "JUMP"]
noncomputable def quiet (v : V) : Prop := ∃ ln w rest, v = row ln (.tup (.str w :: rest)) ∧ w ∈ words
theorem mem4 {α : Type} {x a b c e : α} (h : x ∈ [a, b, c, e]) : x = a ∨ x = b ∨ x = c ∨ x = e := by cases h with | head => exact .inl rfl | tail _ h => exact .inr (mem3 h)
noncomputable def en : Nat → List V → List V
  | _, [] => []
  | i, v :: l => .tup [.int (i : Nat), v] :: en (i + 1) l
theorem en_app : ∀ (l m : List V) (i : Nat), en i (l ++ m) = en i l ++ en (i + l.length) m
  | [], _, _ => rfl
  | v :: l, m, i => by
    show _ :: en (i + 1) (l ++ m) = _ :: (en (i + 1) l ++ en (i + (l.length + 1)) m)
    rw [en_app l m (i + 1), Nat.succ_add_eq_add_succ]
theorem en_idx : ∀ (l : List V) (i : Nat), (l.mapIdx fun j v => V.tup [.int ((i + j : Nat)), v]) = en i l
  | [], _ => rfl
  | v :: l, i => by
    rw [List.mapIdx_cons]
    show _ :: _ = _ :: en (i + 1) l
    rw [← en_idx l (i + 1)]
    congr 1
    congr 1
    funext j u
    rw [Nat.succ_add_eq_add_succ]
theorem en_0 (l : List V) : (l.mapIdx fun j v => V.tup [.int (j : Nat), v]) = en 0 l := by
  rw [← en_idx l 0]
  congr 1
  funext j u
  rw [Nat.zero_add]
theorem k_endLoops (C : CxK (mkC b)) {z : Pf} {m : Nat} {k j : Int} {D : List (Int × V)} {d : Nat} {σ : St} {Q : Post} (hi : σ[z.f]? = some (.inst 423 z.a)) (ha : σ[z.a]? = some (.attrs (flatA z))) (hl : σ[z.lp]? = some (.dictI D)) (hm : σ[m]? = some (.list [.int k])) (hD : D.length ≤ 9000)
    (h : Q .none ((σ.set m (.list [])).set z.lp (.dictI (putK D k (.tup [.int j, .int 0]))))) : Ca (mkC b) (d + 1) (ref 469) [.loc z.f, .loc m, .int j, .int 1] σ Q := by
  refine Ca_def C (fn_469 C) rfl ?_
  refine W_For C ["flat", "fors", "at"] (Ic_range (n := 1) (Nat.le_of_ble_eq_true rfl) ?_)
  refine Ca_len hm (Nat.le_of_ble_eq_true rfl) ?_
  refine At_inst C hi ha rfl (aok (by kernel_rfl)) rfl ?_
  refine Gm_pop hm ?_
  refine KCa_pop (l := []) hm (Nat.zero_le _) ?_
  exact Si_dictI (set_miss (ne_of_kind hm hl nofun) hl) hD ⟨trivial, h⟩
end
end Mine
end
section
open PySem PySem.W PySem.Calls PyProof.Rows
set_option maxRecDepth 100000
set_option maxHeartbeats 4000000
set_option linter.unusedVariables false
namespace Mine
section
variable {b : CB}
noncomputable def loopRows (A B E : List V) (ln₁ ln₂ : Int) (r : Nat) : List V := A ++ row ln₁ (forV r) :: (B ++ row ln₂ nextV :: E)
noncomputable def loopD (a n : Nat) : List (Int × V) := [((a : Int), .tup [.int (n : Nat), .int 0])]
theorem en_loop (A B E : List V) (ln₁ ln₂ : Int) (r : Nat) : en 0 (loopRows A B E ln₁ ln₂ r) = en 0 A ++ .tup [.int (A.length : Nat), row ln₁ (forV r)] :: (en (A.length + 1) B ++ .tup [.int ((A.length + 1 + B.length : Nat)), row ln₂ nextV] :: en (A.length + 1 + B.length + 1) E) := by
  unfold loopRows
  rw [en_app, Nat.zero_add]
  show _ ++ _ :: en (A.length + 1) (B ++ _) = _
  rw [en_app]; rfl
theorem k_gather (C : CxK (mkC b)) {z : Pf} {d r : Nat} {A B E : List V} {ln₁ ln₂ : Int} {σ : St} {Q : Post} (H : FlatAt σ z (loopRows A B E ln₁ ln₂ r)) (hlp : σ[z.lp]? = some (.dictI [])) (hA : ∀ v ∈ A, quiet v) (hB' : ∀ v ∈ B, quiet v) (hE : ∀ v ∈ E, quiet v)
    (h : Q .none (σ.set z.lp (.dictI (loopD A.length (A.length + 1 + B.length))))) : Ca (mkC b) (d + 2) (ref 455) [.loc z.f] σ Q := by
  refine Ca_forget ?_
  refine Ca_def C (fn_455 C) rfl ?_
  refine W_ListF C ?_
  refine W_List C ?_
  refine W_ListF C ⟨rfl, ?_⟩
  refine Ex_fz (app_l H.rows) fun xs k => W_For C ["flat", "fors"] ?_
  have e1 : (σ ++ [SO.list []]).set z.r (.fz xs k (loopRows A B E ln₁ ln₂ r)) = σ.set z.r (.fz xs k (loopRows A B E ln₁ ln₂ r)) ++ [.list []] := List.set_append_left _ _ (lt_of H.rows)
  have ne : z.r ≠ z.lp := ne_of_kind H.rows hlp nofun
  have el : (σ.set z.r (.fz xs k (loopRows A B E ln₁ ln₂ r))).length = σ.length := List.length_set
  have gi : (σ.set z.r (.fz xs k (loopRows A B E ln₁ ln₂ r)))[z.f]? = some (.inst 423 z.a) := set_miss (ne_of_kind H.rows H.inst nofun) H.inst
  have ga : (σ.set z.r (.fz xs k (loopRows A B E ln₁ ln₂ r)))[z.a]? = some (.attrs (flatA z)) := set_miss (ne_of_kind H.rows H.attrs nofun) H.attrs
  have gl : (σ.set z.r (.fz xs k (loopRows A B E ln₁ ln₂ r)))[z.lp]? = some (.dictI []) := set_miss ne hlp
  have gr : (σ.set z.r (.fz xs k (loopRows A B E ln₁ ln₂ r)))[z.r]? = some (.fz xs k (loopRows A B E ln₁ ln₂ r)) := set_hit H.rows
  have back : ∀ D, ((σ.set z.r (.fz xs k (loopRows A B E ln₁ ln₂ r))).set z.lp (.dictI D)).set z.r (.list (loopRows A B E ln₁ ln₂ r)) = σ.set z.lp (.dictI D) := fun D => by
    rw [List.set_comm _ _ ne.symm, List.set_set, set_same H.rows]
  rw [e1]
  generalize σ.set z.r (.fz xs k (loopRows A B E ln₁ ln₂ r)) = τ at *
  refine At_inst C (app_l gi) (app_l ga) rfl (aok (by kernel_rfl)) rfl ?_
  refine Ic_enumF (app_l gr) fun K hK => ?_
  rw [en_0, en_loop]
  have tl : ∀ {v : V}, (τ ++ [SO.list [v]]).set σ.length (.list []) = τ ++ [.list []] := fun {v} => by rw [← el]; exact setLast
  have tp : ∀ {v : V}, (τ ++ [SO.list []]).set σ.length (.list [v]) = τ ++ [.list [v]] := fun {v} => by rw [← el]; exact setLast
  have at_ : ∀ {o : SO}, (τ ++ [o])[σ.length]? = some o := by rw [← el]; exact app_0
  refine (?_ : (∀ (l : List V) (i : Nat) (rest : List V) (σ' : St), (∀ v ∈ l, quiet v) → K σ' → kLOOPS ?c9 ?sc9 ?d9 ?ns9 ?t9 ?b9 ?K9 ?R9 rest [(S "flat", .loc z.f), (S "fors", .loc σ.length)] σ' → kLOOPS ?c9 ?sc9 ?d9 ?ns9 ?t9 ?b9 ?K9 ?R9 (en i l ++ rest) [(S "flat", .loc z.f), (S "fors", .loc σ.length)] σ') →
    kLOOPS ?c9 ?sc9 ?d9 ?ns9 ?t9 ?b9 ?K9 ?R9 _ [(S "flat", .loc z.f), (S "fors", .loc σ.length)] _) ?_
  · intro skip
    refine skip A 0 _ _ hA (hK _ (app_l gr)) ?_
    refine ⟨rfl, rfl, ?_⟩
    refine Gm_append at_ ?_
    refine KCa_append (l := []) at_ (Nat.zero_le _) ?_
    rw [List.nil_append, tp]
    refine ⟨hK _ (app_l gr), ?_⟩
    refine skip B _ _ _ hB' (hK _ (app_l gr)) ?_
    refine ⟨rfl, rfl, ?_⟩
    refine Ca_lenF (Nat.zero_le _) ?_
    refine Ca_max ?_
    refine k_endLoops C (app_l gi) (app_l ga) (app_l gl) at_ (Nat.zero_le _) ?_
    rw [tl, List.set_append_left _ _ (lt_of gl)]
    have gr' : (τ.set z.lp (.dictI (putK [] (A.length : Int) (.tup [.int ((A.length + 1 + B.length : Nat)), .int 0]))))[z.r]? = some (.fz xs k (loopRows A B E ln₁ ln₂ r)) := set_miss ne.symm gr
    refine ⟨hK _ (app_l gr'), ?_⟩
    rw [← List.append_nil (en _ E)]
    refine skip E _ [] _ hE (hK _ (app_l gr')) ?_
    refine ⟨app_l gr', ?_⟩
    rw [List.set_append_left _ _ (lt_of gr'), back]
    refine ⟨_, _, rfl, List.length_set, fun i o e => ?_, rfl, h⟩
    by_cases hi : z.lp = i
    · subst hi
      rw [set_hit hlp] at e
      cases e; exact .inr rfl
    · exact .inl (by rw [List.getElem?_set_ne hi] at e; exact e)
  · intro l
    induction l with
    | nil => exact fun _ _ _ _ _ h => h
    | cons v l ih =>
      intro i rest σ' hv hk h
      obtain ⟨ln, wd, rs, rfl, hw⟩ := hv v List.mem_cons_self
      have next := And.intro hk (ih (i + 1) rest σ' (fun v m => hv v (List.mem_cons_of_mem _ m)) hk h)
      refine ⟨rfl, rfl, ?_⟩
      rcases mem4 hw with rfl | rfl | rfl | rfl
      · exact next
      · exact next
      · exact next
      · exact next
end
end Mine
end
section
open PySem PySem.W PySem.Calls PyProof.Rows
set_option maxRecDepth 100000
set_option maxHeartbeats 4000000
set_option linter.unusedVariables false
namespace Mine
section
variable {b : CB}
theorem W_list0 (C : CxK (mkC b)) {sc : Sc} {d : Nat} {pos : Pos} {ρ : Vars} {σ t : St} {Q : Post} {k : Nat} (hk : t.length = k) (h : Q (.loc (σ.length + k)) (σ ++ (t ++ [.list []]))) : Ev (mkC b) sc d (.List [] pos) ρ (σ ++ t) Q :=
  W_List C (show Q _ _ by rw [List.length_append, hk, List.append_assoc]; exact h)
theorem W_dict0 {sc : Sc} {d : Nat} {pos : Pos} {ρ : Vars} {σ t : St} {Q : Post} {k : Nat} (hk : t.length = k) (h : Q (.loc (σ.length + k)) (σ ++ (t ++ [.dictI []]))) : Ev (mkC b) sc d (.Dict [] [] pos) ρ (σ ++ t) Q :=
  W_dictI (by rw [List.length_append, hk, List.append_assoc]; exact h)
theorem Sa_new {σ t : St} {l : List (Str × V)} {C : Addr} {attr : Str} {v : V} {P : St → Prop} (hs : StoreOf (mkC b).K C attr) (h1 : t[1]? = some (.inst C σ.length)) (h0 : t[0]? = some (.attrs l)) (hz : Nat.ble l.length 900 = true) (h : P (σ ++ t.set 0 (.attrs (put l attr v)))) : Sa (mkC b) (.loc (σ.length + 1)) attr v (σ ++ t) P :=
  Sa_inst (app_k h1) (app_k (k := 0) h0) hs (Nat.le_of_ble_eq_true hz) (by rw [set_app0]; exact h)
noncomputable def pfN (n : Nat) : Pf := ⟨n + 1, n, n + 2, n + 3, n + 4, n + 5, n + 6, n + 7⟩
noncomputable def flatO (n : Nat) : St := [.attrs (flatA (pfN n)), .inst 423 n, .list [], .dictI [], .list [], .dictI [], .dictI [], .dictI []]
theorem k_Flat (C : CxK (mkC b)) {d : Nat} {σ : St} {Q : Post} (h : Q (.loc (σ.length + 1)) (σ ++ flatO σ.length)) : Ca (mkC b) (d + 2) (ref 423) [] σ Q := by
  refine Ca_make C (f := 420) (by kernel_rfl) (by kernel_rfl) (by kernel_rfl) (fn_420 C) rfl ?_
  refine W_list0 C rfl ?_
  refine Sa_new ⟨by kernel_rfl, by kernel_rfl, by kernel_rfl, by kernel_rfl⟩ rfl rfl rfl ?_
  refine W_dict0 rfl ?_
  refine Sa_new ⟨by kernel_rfl, by kernel_rfl, by kernel_rfl, by kernel_rfl⟩ rfl rfl rfl ?_
  refine W_list0 C rfl ?_
  refine Sa_new ⟨by kernel_rfl, by kernel_rfl, by kernel_rfl, by kernel_rfl⟩ rfl rfl rfl ?_
  refine W_dict0 rfl ?_
  refine Sa_new ⟨by kernel_rfl, by kernel_rfl, by kernel_rfl, by kernel_rfl⟩ rfl rfl rfl ?_
  refine W_dict0 rfl ?_
  refine Sa_new ⟨by kernel_rfl, by kernel_rfl, by kernel_rfl, by kernel_rfl⟩ rfl rfl rfl ?_
  refine W_dict0 rfl ?_
  refine Sa_new ⟨by kernel_rfl, by kernel_rfl, by kernel_rfl, by kernel_rfl⟩ rfl rfl rfl ?_
  exact ⟨rfl, h⟩
theorem getK_put {K : Type} [DecidableEq K] {α : Type} (l : List (K × α)) (k : K) (v : α) : getK (putK l k v) k = some v := by
  unfold putK
  split
  · rename_i h
    induction l with
    | nil => cases h
    | cons p r ih =>
      obtain ⟨a, b⟩ := p
      by_cases ha : a = k
      · subst ha; rw [List.map_cons, if_pos rfl]; exact if_pos rfl
      · rw [List.map_cons, if_neg ha]
        refine (if_neg ha).trans (ih ?_)
        rw [List.any_cons, decide_eq_false ha] at h; exact h
  · rename_i h
    induction l with
    | nil => exact if_pos rfl
    | cons p r ih =>
      obtain ⟨a, b⟩ := p
      rw [List.any_cons] at h
      have ha : ¬ a = k := fun e => h (by rw [decide_eq_true e]; rfl)
      exact (if_neg ha).trans (ih fun e => h (by rw [e, Bool.or_true]))
noncomputable def lineV (ln : Int) (l : List V) : V := .tup [.int ln, .lst l]
structure Ln where
  ln : Int
  its : List It
noncomputable def Ln.v (x : Ln) : V := lineV x.ln (x.its.map It.v)
noncomputable def flatS (n : Nat) (L : List V) (D lp : List (Int × V)) : St := [.attrs (flatA (pfN n)), .inst 423 n, .list L, .dictI D, .list [], .dictI [], .dictI lp, .dictI []]
theorem flatAt (σ t : St) (L : List V) (D lp : List (Int × V)) : FlatAt (σ ++ (flatS σ.length L D lp ++ t)) (pfN σ.length) L := ⟨app_k rfl, app_k (k := 0) rfl, app_k rfl⟩
theorem flatAt0 (σ : St) (L : List V) (D lp : List (Int × V)) : FlatAt (σ ++ flatS σ.length L D lp) (pfN σ.length) L := ⟨app_k rfl, app_k (k := 0) rfl, app_k rfl⟩
theorem upF_S (σ : St) (L L' : List V) (D lp : List (Int × V)) : upF (σ ++ flatS σ.length L D lp) (pfN σ.length) L' = σ ++ flatS σ.length L' D lp := set_appk
theorem At_places (C : CxK (mkC b)) {d : Nat} {σ : St} {z : Pf} {L : List V} {Q : Post} (H : FlatAt σ z L) (h : Q (.loc z.p) σ) : At (mkC b) d (.loc z.f) (S "places") σ Q := At_inst C H.inst H.attrs rfl (aok (by kernel_rfl)) rfl h
noncomputable def rowsAll : List Ln → List V → List V
  | [], L => L
  | x :: xs, L => rowsAll xs (itRows x.ln x.its L)
theorem putK_le {K : Type} [DecidableEq K] {α : Type} (l : List (K × α)) (x : K) (v : α) : (putK l x v).length ≤ l.length + 1 := by
  unfold putK
  split
  · rw [List.length_map]; exact Nat.le_succ _
  · rw [List.length_append]; exact Nat.le_refl _
theorem it_pos (ln : Int) (i : Nat) (x : It) : 0 < (x.rows ln i).length := by
  cases x with
  | st p => cases p <;> exact Nat.le_of_ble_eq_true rfl
  | _ => exact Nat.le_of_ble_eq_true rfl
theorem itRows_ge (ln : Int) : ∀ (its : List It) (L : List V), L.length ≤ (itRows ln its L).length
  | [], L => Nat.le_refl _
  | x :: its, L => Nat.le_trans (by rw [List.length_append]; exact Nat.le_add_right _ _) (itRows_ge ln its (L ++ x.rows ln L.length))
theorem itRows_gt (ln : Int) {its : List It} (L : List V) (h : its ≠ []) : L.length < (itRows ln its L).length := by
  cases its with
  | nil => exact (h rfl).elim
  | cons x its => exact Nat.lt_of_lt_of_le (by rw [List.length_append]; exact Nat.lt_add_of_pos_right (it_pos ln _ x)) (itRows_ge ln its (L ++ x.rows ln L.length))
theorem itRows_le (ln : Int) : ∀ (its : List It) (L : List V), (itRows ln its L).length ≤ L.length + 4 * its.length
  | [], L => Nat.le_refl _
  | x :: its, L => by
    refine Nat.le_trans (itRows_le ln its (L ++ x.rows ln L.length)) ?_
    rw [List.length_append, List.length_cons, Nat.mul_succ, Nat.add_assoc, Nat.add_comm _ 4]
    exact Nat.add_le_add_left (Nat.add_le_add_right (it_le ln _ x) _) _
noncomputable def itsN : List Ln → Nat
  | [] => 0
  | x :: xs => x.its.length + itsN xs
theorem Si_placed (σ : St) {L : List V} {D lp : List (Int × V)} {k : Int} {v : V} {d : Nat} {P : St → Prop} (hd : D.length ≤ 100) (h : P (σ ++ flatS σ.length L (putK D k v) lp)) : Si (mkC b) d (.loc (pfN σ.length).p) (.int k) v (σ ++ flatS σ.length L D lp) P := by
  refine Si_dictI (l := D) (app_k rfl) (Nat.le_trans hd (Nat.le_of_ble_eq_true rfl)) ?_
  rw [show (pfN σ.length).p = σ.length + 3 from rfl, set_appk]; exact h
theorem k_flatten (C : CxK (mkC b)) {d r : Nat} {xs : List Ln} {A B E : List V} {ln₁ ln₂ : Int} {σ : St} {Q : Post} (hne : ∀ x ∈ xs, x.its ≠ []) (hz : itsN xs ≤ 50) (hzx : xs.length ≤ 20) (hr : rowsAll xs [] = loopRows A B E ln₁ ln₂ r)
    (hA : ∀ v ∈ A, quiet v) (hB' : ∀ v ∈ B, quiet v) (hE : ∀ v ∈ E, quiet v)
    (h : ∀ D, Q (.loc (σ.length + 1)) (σ ++ flatS σ.length (loopRows A B E ln₁ ln₂ r) D (loopD A.length (A.length + 1 + B.length)))) : Ca (mkC b) (d + 5) (ref 476) [.lst (xs.map Ln.v)] σ Q := by
  refine Ca_def C (fn_476 C) rfl ?_
  refine k_Flat C ?_
  refine W_For C ["flat"] (Iv_lst fun K hK => ?_)
  refine (?_ : ∀ (ys : List Ln) (L : List V) (D : List (Int × V)), (∀ x ∈ ys, x.its ≠ []) → rowsAll ys L = loopRows A B E ln₁ ln₂ r → L.length + 4 * itsN ys ≤ 200 → D.length + ys.length ≤ 100 → kLOOPS _ _ _ _ _ _ _ _ (ys.map Ln.v) [(S "flat", .loc (σ.length + 1))] (σ ++ flatS σ.length L D [])) xs [] [] hne hr
    (by rw [List.length_nil, Nat.zero_add]; exact Nat.mul_le_mul_left 4 hz) (by rw [List.length_nil, Nat.zero_add]; exact Nat.le_trans hzx (Nat.le_of_ble_eq_true rfl))
  intro ys
  induction ys with
  | nil =>
    intro L D _ hr _ _
    obtain rfl : L = _ := hr
    refine k_gather C (flatAt0 σ _ D []) (app_k rfl) hA hB' hE ?_
    rw [show (pfN σ.length).lp = σ.length + 6 from rfl, set_appk]
    exact h D
  | cons x ys ih =>
    intro L D hok hr hL hD
    have hL' : L.length + 4 * x.its.length + 4 * itsN ys ≤ 200 := by
      rw [Nat.add_assoc, ← Nat.mul_add]; exact hL
    have hl0 : L.length + 4 * x.its.length ≤ 200 := Nat.le_of_add_right_le hL'
    have hl : L.length ≤ 200 := Nat.le_of_add_right_le hl0
    have hl' : (itRows x.ln x.its L).length ≤ 200 := Nat.le_trans (itRows_le _ _ _) hl0
    have hd : D.length ≤ 100 := Nat.le_of_add_right_le hD
    refine ⟨rfl, ?_⟩
    refine At_rows C (flatAt0 σ L D []) ?_
    refine Ca_len (flatAt0 σ L D []).rows (Nat.le_trans hl (Nat.le_of_ble_eq_true rfl)) ?_
    refine At_places C (flatAt0 σ L D []) ?_
    have H := flatAt0 σ L (putK D x.ln (.int (L.length : Nat))) []
    refine Si_placed σ hd ?_
    rw [← set_same H.rows]
    refine k_all C L H (Nat.le_trans hl0 (Nat.le_of_ble_eq_true rfl)) ?_
    rw [upF_S]
    have H' := flatAt0 σ (itRows x.ln x.its L) (putK D x.ln (.int (L.length : Nat))) []
    refine At_places C H' ?_
    refine Gi_dictI (app_k rfl) (getK_put _ _ _) ?_
    refine At_rows C H' ?_
    refine Ca_len H'.rows (Nat.le_trans hl' (Nat.le_of_ble_eq_true rfl)) ?_
    refine br_dF (fun e => absurd (Int.ofNat.inj e) (Nat.ne_of_lt (itRows_gt _ L (hok x List.mem_cons_self)))) ?_
    refine ⟨hK _, ih _ _ (fun y m => hok y (List.mem_cons_of_mem _ m)) hr ?_ ?_⟩
    · exact Nat.le_trans (Nat.add_le_add_right (itRows_le _ _ _) _) hL'
    · exact Nat.le_trans (Nat.add_le_add_right (putK_le _ _ _) _) (Nat.le_trans (Nat.le_of_eq (Nat.succ_add_eq_add_succ _ _)) hD)
end
end Mine
end
section
open PySem PySem.W PySem.Calls PyProof.Rows
set_option maxRecDepth 100000
set_option maxHeartbeats 4000000
set_option linter.unusedVariables false
namespace Mine
section
variable {b : CB}
noncomputable def small (n : Int) : Prop := -1000000 ≤ n ∧ n ≤ 1000000
theorem k_kind (C : CxK (mkC b)) {n : Int} {d : Nat} {σ : St} {Q : Post} (h : Q (.str (S "whole")) σ) : Ca (mkC b) (d + 1) (ref 44) [.int n] σ Q := Ca_def C (fn_44 C) rfl (Ca_isStr rfl (Ca_isTup rfl h))
theorem Bi_one {c : Cx} {d : Nat} {σ : St} {Q : Post} (h : Q (.int 2147483648) σ) : Bi c d .LShift (.int 1) (.int 31) σ Q := Bi_lshift (by decide) (by decide +kernel) h
theorem k_fits (C : CxK (mkC b)) {n : Int} {d : Nat} {σ : St} {Q : Post} (hn : small n) (h : Q (.bool true) σ) : Ca (mkC b) (d + 1) (ref 79) [.int n, .int 32] σ Q := by
  refine Ca_def C (fn_79 C) rfl ?_
  refine Bi_one ⟨_, rfl, ?_⟩
  refine br_dT (Int.le_trans (by decide) hn.1) ?_
  refine Bi_one ?_
  rw [← decide_eq_true (Int.lt_of_le_of_lt hn.2 (by decide) : n < 2147483648)] at h
  exact h
theorem k_isWhole (C : CxK (mkC b)) {n : Int} {d : Nat} {σ : St} {Q : Post} (h : Q (.bool true) σ) : Ca (mkC b) (d + 1) (ref 206) [.int n] σ Q := Ca_def C (fn_206 C) rfl (Ca_isStr rfl (Ca_isTup rfl h))
theorem k_settled (C : CxK (mkC b)) {n : Int} {d : Nat} {σ : St} {Q : Post} (hn : small n) (h : Q (.int n) σ) : Ca (mkC b) (d + 2) (ref 213) [.int n, .int 32, .int 9] σ Q := Ca_def C (fn_213 C) rfl (k_fits C hn h)
theorem k_wr (C : CxK (mkC b)) {op : Str} {x y : Int} {d : Nat} {σ : St} {Q : Post} (hop : op ∈ pm) (hn : small (arF op x y)) (h : Q (.int (arF op x y)) σ) : Ca (mkC b) (d + 3) (ref 220) [.str op, .int x, .int y, .int 32, .int 9] σ Q := by
  rcases mem2 hop with rfl | rfl
  · exact Ca_def C (fn_220 C) rfl (k_settled C hn h)
  · exact Ca_def C (fn_220 C) rfl (k_settled C hn h)
theorem k_reckoned (C : CxK (mkC b)) {op : Str} {x y : Int} {d : Nat} {σ : St} {Q : Post} (hop : op ∈ pm) (hn : small (arF op x y)) (h : Q (.int (arF op x y)) σ) : Ca (mkC b) (d + 4) (ref 262) [.str op, .int x, .int y, .int 32, .int 9] σ Q := by
  refine Ca_def C (fn_262 C) rfl ?_
  refine k_isWhole C (k_isWhole C ⟨rfl, ?_⟩)
  rcases mem2 hop with rfl | rfl
  · exact k_wr C hop hn h
  · exact k_wr C hop hn h
noncomputable def ord (x y : Int) : Int := (if decide (y < x) = true then 1 else 0) - (if decide (x < y) = true then 1 else 0)
theorem k_order (C : CxK (mkC b)) {x y : Int} {d : Nat} {σ : St} {Q : Post} (h : Q (.int (ord x y)) σ) : Ca (mkC b) (d + 2) (ref 276) [.int x, .int y] σ Q :=
  Ca_def C (fn_276 C) rfl (Ca_isStr rfl (Ca_isStr rfl (Ca_isStr rfl (k_isWhole C (k_isWhole C h)))))
noncomputable def tr (b : Bool) : Int := if b = true then -1 else 0
theorem k_truth (C : CxK (mkC b)) {t : Bool} {d : Nat} {σ : St} {Q : Post} (h : Q (.int (tr t)) σ) : Ca (mkC b) (d + 1) (ref 121) [.bool t] σ Q := by
  refine Ca_def C (fn_121 C) rfl ?_
  cases t with
  | true => exact ⟨_, rfl, h⟩
  | false => exact h
theorem ord_tri (x y : Int) : (x < y ∧ ord x y = -1) ∨ (x = y ∧ ord x y = 0) ∨ (y < x ∧ ord x y = 1) := by
  unfold ord
  rcases Int.lt_trichotomy x y with h | h | h
  · rw [decide_eq_true h, decide_eq_false (Int.lt_asymm h)]; exact .inl ⟨h, rfl⟩
  · subst h; rw [decide_eq_false (Int.lt_irrefl x)]; exact .inr (.inl ⟨rfl, rfl⟩)
  · rw [decide_eq_true h, decide_eq_false (Int.lt_asymm h)]; exact .inr (.inr ⟨h, rfl⟩)
theorem cmp_lt (x y : Int) : (decide (ord x y < 0) == true) = cmpF (S "<") x y := by
  rcases ord_tri x y with ⟨h, e⟩ | ⟨h, e⟩ | ⟨h, e⟩ <;> rw [e]
  · exact (decide_eq_true h).symm
  · exact (decide_eq_false (h ▸ Int.lt_irrefl x)).symm
  · exact (decide_eq_false (Int.lt_asymm h)).symm
theorem cmp_eq (x y : Int) : (decide (ord x y = 0) == true) = cmpF (S "=") x y := by
  rcases ord_tri x y with ⟨h, e⟩ | ⟨h, e⟩ | ⟨h, e⟩ <;> rw [e]
  · exact (decide_eq_false (Int.ne_of_lt h)).symm
  · exact (decide_eq_true h).symm
  · exact (decide_eq_false (Int.ne_of_gt h)).symm
theorem cmp_ge (x y : Int) : (decide (ord x y < 0) == false) = cmpF (S ">=") x y := by
  rcases ord_tri x y with ⟨h, e⟩ | ⟨h, e⟩ | ⟨h, e⟩ <;> rw [e]
  · exact (decide_eq_false (Int.not_le.mpr h)).symm
  · exact (decide_eq_true (Int.le_of_eq h.symm)).symm
  · exact (decide_eq_true (Int.le_of_lt h)).symm
theorem k_compared (C : CxK (mkC b)) {op : Str} {x y : Int} {d : Nat} {σ : St} {Q : Post} (hop : op ∈ cps) (h : Q (.int (tr (cmpF op x y))) σ) : Ca (mkC b) (d + 2) (ref 682) [.str op, .int (ord x y)] σ Q := by
  refine Ca_def C (fn_682 C) rfl ?_
  rcases mem3 hop with rfl | rfl | rfl
  · rw [← cmp_lt] at h; exact k_truth C h
  · rw [← cmp_eq] at h; exact k_truth C h
  · rw [← cmp_ge] at h; exact k_truth C h
theorem k_isTrue (C : CxK (mkC b)) {n : Int} {d : Nat} {σ : St} {Q : Post} (h : Q (.bool (!decide (n = 0))) σ) : Ca (mkC b) (d + 2) (ref 114) [.int n] σ Q :=
  Ca_def C (fn_114 C) rfl (Ca_def C (fn_107 C) rfl (Ca_isStr rfl (Ca_isTup rfl h)))
end
end Mine
end
section
open PySem PySem.W PySem.Calls PyProof.Rows
set_option maxRecDepth 100000
set_option maxHeartbeats 4000000
set_option linter.unusedVariables false
namespace Mine
section
variable {b : CB}
noncomputable def opF (op : Str) (x y : Int) : Int := if op ∈ pm then arF op x y else tr (cmpF op x y)
noncomputable def opOk (op : Str) (x y : Int) : Prop := (op ∈ pm ∧ small (arF op x y)) ∨ op ∈ cps
theorem opF_pm {op : Str} {x y : Int} (h : op ∈ pm) : opF op x y = arF op x y := if_pos h
theorem opF_cps {op : Str} {x y : Int} (h : op ∈ cps) : opF op x y = tr (cmpF op x y) := if_neg fun h' => pm_not_cps h' h
theorem k_worthTwo (C : CxK (mkC b)) {op : Str} {x y : Int} {d : Nat} {σ : St} {Q : Post} (hop : opOk op x y) (h : Q (.int (opF op x y)) σ) : Ca (mkC b) (d + 5) (ref 694) [.str op, .int x, .int y, .int 32, .int 9] σ Q := by
  refine Ca_forget ?_
  refine Ca_def C (fn_694 C) rfl ?_
  refine Iv_tup ⟨trivial, ?_⟩
  refine wC2 (ua := .bool false) (ub := .bool false) (fun _ => trivial) (fun Q q => k_kind C q) (fun Q q => k_kind C q) ?_
  refine Gi_loc app_0 (by decide) rfl ?_
  refine Gi_loc app_0 (by decide) rfl ?_
  refine Gi_loc app_0 (by decide) rfl ?_
  rcases hop with ⟨hm, hs⟩ | hc
  · rw [opF_pm hm] at h
    rcases mem2 hm with rfl | rfl
    · exact k_reckoned C hm hs (forget0 rfl h)
    · exact k_reckoned C hm hs (forget0 rfl h)
  · rw [opF_cps hc] at h
    rcases mem3 hc with rfl | rfl | rfl
    · exact k_order C (k_compared C hc (forget0 rfl h))
    · exact k_order C (k_compared C hc (forget0 rfl h))
    · exact k_order C (k_compared C hc (forget0 rfl h))
theorem k_worthLeaf (C : CxK (mkC b)) {x : Int} {d : Nat} {σ : St} {Q : Post} (ha : small x) (h : Q (.int x) σ) : Ca (mkC b) (d + 2) (ref 708) [(T.wh x).v, .int 32, .int 9] σ Q :=
  Ca_def C (fn_708 C) rfl ⟨rfl, k_fits C ha h⟩
noncomputable def T.parts : T → List V
  | .two _ a b => [a.v, b.v]
  | _ => []
theorem k_parts (C : CxK (mkC b)) {t : T} {d : Nat} {σ : St} {Q : Post} (h : Q (.lst t.parts) σ) : Ca (mkC b) (d + 1) (ref 666) [t.v] σ Q := by
  cases t with
  | nm x => exact Ca_def C (fn_666 C) rfl (W_ListF C h)
  | wh x => exact Ca_def C (fn_666 C) rfl (W_ListF C h)
  | two op x y => exact Ca_def C (fn_666 C) rfl (W_ListF C h)
  | seen x => exact Ca_def C (fn_666 C) rfl (W_ListF C h)
noncomputable def hooksA (v q : Nat) : List (Str × V) := [(S "values", .loc v), (S "bits", .int 32), (S "digits", .int 9), (S "asked", .loc q)]
noncomputable def ev (l : Env0) : T → Int
  | .nm x => look l x
  | .wh n => n
  | .two op a b => opF op (ev l a) (ev l b)
  | .seen _ => 0
noncomputable def okT (l : Env0) : T → Prop
  | .nm x => getK l x = some (.int (look l x)) ∧ small (look l x)
  | .wh n => small n
  | .two op a b => okT l a ∧ okT l b ∧ opOk op (ev l a) (ev l b)
  | .seen _ => False
noncomputable def kids (l : Env0) : T → List Int
  | .two _ a b => [ev l a, ev l b]
  | _ => []
structure HooksAt (σ : St) (h a v q : Nat) (l : Env0) (L : List V) : Prop where
  inst : σ[h]? = some (.inst 655 a)
  attrs : σ[a]? = some (.attrs (hooksA v q))
  dict : σ[v]? = some (.dictS l)
  asked : σ[q]? = some (.list L)
theorem HooksAt.set {σ : St} {h a v q : Nat} {l : Env0} {L : List V} (H : HooksAt σ h a v q l L) (L' : List V) : HooksAt (σ.set q (.list L')) h a v q l L' :=
  ⟨set_miss (ne_of_kind H.asked H.inst nofun) H.inst, set_miss (ne_of_kind H.asked H.attrs nofun) H.attrs, set_miss (ne_of_kind H.asked H.dict nofun) H.dict, set_hit H.asked⟩
theorem mok {K : Frag} {C : Addr} {name : Str} {f : Addr} (h : (plainGet K C name && (isFn K (.ref f) && (match findIn K (.ref C) name with | some (some (.ref g)) => Nat.beq g f | _ => false))) = true) : MethOf K C name f := by
  obtain ⟨h1, h⟩ := and2 h
  obtain ⟨h2, h⟩ := and2 h
  refine ⟨h1, ?_, h2⟩
  split at h
  · next g e => rw [e, Nat.eq_of_beq_eq_true h]
  · cases h
theorem k_von (C : CxK (mkC b)) {h a v q : Nat} {l : Env0} {L : List V} {x : Str} {u : V} {d : Nat} {σ : St} {Q : Post} (H : HooksAt σ h a v q l L) (hx : getK l x = some u) (hz : L.length ≤ 9000)
    (hq : Q u (σ.set q (.list (L ++ [.str x])))) : Ca (mkC b) (d + 1) (ref 624) [.loc h, .str x] σ Q := by
  have H' := H.set (L ++ [.str x])
  refine Ca_def C (fn_624 C) rfl ?_
  refine At_inst C H.inst H.attrs rfl (aok (by kernel_rfl)) rfl ?_
  refine Gm_append H.asked ?_
  refine KCa_append H.asked (Nat.le_trans hz (Nat.le_of_ble_eq_true rfl)) ?_
  refine At_inst C H'.inst H'.attrs rfl (aok (by kernel_rfl)) rfl ?_
  refine Cm_notInDS H'.dict ?_
  refine br_F (by rw [hx]; rfl) ?_
  refine At_inst C H'.inst H'.attrs rfl (aok (by kernel_rfl)) rfl ?_
  exact Gi_dictS H'.dict hx hq
theorem At_bits (C : CxK (mkC b)) {h a v q : Nat} {l : Env0} {L : List V} {d : Nat} {σ : St} {Q : Post} (H : HooksAt σ h a v q l L) (hq : Q (.int 32) σ) : At (mkC b) d (.loc h) (S "bits") σ Q := At_inst C H.inst H.attrs rfl (aok (by kernel_rfl)) rfl hq
theorem At_digits (C : CxK (mkC b)) {h a v q : Nat} {l : Env0} {L : List V} {d : Nat} {σ : St} {Q : Post} (H : HooksAt σ h a v q l L) (hq : Q (.int 9) σ) : At (mkC b) d (.loc h) (S "digits") σ Q := At_inst C H.inst H.attrs rfl (aok (by kernel_rfl)) rfl hq
theorem k_worthTree (C : CxK (mkC b)) {h a v q : Nat} {l : Env0} {L : List V} {t : T} {d : Nat} {σ : St} {Q : Post} (H : HooksAt σ h a v q l L) (ht : okT l t) (hz : L.length ≤ 9000)
    (hq : ∀ L' : List V, L'.length ≤ L.length + 1 → Q (.int (ev l t)) (σ.set q (.list L'))) : Ca (mkC b) (d + 6) (ref 715) [t.v, .lst ((kids l t).map .int), .loc h] σ Q := by
  have hq0 : Q (.int (ev l t)) σ := set_same H.asked ▸ hq L (Nat.le_succ _)
  refine Ca_def C (fn_715 C) rfl ?_
  cases t with
  | nm x =>
    refine Gm_inst C H.inst H.attrs rfl (mok (f := 624) (by kernel_rfl)) ?_
    exact KCa_fn (fn_624 C) (k_von C H ht.1 hz (hq _ (Nat.le_of_eq List.length_append)))
  | wh n => exact At_bits C H (At_digits C H (k_worthLeaf C ht hq0))
  | two op x y =>
    refine Gi_lst (by decide) rfl ?_
    refine Gi_lst (by decide) rfl ?_
    exact At_bits C H (At_digits C H (k_worthTwo C ht.2.2 hq0))
  | seen x => exact ht.elim
end
end Mine
end
section
open PySem PySem.W PySem.Calls PyProof.Rows
set_option maxRecDepth 100000
set_option maxHeartbeats 4000000
set_option linter.unusedVariables false
namespace Mine
section
variable {b : CB}
noncomputable def cost : T → Nat
  | .nm _ => 1
  | .wh _ => 1
  | .two _ a b => 2 + cost a + cost b
  | .seen _ => 1
noncomputable abbrev Wk := List (T × Bool)
noncomputable def costW : Wk → Nat
  | [] => 0
  | (t, c) :: W => (match c with | true => 1 | false => cost t) + costW W
noncomputable def item (x : T × Bool) : V := .tup [x.1.v, .bool x.2]
inductive RW (l : Env0) (r : Int) : Wk → List Int → Prop
  | nil : RW l r [] [r]
  | todo {t : T} {W : Wk} {vs : List Int} : RW l r W (vs ++ [ev l t]) → RW l r ((t, false) :: W) vs
  | ready {t : T} {W : Wk} {pre : List Int} : RW l r W (pre ++ [ev l t]) → RW l r ((t, true) :: W) (pre ++ kids l t)
theorem cost_pos (t : T) : 1 ≤ cost t := by cases t <;> first | exact Nat.le_refl 1 | (unfold cost; omega)
noncomputable def wsOf (W : Wk) : List V := (W.map item).reverse
theorem wsOf_cons (x : T × Bool) (W : Wk) : wsOf (x :: W) = wsOf W ++ [item x] := List.reverse_cons
theorem ws3 (x y z : T × Bool) (W : Wk) : wsOf (x :: y :: z :: W) = (wsOf W ++ [item z]) ++ [item y, item x] := by rw [wsOf_cons, wsOf_cons, wsOf_cons]; exact List.append_assoc _ [item y] [item x]
theorem wsOf_len (W : Wk) : (wsOf W).length ≤ costW W := by
  induction W with
  | nil => exact Nat.le_refl 0
  | cons x W ih =>
    obtain ⟨t, c⟩ := x
    rw [wsOf_cons, List.length_append, Nat.add_comm]
    refine Nat.add_le_add ?_ ih
    cases c
    · exact cost_pos t
    · exact Nat.le_refl 1
theorem getN {A t : St} {N : Nat} {o : SO} (e : A.length = N) : (A ++ o :: t)[N]? = some o := e ▸ app_0
theorem setN {A t : St} {N : Nat} {o o' : SO} (e : A.length = N) : (A ++ o :: t).set N o' = A ++ o' :: t := e ▸ set_app0
theorem setN' {A t r : St} {N : Nat} {o o' : SO} (e : A.length = N) : ((A ++ o :: t) ++ r).set N o' = A ++ o' :: (t ++ r) := by rw [List.append_assoc]; exact setN e
theorem parts_len (l : Env0) (t : T) : t.parts.length = (kids l t).length := by cases t <;> rfl
theorem parts_le (t : T) : t.parts.length ≤ 100000 := by cases t <;> exact Nat.le_of_ble_eq_true rfl
theorem br_or {c : Bool} {P X : Prop} (hX : c = false → P → X) (hP : P) : br c P X := by
  cases c with
  | true => exact hP
  | false => exact hX rfl hP
theorem setq {σ t : St} {q : Nat} {o₀ o o' : SO} (h : σ[q]? = some o₀) : (σ.set q o ++ t).set q o' = σ.set q o' ++ t := by
  rw [List.set_append_left _ _ (by rw [List.length_set]; exact (List.getElem?_eq_some_iff.mp h).1), List.set_set]
theorem HooksAt.app {σ : St} {h a v q : Nat} {l : Env0} {L : List V} (H : HooksAt σ h a v q l L) (t : St) : HooksAt (σ ++ t) h a v q l L := ⟨app_l H.inst, app_l H.attrs, app_l H.dict, app_l H.asked⟩
structure WorthAt (σ : St) (q h : Nat) (l : Env0) (r : Int) (n : Nat) (ρ : Vars) (σ' : St) (W : Wk) (vs : List Int) (L : List V) (g : St) (B : Nat) : Prop where
  en : n = costW W
  er : ρ = [(S "waiting", .loc σ.length), (S "values", .lst (vs.map .int)), (S "hooks", .loc h)]
  es : σ' = σ.set q (.list L) ++ .list (wsOf W) :: g
  rw_ : RW l r W vs
  ok : ∀ x ∈ W, okT l x.1
  bL : L.length ≤ B
  bv : vs.length ≤ B
  bB : B + costW W ≤ 1600
theorem k_worth (C : CxK (mkC b)) {h a v q : Nat} {l : Env0} {t : T} {d : Nat} {σ : St} {Q : Post} (H : HooksAt σ h a v q l []) (ht : okT l t) (hc : cost t ≤ 1500)
    (hq : ∀ L g, Q (.int (ev l t)) (σ.set q (.list L) ++ g)) : Ca (mkC b) (d + 7) (ref 720) [t.v, .loc h] σ Q := by
  refine Ca_def C (fn_720 C) rfl ?_
  refine W_List C ?_
  refine W_ListF C ⟨rfl, ?_⟩
  refine W_While C ["waiting", "values", "hooks"] (fun n ρ σ' => ∃ W vs L g B, WorthAt σ q h l (ev l t) n ρ σ' W vs L g B) (cost t)
    ⟨[(t, false)], [], [], [], 0, rfl, rfl, (congrArg (· ++ _) (set_same H.asked)).symm, .todo .nil, fun x m => List.mem_singleton.mp m ▸ ht, Nat.le_refl _, Nat.le_refl _, (Nat.zero_add _).symm ▸ Nat.le_trans hc (Nat.le_of_ble_eq_true rfl)⟩ ?_
  rintro n ρ σ' ⟨W, vs, L, g, B, rfl, rfl, rfl, hR, hok, bL, bv, bB⟩
  have eA : (σ.set q (.list L)).length = σ.length := List.length_set
  have hws : (wsOf W).length ≤ 1600 := Nat.le_trans (wsOf_len W) (Nat.le_of_add_left_le bB)
  refine Ca_len (getN eA) (Nat.le_trans hws (Nat.le_of_ble_eq_true rfl)) ?_
  cases W with
  | nil =>
    cases hR
    exact Gi_lst (by decide) rfl (hq _ _)
  | cons x W =>
    obtain ⟨t', c⟩ := x
    rw [wsOf_cons] at hws
    refine br_dT (by rw [wsOf_cons, List.length_append]; exact Int.ofNat_lt.mpr (Nat.succ_pos _)) ?_
    rw [wsOf_cons]
    refine Gm_pop (getN eA) ?_
    refine KCa_pop (getN eA) (Nat.le_trans (Nat.le_trans (by rw [List.length_append]; exact Nat.le_succ _) hws) (Nat.le_of_ble_eq_true rfl)) ?_
    rw [setN eA]
    refine ⟨rfl, ?_⟩
    refine k_parts C ?_
    have ok' : ∀ x ∈ W, okT l x.1 := fun x m => hok x (List.mem_cons_of_mem _ m)
    have ht' : okT l t' := hok _ List.mem_cons_self
    by_cases hp : c = true ∨ t'.parts = []
    · obtain ⟨pre, rfl, hRW⟩ : ∃ pre, vs = pre ++ kids l t' ∧ RW l (ev l t) W (pre ++ [ev l t']) := by
        cases hR with
        | ready h => exact ⟨_, rfl, h⟩
        | todo h =>
          have e : t'.parts = [] := hp.resolve_left (fun e => Bool.noConfusion e)
          have hk : kids l t' = [] := List.eq_nil_of_length_eq_zero (by rw [← parts_len, e]; rfl)
          exact ⟨vs, by rw [hk, List.append_nil], h⟩
      have bP : pre.length + t'.parts.length ≤ B := by rw [parts_len l, ← List.length_append]; exact bv
      have bN : B + 1 + costW W ≤ 1600 := by
        refine Nat.le_trans ?_ bB
        rw [Nat.add_assoc]
        refine Nat.add_le_add_left (Nat.add_le_add_right ?_ _) _
        cases c
        · exact cost_pos t'
        · exact Nat.le_refl 1
      have hB : B ≤ 1600 := Nat.le_of_add_right_le (Nat.le_of_add_right_le bN)
      have el : ((pre ++ kids l t').map V.int).length = pre.length + t'.parts.length := by rw [List.length_map, List.length_append, parts_len l]
      have eb : ((((pre ++ kids l t').map V.int).length : Nat) : Int) - (t'.parts.length : Nat) = (pre.length : Nat) := by rw [el, Int.natCast_add]; exact Int.add_sub_cancel _ _
      have e9 : ((pre ++ kids l t').map V.int).length ≤ 9000 := el ▸ Nat.le_trans bP (Nat.le_trans hB (Nat.le_of_ble_eq_true rfl))
      refine br_or (fun hc' p => Ca_lenF (parts_le _) (br_dT (by rw [hp.resolve_left (fun e => Bool.noConfusion (hc'.symm.trans e))]; rfl) p)) ?_
      refine Ca_lenF (Nat.le_trans e9 (Nat.le_of_ble_eq_true rfl)) ?_
      refine Ca_lenF (parts_le _) ?_
      have ed : pickN ((pre ++ kids l t').map V.int) (some pre.length) none = some ((kids l t').map .int) := congrArg some (by rw [List.map_append, List.drop_left' (List.length_map _)])
      have et : pickN ((pre ++ kids l t').map V.int) none (some pre.length) = some (pre.map .int) := congrArg some (by rw [List.map_append, List.take_left' (List.length_map _)])
      refine ⟨pre.length, congrArg V.int eb, _, _, .inl rfl, e9, ed, ?_⟩
      refine k_worthTree C ((H.set L).app _) ht' (Nat.le_trans bL (Nat.le_trans hB (Nat.le_of_ble_eq_true rfl))) fun L' hL' => ?_
      rw [setq H.asked]
      refine ⟨pre.length, congrArg V.int eb, _, _, .inl rfl, e9, et, ?_⟩
      refine W_ListF C ?_
      have bl : pre.length + 1 ≤ B + 1 := Nat.succ_le_succ (Nat.le_trans (Nat.le_add_right _ _) bP)
      refine Bi_addL (.inl rfl) (.inl rfl) (by rw [List.length_map]; exact Nat.le_trans bl (Nat.le_trans (Nat.succ_le_succ hB) (Nat.le_of_ble_eq_true rfl))) ?_
      refine ⟨costW W, ?_, W, pre ++ [ev l t'], L', g, B + 1, rfl, by rw [show (pre ++ [ev l t']).map V.int = pre.map .int ++ [.int (ev l t')] from List.map_append]; rfl, rfl, hRW, ok', Nat.le_trans hL' (Nat.succ_le_succ bL), by rw [List.length_append]; exact bl, bN⟩
      refine Nat.lt_add_of_pos_left ?_
      cases c
      · exact cost_pos t'
      · exact Nat.succ_pos 0
    · cases c with
      | true => exact (hp (.inl rfl)).elim
      | false =>
        have h9 : ∀ u v : V, (wsOf W ++ [u]).length ≤ 4000 := fun u v => by
          rw [List.length_append] at hws ⊢; exact Nat.le_trans hws (Nat.le_of_ble_eq_true rfl)
        have h10 : (wsOf W).length ≤ 10000 := Nat.le_trans (Nat.le_trans (by rw [List.length_append]; exact Nat.le_succ _) hws) (Nat.le_of_ble_eq_true rfl)
        cases t' with
        | nm x => exact (hp (.inr rfl)).elim
        | wh x => exact (hp (.inr rfl)).elim
        | two op x y =>
          have eC : costW ((x, false) :: (y, false) :: (.two op x y, true) :: W) + 1 = costW ((.two op x y, false) :: W) := by
            show cost x + (cost y + (1 + costW W)) + 1 = 2 + cost x + cost y + costW W
            omega
          refine Ca_lenF (Nat.le_of_ble_eq_true rfl) ?_
          refine Gm_append (getN eA) (KCa_append (getN eA) h10 ?_)
          rw [setN eA]
          refine Gm_extend (getN eA) ?_
          refine Ic_reversed ⟨trivial, ?_⟩
          refine wC2 (ua := item (y, false)) (ub := item (x, false)) (fun _ => trivial) (fun Q q => q) (fun Q q => q) ?_
          refine KCa_extend (app_l (getN eA)) (.inr ⟨_, rfl, .inl app_0⟩) (h9 _ .none) (Nat.le_of_ble_eq_true rfl) ?_
          rw [setN' eA]
          refine ⟨costW ((x, false) :: (y, false) :: (.two op x y, true) :: W), eC ▸ Nat.lt_succ_self _, (x, false) :: (y, false) :: (.two op x y, true) :: W, vs, L, _, B, rfl, rfl,
            by rw [ws3]; rfl, ?_, ?_, bL, bv, Nat.le_of_succ_le (by rw [← eC] at bB; exact bB)⟩
          · cases hR with | todo h => exact .todo (.todo (by rw [List.append_assoc]; exact .ready h))
          · intro z hz
            cases hz with
            | head => exact ht'.1
            | tail _ hz =>
              cases hz with
              | head => exact ht'.2.1
              | tail _ hz =>
                cases hz with
                | head => exact ht'
                | tail _ hz => exact ok' _ hz
        | seen x => exact ht'.elim
end
end Mine
end
section
open PySem PySem.W PySem.Calls PyProof.Rows
set_option maxRecDepth 100000
set_option maxHeartbeats 4000000
set_option linter.unusedVariables false
namespace Mine
section
variable {b : CB}
noncomputable def seenF (l : Env0) : List Str → Int → Int
  | [], f => f
  | x :: ns, f => seenF l ns (100000 * f + look l x + 50000)
noncomputable def evR (l : Env0) : T → Int
  | .seen ns => seenF l ns 0
  | t => ev l t
noncomputable def okR (l : Env0) : T → Prop
  | .seen ns => ∀ x ∈ ns, getK l x = some (.int (look l x))
  | t => okT l t
theorem k_lworth (C : CxK (mkC b)) {v : Nat} {l : Env0} {t : T} {d : Nat} {σ : St} {Q : Post} (hv : σ[v]? = some (.dictS l)) (ht : okR l t) (hc : cost t ≤ 1500) (hq : Q (.int (evR l t)) σ) : Ca (mkC b) (d + 8) (ref 793) [t.v, .loc v] σ Q := by
  have gen : okT l t → Q (.int (ev l t)) σ → Ca (mkC b) (d + 7) (ref 655) [.loc v, .int 32, .int 9] σ fun h σ' => Ca (mkC b) (d + 7) (ref 720) [t.v, h] σ' fun v σ' => ∃ σ₁ g, σ' = σ₁ ++ g ∧ σ₁.length = σ.length ∧ (∀ (i : Nat) (o : SO), σ₁[i]? = some o → σ[i]? = some o ∨ clO σ.length o = true) ∧ clV σ.length v = true ∧ Q v σ₁ := fun ht hq => by
    refine Ca_make C (f := 617) (by kernel_rfl) (by kernel_rfl) (by kernel_rfl) (fn_617 C) rfl ?_
    refine Sa_new ⟨by kernel_rfl, by kernel_rfl, by kernel_rfl, by kernel_rfl⟩ rfl rfl rfl ?_
    refine Sa_new ⟨by kernel_rfl, by kernel_rfl, by kernel_rfl, by kernel_rfl⟩ rfl rfl rfl ?_
    refine Sa_new ⟨by kernel_rfl, by kernel_rfl, by kernel_rfl, by kernel_rfl⟩ rfl rfl rfl ?_
    refine W_list0 C rfl ?_
    refine Sa_new ⟨by kernel_rfl, by kernel_rfl, by kernel_rfl, by kernel_rfl⟩ rfl rfl rfl ⟨rfl, ?_⟩
    refine k_worth C (h := σ.length + 1) (a := σ.length) (v := v) (q := σ.length + 2) ⟨app_k rfl, app_k (k := 0) rfl, app_l hv, app_k rfl⟩ ht hc fun L g => ?_
    rw [set_appk, List.append_assoc]
    exact forget0 rfl hq
  cases t with
  | seen ns =>
    refine Ca_def C (fn_793 C) rfl ?_
    refine W_For C ["values", "found"] (Iv_lst fun K hK => ?_)
    refine (?_ : ∀ (ms : List Str) (f : Int), (∀ x ∈ ms, getK l x = some (.int (look l x))) → Q (.int (seenF l ms f)) σ → kLOOPS _ _ _ _ _ _ _ _ (ms.map V.str) [(S "values", .loc v), (S "found", .int f)] σ) ns 0 ht hq
    intro ms
    induction ms with
    | nil => exact fun f _ h => h
    | cons x ms ih =>
      intro f hx h
      refine Bi_mul (PySem.IntMulOk.of_left (PySem.intBits_le_64 (by decide) (by decide))) ?_
      exact Gi_dictS hv (hx x List.mem_cons_self) ⟨hK _, ih _ (fun y m => hx y (List.mem_cons_of_mem _ m)) h⟩
  | nm x => exact Ca_forget (Ca_def C (fn_793 C) rfl (gen ht hq))
  | wh x => exact Ca_forget (Ca_def C (fn_793 C) rfl (gen ht hq))
  | two op x y => exact Ca_forget (Ca_def C (fn_793 C) rfl (gen ht hq))
noncomputable def runA (n : Nat) : List (Str × V) := [(S "flat", .loc (n + 1)), (S "values", .loc (n + 8)), (S "worth_of", ref 793), (S "bits", .int 32), (S "digits", .int 9), (S "control", .loc (n + 12)), (S "notes", .loc (n + 14))]
noncomputable def ctlA (pv : V) : List (Str × V) := [(S "pile", pv), (S "most", .int 20), (S "failed_at", .int (-1))]
structure RunAt (σ : St) (n : Nat) (rows : List V) (lp : List (Int × V)) (l : Env0) (L : List V) : Prop where
  flat : FlatAt σ (pfN n) rows
  lps : σ[n + 6]? = some (.dictI lp)
  dict : σ[n + 8]? = some (.dictS l)
  attrs : σ[n + 9]? = some (.attrs (runA n))
  inst : σ[n + 10]? = some (.inst 599 (n + 9))
  ctl : σ[n + 12]? = some (.inst 307 (n + 11))
  notes : σ[n + 14]? = some (.list L)
structure PileAt (σ : St) (n : Nat) (pv : V) (pc : List V) : Prop where
  at_ : σ[n + 11]? = some (.attrs (ctlA pv))
  is : pv = .lst pc ∨ pv = .loc (n + 13) ∧ σ[n + 13]? = some (.list pc)
theorem neK {n i j : Nat} (h : Nat.beq i j = false) : n + i ≠ n + j := fun e => Nat.ne_of_beq_eq_false h (Nat.add_left_cancel e)
theorem PileAt.isL {σ : St} {n : Nat} {pv : V} {pc : List V} (H : PileAt σ n pv pc) : isList σ pv pc := H.is.imp id fun q => ⟨_, q.1, .inl q.2⟩
section
variable {n : Nat} {rows : List V} {lp : List (Int × V)} {l : Env0} {L : List V} {d : Nat} {σ : St} {Q : Post} {pv : V} {pc : List V}
theorem FlatAt.app {z : Pf} (H : FlatAt σ z L) (t : St) : FlatAt (σ ++ t) z L := ⟨app_l H.inst, app_l H.attrs, app_l H.rows⟩
theorem RunAt.app (H : RunAt σ n rows lp l L) (t : St) : RunAt (σ ++ t) n rows lp l L := ⟨H.flat.app t, app_l H.lps, app_l H.dict, app_l H.attrs, app_l H.inst, app_l H.ctl, app_l H.notes⟩
theorem PileAt.app (H : PileAt σ n pv pc) (t : St) : PileAt (σ ++ t) n pv pc := ⟨app_l H.at_, H.is.imp id fun q => ⟨q.1, app_l q.2⟩⟩
theorem FlatAt.miss {k : Nat} {o' : SO} (H : FlatAt σ (pfN n) L) (h : ∀ i, i < 3 → n + k ≠ n + i) : FlatAt (σ.set (n + k) o') (pfN n) L := ⟨set_miss (h 1 (Nat.le_of_ble_eq_true rfl)) H.inst, set_miss (h 0 (Nat.le_of_ble_eq_true rfl)) H.attrs, set_miss (h 2 (Nat.le_of_ble_eq_true rfl)) H.rows⟩
theorem ge3 {k : Nat} (h : 3 ≤ k) : ∀ i, i < 3 → n + k ≠ n + i := fun i hi e => absurd (Nat.add_left_cancel e ▸ h) (Nat.not_le.mpr hi)
theorem RunAt.miss {k : Nat} {o' : SO} (H : RunAt σ n rows lp l L) (h3 : Nat.ble 3 k = true) (h6 : Nat.beq k 6 = false) (h8 : Nat.beq k 8 = false) (h9 : Nat.beq k 9 = false) (h10 : Nat.beq k 10 = false) (h12 : Nat.beq k 12 = false) (h14 : Nat.beq k 14 = false) : RunAt (σ.set (n + k) o') n rows lp l L :=
  ⟨H.flat.miss (ge3 (Nat.le_of_ble_eq_true h3)), set_miss (neK h6) H.lps, set_miss (neK h8) H.dict, set_miss (neK h9) H.attrs, set_miss (neK h10) H.inst, set_miss (neK h12) H.ctl, set_miss (neK h14) H.notes⟩
theorem RunAt.setD {l' : Env0} (H : RunAt σ n rows lp l L) : RunAt (σ.set (n + 8) (.dictS l')) n rows lp l' L :=
  ⟨H.flat.miss (ge3 (Nat.le_of_ble_eq_true rfl)), set_miss (neK rfl) H.lps, set_hit H.dict, set_miss (neK rfl) H.attrs, set_miss (neK rfl) H.inst, set_miss (neK rfl) H.ctl, set_miss (neK rfl) H.notes⟩
theorem RunAt.setN {L' : List V} (H : RunAt σ n rows lp l L) : RunAt (σ.set (n + 14) (.list L')) n rows lp l L' :=
  ⟨H.flat.miss (ge3 (Nat.le_of_ble_eq_true rfl)), set_miss (neK rfl) H.lps, set_miss (neK rfl) H.dict, set_miss (neK rfl) H.attrs, set_miss (neK rfl) H.inst, set_miss (neK rfl) H.ctl, set_hit H.notes⟩
theorem RunAt.setC {o' : SO} (H : RunAt σ n rows lp l L) : RunAt (σ.set (n + 11) o') n rows lp l L := H.miss rfl rfl rfl rfl rfl rfl rfl
theorem RunAt.setP {o' : SO} (H : RunAt σ n rows lp l L) : RunAt (σ.set (n + 13) o') n rows lp l L := H.miss rfl rfl rfl rfl rfl rfl rfl
theorem PileAt.miss {k : Nat} {o' : SO} (H : PileAt σ n pv pc) (h11 : Nat.beq k 11 = false) (h13 : Nat.beq k 13 = false) : PileAt (σ.set (n + k) o') n pv pc := ⟨set_miss (neK h11) H.at_, H.is.imp id fun q => ⟨q.1, set_miss (neK h13) q.2⟩⟩
theorem At_values (C : CxK (mkC b)) (H : RunAt σ n rows lp l L) (h : Q (.loc (n + 8)) σ) : At (mkC b) d (.loc (n + 10)) (S "values") σ Q := At_inst C H.inst H.attrs rfl (aok (by kernel_rfl)) rfl h
theorem At_flat (C : CxK (mkC b)) (H : RunAt σ n rows lp l L) (h : Q (.loc (n + 1)) σ) : At (mkC b) d (.loc (n + 10)) (S "flat") σ Q := At_inst C H.inst H.attrs rfl (aok (by kernel_rfl)) rfl h
theorem At_notes (C : CxK (mkC b)) (H : RunAt σ n rows lp l L) (h : Q (.loc (n + 14)) σ) : At (mkC b) d (.loc (n + 10)) (S "notes") σ Q := At_inst C H.inst H.attrs rfl (aok (by kernel_rfl)) rfl h
theorem At_control (C : CxK (mkC b)) (H : RunAt σ n rows lp l L) (h : Q (.loc (n + 12)) σ) : At (mkC b) d (.loc (n + 10)) (S "control") σ Q := At_inst C H.inst H.attrs rfl (aok (by kernel_rfl)) rfl h
theorem k_rworth (C : CxK (mkC b)) {t : T} (H : RunAt σ n rows lp l L) (ht : okR l t) (hc : cost t ≤ 1500) (hq : Q (.int (evR l t)) σ) : Ca (mkC b) (d + 9) (ref 561) [.loc (n + 10), t.v] σ Q := by
  refine Ca_def C (fn_561 C) rfl ?_
  refine At_inst C H.inst H.attrs rfl (aok (by kernel_rfl)) rfl ?_
  refine At_values C H ?_
  exact KCa_fn (fn_793 C) (k_lworth C H.dict ht hc hq)
theorem k_rvon (C : CxK (mkC b)) {x : Str} (H : RunAt σ n rows lp l L) (hq : Q ((getK l x).getD (.int 0)) σ) : Ca (mkC b) (d + 1) (ref 575) [.loc (n + 10), .str x] σ Q := by
  refine Ca_def C (fn_575 C) rfl ?_
  refine At_values C H ?_
  refine Gm_get H.dict ?_
  exact KCa_get H.dict hq
theorem k_rstore (C : CxK (mkC b)) {x : Str} {u : V} (H : RunAt σ n rows lp l L) (hz : l.length ≤ 9000) (hq : Q .none (σ.set (n + 8) (.dictS (putK l x u)))) : Ca (mkC b) (d + 1) (ref 582) [.loc (n + 10), .str x, u] σ Q := by
  refine Ca_def C (fn_582 C) rfl ?_
  refine At_values C H ?_
  exact Si_dictS H.dict hz hq
theorem Gm_worth (C : CxK (mkC b)) {Q : V → List V → St → Prop} (H : RunAt σ n rows lp l L) (h : Q (.raw (.ref 561)) [.loc (n + 10)] σ) : Gm (mkC b) d (.loc (n + 10)) (S "worth") σ Q := Gm_inst C H.inst H.attrs rfl (mok (by kernel_rfl)) h
theorem Gm_store (C : CxK (mkC b)) {Q : V → List V → St → Prop} (H : RunAt σ n rows lp l L) (h : Q (.raw (.ref 582)) [.loc (n + 10)] σ) : Gm (mkC b) d (.loc (n + 10)) (S "store") σ Q := Gm_inst C H.inst H.attrs rfl (mok (by kernel_rfl)) h
theorem Gm_von (C : CxK (mkC b)) {Q : V → List V → St → Prop} (H : RunAt σ n rows lp l L) (h : Q (.raw (.ref 575)) [.loc (n + 10)] σ) : Gm (mkC b) d (.loc (n + 10)) (S "value_of_name") σ Q := Gm_inst C H.inst H.attrs rfl (mok (by kernel_rfl)) h
theorem k_ifn (C : CxK (mkC b)) {t : T} {m k : Nat} (H : RunAt σ n rows lp l L) (ht : okR l t) (hc : cost t ≤ 1500)
    (hq : Q (.int ((if evR l t = 0 then m else k + 1 : Nat) : Nat)) σ) : Ca (mkC b) (d + 11) (ref 512) [.loc (n + 10), .int (k : Nat), ifnV t m] σ Q := by
  refine Ca_def C (fn_512 C) rfl ?_
  refine Ca_def C (fn_519 C) rfl ?_
  refine Gm_worth C H ?_
  refine KCa_fn (fn_561 C) (k_rworth C H ht hc ?_)
  refine k_isTrue C ?_
  by_cases h0 : evR l t = 0
  · rw [if_pos h0] at hq
    exact br_F (by rw [decide_eq_true h0]; rfl) hq
  · rw [if_neg h0] at hq
    exact br_T (by rw [decide_eq_false h0]; rfl) hq
theorem k_jmp (C : CxK (mkC b)) {r m k : Nat} (hq : Q (.int (m : Nat)) σ) : Ca (mkC b) (d + 2) (ref 512) [.loc r, .int (k : Nat), jmpV m] σ Q :=
  Ca_def C (fn_512 C) rfl (Ca_def C (fn_519 C) rfl hq)
end
end
end Mine
end
section
open PySem PySem.W PySem.Calls PyProof.Rows
set_option linter.unusedVariables false
set_option maxRecDepth 100000
namespace Mine
section
variable {c : Cx} {sc : Sc} {d : Nat} {ρ : Vars} {σ : St} {Q : Post} {A : Around} {env : Env} {s s₁ : Shared} {θ θ₁ : List Addr}
theorem slice_go {prog : Program} {w : World} {E P : Value → Shared → Prop} {value : Expr} {lo hi : Option Expr} {p pos : Pos}
    (h : wpAny (model prog w) A (eval value env) (fun o s₁ => wpAny (model prog w) A (eval (.Slice lo hi none p) env) (fun i s₂ => s₂.TypeIs o "list" ∧ wpAny (model prog w) A (getItem o i) (fun v s₃ => P v s₃) E s₂) E s₁) E s) :
    wpAny (model prog w) A (eval (.Subscript value (.Slice lo hi none p) pos) env) (fun v s₃ => P v s₃) E s := by
  rw [eval_Subscript]
  refine wpAny_bind (wpAny_mono h (fun o s₁ h₁ => ?_) fun _ _ x => x)
  refine wpAny_bind (wpAny_holding (wpAny_mono h₁ (fun i s₂ ⟨hT, h₂⟩ => wpAny_bind (wpAny_standAt ?_)) fun _ _ x => x))
  have last : wpAny (model prog w) A (operate [i, o] (getItem o i)) (fun r s₃ => wpAny (model prog w) A (letTemporaryGo value o r >>= fun _ => pure r) P E s₃) E s₂ :=
    wpAny_operating (wpAny_mono h₂ (fun _ _ h₃ => wpAny_bind (wpAny_letTemporaryGo (wpAny_pure h₃))) fun _ _ x => x)
  refine wpAny_bind ?_
  rw [getitemInPython_of_ne hT.not_modules]
  exact wpAny_bind (wpAny_specialOf hT slot_list_getitem.lookup (wpAny_pure (wpAny_bind last)))
theorem EV_SliceG {value : Expr} {lo hi : Option Expr} {p pos : Pos}
    (h : EV c sc d value ρ σ fun v σ₁ => EVP c sc d lo ρ σ₁ fun a σ₂ => EVP c sc d hi ρ σ₂ fun b σ₃ => ∃ l l', isList σ₃ v l ∧ l.length ≤ 9000 ∧ pickN l a b = some l' ∧ Q (.lst l') σ₃) : EV c sc d (.Subscript value (.Slice lo hi none p) pos) ρ σ Q := fun A env s θ r X I F => by
  refine slice_go (wpAny_mono (h A env s θ r X I F) (fun o' s₁ h₁ => ?_) fun _ _ x => x)
  obtain ⟨v, σ₁, θ₁, I₁, g₁, rv, q⟩ := h₁
  have F₁ := F.grow I.tupOut g₁
  refine wpAny_Slice (EVP_ok q r X I₁ F₁ fun va s₂ σ₂ θ₂ a I₂ g₂ pa q₂ => ?_)
  have F₂ := F₁.grow I₁.tupOut g₂
  refine EVP_ok q₂ r X I₂ F₂ fun vb s₃ σ₃ θ₃ b I₃ g₃ pb q₃ => wpAny_evalPart_none ?_
  obtain ⟨l, l', hL, hlen, hp, q⟩ := q₃
  obtain ⟨ad, xs, n, rfl, hl, rl⟩ := I₃.asL hL ((rv.grow I₁.tupOut g₂).grow I₂.tupOut g₃)
  obtain ⟨I₄, g₄⟩ := pushed I₃ { cls := .type "slice", data := .fields #[va, vb, .none] } s₃.toks
  have hl' : (s₃.heap.push { cls := .type "slice", data := .fields #[va, vb, .none] }).IsList ad xs.toArray := hl.isList.push _
  refine ⟨hl'.typeIs, ?_⟩
  obtain ⟨ys, e1, e2, e3⟩ := pick_rep rl hp
  refine wpAny_getItem_list_slice hl' ⟨_, Heap.get?_push_size _ rfl, rfl, rfl⟩ pa.isPart pb.isPart .none (by simp) ?_ (by rw [List.size_toArray, ← rl.length, sizeLine_eq]; omega)
  rw [e1]
  exact .trans (((g₁.trans g₂).trans g₃).trans g₄) (I₄.frozen (t := s₃.toks) (e2.grow I₃.tupOut g₄) q)
theorem W_SliceG (K : CxK c) {value : Expr} {lo hi : Option Expr} {p pos : Pos} (h : ((wp c d 40) sc).E value ρ σ fun v σ₁ => wPt (wp c d 40) sc lo ρ σ₁ fun a σ₂ => wPt (wp c d 40) sc hi ρ σ₂ fun b σ₃ => ∃ l l', isList σ₃ v l ∧ l.length ≤ 9000 ∧ pickN l a b = some l' ∧ Q (.lst l') σ₃) :
    Ev c sc d (.Subscript value (.Slice lo hi none p) pos) ρ σ Q := ⟨EV_SliceG (((wp_ok K 40).E h).mono fun _ _ q => pt_ok (wp_ok K 40) q fun _ _ q => pt_ok (wp_ok K 40) q fun _ _ q => q)⟩
structure RD (a b : Int) (n : Nat) : Prop where
  sz : Builtin.Range.rangeSize a b (-1) = n
  sm : Builtin.Range.small a b (-1) = true
  py : Builtin.divisionGoesByPylong (b - a) (-1) = false
theorem rd0 : RD 0 0 0 := ⟨by decide +kernel, by decide +kernel, PyProof.noPylong_of_log2 (by decide +kernel)⟩
theorem rd1 : RD 1 0 1 := ⟨by decide +kernel, by decide +kernel, PyProof.noPylong_of_log2 (by decide +kernel)⟩
theorem rdm0 : RD (((0 : Nat) : Int) - 1) (0 - 1) 0 := ⟨by decide +kernel, by decide +kernel, PyProof.noPylong_of_log2 (by decide +kernel)⟩
theorem rdm1 : RD (((1 : Nat) : Int) - 1) (0 - 1) 1 := ⟨by decide +kernel, by decide +kernel, PyProof.noPylong_of_log2 (by decide +kernel)⟩
theorem Ic_rd {a b : Int} {n : Nat} {x : Str} {p : Pos} {G : List V → (St → Prop) → St → Prop} (R : RD a b n) (h : G ((List.range n).map fun i => .int (a - (i : Nat))) (fun _ => True) σ) : Ic c d (.Name x p) (.raw (.type "range")) [.int a, .int b, .int (-1)] σ G := Ic_rangeD R.sz R.sm R.py h
end
end Mine
end
section
open PySem PySem.W PySem.Calls PyProof.Rows
set_option maxRecDepth 100000
set_option maxHeartbeats 4000000
set_option linter.unusedVariables false
namespace Mine
section
variable {b : CB}
noncomputable def entV (k r : Nat) : V := .tup [.str (S "FOR"), .str (S "I"), .int (k : Nat), .int (r : Nat), .int 1]
theorem k_sign (C : CxK (mkC b)) {d : Nat} {σ : St} {Q : Post} (h : Q (.int 1) σ) : Ca (mkC b) (d + 1) (ref 128) [.int 1] σ Q :=
  Ca_def C (fn_128 C) rfl (Ca_isStr rfl (Ca_isTup rfl h))
theorem ord_lt (x y : Int) : decide (ord x y < 0) = decide (x < y) := by
  rcases ord_tri x y with ⟨h, e⟩ | ⟨h, e⟩ | ⟨h, e⟩ <;> rw [e]
  · exact (decide_eq_true h).symm
  · exact (decide_eq_false (h ▸ Int.lt_irrefl x)).symm
  · exact (decide_eq_false (Int.lt_asymm h)).symm
theorem k_isPast (C : CxK (mkC b)) {v m : Int} {d : Nat} {σ : St} {Q : Post} (h : Q (.bool (decide (m < v))) σ) : Ca (mkC b) (d + 3) (ref 346) [.int v, .int m, .int 1, ref 276] σ Q := by
  refine Ca_def C (fn_346 C) rfl ?_
  refine k_sign C ?_
  refine KCa_fn (fn_276 C) (k_order C ?_)
  show Q (.bool (decide (ord m v < 0))) σ
  rw [ord_lt]; exact h
noncomputable def oneP (pc : List V) : Prop := pc = [] ∨ ∃ k r, pc = [entV k r]
theorem k_floor (C : CxK (mkC b)) {pv : V} {pc : List V} {d : Nat} {σ : St} {Q : Post} (hp : isList σ pv pc) (ho : oneP pc) (h : Q (.int 0) σ) : Ca (mkC b) (d + 1) (ref 325) [pv] σ Q := by
  refine Ca_def C (fn_325 C) rfl ?_
  rcases ho with rfl | ⟨k, r, rfl⟩
  · exact W_For C ["pile"] (Ca_lenL hp (Nat.zero_le _) ⟨_, rfl, Ic_rd rd0 h⟩)
  · refine W_For C ["pile"] (Ca_lenL hp (Nat.le_of_ble_eq_true rfl) ⟨_, rfl, Ic_rd rd1 ?_⟩)
    rcases id hp with rfl | ⟨m, rfl, _⟩
    · exact Gi_list (k := 0) hp (by decide) rfl ⟨trivial, h⟩
    · exact Gi_list (k := 0) hp (by decide) rfl ⟨trivial, h⟩
theorem k_found0 (C : CxK (mkC b)) {pv : V} {x : Str} {d : Nat} {σ : St} {Q : Post} (hp : isList σ pv []) (h : Q (.int (-1)) σ) : Ca (mkC b) (d + 2) (ref 332) [pv, .str (S "FOR"), .str x] σ Q := by
  refine Ca_def C (fn_332 C) rfl ?_
  exact W_For C [] (Ca_lenL hp (Nat.zero_le _) (k_floor C hp (.inl rfl) ⟨_, rfl, Ic_rd rdm0 ⟨_, rfl, h⟩⟩))
theorem k_found1 (C : CxK (mkC b)) {pv : V} {k r : Nat} {x : Str} {d : Nat} {σ : St} {Q : Post} (hp : isList σ pv [entV k r]) (hx : x ∈ [S "", S "I"]) (h : Q (.int 0) σ) : Ca (mkC b) (d + 2) (ref 332) [pv, .str (S "FOR"), .str x] σ Q := by
  refine Ca_def C (fn_332 C) rfl ?_
  refine W_For C ["pile", "kind", "name"] (Ca_lenL hp (Nat.le_of_ble_eq_true rfl) (k_floor C hp (.inr ⟨_, _, rfl⟩) ⟨_, rfl, Ic_rd rdm1 ?_⟩))
  rcases id hp with rfl | ⟨m, rfl, _⟩
  · exact Gi_list (k := 0) hp (by decide) rfl (Gi_list (k := 0) hp (by decide) rfl (br_dT hx h))
  · exact Gi_list (k := 0) hp (by decide) rfl (Gi_list (k := 0) hp (by decide) rfl (br_dT hx h))
section
variable {n : Nat} {pv : V} {pc : List V} {d : Nat} {σ : St} {Q : Post}
theorem At_pile (C : CxK (mkC b)) (hc : σ[n + 12]? = some (.inst 307 (n + 11))) (H : PileAt σ n pv pc) (h : Q pv σ) (hh : hand pv = true) : At (mkC b) d (.loc (n + 12)) (S "pile") σ Q := At_inst C hc H.at_ rfl (aok (by kernel_rfl)) hh h
theorem PileAt.hand (H : PileAt σ n pv pc) : hand pv = true := by
  rcases H.is with rfl | ⟨rfl, _⟩ <;> rfl
theorem k_forBegin (C : CxK (mkC b)) {k r : Nat} (hc : σ[n + 12]? = some (.inst 307 (n + 11))) (H : σ[n + 11]? = some (.attrs (ctlA (.loc (n + 13))))) (H' : σ[n + 13]? = some (.list [])) (h : Q .none (σ.set (n + 13) (.list [entV k r]))) :
    Ca (mkC b) (d + 3) (ref 353) [.loc (n + 12), .str (S "I"), .int (k : Nat), .int (r : Nat), .int 1] σ Q := by
  have P : PileAt σ n (.loc (n + 13)) [] := ⟨H, .inr ⟨rfl, H'⟩⟩
  refine Ca_def C (fn_353 C) rfl ?_
  refine At_pile C hc P ?_ rfl
  refine k_found0 C P.isL ?_
  refine Ca_def C (fn_318 C) rfl ?_
  refine At_pile C hc P ?_ rfl
  refine Ca_len H' (Nat.zero_le _) ?_
  refine At_inst C hc P.at_ rfl (aok (by kernel_rfl)) rfl ?_
  refine At_pile C hc P ?_ rfl
  refine Gm_append H' ?_
  exact KCa_append H' (Nat.zero_le _) h
theorem k_cut (C : CxK (mkC b)) {m : Nat} (hc : σ[n + 12]? = some (.inst 307 (n + 11))) (H : PileAt σ n pv pc) (hz : pc.length ≤ 9000) (h : Q .none (σ.set (n + 11) (.attrs (ctlA (.lst (pc.take m)))))) : Ca (mkC b) (d + 1) (ref 339) [.loc (n + 12), .int (m : Nat)] σ Q := by
  refine Ca_def C (fn_339 C) rfl ?_
  refine W_SliceG C ?_
  refine At_pile C hc H ⟨m, rfl, pc, _, H.isL, hz, rfl, ?_⟩ H.hand
  exact Sa_inst hc H.at_ ⟨by kernel_rfl, by kernel_rfl, by kernel_rfl, by kernel_rfl⟩ (Nat.le_of_ble_eq_true rfl) h
end
end
end Mine
end
section
open PySem PySem.W PySem.Calls PyProof.Rows
set_option maxRecDepth 100000
set_option maxHeartbeats 4000000
set_option linter.unusedVariables false
namespace Mine
section
variable {b : CB}
theorem mI0 : S "" ∈ [S "", S "I"] := .head _
theorem mI1 : S "I" ∈ [S "", S "I"] := .tail _ (.head _)
section
variable {n : Nat} {pv : V} {k r : Nat} {d : Nat} {σ : St} {Q : Post}
theorem k_forName (C : CxK (mkC b)) (hc : σ[n + 12]? = some (.inst 307 (n + 11))) (H : PileAt σ n pv [entV k r]) (h : Q (.str (S "I")) σ) : Ca (mkC b) (d + 3) (ref 360) [.loc (n + 12), .str (S "")] σ Q := by
  refine Ca_def C (fn_360 C) rfl ?_
  refine At_pile C hc H ?_ H.hand
  refine k_found1 C H.isL mI0 ?_
  refine At_pile C hc H ?_ H.hand
  have q := H.isL
  rcases id H.is with rfl | ⟨rfl, _⟩
  · exact Gi_list (k := 0) q (by decide) rfl h
  · exact Gi_list (k := 0) q (by decide) rfl h
theorem k_plus (C : CxK (mkC b)) {rows : List V} {lp : List (Int × V)} {l : Env0} {L : List V} {v : Int} {m : Nat} (H : RunAt σ n rows lp l L) (hm : σ[m]? = some (.meth 589 (n + 10))) (hv : small (v + 1)) (h : Q (.int (v + 1)) σ) : Kp (mkC b) σ (.loc m) ∧ Ca (mkC b) (d + 5) (.loc m) [.int v, .int 1] σ Q := by
  refine KCa_meth C (fn_589 C) hm (by kernel_rfl) rfl ?_
  refine At_inst C H.inst H.attrs rfl (aok (by kernel_rfl)) rfl ?_
  refine At_inst C H.inst H.attrs rfl (aok (by kernel_rfl)) rfl ?_
  exact k_reckoned C (op := S "+") (.head _) hv h
theorem k_forNext (C : CxK (mkC b)) {rows : List V} {lp : List (Int × V)} {l : Env0} {L : List V} {v : Int} {m : Nat} (H : RunAt σ n rows lp l L) (P : PileAt σ n pv [entV k r]) (hm : σ[m]? = some (.meth 589 (n + 10))) (hv : small (v + 1))
    (h1 : (r : Int) < v + 1 → Q (.tup [.int (v + 1), .none]) (σ.set (n + 11) (.attrs (ctlA (.lst []))))) (h2 : ¬ (r : Int) < v + 1 → Q (.tup [.int (v + 1), .int (k : Nat)]) (σ.set (n + 11) (.attrs (ctlA (.lst [entV k r]))))) :
    Ca (mkC b) (d + 6) (ref 367) [.loc (n + 12), .str (S "I"), .int v, .loc m, ref 276] σ Q := by
  refine Ca_def C (fn_367 C) rfl ?_
  refine At_pile C H.ctl P ?_ P.hand
  refine k_found1 C P.isL mI1 ?_
  refine At_pile C H.ctl P ?_ P.hand
  have q := P.isL
  rcases id P.is with rfl | ⟨rfl, _⟩
  · refine Gi_list (k := 0) q (by decide) rfl ⟨rfl, ?_⟩
    refine (show ((wp (mkC b) (d + 5) _) _).Ss _ [(S "control", .loc (n + 12)), (S "name", .str (S "I")), (S "value", .int v), (S "add", .loc m), (S "order", ref 276), (S "at", .int 0), (S "kind", .str (S "FOR")), (S "word", .str (S "I")), (S "place", .int k), (S "limit", .int r), (S "step", .int 1)] σ _ from ?_)
    refine k_plus C H hm hv ?_
    refine k_isPast C ?_
    by_cases hr : (r : Int) < v + 1
    · refine br_dT hr ?_
      exact k_cut C (m := 0) H.ctl P (Nat.le_of_ble_eq_true rfl) (h1 hr)
    · refine br_dF hr ?_
      exact k_cut C (m := 1) H.ctl P (Nat.le_of_ble_eq_true rfl) (h2 hr)
  · refine Gi_list (k := 0) q (by decide) rfl ⟨rfl, ?_⟩
    refine (show ((wp (mkC b) (d + 5) _) _).Ss _ [(S "control", .loc (n + 12)), (S "name", .str (S "I")), (S "value", .int v), (S "add", .loc m), (S "order", ref 276), (S "at", .int 0), (S "kind", .str (S "FOR")), (S "word", .str (S "I")), (S "place", .int k), (S "limit", .int r), (S "step", .int 1)] σ _ from ?_)
    refine k_plus C H hm hv ?_
    refine k_isPast C ?_
    by_cases hr : (r : Int) < v + 1
    · refine br_dT hr ?_
      exact k_cut C (m := 0) H.ctl P (Nat.le_of_ble_eq_true rfl) (h1 hr)
    · refine br_dF hr ?_
      exact k_cut C (m := 1) H.ctl P (Nat.le_of_ble_eq_true rfl) (h2 hr)
end
end
end Mine
end
section
open PySem PySem.W PySem.Calls PyProof.Rows
set_option maxRecDepth 100000
set_option maxHeartbeats 4000000
set_option linter.unusedVariables false
namespace Mine
section
variable {b : CB}
theorem bnd_plus : BoundOf (hK b.w.params) 599 (S "plus") 589 := ⟨by kernel_rfl, by kernel_rfl, by kernel_rfl, by kernel_rfl, by kernel_rfl, by kernel_rfl, by kernel_rfl⟩
section
variable {n : Nat} {pv : V} {k r : Nat} {rows : List V} {lp : List (Int × V)} {l : Env0} {L : List V} {d : Nat} {σ : St} {Q : Post}
noncomputable def nxt (σ : St) (n : Nat) (l : Env0) (v : Int) (pc : List V) : St := ((σ ++ [SO.meth 589 (n + 10)]).set (n + 11) (.attrs (ctlA (.lst pc)))).set (n + 8) (.dictS (putK l (S "I") (.int v)))
theorem RunAt.nxt (H : RunAt σ n rows lp l L) {v : Int} {pc : List V} : RunAt (Mine.nxt σ n l v pc) n rows lp (putK l (S "I") (.int v)) L := ((H.app _).setC).setD
theorem PileAt.nxt (H : RunAt σ n rows lp l L) {pc' : List V} (P : PileAt σ n pv pc') {v : Int} {pc : List V} : PileAt (Mine.nxt σ n l v pc) n (.lst pc) pc := ⟨set_miss (neK rfl) (set_hit (app_l P.at_)), .inl rfl⟩
theorem nxt_old (H : RunAt σ n rows lp l L) {v : Int} {pc : List V} {i : Nat} {o : SO} (hi : i < n) (h : σ[i]? = some o) : (Mine.nxt σ n l v pc)[i]? = some o :=
  set_miss (Ne.symm (Nat.ne_of_lt (Nat.lt_of_lt_of_le hi (Nat.le_add_right _ _)))) (set_miss (Ne.symm (Nat.ne_of_lt (Nat.lt_of_lt_of_le hi (Nat.le_add_right _ _)))) (app_l h))
theorem k_nextFrom0 (C : CxK (mkC b)) {a : Nat} (h : Q (.int ((a + 1 : Nat) : Nat)) σ) : Ca (mkC b) (d + 1) (ref 540) [.loc (n + 10), .int (a : Nat), .lst []] σ Q := by
  refine Ca_def C (fn_540 C) rfl ?_
  exact W_For C ["at"] (Iv_lst fun K hK => h)
theorem k_nextFrom1 (C : CxK (mkC b)) {a : Nat} {v : Int} (H : RunAt σ n rows lp l L) (P : PileAt σ n pv [entV k r]) (hI : getK l (S "I") = some (.int v)) (hv : small (v + 1)) (hz : l.length ≤ 9000)
    (h1 : (r : Int) < v + 1 → Q (.int ((a + 1 : Nat) : Nat)) (nxt σ n l (v + 1) [])) (h2 : ¬ (r : Int) < v + 1 → Q (.int (k : Nat)) (nxt σ n l (v + 1) [entV k r])) : Ca (mkC b) (d + 7) (ref 540) [.loc (n + 10), .int (a : Nat), .lst [.str (S "")]] σ Q := by
  refine Ca_def C (fn_540 C) rfl ?_
  refine W_For C ["run", "at"] (Iv_lst fun K hK => ?_)
  refine At_control C H ?_
  refine k_forName C H.ctl P ?_
  refine At_control C H ?_
  refine Gm_von C H ?_
  refine KCa_fn (fn_575 C) (k_rvon C H ?_)
  rw [hI]
  refine At_meth C H.inst H.attrs rfl bnd_plus ?_
  refine k_forNext C (H.app _) (P.app _) app_0 hv (fun hr => ⟨rfl, ?_⟩) fun hr => ⟨rfl, ?_⟩
  · refine Gm_store C (H.app _).setC ?_
    refine KCa_fn (fn_582 C) (k_rstore C (H.app _).setC hz ?_)
    exact ⟨hK _, h1 hr⟩
  · refine Gm_store C (H.app _).setC ?_
    refine KCa_fn (fn_582 C) (k_rstore C (H.app _).setC hz ?_)
    exact h2 hr
end
end
end Mine
end
section
open PySem PySem.W PySem.Calls PyProof.Rows
set_option maxRecDepth 100000
set_option maxHeartbeats 4000000
set_option linter.unusedVariables false
namespace Mine
section
variable {b : CB}
section
variable {n : Nat} {k r : Nat} {rows : List V} {lp : List (Int × V)} {l : Env0} {L : List V} {d : Nat} {σ : St} {Q : Post}
theorem small12 {r : Nat} (h : r ≤ 2) : small (r : Int) := ⟨Int.le_trans (by decide) (Int.natCast_nonneg _), Int.le_trans (Int.ofNat_le.mpr h) (by decide)⟩
theorem k_nextOf (C : CxK (mkC b)) {a m : Nat} (H : RunAt σ n rows (loopD a m) l L) (h : Q (.tup [.int (m : Nat), .int 0]) σ) : Ca (mkC b) (d + 1) (ref 504) [.loc (n + 1), .int (a : Nat)] σ Q := by
  have hk : getK (loopD a m) (a : Int) = some (.tup [.int (m : Nat), .int 0]) := if_pos rfl
  refine Ca_def C (fn_504 C) rfl ?_
  refine At_inst C H.flat.inst H.flat.attrs rfl (aok (by kernel_rfl)) rfl ?_
  refine Cm_notInDI H.lps ?_
  refine br_F (by rw [hk]; rfl) ?_
  refine At_inst C H.flat.inst H.flat.attrs rfl (aok (by kernel_rfl)) rfl ?_
  exact Gi_dictI H.lps hk h
theorem k_doFor (C : CxK (mkC b)) {a m : Nat} {ln : Int} (H : RunAt σ n rows (loopD a m) l L) (P1 : σ[n + 11]? = some (.attrs (ctlA (.loc (n + 13))))) (P2 : σ[n + 13]? = some (.list [])) (hr : r ≤ 2) (hz : l.length ≤ 9000) (hm : rows[m]? = some (row ln nextV)) (hmz : m ≤ 1000)
    (h0 : r = 0 → Q (.int ((m + 1 : Nat) : Nat)) (σ.set (n + 8) (.dictS (putK l (S "I") (.int 1))))) (h1 : r ≠ 0 → Q (.int ((a + 1 : Nat) : Nat)) ((σ.set (n + 8) (.dictS (putK l (S "I") (.int 1)))).set (n + 13) (.list [entV (a + 1) r]))) :
    Ca (mkC b) (d + 10) (ref 533) [.loc (n + 10), .int (a : Nat), forV r] σ Q := by
  have H1 := H.setD (l' := putK l (S "I") (.int 1))
  refine Ca_def C (fn_533 C) rfl ⟨rfl, ?_⟩
  refine (show ((wp (mkC b) (d + 9) _) _).Ss _ [(S "run", .loc (n + 10)), (S "at", .int (a : Nat)), (S "statement", forV r), (S "word", .str (S "FOR")), (S "name", .str (S "I")), (S "first", (T.wh 1).v), (S "last", (T.wh r).v), (S "stride", .none)] σ _ from ?_)
  refine Gm_worth C H ?_
  refine KCa_fn (fn_561 C) (k_rworth C (t := .wh 1) H ⟨by decide, by decide⟩ (Nat.le_of_ble_eq_true rfl) ?_)
  refine Gm_worth C H ?_
  refine KCa_fn (fn_561 C) (k_rworth C (t := .wh r) H (small12 hr) (Nat.le_of_ble_eq_true rfl) ⟨rfl, ?_⟩)
  refine W_For C ["run", "at", "name", "begin", "limit", "step"] (Iv_tup ?_)
  refine (show kLOOPS (mkC b) _ (d + 9) _ _ _ _ _ _ [(S "run", .loc (n + 10)), (S "at", .int (a : Nat)), (S "name", .str (S "I")), (S "begin", .int 1), (S "limit", .int (r : Nat)), (S "step", .int 1)] σ from ?_)
  refine Ca_isStr rfl ⟨trivial, (show kLOOPS (mkC b) _ (d + 9) _ _ _ _ _ _ [(S "run", .loc (n + 10)), (S "at", .int (a : Nat)), (S "name", .str (S "I")), (S "begin", .int 1), (S "limit", .int (r : Nat)), (S "step", .int 1)] σ from ?_)⟩
  refine Ca_isStr rfl ⟨trivial, (show kLOOPS (mkC b) _ (d + 9) _ _ _ _ _ _ [(S "run", .loc (n + 10)), (S "at", .int (a : Nat)), (S "name", .str (S "I")), (S "begin", .int 1), (S "limit", .int (r : Nat)), (S "step", .int 1)] σ from ?_)⟩
  refine Ca_isStr rfl ⟨trivial, ?_⟩
  refine (show ((wp (mkC b) (d + 9) _) _).Ss _ [(S "run", .loc (n + 10)), (S "at", .int (a : Nat)), (S "name", .str (S "I")), (S "begin", .int 1), (S "limit", .int (r : Nat)), (S "step", .int 1)] σ _ from ?_)
  refine Gm_store C H ?_
  refine KCa_fn (fn_582 C) (k_rstore C H hz ?_)
  refine Gm_von C H1 ?_
  refine KCa_fn (fn_575 C) (k_rvon C H1 ?_)
  rw [getK_put]
  refine k_isPast C ?_
  by_cases h : r = 0
  · subst h
    refine At_flat C H1 ?_
    refine k_nextOf C H1 ⟨rfl, ?_⟩
    refine At_flat C H1 ?_
    refine At_rows C H1.flat ?_
    refine Gi_loc H1.flat.rows (Int.natCast_nonneg _) (by rw [Int.toNat_natCast]; exact hm) ?_ (cast_lt hmz (by decide))
    refine ⟨1, rfl, [], [], .inl rfl, Nat.zero_le _, rfl, ?_⟩
    exact k_nextFrom0 C (h0 rfl)
  · have h' : ¬ ((r : Int) < 1) := fun q => h (Nat.lt_one_iff.mp (Int.ofNat_lt.mp q))
    refine br_T (by rw [decide_eq_false h']; rfl) ?_
    refine At_control C H1 ?_
    exact k_forBegin C (k := a + 1) H1.ctl (set_miss (neK rfl) P1) (set_miss (neK rfl) P2) (h1 h)
theorem k_forRow (C : CxK (mkC b)) {a m : Nat} {ln : Int} (H : RunAt σ n rows (loopD a m) l L) (P1 : σ[n + 11]? = some (.attrs (ctlA (.loc (n + 13))))) (P2 : σ[n + 13]? = some (.list [])) (hr : r ≤ 2) (hz : l.length ≤ 9000) (hm : rows[m]? = some (row ln nextV)) (hmz : m ≤ 1000)
    (h0 : r = 0 → Q (.int ((m + 1 : Nat) : Nat)) (σ.set (n + 8) (.dictS (putK l (S "I") (.int 1))))) (h1 : r ≠ 0 → Q (.int ((a + 1 : Nat) : Nat)) ((σ.set (n + 8) (.dictS (putK l (S "I") (.int 1)))).set (n + 13) (.list [entV (a + 1) r]))) :
    Ca (mkC b) (d + 12) (ref 512) [.loc (n + 10), .int (a : Nat), forV r] σ Q :=
  Ca_def C (fn_512 C) rfl (Ca_def C (fn_526 C) rfl (k_doFor C H P1 P2 hr hz hm hmz h0 h1))
theorem k_nextRow (C : CxK (mkC b)) {a : Nat} {v : Int} {pv : V} (H : RunAt σ n rows lp l L) (P : PileAt σ n pv [entV k r]) (hI : getK l (S "I") = some (.int v)) (hv : small (v + 1)) (hz : l.length ≤ 9000)
    (h1 : (r : Int) < v + 1 → Q (.int ((a + 1 : Nat) : Nat)) (nxt σ n l (v + 1) [])) (h2 : ¬ (r : Int) < v + 1 → Q (.int (k : Nat)) (nxt σ n l (v + 1) [entV k r])) : Ca (mkC b) (d + 9) (ref 512) [.loc (n + 10), .int (a : Nat), nextV] σ Q :=
  Ca_def C (fn_512 C) rfl (Ca_def C (fn_526 C) rfl (Ca_lenF (Nat.zero_le _) (W_ListF C (k_nextFrom1 C H P hI hv hz h1 h2))))
end
end
end Mine
end
section
open PySem PySem.W PySem.Calls PyProof.Rows
set_option maxRecDepth 100000
set_option maxHeartbeats 4000000
set_option linter.unusedVariables false
namespace Mine
section
variable {b : CB}
inductive Md where
  | fresh | on (k r : Nat) | off
noncomputable def PileIs (σ : St) (n : Nat) : Md → Prop
  | .fresh => σ[n + 11]? = some (.attrs (ctlA (.loc (n + 13)))) ∧ σ[n + 13]? = some (.list [])
  | .on k r => ∃ pv, PileAt σ n pv [entV k r]
  | .off => True
theorem PileIs.miss {σ : St} {n k : Nat} {M : Md} {o' : SO} (H : PileIs σ n M) (h11 : Nat.beq k 11 = false) (h13 : Nat.beq k 13 = false) : PileIs (σ.set (n + k) o') n M := by
  cases M with
  | fresh => exact ⟨set_miss (neK h11) H.1, set_miss (neK h13) H.2⟩
  | on k r => obtain ⟨pv, P⟩ := H; exact ⟨pv, P.miss h11 h13⟩
  | off => trivial
inductive Turn (rows : List V) (a m : Nat) (C : Nat → Env0 → List V → Md → Prop) (k : Nat) (l : Env0) (L : List V) : Md → Prop
  | set {M : Md} {ln : Int} {x : Str} {e : T} : rows[k]? = some (row ln (letV x e)) → okR l e → cost e ≤ 1500 → C (k + 1) (putK l x (.int (evR l e))) L M → Turn rows a m C k l L M
  | rem {c : Nat} {M : Md} {ln : Int} : rows[k]? = some (row ln (remV c)) → C (k + 1) l (L ++ [.tup [.int c, (getK l (S "X")).getD (.int 0)]]) M → Turn rows a m C k l L M
  | ifn {j : Nat} {M : Md} {ln : Int} {t : T} : rows[k]? = some (row ln (ifnV t j)) → okR l t → cost t ≤ 1500 → C (if evR l t = 0 then j else k + 1) l L M → Turn rows a m C k l L M
  | jmp {j : Nat} {M : Md} {ln : Int} : rows[k]? = some (row ln (jmpV j)) → C j l L M → Turn rows a m C k l L M
  | for_ {r : Nat} {ln ln₂ : Int} : k = a → rows[k]? = some (row ln (forV r)) → rows[m]? = some (row ln₂ nextV) → r ≤ 2 → C (if r = 0 then m + 1 else a + 1) (putK l (S "I") (.int 1)) L (if r = 0 then .fresh else .on (a + 1) r) → Turn rows a m C k l L .fresh
  | next {p r : Nat} {ln v : Int} : rows[k]? = some (row ln nextV) → getK l (S "I") = some (.int v) → small (v + 1) → C (if (r : Int) < v + 1 then k + 1 else p) (putK l (S "I") (.int (v + 1))) L (if (r : Int) < v + 1 then .off else .on p r) → Turn rows a m C k l L (.on p r)
noncomputable def Run (rows : List V) (a m : Nat) (l' : Env0) (L' : List V) : Nat → Nat → Env0 → List V → Md → Prop
  | 0, k, l, L, _ => k = rows.length ∧ l = l' ∧ L = L'
  | n + 1, k, l, L, M => (k = rows.length ∧ l = l' ∧ L = L') ∨ Turn rows a m (Run rows a m l' L' n) k l L M
section
variable {rows : List V} {a m n k : Nat} {l l' : Env0} {L L' : List V} {M : Md}
theorem Run.done (h : k = rows.length) : Run rows a m l' L' n k l' L' M := by
  cases n with
  | zero => exact ⟨h, rfl, rfl⟩
  | succ n => exact .inl ⟨h, rfl, rfl⟩
theorem Run.set {ln : Int} {x : Str} {e : T} (h1 : rows[k]? = some (row ln (letV x e))) (h2 : okR l e) (h3 : cost e ≤ 1500) (h : Run rows a m l' L' n (k + 1) (putK l x (.int (evR l e))) L M) : Run rows a m l' L' (n + 1) k l L M := .inr (.set h1 h2 h3 h)
theorem Run.rem {c : Nat} {ln : Int} (h1 : rows[k]? = some (row ln (remV c))) (h : Run rows a m l' L' n (k + 1) l (L ++ [.tup [.int c, (getK l (S "X")).getD (.int 0)]]) M) : Run rows a m l' L' (n + 1) k l L M := .inr (.rem h1 h)
theorem Run.ifn {j : Nat} {ln : Int} {t : T} (h1 : rows[k]? = some (row ln (ifnV t j))) (h2 : okR l t) (h3 : cost t ≤ 1500) (h : Run rows a m l' L' n (if evR l t = 0 then j else k + 1) l L M) : Run rows a m l' L' (n + 1) k l L M := .inr (.ifn h1 h2 h3 h)
theorem Run.jmp {j : Nat} {ln : Int} (h1 : rows[k]? = some (row ln (jmpV j))) (h : Run rows a m l' L' n j l L M) : Run rows a m l' L' (n + 1) k l L M := .inr (.jmp h1 h)
theorem Run.for_ {r : Nat} {ln ln₂ : Int} (h1 : rows[a]? = some (row ln (forV r))) (h2 : rows[m]? = some (row ln₂ nextV)) (h3 : r ≤ 2) (h : Run rows a m l' L' n (if r = 0 then m + 1 else a + 1) (putK l (S "I") (.int 1)) L (if r = 0 then .fresh else .on (a + 1) r)) : Run rows a m l' L' (n + 1) a l L .fresh := .inr (.for_ rfl h1 h2 h3 h)
theorem Run.next {p r : Nat} {ln v : Int} (h1 : rows[k]? = some (row ln nextV)) (h2 : getK l (S "I") = some (.int v)) (h3 : small (v + 1)) (h : Run rows a m l' L' n (if (r : Int) < v + 1 then k + 1 else p) (putK l (S "I") (.int (v + 1))) L (if (r : Int) < v + 1 then .off else .on p r)) : Run rows a m l' L' (n + 1) k l L (.on p r) := .inr (.next h1 h2 h3 h)
end
theorem lt_ofL {L : List V} {k : Nat} {v : V} (h : L[k]? = some v) : k < L.length := (List.getElem?_eq_some_iff.mp h).1
theorem Turn.lt {rows : List V} {a m k : Nat} {C : Nat → Env0 → List V → Md → Prop} {l : Env0} {L : List V} {M : Md} (h : Turn rows a m C k l L M) : k < rows.length := by
  cases h with
  | set e => exact lt_ofL e
  | rem e => exact lt_ofL e
  | ifn e => exact lt_ofL e
  | jmp e => exact lt_ofL e
  | for_ _ e => exact lt_ofL e
  | next e => exact lt_ofL e
theorem add_succ_le {a b c n : Nat} (h : a ≤ b + 1) (h2 : b + (c + 1) ≤ n) : a + c ≤ n := Nat.le_trans (Nat.add_le_add_right h c) (Nat.le_trans (Nat.le_of_eq (Nat.succ_add_eq_add_succ b c)) h2)
noncomputable def Old (σ σ₁ : St) (n : Nat) : Prop := ∀ i o, i < n → σ[i]? = some o → σ₁[i]? = some o
theorem Old.set {σ σ₁ : St} {n k : Nat} {o' : SO} (h : Old σ σ₁ n) : Old σ (σ₁.set (n + k) o') n := fun i o hi e => set_miss (Ne.symm (Nat.ne_of_lt (Nat.lt_of_lt_of_le hi (Nat.le_add_right n k)))) (h i o hi e)
theorem k_go (C : CxK (mkC b)) {n a m : Nat} {rows : List V} {l l' : Env0} {L L' : List V} {d : Nat} {σ : St} {Q : Post} (hz : rows.length ≤ 200) (hzl : l.length ≤ 100) (hzL : L.length ≤ 100) (H : RunAt σ n rows (loopD a m) l L) (P : PileIs σ n .fresh) (hr : Run rows a m l' L' 90 0 l L .fresh)
    (hq : ∀ σ' : St, RunAt σ' n rows (loopD a m) l' L' → Old σ σ' n → Q (.int rows.length) σ') : Ca (mkC b) (d + 13) (ref 596) [.loc (n + 10), .int 0, .int 90] σ Q := by
  refine Ca_def C (fn_596 C) rfl ?_
  refine W_For C ["self", "at"] (Ic_range (n := 90) (Nat.le_of_ble_eq_true rfl) ?_)
  have hrl : ∀ L' : List V, L'.length ≤ 200 → L'.length ≤ 100000 := fun _ h => Nat.le_trans h (Nat.le_of_ble_eq_true rfl)
  refine (?_ : ∀ (vs : List V) (k : Nat) (l : Env0) (L : List V) (M : Md) (σ₁ : St), l.length + vs.length ≤ 190 → L.length + vs.length ≤ 190 → RunAt σ₁ n rows (loopD a m) l L → PileIs σ₁ n M → Run rows a m l' L' vs.length k l L M → Old σ σ₁ n → kLOOPS _ _ _ _ _ _ _ _ vs [(S "self", .loc (n + 10)), (S "at", .int (k : Nat))] σ₁) _ 0 l L .fresh σ
    (by rw [List.length_map, List.length_range]; exact leS hzl 90 (Nat.le_of_ble_eq_true rfl)) (by rw [List.length_map, List.length_range]; exact leS hzL 90 (Nat.le_of_ble_eq_true rfl)) H P (by rw [List.length_map, List.length_range]; exact hr) (fun _ _ _ e => e)
  clear hr H P hzl hzL
  clear l L
  intro vs
  induction vs with
  | nil =>
    intro k l L M σ₁ b1 b2 H P hr ho
    refine At_flat C H ?_
    refine At_rows C H.flat ?_
    refine Ca_len H.flat.rows (hrl _ hz) ?_
    obtain ⟨rfl, rfl, rfl⟩ := hr
    exact br_dT (Int.le_refl _) (hq σ₁ H ho)
  | cons v vs ih =>
    intro k l L M σ₁ b1 b2 H P hr ho
    refine At_flat C H ?_
    refine At_rows C H.flat ?_
    refine Ca_len H.flat.rows (hrl _ hz) ?_
    rcases hr with ⟨rfl, rfl, rfl⟩ | hr
    · exact br_dT (Int.le_refl _) (hq σ₁ H ho)
    have hk := hr.lt
    refine br_dF (Int.not_le.mpr (Int.ofNat_lt.mpr hk)) ?_
    refine At_flat C H ?_
    refine At_rows C H.flat ?_
    have hi : ∀ {k : Nat} {u : V}, rows[k]? = some u → rows[(k : Int).toNat]? = some u := fun e => by rw [Int.toNat_natCast]; exact e
    have hkz : (k : Int) < 2 ^ 63 := cast_lt (Nat.le_trans (Nat.le_of_lt hk) hz) (by decide)
    have hlz : l.length ≤ 9000 := Nat.le_trans (Nat.le_of_add_right_le b1) (Nat.le_of_ble_eq_true rfl)
    have hLz : L.length ≤ 10000 := Nat.le_trans (Nat.le_of_add_right_le b2) (Nat.le_of_ble_eq_true rfl)
    have b1' : l.length + vs.length ≤ 190 := Nat.le_of_succ_le b1
    have b2' : L.length + vs.length ≤ 190 := Nat.le_of_succ_le b2
    cases hr with
    | set e ho' hc hr' =>
      refine Gi_loc H.flat.rows (Int.natCast_nonneg _) (hi e) ?_ hkz
      refine Gm_store C H ?_
      refine Gm_worth C H ?_
      refine KCa_fn (fn_561 C) (k_rworth C H ho' hc ?_)
      refine KCa_fn (fn_582 C) (k_rstore C H hlz ?_)
      refine ⟨_, rfl, _, rfl, trivial, ?_⟩
      exact ih (k + 1) _ L M _ (add_succ_le (putK_le _ _ _) b1) b2' H.setD (P.miss rfl rfl) hr' ho.set
    | rem e hr' =>
      refine Gi_loc H.flat.rows (Int.natCast_nonneg _) (hi e) ?_ hkz
      refine At_notes C H ?_
      refine Gm_append H.notes ?_
      refine Gm_von C H ?_
      refine KCa_fn (fn_575 C) (k_rvon C H ?_)
      refine KCa_append H.notes hLz ?_
      refine ⟨_, rfl, _, rfl, trivial, ?_⟩
      exact ih (k + 1) l _ M _ b1' (add_succ_le (Nat.le_of_eq List.length_append) b2) H.setN (P.miss rfl rfl) hr' ho.set
    | ifn e ho' hc hr' =>
      refine Gi_loc H.flat.rows (Int.natCast_nonneg _) (hi e) ?_ hkz
      exact k_ifn C H ho' hc ⟨trivial, ih _ l L M _ b1' b2' H P hr' ho⟩
    | jmp e hr' =>
      refine Gi_loc H.flat.rows (Int.natCast_nonneg _) (hi e) ?_ hkz
      exact k_jmp C ⟨trivial, ih _ l L M _ b1' b2' H P hr' ho⟩
    | @for_ r ln ln₂ ha e em hr2 hr' =>
      subst ha
      refine Gi_loc H.flat.rows (Int.natCast_nonneg _) (hi e) ?_ hkz
      have bl : (putK l (S "I") (.int 1)).length + vs.length ≤ 190 := add_succ_le (putK_le _ _ _) b1
      refine k_forRow C H P.1 P.2 hr2 hlz em (Nat.le_trans (Nat.le_of_lt (lt_ofL em)) (Nat.le_trans hz (Nat.le_of_ble_eq_true rfl))) (fun h0 => ⟨trivial, ?_⟩) fun h0 => ⟨trivial, ?_⟩
      · rw [if_pos h0, if_pos h0] at hr'
        exact ih (m + 1) _ L .fresh _ bl b2' H.setD (P.miss rfl rfl) hr' ho.set
      · rw [if_neg h0, if_neg h0] at hr'
        refine ih (k + 1) _ L (.on (k + 1) r) _ bl b2' H.setD.setP ⟨_, set_miss (neK rfl) (set_miss (neK rfl) P.1), .inr ⟨rfl, set_hit (set_miss (neK rfl) P.2)⟩⟩ hr' ho.set.set
    | @next p r ln v e hI hv hr' =>
      obtain ⟨pv, P⟩ := P
      refine Gi_loc H.flat.rows (Int.natCast_nonneg _) (hi e) ?_ hkz
      have bl : (putK l (S "I") (.int (v + 1))).length + vs.length ≤ 190 := add_succ_le (putK_le _ _ _) b1
      refine k_nextRow C H P hI hv hlz (fun h0 => ⟨trivial, ?_⟩) fun h0 => ⟨trivial, ?_⟩
      · rw [if_pos h0, if_pos h0] at hr'
        exact ih (k + 1) _ L .off _ bl b2' H.nxt trivial hr' fun i o hi e => nxt_old H hi (ho i o hi e)
      · rw [if_neg h0, if_neg h0] at hr'
        exact ih p _ L (.on p r) _ bl b2' H.nxt ⟨_, P.nxt H⟩ hr' fun i o hi e => nxt_old H hi (ho i o hi e)
end
end Mine
end
section
open PySem PySem.W PySem.Calls PyProof.Rows
set_option maxRecDepth 100000
set_option maxHeartbeats 4000000
set_option linter.unusedVariables false
namespace Mine
section
variable {b : CB}
noncomputable def ctlO (n : Nat) : St := [.attrs (ctlA (.loc (n + 2))), .inst 307 n, .list []]
theorem k_Control (C : CxK (mkC b)) {d : Nat} {σ : St} {Q : Post} (h : Q (.loc (σ.length + 1)) (σ ++ ctlO σ.length)) : Ca (mkC b) (d + 2) (ref 307) [.int 20] σ Q := by
  refine Ca_make C (f := 304) (by kernel_rfl) (by kernel_rfl) (by kernel_rfl) (fn_304 C) rfl ?_
  refine W_list0 C rfl ?_
  refine Sa_new ⟨by kernel_rfl, by kernel_rfl, by kernel_rfl, by kernel_rfl⟩ rfl rfl rfl ?_
  refine Sa_new ⟨by kernel_rfl, by kernel_rfl, by kernel_rfl, by kernel_rfl⟩ rfl rfl rfl ⟨_, rfl, ?_⟩
  exact Sa_new ⟨by kernel_rfl, by kernel_rfl, by kernel_rfl, by kernel_rfl⟩ rfl rfl rfl ⟨rfl, h⟩
theorem k_ControlT (C : CxK (mkC b)) {d : Nat} {σ t : St} {k : Nat} {Q : Post} (hk : t.length = k) (h : Q (.loc (σ.length + k + 1)) (σ ++ (t ++ ctlO (σ.length + k)))) : Ca (mkC b) (d + 2) (ref 307) [.int 20] (σ ++ t) Q :=
  k_Control C (by rw [List.length_append, hk, List.append_assoc]; exact h)
noncomputable def runA' (f va co no : Nat) : List (Str × V) := [(S "flat", .loc f), (S "values", .loc va), (S "worth_of", ref 793), (S "bits", .int 32), (S "digits", .int 9), (S "control", .loc co), (S "notes", .loc no)]
noncomputable def runO (n f va : Nat) : St := [.attrs (runA' f va (n + 3) (n + 5)), .inst 599 n, .attrs (ctlA (.loc (n + 4))), .inst 307 (n + 2), .list [], .list []]
theorem k_run (C : CxK (mkC b)) {f va : Nat} {d : Nat} {σ : St} {Q : Post} (h : Q (.loc (σ.length + 1)) (σ ++ runO σ.length f va)) : Ca (mkC b) (d + 4) (ref 599) [.loc f, .loc va, ref 793, .int 32, .int 9] σ Q := by
  refine Ca_make C (f := 554) (by kernel_rfl) (by kernel_rfl) (by kernel_rfl) (fn_554 C) rfl ?_
  refine Sa_new ⟨by kernel_rfl, by kernel_rfl, by kernel_rfl, by kernel_rfl⟩ rfl rfl rfl ?_
  refine Sa_new ⟨by kernel_rfl, by kernel_rfl, by kernel_rfl, by kernel_rfl⟩ rfl rfl rfl ?_
  refine Sa_new ⟨by kernel_rfl, by kernel_rfl, by kernel_rfl, by kernel_rfl⟩ rfl rfl rfl ?_
  refine Sa_new ⟨by kernel_rfl, by kernel_rfl, by kernel_rfl, by kernel_rfl⟩ rfl rfl rfl ?_
  refine Sa_new ⟨by kernel_rfl, by kernel_rfl, by kernel_rfl, by kernel_rfl⟩ rfl rfl rfl ?_
  refine k_ControlT C rfl ?_
  refine Sa_new ⟨by kernel_rfl, by kernel_rfl, by kernel_rfl, by kernel_rfl⟩ rfl rfl rfl ?_
  refine W_list0 C rfl ?_
  exact Sa_new ⟨by kernel_rfl, by kernel_rfl, by kernel_rfl, by kernel_rfl⟩ rfl rfl rfl ⟨rfl, h⟩
theorem wC4 {F : Rec} {sc : Sc} {elt : Expr} {x : Str} {K : St → Prop} {T : List V → St → Prop} {a b c e ua ub uc ue : V} {ρ : Vars} {σ : St} (hK : ∀ σ', K σ') (e1 : ∀ Q : Post, Q ua (σ ++ [.list []]) → (F sc).E elt (put ρ x a) (σ ++ [.list []]) Q)
    (e2 : ∀ Q : Post, Q ub (σ ++ [.list [ua]]) → (F sc).E elt (put ρ x b) (σ ++ [.list [ua]]) Q) (e3 : ∀ Q : Post, Q uc (σ ++ [.list [ua, ub]]) → (F sc).E elt (put ρ x c) (σ ++ [.list [ua, ub]]) Q) (e4 : ∀ Q : Post, Q ue (σ ++ [.list [ua, ub, uc]]) → (F sc).E elt (put ρ x e) (σ ++ [.list [ua, ub, uc]]) Q)
    (h : T [ua, ub, uc, ue] (σ ++ [.list [ua, ub, uc, ue]])) : wCOMPS F sc elt x K σ.length T [a, b, c, e] [] ρ (σ ++ [.list []]) := by
  refine e1 _ ⟨app_0, Nat.le_of_ble_eq_true rfl, hK _, ?_⟩
  rw [setLast]
  show (F sc).E elt (put (put ρ x a) x b) _ _
  rw [put_put]
  refine e2 _ ⟨app_0, Nat.le_of_ble_eq_true rfl, hK _, ?_⟩
  rw [setLast]
  show (F sc).E elt (put (put ρ x b) x c) _ _
  rw [put_put]
  refine e3 _ ⟨app_0, Nat.le_of_ble_eq_true rfl, hK _, ?_⟩
  rw [setLast]
  show (F sc).E elt (put (put ρ x c) x e) _ _
  rw [put_put]
  refine e4 _ ⟨app_0, Nat.le_of_ble_eq_true rfl, hK _, ?_⟩
  rw [setLast]
  exact ⟨app_0, h⟩
noncomputable def four (l : Env0) : List V := [.int (look l (S "A")), .int (look l (S "B")), .int (look l (S "C")), .int (look l (S "D"))]
theorem k_lawRun (C : CxK (mkC b)) {xs : List Ln} {A B E : List V} {ln₁ ln₂ : Int} {r v : Nat} {l l' : Env0} {L' : List V} {d : Nat} {σ : St} {Q : Post} (hv : σ[v]? = some (.dictS l)) (hl : l.length ≤ 100) (hl' : has l') (hne : ∀ x ∈ xs, x.its ≠ []) (hz : itsN xs ≤ 50) (hzx : xs.length ≤ 20)
    (hrw : rowsAll xs [] = loopRows A B E ln₁ ln₂ r) (hA : ∀ v ∈ A, quiet v) (hB' : ∀ v ∈ B, quiet v) (hE : ∀ v ∈ E, quiet v) (hrl : (loopRows A B E ln₁ ln₂ r).length ≤ 200)
    (hr : Run (loopRows A B E ln₁ ln₂ r) A.length (A.length + 1 + B.length) l' L' 90 0 l [] .fresh)
    (h : ∀ σ' p q, Old σ σ' σ.length → σ'[p]? = some (.list L') → σ'[q]? = some (.list (four l')) → Q (.tup [.loc p, .loc q]) σ') : Ca (mkC b) (d + 14) (ref 798) [.lst (xs.map Ln.v), .loc v] σ Q := by
  refine Ca_def C (fn_798 C) rfl ?_
  refine k_flatten C hne hz hzx hrw hA hB' hE fun D => ?_
  refine Ca_dictD (app_l hv) (Nat.le_trans hl (Nat.le_of_ble_eq_true rfl)) ?_
  refine k_run C ?_
  have el : (σ ++ flatS σ.length (loopRows A B E ln₁ ln₂ r) D (loopD A.length (A.length + 1 + B.length)) ++ [SO.dictS l]).length = σ.length + 9 := by rw [List.append_assoc]; exact List.length_append
  have el' : (σ ++ flatS σ.length (loopRows A B E ln₁ ln₂ r) D (loopD A.length (A.length + 1 + B.length))).length = σ.length + 8 := List.length_append
  rw [el, el', List.append_assoc, List.append_assoc]
  have H : RunAt (σ ++ (flatS σ.length (loopRows A B E ln₁ ln₂ r) D (loopD A.length (A.length + 1 + B.length)) ++ ([SO.dictS l] ++ runO (σ.length + 9) (σ.length + 1) (σ.length + 8)))) σ.length (loopRows A B E ln₁ ln₂ r) (loopD A.length (A.length + 1 + B.length)) l [] :=
    ⟨flatAt _ _ _ _ _, app_k rfl, app_k rfl, app_k rfl, app_k rfl, app_k rfl, app_k rfl⟩
  have P : PileIs (σ ++ (flatS σ.length (loopRows A B E ln₁ ln₂ r) D (loopD A.length (A.length + 1 + B.length)) ++ ([SO.dictS l] ++ runO (σ.length + 9) (σ.length + 1) (σ.length + 8)))) σ.length .fresh := ⟨app_k rfl, app_k rfl⟩
  have O : Old σ (σ ++ (flatS σ.length (loopRows A B E ln₁ ln₂ r) D (loopD A.length (A.length + 1 + B.length)) ++ ([SO.dictS l] ++ runO (σ.length + 9) (σ.length + 1) (σ.length + 8)))) σ.length := fun i o _ e => app_l e
  generalize σ ++ (flatS σ.length (loopRows A B E ln₁ ln₂ r) D (loopD A.length (A.length + 1 + B.length)) ++ ([SO.dictS l] ++ runO (σ.length + 9) (σ.length + 1) (σ.length + 8))) = τ at *
  refine Gm_inst C H.inst H.attrs rfl (mok (f := 596) (by kernel_rfl)) ?_
  refine KCa_fn (fn_596 C) (k_go C hrl hl (Nat.zero_le _) H P hr fun σ' H' O' => ?_)
  refine At_flat C H' ?_
  refine At_rows C H'.flat ?_
  refine Ca_len H'.flat.rows (Nat.le_trans hrl (Nat.le_of_ble_eq_true rfl)) ?_
  refine br_F (by rw [decide_eq_true rfl]; rfl) ?_
  refine At_notes C H' ?_
  refine Iv_str (by decide +kernel) ⟨trivial, ?_⟩
  have hA : ∀ o : SO, RunAt (σ' ++ [o]) σ.length (loopRows A B E ln₁ ln₂ r) (loopD A.length (A.length + 1 + B.length)) l' L' := fun o => H'.app _
  refine wC4 (ua := .int (look l' (S "A"))) (ub := .int (look l' (S "B"))) (uc := .int (look l' (S "C"))) (ue := .int (look l' (S "D"))) (fun _ => trivial) (fun Q q => At_values C (hA _) (Gi_dictS (hA _).dict (hl' _ mA) q)) (fun Q q => At_values C (hA _) (Gi_dictS (hA _).dict (hl' _ mB) q))
    (fun Q q => At_values C (hA _) (Gi_dictS (hA _).dict (hl' _ mC) q)) (fun Q q => At_values C (hA _) (Gi_dictS (hA _).dict (hl' _ mD) q)) ?_
  exact h _ _ _ (fun i o hi e => app_l (O' i o hi (O i o hi e))) (hA _).notes app_0
end
end Mine
end
section
open PySem PySem.W PySem.Calls PyProof.Rows
set_option maxRecDepth 100000
set_option maxHeartbeats 4000000
set_option linter.unusedVariables false
namespace Mine
section
variable {b : CB}
noncomputable def noted (ns : List Str) : List It := [.lt (S "X") (.seen ns), .rem ns.length]
theorem k_noted (C : CxK (mkC b)) {ns : List Str} {d : Nat} {σ : St} {Q : Post} (hz : ns.length ≤ 100) (h : Q (.lst ((noted ns).map It.v)) σ) : Ca (mkC b) (d + 1) (ref 779) [.lst (ns.map .str)] σ Q := by
  refine Ca_def C (fn_779 C) rfl ?_
  refine W_ListF C ?_
  refine Ca_lenF (by rw [List.length_map]; exact Nat.le_trans hz (Nat.le_of_ble_eq_true rfl)) ?_
  rw [List.length_map]; exact h
inductive KeptIs (σ : St) (f : Nat → Bool) : V → Prop
  | rng {n : Nat} : σ[n]? = some (.rng 5) → (∀ i, i < 5 → f i = true) → KeptIs σ f (.loc n)
  | list {n : Nat} {ks : List Int} : σ[n]? = some (.list (ks.map .int)) → (∀ i, i < 5 → f i = decide ((i : Int) ∈ ks)) → KeptIs σ f (.loc n)
theorem Cm_kept {c : Cx} {d : Nat} {σ : St} {Q : Post} {f : Nat → Bool} {kv : V} {i : Nat} (H : KeptIs σ f kv) (hi : i < 5) (h : Q (.bool (f i)) σ) : Cm c d .In (.int (i : Nat)) kv σ Q := by
  cases H with
  | rng hn hf =>
    refine Cm_inR hn ?_
    rw [decide_eq_true ⟨Int.natCast_nonneg i, Int.ofNat_lt.mpr hi⟩, ← hf i hi]; exact h
  | list hn hf =>
    refine Cm_inI (.inr ⟨_, rfl, .inl hn⟩) ?_
    rw [← hf i hi]; exact h
theorem KeptIs.app {σ t : St} {f : Nat → Bool} {kv : V} (H : KeptIs σ f kv) : KeptIs (σ ++ t) f kv := by
  cases H with
  | rng hn hf => exact .rng (app_l hn) hf
  | list hn hf => exact .list (app_l hn) hf
theorem KeptIs.set {σ : St} {f : Nat → Bool} {kv : V} {a : Nat} {o o' : SO} {l : List V} {s : P} (ha : σ[a]? = some (.list (s.v :: l))) (H : KeptIs σ f kv) : KeptIs (σ.set a o') f kv := by
  have nv : ∀ i : Int, s.v ≠ .int i := fun i => by cases s <;> exact nofun
  cases H with
  | rng hn hf => exact .rng (set_miss (ne_of_kind ha hn nofun) hn) hf
  | list hn hf =>
    refine .list (set_miss (ne_of_kind ha hn fun e => ?_) hn) hf
    rename_i ks
    have e := SO.list.inj e
    cases ks with
    | nil => cases e
    | cons k ks => exact nv k (List.cons.inj e).1
noncomputable def lnsB : List Stmt := hB (hst 107)
noncomputable def forB (s : Option Stmt) : List Stmt := match s with | some (Stmt.For _ _ body _ _) => body | _ => []
noncomputable def lb : List Stmt := forB (lnsB[1]? : Option Stmt)
noncomputable def lnsSc : Sc := ⟨(fdOf o786).scope, (fdOf o786).code⟩
noncomputable def lnP (kv : V) (nd q r : Nat) (nm : Str) : Vars := [(S "kept", kv), (S "needs", .loc nd), (S "rounds", .int (r : Nat)), (S "name", .str nm), (S "lines", .loc q)]
noncomputable def lnP1 (kv : V) (nd q r : Nat) (nm : Str) (i : Nat) (sv : V) : Vars := [(S "kept", kv), (S "needs", .loc nd), (S "rounds", .int (r : Nat)), (S "name", .str nm), (S "lines", .loc q), (S "at", .int (i : Nat)), (S "statement", sv)]
noncomputable def lnP2 (kv : V) (nd q r : Nat) (nm : Str) (i : Nat) (sv rv : V) : Vars := [(S "kept", kv), (S "needs", .loc nd), (S "rounds", .int (r : Nat)), (S "name", .str nm), (S "lines", .loc q), (S "at", .int (i : Nat)), (S "statement", sv), (S "row", rv)]
noncomputable def ch (k : Bool) (n : Option (List Str)) (s : P) : List It := match k with
  | true => (match n with | some ns => noted ns | none => []) ++ [.st s]
  | false => []
noncomputable def put1 (i : Nat) (its : List It) (L : List Ln) : List Ln := match its with
  | [] => L
  | _ => L ++ [⟨10 * (i : Int) + 10, its⟩]
noncomputable def put2 (i : Nat) (L : List Ln) : List Ln := if i = 3 then L ++ [⟨45, [.next]⟩] else L
theorem ss_nil {c : Cx} {d n : Nat} {sc : Sc} {ρ : Vars} {σ : St} {R : Fl → Vars → St → Prop} (h : R .next ρ σ) : ((wp c d (n + 1)) sc).Ss [] ρ σ R := h
section
variable {kv : V} {nd r : Nat} {nm : Str} {i : Nat} {sv : V} {L : List Ln} {τ : St} {R : Fl → Vars → St → Prop} {f : Nat → Bool} {d : Nat}
theorem lnsB4 (C : CxK (mkC b)) {rv : V} (hL : L.length ≤ 9000) (h : R .next (lnP2 kv nd τ.length r nm i sv rv) (τ ++ [.list ((put2 i L).map Ln.v)])) :
    ((wp (mkC b) (d + 1) 37) lnsSc).Ss (lb.drop 3) (lnP2 kv nd τ.length r nm i sv rv) (τ ++ [.list (L.map Ln.v)]) R := by
  by_cases h3 : i = 3
  · refine br_dT (show (i : Int) = 3 from congrArg _ h3) ?_
    refine Gm_append app_0 ?_
    refine W_ListF C ?_
    refine W_ListF C ?_
    refine KCa_append app_0 (by rw [List.length_map]; exact Nat.le_trans hL (Nat.le_of_ble_eq_true rfl)) ?_
    rw [setLast]
    rw [show put2 i L = L ++ [⟨45, [.next]⟩] from if_pos h3, List.map_append] at h
    exact h
  · refine br_dF (fun e => h3 (Int.ofNat.inj e)) ?_
    rw [show put2 i L = L from if_neg h3] at h
    exact h
theorem lnsB3 (C : CxK (mkC b)) {its : List It} (hi : i < 5) (hL : L.length ≤ 8000) (h : R .next (lnP2 kv nd τ.length r nm i sv (.lst (its.map It.v))) (τ ++ [.list ((put2 i (put1 i its L)).map Ln.v)])) :
    ((wp (mkC b) (d + 1) 38) lnsSc).Ss (lb.drop 2) (lnP2 kv nd τ.length r nm i sv (.lst (its.map It.v))) (τ ++ [.list (L.map Ln.v)]) R := by
  refine W_ListF C ?_
  refine Cm_neNil (.inl rfl) ?_
  by_cases he : its = []
  · refine br_F (by rw [he]; rfl) ?_
    refine ss_nil ?_
    exact lnsB4 C (Nat.le_trans hL (Nat.le_of_ble_eq_true rfl)) (by rw [he] at h ⊢; exact h)
  · have hn : ∀ l : List It, l ≠ [] → (l.map It.v).isEmpty = false ∧ put1 i l L = L ++ [⟨10 * (i : Int) + 10, l⟩] := fun l hl => by
      cases l with
      | nil => exact (hl rfl).elim
      | cons x l => exact ⟨rfl, rfl⟩
    obtain ⟨h1, h2⟩ := hn its he
    refine br_T (by rw [h1]; rfl) ?_
    refine Gm_append app_0 ?_
    refine Bi_mul (PySem.IntMulOk.of_left (PySem.intBits_le_64 (by decide) (by decide))) ?_
    refine KCa_append app_0 (by rw [List.length_map]; exact Nat.le_trans hL (Nat.le_of_ble_eq_true rfl)) ?_
    refine ss_nil ?_
    rw [setLast]
    have := lnsB4 (d := d) (kv := kv) (nd := nd) (r := r) (nm := nm) (sv := sv) C (rv := .lst (its.map It.v)) (L := put1 i its L) (by rw [h2, List.length_append]; exact Nat.le_trans (Nat.succ_le_succ hL) (Nat.le_of_ble_eq_true rfl)) h
    rw [h2, List.map_append] at this
    exact this
end
end
end Mine
end
section
open PySem PySem.W PySem.Calls PyProof.Rows
set_option maxRecDepth 100000
set_option maxHeartbeats 4000000
set_option linter.unusedVariables false
namespace Mine
section
variable {b : CB}
section
variable {kv : V} {nd r : Nat} {nm : Str} {i : Nat} {L : List Ln} {τ : St} {R : Fl → Vars → St → Prop} {f : Nat → Bool} {d : Nat} {nl : List V} {o : Option (List Str)} {s : P}
theorem map2 (r0 n : List It) (s : P) : (r0.map It.v ++ n.map It.v) ++ [s.v] = (r0 ++ (n ++ [It.st s])).map It.v := by
  rw [← List.append_assoc, List.map_append, List.map_append]; rfl
theorem lnsB2 (C : CxK (mkC b)) {r0 : List It} (hi : i < 5) (hL : L.length ≤ 8000) (H : KeptIs τ f kv) (hn : τ[nd]? = some (.list nl)) (ho : nl[i]? = some (optL o)) (hoz : ∀ ns, o = some ns → ns.length ≤ 100) (hr : r0.length ≤ 10)
    (h : ∀ rv, R .next (lnP2 kv nd τ.length r nm i s.v rv) (τ ++ [.list ((put2 i (put1 i (r0 ++ ch (f i) o s) L)).map Ln.v)])) :
    ((wp (mkC b) (d + 1) 39) lnsSc).Ss (lb.drop 1) (lnP2 kv nd τ.length r nm i s.v (.lst (r0.map It.v))) (τ ++ [.list (L.map Ln.v)]) R := by
  have ho' : nl[((i : Nat) : Int).toNat]? = some (optL o) := by rw [Int.toNat_natCast]; exact ho
  have hi63 : (i : Int) < 2 ^ 63 := cast_lt (Nat.le_of_lt hi) (by decide)
  refine Cm_kept H.app hi ?_
  rcases Bool.eq_false_or_eq_true (f i) with hf | hf
  case inr =>
    rw [hf] at h
    refine br_F hf ?_
    refine ss_nil ?_
    exact lnsB3 C (its := r0) hi hL (by have := h (.lst (r0.map It.v)); rw [show r0 ++ ch false o s = r0 from List.append_nil r0] at this; exact this)
  case inl =>
    rw [hf] at h
    refine br_T hf ?_
    refine Gi_loc (app_l hn) (Int.natCast_nonneg _) ho' ?_ hi63
    cases o with
    | none =>
      refine W_ListF C ?_
      refine Bi_addL (.inl rfl) (.inl rfl) (by rw [List.length_map]; exact Nat.le_trans hr (Nat.le_of_ble_eq_true rfl)) ?_
      refine W_ListF C ?_
      refine Bi_addL (.inl rfl) (.inl rfl) (by rw [List.length_append, List.length_map]; exact Nat.le_trans (Nat.add_le_add_right (Nat.add_le_add_right hr 0) 1) (Nat.le_of_ble_eq_true rfl)) ?_
      rw [show (r0.map It.v ++ []) ++ [s.v] = (r0 ++ ch true none s).map It.v from map2 r0 [] s]
      refine ss_nil ?_
      exact lnsB3 C (its := r0 ++ ch true none s) hi hL (h _)
    | some ns =>
      refine Gi_loc (app_l hn) (Int.natCast_nonneg _) ho' ?_ hi63
      refine k_noted C (hoz ns rfl) ?_
      refine Bi_addL (.inl rfl) (.inl rfl) (by rw [List.length_map]; exact Nat.le_trans (Nat.add_le_add_right hr _) (Nat.le_of_ble_eq_true rfl)) ?_
      refine W_ListF C ?_
      refine Bi_addL (.inl rfl) (.inl rfl) (by rw [List.length_append, List.length_map]; exact Nat.le_trans (Nat.add_le_add_right (Nat.add_le_add_right hr _) 1) (Nat.le_of_ble_eq_true rfl)) ?_
      rw [show (r0.map It.v ++ (noted ns).map It.v) ++ [s.v] = (r0 ++ ch true (some ns) s).map It.v from map2 r0 (noted ns) s]
      refine ss_nil ?_
      exact lnsB3 C (its := r0 ++ ch true (some ns) s) hi hL (h _)
theorem W_ListV {c : Cx} {sc : Sc} {d : Nat} {ρ : Vars} {σ : St} {Q : Post} (K : CxK c) {es : List Expr} {pos : Pos} (vs : List V) (hes : ∀ Q' : List V → St → Prop, Q' vs σ → ((wp c d 30) sc).Es es ρ σ Q') (hz : Nat.ble vs.length 1000 = true) (h : Q (.lst vs) σ) : Ev c sc d (.List es pos) ρ σ Q :=
  W_ListF K (hes _ (by rw [hz]; exact h))
noncomputable def for0 (i r : Nat) : List It := if i = 2 then [.for_ r] else []
theorem lnsB1 (C : CxK (mkC b)) (hi : i < 5) (hL : L.length ≤ 8000) (H : KeptIs τ f kv) (hn : τ[nd]? = some (.list nl)) (ho : nl[i]? = some (optL o)) (hoz : ∀ ns, o = some ns → ns.length ≤ 100)
    (h : ∀ rv, R .next (lnP2 kv nd τ.length r nm i s.v rv) (τ ++ [.list ((put2 i (put1 i (for0 i r ++ ch (f i) o s) L)).map Ln.v)])) :
    ((wp (mkC b) (d + 1) 40) lnsSc).Ss lb (lnP1 kv nd τ.length r nm i s.v) (τ ++ [.list (L.map Ln.v)]) R := by
  by_cases h2 : i = 2
  · refine br_dT (show (i : Int) = 2 from congrArg _ h2) ?_
    refine W_ListV C [forV r] (fun _ q => q) rfl ?_
    exact lnsB2 C (r0 := [.for_ r]) hi hL H hn ho hoz (Nat.le_of_ble_eq_true rfl) (by rw [show for0 i r = [.for_ r] from if_pos h2] at h; exact h)
  · refine br_dF (fun e => h2 (Int.ofNat.inj e)) ?_
    refine W_ListV C [] (fun _ q => q) rfl ?_
    exact lnsB2 C (r0 := []) hi hL H hn ho hoz (Nat.le_of_ble_eq_true rfl) (by rw [show for0 i r = [] from if_neg h2] at h; exact h)
end
end
end Mine
end
section
open PySem PySem.W PySem.Calls PyProof.Rows
set_option maxRecDepth 100000
set_option maxHeartbeats 4000000
set_option linter.unusedVariables false
namespace Mine
section
variable {b : CB}
noncomputable def lnStep (f : Nat → Bool) (r i : Nat) (s : P) (o : Option (List Str)) (L : List Ln) : List Ln := put2 i (put1 i (for0 i r ++ ch (f i) o s) L)
theorem lnStep_le (f : Nat → Bool) (r i : Nat) (s : P) (o : Option (List Str)) (L : List Ln) : (lnStep f r i s o L).length ≤ L.length + 2 := by
  have h1 : ∀ its, (put1 i its L).length ≤ L.length + 1 := fun its => by
    cases its with
    | nil => exact Nat.le_succ _
    | cons x its => exact Nat.le_of_eq List.length_append
  have h2 : ∀ M : List Ln, (put2 i M).length ≤ M.length + 1 := fun M => by
    unfold put2
    by_cases h : i = 3
    · rw [if_pos h]; exact Nat.le_of_eq List.length_append
    · rw [if_neg h]; exact Nat.le_succ _
  exact Nat.le_trans (h2 _) (Nat.succ_le_succ (h1 _))
noncomputable def linesOf (f : Nat → Bool) (r : Nat) (s0 s1 s2 s3 s4 : P) (n0 n1 n2 n3 n4 : Option (List Str)) (nm : Str) : List Ln :=
  lnStep f r 4 s4 n4 (lnStep f r 3 s3 n3 (lnStep f r 2 s2 n2 (lnStep f r 1 s1 n1 (lnStep f r 0 s0 n0 [])))) ++ [⟨60, noted [nm]⟩]
noncomputable def short (o : Option (List Str)) : Prop := ∀ ns, o = some ns → ns.length ≤ 100
theorem k_lines (C : CxK (mkC b)) {a nd r d : Nat} {kv : V} {f : Nat → Bool} {s0 s1 s2 s3 s4 : P} {n0 n1 n2 n3 n4 : Option (List Str)} {nm : Str} {σ : St} {Q : Post} (ha : σ[a]? = some (slV s0 s1 s2 s3 s4)) (hn : σ[nd]? = some (.list [optL n0, optL n1, optL n2, optL n3, optL n4])) (hna : a ≠ nd)
    (H : KeptIs σ f kv) (z0 : short n0) (z1 : short n1) (z2 : short n2) (z3 : short n3) (z4 : short n4) (h : ∀ g, Q (.lst ((linesOf f r s0 s1 s2 s3 s4 n0 n1 n2 n3 n4 nm).map Ln.v)) (σ ++ g)) : Ca (mkC b) (d + 2) (ref 786) [.loc a, kv, .loc nd, .int (r : Nat), .str nm] σ Q := by
  refine Ca_def C (fn_786 C) rfl ?_
  refine W_List C ?_
  refine Ex_fz (l := [s0.v, s1.v, s2.v, s3.v, s4.v]) (app_l ha) fun xs k => W_For C ["kept", "needs", "rounds", "name", "lines"] ?_
  have e1 : (σ ++ [SO.list []]).set a (.fz xs k [s0.v, s1.v, s2.v, s3.v, s4.v]) = σ.set a (.fz xs k [s0.v, s1.v, s2.v, s3.v, s4.v]) ++ [.list []] := List.set_append_left _ _ (lt_of ha)
  have el : (σ.set a (.fz xs k [s0.v, s1.v, s2.v, s3.v, s4.v])).length = σ.length := List.length_set
  have gf : (σ.set a (.fz xs k [s0.v, s1.v, s2.v, s3.v, s4.v]))[a]? = some (.fz xs k [s0.v, s1.v, s2.v, s3.v, s4.v]) := set_hit ha
  have gn : (σ.set a (.fz xs k [s0.v, s1.v, s2.v, s3.v, s4.v]))[nd]? = some (.list [optL n0, optL n1, optL n2, optL n3, optL n4]) := set_miss hna hn
  have gk : KeptIs (σ.set a (.fz xs k [s0.v, s1.v, s2.v, s3.v, s4.v])) f kv := KeptIs.set (o := .rng 0) ha H
  have back : (σ.set a (.fz xs k [s0.v, s1.v, s2.v, s3.v, s4.v])).set a (.list [s0.v, s1.v, s2.v, s3.v, s4.v]) = σ := by rw [List.set_set]; exact set_same ha
  rw [e1]
  generalize σ.set a (.fz xs k [s0.v, s1.v, s2.v, s3.v, s4.v]) = τ at *
  refine Ic_enumF (app_l gf) fun K hK => ?_
  rw [en_0]
  refine (?_ : (∀ (i : Nat) (s : P) (o : Option (List Str)) (L : List Ln) (rest : List V), i < 5 → L.length ≤ 8000 → [optL n0, optL n1, optL n2, optL n3, optL n4][i]? = some (optL o) → short o → kLOOPS ?c9 ?sc9 ?d9 ?ns9 ?t9 ?b9 ?K9 ?R9 rest (lnP kv nd σ.length r nm) (τ ++ [.list ((lnStep f r i s o L).map Ln.v)]) →
    kLOOPS ?c9 ?sc9 ?d9 ?ns9 ?t9 ?b9 ?K9 ?R9 (.tup [.int (i : Nat), s.v] :: rest) (lnP kv nd σ.length r nm) (τ ++ [.list (L.map Ln.v)])) → kLOOPS ?c9 ?sc9 ?d9 ?ns9 ?t9 ?b9 ?K9 ?R9 (.tup [.int (0 : Nat), s0.v] :: .tup [.int (1 : Nat), s1.v] :: .tup [.int (2 : Nat), s2.v] :: .tup [.int (3 : Nat), s3.v] :: .tup [.int (4 : Nat), s4.v] :: []) (lnP kv nd σ.length r nm) (τ ++ [.list (([] : List Ln).map Ln.v)])) ?_
  · intro step
    have l1 := lnStep_le f r 0 s0 n0 []
    have l2 := Nat.le_trans (lnStep_le f r 1 s1 n1 _) (Nat.add_le_add_right l1 2)
    have l3 := Nat.le_trans (lnStep_le f r 2 s2 n2 _) (Nat.add_le_add_right l2 2)
    have l4 := Nat.le_trans (lnStep_le f r 3 s3 n3 _) (Nat.add_le_add_right l3 2)
    have l5 := Nat.le_trans (lnStep_le f r 4 s4 n4 _) (Nat.add_le_add_right l4 2)
    refine step 0 s0 n0 [] _ (by decide) (Nat.zero_le _) rfl z0 ?_
    refine step 1 s1 n1 _ _ (by decide) (Nat.le_trans l1 (Nat.le_of_ble_eq_true rfl)) rfl z1 ?_
    refine step 2 s2 n2 _ _ (by decide) (Nat.le_trans l2 (Nat.le_of_ble_eq_true rfl)) rfl z2 ?_
    refine step 3 s3 n3 _ _ (by decide) (Nat.le_trans l3 (Nat.le_of_ble_eq_true rfl)) rfl z3 ?_
    refine step 4 s4 n4 _ _ (by decide) (Nat.le_trans l4 (Nat.le_of_ble_eq_true rfl)) rfl z4 ?_
    refine ⟨app_l gf, ?_⟩
    rw [List.set_append_left _ _ (lt_of gf), back]
    refine W_ListF C ?_
    refine W_ListF C ?_
    refine k_noted C (ns := [nm]) (Nat.le_of_ble_eq_true rfl) ?_
    refine Bi_addL (.inr ⟨_, rfl, .inl app_0⟩) (.inl rfl) (by rw [List.length_map]; exact Nat.le_trans (Nat.add_le_add_right l5 1) (Nat.le_of_ble_eq_true rfl)) ?_
    have := h [.list ((lnStep f r 4 s4 n4 (lnStep f r 3 s3 n3 (lnStep f r 2 s2 n2 (lnStep f r 1 s1 n1 (lnStep f r 0 s0 n0 []))))).map Ln.v)]
    unfold linesOf at this
    rw [List.map_append] at this
    exact this
  · intro i s o L rest hi hL ho hz hr
    refine ⟨rfl, ?_⟩
    rw [← el] at hr ⊢
    exact lnsB1 C (o := o) hi hL gk gn ho hz fun rv => ⟨hK _ (app_l gf), hr⟩
end
end Mine
end
section
open PySem PySem.W PySem.Calls PyProof.Rows
set_option maxRecDepth 100000
set_option maxHeartbeats 4000000
set_option linter.unusedVariables false
namespace Mine
section
variable {b : CB}
theorem getK_putne {K : Type} [DecidableEq K] {α : Type} (l : List (K × α)) {k x : K} (v : α) (hx : x ≠ k) : getK (putK l k v) x = getK l x := by
  unfold putK
  split
  · (rename_i hh; clear hh)
    induction l with
    | nil => rfl
    | cons p l ih =>
      obtain ⟨y, u⟩ := p
      rw [List.map_cons]
      by_cases hy : y = k
      · rw [if_pos hy]
        have n1 : y ≠ x := fun e => hx (e.symm.trans hy)
        exact (if_neg n1).trans (ih.trans (if_neg n1).symm)
      · rw [if_neg hy]
        show (if y = x then some u else _) = if y = x then some u else _
        rw [ih]
  · (rename_i hh; clear hh)
    induction l with
    | nil => exact if_neg (Ne.symm hx)
    | cons p l ih =>
      obtain ⟨y, u⟩ := p
      show (if y = x then some u else _) = if y = x then some u else _
      exact congrArg (fun z => if y = x then some u else z) ih
theorem look_put {l : Env0} {x : Str} {n : Int} : look (putK l x (.int n)) x = n := by unfold look; rw [getK_put]
theorem look_putne {l : Env0} {x y : Str} {v : V} (h : y ≠ x) : look (putK l x v) y = look l y := by unfold look; rw [getK_putne _ _ h]
theorem X_not : ¬ S "X" ∈ ABC := by decide
theorem I_not : ¬ S "I" ∈ ABC := by decide
theorem XI : S "X" ≠ S "I" := by decide
noncomputable def EnvB (l : Env0) (M : Nat) : Prop := ∀ x ∈ ABC, getK l x = some (.int (look l x)) ∧ -(M : Int) ≤ look l x ∧ look l x ≤ M
theorem EnvB.has {l : Env0} {M : Nat} (h : EnvB l M) : has l := fun x m => (h x m).1
theorem EnvB.mono {l : Env0} {M M' : Nat} (h : EnvB l M) (hM : M ≤ M') : EnvB l M' := fun x m => by have := h x m; exact ⟨this.1, by omega, by omega⟩
theorem EnvB.other {l : Env0} {M : Nat} (h : EnvB l M) {y : Str} (hy : ¬ y ∈ ABC) (v : V) : EnvB (putK l y v) M := fun x m => by
  have hx : x ≠ y := fun e => hy (e ▸ m)
  rw [getK_putne _ _ hx, look_putne hx]; exact h x m
theorem leaf_b {l : Env0} {M : Nat} (h : EnvB l M) (hM : 2 ≤ M) {t : T} (ht : isLeaf t) : (-(M : Int) ≤ lf l t ∧ lf l t ≤ M) ∧ (M ≤ 1000000 → okT l t) ∧ ev l t = lf l t ∧ cost t = 1 := by
  rcases ht with ⟨x, hx, rfl⟩ | rfl
  · have := h x hx
    exact ⟨this.2, fun hz => ⟨this.1, by constructor <;> omega⟩, rfl, rfl⟩
  · refine ⟨?_, fun _ => ⟨by decide, by decide⟩, rfl, rfl⟩
    show -(M : Int) ≤ 2 ∧ (2 : Int) ≤ M
    omega
theorem ar_b {M : Nat} {op : Str} {x y : Int} (hx : -(M : Int) ≤ x ∧ x ≤ M) (hy : -(M : Int) ≤ y ∧ y ≤ M) : -((2 * M : Nat) : Int) ≤ arF op x y ∧ arF op x y ≤ (2 * M : Nat) := by
  unfold arF
  split <;> omega
theorem pm_b {l : Env0} {M : Nat} (h : EnvB l M) (hM : 2 ≤ M) {e : T} (he : isTwo pm e) : (-((2 * M : Nat) : Int) ≤ e.val l ∧ e.val l ≤ (2 * M : Nat)) ∧ (M ≤ 1000 → okT l e) ∧ ev l e = e.val l ∧ cost e ≤ 1500 := by
  obtain ⟨op, a, c, hop, ha, hc, rfl⟩ := he
  obtain ⟨a1, a2, a3, a4⟩ := leaf_b h hM ha
  obtain ⟨c1, c2, c3, c4⟩ := leaf_b h hM hc
  have ar : -((2 * M : Nat) : Int) ≤ arF op (lf l a) (lf l c) ∧ arF op (lf l a) (lf l c) ≤ (2 * M : Nat) := ar_b a1 c1
  have e1 : ev l (.two op a c) = arF op (lf l a) (lf l c) := by show opF op _ _ = _; rw [opF_pm hop, a3, c3]
  refine ⟨ar, fun hz => ⟨a2 (by omega), c2 (by omega), .inl ⟨hop, ?_⟩⟩, e1, ?_⟩
  · rw [a3, c3]; constructor <;> omega
  · show 2 + cost a + cost c ≤ 1500
    rw [a4, c4]; decide
theorem cps_b {l : Env0} {M : Nat} (h : EnvB l M) (hM : 2 ≤ M) {e : T} (he : isTwo cps e) : (M ≤ 1000 → okT l e) ∧ ev l e = tr (e.tst l) ∧ cost e ≤ 1500 := by
  obtain ⟨op, a, c, hop, ha, hc, rfl⟩ := he
  obtain ⟨a1, a2, a3, a4⟩ := leaf_b h hM ha
  obtain ⟨c1, c2, c3, c4⟩ := leaf_b h hM hc
  refine ⟨fun hz => ⟨a2 (by omega), c2 (by omega), .inr hop⟩, ?_, ?_⟩
  · show opF op _ _ = tr (cmpF op _ _)
    rw [opF_cps hop, a3, c3]
  · show 2 + cost a + cost c ≤ 1500
    rw [a4, c4]; decide
theorem EnvB.put {l : Env0} {M : Nat} (h : EnvB l M) (hM : 2 ≤ M) {x : Str} {e : T} (he : isTwo pm e) : EnvB (putK l x (.int (e.val l))) (2 * M) := fun y m => by
  by_cases hy : y = x
  · subst hy
    rw [getK_put, look_put]
    exact ⟨rfl, (pm_b h hM he).1⟩
  · rw [getK_putne _ _ hy, look_putne hy]
    have := h y m
    exact ⟨this.1, by omega, by omega⟩
theorem EnvB.run {l : Env0} {M : Nat} (h : EnvB l M) (hM : 2 ≤ M) {s : P} (hs : isP s) : EnvB (s.run l) (2 * M) := by
  cases s with
  | set x e => exact h.put hM hs.2
  | br c x₁ e₁ x₂ e₂ =>
    show EnvB (if c.tst l then _ else _) _
    cases c.tst l with
    | true => exact h.put hM hs.2.2.1
    | false => exact h.put hM hs.2.2.2.2
theorem run_other {l : Env0} {s : P} (hs : isP s) {y : Str} (hy : ¬ y ∈ ABC) : getK (s.run l) y = getK l y := by
  have ne : ∀ x ∈ ABC, y ≠ x := fun x m e => hy (e ▸ m)
  cases s with
  | set x e => exact getK_putne _ _ (ne x hs.1)
  | br c x₁ e₁ x₂ e₂ =>
    show getK (if c.tst l then _ else _) y = _
    cases c.tst l with
    | true => exact getK_putne _ _ (ne x₁ hs.2.1)
    | false => exact getK_putne _ _ (ne x₂ hs.2.2.2.1)
noncomputable def itR (ln : Int) : List It → Nat → List V
  | [], _ => []
  | x :: xs, i => x.rows ln i ++ itR ln xs (i + (x.rows ln i).length)
theorem itRows_eq (ln : Int) : ∀ (its : List It) (L : List V), itRows ln its L = L ++ itR ln its L.length
  | [], L => (List.append_nil L).symm
  | x :: xs, L => by
    show itRows ln xs (L ++ x.rows ln L.length) = L ++ (x.rows ln L.length ++ itR ln xs (L.length + (x.rows ln L.length).length))
    rw [itRows_eq ln xs, List.append_assoc, List.length_append]
theorem rowsAll_app : ∀ (xs ys : List Ln) (L : List V), rowsAll (xs ++ ys) L = rowsAll ys (rowsAll xs L)
  | [], _, _ => rfl
  | x :: xs, ys, L => rowsAll_app xs ys (itRows x.ln x.its L)
theorem itsN_app : ∀ xs ys : List Ln, itsN (xs ++ ys) = itsN xs + itsN ys
  | [], ys => (Nat.zero_add _).symm
  | x :: xs, ys => by show x.its.length + itsN (xs ++ ys) = x.its.length + itsN xs + itsN ys; rw [itsN_app xs ys, Nat.add_assoc]
theorem rowsAll_put1 (i : Nat) (its : List It) (Ls : List Ln) : rowsAll (put1 i its Ls) [] = itRows (10 * (i : Int) + 10) its (rowsAll Ls []) ∧ itsN (put1 i its Ls) = itsN Ls + its.length ∧ ((∀ x ∈ Ls, x.its ≠ []) → ∀ x ∈ put1 i its Ls, x.its ≠ []) := by
  cases its with
  | nil => exact ⟨rfl, rfl, id⟩
  | cons x its => exact ⟨rowsAll_app _ _ _, itsN_app _ _, fun h y m => (List.mem_append.mp m).elim (h y) fun m => by rw [List.mem_singleton.mp m]; exact nofun⟩
theorem rowsAll_put2 (i : Nat) (Ls : List Ln) : rowsAll (put2 i Ls) [] = (if i = 3 then itRows 45 [.next] (rowsAll Ls []) else rowsAll Ls []) ∧ itsN (put2 i Ls) ≤ itsN Ls + 1 ∧ ((∀ x ∈ Ls, x.its ≠ []) → ∀ x ∈ put2 i Ls, x.its ≠ []) := by
  unfold put2
  by_cases h : i = 3
  · rw [if_pos h, if_pos h]
    exact ⟨rowsAll_app _ _ _, Nat.le_of_eq (itsN_app _ _), fun h y m => (List.mem_append.mp m).elim (h y) fun m => by rw [List.mem_singleton.mp m]; exact nofun⟩
  · rw [if_neg h, if_neg h]
    exact ⟨rfl, Nat.le_succ _, id⟩
end
end Mine
end
section
open PySem PySem.W PySem.Calls PyProof.Rows
set_option maxRecDepth 100000
set_option maxHeartbeats 4000000
set_option linter.unusedVariables false
namespace Mine
section
variable {b : CB}
theorem Turn.mono {rows : List V} {a m k : Nat} {C C' : Nat → Env0 → List V → Md → Prop} {l : Env0} {L : List V} {M : Md} (h : Turn rows a m C k l L M) (hC : ∀ {k l L M}, C k l L M → C' k l L M) : Turn rows a m C' k l L M := by
  cases h with
  | set h1 h2 h3 h4 => exact .set h1 h2 h3 (hC h4)
  | rem h1 h4 => exact .rem h1 (hC h4)
  | ifn h1 h2 h3 h4 => exact .ifn h1 h2 h3 (hC h4)
  | jmp h1 h4 => exact .jmp h1 (hC h4)
  | for_ e h1 h2 h3 h4 => exact .for_ e h1 h2 h3 (hC h4)
  | next h1 h2 h3 h4 => exact .next h1 h2 h3 (hC h4)
theorem Run.more {rows : List V} {a m : Nat} {l' : Env0} {L' : List V} : ∀ {n k : Nat} {l : Env0} {L : List V} {M : Md}, Run rows a m l' L' n k l L M → ∀ j, Run rows a m l' L' (n + j) k l L M
  | 0, _, _, _, _, ⟨h, rfl, rfl⟩, _ => .done h
  | n + 1, _, _, _, _, h, j => by
    rw [Nat.add_right_comm]
    exact h.imp id fun t => t.mono fun q => Run.more q j
noncomputable def RowsAt (rows : List V) (q : Nat) (t : List V) : Prop := ∀ k u, t[k]? = some u → rows[q + k]? = some u
theorem RowsAt.of {rows pre t post : List V} (e : rows = pre ++ (t ++ post)) : RowsAt rows pre.length t := fun k u h => by
  rw [e, List.getElem?_append_right (Nat.le_add_right _ _), Nat.add_sub_cancel_left, List.getElem?_append_left (List.getElem?_eq_some_iff.mp h).1]; exact h
theorem RowsAt.left {rows s t : List V} {q : Nat} (h : RowsAt rows q (s ++ t)) : RowsAt rows q s := fun k u e => h k u (by rw [List.getElem?_append_left (List.getElem?_eq_some_iff.mp e).1]; exact e)
theorem RowsAt.right {rows s t : List V} {q : Nat} (h : RowsAt rows q (s ++ t)) : RowsAt rows (q + s.length) t := fun k u e => by
  rw [Nat.add_assoc]; exact h _ u (by rw [List.getElem?_append_right (Nat.le_add_right _ _), Nat.add_sub_cancel_left]; exact e)
noncomputable def noteV (n : Nat) (z : Int) : V := .tup [.int n, .int z]
noncomputable def preE (o : Option (List Str)) (l : Env0) : Env0 := match o with | some ns => putK l (S "X") (.int (seenF l ns 0)) | none => l
noncomputable def preL (o : Option (List Str)) (l : Env0) (L : List V) : List V := match o with | some ns => L ++ [noteV ns.length (seenF l ns 0)] | none => L
noncomputable def stE (k : Bool) (o : Option (List Str)) (s : P) (l : Env0) : Env0 := match k with | true => s.run (preE o l) | false => l
noncomputable def stL (k : Bool) (o : Option (List Str)) (l : Env0) (L : List V) : List V := match k with | true => preL o l L | false => L
section
variable {rows : List V} {a m : Nat} {l l' : Env0} {L L' : List V} {n q : Nat} {Md0 : Md} {M : Nat} {ln : Int}
theorem run_noted {ns : List Str} (R : RowsAt rows q (itR ln (noted ns) q)) (hn : ∀ x ∈ ns, getK l x = some (.int (look l x))) (h : Run rows a m l' L' n (q + 2) (preE (some ns) l) (preL (some ns) l L) Md0) : Run rows a m l' L' (n + 2) q l L Md0 := by
  refine .set (ln := ln) (x := S "X") (e := .seen ns) (R 0 _ rfl) hn (Nat.le_of_ble_eq_true rfl) ?_
  refine .rem (ln := ln) (c := ns.length) (R 1 _ rfl) ?_
  rw [getK_put]
  exact h
theorem run_stmt {s : P} (hs : isP s) (R : RowsAt rows q (s.rows ln q)) (hl : EnvB l M) (hM : 2 ≤ M) (hz : M ≤ 1000) (h : Run rows a m l' L' n (q + (s.rows ln q).length) (s.run l) L Md0) : Run rows a m l' L' (n + 3) q l L Md0 := by
  cases s with
  | set x e =>
    obtain ⟨k0, k1, k3, k2⟩ := pm_b hl hM hs.2
    have := Run.set (rows := rows) (a := a) (m := m) (l' := l') (L' := L') (n := n) (k := q) (l := l) (L := L) (M := Md0) (ln := ln) (x := x) (e := e) (R 0 _ rfl) (by obtain ⟨_, _, _, _, _, _, rfl⟩ := id hs.2; exact k1 hz) k2
      (by obtain ⟨op, u, v, _, _, _, rfl⟩ := id hs.2; rw [show evR l (.two op u v) = ev l (.two op u v) from rfl, k3]; exact h)
    exact this.more 2
  | br c x₁ e₁ x₂ e₂ =>
    obtain ⟨h1, h2, h3, h4, h5⟩ := hs
    obtain ⟨c1, c2, c3⟩ := cps_b hl hM h1
    obtain ⟨k0, k1, k3, k2⟩ := pm_b hl hM h3
    obtain ⟨m0, m1, m3, m2⟩ := pm_b hl hM h5
    have evT : ∀ {ops : List Str} {t : T}, isTwo ops t → evR l t = ev l t ∧ (okT l t → okR l t) := fun ht => by obtain ⟨_, _, _, _, _, _, rfl⟩ := ht; exact ⟨rfl, id⟩
    refine .ifn (ln := ln) (t := c) (j := q + 3) (R 0 _ rfl) ((evT h1).2 (c1 hz)) c3 ?_
    rw [(evT h1).1, c2]
    have h : Run rows a m l' L' n (q + 4) (if c.tst l then putK l x₁ (.int (e₁.val l)) else putK l x₂ (.int (e₂.val l))) L Md0 := h
    cases hcc : c.tst l with
    | true =>
      rw [hcc, if_pos rfl] at h
      rw [if_neg (by decide)]
      refine .set (ln := ln) (x := x₁) (e := e₁) (R 1 _ rfl) ((evT h3).2 (k1 hz)) k2 ?_
      refine .jmp (ln := ln) (j := q + 4) (R 2 _ rfl) ?_
      rw [(evT h3).1, k3]; exact h
    | false =>
      rw [hcc, if_neg (by decide)] at h
      rw [if_pos (by decide)]
      have := Run.set (rows := rows) (a := a) (m := m) (l' := l') (L' := L') (n := n) (k := q + 3) (l := l) (L := L) (M := Md0) (ln := ln) (x := x₂) (e := e₂) (R 3 _ rfl) ((evT h5).2 (m1 hz)) m2 (by rw [(evT h5).1, m3]; exact h)
      exact this.more 1
noncomputable def okO (o : Option (List Str)) : Prop := ∀ ns, o = some ns → Nd ns
theorem EnvB.pre (hl : EnvB l M) (o : Option (List Str)) : EnvB (preE o l) M := by
  cases o with
  | none => exact hl
  | some ns => exact hl.other X_not _
theorem EnvB.st (hl : EnvB l M) (hM : 2 ≤ M) {s : P} (hs : isP s) (k : Bool) (o : Option (List Str)) : EnvB (stE k o s l) (2 * M) := by
  cases k with
  | true => exact (hl.pre o).run hM hs
  | false => exact hl.mono (by omega)
theorem run_ch {s : P} (hs : isP s) {k : Bool} {o : Option (List Str)} (ho : okO o) (R : RowsAt rows q (itR ln (ch k o s) q)) (hl : EnvB l M) (hM : 2 ≤ M) (hz : M ≤ 1000) (h : Run rows a m l' L' n (q + (itR ln (ch k o s) q).length) (stE k o s l) (stL k o l L) Md0) : Run rows a m l' L' (n + 5) q l L Md0 := by
  cases k with
  | false => exact h.more 5
  | true => cases o with
    | none =>
      have R : RowsAt rows q (s.rows ln q ++ []) := R
      have h : Run rows a m l' L' n (q + (s.rows ln q ++ []).length) (s.run l) L Md0 := h
      rw [List.append_nil] at R h
      exact (run_stmt hs R hl hM hz h).more 2
    | some ns =>
      have R : RowsAt rows q (itR ln (noted ns) q ++ (s.rows ln (q + 2) ++ [])) := R
      have h : Run rows a m l' L' n (q + (itR ln (noted ns) q ++ (s.rows ln (q + 2) ++ [])).length) (s.run (preE (some ns) l)) (preL (some ns) l L) Md0 := h
      rw [List.append_nil] at R h
      rw [List.length_append, ← Nat.add_assoc] at h
      exact run_noted R.left (fun x m => (hl x ((ho ns rfl).sub x m)).1) (run_stmt hs R.right (hl.pre (some ns)) hM hz h)
end
end
end Mine
end
section
open PySem PySem.W PySem.Calls PyProof.Rows
set_option maxRecDepth 100000
set_option maxHeartbeats 4000000
set_option linter.unusedVariables false
namespace Mine
section
variable {b : CB}
noncomputable def rdE (k2 k3 : Bool) (o2 o3 : Option (List Str)) (s2 s3 : P) (l : Env0) : Env0 := stE k3 o3 s3 (stE k2 o2 s2 l)
noncomputable def rdL (k2 k3 : Bool) (o2 o3 : Option (List Str)) (s2 : P) (l : Env0) (L : List V) : List V := stL k3 o3 (stE k2 o2 s2 l) (stL k2 o2 l L)
noncomputable def loopE (k2 k3 : Bool) (o2 o3 : Option (List Str)) (s2 s3 : P) : Nat → Nat → Env0 → Env0
  | 0, _, l => l
  | c + 1, i, l => loopE k2 k3 o2 o3 s2 s3 c (i + 1) (putK (rdE k2 k3 o2 o3 s2 s3 l) (S "I") (.int ((i : Int) + 1)))
noncomputable def loopL (k2 k3 : Bool) (o2 o3 : Option (List Str)) (s2 s3 : P) : Nat → Nat → Env0 → List V → List V
  | 0, _, _, L => L
  | c + 1, i, l, L => loopL k2 k3 o2 o3 s2 s3 c (i + 1) (putK (rdE k2 k3 o2 o3 s2 s3 l) (S "I") (.int ((i : Int) + 1))) (rdL k2 k3 o2 o3 s2 l L)
section
variable {rows : List V} {l l' : Env0} {L L' : List V} {n q a m r : Nat} {M : Nat} {ln : Int} {k2 k3 : Bool} {o2 o3 : Option (List Str)} {s2 s3 : P}
theorem stE_other {k : Bool} {o : Option (List Str)} {s : P} (hs : isP s) : getK (stE k o s l) (S "I") = getK l (S "I") := by
  cases k with
  | false => rfl
  | true =>
    refine (run_other hs I_not).trans ?_
    cases o with
    | none => rfl
    | some ns => exact getK_putne _ _ (Ne.symm XI)
theorem EnvB.rd (hl : EnvB l M) (hM : 2 ≤ M) (h2 : isP s2) (h3 : isP s3) : EnvB (rdE k2 k3 o2 o3 s2 s3 l) (2 * (2 * M)) := (hl.st hM h2 k2 o2).st (Nat.le_trans hM (Nat.le_mul_of_pos_left _ (by decide))) h3 k3 o3
theorem run_loop (h2 : isP s2) (h3 : isP s3) (z2 : okO o2) (z3 : okO o3) {l3 l4 ln5 : Int} (R2 : RowsAt rows q (itR l3 (ch k2 o2 s2) q)) (R3 : RowsAt rows (q + (itR l3 (ch k2 o2 s2) q).length) (itR l4 (ch k3 o3 s3) (q + (itR l3 (ch k2 o2 s2) q).length)))
    (hm : m = q + (itR l3 (ch k2 o2 s2) q).length + (itR l4 (ch k3 o3 s3) (q + (itR l3 (ch k2 o2 s2) q).length)).length) (RN : rows[m]? = some (row ln5 nextV)) (hr : r ≤ 2) :
    ∀ (c i : Nat) (l : Env0) (L : List V) (M : Nat), i + c = r → getK l (S "I") = some (.int (i : Nat)) → EnvB l M → 2 ≤ M → M * 4 ^ (c + 1) ≤ 1000 → Run rows a m l' L' n (m + 1) (loopE k2 k3 o2 o3 s2 s3 (c + 1) i l) (loopL k2 k3 o2 o3 s2 s3 (c + 1) i l L) .off →
      Run rows a m l' L' (n + 11 * (c + 1)) q l L (.on q r) := by
  have one : ∀ (i : Nat) (l : Env0) (L : List V) (M n : Nat), getK l (S "I") = some (.int (i : Nat)) → i ≤ 2 → EnvB l M → 2 ≤ M → 2 * M ≤ 1000 → Run rows a m l' L' n (if (r : Int) < (i : Int) + 1 then m + 1 else q) (putK (rdE k2 k3 o2 o3 s2 s3 l) (S "I") (.int ((i : Int) + 1))) (rdL k2 k3 o2 o3 s2 l L) (if (r : Int) < (i : Int) + 1 then .off else .on q r) → Run rows a m l' L' (n + 11) q l L (.on q r) := by
    intro i l L M n hI hi hl hM hz h
    refine run_ch (n := n + 6) h2 z2 R2 hl hM (by omega) ?_
    refine run_ch (n := n + 1) h3 z3 R3 (hl.st hM h2 k2 o2) (by omega) hz ?_
    rw [← hm]
    refine .next (v := i) RN ?_ ?_ h
    · rw [stE_other h3, stE_other h2, hI]
    · constructor <;> omega
  intro c
  induction c with
  | zero =>
    intro i l L M e hI hl hM hz h
    refine one i l L M n hI (by omega) hl hM (by omega) ?_
    have hlt : (r : Int) < (i : Int) + 1 := by omega
    rw [if_pos hlt, if_pos hlt]; exact h
  | succ c ih =>
    intro i l L M e hI hl hM hz h
    have hz' : 2 * (2 * M) * 4 ^ (c + 1) ≤ 1000 := by
      have e : M * 4 ^ (c + 1 + 1) = 2 * (2 * M) * 4 ^ (c + 1) := by rw [Nat.pow_succ 4 (c + 1), ← Nat.mul_assoc 2 2 M, Nat.mul_comm (2 * 2) M, Nat.mul_assoc, Nat.mul_comm (4 ^ (c + 1)) 4]
      omega
    have hp : 1 ≤ 4 ^ (c + 1) := Nat.pos_of_ne_zero (Nat.ne_of_gt (Nat.pow_pos (by decide)))
    have hM2 : 2 * M ≤ 1000 := by
      have := Nat.le_trans (Nat.le_mul_of_pos_right (2 * (2 * M)) hp) hz'
      omega
    have hlt : ¬ (r : Int) < (i : Int) + 1 := by omega
    refine one i l L M (n + 11 * (c + 1)) hI (by omega) hl hM hM2 ?_
    rw [if_neg hlt, if_neg hlt]
    exact ih (i + 1) _ _ (2 * (2 * M)) (by omega) (by rw [getK_put]; rfl) ((hl.rd hM h2 h3).other I_not _) (by omega) hz' h
end
structure Prg where
  (s0 s1 s2 s3 s4 : P)
  (n0 n1 n2 n3 n4 : Option (List Str))
  nm : Str
  r : Nat
noncomputable def Prg.e2 (g : Prg) (f : Nat → Bool) (l : Env0) : Env0 := stE (f 1) g.n1 g.s1 (stE (f 0) g.n0 g.s0 l)
noncomputable def Prg.l2 (g : Prg) (f : Nat → Bool) (l : Env0) : List V := stL (f 1) g.n1 (stE (f 0) g.n0 g.s0 l) (stL (f 0) g.n0 l [])
noncomputable def Prg.e3 (g : Prg) (f : Nat → Bool) (l : Env0) : Env0 := loopE (f 2) (f 3) g.n2 g.n3 g.s2 g.s3 g.r 1 (putK (g.e2 f l) (S "I") (.int 1))
noncomputable def Prg.l3 (g : Prg) (f : Nat → Bool) (l : Env0) : List V := loopL (f 2) (f 3) g.n2 g.n3 g.s2 g.s3 g.r 1 (putK (g.e2 f l) (S "I") (.int 1)) (g.l2 f l)
noncomputable def Prg.e4 (g : Prg) (f : Nat → Bool) (l : Env0) : Env0 := stE (f 4) g.n4 g.s4 (g.e3 f l)
noncomputable def Prg.l4 (g : Prg) (f : Nat → Bool) (l : Env0) : List V := stL (f 4) g.n4 (g.e3 f l) (g.l3 f l)
noncomputable def Prg.env (g : Prg) (f : Nat → Bool) (l : Env0) : Env0 := preE (some [g.nm]) (g.e4 f l)
noncomputable def Prg.notes (g : Prg) (f : Nat → Bool) (l : Env0) : List V := preL (some [g.nm]) (g.e4 f l) (g.l4 f l)
structure Prg.ok (g : Prg) : Prop where
  (p0 : isP g.s0) (p1 : isP g.s1) (p2 : isP g.s2) (p3 : isP g.s3) (p4 : isP g.s4)
  (z0 : okO g.n0) (z1 : okO g.n1) (z2 : okO g.n2) (z3 : okO g.n3) (z4 : okO g.n4)
  nm : g.nm ∈ ABC
  r : g.r ≤ 2
theorem Prg.ok.nd {g : Prg} (G : g.ok) : Nd [g.nm] := ⟨List.nodup_cons.mpr ⟨nofun, .nil⟩, fun k m => List.mem_singleton.mp m ▸ G.nm⟩
end
end Mine
end
section
open PySem PySem.W PySem.Calls PyProof.Rows
set_option maxRecDepth 100000
set_option maxHeartbeats 4000000
set_option linter.unusedVariables false
namespace Mine
section
variable {b : CB}
theorem quiet_it {ln : Int} {i : Nat} {x : It} (h : (∃ y e, x = .lt y e) ∨ (∃ n, x = .rem n) ∨ ∃ p, x = .st p) : ∀ v ∈ x.rows ln i, quiet v := by
  have w1 : ∀ {ln : Int} {y : Str} {e : T}, quiet (letR ln y e) := ⟨_, _, _, rfl, .head _⟩
  rcases h with ⟨y, e, rfl⟩ | ⟨n, rfl⟩ | ⟨p, rfl⟩
  · exact fun v m => List.mem_singleton.mp m ▸ w1
  · exact fun v m => List.mem_singleton.mp m ▸ ⟨_, _, _, rfl, .tail _ (.head _)⟩
  · cases p with
    | set y e => exact fun v m => List.mem_singleton.mp m ▸ w1
    | br c x₁ e₁ x₂ e₂ =>
      intro v m
      rcases mem4 m with rfl | rfl | rfl | rfl
      · exact ⟨_, _, _, rfl, .tail _ (.tail _ (.head _))⟩
      · exact w1
      · exact ⟨_, _, _, rfl, .tail _ (.tail _ (.tail _ (.head _)))⟩
      · exact w1
noncomputable def plain (x : It) : Prop := (∃ y e, x = .lt y e) ∨ (∃ n, x = .rem n) ∨ ∃ p, x = .st p
theorem quiet_itR (ln : Int) : ∀ (its : List It) (q : Nat), (∀ x ∈ its, plain x) → ∀ v ∈ itR ln its q, quiet v
  | [], _, _ => nofun
  | x :: its, q, h => fun v m => (List.mem_append.mp m).elim (quiet_it (h x List.mem_cons_self) v) (quiet_itR ln its _ (fun y m => h y (List.mem_cons_of_mem _ m)) v)
theorem noted_plain (ns : List Str) : ∀ x ∈ noted ns, plain x := fun x m => by
  rcases mem2 m with rfl | rfl
  · exact .inl ⟨_, _, rfl⟩
  · exact .inr (.inl ⟨_, rfl⟩)
theorem ch_plain (k : Bool) (o : Option (List Str)) (s : P) : (∀ x ∈ ch k o s, plain x) ∧ (ch k o s).length ≤ 3 := by
  cases k with
  | false => exact ⟨nofun, Nat.zero_le _⟩
  | true => cases o with
    | none => exact ⟨fun x m => List.mem_singleton.mp m ▸ .inr (.inr ⟨_, rfl⟩), Nat.le_of_ble_eq_true rfl⟩
    | some ns => exact ⟨fun x m => (List.mem_append.mp m).elim (noted_plain ns x) fun m => List.mem_singleton.mp m ▸ .inr (.inr ⟨_, rfl⟩), Nat.le_of_ble_eq_true rfl⟩
theorem lnStep_is (f : Nat → Bool) (r i : Nat) (s : P) (o : Option (List Str)) (L : List Ln) : rowsAll (lnStep f r i s o L) [] = (if i = 3 then itRows 45 [.next] (itRows (10 * (i : Int) + 10) (for0 i r ++ ch (f i) o s) (rowsAll L [])) else itRows (10 * (i : Int) + 10) (for0 i r ++ ch (f i) o s) (rowsAll L [])) ∧
    itsN (lnStep f r i s o L) ≤ itsN L + 5 ∧ ((∀ x ∈ L, x.its ≠ []) → ∀ x ∈ lnStep f r i s o L, x.its ≠ []) := by
  obtain ⟨a1, a2, a3⟩ := rowsAll_put1 i (for0 i r ++ ch (f i) o s) L
  obtain ⟨b1, b2, b3⟩ := rowsAll_put2 i (put1 i (for0 i r ++ ch (f i) o s) L)
  refine ⟨by rw [← a1]; exact b1, Nat.le_trans b2 ?_, fun h => b3 (a3 h)⟩
  rw [a2, List.length_append]
  have h1 : (for0 i r).length ≤ 1 := by
    unfold for0
    by_cases h : i = 2
    · rw [if_pos h]; exact Nat.le_refl _
    · rw [if_neg h]; exact Nat.zero_le _
  exact Nat.add_le_add_left (Nat.add_le_add h1 (ch_plain (f i) o s).2) _ |> Nat.succ_le_succ
noncomputable def Prg.p0 (g : Prg) (f : Nat → Bool) : List V := itR 10 (ch (f 0) g.n0 g.s0) 0
noncomputable def Prg.p1 (g : Prg) (f : Nat → Bool) : List V := itR 20 (ch (f 1) g.n1 g.s1) (g.p0 f).length
noncomputable def Prg.rA (g : Prg) (f : Nat → Bool) : List V := g.p0 f ++ g.p1 f
noncomputable def Prg.p2 (g : Prg) (f : Nat → Bool) : List V := itR 30 (ch (f 2) g.n2 g.s2) ((g.rA f).length + 1)
noncomputable def Prg.p3 (g : Prg) (f : Nat → Bool) : List V := itR 40 (ch (f 3) g.n3 g.s3) ((g.rA f).length + 1 + (g.p2 f).length)
noncomputable def Prg.rB (g : Prg) (f : Nat → Bool) : List V := g.p2 f ++ g.p3 f
noncomputable def Prg.mid (g : Prg) (f : Nat → Bool) : Nat := (g.rA f).length + 1 + (g.rB f).length
noncomputable def Prg.p4 (g : Prg) (f : Nat → Bool) : List V := itR 50 (ch (f 4) g.n4 g.s4) (g.mid f + 1)
noncomputable def Prg.rE (g : Prg) (f : Nat → Bool) : List V := g.p4 f ++ itR 60 (noted [g.nm]) (g.mid f + 1 + (g.p4 f).length)
noncomputable def Prg.rows (g : Prg) (f : Nat → Bool) : List V := loopRows (g.rA f) (g.rB f) (g.rE f) 30 45 g.r
noncomputable def Prg.lines (g : Prg) (f : Nat → Bool) : List Ln := linesOf f g.r g.s0 g.s1 g.s2 g.s3 g.s4 g.n0 g.n1 g.n2 g.n3 g.n4 g.nm
theorem lines_is (g : Prg) (f : Nat → Bool) : rowsAll (g.lines f) [] = g.rows f ∧ itsN (g.lines f) ≤ 50 ∧ (∀ x ∈ g.lines f, x.its ≠ []) ∧ (g.lines f).length ≤ 20 := by
  have c0 := lnStep_is f g.r 0 g.s0 g.n0 []
  have k0 := lnStep_le f g.r 0 g.s0 g.n0 []
  unfold Prg.lines linesOf
  generalize lnStep f g.r 0 g.s0 g.n0 [] = L0 at *
  have c1 := lnStep_is f g.r 1 g.s1 g.n1 L0
  have k1 := Nat.le_trans (lnStep_le f g.r 1 g.s1 g.n1 L0) (Nat.add_le_add_right k0 2)
  generalize lnStep f g.r 1 g.s1 g.n1 L0 = L1 at *
  have c2 := lnStep_is f g.r 2 g.s2 g.n2 L1
  have k2 := Nat.le_trans (lnStep_le f g.r 2 g.s2 g.n2 L1) (Nat.add_le_add_right k1 2)
  generalize lnStep f g.r 2 g.s2 g.n2 L1 = L2 at *
  have c3 := lnStep_is f g.r 3 g.s3 g.n3 L2
  have k3 := Nat.le_trans (lnStep_le f g.r 3 g.s3 g.n3 L2) (Nat.add_le_add_right k2 2)
  generalize lnStep f g.r 3 g.s3 g.n3 L2 = L3 at *
  have c4 := lnStep_is f g.r 4 g.s4 g.n4 L3
  have k4 := Nat.le_trans (lnStep_le f g.r 4 g.s4 g.n4 L3) (Nat.add_le_add_right k3 2)
  generalize lnStep f g.r 4 g.s4 g.n4 L3 = L4 at *
  refine ⟨?_, ?_, ?_, by rw [List.length_append]; exact Nat.le_trans (Nat.succ_le_succ k4) (Nat.le_of_ble_eq_true rfl)⟩
  · rw [rowsAll_app]
    show itRows 60 (noted [g.nm]) (rowsAll L4 []) = _
    have r0 : rowsAll L0 [] = g.p0 f := c0.1.trans (itRows_eq 10 _ [])
    have r1 : rowsAll L1 [] = g.rA f := c1.1.trans ((itRows_eq 20 _ _).trans (by rw [r0]; rfl))
    have r2 : rowsAll L2 [] = g.rA f ++ row 30 (forV g.r) :: g.p2 f := c2.1.trans ((itRows_eq 30 _ _).trans (by rw [r1]; rfl))
    have e3 : (g.rA f ++ row 30 (forV g.r) :: g.p2 f).length = (g.rA f).length + 1 + (g.p2 f).length := by rw [List.length_append, List.length_cons, Nat.add_right_comm, Nat.add_assoc]
    have r3 : rowsAll L3 [] = (g.rA f ++ row 30 (forV g.r) :: g.p2 f) ++ g.p3 f ++ [row 45 nextV] := c3.1.trans ((itRows_eq 45 _ _).trans (by
      rw [itRows_eq, r2, e3]; rfl))
    have e4 : ((g.rA f ++ row 30 (forV g.r) :: g.p2 f) ++ g.p3 f ++ [row 45 nextV]).length = g.mid f + 1 := by
      rw [List.length_append, List.length_append, e3]
      unfold Prg.mid Prg.rB
      rw [List.length_append, ← Nat.add_assoc]; rfl
    have r4 : rowsAll L4 [] = ((g.rA f ++ row 30 (forV g.r) :: g.p2 f) ++ g.p3 f ++ [row 45 nextV]) ++ g.p4 f := c4.1.trans ((itRows_eq 50 _ _).trans (by rw [r3, e4]; rfl))
    rw [itRows_eq, r4, List.length_append, e4]
    unfold Prg.rows loopRows Prg.rE Prg.rB
    rw [List.append_assoc, List.append_assoc, List.append_assoc, List.append_assoc, List.append_assoc]
    rfl
  · rw [itsN_app]
    exact Nat.add_le_add (Nat.le_trans c4.2.1 (Nat.add_le_add_right (Nat.le_trans c3.2.1 (Nat.add_le_add_right (Nat.le_trans c2.2.1 (Nat.add_le_add_right (Nat.le_trans c1.2.1 (Nat.add_le_add_right c0.2.1 5)) 5)) 5)) 5)) (Nat.le_refl _) |> fun h => Nat.le_trans h (Nat.le_of_ble_eq_true rfl)
  · exact fun y m => (List.mem_append.mp m).elim (c4.2.2 (c3.2.2 (c2.2.2 (c1.2.2 (c0.2.2 nofun)))) y) fun m => by rw [List.mem_singleton.mp m]; exact nofun
theorem app_quiet {A B : List V} (a : ∀ v ∈ A, quiet v) (b : ∀ v ∈ B, quiet v) : ∀ v ∈ A ++ B, quiet v := fun v m => (List.mem_append.mp m).elim (a v) (b v)
theorem rows_quiet (g : Prg) (f : Nat → Bool) : (∀ v ∈ g.rA f, quiet v) ∧ (∀ v ∈ g.rB f, quiet v) ∧ ∀ v ∈ g.rE f, quiet v :=
  ⟨app_quiet (quiet_itR _ _ _ (ch_plain _ _ _).1) (quiet_itR _ _ _ (ch_plain _ _ _).1), app_quiet (quiet_itR _ _ _ (ch_plain _ _ _).1) (quiet_itR _ _ _ (ch_plain _ _ _).1), app_quiet (quiet_itR _ _ _ (ch_plain _ _ _).1) (quiet_itR _ _ _ (noted_plain _))⟩
theorem rows_le200 (g : Prg) (f : Nat → Bool) : (g.rows f).length ≤ 200 := by
  rw [← (lines_is g f).1]
  have : ∀ (xs : List Ln) (L : List V), (rowsAll xs L).length ≤ L.length + 4 * itsN xs := by
    intro xs
    induction xs with
    | nil => exact fun L => Nat.le_refl _
    | cons x xs ih =>
      intro L
      refine Nat.le_trans (ih _) (Nat.le_trans (Nat.add_le_add_right (itRows_le _ _ _) _) ?_)
      rw [Nat.add_assoc, ← Nat.mul_add]; exact Nat.le_refl _
  exact Nat.le_trans (this _ _) (by rw [List.length_nil, Nat.zero_add]; exact Nat.mul_le_mul_left 4 (lines_is g f).2.1)
end
end Mine
end
section
open PySem PySem.W PySem.Calls PyProof.Rows
set_option maxRecDepth 100000
set_option maxHeartbeats 4000000
set_option linter.unusedVariables false
namespace Mine
section
variable {b : CB}
theorem EnvB.loop {k2 k3 : Bool} {o2 o3 : Option (List Str)} {s2 s3 : P} (h2 : isP s2) (h3 : isP s3) : ∀ (c i : Nat) {l : Env0} {M : Nat}, EnvB l M → 2 ≤ M → EnvB (loopE k2 k3 o2 o3 s2 s3 c i l) (M * 4 ^ c)
  | 0, _, l, M, hl, hM => by rw [Nat.pow_zero, Nat.mul_one]; exact hl
  | c + 1, i, l, M, hl, hM => by
    have e : M * 4 ^ (c + 1) = 2 * (2 * M) * 4 ^ c := by rw [Nat.pow_succ 4 c, ← Nat.mul_assoc 2 2 M, Nat.mul_comm (2 * 2) M, Nat.mul_assoc, Nat.mul_comm (4 ^ c) 4]
    rw [e]
    exact EnvB.loop h2 h3 c (i + 1) ((hl.rd hM h2 h3).other I_not _) (by omega)
theorem Prg.ok.e2 {g : Prg} (G : g.ok) {f : Nat → Bool} {l : Env0} (hl : EnvB l 6) : EnvB (putK (g.e2 f l) (S "I") (.int 1)) 24 := ((hl.st (by decide) G.p0 _ _).st (by decide) G.p1 _ _).other I_not _
theorem Prg.ok.e3 {g : Prg} (G : g.ok) {f : Nat → Bool} {l : Env0} (hl : EnvB l 6) : EnvB (g.e3 f l) 384 := by
  refine (EnvB.loop G.p2 G.p3 g.r 1 (G.e2 hl) (by decide)).mono ?_
  have h : 4 ^ g.r ≤ 4 ^ 2 := Nat.pow_le_pow_right (by decide) G.r
  exact Nat.le_trans (Nat.mul_le_mul_left 24 h) (Nat.le_of_ble_eq_true rfl)
theorem Prg.ok.e4 {g : Prg} (G : g.ok) {f : Nat → Bool} {l : Env0} (hl : EnvB l 6) : EnvB (g.e4 f l) 768 := (G.e3 hl).st (by decide) G.p4 _ _
theorem Prg.ok.env {g : Prg} (G : g.ok) {f : Nat → Bool} {l : Env0} (hl : EnvB l 6) : EnvB (g.env f l) 768 := (G.e4 hl).pre _
theorem run_prg {g : Prg} (G : g.ok) (f : Nat → Bool) {l : Env0} (hl : EnvB l 6) : Run (g.rows f) (g.rA f).length (g.mid f) (g.env f l) (g.notes f l) 90 0 l [] .fresh := by
  have RA : RowsAt (g.rows f) 0 (g.rA f) := RowsAt.of (pre := []) rfl
  have RF : RowsAt (g.rows f) (g.rA f).length ([row 30 (forV g.r)] ++ (g.rB f ++ ([row 45 nextV] ++ g.rE f))) := RowsAt.of (post := []) (by rw [List.append_nil]; rfl)
  have RB : RowsAt (g.rows f) ((g.rA f).length + 1) (g.p2 f ++ g.p3 f) := RF.right.left
  have RN : (g.rows f)[g.mid f]? = some (row 45 nextV) := RF.right.right.left 0 _ rfl
  have RE : RowsAt (g.rows f) (g.mid f + 1) (g.p4 f ++ itR 60 (noted [g.nm]) (g.mid f + 1 + (g.p4 f).length)) := RF.right.right.right
  have len : g.mid f + 1 + (g.p4 f).length + 2 = (g.rows f).length := by
    unfold Prg.rows loopRows Prg.rE Prg.mid
    rw [List.length_append, List.length_cons, List.length_append, List.length_cons, List.length_append]
    show _ = _ + (_ + (_ + 2 + 1) + 1)
    omega
  have R1 : RowsAt (g.rows f) (g.p0 f).length (g.p1 f) := by have := RA.right; rwa [Nat.zero_add] at this
  have hl2 := G.e2 (f := f) hl
  have hl3 := G.e3 (f := f) hl
  have hl4 := G.e4 (f := f) hl
  have tail : ∀ Md0, Run (g.rows f) (g.rA f).length (g.mid f) (g.env f l) (g.notes f l) 30 (g.mid f + 1) (g.e3 f l) (g.l3 f l) Md0 := fun Md0 => by
    refine run_ch (n := 25) G.p4 G.z4 RE.left hl3 (by decide) (by decide) ?_
    refine run_noted (n := 23) RE.right (fun x m => (hl4 x (List.mem_singleton.mp m ▸ G.nm)).1) ?_
    exact .done len
  refine run_ch (n := 85) G.p0 G.z0 RA.left hl (by decide) (by decide) ?_
  rw [Nat.zero_add]
  refine run_ch (n := 80) G.p1 G.z1 R1 (hl.st (by decide) G.p0 _ _) (by decide) (by decide) ?_
  rw [show (itR 10 (ch (f 0) g.n0 g.s0) 0).length + (itR 20 (ch (f 1) g.n1 g.s1) (itR 10 (ch (f 0) g.n0 g.s0) 0).length).length = (g.rA f).length from List.length_append.symm]
  refine .for_ (n := 79) (r := g.r) (ln := 30) (ln₂ := 45) (RF.left 0 _ rfl) RN G.r ?_
  by_cases h0 : g.r = 0
  · rw [if_pos h0, if_pos h0]
    have := tail .fresh
    unfold Prg.e3 Prg.l3 at this
    rw [h0] at this
    exact this.more 49
  · rw [if_neg h0, if_neg h0]
    obtain ⟨c, hc⟩ := Nat.exists_eq_succ_of_ne_zero h0
    have hc1 : c ≤ 1 := Nat.le_of_succ_le_succ (hc ▸ G.r)
    have nn : 79 = 30 + 11 * (c + 1) + (38 - 11 * c) := by omega
    rw [nn]
    refine Run.more (n := 30 + 11 * (c + 1)) ?_ (38 - 11 * c)
    refine run_loop G.p2 G.p3 G.z2 G.z3 RB.left RB.right ?_ RN G.r c 1 _ _ 24 (by omega) ?_ hl2 (by decide) ?_ ?_
    · unfold Prg.mid Prg.rB
      rw [List.length_append, ← Nat.add_assoc]; rfl
    · exact getK_put _ _ _
    · have h : 4 ^ (c + 1) ≤ 4 ^ 2 := Nat.pow_le_pow_right (by decide) (Nat.succ_le_succ hc1)
      exact Nat.le_trans (Nat.mul_le_mul_left 24 h) (Nat.le_of_ble_eq_true rfl)
    · have := tail .off
      unfold Prg.e3 Prg.l3 at this
      rw [hc] at this
      exact this
end
end Mine
end
section
open PySem PySem.W PySem.Calls PyProof.Rows
set_option maxRecDepth 100000
set_option maxHeartbeats 4000000
set_option linter.unusedVariables false
namespace Mine
section
variable {b : CB}
noncomputable def Ag (ns : List Str) (l l' : Env0) : Prop := ∀ x ∈ ns, look l x = look l' x
theorem Ag.sub {ns ms : List Str} {l l' : Env0} (h : Ag ns l l') (hs : ∀ x ∈ ms, x ∈ ns) : Ag ms l l' := fun x m => h x (hs x m)
theorem seenF_ag {l l' : Env0} : ∀ (ns : List Str) (z : Int), Ag ns l l' → seenF l ns z = seenF l' ns z
  | [], _, _ => rfl
  | x :: ns, z, h => by
    show seenF l ns (100000 * z + look l x + 50000) = seenF l' ns (100000 * z + look l' x + 50000)
    rw [h x List.mem_cons_self]
    exact seenF_ag ns _ fun y m => h y (List.mem_cons_of_mem _ m)
theorem lf_ag {l l' : Env0} {t : T} (h : ∀ k ∈ t.nm1, look l k = look l' k) : lf l t = lf l' t := by
  cases t with
  | nm x => exact h x (.head _)
  | _ => rfl
theorem two_ag {l l' : Env0} {t : T} (h : ∀ k ∈ t.nms, look l k = look l' k) : t.val l = t.val l' ∧ t.tst l = t.tst l' := by
  cases t with
  | two op a c =>
    have ea := lf_ag (t := a) fun k m => h k (List.mem_append_left _ m)
    have ec := lf_ag (t := c) fun k m => h k (List.mem_append_right _ m)
    show arF op _ _ = arF op _ _ ∧ cmpF op _ _ = cmpF op _ _
    rw [ea, ec]; exact ⟨rfl, rfl⟩
  | _ => exact ⟨rfl, rfl⟩
theorem set_ag {x : Str} {e : T} {need : List Str} {l l' : Env0} (h : ∀ k, bk x e need k → look l k = look l' k) : Ag need (putK l x (.int (e.val l))) (putK l' x (.int (e.val l'))) := fun y m => by
  by_cases hy : y = x
  · subst hy
    rw [look_put, look_put]
    exact (two_ag fun k mk => h k (by unfold bk; rw [if_pos m]; exact .inr mk)).1
  · rw [look_putne hy, look_putne hy]
    refine h y ?_
    unfold bk
    by_cases hx : x ∈ need
    · rw [if_pos hx]; exact .inl ⟨m, hy⟩
    · rw [if_neg hx]; exact m
theorem run_ag {p : P} {need : List Str} {l l' : Env0} (hk : p.keeps need = true) (h : ∀ k, p.bk need k → look l k = look l' k) : Ag need (p.run l) (p.run l') := by
  cases p with
  | set x e => exact set_ag h
  | br c x₁ e₁ x₂ e₂ =>
    have h : ∀ k, (Mine.bk x₁ e₁ need k ∨ Mine.bk x₂ e₂ need k) ∨ k ∈ c.nms → look l k = look l' k := fun k q => h k (by
      show if (P.br c x₁ e₁ x₂ e₂).keeps need = true then _ else _
      rw [if_pos hk]; exact q)
    show Ag need (if c.tst l then putK l x₁ (.int (e₁.val l)) else putK l x₂ (.int (e₂.val l))) (if c.tst l' then putK l' x₁ (.int (e₁.val l')) else putK l' x₂ (.int (e₂.val l')))
    rw [(two_ag fun k m => h k (.inr m)).2]
    cases c.tst l' with
    | true => exact set_ag fun k q => h k (.inl (.inl q))
    | false => exact set_ag fun k q => h k (.inl (.inr q))
theorem run_out {p : P} {need : List Str} (hk : p.keeps need = false) (l : Env0) : Ag need (p.run l) l := fun y m => by
  have ne : ∀ x, x ∉ need → y ≠ x := fun x h e => h (e ▸ m)
  cases p with
  | set x e => exact look_putne (ne x (of_decide_eq_false hk))
  | br c x₁ e₁ x₂ e₂ =>
    obtain ⟨h1, h2⟩ := Bool.or_eq_false_iff.mp hk
    show look (if c.tst l then putK l x₁ (.int (e₁.val l)) else putK l x₂ (.int (e₂.val l))) y = look l y
    cases c.tst l with
    | true => exact look_putne (ne x₁ (of_decide_eq_false h1))
    | false => exact look_putne (ne x₂ (of_decide_eq_false h2))
theorem pre_ag (o : Option (List Str)) (l : Env0) : Ag ABC (preE o l) l := fun y m => by
  cases o with
  | none => rfl
  | some ns => exact look_putne fun e => X_not (e ▸ m)
theorem Ag.trans {ns : List Str} {a c e : Env0} (h : Ag ns a c) (h' : Ag ns c e) : Ag ns a e := fun x m => (h x m).trans (h' x m)
theorem Ag.symm {ns : List Str} {a c : Env0} (h : Ag ns a c) : Ag ns c a := fun x m => (h x m).symm
theorem back_out {p : P} {need ss : List Str} (B : Back p need ss) (hk : p.keeps need = false) (k : Str) : k ∈ ss ↔ k ∈ need := by
  rw [B.mem k]
  cases p with
  | set x e =>
    show bk x e need k ↔ _
    unfold bk
    rw [if_neg (of_decide_eq_false hk)]
  | br c x₁ e₁ x₂ e₂ =>
    show (if (P.br c x₁ e₁ x₂ e₂).keeps need = true then _ else _) ↔ _
    rw [if_neg (by rw [hk]; exact Bool.false_ne_true)]
theorem st_ag {p : P} {need ss : List Str} {k : Bool} {l l' : Env0} (hn : ∀ k ∈ need, k ∈ ABC) (B : Back p need ss) (hk : p.keeps need = true → k = true) (h : Ag ss l l') (o : Option (List Str)) : Ag need (stE k o p l) (stE true o p l') := by
  have pa : ∀ l, Ag ss (preE o l) l := fun l => (pre_ag o l).sub B.nd.sub
  have pb : ∀ l, Ag need (preE o l) l := fun l => (pre_ag o l).sub hn
  cases hp : p.keeps need with
  | true =>
    rw [hk hp]
    have : Ag ss (preE o l) (preE o l') := (pa l).trans (h.trans (pa l').symm)
    exact run_ag hp fun k q => this k ((B.mem k).mpr q)
  | false =>
    have h' : Ag need l l' := h.sub fun x m => (back_out B hp x).mpr m
    have hr : ∀ l, Ag need (p.run (preE o l)) l := fun l => (run_out hp _).trans (pb l)
    cases k with
    | true => exact (hr l).trans (h'.trans (hr l').symm)
    | false => exact h'.trans (hr l').symm
theorem stL_ag {p : P} {need ss : List Str} {k : Bool} {l l' : Env0} (hk : p.keeps need = true → k = true) (h : Ag ss l l') (L : List V) : stL k (optK (p.keeps need) ss) l L = stL true (optK (p.keeps need) ss) l' L := by
  cases hp : p.keeps need with
  | true =>
    rw [hk hp]
    show L ++ [noteV ss.length (seenF l ss 0)] = L ++ [noteV ss.length (seenF l' ss 0)]
    rw [seenF_ag ss 0 h]
  | false => cases k <;> rfl
section
variable {s2 s3 : P} {n2 n3 l2 l3 a c4 : List Str} {k2 k3 : Bool}
theorem loop_ag (hb : ∀ k ∈ a, k ∈ ABC) (B3 : Back s3 a l3) (B2 : Back s2 l3 l2) (hs : ∀ k ∈ l2, k ∈ a) (h2 : s2.keeps l3 = true → k2 = true) (h3 : s3.keeps a = true → k3 = true) :
    ∀ (c i : Nat) (l l' : Env0) (L : List V), Ag a l l' → Ag a (loopE k2 k3 (optK (s2.keeps l3) l2) (optK (s3.keeps a) l3) s2 s3 c i l) (loopE true true (optK (s2.keeps l3) l2) (optK (s3.keeps a) l3) s2 s3 c i l') ∧
      loopL k2 k3 (optK (s2.keeps l3) l2) (optK (s3.keeps a) l3) s2 s3 c i l L = loopL true true (optK (s2.keeps l3) l2) (optK (s3.keeps a) l3) s2 s3 c i l' L
  | 0, _, l, l', L, h => ⟨h, rfl⟩
  | c + 1, i, l, l', L, h => by
    have q2 := st_ag B3.nd.sub B2 h2 (h.sub hs) (optK (s2.keeps l3) l2)
    have q3 := st_ag hb B3 h3 q2 (optK (s3.keeps a) l3)
    have i_ : ∀ l : Env0, Ag a (putK l (S "I") (.int ((i : Int) + 1))) l := fun l y m => look_putne fun e => I_not (e ▸ hb y m)
    have := loop_ag hb B3 B2 hs h2 h3 c (i + 1) _ _ (rdL k2 k3 (optK (s2.keeps l3) l2) (optK (s3.keeps a) l3) s2 l L) ((i_ _).trans (q3.trans (i_ _).symm))
    have e : rdL k2 k3 (optK (s2.keeps l3) l2) (optK (s3.keeps a) l3) s2 l L = rdL true true (optK (s2.keeps l3) l2) (optK (s3.keeps a) l3) s2 l' L := by
      unfold rdL
      rw [stL_ag h3 q2, stL_ag h2 (h.sub hs)]
    refine ⟨this.1, this.2.trans ?_⟩
    rw [e]; rfl
end
end
end Mine
end
section
open PySem PySem.W PySem.Calls PyProof.Rows
set_option maxRecDepth 100000
set_option maxHeartbeats 4000000
set_option linter.unusedVariables false
namespace Mine
section
variable {b : CB}
noncomputable def allK : Nat → Bool := fun _ => true
noncomputable def Prg.slice (g : Prg) : Prop := Slice g.s0 g.s1 g.s2 g.s3 g.s4 g.nm g.n0 g.n1 g.n2 g.n3 g.n4
structure Prg.keep (g : Prg) (f : Nat → Bool) : Prop where
  (k0 : g.n0.isSome = true → f 0 = true) (k1 : g.n1.isSome = true → f 1 = true) (k2 : g.n2.isSome = true → f 2 = true) (k3 : g.n3.isSome = true → f 3 = true) (k4 : g.n4.isSome = true → f 4 = true)
theorem optK_some {c : Bool} {l : List Str} {k : Prop} (h : (optK c l).isSome = true → k) (hc : c = true) : k := h (by rw [hc]; rfl)
theorem prg_ag {g : Prg} (G : g.ok) (SL : g.slice) {f : Nat → Bool} (hf : g.keep f) (l : Env0) : g.notes f l = g.notes allK l ∧ look (g.env f l) g.nm = look (g.env allK l) g.nm := by
  obtain ⟨l4, a, l3, l2, c, l1, l0, B4, B3, B2, hc, ha, B1, B0, e4, e3, e2, e1, e0⟩ := SL
  obtain ⟨k0, k1, k2, k3, k4⟩ := hf
  rw [e0] at k0; rw [e1] at k1; rw [e2] at k2; rw [e3] at k3; rw [e4] at k4
  have hac : ∀ k, k ∈ a ↔ k ∈ l4 ∨ k ∈ l2 := fun k => (ha k).trans (hc k)
  have sa : ∀ k ∈ a, k ∈ ABC := fun k m => ((hac k).mp m).elim (B4.nd.sub k) (B2.nd.sub k)
  have sc : ∀ k ∈ c, k ∈ ABC := fun k m => sa k ((ha k).mpr m)
  have q0 : Ag l1 (stE (f 0) g.n0 g.s0 l) (stE true g.n0 g.s0 l) := st_ag B1.nd.sub B0 (optK_some k0) (fun _ _ => rfl) _
  have m0 : stL (f 0) g.n0 l [] = stL true g.n0 l [] := by rw [e0]; exact stL_ag (optK_some k0) (fun _ _ => rfl) _
  have q1 : Ag c (g.e2 f l) (g.e2 allK l) := st_ag sc B1 (optK_some k1) q0 _
  have m1 : g.l2 f l = g.l2 allK l := by
    unfold Prg.l2
    rw [m0, e1]; exact stL_ag (optK_some k1) q0 _
  have i_ : ∀ l : Env0, Ag c (putK l (S "I") (.int 1)) l := fun l y m => look_putne fun e => I_not (e ▸ sc y m)
  have qi : Ag a (putK (g.e2 f l) (S "I") (.int 1)) (putK (g.e2 allK l) (S "I") (.int 1)) := ((i_ _).trans (q1.trans (i_ _).symm)).sub fun k m => (ha k).mp m
  have LP := loop_ag sa B3 B2 (fun k m => (hac k).mpr (.inr m)) (optK_some k2) (optK_some k3) g.r 1 _ _ (g.l2 f l) qi
  rw [← e2, ← e3] at LP
  have q3 : Ag l4 (g.e3 f l) (g.e3 allK l) := LP.1.sub fun k m => (hac k).mpr (.inl m)
  have m3 : g.l3 f l = g.l3 allK l := LP.2.trans (by rw [m1]; rfl)
  have q4 : Ag [g.nm] (g.e4 f l) (g.e4 allK l) := st_ag G.nd.sub B4 (optK_some k4) q3 _
  have m4 : g.l4 f l = g.l4 allK l := by
    unfold Prg.l4
    rw [m3, e4]; exact stL_ag (optK_some k4) q3 _
  refine ⟨?_, ?_⟩
  · show g.l4 f l ++ [noteV 1 (seenF (g.e4 f l) [g.nm] 0)] = g.l4 allK l ++ [noteV 1 (seenF (g.e4 allK l) [g.nm] 0)]
    rw [m4, seenF_ag _ _ q4]
  · have p_ : ∀ l : Env0, Ag [g.nm] (preE (some [g.nm]) l) l := fun l => (pre_ag _ l).sub G.nd.sub
    exact (p_ _).trans (q4.trans (p_ _).symm) _ (.head _)
noncomputable def Prg.rounds (g : Prg) : Nat → Env0 → Env0
  | 0, l => l
  | c + 1, l => g.rounds c (g.s3.run (g.s2.run l))
noncomputable def Prg.own (g : Prg) (l : Env0) : Env0 := g.s4.run (g.rounds g.r (g.s1.run (g.s0.run l)))
theorem run_all {p : P} (hp : isP p) {l l' : Env0} (h : Ag ABC l l') : Ag ABC (p.run l) (p.run l') := by
  have nd : Nd ABC := ⟨by decide +kernel, fun _ m => m⟩
  have all : ∀ {x : Str}, x ∈ ABC → decide (x ∈ ABC) = true := fun m => decide_eq_true m
  cases p with
  | set x e => exact run_ag (all hp.1) fun k q => h k (bk_sub hp.2 nd q)
  | br c x₁ e₁ x₂ e₂ =>
    obtain ⟨h1, h2, h3, h4, h5⟩ := hp
    have hk : (P.br c x₁ e₁ x₂ e₂).keeps ABC = true := Bool.or_eq_true_iff.mpr (.inl (all h2))
    refine run_ag hk fun k q => h k ?_
    have q : if (P.br c x₁ e₁ x₂ e₂).keeps ABC = true then (Mine.bk x₁ e₁ ABC k ∨ Mine.bk x₂ e₂ ABC k) ∨ k ∈ c.nms else k ∈ ABC := q
    rw [if_pos hk] at q
    rcases q with (q | q) | q
    · exact bk_sub h3 nd q
    · exact bk_sub h5 nd q
    · exact (two_nms h1).1 k q
theorem st_all {p : P} (hp : isP p) (o : Option (List Str)) {l l' : Env0} (h : Ag ABC l l') : Ag ABC (stE true o p l) (p.run l') := run_all hp ((pre_ag o l).trans h)
theorem whole_ag {g : Prg} (G : g.ok) (l : Env0) : Ag ABC (g.env allK l) (g.own l) := by
  have i_ : ∀ (l : Env0) (v : V), Ag ABC (putK l (S "I") v) l := fun l v y m => look_putne fun e => I_not (e ▸ m)
  have lp : ∀ (c i : Nat) (l l' : Env0), Ag ABC l l' → Ag ABC (loopE true true g.n2 g.n3 g.s2 g.s3 c i l) (g.rounds c l') := by
    intro c
    induction c with
    | zero => exact fun _ _ _ h => h
    | succ c ih => exact fun i l l' h => ih (i + 1) _ _ ((i_ _ _).trans (st_all G.p3 _ (st_all G.p2 _ h)))
  exact (pre_ag _ _).trans (st_all G.p4 _ (lp _ _ _ _ ((i_ _ _).trans (st_all G.p1 _ (st_all G.p0 _ fun _ _ => rfl)))))
end
end Mine
end
section
open PySem PySem.W PySem.Calls PyProof.Rows
set_option maxRecDepth 100000
set_option maxHeartbeats 4000000
set_option linter.unusedVariables false
namespace Mine
section
variable {b : CB}
noncomputable def lawB : List Stmt := hB (hst 111)
noncomputable abbrev lawSc (cd : Value) : Sc := ⟨hD.scope, cd⟩
noncomputable def endP (v n : Nat) (nm wv av mv : V) : Vars := [(S "values", .loc v), (S "statements", .loc n), (S "name", nm), (S "whole", wv), (S "alone", av), (S "more", mv)]
theorem at_name {name : Str} (h : name ∈ ABC) : ∃ (i : Nat) (rest : List Nat), Builtin.Str.occurrences (S "ABCD") name 0 (S "ABCD").length 1 = i :: rest ∧ i < 4 ∧ ∀ l : Env0, (four l)[((i : Nat) : Int).toNat]? = some (.int (look l name)) := by
  rcases mem4 h with rfl | rfl | rfl | rfl
  · exact ⟨0, [], by decide +kernel, by decide, fun _ => rfl⟩
  · exact ⟨1, [], by decide +kernel, by decide, fun _ => rfl⟩
  · exact ⟨2, [], by decide +kernel, by decide, fun _ => rfl⟩
  · exact ⟨3, [], by decide +kernel, by decide, fun _ => rfl⟩
theorem k_law14 (C : CxK (mkC b)) {cd : Value} {R : Fl → Vars → St → Prop} (h : ∀ ρ σ, R (.ret (.bool true)) ρ σ) {name : Str} (hname : name ∈ ABC) {l l2 l3 : Env0} {v n p2 q2 p3 q3 : Nat} {wv : V} {σ : St} (hl : has l) (hv : σ[v]? = some (.dictS l)) (h2 : σ[q2]? = some (.list (four l2))) (h3 : σ[q3]? = some (.list (four l3)))
    (e2 : look l2 name = look l name) (e3 : look l3 name = look l name) :
    ((wp (mkC b) 40 46) (lawSc cd)).Ss (lawB.drop 14) (endP v n (.str name) wv (.tup [.loc p2, .loc q2]) (.tup [.loc p3, .loc q3])) σ R := by
  obtain ⟨i, rest, ho, hi, hf⟩ := at_name hname
  have hi63 : ((i : Nat) : Int) < 2 ^ 63 := cast_lt (Nat.le_of_lt hi) (by decide)
  refine Gm_index (KCa_index ho ?_)
  refine Gi_loc h2 (Int.natCast_nonneg _) (hf _) ?_ hi63
  refine Gi_dictS hv (hl _ hname) ?_
  rw [e2]
  refine br_dT rfl ?_
  refine Gm_index (KCa_index ho ?_)
  refine Gi_loc h3 (Int.natCast_nonneg _) (hf _) ?_ hi63
  rw [e3]
  have : ∀ t : Bool, t = true → R (.ret (.bool t)) (endP v n (.str name) wv (.tup [.loc p2, .loc q2]) (.tup [.loc p3, .loc q3])) σ := fun t e => e ▸ h _ _
  exact this _ (decide_eq_true rfl)
theorem k_law13 (C : CxK (mkC b)) {cd : Value} {R : Fl → Vars → St → Prop} (h : ∀ ρ σ, R (.ret (.bool true)) ρ σ) {name : Str} (hname : name ∈ ABC) {l l1 l2 l3 : Env0} {v n p1 q1 p2 q2 p3 q3 : Nat} {σ : St} (hl : has l) (hv : σ[v]? = some (.dictS l)) (h1 : σ[q1]? = some (.list (four l1))) (h2 : σ[q2]? = some (.list (four l2))) (h3 : σ[q3]? = some (.list (four l3)))
    (e1 : Ag ABC l1 l) (e2 : look l2 name = look l name) (e3 : look l3 name = look l name) :
    ((wp (mkC b) 40 47) (lawSc cd)).Ss (lawB.drop 13) (endP v n (.str name) (.tup [.loc p1, .loc q1]) (.tup [.loc p2, .loc q2]) (.tup [.loc p3, .loc q3])) σ R := by
  refine Iv_str (by decide +kernel) ⟨trivial, ?_⟩
  refine wC4 (ua := .int (look l (S "A"))) (ub := .int (look l (S "B"))) (uc := .int (look l (S "C"))) (ue := .int (look l (S "D"))) (fun _ => trivial) (fun Q q => Gi_dictS (app_l hv) (hl _ mA) q) (fun Q q => Gi_dictS (app_l hv) (hl _ mB) q) (fun Q q => Gi_dictS (app_l hv) (hl _ mC) q) (fun Q q => Gi_dictS (app_l hv) (hl _ mD) q) ?_
  have e : four l1 = [.int (look l (S "A")), .int (look l (S "B")), .int (look l (S "C")), .int (look l (S "D"))] := by
    unfold four
    rw [e1 _ mA, e1 _ mB, e1 _ mC, e1 _ mD]
  rw [e] at h1
  refine Cm_neL (.inr ⟨_, rfl, .inl (app_l h1)⟩) (.inr ⟨_, rfl, .inl app_0⟩) rfl ?_
  refine ss_nil ?_
  exact k_law14 C h hname hl (app_l hv) (app_l h2) (app_l h3) e2 e3
end
end Mine
end
section
open PySem PySem.W PySem.Calls PyProof.Rows
set_option maxRecDepth 100000
set_option maxHeartbeats 4000000
set_option linter.unusedVariables false
namespace Mine
section
variable {b : CB}
set_option maxHeartbeats 400000
noncomputable def fb : List Stmt := forB (lawB[12]? : Option Stmt)
section
variable {cd : Value} {R : Fl → Vars → St → Prop} {v n : Nat} {nm wv av mv iv : V} {l : Env0} {σ : St}
theorem k_fb (C : CxK (mkC b)) {i : Nat} {p : P} {ls : List V} (hp : isP p) (hi : i < 5) (hn : σ[n]? = some (.list ls)) (hx : ls[i]? = some p.v) (hl : has l) (hz : l.length ≤ 900) (hv : σ[v]? = some (.dictS l)) 
    (h : ∀ sv, R .next (endP v n nm wv av mv ++ [(S "at", .int (i : Nat)), (S "statement", sv)]) (σ.set v (.dictS (p.run l)))) :
    ((wp (mkC b) 40 40) (lawSc cd)).Ss fb (endP v n nm wv av mv ++ [(S "at", .int (i : Nat))]) σ R := by
  refine Gi_loc hn (Int.natCast_nonneg _) (by rw [Int.toNat_natCast]; exact hx) ?_ (cast_lt (Nat.le_of_lt hi) (by decide))
  cases p with
  | set x e =>
    refine k_val C hp.2 hv hl ?_
    exact Si_dictS hv (Nat.le_trans hz (Nat.le_of_ble_eq_true rfl)) (h _)
  | br c x₁ e₁ x₂ e₂ =>
    obtain ⟨h1, h2, h3, h4, h5⟩ := hp
    refine k_tst C h1 hv hl ?_
    have h : ∀ sv, R .next (endP v n nm wv av mv ++ [(S "at", .int (i : Nat)), (S "statement", sv)]) (σ.set v (.dictS (if c.tst l then putK l x₁ (.int (e₁.val l)) else putK l x₂ (.int (e₂.val l))))) := h
    cases ht : c.tst l with
    | true =>
      rw [ht] at h
      refine Gi_lst (v := letV x₁ e₁) (by decide) rfl ?_
      refine k_val C h3 hv hl ?_
      exact Si_dictS hv (Nat.le_trans hz (Nat.le_of_ble_eq_true rfl)) (h _)
    | false =>
      rw [ht] at h
      refine Gi_lst (v := letV x₂ e₂) (by decide) rfl ?_
      refine k_val C h5 hv hl ?_
      exact Si_dictS hv (Nat.le_trans hz (Nat.le_of_ble_eq_true rfl)) (h _)
end
theorem run_le (s : P) (l : Env0) : (s.run l).length ≤ l.length + 1 := by
  cases s with
  | set x e => exact putK_le _ _ _
  | br c x₁ e₁ x₂ e₂ =>
    show (if c.tst l then putK l x₁ (.int (e₁.val l)) else putK l x₂ (.int (e₂.val l))).length ≤ _
    cases c.tst l
    · exact putK_le _ _ _
    · exact putK_le _ _ _
theorem put_has {l : Env0} (h : has l) {x : Str} {z : Int} : has (putK l x (.int z)) := fun y m => by
  by_cases hy : y = x
  · subst hy; rw [getK_put, look_put]
  · rw [getK_putne _ _ hy, look_putne hy]; exact h y m
theorem run_has {l : Env0} (h : has l) (s : P) : has (s.run l) := by
  cases s with
  | set x e => exact put_has h
  | br c x₁ e₁ x₂ e₂ =>
    show has (if c.tst l then putK l x₁ (.int (e₁.val l)) else putK l x₂ (.int (e₂.val l)))
    cases c.tst l
    · exact put_has h
    · exact put_has h
theorem rounds_has (g : Prg) : ∀ (c : Nat) {l : Env0}, has l → has (g.rounds c l)
  | 0, _, h => h
  | c + 1, _, h => rounds_has g c (run_has (run_has h _) _)
theorem own_has {g : Prg} {l : Env0} (h : has l) : has (g.own l) := run_has (rounds_has g g.r (run_has (run_has h _) _)) _
noncomputable def atE : Expr := match (lawB[12]? : Option Stmt) with | some (Stmt.For t _ _ _ _) => t | _ => .Name (S "at") hpos
theorem k_own (C : CxK (mkC b)) {cd : Value} {R : Fl → Vars → St → Prop} {v n : Nat} {nm wv av mv : V} {ls : List V} {K : St → Prop} (hK : ∀ σ, K σ) : ∀ (ips : List (Nat × P)) {l : Env0} {σ : St}, (∀ q ∈ ips, isP q.2 ∧ q.1 < 5 ∧ ls[q.1]? = some q.2.v) → has l → l.length + ips.length ≤ 900 → σ[v]? = some (.dictS l) → σ[n]? = some (.list ls) →
    R .next (endP v n nm wv av mv) (σ.set v (.dictS (ips.foldl (fun l q => q.2.run l) l))) →
    kLOOPS (mkC b) (lawSc cd) 40 ["values", "statements", "name", "whole", "alone", "more"] atE fb K R (ips.map fun q => .int (q.1 : Nat)) (endP v n nm wv av mv) σ
  | [], l, σ, _, _, _, hv, _, h => by rw [List.foldl_nil, set_same hv] at h; exact h
  | (i, p) :: ips, l, σ, hp, hl, hz, hv, hn, h => by
    obtain ⟨h1, h2, h3⟩ := hp _ List.mem_cons_self
    refine k_fb C h1 h2 hn h3 hl (Nat.le_of_add_right_le hz) hv fun sv => ⟨hK _, ?_⟩
    refine k_own C hK ips (fun q m => hp q (List.mem_cons_of_mem _ m)) (run_has hl p) (add_succ_le (run_le p l) hz) (set_hit hv) (set_miss (ne_of_kind hv hn nofun) hn) ?_
    rw [List.set_set]; exact h
section
variable {cd : Value} {R : Fl → Vars → St → Prop} {v n p1 q1 p2 q2 p3 q3 : Nat} {l : Env0} {σ : St}
theorem k_law12 (C : CxK (mkC b)) (h : ∀ ρ σ, R (.ret (.bool true)) ρ σ) {g : Prg} (G : g.ok) (hl : has l) (hz : l.length ≤ 100) (hv : σ[v]? = some (.dictS l)) (hn : σ[n]? = some (slV g.s0 g.s1 g.s2 g.s3 g.s4)) {l1 l2 l3 : Env0}
    (h1 : σ[q1]? = some (.list (four l1))) (h2 : σ[q2]? = some (.list (four l2))) (h3 : σ[q3]? = some (.list (four l3))) (e1 : Ag ABC l1 (g.own l)) (e2 : look l2 g.nm = look (g.own l) g.nm) (e3 : look l3 g.nm = look (g.own l) g.nm)
    {v0 v1 v3 v4 v5 : V} : ((wp (mkC b) 40 48) (lawSc cd)).Ss (lawB.drop 12) [(S "script", v0), (S "bag", v1), (S "rounds", .int (g.r : Nat)), (S "values", .loc v), (S "statements", .loc n), (S "name", .str g.nm), (S "needs", v3), (S "slice_alone", v4), (S "others", v5), (S "whole", .tup [.loc p1, .loc q1]), (S "alone", .tup [.loc p2, .loc q2]), (S "more", .tup [.loc p3, .loc q3])] σ R := by
  refine W_For C ["values", "statements", "name", "whole", "alone", "more"] ?_
  refine W_ListF C ?_
  refine W_ListF C ?_
  have fin : ((wp (mkC b) 40 47) (lawSc cd)).Ss (lawB.drop 13) (endP v n (.str g.nm) (.tup [.loc p1, .loc q1]) (.tup [.loc p2, .loc q2]) (.tup [.loc p3, .loc q3])) (σ.set v (.dictS (g.own l))) R :=
    k_law13 C h G.nm (own_has hl) (set_hit hv) (set_miss (ne_of_kind hv h1 nofun) h1) (set_miss (ne_of_kind hv h2 nofun) h2) (set_miss (ne_of_kind hv h3 nofun) h3) e1 e2 e3
  have m : (g.r = 0 ∨ g.r = 1 ∨ g.r = 2) := lt3 (Nat.lt_succ_of_le G.r)
  unfold Prg.own at fin
  have pz : ∀ ips : List (Nat × P), (∀ q ∈ ips, q = (0, g.s0) ∨ q = (1, g.s1) ∨ q = (2, g.s2) ∨ q = (3, g.s3) ∨ q = (4, g.s4)) → ∀ q ∈ ips, isP q.2 ∧ q.1 < 5 ∧ [g.s0.v, g.s1.v, g.s2.v, g.s3.v, g.s4.v][q.1]? = some q.2.v := fun ips h q mq => by
    rcases h q mq with rfl | rfl | rfl | rfl | rfl
    · exact ⟨G.p0, Nat.le_of_ble_eq_true rfl, rfl⟩
    · exact ⟨G.p1, Nat.le_of_ble_eq_true rfl, rfl⟩
    · exact ⟨G.p2, Nat.le_of_ble_eq_true rfl, rfl⟩
    · exact ⟨G.p3, Nat.le_of_ble_eq_true rfl, rfl⟩
    · exact ⟨G.p4, Nat.le_of_ble_eq_true rfl, rfl⟩
  have go : ∀ {K : St → Prop} {R' : Fl → Vars → St → Prop} (hK : ∀ σ, K σ) (ips : List (Nat × P)), (∀ q ∈ ips, q = (0, g.s0) ∨ q = (1, g.s1) ∨ q = (2, g.s2) ∨ q = (3, g.s3) ∨ q = (4, g.s4)) → Nat.ble ips.length 700 = true → ips.foldl (fun l q => q.2.run l) l = g.s4.run (g.rounds g.r (g.s1.run (g.s0.run l))) →
      R' .next (endP v n (.str g.nm) (.tup [.loc p1, .loc q1]) (.tup [.loc p2, .loc q2]) (.tup [.loc p3, .loc q3])) (σ.set v (.dictS (g.s4.run (g.rounds g.r (g.s1.run (g.s0.run l)))))) →
      kLOOPS (mkC b) (lawSc cd) 40 ["values", "statements", "name", "whole", "alone", "more"] atE fb K R' (ips.map fun q => .int (q.1 : Nat)) (endP v n (.str g.nm) (.tup [.loc p1, .loc q1]) (.tup [.loc p2, .loc q2]) (.tup [.loc p3, .loc q3])) σ :=
    fun hK ips h1 h2 h3 h4 => k_own C hK ips (pz ips h1) hl (Nat.le_trans (Nat.add_le_add hz (Nat.le_of_ble_eq_true h2)) (Nat.le_of_ble_eq_true rfl)) hv hn (h3 ▸ h4)
  have ip : ∀ {q : Nat × P} {ips : List (Nat × P)}, (q = (0, g.s0) ∨ q = (1, g.s1) ∨ q = (2, g.s2) ∨ q = (3, g.s3) ∨ q = (4, g.s4)) → (∀ q ∈ ips, q = (0, g.s0) ∨ q = (1, g.s1) ∨ q = (2, g.s2) ∨ q = (3, g.s3) ∨ q = (4, g.s4)) → ∀ q' ∈ q :: ips, q' = (0, g.s0) ∨ q' = (1, g.s1) ∨ q' = (2, g.s2) ∨ q' = (3, g.s3) ∨ q' = (4, g.s4) := fun a b => List.forall_mem_cons.mpr ⟨a, b⟩
  have i0 : (0, g.s0) = (0, g.s0) ∨ (0, g.s0) = (1, g.s1) ∨ (0, g.s0) = (2, g.s2) ∨ (0, g.s0) = (3, g.s3) ∨ (0, g.s0) = (4, g.s4) := .inl rfl
  rcases m with e | e | e
  all_goals
    rw [e]
    refine Bi_mulL (.inl rfl) (fun e => nomatch e) (Nat.le_of_ble_eq_true rfl) (Nat.le_of_ble_eq_true rfl) ?_
    refine Bi_addL (.inl rfl) (.inl rfl) (Nat.le_of_ble_eq_true rfl) ?_
    refine W_ListF C ?_
    refine Bi_addL (.inl rfl) (.inl rfl) (Nat.le_of_ble_eq_true rfl) ?_
    refine Iv_lst fun K hK => ?_
  · exact go hK [(0, g.s0), (1, g.s1), (4, g.s4)] (ip i0 (ip (.inr (.inl rfl)) (ip (.inr (.inr (.inr (.inr rfl)))) nofun))) rfl (by rw [e]; rfl) fin
  · exact go hK [(0, g.s0), (1, g.s1), (2, g.s2), (3, g.s3), (4, g.s4)] (ip i0 (ip (.inr (.inl rfl)) (ip (.inr (.inr (.inl rfl))) (ip (.inr (.inr (.inr (.inl rfl)))) (ip (.inr (.inr (.inr (.inr rfl)))) nofun))))) rfl (by rw [e]; rfl) fin
  · exact go hK [(0, g.s0), (1, g.s1), (2, g.s2), (3, g.s3), (2, g.s2), (3, g.s3), (4, g.s4)] (ip i0 (ip (.inr (.inl rfl)) (ip (.inr (.inr (.inl rfl))) (ip (.inr (.inr (.inr (.inl rfl)))) (ip (.inr (.inr (.inl rfl))) (ip (.inr (.inr (.inr (.inl rfl)))) (ip (.inr (.inr (.inr (.inr rfl)))) nofun))))))) rfl (by rw [e]; rfl) fin
end
end
end Mine
end
section
open PySem PySem.W PySem.Calls PyProof.Rows
set_option maxRecDepth 100000
set_option maxHeartbeats 4000000
set_option linter.unusedVariables false
namespace Mine
section
variable {b : CB}
noncomputable def seqV : Nat → Nat → List V
  | _, 0 => []
  | i, c + 1 => .int (i : Nat) :: seqV (i + 1) c
noncomputable def keptI (f : Nat → Bool) : Nat → Nat → List Int
  | _, 0 => []
  | i, c + 1 => match f i with
    | true => (i : Int) :: keptI f (i + 1) c
    | false => keptI f (i + 1) c
theorem kept_mem {f : Nat → Bool} {j : Nat} : ∀ (c i : Nat), ((j : Int) ∈ keptI f i c) ↔ (i ≤ j ∧ j < i + c ∧ f j = true)
  | 0, i => ⟨nofun, fun h => by omega⟩
  | c + 1, i => by
    have ih := kept_mem (f := f) (j := j) c (i + 1)
    have e : (j : Int) ∈ keptI f i (c + 1) ↔ (j = i ∧ f i = true) ∨ (j : Int) ∈ keptI f (i + 1) c := by
      show (j : Int) ∈ (match f i with | true => (i : Int) :: keptI f (i + 1) c | false => keptI f (i + 1) c) ↔ _
      cases f i with
      | true => exact List.mem_cons.trans (or_congr ⟨fun e => ⟨Int.ofNat.inj e, rfl⟩, fun e => congrArg _ e.1⟩ Iff.rfl)
      | false => exact ⟨.inr, fun h => h.elim (fun q => nomatch q.2) id⟩
    rw [e, ih]
    constructor
    · rintro (⟨rfl, h⟩ | ⟨h1, h2, h3⟩)
      · exact ⟨Nat.le_refl _, Nat.lt_add_of_pos_right (Nat.succ_pos _), h⟩
      · exact ⟨Nat.le_of_succ_le h1, by omega, h3⟩
    · rintro ⟨h1, h2, h3⟩
      rcases Nat.eq_or_lt_of_le h1 with rfl | h
      · exact .inl ⟨rfl, h3⟩
      · exact .inr ⟨h, by omega, h3⟩
theorem kept_of {σ : St} {n : Nat} {f : Nat → Bool} (h : σ[n]? = some (.list ((keptI f 0 5).map .int))) : KeptIs σ f (.loc n) := .list h fun i hi => by
  cases hf : f i with
  | true => exact (decide_eq_true ((kept_mem 5 0).mpr ⟨Nat.zero_le _, by omega, hf⟩)).symm
  | false => exact (decide_eq_false fun q => by rw [((kept_mem 5 0).mp q).2.2] at hf; cases hf).symm
theorem keptI_congr {f f' : Nat → Bool} : ∀ (c i : Nat), (∀ j, i ≤ j → f j = f' j) → keptI f i c = keptI f' i c
  | 0, _, _ => rfl
  | c + 1, i, h => by
    show (match f i with | true => (i : Int) :: keptI f (i + 1) c | false => keptI f (i + 1) c) = (match f' i with | true => (i : Int) :: keptI f' (i + 1) c | false => keptI f' (i + 1) c)
    rw [h i (Nat.le_refl _), keptI_congr c (i + 1) fun j hj => h j (Nat.le_of_succ_le hj)]
theorem wCJ {F : Rec} {sc : Sc} {elt tst : Expr} {x : Str} {K : St → Prop} {N : Nat} {T : List V → St → Prop} {ρ₀ : Vars} {J : Nat → St → Prop} {ok : Nat → Bool → Prop} (hK : ∀ σ', K σ') (hJ : ∀ i τ, J i τ → τ.length = N)
    (ht : ∀ (i : Nat) (τ : St) (acc : List V) (B : Bool → St → Prop), i < 5 → J i τ → (∀ t τ', ok i t → J (i + 1) τ' → B t (τ' ++ [.list acc])) → (F sc).T tst (put ρ₀ x (.int (i : Nat))) (τ ++ [.list acc]) B)
    (he : ∀ (v : V) (σ : St) (Q : Post), Q v σ → (F sc).E elt (put ρ₀ x v) σ Q) :
    ∀ (c i : Nat) (acc : List V) (ρ : Vars) (τ : St), i + c = 5 → (∀ v, put ρ x v = put ρ₀ x v) → J i τ → acc.length + c ≤ 9000 → (∀ f τ', (∀ j, i ≤ j → j < 5 → ok j (f j)) → J 5 τ' → T (acc ++ (keptI f i c).map .int) (τ' ++ [.list (acc ++ (keptI f i c).map .int)])) →
      wCOMPSF F sc elt tst x K N T (seqV i c) acc ρ (τ ++ [.list acc])
  | 0, i, acc, ρ, τ, hi, hρ, j, hz, h => by
    obtain rfl : i = 5 := hi
    obtain rfl := hJ 5 τ j
    have := h (fun _ => true) τ (fun j h1 h2 => absurd h1 (Nat.not_le.mpr h2)) j
    rw [show acc ++ (keptI (fun _ => true) 5 0).map V.int = acc from List.append_nil acc] at this
    exact ⟨app_0, this⟩
  | c + 1, i, acc, ρ, τ, hi, hρ, j, hz, h => by
    show (F sc).T tst (put ρ x (.int (i : Nat))) (τ ++ [.list acc]) _
    rw [hρ]
    refine ht i τ acc _ (by omega) j fun t τ' ho j' => ?_
    have ext : ∀ f : Nat → Bool, (∀ j, i + 1 ≤ j → j < 5 → ok j (f j)) → ∃ f' : Nat → Bool, (∀ j, i ≤ j → j < 5 → ok j (f' j)) ∧ f' i = t ∧ keptI f (i + 1) c = keptI f' (i + 1) c := fun f hf => by
      refine ⟨fun y => if y = i then t else f y, fun y h1 h2 => ?_, if_pos rfl, keptI_congr c (i + 1) fun y hy => (if_neg (Nat.ne_of_gt hy)).symm⟩
      show ok y (if y = i then t else f y)
      by_cases e : y = i
      · rw [if_pos e, e]; exact ho
      · rw [if_neg e]; exact hf y (Nat.lt_of_le_of_ne h1 (Ne.symm e)) h2
    cases t with
    | true =>
      refine he _ _ _ ?_
      obtain rfl := hJ _ _ j'
      refine ⟨app_0, Nat.le_of_add_right_le hz, hK _, ?_⟩
      rw [setLast]
      refine wCJ hK hJ ht he c (i + 1) _ _ τ' (by omega) (fun u => put_put) j' (by rw [List.length_append]; exact Nat.le_trans (Nat.le_of_eq (Nat.succ_add_eq_add_succ _ _)) hz) fun f τ'' hf j'' => ?_
      obtain ⟨f', h1, h2, h3⟩ := ext f hf
      have := h f' τ'' h1 j''
      rw [show keptI f' i (c + 1) = (i : Int) :: keptI f' (i + 1) c by
        show (match f' i with | true => (i : Int) :: keptI f' (i + 1) c | false => keptI f' (i + 1) c) = _
        rw [h2], ← h3] at this
      rw [List.append_assoc]; exact this
    | false =>
      refine ⟨hK _, wCJ hK hJ ht he c (i + 1) acc _ τ' (by omega) (fun u => put_put) j' (Nat.le_of_succ_le hz) fun f τ'' hf j'' => ?_⟩
      obtain ⟨f', h1, h2, h3⟩ := ext f hf
      have := h f' τ'' h1 j''
      rw [show keptI f' i (c + 1) = keptI f' (i + 1) c by
        show (match f' i with | true => (i : Int) :: keptI f' (i + 1) c | false => keptI f' (i + 1) c) = _
        rw [h2], ← h3] at this
      exact this
end
end Mine
end
section
open PySem PySem.W PySem.Calls PyProof.Rows
set_option maxRecDepth 100000
set_option maxHeartbeats 4000000
set_option linter.unusedVariables false
namespace Mine
section
variable {b : CB}
theorem optK_ok {c : Bool} {l : List Str} (h : Nd l) : okO (optK c l) := fun ns e => by
  cases c with
  | true => cases e; exact h
  | false => cases e
theorem ok_short {o : Option (List Str)} (h : okO o) : short o := fun ns e => Nat.le_trans (h ns e).len (Nat.le_of_ble_eq_true rfl)
noncomputable def ndV (g : Prg) : SO := .list [optL g.n0, optL g.n1, optL g.n2, optL g.n3, optL g.n4]
section
variable {cd : Value} {n nd v : Nat} {l : Env0} {σ : St}
theorem k_part (C : CxK (mkC b)) {d : Nat} {g : Prg} (G : g.ok) {f : Nat → Bool} {kv : V} {Q : Post} (hl : EnvB l 6) (hz : l.length ≤ 100) (hn : σ[n]? = some (slV g.s0 g.s1 g.s2 g.s3 g.s4)) (hnd : σ[nd]? = some (ndV g)) (hne : n ≠ nd) (H : KeptIs σ f kv) (hv : σ[v]? = some (.dictS l))
    (h : ∀ σ' p q, Old σ σ' σ.length → σ'[p]? = some (.list (g.notes f l)) → σ'[q]? = some (.list (four (g.env f l))) → Q (.tup [.loc p, .loc q]) σ') :
    Ca (mkC b) (d + 14) (ref 786) [.loc n, kv, .loc nd, .int (g.r : Nat), .str g.nm] σ fun lv σ₁ => Ca (mkC b) (d + 14) (ref 798) [lv, .loc v] σ₁ Q := by
  refine k_lines C (d := d + 12) hn hnd hne H (ok_short G.z0) (ok_short G.z1) (ok_short G.z2) (ok_short G.z3) (ok_short G.z4) fun t => ?_
  obtain ⟨a1, a2, a3, a4⟩ := lines_is g f
  obtain ⟨q1, q2, q3⟩ := rows_quiet g f
  refine k_lawRun C (xs := g.lines f) (app_l hv) hz (G.env hl).has a3 a2 a4 a1 q1 q2 q3 (rows_le200 g f) (run_prg G f hl) fun σ' p q O hp hq => h σ' p q (fun i o hi e => O i o (by rw [List.length_append]; exact Nat.lt_of_lt_of_le hi (Nat.le_add_right _ _)) (app_l e)) hp hq
theorem Old.at {σ σ' : St} {i : Nat} {o : SO} (h : Old σ σ' σ.length) (e : σ[i]? = some o) : σ'[i]? = some o := h i o (List.getElem?_eq_some_iff.mp e).1 e
theorem loop_flat {k2 k3 : Bool} {o2 o3 : Option (List Str)} {s2 s3 : P} : ∀ (c i : Nat) (l : Env0) (L : List V), L.all flat1 = true → (loopL k2 k3 o2 o3 s2 s3 c i l L).all flat1 = true ∧ ∀ k o l, (stL k o l L).all flat1 = true := by
  have st : ∀ (L : List V), L.all flat1 = true → ∀ k o l, (stL k o l L).all flat1 = true := fun L h k o l => by
    cases k with
    | false => exact h
    | true => cases o with
      | none => exact h
      | some ns =>
        show (L ++ [noteV ns.length (seenF l ns 0)]).all flat1 = true
        rw [List.all_append, h]; rfl
  intro c
  induction c with
  | zero => exact fun i l L h => ⟨h, st L h⟩
  | succ c ih => exact fun i l L h => ⟨(ih (i + 1) _ _ (st _ (st _ h _ _ _) _ _ _)).1, st L h⟩
theorem notes_flat (g : Prg) (f : Nat → Bool) (l : Env0) : (g.notes f l).all flat1 = true := by
  have st : ∀ {L : List V} {k : Bool} {o : Option (List Str)} {l : Env0}, L.all flat1 = true → (stL k o l L).all flat1 = true := fun h => (loop_flat (k2 := true) (k3 := true) (o2 := none) (o3 := none) (s2 := g.s0) (s3 := g.s0) 0 0 [] _ h).2 _ _ _
  exact st (k := true) (o := some [g.nm]) (st (loop_flat _ _ _ _ (st (st rfl))).1)
end
section
variable {cd : Value} {R : Fl → Vars → St → Prop} {n nd v a o : Nat} {l : Env0} {σ : St} {f2 f3 : Nat → Bool} {v0 v1 : V}
theorem k_law11 (C : CxK (mkC b)) (h : ∀ ρ σ, R (.ret (.bool true)) ρ σ) {g : Prg} (G : g.ok) (SL : g.slice) (K2 : g.keep f2) (K3 : g.keep f3) (hl : EnvB l 6) (hz : l.length ≤ 100) (hn : σ[n]? = some (slV g.s0 g.s1 g.s2 g.s3 g.s4)) (hv : σ[v]? = some (.dictS l)) {p1 q1 p2 q2 p3 q3 : Nat}
    (x1 : σ[p1]? = some (.list (g.notes allK l))) (y1 : σ[q1]? = some (.list (four (g.env allK l)))) (x2 : σ[p2]? = some (.list (g.notes f2 l))) (y2 : σ[q2]? = some (.list (four (g.env f2 l)))) (x3 : σ[p3]? = some (.list (g.notes f3 l))) (y3 : σ[q3]? = some (.list (four (g.env f3 l)))) :
    ((wp (mkC b) 40 49) (lawSc cd)).Ss (lawB.drop 11) [(S "script", v0), (S "bag", v1), (S "rounds", .int (g.r : Nat)), (S "values", .loc v), (S "statements", .loc n), (S "name", .str g.nm), (S "needs", .loc nd), (S "slice_alone", .loc a), (S "others", .loc o), (S "whole", .tup [.loc p1, .loc q1]), (S "alone", .tup [.loc p2, .loc q2]), (S "more", .tup [.loc p3, .loc q3])] σ R := by
  obtain ⟨e2, w2⟩ := prg_ag G SL K2 l
  obtain ⟨e3, w3⟩ := prg_ag G SL K3 l
  have wh := whole_ag G l
  rw [e2] at x2
  rw [e3] at x3
  refine Cm_neL (.inr ⟨_, rfl, .inl x2⟩) (.inr ⟨_, rfl, .inl x1⟩) (notes_flat g allK l) ?_
  refine Cm_neL (.inr ⟨_, rfl, .inl x3⟩) (.inr ⟨_, rfl, .inl x1⟩) (notes_flat g allK l) ?_
  exact k_law12 C h G hl.has hz hv hn y1 y2 y3 wh (w2.trans (wh _ G.nm)) (w3.trans (wh _ G.nm))
theorem k_law8 (C : CxK (mkC b)) (h : ∀ ρ σ, R (.ret (.bool true)) ρ σ) {g : Prg} (G : g.ok) (SL : g.slice) (K2 : g.keep f2) (K3 : g.keep f3) (hl : EnvB l 6) (hz : l.length ≤ 100) (hn : σ[n]? = some (slV g.s0 g.s1 g.s2 g.s3 g.s4)) (hnd : σ[nd]? = some (ndV g)) (hne : n ≠ nd) (hv : σ[v]? = some (.dictS l))
    (ha : σ[a]? = some (.list ((keptI f2 0 5).map .int))) (ho : σ[o]? = some (.list ((keptI f3 0 5).map .int))) :
    ((wp (mkC b) 40 52) (lawSc cd)).Ss (lawB.drop 8) [(S "script", v0), (S "bag", v1), (S "rounds", .int (g.r : Nat)), (S "values", .loc v), (S "statements", .loc n), (S "name", .str g.nm), (S "needs", .loc nd), (S "slice_alone", .loc a), (S "others", .loc o)] σ R := by
  refine Ca_range (n := 5) ?_
  refine k_part C (d := 26) G hl hz (app_l hn) (app_l hnd) hne (f := allK) (.rng app_0 fun _ _ => rfl) (app_l hv) fun σ1 p1 q1 O1 x1 y1 => ?_
  refine k_part C (d := 26) G hl hz (O1.at (app_l hn)) (O1.at (app_l hnd)) hne (f := f2) (kept_of (O1.at (app_l ha))) (O1.at (app_l hv)) fun σ2 p2 q2 O2 x2 y2 => ?_
  refine k_part C (d := 26) G hl hz (O2.at (O1.at (app_l hn))) (O2.at (O1.at (app_l hnd))) hne (f := f3) (kept_of (O2.at (O1.at (app_l ho)))) (O2.at (O1.at (app_l hv))) fun σ3 p3 q3 O3 x3 y3 => ?_
  exact k_law11 C h G SL K2 K3 hl hz (O3.at (O2.at (O1.at (app_l hn)))) (O3.at (O2.at (O1.at (app_l hv)))) (O3.at (O2.at x1)) (O3.at (O2.at y1)) (O3.at x2) (O3.at y2) x3 y3
end
end
end Mine
end
section
open PySem PySem.W PySem.Calls PyProof.Rows
set_option maxRecDepth 100000
set_option maxHeartbeats 4000000
set_option linter.unusedVariables false
namespace Mine
section
variable {b : CB}
set_option maxHeartbeats 400000
noncomputable def nN (g : Prg) : Nat → Option (List Str)
  | 0 => g.n0
  | 1 => g.n1
  | 2 => g.n2
  | 3 => g.n3
  | _ => g.n4
theorem nN_at (g : Prg) {i : Nat} (hi : i < 5) : [optL g.n0, optL g.n1, optL g.n2, optL g.n3, optL g.n4][((i : Nat) : Int).toNat]? = some (optL (nN g i)) := by
  rw [Int.toNat_natCast]
  rcases lt5 hi with rfl | rfl | rfl | rfl | rfl <;> rfl
noncomputable def okN (g : Prg) (i : Nat) (t : Bool) : Prop := (nN g i).isSome = true → t = true
theorem keep_okN {g : Prg} {f : Nat → Bool} (h : ∀ j, 0 ≤ j → j < 5 → okN g j (f j)) : g.keep f := ⟨h 0 (Nat.zero_le _) (by decide), h 1 (Nat.zero_le _) (by decide), h 2 (Nat.zero_le _) (by decide), h 3 (Nat.zero_le _) (by decide), h 4 (Nat.zero_le _) (by decide)⟩
theorem Ic_five {c : Cx} {d : Nat} {x : Str} {p : Pos} {σ : St} {G : List V → (St → Prop) → St → Prop} (h : G (seqV 0 5) (fun _ => True) σ) : Ic c d (.Name x p) (.raw (.type "range")) [.int (5 : Nat)] σ G := Ic_range (n := 5) (Nat.le_of_ble_eq_true rfl) h
section
variable {cd : Value} {R : Fl → Vars → St → Prop} {n nd v a ba : Nat} {l : Env0} {σ : St} {f2 : Nat → Bool} {v0 : V} {ns : List Int} {k : Nat}
theorem k_law7 (C : CxK (mkC b)) (h : ∀ ρ σ, R (.ret (.bool true)) ρ σ) {g : Prg} (G : g.ok) (SL : g.slice) (K2 : g.keep f2) (hl : EnvB l 6) (hz : l.length ≤ 100) (hn : σ[n]? = some (slV g.s0 g.s1 g.s2 g.s3 g.s4)) (hnd : σ[nd]? = some (ndV g)) (hne : n ≠ nd) (hv : σ[v]? = some (.dictS l))
    (ha : σ[a]? = some (.list ((keptI f2 0 5).map .int))) (hb : σ[ba]? = some (bagO ns k)) (hlen : ns.length ≤ 64) (hk : k ≤ 300) (b1 : ba ≠ n) (b2 : ba ≠ nd) (b3 : ba ≠ a) :
    ((wp (mkC b) 40 53) (lawSc cd)).Ss (lawB.drop 7) [(S "script", v0), (S "bag", .loc ba), (S "rounds", .int (g.r : Nat)), (S "values", .loc v), (S "statements", .loc n), (S "name", .str g.nm), (S "needs", .loc nd), (S "slice_alone", .loc a)] σ R := by
  refine Ic_five ⟨trivial, ?_⟩
  refine wCJ (N := σ.length) (J := fun i τ => ∃ k', k' ≤ k + i ∧ τ = σ.set ba (bagO ns k')) (ok := okN g) (fun _ => trivial) (fun i τ ⟨_, _, e⟩ => e ▸ List.length_set) (fun i τ acc B hi ⟨k', hk', e⟩ hB => ?_) (fun v σ Q q => q) 5 0 [] _ σ rfl (fun _ => rfl) ⟨k, Nat.le_refl _, (set_same hb).symm⟩ (Nat.le_of_ble_eq_true rfl) fun f3 τ' hf ⟨k', _, e⟩ => ?_
  · subst e
    refine Gi_loc (app_l (set_miss b2 hnd)) (Int.natCast_nonneg _) (nN_at g hi) ?_ (cast_lt (Nat.le_of_lt hi) (by decide))
    have hk'' : k' ≤ 1000 := by omega
    have hB : ∀ (t : Bool) (τ' : St), ((nN g i).isSome = true → t = true) → (∃ k', k' ≤ k + (i + 1) ∧ τ' = σ.set ba (bagO ns k')) → B t (τ' ++ [.list acc]) := hB
    cases hN : nN g i with
    | some m => exact hB true _ (fun _ => rfl) ⟨k', Nat.le_succ_of_le hk', rfl⟩
    | none =>
      refine drawn C (m := 3) (app_l (set_hit hb)) hlen hk'' (by decide) fun r _ => ?_
      rw [List.set_append_left _ _ (by rw [List.length_set]; exact lt_of hb), List.set_set]
      have fin : ∀ t : Bool, B t (σ.set ba (bagO ns (k' + 1)) ++ [.list acc]) := fun t => hB t _ (by rw [hN]; exact nofun) ⟨k' + 1, Nat.succ_le_succ hk', rfl⟩
      cases hr : decide ((0 : Int) < (r : Int)) with
      | true => exact br_T hr (fin true)
      | false => exact br_F hr (fin false)
  · subst e
    rw [List.nil_append]
    exact k_law8 C h G SL K2 (keep_okN hf) hl hz (app_l (set_miss b1 hn)) (app_l (set_miss b2 hnd)) hne (app_l (set_miss (ne_of_kind hb hv nofun) hv)) (app_l (set_miss b3 ha)) (by have el : (σ.set ba (bagO ns k')).length = σ.length := List.length_set; rw [← el]; exact app_0)
theorem k_law6 (C : CxK (mkC b)) (h : ∀ ρ σ, R (.ret (.bool true)) ρ σ) {g : Prg} (G : g.ok) (SL : g.slice) (hl : EnvB l 6) (hz : l.length ≤ 100) (hn : σ[n]? = some (slV g.s0 g.s1 g.s2 g.s3 g.s4)) (hnd : σ[nd]? = some (ndV g)) (hne : n ≠ nd) (hv : σ[v]? = some (.dictS l))
    (hb : σ[ba]? = some (bagO ns k)) (hlen : ns.length ≤ 64) (hk : k ≤ 300) (b1 : ba ≠ n) (b2 : ba ≠ nd) :
    ((wp (mkC b) 40 54) (lawSc cd)).Ss (lawB.drop 6) [(S "script", v0), (S "bag", .loc ba), (S "rounds", .int (g.r : Nat)), (S "values", .loc v), (S "statements", .loc n), (S "name", .str g.nm), (S "needs", .loc nd)] σ R := by
  refine Ic_five ⟨trivial, ?_⟩
  refine wCJ (N := σ.length) (J := fun i τ => τ = σ) (ok := okN g) (fun _ => trivial) (fun i τ e => e ▸ rfl) (fun i τ acc B hi e hB => ?_) (fun v σ Q q => q) 5 0 [] _ σ rfl (fun _ => rfl) rfl (Nat.le_of_ble_eq_true rfl) fun f2 τ' hf e => ?_
  · subst e
    refine Gi_loc (app_l hnd) (Int.natCast_nonneg _) (nN_at g hi) ?_ (cast_lt (Nat.le_of_lt hi) (by decide))
    have hB : ∀ (t : Bool) (τ' : St), ((nN g i).isSome = true → t = true) → τ' = τ → B t (τ' ++ [.list acc]) := hB
    cases hN : nN g i with
    | some m => exact hB true _ (fun _ => rfl) rfl
    | none => exact hB false _ (by rw [hN]; exact nofun) rfl
  · subst e
    rw [List.nil_append]
    exact k_law7 C h G SL (keep_okN hf) hl hz (app_l hn) (app_l hnd) hne (app_l hv) (app_0 (t := [])) (app_l hb) hlen hk b1 b2 (Nat.ne_of_lt (lt_of hb))
theorem k_law5 (C : CxK (mkC b)) (h : ∀ ρ σ, R (.ret (.bool true)) ρ σ) {s0 s1 s2 s3 s4 : P} {nm : Str} {r : Nat} (h0 : isP s0) (h1 : isP s1) (h2 : isP s2) (h3 : isP s3) (h4 : isP s4) (hnm : nm ∈ ABC) (hr : r ≤ 2) (hl : EnvB l 6) (hz : l.length ≤ 100) (hn : σ[n]? = some (slV s0 s1 s2 s3 s4)) (hv : σ[v]? = some (.dictS l))
    (hb : σ[ba]? = some (bagO ns k)) (hlen : ns.length ≤ 64) (hk : k ≤ 300) (b1 : ba ≠ n) :
    ((wp (mkC b) 40 55) (lawSc cd)).Ss (lawB.drop 5) [(S "script", v0), (S "bag", .loc ba), (S "rounds", .int (r : Nat)), (S "values", .loc v), (S "statements", .loc n), (S "name", .str nm)] σ R := by
  refine k_slice C hn h0 h1 h2 h3 h4 hnm fun n0 n1 n2 n3 n4 SL => ?_
  have SL' := SL
  obtain ⟨l4, a, l3, l2, c, l1, l0, B4, B3, B2, _, _, B1, B0, e4, e3, e2, e1, e0⟩ := SL'
  exact k_law6 C h (g := ⟨s0, s1, s2, s3, s4, n0, n1, n2, n3, n4, nm, r⟩) ⟨h0, h1, h2, h3, h4, e0 ▸ optK_ok B0.nd, e1 ▸ optK_ok B1.nd, e2 ▸ optK_ok B2.nd, e3 ▸ optK_ok B3.nd, e4 ▸ optK_ok B4.nd, hnm, hr⟩ SL hl hz (app_l hn) (app_0 (t := [])) (Nat.ne_of_lt (lt_of hn)) (app_l hv) (app_l hb) hlen hk b1 (Nat.ne_of_lt (lt_of hb))
end
end
end Mine
end
section
open PySem PySem.W PySem.Calls PyProof.Rows
set_option maxRecDepth 100000
set_option maxHeartbeats 4000000
set_option linter.unusedVariables false
namespace Mine
section
variable {b : CB}
section
variable {cd : Value} {R : Fl → Vars → St → Prop} {l : Env0} {v0 : V} {ns : List Int} {k r : Nat} {o1 : SO}
theorem k_law4 (C : CxK (mkC b)) (h : ∀ ρ σ, R (.ret (.bool true)) ρ σ) {s0 s1 s2 s3 s4 : P} (h0 : isP s0) (h1 : isP s1) (h2 : isP s2) (h3 : isP s3) (h4 : isP s4) (hr : r ≤ 2) (hl : EnvB l 6) (hz : l.length ≤ 100) (hlen : ns.length ≤ 64) (hk : k ≤ 200) :
    ((wp (mkC b) 40 56) (lawSc cd)).Ss (lawB.drop 4) [(S "script", v0), (S "bag", .loc 0), (S "rounds", .int (r : Nat)), (S "values", .loc 2), (S "statements", .loc 3)] [bagO ns k, o1, .dictS l, slV s0 s1 s2 s3 s4] R := by
  have fin : ∀ nm ∈ ABC, ((wp (mkC b) 40 55) (lawSc cd)).Ss (lawB.drop 5) [(S "script", v0), (S "bag", .loc 0), (S "rounds", .int (r : Nat)), (S "values", .loc 2), (S "statements", .loc 3), (S "name", .str nm)] [bagO ns (k + 1), o1, .dictS l, slV s0 s1 s2 s3 s4] R := fun nm m =>
    k_law5 C h h0 h1 h2 h3 h4 m hr hl hz rfl rfl rfl hlen (leS hk 1 (Nat.le_of_ble_eq_true rfl)) (by decide)
  refine drawn C (n := 0) (m := 4) rfl hlen (Nat.le_trans hk (Nat.le_of_ble_eq_true rfl)) (by decide) fun i hi => ?_
  rcases lt4 hi with rfl | rfl | rfl | rfl
  · exact fin _ mA
  · exact fin _ mB
  · exact fin _ mC
  · exact fin _ mD
theorem k_law3 (C : CxK (mkC b)) (h : ∀ ρ σ, R (.ret (.bool true)) ρ σ) (hr : r ≤ 2) (hl : EnvB l 6) (hz : l.length ≤ 100) (hlen : ns.length ≤ 64) :
    ((wp (mkC b) 40 57) (lawSc cd)).Ss (lawB.drop 3) [(S "script", v0), (S "bag", .loc 0), (S "rounds", .int (r : Nat)), (S "values", .loc 2)] [bagO ns 5, o1, .dictS l] R := by
  refine Ic_five ⟨trivial, ?_⟩
  refine k_statement C (n := 0) ⟨rfl, hlen⟩ (Nat.le_of_ble_eq_true rfl) fun s0 k0 h0 e0 => ⟨rfl, Nat.le_of_ble_eq_true rfl, trivial, ?_⟩
  refine k_statement C (n := 0) ⟨rfl, hlen⟩ (Nat.le_trans e0 (Nat.le_of_ble_eq_true rfl)) fun s1 k1 h1 e1 => ⟨rfl, Nat.le_of_ble_eq_true rfl, trivial, ?_⟩
  replace e1 : k1 ≤ 29 := Nat.le_trans e1 (Nat.add_le_add_right e0 12)
  refine k_statement C (n := 0) ⟨rfl, hlen⟩ (Nat.le_trans e1 (Nat.le_of_ble_eq_true rfl)) fun s2 k2 h2 e2 => ⟨rfl, Nat.le_of_ble_eq_true rfl, trivial, ?_⟩
  replace e2 : k2 ≤ 41 := Nat.le_trans e2 (Nat.add_le_add_right e1 12)
  refine k_statement C (n := 0) ⟨rfl, hlen⟩ (Nat.le_trans e2 (Nat.le_of_ble_eq_true rfl)) fun s3 k3 h3 e3 => ⟨rfl, Nat.le_of_ble_eq_true rfl, trivial, ?_⟩
  replace e3 : k3 ≤ 53 := Nat.le_trans e3 (Nat.add_le_add_right e2 12)
  refine k_statement C (n := 0) ⟨rfl, hlen⟩ (Nat.le_trans e3 (Nat.le_of_ble_eq_true rfl)) fun s4 k4 h4 e4 => ⟨rfl, Nat.le_of_ble_eq_true rfl, trivial, rfl, ?_⟩
  replace e4 : k4 ≤ 65 := Nat.le_trans e4 (Nat.add_le_add_right e3 12)
  exact k_law4 C h h0 h1 h2 h3 h4 hr hl hz hlen (Nat.le_trans e4 (Nat.le_of_ble_eq_true rfl))
end
theorem Ev_script (C : CxK (mkC b)) {sc : Sc} {d : Nat} {ρ : Vars} {σ : St} {Q : Post} {x : Str} {p0 p pos : Pos} {hi : Expr} {ad : Addr} {xs : List Value} {ns : List Int} {k : Nat} (hL : b.hb.IsList ad xs.toArray) (hI : IntsAre xs ns) (hlen : ns.length ≤ 9000)
    (h : ((wp (mkC b) d 20) sc).E (.Name x p0) ρ σ fun v σ₁ => v = .raw (.ref ad) ∧ ((wp (mkC b) d 20) sc).E hi ρ σ₁ fun u σ₃ => u = .int (k : Nat) ∧ Q (.lst ((ns.take k).map .int)) σ₃) : Ev (mkC b) sc d (.Subscript (.Name x p0) (.Slice none (some hi) none p) pos) ρ σ Q :=
  ⟨EV_SliceScript hL hI hlen (((wp_ok C 20).E h).mono fun v σ₁ q => ⟨q.1, ((wp_ok C 20).E q.2).mono fun u σ₃ q => ⟨k, q.1, rfl, q.2⟩⟩) fun _ _ => rfl⟩
theorem k_law0 (C : CxK (mkC b)) {cd : Value} {ad : Addr} {xs : List Value} {ns : List Int} {R : Fl → Vars → St → Prop} (hL : b.hb.IsList ad xs.toArray) (hI : IntsAre xs ns) (hlen : ns.length ≤ 63)
    (h : ∀ ρ σ, R (.ret (.bool true)) ρ σ) : ((wp (mkC b) 40 60) (lawSc cd)).Ss lawB [(S "script", ref ad)] [] R := by
  refine W_List C ?_
  refine Ev_script C (k := 54) hL hI (Nat.le_trans hlen (Nat.le_of_ble_eq_true rfl)) ⟨rfl, rfl, ?_⟩
  have hlen' : (ns.take 54).length ≤ 64 := Nat.le_trans (List.length_take_le _ _) (Nat.le_of_ble_eq_true rfl)
  generalize ns.take 54 = nz at *
  refine drawn C (n := 0) (k := 0) (m := 3) rfl hlen' (Nat.le_of_ble_eq_true rfl) (by decide) fun r hr => ?_
  refine Iv_str (by decide +kernel) ⟨trivial, ?_⟩
  refine drawn C (n := 0) (k := 1) (m := 7) rfl hlen' (Nat.le_of_ble_eq_true rfl) (by decide) fun r1 hr1 => ⟨rfl, Nat.le_of_ble_eq_true rfl, trivial, ?_⟩
  refine drawn C (n := 0) (k := 2) (m := 7) rfl hlen' (Nat.le_of_ble_eq_true rfl) (by decide) fun r2 hr2 => ⟨rfl, Nat.le_of_ble_eq_true rfl, trivial, ?_⟩
  refine drawn C (n := 0) (k := 3) (m := 7) rfl hlen' (Nat.le_of_ble_eq_true rfl) (by decide) fun r3 hr3 => ⟨rfl, Nat.le_of_ble_eq_true rfl, trivial, ?_⟩
  refine drawn C (n := 0) (k := 4) (m := 7) rfl hlen' (Nat.le_of_ble_eq_true rfl) (by decide) fun r4 hr4 => ⟨rfl, Nat.le_of_ble_eq_true rfl, trivial, rfl, ?_⟩
  refine Ca_dictP (es := [(S "A", .int r1), (S "B", .int r2), (S "C", .int r3), (S "D", .int r4)]) (.inr ⟨_, rfl, .inl rfl⟩) (Nat.le_of_ble_eq_true rfl) ?_
  refine k_law3 C h (l := [(S "A", .int r1), (S "B", .int r2), (S "C", .int r3), (S "D", .int r4)]) (Nat.le_of_lt_succ hr) ?_ (Nat.le_of_ble_eq_true rfl) hlen'
  have le : ∀ {r : Nat}, r < 7 → -((6 : Nat) : Int) ≤ (r : Int) ∧ (r : Int) ≤ (6 : Nat) := fun h => ⟨Int.le_trans (by decide) (Int.natCast_nonneg _), Int.ofNat_le.mpr (Nat.le_of_lt_succ h)⟩
  intro x hx
  rcases mem4 hx with rfl | rfl | rfl | rfl
  · exact ⟨rfl, le hr1⟩
  · exact ⟨rfl, le hr2⟩
  · exact ⟨rfl, le hr3⟩
  · exact ⟨rfl, le hr4⟩
end
end Mine
end
section
open PySem PySem.W PySem.Calls PyProof.Rows
set_option maxRecDepth 100000
set_option maxHeartbeats 4000000
namespace Mine
theorem low_of {w : World} {hb : Heap} (X : (hK w.params).In hb) : ∃ o, hb.get? 2 = some o := ⟨_, X 2 (o2 w.params) (by kernel_rfl)⟩
theorem law_enter0 {c : Cx} {A : Around} {name x : Str} {scope : Scope} {fa L d : Nat} {cd v : Value} {m cm : Str → Option Value} {cells : List (Addr × Obj)} {s : Shared} {body : List Stmt} {E : Value → Shared → Prop} {Q : Flow → Shared → Prop}
    (F : Fr c.hb L s.heap m) (N : News c.hb L s.heap cells) (X0 : CellsAre cm (cellsFrom (L + 1) scope.names []) cells) (hg : s.gens = c.gens) (hos : s.os = c.os) (hk : scope.kind = .function) (r : Room A d)
    (hm : m x = some v) (hx : scope.names.lookup x = some .local)
    (h : EXs c ⟨scope, cd⟩ d body [(x, .raw v)] [] fun fl _ _ => fl = .ret (.bool true))
    (hQ : ∀ s', (∀ b o, c.hb.get? b = some o → s'.heap.get? b = some o) → s'.gens = c.gens → s'.os = c.os → Q (.ret (.bool true)) s') :
    wpAny (model c.prog c.w) A (execs body (envOfC name scope L fa cd)) Q E s := by
  obtain ⟨ab, ap⟩ := cells_above scope.names (L + 1) L [] (by omega) (fun _ m => by cases m) .nil
  have C : Cl L (cellsFrom (L + 1) scope.names []) s.heap cm := Cl.of_news (own := []) (fun p hp => N p hp) X0 ap (fun n k m => ab (n, k) m)
  have hbn : ∀ b, L ≤ b → c.hb.get? b = none := fun b hb => Heap.get?_none_of_le (Nat.le_trans F.above hb)
  have I : Inv c s [] [] := ⟨F.keep, fun a ha => (nomatch ha), .nil, ⟨rfl, fun i o a e1 e2 => (nomatch e1)⟩, hg, hos⟩
  have X : EnvIs ⟨scope, cd⟩ (envOfC name scope L fa cd) := ⟨rfl, rfl, rfl, rfl, hk, fun y hy => cellsFrom_some _ _ _ (.inl hy)⟩
  have FA : FrA c s.heap [] (envOfC name scope L fa cd) [(x, .raw v)] := by
    refine ⟨⟨m, cm, F.ns, fun n k e => C.cell n k e, fun y u hy => ?_⟩, List.not_mem_nil, hbn L (Nat.le_refl _), fun n k e => ?_, fun n n' k e e' => ?_⟩
    · unfold get at hy
      split at hy
      · rename_i e; subst e; cases hy; exact ⟨v, .raw v, .inl ⟨hx, hm⟩⟩
      · cases hy
    · have a := C.above n k (mem_of_lookup e)
      exact ⟨Nat.ne_of_gt a, List.not_mem_nil, hbn k (Nat.le_of_lt a)⟩
    · exact name_of_addr C.apart (mem_of_lookup e) (mem_of_lookup e')
  refine wpAny_mono (h A _ s [] r X I FA) (fun f' s' h' => ?_) fun _ _ x => x.elim
  obtain ⟨fl, ρ', σ', θ', I', _, g', rf, rfl⟩ := h'
  cases rf with
  | ret rv =>
    cases rv
    exact hQ s' I'.keep I'.gens I'.os
end Mine
open Mine in
theorem PySem.Challenge.cw_xm0046_02_holds : PySem.Challenge.rw_xm0046_02.Holds := by
  apply hd
  intro w s₀ s₁ mg mb G Y fa o pm cd doc dV kV ho hdd hcd hD0 hmg hg args vals as hpre hlay hrd hwl hlo
  have X := kIn_of Y
  refine Ground.open G ?_
  intro T B D TE TW
  refine guard_noD D (by decide +kernel) ?_
  clear D hmg
  wrow_args hpre hlay hrd hwl hlo
  refine enter_call ?_
  w_top on
  refine codeAny_mono ?_ (fun _ _ g => GoodW.toG g)
  w_call any ho hdd hcd hD0 T F
  rename_i hL ra w1 r0 hI hr hcond hcond' h₁ tk o1 o2 o3 left left' right N X0
  have low := low_of X
  have CK := fun (g : Array GenState) (os : OsState) => CxK.of (b := ⟨_, _, g, os, low⟩) (CxOk.of X T (gl_ok _) gl_names)
  refine law_enter0 (c := mkC ⟨_, _, _, _, low⟩) (d := 40) (x := S "script") F N X0 rfl rfl rfl room_caller rfl rfl ((wp_ok (CK _ _) 60).Ss (k_law0 (CK _ _) hL hI (by omega) fun ρ σ => rfl)) ?_
  intro s' keep gens os
  refine ⟨.inl ⟨.bool true, .bool true, [], rfl, ?_, .bool true, ?_, fun _ => ⟨.nil, fun a m => by cases m⟩⟩, keep, os, gens.trans (by assumption)⟩
  · refine raisesW_false ?_
    wrow_none_raised
  · kc_post
end
